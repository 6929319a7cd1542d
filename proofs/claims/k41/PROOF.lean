import PyProof.Rows.All
import Wide.All
import OpenK.AllK
import Wide.FinOn
import HandS.ForMost
import HandS.ForExc
import HandS.More
import HandS.Flow
import HandS.IsInst
import HandS.CallSlots
import HandS.Style
import HandS.Strs
import HandS.Wide
import HandS.WideBits
import HandS.Defaults
import HandS.TupAny
import HandS.TupMul
import HandS.Deep
import HandS.RaiseMore
import HandS.FStr
import HandS.NoneIn
import HandS.Exc
import HandS.Zip
import PyProof.CollectIter
import PyProof.TupleIter
import KE.GoesEnumKw
import HandS.Zip0
import HandS.TryOnly
import HandS.ExcOwn
import HandS.HotCalls
import HandS.HeadHook1
import HandS.HeadHook2
import HandS.HeadHook3
import HandS.Ends
import HandS.EndBits
import HandS.Head0
import HandS.Head1
import HandS.Head2
import HandS.HeadEnd
import KE.KStateDown
import HandS.ExcIs
import HandS.ExcInitHot
import HandS.Text
import HandS.Dict
import HandS.SortKw
import KE.DataMinMax
import PyProof.SumAny
import HandS.TupSets
import HandS.SetTxt0
import KE.SortData
import HandS.Flt
import KE.KUnpack
import PyProof.StrWalks
import PyProof.ListStr
import HandS.Replace
import PyProof.Rows.StrNews2
import PyProof.EqKinds
import PyProof.FactsAll.dict
import KE.GoesMore
import KE.GoesZip
import PyProof.StrLawsRepr
import PyProof.Rows.StrDigitsNeg
import PyProof.Rows.StrIntSpec
import PyProof.ReprRoom
import PySem.Challenge.RW_wallseal_k41_what_is_a_term
set_option Elab.async false
set_option autoImplicit false
set_option linter.all false
namespace Ev
abbrev Txt := List Nat
abbrev SZ : Nat := 16777216
inductive D where
  | non | bl (b : Bool) | int (i : Int) | str (x : Txt)
  | tup (xs : List D) | lst (xs : List D) | dic (kvs : List (D × D))
  | ref (n : Nat)
  /-- the law's own argument -/
  | scr (ns : List Int)
  deriving Inhabited
/-- an exception: the class's number, its fields -/
structure Exn where
  c : Nat
  fs : List (Txt × D)
/-- a slot: a thing that stays, or a list that is the slot's own, or a caught exception -/
inductive SV where
  | fz (d : D) | ow (xs : List D) | ex (x : Exn)
abbrev Env := List (Option SV)
/-- what others may change: a list, a dict, an instance (its class's number, its fields) -/
inductive Cell where
  | lst (xs : List D) | dct (kvs : List (D × D)) | ins (cl : Nat) (fs : List (Txt × D))
abbrev Sto := List Cell
inductive Res (α : Type) where
  | ok (a : α) (ρ : Env) (S : Sto)
  | exc (x : Exn) (ρ : Env) (S : Sto)
  | bad
def M (α : Type) : Type := Env → Sto → Res α
/-- a call's end -/
inductive CR where
  | ok (d : D) (S : Sto)
  | okl (xs : List D) (S : Sto)
  | exc (x : Exn) (S : Sto)
  | bad
abbrev Call := Nat → List D → Sto → CR
def Res.bind {α β : Type} (r : Res α) (f : α → M β) : Res β :=
  match r with
  | .ok a ρ S => f a ρ S
  | .exc x ρ S => .exc x ρ S
  | .bad => .bad
def M.bind {α β : Type} (m : M α) (f : α → M β) : M β := fun ρ S => (m ρ S).bind f
def M.pure {α : Type} (a : α) : M α := fun ρ S => .ok a ρ S
def M.bad {α : Type} : M α := fun _ _ => .bad
def M.of {α : Type} (o : Option α) : M α := fun ρ S => match o with | some a => .ok a ρ S | none => .bad
mutual
def D.eqb : D → D → Bool
  | .non, .non => true
  | .bl a, .bl b => a == b
  | .bl a, .int j => (if a then 1 else 0) == j
  | .int i, .bl b => i == (if b then 1 else 0)
  | .int i, .int j => i == j
  | .str x, .str y => x == y
  | .lst xs, .lst ys => D.eqbs xs ys
  | .tup xs, .tup ys => D.eqbs xs ys
  | _, _ => false
def D.eqbs : List D → List D → Bool
  | [], [] => true
  | x :: xs, y :: ys => D.eqb x y && D.eqbs xs ys
  | _, _ => false
end
mutual
/-- None, truths, numbers, texts, lists and tuples of such, to so many deep -/
def D.plain : Nat → D → Bool
  | _, .non => true
  | _, .bl _ => true
  | _, .int _ => true
  | _, .str x => x.all fun k => decide (k < 1114112)
  | n + 1, .tup xs => D.plains n xs
  | n + 1, .lst xs => D.plains n xs
  | _, _ => false
def D.plains : Nat → List D → Bool
  | _, [] => true
  | n, x :: xs => D.plain n x && D.plains n xs
end
/-- neither a tuple nor a list nor a dict -/
def D.flat : D → Bool
  | .non => true | .bl _ => true | .int _ => true | .str _ => true | _ => false
def D.isNon : D → Bool
  | .non => true | _ => false
inductive Bop where | add | sub | mul | mod | fdv | pow | shl
inductive Cop where | eq | ne | lt | le | gt | ge | is_ | nis | in_ | nin
def big64 : Int := 18446744073709551616
def reps {α : Type} (xs : List α) (n : Nat) : List α := (List.replicate n xs).flatten
def bop : Bop → D → D → Option D
  | .add, .int i, .int j => some (.int (i + j))
  | .add, .str x, .str y => if x.length + y.length ≤ SZ then some (.str (x ++ y)) else none
  | .add, .tup xs, .tup ys => if xs.length ≤ SZ ∧ ys.length ≤ SZ ∧ xs.length + ys.length ≤ SZ then some (.tup (xs ++ ys)) else none
  | .add, .lst xs, .lst ys => if xs.length + ys.length ≤ SZ then some (.lst (xs ++ ys)) else none
  | .sub, .int i, .int j => some (.int (i - j))
  | .mul, .int i, .int j => if (-big64 < i ∧ i < big64) ∨ (-big64 < j ∧ j < big64) then some (.int (i * j)) else none
  | .mul, .lst xs, .int k => if -(2 ^ 63) ≤ k ∧ k < 2 ^ 63 ∧ xs.length * k.toNat ≤ SZ then some (.lst (reps xs k.toNat)) else none
  | .mul, .tup xs, .int k => if xs ≠ [] ∧ 1 ≤ k ∧ k ≤ 1000 ∧ xs.length ≤ 1000 then some (.tup (reps xs k.toNat)) else none
  | .mod, .int i, .int j => if 0 < j then some (.int (i % j)) else none
  | .fdv, .int i, .int j => if 0 < j ∧ j < 1073741824 then some (.int (i / j)) else none
  | .pow, .int i, .int j => if 0 ≤ j ∧ j ≤ 1000000 ∧ i.natAbs < 2 ^ 64 then some (.int (i ^ j.toNat)) else none
  | .shl, .int i, .int j => if 0 ≤ j ∧ j ≤ 1000000 ∧ i.natAbs < 2 ^ 64 then some (.int (i * 2 ^ j.toNat)) else none
  | .mul, .str x, .int k => if x ≠ [] ∧ 2 ≤ k ∧ k ≤ 1000 ∧ x.length ≤ 1000 then some (.str (reps x k.toNat)) else none
  | _, _, _ => none
def dget (k : D) : List (D × D) → Option D
  | [] => none
  | (j, v) :: r => if D.eqb j k then some v else dget k r
/-- x == y, where both are plain -/
def eqo : D → D → Option Bool
  | .str x, .str y => some (x == y)
  | .int i, .int j => some (i == j)
  | .bl a, .bl b => some (a == b)
  | .tup xs, .tup [] => some xs.isEmpty
  | x, y => if D.plain 60 x && D.plain 60 y then some (D.eqb x y) else none
def inOk (x : D) (ys : List D) : Bool := (D.flat x && ys.all D.flat) || (D.plain 60 x && D.plains 60 ys)
def cop : Cop → D → D → Option Bool
  | .eq, x, y => eqo x y
  | .ne, x, y => (eqo x y).map (!·)
  | .lt, .int i, .int j => some (decide (i < j))
  | .lt, .str x, .str y => some (decide (x < y))
  | .le, .int i, .int j => some (decide (i ≤ j))
  | .gt, .int i, .int j => some (decide (j < i))
  | .ge, .int i, .int j => some (decide (j ≤ i))
  | .is_, x, .non => some (D.isNon x)
  | .nis, x, .non => some (!D.isNon x)
  | .is_, .bl a, .bl b => some (a == b)
  | .nis, .bl a, .bl b => some (!(a == b))
  | .in_, .str [k], .str y => some (decide (k ∈ y))
  | .nin, .str [k], .str y => some (!decide (k ∈ y))
  | .in_, x, .tup ys => if inOk x ys then some (ys.any fun y => D.eqb y x) else none
  | .nin, x, .tup ys => if inOk x ys then some (!ys.any fun y => D.eqb y x) else none
  | .in_, x, .lst ys => if inOk x ys then some (ys.any fun y => D.eqb y x) else none
  | .nin, x, .lst ys => if inOk x ys then some (!ys.any fun y => D.eqb y x) else none
  | .in_, .str x, .dic (p :: kvs) => some (dget (.str x) (p :: kvs)).isSome
  | .nin, .str x, .dic (p :: kvs) => some (!(dget (.str x) (p :: kvs)).isSome)
  | _, _, _ => none
def truth : D → Option Bool
  | .non => some false
  | .bl b => some b
  | .int i => some (decide (i ≠ 0))
  | .str x => if x.length ≤ SZ then some (!x.isEmpty) else none
  | .tup xs => some (!xs.isEmpty)
  | .lst xs => some (!xs.isEmpty)
  | .dic _ => none
  | .ref _ => none
  | .scr _ => none
/-- the item at a place of either sign -/
def atI {α : Type} (xs : List α) (i : Int) : Option α := if 0 ≤ i then xs[i.toNat]? else if 0 ≤ i + xs.length then xs[(i + xs.length).toNat]? else none
/-- a slice's end, within a length -/
def sIx (n d : Nat) : Option Int → Nat
  | none => d
  | some v => if v < 0 then (v + (n : Int)).toNat else min v.toNat n
def cut {α : Type} (xs : List α) (lo hi : Option Int) : List α := (xs.drop (sIx xs.length 0 lo)).take (sIx xs.length xs.length hi - sIx xs.length 0 lo)
def index : D → D → Option D
  | .scr ns, .int i => (atI ns i).map D.int
  | .tup xs, .int i => atI xs i
  | .lst xs, .int i => atI xs i
  | .str x, .int i => if x.length ≤ SZ then (atI x i).map fun c => .str [c] else none
  | .dic (p :: kvs), .str k => dget (.str k) (p :: kvs)
  | _, _ => none
def slice : D → Option Int → Option Int → Option D
  | .tup xs, lo, hi => some (.tup (cut xs lo hi))
  | .lst xs, lo, hi => some (.lst (cut xs lo hi))
  | .str x, lo, hi => if x.length ≤ SZ then some (.str (cut x lo hi)) else none
  | _, _, _ => none
def blsOf : List D → Option (List Bool)
  | [] => some []
  | .bl b :: r => (blsOf r).map (b :: ·)
  | _ :: _ => none
def intsOf : List D → Option (List Int)
  | [] => some []
  | .int b :: r => (intsOf r).map (b :: ·)
  | _ :: _ => none
def txtsOf : List D → Option (List Txt)
  | [] => some []
  | .str b :: r => (txtsOf r).map (b :: ·)
  | _ :: _ => none
def intTxt (i : Int) : Txt := (toString i).toList.map Char.toNat
def joinT (sep : Txt) : List Txt → Txt
  | [] => []
  | [x] => x
  | x :: y :: r => x ++ sep ++ joinT sep (y :: r)
def joinLen (n : Nat) : List Txt → Nat
  | [] => 0
  | x :: r => x.length + n + joinLen n r
/-- the first place -/
def findD (x : D) : List D → Nat → Option Nat
  | [], _ => none
  | y :: r, k => if D.eqb y x then some k else findD x r (k + 1)
inductive Bi where
  | len | abs | max2 | min2 | max1 | all | any | tuple | str | int | divmod | sum | repr | list
/-- built-ins that make no list -/
def bip (shown : D → Option Txt) : Bi → List D → Option D
  | .len, [.str x] => if x.length ≤ SZ then some (.int x.length) else none
  | .len, [.tup xs] => some (.int xs.length)
  | .len, [.lst xs] => some (.int xs.length)
  | .len, [.scr ns] => some (.int ns.length)
  | .abs, [.int i] => some (.int (if i < 0 then -i else i))
  | .max2, [.int i, .int j] => some (.int (if j > i then j else i))
  | .min2, [.int i, .int j] => some (.int (if j < i then j else i))
  | .max1, [.lst xs] => (intsOf xs).bind fun | [] => none | i :: r => some (.int (r.foldl max i))
  | .all, [.lst xs] => (blsOf xs).map fun bs => .bl (bs.all id)
  | .any, [.lst xs] => (blsOf xs).map fun bs => .bl (bs.any id)
  | .tuple, [.tup xs] => some (.tup xs)
  | .tuple, [.lst xs] => some (.tup xs)
  | .str, [.int i] => if i.natAbs.log2 < 1920 then some (.str (intTxt i)) else none
  | .str, [.str x] => some (.str x)
  | .int, [.int i] => some (.int i)
  | .int, [.bl b] => some (.int (if b then 1 else 0))
  | .divmod, [.int i, .int j] => if 0 < j ∧ j.natAbs.log2 < 9000 then some (.tup [.int (i / j), .int (i % j)]) else none
  | .sum, [.lst xs] => (intsOf xs).map fun is => .int is.sum
  | .repr, [x] => (shown x).map .str
  | _, _ => none
inductive Mt where
  | join | index | count | replace
def mtp : Mt → D → List D → Option D
  | .join, .str sep, [.lst xs] => (txtsOf xs).bind fun (ts : List Txt) => if joinLen sep.length ts ≤ SZ then some (.str (joinT sep ts)) else none
  | .index, .lst xs, [x] => if D.flat x && xs.all D.flat then (findD x xs 0).map (fun (k : Nat) => D.int (k : Int)) else none
  | .index, .tup xs, [.str x] => (txtsOf xs).bind fun _ => (findD (.str x) xs 0).map (fun (k : Nat) => D.int (k : Int))
  | .count, .lst xs, [x] => if D.plain 60 x && D.plain 60 (.lst xs) then some (.int (xs.countP fun y => D.eqb y x)) else none
  | _, _, _ => none
/-- the built-in types that isinstance is asked of -/
inductive Ty where | str | tuple | list | int | bool | dict
def isTy : Ty → D → Option Bool
  | _, .ref _ => none
  | _, .scr _ => none
  | .str, .str _ => some true
  | .tuple, .tup _ => some true
  | .list, .lst _ => some true
  | .int, .int _ => some true
  | .int, .bl _ => some true
  | .bool, .bl _ => some true
  | .dict, .dic _ => some true
  | _, _ => some false
mutual
inductive IE where
  | var (i : Nat)
  | cst (d : D)
  /-- a module's constant: its name in the text, its value -/
  | glo (nm : Txt) (d : D)
  | tup (es : IL) | lst (es : IL) | dct0
  /-- a list that others may change: a cell -/
  | cel (es : IL)
  | bin (o : Bop) (a b : IE) | neg (a : IE)
  | cmp (o : Cop) (a b : IE) | chn (o p : Cop) (a b c : IE)
  | andS (es : IL) | orS (es : IL) | notE (a : IE)
  | ite (t a b : IE)
  | idx (a i : IE) | slc (a : IE) (lo hi : Option IE) | revT (a : IE)
  | call (f : Nat) (es : IL)
  /-- a call by names: positional values, named values; of each parameter: the place of its value, or a default -/
  | calk (f : Nat) (es ks : IL) (src : List (Sum Nat D))
  | bi (b : Bi) (es : IL)
  | mt (m : Mt) (o : IE) (es : IL)
  | isi (a : IE) (ts : List Ty)
  /-- isinstance of a caught exception's name, against classes of one's own, or a built-in one -/
  | isx (i : Nat) (cs : List Nat)
  | comp (own : List Nat) (elt : IE) (tg : IT) (it : II) (cs : IL)
  | fstr (es : IL)
inductive IL where
  | nil | cons (e : IE) (es : IL)
/-- targets -/
inductive IT where
  | nm (i : Nat) | tp (ts : ITs) | ix (o i : IE)
inductive ITs where
  | nil | cons (t : IT) (ts : ITs) | star (i : Nat) (ts : ITs)
/-- what is walked -/
inductive II where
  | sq (e : IE) | rng (e : IE) | rng2 (a b : IE) | zip (strict : Bool) (a b : IE) | enum (e : IE)
end
mutual
inductive IS where
  | asg (t : IT) (e : IE)
  /-- name = a new list, the slot's own from then on -/
  | own (i : Nat) (e : IE)
  | app (i : Nat) (e : IE)
  | aug (i : Nat) (o : Bop) (e : IE)
  | ex (e : IE)
  | ret (e : IE) | retN
  | ifS (t : IE) (a b : ISs)
  | forS (t : IT) (it : II) (b : ISs)
  | whl (t : IE) (b : ISs)
  | brk | cnt | pas
  | rai (c : Nat) (es : IL)
  | tri (b : ISs) (hs : IHs)
inductive ISs where
  | nil | cons (s : IS) (r : ISs)
inductive IHs where
  | nil | cons (cs : List Nat) (nm : Option Nat) (b : ISs) (r : IHs)
end
inductive Flow where
  | nx | br | ct | rt (d : D) | rl (xs : List D)
/-- what stands around: calls by number; repr; which class is (under) which; the most turns of a while -/
structure Prm where
  call : Call
  shown : D → Option Txt
  sub : Nat → Nat → Bool
  flds : Nat → List Txt
  fuel : Nat
def mVar (i : Nat) : M D := fun ρ S => match ρ[i]? with
  | some (some (.fz d)) => .ok d ρ S
  | some (some (.ow xs)) => .ok (.lst xs) (ρ.set i (some (.fz (.lst xs)))) S
  | _ => .bad
/-- a name looked at only -/
def mBor (i : Nat) : M D := fun ρ S => match ρ[i]? with
  | some (some (.fz d)) => .ok d ρ S
  | some (some (.ow xs)) => .ok (.lst xs) ρ S
  | _ => .bad
def mSet (i : Nat) (d : D) : M Unit := fun ρ S => if i < ρ.length then .ok () (ρ.set i (some (.fz d))) S else .bad
def mOwn (i : Nat) (xs : List D) : M Unit := fun ρ S => if i < ρ.length then .ok () (ρ.set i (some (.ow xs))) S else .bad
def mCall (P : Prm) (f : Nat) (ds : List D) : M D := fun ρ S => match P.call f ds S with
  | .ok d S' => .ok d ρ S'
  | .okl xs S' => .ok (.lst xs) ρ S'
  | .exc x S' => .exc x ρ S'
  | .bad => .bad
def mCell (ds : List D) : M D := fun ρ S => .ok (.ref S.length) ρ (S ++ [.lst ds])
def mTruth (d : D) : M Bool := M.of (truth d)
def mIdx (x i : D) : M D := fun ρ S => match x with
  | .ref n => (match S[n]?, i with
    | some (.lst xs), .int k => (match atI xs k with | some d => .ok d ρ S | none => .bad)
    | _, _ => .bad)
  | _ => M.of (index x i) ρ S
def mPut (x i v : D) : M Unit := fun ρ S => match x, i with
  | .ref n, .int k => (match S[n]? with
    | some (.lst xs) => if 0 ≤ k ∧ k.toNat < xs.length then .ok () ρ (S.set n (.lst (xs.set k.toNat v))) else .bad
    | _ => .bad)
  | _, _ => .bad
def mApp (i : Nat) (d : D) : M Unit := fun ρ S => match ρ[i]? with
  | some (some (.ow xs)) => if xs.length < SZ then .ok () (ρ.set i (some (.ow (xs ++ [d])))) S else .bad
  | _ => .bad
def mIsx (P : Prm) (i : Nat) (cs : List Nat) : M D := fun ρ S => match ρ[i]? with
  | some (some (.ex x)) => .ok (.bl (cs.any (P.sub x.c))) ρ S
  | _ => .bad
def mList (d : D) : M (List D) := match d with
  | .tup xs => M.pure xs
  | .lst xs => M.pure xs
  | .str x => if x.length ≤ SZ then M.pure (x.map fun c => .str [c]) else M.bad
  | _ => M.bad
def srcOf (vs : List D) : List (Sum Nat D) → Option (List D)
  | [] => some []
  | .inl i :: r => match vs[i]?, srcOf vs r with | some v, some l => some (v :: l) | _, _ => none
  | .inr d :: r => match srcOf vs r with | some l => some (d :: l) | none => none
def isTys (ts : List Ty) (d : D) : Option Bool := match ts with
  | [] => some false
  | t :: r => match isTy t d, isTys r d with | some a, some b => some (a || b) | _, _ => none
def zipD : List D → List D → List D
  | x :: xs, y :: ys => .tup [x, y] :: zipD xs ys
  | _, _ => []
def enumD (k : Nat) : List D → List D
  | [] => []
  | x :: xs => .tup [.int k, x] :: enumD (k + 1) xs
def rngD (lo : Int) : Nat → List D
  | 0 => []
  | n + 1 => .int lo :: rngD (lo + 1) n
/-- the pieces of an f-string -/
def pieces : List D → Option Txt
  | [] => some []
  | .str x :: r => (pieces r).map (x ++ ·)
  | .int i :: r => if i.natAbs.log2 < 1920 then (pieces r).map (intTxt i ++ ·) else none
  | _ :: _ => none
/-- a loop: what a turn binds, the body -/
def loopM (asg : D → M Unit) (body : M Flow) : List D → M Flow
  | [] => M.pure .nx
  | d :: r => M.bind (asg d) fun _ => M.bind body fun f => match f with
    | .nx => loopM asg body r
    | .ct => loopM asg body r
    | .br => M.pure .nx
    | f => M.pure f
def compM (asg : D → M Unit) (cond : M Bool) (elt : M D) : List D → M (List D)
  | [] => M.pure []
  | d :: r => M.bind (asg d) fun _ => M.bind cond fun b => if b then M.bind elt fun v => M.bind (compM asg cond elt r) fun vs => M.pure (v :: vs) else compM asg cond elt r
def whileM (test : M Bool) (body : M Flow) : Nat → M Flow
  | 0 => M.bad
  | n + 1 => M.bind test fun b => if b then M.bind body fun f => match f with
    | .nx => whileM test body n
    | .ct => whileM test body n
    | .br => M.pure .nx
    | f => M.pure f
    else M.pure .nx
def wipeE (ρ : Env) : List Nat → Env
  | [] => ρ
  | v :: vs => (wipeE ρ vs).set v none
/-- behind a block: its own names are what they were, where that stays -/
def backE (ρ₀ ρ : Env) : List Nat → Env
  | [] => ρ
  | v :: vs => (backE ρ₀ ρ vs).set v (match ρ₀[v]? with | some (some (.fz d)) => some (.fz d) | _ => none)
/-- a block with names of its own, which no exception leaves -/
def blockM {α : Type} (own : List Nat) (m : M α) : M α := fun ρ S => match m (wipeE ρ own) S with
  | .ok a ρ' S' => .ok a (backE ρ ρ' own) S'
  | _ => .bad
def isSimple : IE → Bool
  | .var _ => true
  | .cst _ => true
  | .neg (.cst _) => true
  | _ => false
def isSimpleO : Option IE → Bool
  | none => true
  | some e => isSimple e
def isGlo : IE → Bool
  | .glo _ _ => true
  | _ => false
/-- whose method it is -/
def recvOk : Mt → Bool → D → Bool
  | .join, _, .str _ => true
  | .replace, _, .str _ => true
  | .index, false, .lst _ => true
  | .index, true, .tup _ => true
  | .count, false, .lst _ => true
  | _, _, _ => false
/-- what is evaluated without a look at names -/
def isStat : IE → Bool
  | .cst _ => true
  | .glo _ _ => true
  | .lst .nil => true
  | .dct0 => true
  | _ => false
section
variable (P : Prm)
mutual
def ev : IE → M D
  | .var i => mVar i
  | .cst d => M.pure d
  | .glo _ d => M.pure d
  | .tup es => M.bind (evs es) fun ds => if ds.length ≤ SZ then M.pure (.tup ds) else M.bad
  | .lst es => M.bind (evs es) fun ds => if ds.length ≤ SZ then M.pure (.lst ds) else M.bad
  | .dct0 => M.pure (.dic [])
  | .cel es => M.bind (evs es) fun ds => if ds.length ≤ SZ then mCell ds else M.bad
  | .bin o a b => M.bind (ev a) fun x => M.bind (ev b) fun y => M.of (bop o x y)
  | .neg a => M.bind (ev a) fun x => match x with | .int i => M.pure (.int (-i)) | _ => M.bad
  | .cmp o a b => M.bind (if isStat b then evB a else ev a) fun x => M.bind (evB b) fun y => M.bind (M.of (cop o x y)) fun c => M.pure (.bl c)
  | .chn o p a b c => M.bind (ev a) fun x => M.bind (ev b) fun y => M.bind (M.of (cop o x y)) fun k => if k then M.bind (ev c) fun z => M.bind (M.of (cop p y z)) fun l => M.pure (.bl l) else M.pure (.bl false)
  | .andS es => evAnd es
  | .orS es => evOr es
  | .notE a => M.bind (ev a) fun x => M.bind (mTruth x) fun c => M.pure (.bl (!c))
  | .ite t a b => M.bind (ev t) fun x => M.bind (mTruth x) fun c => if c then ev a else ev b
  | .idx a i => M.bind (if isSimple i then evB a else ev a) fun x => M.bind (ev i) fun k => mIdx x k
  | .slc a lo hi => M.bind (if isSimpleO lo && isSimpleO hi then evB a else ev a) fun x => M.bind (evO lo) fun l => M.bind (evO hi) fun h => M.of (slice x l h)
  | .revT a => M.bind (ev a) fun x => match x with | .tup xs => M.pure (.tup xs.reverse) | .lst xs => M.pure (.lst xs.reverse) | _ => M.bad
  | .call f es => M.bind (evs es) fun ds => mCall P f ds
  | .calk f es ks src => M.bind (evs es) fun ds => M.bind (evs ks) fun ks => M.bind (M.of (srcOf (ds ++ ks) src)) fun l => mCall P f l
  | .bi b es => (match b, es with
    | .len, .cons e .nil => M.bind (evB e) fun x => M.of (bip P.shown .len [x])
    | .list, es => M.bind (evs es) fun ds => (match ds with | [d] => M.bind (mList d) fun xs => M.pure (.lst xs) | _ => M.bad)
    | b, es => M.bind (evs es) fun ds => M.of (bip P.shown b ds))
  | .mt m o es => M.bind (ev o) fun x => if recvOk m (isGlo o) x then M.bind (evs es) fun ds => M.of (mtp m x ds) else M.bad
  | .isi a ts => M.bind (evB a) fun x => M.bind (M.of (isTys ts x)) fun c => M.pure (.bl c)
  | .isx i cs => mIsx P i cs
  | .comp own elt tg it cs => M.bind (evI it) fun ds => blockM own (M.bind (compM (evT tg) (evC cs) (ev elt) ds) fun vs => if vs.length ≤ SZ then M.pure (.lst vs) else M.bad)
  | .fstr es => M.bind (evs es) fun ds => M.of ((pieces ds).bind fun x => if x.length ≤ SZ then some (.str x) else none)
/-- looked at only, where it's a name -/
def evB : IE → M D
  | .var i => mBor i
  | e => ev e
def evs : IL → M (List D)
  | .nil => M.pure []
  | .cons e es => M.bind (ev e) fun d => M.bind (evs es) fun ds => M.pure (d :: ds)
def evAnd : IL → M D
  | .nil => M.bad
  | .cons e .nil => ev e
  | .cons e es => M.bind (ev e) fun x => M.bind (mTruth x) fun c => if c then evAnd es else M.pure x
def evOr : IL → M D
  | .nil => M.bad
  | .cons e .nil => ev e
  | .cons e es => M.bind (ev e) fun x => M.bind (mTruth x) fun c => if c then M.pure x else evOr es
def evO : Option IE → M (Option Int)
  | none => M.pure none
  | some e => M.bind (ev e) fun d => match d with | .int i => M.pure (some i) | _ => M.bad
/-- the tests of a comprehension -/
def evC : IL → M Bool
  | .nil => M.pure true
  | .cons e es => M.bind (ev e) fun x => M.bind (mTruth x) fun c => if c then evC es else M.pure false
def evT : IT → D → M Unit
  | .nm i, d => mSet i d
  | .tp ts, d => (match d with | .tup xs => evTs ts xs | .lst xs => evTs ts xs | _ => M.bad)
  | .ix o i, d => M.bind (ev o) fun x => M.bind (ev i) fun k => mPut x k d
def evTs : ITs → List D → M Unit
  | .nil, xs => (match xs with | [] => M.pure () | _ :: _ => M.bad)
  | .cons t ts, xs => (match xs with | [] => M.bad | x :: r => M.bind (evT t x) fun _ => evTs ts r)
  | .star i ts, xs => M.bind (mSet i (.lst xs)) fun _ => evTs ts []
def evI : II → M (List D)
  | .sq e => M.bind (ev e) fun d => mList d
  | .rng e => M.bind (ev e) fun d => (match d with | .int n => if -(2 ^ 62) ≤ n ∧ n < 2 ^ 62 then M.pure (rngD 0 n.toNat) else M.bad | _ => M.bad)
  | .rng2 a b => M.bind (ev a) fun d => M.bind (ev b) fun e => (match d, e with | .int m, .int n => if -(2 ^ 62) ≤ m ∧ m < 2 ^ 62 ∧ -(2 ^ 62) ≤ n ∧ n < 2 ^ 62 then M.pure (rngD m (n - m).toNat) else M.bad | _, _ => M.bad)
  | .zip s a b => M.bind (ev a) fun d => M.bind (ev b) fun e => M.bind (mList d) fun xs => M.bind (mList e) fun ys => if xs.length = ys.length ∨ s = false then M.pure (zipD xs ys) else M.bad
  | .enum a => M.bind (ev a) fun d => M.bind (mList d) fun xs => M.pure (enumD 0 xs)
end
def mLst (d : D) : M (List D) := match d with | .tup xs => M.pure xs | .lst xs => M.pure xs | _ => M.bad
def asLst (d : D) : M (List D) := match d with | .lst xs => M.pure xs | _ => M.bad
end
/-- a def: how many parameters, how many slots, the body -/
structure FDef where
  np : Nat
  ns : Nat
  body : ISs
/-- the program: defs by number; what is as in Prm -/
structure Tab where
  fn : Nat → Option FDef
  shown : D → Option Txt
  sub : Nat → Nat → Bool
  flds : Nat → List Txt
  fuel : Nat
def Tab.prm (T : Tab) (c : Call) : Prm := { call := c, shown := T.shown, sub := T.sub, flds := T.flds, fuel := T.fuel }
end Ev
set_option Elab.async false
set_option linter.all false
set_option autoImplicit false
set_option maxRecDepth 100000
namespace Ev
open PySem PySem.Spec PyProof.Rows L2
abbrev St := L2.St
def toStr (x : Txt) : Str := ⟨x.toArray⟩
/-- what stays through the law: the written part, the world, the classes' addresses -/
structure Kx where
  K : PySem.W.Frag
  w : World
  ca : Nat → Option Addr
def FlatV : D → V → Prop
  | .non, v => v = .non
  | .bl b, v => v = .bl b
  | .int i, v => v = .int i
  | .str x, v => v = .str (toStr x)
  | _, _ => False
/-- a written dict with texts as keys -/
def WDict (c : Kx) (kvs : List (D × D)) (a : Addr) : Prop :=
  (∃ es n, L2.KDict c.K c.w a es n) ∧ ∀ z : Txt, ∃ r, PySem.W.nsIn c.K a (toStr z) = some r ∧ (match dget (.str z) kvs with | none => r = none | some d => ∃ u v0, r = some u ∧ RelV v0 u ∧ FlatV d v0)
section
variable (c : Kx) (F : Hp) (m : List Addr)
mutual
def Rep : D → V → Prop
  | .non, v => v = .non
  | .bl b, v => v = .bl b
  | .int i, v => v = .int i
  | .str x, v => v = .str (toStr x)
  | .tup xs, v => ∃ a vs, v = .ref a ∧ SqT c.K F a vs ∧ RepL xs vs
  | .lst xs, v => ∃ a vs, v = .ref a ∧ F a = some (.lst vs) ∧ RepL xs vs
  | .dic kvs, v => ∃ a, v = .ref a ∧ ((kvs = [] ∧ F a = some (.dK [])) ∨ (kvs ≠ [] ∧ WDict c kvs a))
  | .ref n, v => ∃ a, m[n]? = some a ∧ v = .ref a
  | .scr ns, v => ∃ a, v = .ref a ∧ SqL c.K F a (ns.map V.int)
def RepL : List D → List V → Prop
  | [], vs => vs = []
  | x :: xs, vs => ∃ v r, vs = v :: r ∧ Rep x v ∧ RepL xs r
end
end
/-- more is tracked, more cells there are -/
structure Ext (F : Hp) (m : List Addr) (F' : Hp) (m' : List Addr) : Prop where
  f : ∀ a o, F a = some o → F' a = some o
  m : ∃ r, m' = m ++ r
theorem Ext.refl {F : Hp} {m : List Addr} : Ext F m F m := ⟨fun _ _ h => h, [], by simp⟩
theorem Ext.trans {F F1 F2 : Hp} {m m1 m2 : List Addr} (a : Ext F m F1 m1) (b : Ext F1 m1 F2 m2) : Ext F m F2 m2 := by
  refine ⟨fun x o h => b.f x o (a.f x o h), ?_⟩
  obtain ⟨r, rfl⟩ := a.m
  obtain ⟨s, rfl⟩ := b.m
  exact ⟨r ++ s, by simp⟩
theorem Ext.at_ {F F' : Hp} {m m' : List Addr} (e : Ext F m F' m') {n : Nat} {a : Addr} (h : m[n]? = some a) : m'[n]? = some a := by
  obtain ⟨r, rfl⟩ := e.m
  have hn : n < m.length := (List.getElem?_eq_some_iff.mp h).1
  rw [List.getElem?_append_left hn]
  exact h
theorem Ext.sqT {K : PySem.W.Frag} {F F' : Hp} {m m' : List Addr} (e : Ext F m F' m') {a : Addr} {vs : List V} (h : SqT K F a vs) : SqT K F' a vs := by
  rcases h with (h | ⟨o, h⟩) | h
  · exact .inl (.inl (e.f _ _ h))
  · exact .inl (.inr ⟨o, e.f _ _ h⟩)
  · exact .inr h
theorem Ext.sqL {K : PySem.W.Frag} {F F' : Hp} {m m' : List Addr} (e : Ext F m F' m') {a : Addr} {vs : List V} (h : SqL K F a vs) : SqL K F' a vs := by
  rcases h with (h | ⟨o, h⟩) | h
  · exact .inl (.inl (e.f _ _ h))
  · exact .inl (.inr ⟨o, e.f _ _ h⟩)
  · exact .inr h
section
variable {c : Kx} {F F' : Hp} {m m' : List Addr}
mutual
theorem Rep.ext (e : Ext F m F' m') : ∀ {d : D} {v : V}, Rep c F m d v → Rep c F' m' d v
  | .non, _, h => by simpa [Rep] using h
  | .bl _, _, h => by simpa [Rep] using h
  | .int _, _, h => by simpa [Rep] using h
  | .str _, _, h => by simpa [Rep] using h
  | .tup xs, v, h => by
    obtain ⟨a, vs, e1, h1, h2⟩ := (show ∃ a vs, v = .ref a ∧ SqT c.K F a vs ∧ RepL c F m xs vs by simpa [Rep] using h)
    have q := RepL.ext e h2
    simp only [Rep]
    exact ⟨a, vs, e1, e.sqT h1, q⟩
  | .lst xs, v, h => by
    obtain ⟨a, vs, e1, h1, h2⟩ := (show ∃ a vs, v = .ref a ∧ F a = some (.lst vs) ∧ RepL c F m xs vs by simpa [Rep] using h)
    have q := RepL.ext e h2
    simp only [Rep]
    exact ⟨a, vs, e1, e.f _ _ h1, q⟩
  | .dic kvs, v, h => by
    simp only [Rep] at h ⊢
    obtain ⟨a, e1, h1⟩ := h
    refine ⟨a, e1, ?_⟩
    rcases h1 with ⟨h1, h2⟩ | h1
    · exact .inl ⟨h1, e.f _ _ h2⟩
    · exact .inr h1
  | .ref n, v, h => by
    simp only [Rep] at h ⊢
    obtain ⟨a, h1, h2⟩ := h
    exact ⟨a, e.at_ h1, h2⟩
  | .scr ns, v, h => by
    simp only [Rep] at h ⊢
    obtain ⟨a, h1, h2⟩ := h
    exact ⟨a, h1, e.sqL h2⟩
theorem RepL.ext (e : Ext F m F' m') : ∀ {xs : List D} {vs : List V}, RepL c F m xs vs → RepL c F' m' xs vs
  | [], _, h => by simpa [RepL] using h
  | x :: xs, vs, h => by
    obtain ⟨v, r, e1, h1, h2⟩ := (show ∃ v r, vs = v :: r ∧ Rep c F m x v ∧ RepL c F m xs r by simpa [RepL] using h)
    have q1 := Rep.ext e h1
    have q2 := RepL.ext e h2
    simp only [RepL]
    exact ⟨v, r, e1, q1, q2⟩
end
end
/-- the ghost: what is protected, what stays, the cells' addresses, the slots, the cells -/
structure Gs where
  G : Hp
  F : Hp
  m : List Addr
  ρ : Env
  S : Sto
def keyOf : D → Option L2.Key
  | .str x => some (.inr (toStr x))
  | .int i => some (.inl i)
  | _ => none
def RepKv (c : Kx) (F : Hp) (m : List Addr) : List (D × D) → List (L2.Key × V) → Prop
  | [], kk => kk = []
  | (k, d) :: r, kk => ∃ key v t, keyOf k = some key ∧ kk = (key, v) :: t ∧ Rep c F m d v ∧ RepKv c F m r t
def RepFs (c : Kx) (F : Hp) (m : List Addr) : List (Txt × D) → List (Str × V) → Prop
  | [], fs => fs = []
  | (f, d) :: r, fs => ∃ v t, fs = (toStr f, v) :: t ∧ Rep c F m d v ∧ RepFs c F m r t
def CellR (c : Kx) (F : Hp) (m : List Addr) : Cell → Option HO → Prop
  | .lst xs, o => ∃ vs, o = some (.lst vs) ∧ RepL c F m xs vs
  | .dct kvs, o => ∃ kk, o = some (.dK kk) ∧ RepKv c F m kvs kk
  | .ins cl fs, o => ∃ C dx vs, cl ≠ 0 ∧ c.ca cl = some C ∧ o = some (.ins C dx vs) ∧ RepFs c F m fs vs
section
variable {c : Kx} {F F' : Hp} {m m' : List Addr}
theorem RepKv.ext (e : Ext F m F' m') : ∀ {kvs : List (D × D)} {kk : List (L2.Key × V)}, RepKv c F m kvs kk → RepKv c F' m' kvs kk
  | [], _, h => h
  | (k, d) :: r, kk, ⟨key, v, t, h1, h2, h3, h4⟩ => ⟨key, v, t, h1, h2, h3.ext e, RepKv.ext e h4⟩
theorem RepFs.ext (e : Ext F m F' m') : ∀ {fs : List (Txt × D)} {vs : List (Str × V)}, RepFs c F m fs vs → RepFs c F' m' fs vs
  | [], _, h => h
  | (f, d) :: r, vs, ⟨v, t, h2, h3, h4⟩ => ⟨v, t, h2, h3.ext e, RepFs.ext e h4⟩
theorem CellR.ext (e : Ext F m F' m') {x : Cell} {o : Option HO} (h : CellR c F m x o) : CellR c F' m' x o := by
  cases x with
  | lst xs => obtain ⟨vs, h1, h2⟩ := h; exact ⟨vs, h1, h2.ext e⟩
  | dct kvs => obtain ⟨kk, h1, h2⟩ := h; exact ⟨kk, h1, h2.ext e⟩
  | ins cl fs => obtain ⟨C, dx, vs, h1, h2, h3, h4⟩ := h; exact ⟨C, dx, vs, h1, h2, h3, h4.ext e⟩
theorem CellR.some_ {x : Cell} {o : Option HO} (h : CellR c F m x o) : ∃ u, o = some u := by
  cases x with
  | lst xs => obtain ⟨vs, h1, _⟩ := h; exact ⟨_, h1⟩
  | dct kvs => obtain ⟨kk, h1, _⟩ := h; exact ⟨_, h1⟩
  | ins cl fs => obtain ⟨C, dx, vs, _, _, h3, _⟩ := h; exact ⟨_, h3⟩
end
structure RelB (c : Kx) (G F : Hp) (m : List Addr) (S : Sto) (H : Hp) : Prop where
  fh : ∀ a o, F a = some o → H a = some o
  gh : ∀ a o, G a = some o → H a = some o
  fg : ∀ a o, F a = some o → G a = none
  ml : m.length = S.length
  md : m.Nodup
  cl : ∀ (n : Nat) (x : Cell) (a : Addr), S[n]? = some x → m[n]? = some a → F a = none ∧ G a = none ∧ CellR c F m x (H a)
structure Rel (c : Kx) (g : Gs) (σ : St) (H : Hp) : Prop where
  b : RelB c g.G g.F g.m g.S H
  ln : g.ρ.length = σ.length
  sf : ∀ (i : Nat) (d : D), g.ρ[i]? = some (some (.fz d)) → ∃ v, σ[i]? = some (some v) ∧ Rep c g.F g.m d v
  so : ∀ (i : Nat) (xs : List D), g.ρ[i]? = some (some (.ow xs)) → ∃ a vs, σ[i]? = some (some (.ref a)) ∧ H a = some (.lst vs) ∧ RepL c g.F g.m xs vs ∧ g.F a = none ∧ g.G a = none ∧ a ∉ g.m
  sd : ∀ (i j : Nat) (xs ys : List D) (a : Addr), i ≠ j → g.ρ[i]? = some (some (.ow xs)) → g.ρ[j]? = some (some (.ow ys)) → σ[i]? = some (some (.ref a)) → σ[j]? ≠ some (some (.ref a))
  /-- a caught exception: it stands at the address that the context tells under 0 -/
  sx : ∀ (i : Nat) (x : Exn), g.ρ[i]? = some (some (.ex x)) → ∃ a, c.ca 0 = some a ∧ σ[i]? = some (some (.ref a))
structure GExt (g g' : Gs) : Prop where
  e : Ext g.F g.m g'.F g'.m
  pr : g'.G = g.G
theorem GExt.refl {g : Gs} : GExt g g := ⟨.refl, rfl⟩
theorem GExt.trans {g g1 g2 : Gs} (a : GExt g g1) (b : GExt g1 g2) : GExt g g2 := ⟨a.e.trans b.e, b.pr.trans a.pr⟩
section
variable {c : Kx} {g : Gs} {σ : St} {H H' : Hp}
/-- an address that is not tracked at all -/
theorem Rel.fresh (R : Rel c g σ H) {a : Addr} (h : H a = none) : g.F a = none ∧ g.G a = none ∧ a ∉ g.m := by
  refine ⟨?_, ?_, fun hm => ?_⟩
  · cases q : g.F a with
    | none => rfl
    | some o => have := R.b.fh _ _ q; rw [h] at this; cases this
  · cases q : g.G a with
    | none => rfl
    | some o => have := R.b.gh _ _ q; rw [h] at this; cases this
  · obtain ⟨n, hn, e⟩ := List.getElem_of_mem hm
    have hs : n < g.S.length := by rw [← R.b.ml]; exact hn
    obtain ⟨_, _, q⟩ := R.b.cl n g.S[n] a (by simp [hs]) (by rw [List.getElem?_eq_getElem hn, e])
    obtain ⟨u, z⟩ := q.some_
    rw [h] at z; cases z
/-- an own list's address is tracked -/
theorem Rel.ownAt (R : Rel c g σ H) {i : Nat} {xs : List D} {a : Addr} (h : g.ρ[i]? = some (some (.ow xs))) (e : σ[i]? = some (some (.ref a))) : ∃ vs, H a = some (.lst vs) ∧ RepL c g.F g.m xs vs ∧ g.F a = none ∧ g.G a = none ∧ a ∉ g.m := by
  obtain ⟨b, vs, e1, h1, h2, h3, h4, h5⟩ := R.so i xs h
  rw [e] at e1; cases e1
  exact ⟨vs, h1, h2, h3, h4, h5⟩
/-- the heap has grown by an object that nothing here speaks of, or that stays from now on -/
theorem Rel.grow (R : Rel c g σ H) {p : Addr} {o : HO} (hp : H p = none) : Rel c { g with F := upd g.F p o } σ (upd H p o) ∧ GExt g { g with F := upd g.F p o } := by
  obtain ⟨f1, f2, f3⟩ := R.fresh hp
  have ne : ∀ {a : Addr} {u : HO}, H a = some u → a ≠ p := fun h z => by subst z; rw [hp] at h; cases h
  have ext : Ext g.F g.m (upd g.F p o) g.m := ⟨fun a u h => by rw [upd_ne (ne (R.b.fh _ _ h))]; exact h, [], by simp⟩
  refine ⟨⟨⟨fun a u h => ?_, fun a u h => ?_, fun a u h => ?_, R.b.ml, R.b.md, fun n x a h1 h2 => ?_⟩, R.ln, fun i d h => ?_, fun i xs h => ?_, R.sd, R.sx⟩, ext, rfl⟩
  · have h : upd g.F p o a = some u := h
    by_cases z : a = p
    · subst z; rw [upd_same] at h ⊢; exact h
    · rw [upd_ne z] at h ⊢; exact R.b.fh _ _ h
  · rw [upd_ne (ne (R.b.gh _ _ h))]; exact R.b.gh _ _ h
  · by_cases z : a = p
    · subst z; exact f2
    · have h : upd g.F p o a = some u := h
      rw [upd_ne z] at h; exact R.b.fg _ _ h
  · have hm : a ∈ g.m := List.mem_of_getElem? h2
    have z : a ≠ p := fun z => f3 (z ▸ hm)
    obtain ⟨q1, q2, q3⟩ := R.b.cl n x a h1 h2
    refine ⟨by show upd g.F p o a = none; rw [upd_ne z]; exact q1, q2, ?_⟩
    rw [upd_ne z]
    exact q3.ext ext
  · obtain ⟨v, e, r⟩ := R.sf i d h
    exact ⟨v, e, r.ext ext⟩
  · obtain ⟨a, vs, e, h1, r, h2, h3, h4⟩ := R.so i xs h
    have z := ne h1
    exact ⟨a, vs, e, by rw [upd_ne z]; exact h1, r.ext ext, by show upd g.F p o a = none; rw [upd_ne z]; exact h2, h3, h4⟩
/-- .. by one that is nobody's yet -/
theorem Rel.grow0 (R : Rel c g σ H) {p : Addr} {o : HO} (hp : H p = none) : Rel c g σ (upd H p o) := by
  have ne : ∀ {a : Addr} {u : HO}, H a = some u → a ≠ p := fun h z => by subst z; rw [hp] at h; cases h
  obtain ⟨f1, f2, f3⟩ := R.fresh hp
  refine ⟨⟨fun a u h => ?_, fun a u h => ?_, R.b.fg, R.b.ml, R.b.md, fun n x a h1 h2 => ?_⟩, R.ln, R.sf, fun i xs h => ?_, R.sd, R.sx⟩
  · rw [upd_ne (ne (R.b.fh _ _ h))]; exact R.b.fh _ _ h
  · rw [upd_ne (ne (R.b.gh _ _ h))]; exact R.b.gh _ _ h
  · have z : a ≠ p := fun z => f3 (z ▸ List.mem_of_getElem? h2)
    obtain ⟨q1, q2, q3⟩ := R.b.cl n x a h1 h2
    exact ⟨q1, q2, by rw [upd_ne z]; exact q3⟩
  · obtain ⟨a, vs, e, h1, r, h2, h3, h4⟩ := R.so i xs h
    exact ⟨a, vs, e, by rw [upd_ne (ne h1)]; exact h1, r, h2, h3, h4⟩
/-- a list that is nobody's: in the heap, not among what stays, nor a cell, nor a slot's own -/
structure Loose (c : Kx) (g : Gs) (σ : St) (H : Hp) (xs : List D) (a : Addr) : Prop where
  ex : ∃ vs, H a = some (.lst vs) ∧ RepL c g.F g.m xs vs
  f : g.F a = none
  gn : g.G a = none
  mn : a ∉ g.m
  s : ∀ (i : Nat) (ys : List D), g.ρ[i]? = some (some (.ow ys)) → σ[i]? ≠ some (some (.ref a))
theorem Rel.loose (R : Rel c g σ H) {p : Addr} {vs : List V} {xs : List D} (hp : H p = none) (r : RepL c g.F g.m xs vs) : Loose c g σ (upd H p (.lst vs)) xs p := by
  obtain ⟨f1, f2, f3⟩ := R.fresh hp
  refine ⟨⟨vs, upd_same, r⟩, f1, f2, f3, fun i ys h e => ?_⟩
  obtain ⟨a, vs', e', h1, _⟩ := R.so i ys h
  rw [e] at e'; cases e'
  rw [hp] at h1; cases h1
/-- it stays from now on -/
theorem Rel.freeze (R : Rel c g σ H) {a : Addr} {xs : List D} (L : Loose c g σ H xs a) : ∃ F', Rel c { g with F := F' } σ H ∧ GExt g { g with F := F' } ∧ Rep c F' g.m (.lst xs) (.ref a) := by
  obtain ⟨vs, hv, r⟩ := L.ex
  have ext : Ext g.F g.m (upd g.F a (.lst vs)) g.m := ⟨fun b u h => by rw [upd_ne (fun z => by subst z; rw [L.f] at h; cases h)]; exact h, [], by simp⟩
  refine ⟨upd g.F a (.lst vs), ⟨⟨fun b u h => ?_, R.b.gh, fun b u h => ?_, R.b.ml, R.b.md, fun n x b h1 h2 => ?_⟩, R.ln, fun i d h => ?_, fun i ys h => ?_, R.sd, R.sx⟩, ⟨ext, rfl⟩, ?_⟩
  · by_cases z : b = a
    · subst z; have h : upd g.F b (.lst vs) b = some u := h; rw [upd_same] at h; cases h; exact hv
    · have h : upd g.F a (.lst vs) b = some u := h; rw [upd_ne z] at h; exact R.b.fh _ _ h
  · by_cases z : b = a
    · subst z; exact L.gn
    · have h : upd g.F a (.lst vs) b = some u := h; rw [upd_ne z] at h; exact R.b.fg _ _ h
  · have z : b ≠ a := fun z => L.mn (z ▸ List.mem_of_getElem? h2)
    obtain ⟨q1, q2, q3⟩ := R.b.cl n x b h1 h2
    refine ⟨by show upd g.F a (.lst vs) b = none; rw [upd_ne z]; exact q1, q2, ?_⟩
    exact q3.ext ext
  · obtain ⟨v, e, r⟩ := R.sf i d h
    exact ⟨v, e, r.ext ext⟩
  · obtain ⟨b, ws, e, h1, r, h2, h3, h4⟩ := R.so i ys h
    have z : b ≠ a := fun z => L.s i ys h (z ▸ e)
    exact ⟨b, ws, e, h1, r.ext ext, by show upd g.F a (.lst vs) b = none; rw [upd_ne z]; exact h2, h3, h4⟩
  · simp only [Rep]
    exact ⟨a, vs, rfl, upd_same, r.ext ext⟩
/-- a name is bound -/
theorem Rel.set (R : Rel c g σ H) {i : Nat} {d : D} {v : V} (r : Rep c g.F g.m d v) : Rel c { g with ρ := g.ρ.set i (some (.fz d)) } (σ.set i (some v)) H := by
  refine ⟨R.b, by simp [R.ln], fun j e h => ?_, fun j xs h => ?_, fun j k xs ys a ne h1 h2 h3 => ?_, fun j x h => ?_⟩
  · by_cases z : j = i
    · subst z
      have hl : j < g.ρ.length := by
        have := (List.getElem?_eq_some_iff.mp h).1
        simpa using this
      have h : (g.ρ.set j (some (.fz d)))[j]? = some (some (.fz e)) := h
      rw [List.getElem?_set_self hl] at h
      cases h
      exact ⟨v, by rw [List.getElem?_set_self (by rw [← R.ln]; exact hl)], r⟩
    · have h : (g.ρ.set i (some (.fz d)))[j]? = some (some (.fz e)) := h
      rw [List.getElem?_set_ne (Ne.symm z)] at h
      obtain ⟨w, e1, r1⟩ := R.sf j e h
      exact ⟨w, by rw [List.getElem?_set_ne (Ne.symm z)]; exact e1, r1⟩
  · have z : j ≠ i := fun z => by
      subst z
      have hl : j < g.ρ.length := by
        have := (List.getElem?_eq_some_iff.mp h).1
        simpa using this
      have h : (g.ρ.set j (some (.fz d)))[j]? = some (some (.ow xs)) := h
      rw [List.getElem?_set_self hl] at h
      cases h
    have h : (g.ρ.set i (some (.fz d)))[j]? = some (some (.ow xs)) := h
    rw [List.getElem?_set_ne (Ne.symm z)] at h
    obtain ⟨a, vs, e1, q⟩ := R.so j xs h
    exact ⟨a, vs, by rw [List.getElem?_set_ne (Ne.symm z)]; exact e1, q⟩
  · have zz : ∀ {j : Nat} {xs : List D}, (g.ρ.set i (some (.fz d)))[j]? = some (some (.ow xs)) → j ≠ i := fun {j xs} h z => by
      subst z
      have hl : j < g.ρ.length := by
        have := (List.getElem?_eq_some_iff.mp h).1
        simpa using this
      rw [List.getElem?_set_self hl] at h
      cases h
    have h1 : (g.ρ.set i (some (.fz d)))[j]? = some (some (.ow xs)) := h1
    have h2 : (g.ρ.set i (some (.fz d)))[k]? = some (some (.ow ys)) := h2
    have z1 := zz h1
    have z2 := zz h2
    rw [List.getElem?_set_ne (Ne.symm z1)] at h1 h3
    rw [List.getElem?_set_ne (Ne.symm z2)] at h2 ⊢
    exact R.sd j k xs ys a ne h1 h2 h3
  · have z : j ≠ i := fun z => by
      subst z
      have hl : j < g.ρ.length := by
        have := (List.getElem?_eq_some_iff.mp h).1
        simpa using this
      have h : (g.ρ.set j (some (.fz d)))[j]? = some (some (.ex x)) := h
      rw [List.getElem?_set_self hl] at h
      cases h
    have h : (g.ρ.set i (some (.fz d)))[j]? = some (some (.ex x)) := h
    rw [List.getElem?_set_ne (Ne.symm z)] at h
    obtain ⟨a, e1, e2⟩ := R.sx j x h
    exact ⟨a, e1, by rw [List.getElem?_set_ne (Ne.symm z)]; exact e2⟩
end
end Ev
set_option Elab.async false
set_option linter.all false
set_option autoImplicit false
set_option maxRecDepth 100000
namespace Ev
open PySem PySem.Spec PyProof.Rows L2
/-- an exception of ours, by class -/
def ExnR (c : Kx) (x : Exn) (cls : Value) (d : Option Addr) (H : Hp) : Prop := x.fs = [] ∧ d = none ∧ x.c ≠ 0 ∧ ∃ C, c.ca x.c = some C ∧ cls = .ref C
section
variable (c : Kx) (W : WX)
/-- what a result says: ok of the state behind it, or the exception is wished for -/
def After {α : Type} (g : Gs) (σ : St) (r : Res α) (ok : α → Gs → Hp → Prop) : Prop :=
  match r with
  | .ok a ρ S => ∀ g' H', g'.ρ = ρ → g'.S = S → GExt g g' → Rel c g' σ H' → ok a g' H'
  | .exc x ρ S => ∀ g' H' cls d, g'.ρ = ρ → g'.S = S → GExt g g' → Rel c g' σ H' → ExnR c x cls d H' → W cls d σ H'
  | .bad => False
/-- the reading of an expression with the meaning m -/
def tM (m : M D) : TE := fun σ H Q => ∃ g, Rel c g σ H ∧ After c W g σ (m g.ρ g.S) fun d g' H' => ∀ v, Rep c g'.F g'.m d v → Q v H'
/-- .. of a test -/
def tB (m : M Bool) : TT := fun σ H Q => ∃ g, Rel c g σ H ∧ After c W g σ (m g.ρ g.S) fun b g' H' => Q b H'
/-- .. of an argument list -/
def tA (m : M (List D)) : TA := fun σ H Q => ∃ g, Rel c g σ H ∧ After c W g σ (m g.ρ g.S) fun ds g' H' => ∀ vs, RepL c g'.F g'.m ds vs → Q vs H'
/-- .. of an expression whose list is a new one, nobody's yet -/
def tF (m : M (List D)) : TE := fun σ H Q => ∃ g, Rel c g σ H ∧ After c W g σ (m g.ρ g.S) fun xs g' H' => ∀ a H'', Rel c g' σ H'' → Loose c g' σ H'' xs a → Q (.ref a) H''
end
section
variable {c : Kx} {W : WX} {α β : Type} {g g1 : Gs} {σ : St} {H : Hp} {r : Res α} {ok ok' : α → Gs → Hp → Prop}
theorem After.shift (h : After c W g σ r ok) (e : GExt g g1) : After c W g1 σ r ok := by
  cases r with
  | ok a ρ S => exact fun g' H' e1 e2 e3 R => h g' H' e1 e2 (e.trans e3) R
  | exc x ρ S => exact fun g' H' cls d e1 e2 e3 R => h g' H' cls d e1 e2 (e.trans e3) R
  | bad => exact h
theorem After.imp (h : After c W g σ r ok) (f : ∀ a g' H', GExt g g' → Rel c g' σ H' → ok a g' H' → ok' a g' H') : After c W g σ r ok' := by
  cases r with
  | ok a ρ S => exact fun g' H' e1 e2 e3 R => f a g' H' e3 R (h g' H' e1 e2 e3 R)
  | exc x ρ S => exact h
  | bad => exact h
theorem After.bind {m : M α} {f : α → M β} {ok : β → Gs → Hp → Prop} (h : After c W g σ (M.bind m f g.ρ g.S) ok) : After c W g σ (m g.ρ g.S) fun a g1 H1 => After c W g1 σ (f a g1.ρ g1.S) ok := by
  unfold M.bind Res.bind at h
  cases e : m g.ρ g.S with
  | ok a ρ S =>
    rw [e] at h
    intro g' H' e1 e2 e3 R
    have h' : After c W g σ (f a ρ S) ok := h
    rw [e1, e2]
    exact h'.shift e3
  | exc x ρ S => rw [e] at h; exact h
  | bad => rw [e] at h; exact h
theorem After.pure {a : α} (h : After c W g σ (M.pure a g.ρ g.S) ok) (R : Rel c g σ H) : ok a g H := h g H rfl rfl .refl R
theorem After.of {o : Option α} (h : After c W g σ (M.of o g.ρ g.S) ok) : ∃ a, o = some a ∧ After c W g σ (.ok a g.ρ g.S) ok := by
  cases o with
  | some a => exact ⟨a, rfl, h⟩
  | none => exact h.elim
theorem After.app {a : α} {ρ : Env} {S : Sto} {g' : Gs} {H' : Hp} (h : After c W g σ (.ok a ρ S) ok) (R : Rel c g' σ H') (x : GExt g g') (e1 : g'.ρ = ρ) (e2 : g'.S = S) : ok a g' H' := h g' H' e1 e2 x R
theorem After.bad (h : After c W g σ (M.bad g.ρ g.S) ok) : False := h
end
section
variable {X : Cx} {e : Expr} {t t' : TE}
theorem PE.weak (h : PE X e t) (w : ∀ σ H Q, t' σ H Q → t σ H Q) : PE X e t' := ⟨fun pins s σ H Q I q => h.run pins s σ H Q I (w σ H Q q)⟩
theorem PE.any {ι : Type} {t : ι → TE} (h : ∀ i, PE X e (t i)) : PE X e (fun σ H Q => ∃ i, t i σ H Q) := ⟨fun pins s σ H Q I q => let ⟨i, q⟩ := q; (h i).run pins s σ H Q I q⟩
theorem PT.weak {t t' : TT} (h : PT X e t) (w : ∀ σ H Q, t' σ H Q → t σ H Q) : PT X e t' := ⟨fun pins s σ H Q I q => h.run pins s σ H Q I (w σ H Q q)⟩
theorem PW.weak {t t' : TT} (h : PW X e t) (w : ∀ σ H Q, t' σ H Q → t σ H Q) : PW X e t' := ⟨fun wh pins s σ H Q I q => h.run wh pins s σ H Q I (w σ H Q q)⟩
theorem PA.weak {es : List Expr} {t t' : TA} (h : PA X es t) (w : ∀ σ H Q, t' σ H Q → t σ H Q) : PA X es t' := ⟨fun p pins s σ H Q I q => h.run p pins s σ H Q I (w σ H Q q)⟩
end
section
variable {c : Kx} {g : Gs} {σ : St} {H : Hp}
/-- a slot is forgotten -/
theorem Rel.drop (R : Rel c g σ H) (i : Nat) : Rel c { g with ρ := g.ρ.set i none } σ H := by
  have zz : ∀ {j : Nat} {s : SV}, (g.ρ.set i none)[j]? = some (some s) → g.ρ[j]? = some (some s) ∧ j ≠ i := fun {j s} h => by
    by_cases z : j = i
    · subst z
      have hl : j < g.ρ.length := by
        have := (List.getElem?_eq_some_iff.mp h).1
        simpa using this
      rw [List.getElem?_set_self hl] at h
      cases h
    · rw [List.getElem?_set_ne (Ne.symm z)] at h
      exact ⟨h, z⟩
  exact ⟨R.b, by simp [R.ln], fun j d h => R.sf j d (zz h).1, fun j xs h => R.so j xs (zz h).1, fun j k xs ys a ne h1 h2 => R.sd j k xs ys a ne (zz h1).1 (zz h2).1, fun j x h => R.sx j x (zz h).1⟩
/-- a slot's own list stays from now on -/
theorem Rel.freezeSlot (R : Rel c g σ H) {i : Nat} {xs : List D} (h : g.ρ[i]? = some (some (.ow xs))) :
    ∃ a F', σ[i]? = some (some (.ref a)) ∧ Rel c { g with F := F', ρ := g.ρ.set i (some (.fz (.lst xs))) } σ H ∧ GExt g { g with F := F', ρ := g.ρ.set i (some (.fz (.lst xs))) } ∧ Rep c F' g.m (.lst xs) (.ref a) := by
  obtain ⟨a, vs, e1, h1, r, h2, h3, h4⟩ := R.so i xs h
  have R1 := R.drop i
  have L : Loose c { g with ρ := g.ρ.set i none } σ H xs a := by
    refine ⟨⟨vs, h1, r⟩, h2, h3, h4, fun j ys hj => ?_⟩
    have hj : (g.ρ.set i none)[j]? = some (some (.ow ys)) := hj
    by_cases z : j = i
    · subst z
      have hl : j < g.ρ.length := by
        have := (List.getElem?_eq_some_iff.mp h).1
        simpa using this
      rw [List.getElem?_set_self hl] at hj
      cases hj
    · rw [List.getElem?_set_ne (Ne.symm z)] at hj
      exact R.sd i j xs ys a (Ne.symm z) h hj e1
  obtain ⟨F', R2, e2, r2⟩ := R1.freeze L
  have R3 := R2.set (i := i) (d := .lst xs) (v := .ref a) r2
  have hi : i < σ.length := (List.getElem?_eq_some_iff.mp e1).1
  have es : σ.set i (some (.ref a)) = σ := by
    apply List.ext_getElem?
    intro j
    by_cases z : i = j
    · subst z; rw [List.getElem?_set_self hi, e1]
    · rw [List.getElem?_set_ne z]
  rw [es] at R3
  have er : (g.ρ.set i none).set i (some (SV.fz (.lst xs))) = g.ρ.set i (some (.fz (.lst xs))) := by rw [List.set_set]
  refine ⟨a, F', e1, ?_, ⟨e2.e, rfl⟩, r2⟩
  have R3 : Rel c { g with F := F', ρ := (g.ρ.set i none).set i (some (SV.fz (.lst xs))) } σ H := R3
  rw [er] at R3
  exact R3
end
section
variable {X : Cx} {c : Kx} {W : WX} {pos : Pos}
theorem ok_var {i : Nat} {x : Str} (hN : X.N[i]? = some x) (hv : Vis X.env.scope x) (hd : (x == ("__debug__" : Str)) = false) (hcd : (x == ("__classdict__" : Str)) = false) : PE X (.Name x pos) (tM c W (mVar i)) := by
  refine PE.weak (pe_var hN hv hd hcd) fun σ H Q ⟨g, R, h⟩ => ?_
  unfold mVar at h
  cases e : g.ρ[i]? with
  | none => rw [e] at h; exact h.elim
  | some o =>
    cases o with
    | none => rw [e] at h; exact h.elim
    | some s =>
      cases s with
      | fz d =>
        rw [e] at h
        obtain ⟨v, e1, r⟩ := R.sf i d e
        exact ⟨v, e1, h g H rfl rfl .refl R v r⟩
      | ow xs =>
        rw [e] at h
        obtain ⟨a, F', e1, R', ex, r⟩ := R.freezeSlot e
        exact ⟨.ref a, e1, After.app h R' ex rfl rfl _ r⟩
      | ex x => rw [e] at h; exact h.elim
theorem ok_cst {e : Expr} {v : V} {d : D} (h : PE X e (tC v)) (r : ∀ F m, Rep c F m d v) : PE X e (tM c W (M.pure d)) :=
  PE.weak h fun σ H Q ⟨g, R, q⟩ => q g H rfl rfl .refl R v (r _ _)
theorem ok_non {j pos'} : PE X (.Constant .none j pos') (tM c W (M.pure .non)) := ok_cst pe_non fun _ _ => by simp [Rep]
theorem ok_bl {b j pos'} : PE X (.Constant (.bool b) j pos') (tM c W (M.pure (.bl b))) := ok_cst pe_bl fun _ _ => by simp [Rep]
theorem ok_int {i j pos'} : PE X (.Constant (.int i) j pos') (tM c W (M.pure (.int i))) := ok_cst pe_int fun _ _ => by simp [Rep]
theorem ok_str {x : Str} {j pos'} : PE X (.Constant (.str x) j pos') (tM c W (M.pure (.str x.cps.toList))) := ok_cst pe_str fun _ _ => by simp [Rep, toStr]
end
section
variable {X : Cx} {c : Kx} {W : WX} {pos : Pos} {e : Expr} {es : List Expr} {m : M D} {ms : M (List D)}
theorem ok_nil : PA X [] (tA c W (M.pure [])) := PA.weak pa_nil fun σ H Q ⟨g, R, h⟩ => h g H rfl rfl .refl R [] (by simp [RepL])
theorem RepL.cons_ {F : Hp} {m : List Addr} {d : D} {ds : List D} {v : V} {vs : List V} (h : Rep c F m d v) (h' : RepL c F m ds vs) : RepL c F m (d :: ds) (v :: vs) := by
  simp only [RepL]
  exact ⟨v, vs, rfl, h, h'⟩
theorem ok_cons (ha : PE X e (tM c W m)) (hr : PA X es (tA c W ms)) (hs : starEach (e :: es) X.env = (false, eval e X.env) :: starEach es X.env) :
    PA X (e :: es) (tA c W (M.bind m fun d => M.bind ms fun ds => M.pure (d :: ds))) := by
  refine PA.weak (pa_cons ha hr hs) fun σ H Q ⟨g, R, h⟩ => ⟨g, R, (After.bind h).imp fun d g1 H1 x1 R1 h1 v r => ⟨g1, R1, (After.bind h1).imp fun ds g2 H2 x2 R2 h2 vs rs => ?_⟩⟩
  exact After.pure h2 R2 (v :: vs) (RepL.cons_ (r.ext x2.e) rs)
theorem repL_length {F : Hp} {m : List Addr} : ∀ {ds : List D} {vs : List V}, RepL c F m ds vs → vs.length = ds.length
  | [], _, h => by simp [RepL] at h; subst h; rfl
  | d :: ds, vs, h => by
    simp only [RepL] at h
    obtain ⟨v, r, rfl, _, h⟩ := h
    simp [repL_length h]
theorem ok_tup {k : Nat} (h : PA X es (tA c W ms)) : PE X (.Tuple es k pos) (tM c W (M.bind ms fun ds => if ds.length ≤ SZ then M.pure (.tup ds) else M.bad)) := by
  refine PE.weak (pe_tup h) fun σ H Q ⟨g, R, h⟩ => ⟨g, R, (After.bind h).imp fun ds g1 H1 x1 R1 h1 vs rs => ?_⟩
  have hl := repL_length rs
  by_cases z : ds.length ≤ SZ
  · rw [if_pos z] at h1
    refine ⟨by rw [sizeLine_eq, hl]; exact z, fun p hp => ?_⟩
    obtain ⟨R2, x2⟩ := R1.grow (o := .tup vs) hp
    refine After.app h1 R2 x2 rfl rfl (.ref p) ?_
    simp only [Rep]
    exact ⟨p, vs, rfl, SqT.of upd_same, rs.ext x2.e⟩
  · rw [if_neg z] at h1; exact h1.elim
/-- a new list that is nobody's -/
theorem okF_lst (h : PA X es (tA c W ms)) : PE X (.List es pos) (tF c W (M.bind ms fun ds => if ds.length ≤ SZ then M.pure ds else M.bad)) := by
  refine PE.weak (pe_lst h) fun σ H Q ⟨g, R, h⟩ => ⟨g, R, (After.bind h).imp fun ds g1 H1 x1 R1 h1 vs rs => ?_⟩
  have hl := repL_length rs
  by_cases z : ds.length ≤ SZ
  · rw [if_pos z] at h1
    refine ⟨by rw [sizeLine_eq, hl]; exact z, fun p hp => ?_⟩
    exact h1 g1 H1 rfl rfl .refl R1 p _ (R1.grow0 hp) (R1.loose hp rs)
  · rw [if_neg z] at h1; exact h1.elim
/-- it is made to stay -/
theorem ok_ofF {ms : M (List D)} (h : PE X e (tF c W ms)) : PE X e (tM c W (M.bind ms fun xs => M.pure (.lst xs))) := by
  refine PE.weak h fun σ H Q ⟨g, R, h⟩ => ⟨g, R, (After.bind h).imp fun xs g1 H1 x1 R1 h1 a H2 R2 L => ?_⟩
  obtain ⟨F', R3, x3, r⟩ := R2.freeze L
  exact After.app h1 R3 x3 rfl rfl _ r
end
end Ev
set_option Elab.async false
set_option linter.all false
set_option autoImplicit false
set_option maxRecDepth 100000
namespace Ev
open PySem PySem.Spec PyProof.Rows L2
theorem toStr_app (x y : Txt) : toStr x ++ toStr y = toStr (x ++ y) := by
  show Str.append (toStr x) (toStr y) = toStr (x ++ y)
  simp [Str.append, toStr]
theorem toStr_len (x : Txt) : (toStr x).length = x.length := by simp [Str.length, toStr]
theorem toStr_inj {x y : Txt} (h : toStr x = toStr y) : x = y := by
  simp [toStr] at h; exact h
section
variable {c : Kx} {W : WX} {g : Gs} {σ : St} {H : Hp} {d : D} {ds : List D} {v : V} {vs : List V} {Q : VK}
/-- what is wanted behind an operator that gives d -/
def AD (c : Kx) (W : WX) (g : Gs) (σ : St) (d : D) (Q : VK) : Prop := After c W g σ (.ok d g.ρ g.S) fun d g' H' => ∀ v, Rep c g'.F g'.m d v → Q v H'
theorem AD.here (h : AD c W g σ d Q) (R : Rel c g σ H) (r : Rep c g.F g.m d v) : Q v H := After.app h R .refl rfl rfl v r
theorem AD.tup (h : AD c W g σ (.tup ds) Q) (R : Rel c g σ H) (rs : RepL c g.F g.m ds vs) {p : Addr} (hp : H p = none) : Q (.ref p) (upd H p (.tup vs)) := by
  obtain ⟨R2, x2⟩ := R.grow (o := .tup vs) hp
  refine After.app h R2 x2 rfl rfl (.ref p) ?_
  simp only [Rep]
  exact ⟨p, vs, rfl, SqT.of upd_same, rs.ext x2.e⟩
theorem AD.lst (h : AD c W g σ (.lst ds) Q) (R : Rel c g σ H) (rs : RepL c g.F g.m ds vs) {p : Addr} (hp : H p = none) : Q (.ref p) (upd H p (.lst vs)) := by
  obtain ⟨R2, x2⟩ := R.grow (o := .lst vs) hp
  refine After.app h R2 x2 rfl rfl (.ref p) ?_
  simp only [Rep]
  exact ⟨p, vs, rfl, upd_same, rs.ext x2.e⟩
end
section
variable {c : Kx} {F : Hp} {m : List Addr}
theorem RepL.app : ∀ {xs ys : List D} {us vs : List V}, RepL c F m xs us → RepL c F m ys vs → RepL c F m (xs ++ ys) (us ++ vs)
  | [], _, us, _, h, h' => by simp only [RepL] at h; subst h; exact h'
  | x :: xs, ys, us, vs, h, h' => by
    simp only [RepL] at h
    obtain ⟨v, r, rfl, h1, h2⟩ := h
    exact RepL.cons_ h1 (RepL.app h2 h')
theorem RepL.drop_ : ∀ {xs : List D} {us : List V} (n : Nat), RepL c F m xs us → RepL c F m (xs.drop n) (us.drop n)
  | xs, us, 0, h => h
  | [], us, n + 1, h => by simp only [RepL] at h; subst h; simp [RepL]
  | x :: xs, us, n + 1, h => by
    simp only [RepL] at h
    obtain ⟨v, r, rfl, h1, h2⟩ := h
    exact RepL.drop_ n h2
theorem RepL.take_ : ∀ {xs : List D} {us : List V} (n : Nat), RepL c F m xs us → RepL c F m (xs.take n) (us.take n)
  | xs, us, 0, h => by simp [RepL]
  | [], us, n + 1, h => by simp only [RepL] at h; subst h; simp [RepL]
  | x :: xs, us, n + 1, h => by
    simp only [RepL] at h
    obtain ⟨v, r, rfl, h1, h2⟩ := h
    exact RepL.cons_ h1 (RepL.take_ n h2)
theorem RepL.get_ : ∀ {xs : List D} {us : List V} {n : Nat} {d : D}, RepL c F m xs us → xs[n]? = some d → ∃ v, us[n]? = some v ∧ Rep c F m d v
  | [], us, n, d, h, e => by simp at e
  | x :: xs, us, 0, d, h, e => by
    simp only [RepL] at h
    obtain ⟨v, r, rfl, h1, h2⟩ := h
    simp at e; subst e
    exact ⟨v, rfl, h1⟩
  | x :: xs, us, n + 1, d, h, e => by
    simp only [RepL] at h
    obtain ⟨v, r, rfl, h1, h2⟩ := h
    obtain ⟨w, e1, r1⟩ := RepL.get_ (n := n) h2 (by simpa using e)
    exact ⟨w, by simpa using e1, r1⟩
theorem RepL.rep_ : ∀ {xs : List D} {us : List V} (n : Nat), RepL c F m xs us → RepL c F m (reps xs n) (List.replicate n us).flatten
  | xs, us, 0, h => by simp [reps, RepL]
  | xs, us, n + 1, h => by
    have q := RepL.rep_ n h
    unfold reps at q ⊢
    rw [List.replicate_succ, List.replicate_succ, List.flatten_cons, List.flatten_cons]
    exact RepL.app h q
theorem RepL.nil_ {xs : List D} {us : List V} (h : RepL c F m xs us) : us = [] ↔ xs = [] := by
  have := repL_length h
  cases xs <;> cases us <;> simp_all
theorem RepL.ints : ∀ {xs : List D} {us : List V} {is : List Int}, RepL c F m xs us → intsOf xs = some is → us = is.map V.int
  | [], us, is, h, e => by simp [intsOf] at e; subst e; simpa [RepL] using h
  | x :: xs, us, is, h, e => by
    simp only [RepL] at h
    obtain ⟨v, r, rfl, h1, h2⟩ := h
    cases x <;> simp [intsOf] at e
    obtain ⟨t, e1, rfl⟩ := e
    rw [RepL.ints h2 e1]
    simp [Rep] at h1
    rw [h1]; rfl
theorem RepL.bls : ∀ {xs : List D} {us : List V} {is : List Bool}, RepL c F m xs us → blsOf xs = some is → us = is.map V.bl
  | [], us, is, h, e => by simp [blsOf] at e; subst e; simpa [RepL] using h
  | x :: xs, us, is, h, e => by
    simp only [RepL] at h
    obtain ⟨v, r, rfl, h1, h2⟩ := h
    cases x <;> simp [blsOf] at e
    obtain ⟨t, e1, rfl⟩ := e
    rw [RepL.bls h2 e1]
    simp [Rep] at h1
    rw [h1]; rfl
theorem RepL.txts : ∀ {xs : List D} {us : List V} {is : List Txt}, RepL c F m xs us → txtsOf xs = some is → us = is.map fun x => V.str (toStr x)
  | [], us, is, h, e => by simp [txtsOf] at e; subst e; simpa [RepL] using h
  | x :: xs, us, is, h, e => by
    simp only [RepL] at h
    obtain ⟨v, r, rfl, h1, h2⟩ := h
    cases x <;> simp [txtsOf] at e
    obtain ⟨t, e1, rfl⟩ := e
    rw [RepL.txts h2 e1]
    simp [Rep] at h1
    rw [h1]; rfl
end
theorem tup_mul_one (l : Addr) (items : Array Value) (n : Nat) (dd : Option Addr) (sl : Array (Option Value)) (u : Tok) :
    Meets (Builtin.«tuple.__mul__» ⟨[.ref l, .int 1 u], []⟩) (fun _ R s => s.heap.get? l = some { cls := .type "tuple", dict := dd, data := .seq items n, slots := sl } ∧ R (.ok (.ret (Value.ref l))) s) :=
  .of_wp fun prog w A R s h => by
    obtain ⟨hp, g, d, tk, os⟩ := s
    obtain ⟨hl, h⟩ := h
    have f1 := AutoSeq1.idx_int
    wp_walk using wpAny_loadPart' hl
    exact ⟨_, rfl, h⟩
def rTup1 (K : PySem.W.Frag) : R2 := fun x y H Q => ∃ l us, x = .ref l ∧ y = .int 1 ∧ SqT K H l us ∧ Q (.ref l) H
theorem op_tup1 {X : Cx} : OpR X (binaryOp .Mult) (rTup1 X.K) := by
  intro pins s σ H x y v u Q I rx ry ⟨l, us, e1, e2, hT, q⟩
  subst e1 e2
  cases rx
  obtain ⟨t, rfl⟩ := ry
  obtain ⟨its, r, ⟨ob, hob, hcl, n, hda⟩, _⟩ := I.tuple hT
  obtain ⟨oc, od, odt, osl⟩ := ob
  simp only at hcl hda
  subst hcl hda
  refine wpAny_binaryOp_repeat_ref (T := "tuple") (U := "int") (by decide) ⟨_, hob, rfl⟩ (fun s' => typeIs_int s' 1 t) noFill_tuple_mul F.fills_int_mul F.slot_int_rmul repeat_tuple F.slot_int_index.lookup ?_
  refine call_meets F.slot_int_rmul (typeIs_int s 1 t) F.entry_int_rmul (F.args_int_rmul_2 _ _) (int_rmul_tuple 1 t l its.toArray n od osl) ⟨hob, rfl, ⟨_, hob, rfl⟩, ?_⟩
  exact call_meets F.slot_tuple_mul ⟨_, hob, rfl⟩ F.entry_tuple_mul (F.args_tuple_mul_2 _ _) (tup_mul_one l its.toArray n od osl t) ⟨hob, .ref l, H, I, rfl, q⟩
def bopOf : Bop → Operator
  | .add => .Add | .sub => .Sub | .mul => .Mult | .mod => .Mod | .fdv => .FloorDiv | .pow => .Pow | .shl => .LShift
section
variable {X : Cx} {c : Kx} {W : WX}
def rBin (c : Kx) (W : WX) (f : D → D → Option D) : R2 := fun x y H Q => ∃ g σ' a b d, Rel c g σ' H ∧ Rep c g.F g.m a x ∧ Rep c g.F g.m b y ∧ f a b = some d ∧ AD c W g σ' d Q
theorem op_bop (o : Bop) (hK : X.K = c.K) : OpR X (binaryOp (bopOf o)) (rBin c W (bop o)) := by
  intro pins s σ H x y v u Q I rx ry ⟨g, σ', a, b, d, R, ra, rb, e, q⟩
  unfold bop at e
  split at e
  case h_1 i j =>
    simp [Rep] at ra rb; subst ra rb; cases e
    exact op_add pins s σ H _ _ v u Q I rx ry ⟨i, j, rfl, rfl, q.here R (by simp [Rep])⟩
  case h_2 i j =>
    simp [Rep] at ra rb; subst ra rb
    split at e
    case isTrue z =>
      cases e
      refine op_add_str pins s σ H _ _ v u Q I rx ry ⟨_, _, rfl, rfl, by rw [toStr_len, toStr_len, sizeLine_eq]; exact z, ?_⟩
      rw [toStr_app]
      exact q.here R (by simp [Rep])
    case isFalse z => cases e
  case h_3 xs ys =>
    simp only [Rep] at ra rb
    obtain ⟨p1, us, rfl, s1, r1⟩ := ra
    obtain ⟨p2, ws, rfl, s2, r2⟩ := rb
    have l1 := repL_length r1
    have l2 := repL_length r2
    have sq : ∀ {a : Addr} {vs : List V}, SqT c.K g.F a vs → SqT X.K H a vs := fun h => by
      rw [hK]; rcases h with (h | ⟨o, h⟩) | h
      · exact .inl (.inl (R.b.fh _ _ h))
      · exact .inl (.inr ⟨o, R.b.fh _ _ h⟩)
      · exact .inr h
    split at e
    case isTrue z =>
      cases e
      refine op_catA pins s σ H _ _ v u Q I rx ry ⟨p1, p2, us, ws, rfl, rfl, sq s1, sq s2, by rw [l1, l2, sizeLine_eq]; exact z.2.2, fun h => ?_, fun h h' => ?_, fun h h' p hp => ?_⟩
      · have : xs = [] := r1.nil_.mp h
        subst this
        exact q.here R (by simp only [Rep]; exact ⟨p2, ws, rfl, s2, by simpa using r2⟩)
      · have : ys = [] := r2.nil_.mp h'
        subst this
        exact q.here R (by simp only [Rep]; exact ⟨p1, us, rfl, s1, by simpa using r1⟩)
      · exact q.tup R (r1.app r2) hp
    case isFalse z => cases e
  case h_4 xs ys =>
    simp only [Rep] at ra rb
    obtain ⟨p1, us, rfl, s1, r1⟩ := ra
    obtain ⟨p2, ws, rfl, s2, r2⟩ := rb
    have l1 := repL_length r1
    have l2 := repL_length r2
    split at e
    case isTrue z =>
      cases e
      exact op_cat pins s σ H _ _ v u Q I rx ry ⟨p1, p2, us, ws, rfl, rfl, R.b.fh _ _ s1, R.b.fh _ _ s2, by rw [l1, l2, sizeLine_eq]; exact z, fun p hp => q.lst R (r1.app r2) hp⟩
    case isFalse z => cases e
  case h_5 i j =>
    simp [Rep] at ra rb; subst ra rb; cases e
    exact op_sub pins s σ H _ _ v u Q I rx ry ⟨i, j, rfl, rfl, q.here R (by simp [Rep])⟩
  case h_6 i j =>
    simp [Rep] at ra rb; subst ra rb
    split at e
    case isTrue z =>
      cases e
      exact op_mul pins s σ H _ _ v u Q I rx ry ⟨i, j, rfl, rfl, by unfold CMul; unfold big64 at z; simpa using z, q.here R (by simp [Rep])⟩
    case isFalse z => cases e
  case h_7 xs k =>
    simp only [Rep] at ra rb
    obtain ⟨p1, us, rfl, s1, r1⟩ := ra
    subst rb
    have l1 := repL_length r1
    split at e
    case isTrue z =>
      cases e
      exact op_rep pins s σ H _ _ v u Q I rx ry ⟨p1, k, us, rfl, rfl, R.b.fh _ _ s1, z.1, z.2.1, by rw [l1, sizeLine_eq]; exact z.2.2, fun p hp => q.lst R (r1.rep_ _) hp⟩
    case isFalse z => cases e
  case h_8 xs k =>
    simp only [Rep] at ra rb
    obtain ⟨p1, us, rfl, s1, r1⟩ := ra
    subst rb
    have l1 := repL_length r1
    have sq : SqT X.K H p1 us := by
      rw [hK]; rcases s1 with (h | ⟨o, h⟩) | h
      · exact .inl (.inl (R.b.fh _ _ h))
      · exact .inl (.inr ⟨o, R.b.fh _ _ h⟩)
      · exact .inr h
    split at e
    case isTrue z =>
      cases e
      by_cases k1 : k = 1
      · subst k1
        refine op_tup1 pins s σ H _ _ v u Q I rx ry ⟨p1, us, rfl, rfl, sq, q.here R ?_⟩
        simp only [Rep]
        refine ⟨p1, us, rfl, s1, ?_⟩
        have e : reps xs (Int.toNat 1) = xs := by simp [reps]
        rw [e]; exact r1
      · exact op_repT pins s σ H _ _ v u Q I rx ry ⟨p1, k, us, rfl, rfl, sq, fun h => z.1 (r1.nil_.mp h), by omega, z.2.2.1, by rw [l1]; exact z.2.2.2, fun p hp => q.tup R (r1.rep_ _) hp⟩
    case isFalse z => cases e
  case h_9 i j =>
    simp [Rep] at ra rb; subst ra rb
    split at e
    case isTrue z =>
      cases e
      exact op_mod pins s σ H _ _ v u Q I rx ry ⟨i, j, rfl, rfl, z, q.here R (by simp [Rep])⟩
    case isFalse z => cases e
  case h_10 i j =>
    simp [Rep] at ra rb; subst ra rb
    split at e
    case isTrue z =>
      cases e
      exact op_fdiv pins s σ H _ _ v u Q I rx ry ⟨i, j, rfl, rfl, z, q.here R (by simp [Rep])⟩
    case isFalse z => cases e
  case h_11 i j =>
    simp [Rep] at ra rb; subst ra rb
    split at e
    case isTrue z =>
      cases e
      exact op_pow pins s σ H _ _ v u Q I rx ry ⟨i, j, rfl, rfl, z, q.here R (by simp [Rep])⟩
    case isFalse z => cases e
  case h_12 i j =>
    simp [Rep] at ra rb; subst ra rb
    split at e
    case isTrue z =>
      cases e
      exact op_shl pins s σ H _ _ v u Q I rx ry ⟨i, j, rfl, rfl, z, q.here R (by simp [Rep])⟩
    case isFalse z => cases e
  case h_13 x k =>
    simp [Rep] at ra rb; subst ra rb
    split at e
    case isTrue z =>
      cases e
      obtain ⟨z1, z2, z3, z4⟩ := z
      obtain ⟨t, rfl⟩ := rx
      obtain ⟨u', rfl⟩ := ry
      have hk : 2 ≤ k.toNat := by omega
      have hk2 : k.toNat ≤ 1000 := by omega
      have hx : (toStr x).length = x.length := toStr_len x
      have hx0 : 0 < x.length := List.length_pos_iff.mpr z1
      have hm : x.length * k.toNat ≤ 1000 * 1000 := Nat.mul_le_mul z4 hk2
      have hno : ¬ (k == 1 || (toStr x).length == 0) = true := by
        intro w
        rw [Bool.or_eq_true] at w
        rcases w with w | w
        · have := eq_of_beq w; omega
        · have := eq_of_beq w; omega
      have he : (⟨(List.replicate k.toNat (toStr x).cps).foldl (· ++ ·) #[]⟩ : Str) = toStr (reps x k.toNat) := by
        have q : ∀ (n : Nat) (acc : Array Nat), (List.replicate n x.toArray).foldl (· ++ ·) acc = acc ++ (reps x n).toArray := fun n => by
          induction n with
          | zero => intro acc; simp [reps]
          | succ n ih =>
            intro acc
            rw [List.replicate_succ, List.foldl_cons, ih]
            simp [reps, List.replicate_succ]
        show (⟨(List.replicate k.toNat x.toArray).foldl (· ++ ·) #[]⟩ : Str) = _
        rw [q]
        simp [toStr]
      have hlen : (reps x k.toNat).length = k.toNat * x.length := by simp [reps]
      refine P.mul_str (by rw [decide_eq_false (show ¬ k < -(2 ^ 63 : Int) by omega), decide_eq_false (show ¬ k ≥ 2 ^ 63 by omega)]; rfl) (fun _ _ => ?_) (fun _ _ => ?_) ?_
      · rw [hx]
        have : (x.length : Int) * k ≤ 1000 * 1000 := by
          have h1 : ((x.length * k.toNat : Nat) : Int) ≤ 1000 * 1000 := by exact_mod_cast hm
          rw [Int.natCast_mul, Int.toNat_of_nonneg (by omega)] at h1
          exact h1
        intro h2
        have h3 : (2 ^ 63 - 1) / k < (x.length : Int) := h2
        have h4 := (Int.ediv_lt_iff_lt_mul (show 0 < k by omega)).mp h3
        omega
      · rw [hx]
        show decide (x.length * k.toNat > sizeLine) = false
        rw [sizeLine_eq]
        simp; omega
      · rw [if_neg (by omega), if_neg hno, he]
        exact ⟨by rw [toStr_len, hlen, Nat.mul_comm, sizeLine_eq]; omega, .str _, H, I.tok _, ⟨_, rfl⟩, q.here R (by simp [Rep])⟩
    case isFalse z => cases e
  case h_14 => cases e
end
end Ev
set_option Elab.async false
set_option linter.all false
set_option autoImplicit false
set_option maxRecDepth 100000
namespace Ev
open PySem PySem.Spec PyProof.Rows L2
mutual
def toPy : D → PyData
  | .non => .none | .bl b => .bool b | .int i => .int i | .str x => .str (toStr x)
  | .tup xs => .tuple (toPys xs) | .lst xs => .list (toPys xs)
  | .dic _ => .none | .ref _ => .none | .scr _ => .none
def toPys : List D → List PyData
  | [] => []
  | x :: xs => toPy x :: toPys xs
end
mutual
theorem toPy_eqv : ∀ (n k : Nat) (x y : D), D.plain n x = true → D.plain k y = true → PyData.eqv (toPy x) (toPy y) = D.eqb x y := fun n k x y hx hy => by
  cases x <;> cases y <;> first
    | rfl
    | (simp [D.plain] at hx; done)
    | (simp [D.plain] at hy; done)
    | (simp [toPy, PyData.eqv, D.eqb]; done)
    | skip
  · rename_i a b
    simp only [toPy, PyData.eqv, D.eqb]
    rw [Bool.eq_iff_iff]
    simp only [beq_iff_eq]
    exact ⟨toStr_inj, fun h => by rw [h]⟩
  · rename_i a b
    cases n with
    | zero => simp [D.plain] at hx
    | succ n =>
      cases k with
      | zero => simp [D.plain] at hy
      | succ k =>
        simp only [D.plain] at hx hy
        simp only [toPy, PyData.eqv, D.eqb]
        exact toPys_eqv n k a b hx hy
  · rename_i a b
    cases n with
    | zero => simp [D.plain] at hx
    | succ n =>
      cases k with
      | zero => simp [D.plain] at hy
      | succ k =>
        simp only [D.plain] at hx hy
        simp only [toPy, PyData.eqv, D.eqb]
        exact toPys_eqv n k a b hx hy
  termination_by n k x y => sizeOf x
theorem toPys_eqv : ∀ (n k : Nat) (xs ys : List D), D.plains n xs = true → D.plains k ys = true → PyData.eqvAll (toPys xs) (toPys ys) = D.eqbs xs ys
  | n, k, [], [], _, _ => rfl
  | n, k, [], y :: ys, _, _ => rfl
  | n, k, x :: xs, [], _, _ => rfl
  | n, k, x :: xs, y :: ys, hx, hy => by
    simp only [D.plains, Bool.and_eq_true] at hx hy
    simp only [toPys, PyData.eqvAll, D.eqbs]
    rw [toPy_eqv n k x y hx.1 hy.1, toPys_eqv n k xs ys hx.2 hy.2]
  termination_by n k xs => sizeOf xs
end
mutual
theorem plain_lay : ∀ (n : Nat) (x : D), D.plain n x = true → (toPy x).canLay0 = true ∧ (toPy x).depth ≤ n := fun n x hx => by
  cases x with
  | non => simp [toPy, PyData.canLay0, PyData.depth]
  | bl b => simp [toPy, PyData.canLay0, PyData.depth]
  | int i => simp [toPy, PyData.canLay0, PyData.depth]
  | str z =>
    simp only [D.plain] at hx
    simp [toPy, PyData.canLay0, PyData.depth, PyData.strOk, toStr]
    simpa using hx
  | tup xs =>
    cases n with
    | zero => simp [D.plain] at hx
    | succ n =>
      simp only [D.plain] at hx
      have q := plains_lay n xs hx
      simp only [toPy, PyData.canLay0, PyData.depth]
      exact ⟨q.1, by omega⟩
  | lst xs =>
    cases n with
    | zero => simp [D.plain] at hx
    | succ n =>
      simp only [D.plain] at hx
      have q := plains_lay n xs hx
      simp only [toPy, PyData.canLay0, PyData.depth]
      exact ⟨q.1, by omega⟩
  | dic _ => simp [D.plain] at hx
  | ref _ => simp [D.plain] at hx
  | scr _ => simp [D.plain] at hx
  termination_by n x => sizeOf x
theorem plains_lay : ∀ (n : Nat) (xs : List D), D.plains n xs = true → PyData.canLayAll0 (toPys xs) = true ∧ PyData.depthAll (toPys xs) ≤ n
  | n, [], _ => by simp [toPys, PyData.canLayAll0, PyData.depthAll]
  | n, x :: xs, h => by
    simp only [D.plains, Bool.and_eq_true] at h
    have q1 := plain_lay n x h.1
    have q2 := plains_lay n xs h.2
    simp only [toPys, PyData.canLayAll0, PyData.depthAll, Bool.and_eq_true]
    exact ⟨⟨q1.1, q2.1⟩, by omega⟩
  termination_by n xs => sizeOf xs
end
theorem plain_shaped {x : D} (h : D.plain 60 x = true) : SeqAt.shaped (toPy x) = true := by
  have q := plain_lay 60 x h
  unfold SeqAt.shaped
  simp only [Bool.and_eq_true, decide_eq_true_eq]
  exact ⟨q.1, by omega⟩
theorem toPys_any (x : D) (n : Nat) (hx : D.plain n x = true) : ∀ (k : Nat) (ys : List D), D.plains k ys = true → (toPys ys).any (fun z => PyData.eqv z (toPy x)) = ys.any fun y => D.eqb y x
  | _, [], _ => rfl
  | k, y :: ys, h => by
    simp only [D.plains, Bool.and_eq_true] at h
    simp only [toPys, List.any_cons]
    rw [toPy_eqv k n y x h.1 hx, toPys_any x n hx k ys h.2]
def Bor (c : Kx) (g : Gs) (H : Hp) (d : D) (v : V) : Prop := Rep c g.F g.m d v ∨ ∃ xs a vs, d = .lst xs ∧ v = .ref a ∧ H a = some (.lst vs) ∧ RepL c g.F g.m xs vs
section
variable {c : Kx} {F H : Hp} {m : List Addr}
theorem sqT_of {K : PySem.W.Frag} (fh : ∀ a o, F a = some o → H a = some o) {a : Addr} {vs : List V} (h : SqT K F a vs) : SqT K H a vs := by
  rcases h with (h | ⟨o, h⟩) | h
  · exact .inl (.inl (fh _ _ h))
  · exact .inl (.inr ⟨o, fh _ _ h⟩)
  · exact .inr h
theorem sqL_of {K : PySem.W.Frag} (fh : ∀ a o, F a = some o → H a = some o) {a : Addr} {vs : List V} (h : SqL K F a vs) : SqL K H a vs := by
  rcases h with (h | ⟨o, h⟩) | h
  · exact .inl (.inl (fh _ _ h))
  · exact .inl (.inr ⟨o, fh _ _ h⟩)
  · exact .inr h
mutual
theorem Rep.dp (fh : ∀ a o, F a = some o → H a = some o) : ∀ (n : Nat) (d : D) (v : V), D.plain n d = true → Rep c F m d v → Dp c.K H v (toPy d) := fun n d v hp h => by
  cases d with
  | non => simp [Rep] at h; subst h; exact .non
  | bl b => simp [Rep] at h; subst h; exact .bl b
  | int i => simp [Rep] at h; subst h; exact .int i
  | str x => simp [Rep] at h; subst h; exact .str _
  | tup xs =>
    cases n with
    | zero => simp [D.plain] at hp
    | succ n =>
      simp only [D.plain] at hp
      simp only [Rep] at h
      obtain ⟨a, vs, rfl, s, r⟩ := h
      simp only [toPy]
      exact .tup (sqT_of fh s) (RepL.dp fh n xs vs hp r)
  | lst xs =>
    cases n with
    | zero => simp [D.plain] at hp
    | succ n =>
      simp only [D.plain] at hp
      simp only [Rep] at h
      obtain ⟨a, vs, rfl, s, r⟩ := h
      simp only [toPy]
      exact .lst (SqL.of (fh _ _ s)) (RepL.dp fh n xs vs hp r)
  | dic _ => simp [D.plain] at hp
  | ref _ => simp [D.plain] at hp
  | scr _ => simp [D.plain] at hp
  termination_by n d => sizeOf d
theorem RepL.dp (fh : ∀ a o, F a = some o → H a = some o) : ∀ (n : Nat) (ds : List D) (vs : List V), D.plains n ds = true → RepL c F m ds vs → DpAll c.K H vs (toPys ds)
  | n, [], vs, _, h => by simp only [RepL] at h; subst h; exact .nil
  | n, d :: ds, vs, hp, h => by
    simp only [D.plains, Bool.and_eq_true] at hp
    simp only [RepL] at h
    obtain ⟨v, r, rfl, h1, h2⟩ := h
    simp only [toPys]
    exact .cons (Rep.dp fh n d v hp.1 h1) (RepL.dp fh n ds r hp.2 h2)
  termination_by n ds => sizeOf ds
end
end
section
variable {c : Kx} {g : Gs} {H : Hp} {σ : St}
theorem Bor.of {d : D} {v : V} (h : Rep c g.F g.m d v) : Bor c g H d v := .inl h
theorem Bor.dp (R : Rel c g σ H) {d : D} {v : V} (hp : D.plain 60 d = true) (h : Bor c g H d v) : Dp c.K H v (toPy d) := by
  rcases h with h | ⟨xs, a, vs, rfl, rfl, e, r⟩
  · exact Rep.dp R.b.fh 60 d v hp h
  · simp only [D.plain] at hp
    simp only [toPy]
    exact .lst (SqL.of e) (RepL.dp R.b.fh 59 xs vs hp r)
/-- a list or tuple looked at -/
theorem Bor.lst (R : Rel c g σ H) {xs : List D} {v : V} (h : Bor c g H (.lst xs) v) : ∃ a vs, v = .ref a ∧ H a = some (.lst vs) ∧ RepL c g.F g.m xs vs := by
  rcases h with h | ⟨ys, a, vs, e, rfl, e2, r⟩
  · simp only [Rep] at h
    obtain ⟨a, vs, rfl, s, r⟩ := h
    exact ⟨a, vs, rfl, R.b.fh _ _ s, r⟩
  · cases e; exact ⟨a, vs, rfl, e2, r⟩
theorem Bor.rep {d : D} {v : V} (h : Bor c g H d v) (n : ∀ xs, d ≠ .lst xs) : Rep c g.F g.m d v := by
  rcases h with h | ⟨xs, a, vs, e, _⟩
  · exact h
  · exact absurd e (n xs)
theorem Bor.tup (R : Rel c g σ H) {xs : List D} {v : V} (h : Bor c g H (.tup xs) v) : ∃ a vs, v = .ref a ∧ SqT c.K H a vs ∧ RepL c g.F g.m xs vs := by
  have h := h.rep (fun _ z => by cases z)
  simp only [Rep] at h
  obtain ⟨a, vs, rfl, s, r⟩ := h
  exact ⟨a, vs, rfl, sqT_of R.b.fh s, r⟩
end
theorem flat_rep {c : Kx} {F : Hp} {m : List Addr} {d : D} {v : V} (h : D.flat d = true) (r : Rep c F m d v) : flatV v = true := by
  cases d <;> simp [D.flat] at h <;> simp [Rep] at r <;> subst r <;> rfl
theorem flats_rep {c : Kx} {F : Hp} {m : List Addr} : ∀ {ds : List D} {vs : List V}, ds.all D.flat = true → RepL c F m ds vs → vs.all flatV = true
  | [], vs, _, h => by simp only [RepL] at h; subst h; rfl
  | d :: ds, vs, hf, h => by
    simp only [RepL] at h
    obtain ⟨v, r, rfl, h1, h2⟩ := h
    simp only [List.all_cons, Bool.and_eq_true] at hf ⊢
    exact ⟨flat_rep hf.1 h1, flats_rep hf.2 h2⟩
theorem str_beq (x y : Txt) : (toStr x == toStr y) = (x == y) := by
  rw [Bool.eq_iff_iff]; simp only [beq_iff_eq]; exact ⟨toStr_inj, fun h => by rw [h]⟩
theorem flat_eqV {c : Kx} {F : Hp} {m : List Addr} {d e : D} {v w : V} (h : D.flat d = true) (h' : D.flat e = true) (r : Rep c F m d v) (r' : Rep c F m e w) : eqV v w = D.eqb d e := by
  cases d <;> simp [D.flat] at h <;> cases e <;> simp [D.flat] at h' <;> simp [Rep] at r r' <;> subst r r' <;> first | rfl | (simp only [eqV, D.eqb]; exact str_beq _ _)
theorem flats_any {c : Kx} {F : Hp} {m : List Addr} {d : D} {v : V} (h : D.flat d = true) (r : Rep c F m d v) : ∀ {ds : List D} {vs : List V}, ds.all D.flat = true → RepL c F m ds vs → inV v vs = ds.any fun y => D.eqb y d
  | [], vs, _, h => by simp only [RepL] at h; subst h; rfl
  | e :: ds, vs, hf, h2 => by
    simp only [RepL] at h2
    obtain ⟨w, r', rfl, h1, h2⟩ := h2
    simp only [List.all_cons, Bool.and_eq_true] at hf
    have ih := flats_any h r hf.2 h2
    unfold inV at ih ⊢
    simp only [List.any_cons]
    rw [ih, flat_eqV hf.1 h h1 r]
def copOf : Cop → CmpOp
  | .eq => .Eq | .ne => .NotEq | .lt => .Lt | .le => .LtE | .gt => .Gt | .ge => .GtE | .is_ => .Is | .nis => .IsNot | .in_ => .In | .nin => .NotIn
section
variable {X : Cx} {c : Kx}
def rCop (c : Kx) (f : D → D → Option Bool) : R2 := fun x y H Q => ∃ g σ' a b k, Rel c g σ' H ∧ Bor c g H a x ∧ Bor c g H b y ∧ f a b = some k ∧ Q (.bl k) H
theorem eqo_cases {x y : D} {k : Bool} (h : eqo x y = some k) : (∃ a b, x = .str a ∧ y = .str b ∧ k = (a == b)) ∨ (∃ a b, x = .int a ∧ y = .int b ∧ k = (a == b)) ∨ (∃ a b, x = .bl a ∧ y = .bl b ∧ k = (a == b)) ∨
    (∃ xs, x = .tup xs ∧ y = .tup [] ∧ k = xs.isEmpty) ∨ (D.plain 60 x = true ∧ D.plain 60 y = true ∧ k = D.eqb x y) := by
  unfold eqo at h
  split at h
  · cases h; exact .inl ⟨_, _, rfl, rfl, rfl⟩
  · cases h; exact .inr (.inl ⟨_, _, rfl, rfl, rfl⟩)
  · cases h; exact .inr (.inr (.inl ⟨_, _, rfl, rfl, rfl⟩))
  · cases h; exact .inr (.inr (.inr (.inl ⟨_, rfl, rfl, rfl⟩)))
  · split at h
    · rename_i z
      simp only [Bool.and_eq_true] at z
      cases h
      exact .inr (.inr (.inr (.inr ⟨z.1, z.2, rfl⟩)))
    · cases h
theorem min0_all (n : Nat) (e : Nat → Bool) : ((List.range (min n (#[] : Array Value).size)).all e && n == (#[] : Array Value).size) = (n == 0) := by
  have : (#[] : Array Value).size = 0 := rfl
  rw [this, Nat.min_zero]
  simp
theorem op_eqo (hK : X.K = c.K) (hu : X.A.units + 64 < cLine) : OpR X (compareOp .Eq) (rCop c eqo) := by
  intro pins s σ H x y v u Q I rx ry ⟨g, σ', a, b, k, R, ra, rb, e, q⟩
  rcases eqo_cases e with ⟨i, j, rfl, rfl, rfl⟩ | ⟨i, j, rfl, rfl, rfl⟩ | ⟨i, j, rfl, rfl, rfl⟩ | ⟨xs, rfl, rfl, rfl⟩ | ⟨h1, h2, rfl⟩
  · have ra := ra.rep (fun _ z => by cases z)
    have rb := rb.rep (fun _ z => by cases z)
    simp [Rep] at ra rb; subst ra rb
    refine op_eq pins s σ H _ _ v u Q I rx ry ⟨rfl, ?_⟩
    rw [dec_str, str_beq]; exact q
  · have ra := ra.rep (fun _ z => by cases z)
    have rb := rb.rep (fun _ z => by cases z)
    simp [Rep] at ra rb; subst ra rb
    refine op_eq pins s σ H _ _ v u Q I rx ry ⟨rfl, ?_⟩
    rw [dec_int]; exact q
  · have ra := ra.rep (fun _ z => by cases z)
    have rb := rb.rep (fun _ z => by cases z)
    simp [Rep] at ra rb; subst ra rb
    refine op_eq pins s σ H _ _ v u Q I rx ry ⟨rfl, ?_⟩
    rw [dec_bl]; exact q
  · obtain ⟨l1, vs, rfl, t1, r1⟩ := ra.tup R
    obtain ⟨l2, ws, rfl, t2, r2⟩ := rb.tup R
    simp only [RepL] at r2
    subst r2
    cases rx
    cases ry
    obtain ⟨its1, v1, p1, _⟩ := I.tuple (by rw [hK]; exact t1)
    obtain ⟨its2, v2, p2, _⟩ := I.tuple (by rw [hK]; exact t2)
    cases v2
    refine SeqAt.RcAt.tuples (e := fun _ => true) p1 p2 (by omega) (fun j h1 h2 => absurd h2 (Nat.not_lt_zero _)) X.prog X.w X.xe _ ?_
    rw [min0_all]
    have : (its1.toArray.size == 0) = xs.isEmpty := by
      have h1 := v1.length
      have h2 := repL_length r1
      rw [List.size_toArray, ← h1, h2]
      cases xs <;> rfl
    rw [this]
    exact ⟨.bl _, H, I, rfl, q⟩
  · refine op_eqD hu pins s σ H _ _ v u Q I rx ry ⟨toPy a, toPy b, by rw [hK]; exact ra.dp R h1, by rw [hK]; exact rb.dp R h2, plain_shaped h1, plain_shaped h2, ?_⟩
    rw [toPy_eqv 60 60 a b h1 h2]; exact q
theorem op_neo (hK : X.K = c.K) (hu : X.A.units + 64 < cLine) : OpR X (compareOp .NotEq) (rCop c fun x y => (eqo x y).map (!·)) := by
  intro pins s σ H x y v u Q I rx ry ⟨g, σ', a, b, k, R, ra, rb, e, q⟩
  obtain ⟨k', e', rfl⟩ := Option.map_eq_some_iff.mp e
  rcases eqo_cases e' with ⟨i, j, rfl, rfl, rfl⟩ | ⟨i, j, rfl, rfl, rfl⟩ | ⟨i, j, rfl, rfl, rfl⟩ | ⟨xs, rfl, rfl, rfl⟩ | ⟨h1, h2, rfl⟩
  · have ra := ra.rep (fun _ z => by cases z)
    have rb := rb.rep (fun _ z => by cases z)
    simp [Rep] at ra rb; subst ra rb
    refine op_ne pins s σ H _ _ v u Q I rx ry ⟨rfl, ?_⟩
    rw [dec_str, str_beq]; exact q
  · have ra := ra.rep (fun _ z => by cases z)
    have rb := rb.rep (fun _ z => by cases z)
    simp [Rep] at ra rb; subst ra rb
    refine op_ne pins s σ H _ _ v u Q I rx ry ⟨rfl, ?_⟩
    rw [dec_int]; exact q
  · have ra := ra.rep (fun _ z => by cases z)
    have rb := rb.rep (fun _ z => by cases z)
    simp [Rep] at ra rb; subst ra rb
    refine op_ne pins s σ H _ _ v u Q I rx ry ⟨rfl, ?_⟩
    rw [dec_bl]; exact q
  · obtain ⟨l1, vs, rfl, t1, r1⟩ := ra.tup R
    obtain ⟨l2, ws, rfl, t2, r2⟩ := rb.tup R
    simp only [RepL] at r2
    subst r2
    cases rx
    cases ry
    obtain ⟨its1, v1, p1, _⟩ := I.tuple (by rw [hK]; exact t1)
    obtain ⟨its2, v2, p2, _⟩ := I.tuple (by rw [hK]; exact t2)
    cases v2
    refine SeqAt.RcNeAt.tuples (e := fun _ => true) p1 p2 (by omega) (fun j h1 h2 => absurd h2 (Nat.not_lt_zero _)) X.prog X.w X.xe _ ?_
    rw [min0_all]
    have : (its1.toArray.size == 0) = xs.isEmpty := by
      have h1 := v1.length
      have h2 := repL_length r1
      rw [List.size_toArray, ← h1, h2]
      cases xs <;> rfl
    rw [this]
    exact ⟨.bl _, H, I, rfl, q⟩
  · refine op_neD hu pins s σ H _ _ v u Q I rx ry ⟨toPy a, toPy b, by rw [hK]; exact ra.dp R h1, by rw [hK]; exact rb.dp R h2, plain_shaped h1, plain_shaped h2, ?_⟩
    rw [toPy_eqv 60 60 a b h1 h2]; exact q
theorem op_ino (neg : Bool) (hK : X.K = c.K) (hu : X.A.units + 65 < cLine) {x y : D} {ys : List D} (hy : y = .tup ys ∨ y = .lst ys) (ok : inOk x ys = true)
    {pins : List (Addr × Obj)} {s : Shared} {σ σ' : St} {H : Hp} {g : Gs} {v w : V} {u u' : Value} {Q : VK} (I : Inv X pins σ H s) (R : Rel c g σ' H) (ra : Bor c g H x v) (rb : Bor c g H y w) (rv : RelV v u) (rw' : RelV w u')
    (q : Q (.bl (if neg then !ys.any fun y => D.eqb y x else ys.any fun y => D.eqb y x)) H) : wpAny (model X.prog X.w) X.A (compareOp (if neg then .NotIn else .In) u u') (EP X pins σ Q) X.xe s := by
  unfold inOk at ok
  simp only [Bool.or_eq_true, Bool.and_eq_true] at ok
  obtain ⟨p, vs, e1, hs, r⟩ : ∃ p vs, w = .ref p ∧ (SqL X.K H p vs ∨ SqT X.K H p vs) ∧ RepL c g.F g.m ys vs := by
    rcases hy with rfl | rfl
    · obtain ⟨a, vs, e1, s1, r1⟩ := rb.tup R
      exact ⟨a, vs, e1, .inr (by rw [hK]; exact s1), r1⟩
    · obtain ⟨a, vs, e1, s1, r1⟩ := rb.lst R
      exact ⟨a, vs, e1, .inl (SqL.of s1), r1⟩
  subst e1
  rcases ok with ⟨f1, f2⟩ | ⟨f1, f2⟩
  · have ra := ra.rep (fun _ z => by rw [z] at f1; simp [D.flat] at f1)
    have e := flats_any f1 ra f2 r
    cases neg with
    | true => exact op_notIn_seq pins s σ H _ _ u u' Q I rv rw' ⟨p, vs, rfl, hs, flat_rep f1 ra, flats_rep f2 r, by simp only [if_true] at q ⊢; rw [e]; exact q⟩
    | false => exact op_in_seq pins s σ H _ _ u u' Q I rv rw' ⟨p, vs, rfl, hs, flat_rep f1 ra, flats_rep f2 r, by simp only [Bool.false_eq_true, if_false] at q ⊢; rw [e]; exact q⟩
  · obtain ⟨as, r1⟩ := Dp.reads I (toPy x) v u (by rw [hK]; exact ra.dp R f1) rv
    have l1 := plain_lay 60 x f1
    have l2 := plains_lay 60 ys f2
    have e := toPys_any x 60 f1 60 ys f2
    have hd := RepL.dp R.b.fh 60 ys vs f2 r
    have hu' : X.A.units + 1 + min (PyData.depthAll (toPys ys)) (toPy x).depth < cLine := by have := Nat.min_le_left (PyData.depthAll (toPys ys)) (toPy x).depth; omega
    rcases hs with hs | hs
    · obtain ⟨bs, r2⟩ := Dp.reads I (.list (toPys ys)) (.ref p) u' (.lst hs (by rw [hK]; exact hd)) rw'
      cases neg with
      | true => exact SeqAt.notIn_list_reads r2 r1 l2.1 l1.1 hu' ⟨.bl _, H, I, rfl, by rw [e]; exact q⟩
      | false => exact SeqAt.in_list_reads r2 r1 l2.1 l1.1 hu' ⟨.bl _, H, I, rfl, by rw [e]; exact q⟩
    · obtain ⟨bs, r2⟩ := Dp.reads I (.tuple (toPys ys)) (.ref p) u' (.tup hs (by rw [hK]; exact hd)) rw'
      cases neg with
      | true => exact SeqAt.notIn_tuple_reads r2 r1 l2.1 l1.1 hu' ⟨.bl _, H, I, rfl, by rw [e]; exact q⟩
      | false => exact SeqAt.in_tuple_reads r2 r1 l2.1 l1.1 hu' ⟨.bl _, H, I, rfl, by rw [e]; exact q⟩
theorem Rep.non_iff {F : Hp} {m : List Addr} {d : D} {v : V} (r : Rep c F m d v) : decide (v = .non) = D.isNon d := by
  cases d <;> simp only [Rep] at r
  case non => subst r; rfl
  case bl => subst r; rfl
  case int => subst r; rfl
  case str => subst r; rfl
  case tup => obtain ⟨a, vs, rfl, _⟩ := r; rfl
  case lst => obtain ⟨a, vs, rfl, _⟩ := r; rfl
  case dic => obtain ⟨a, rfl, _⟩ := r; rfl
  case ref => obtain ⟨a, _, rfl⟩ := r; rfl
  case scr => obtain ⟨a, rfl, _⟩ := r; rfl
theorem Bor.non_iff {g : Gs} {H : Hp} {d : D} {v : V} (r : Bor c g H d v) : decide (v = .non) = D.isNon d := by
  rcases r with r | ⟨xs, a, vs, rfl, rfl, _⟩
  · exact r.non_iff
  · rfl
theorem dec_any {p q : Prop} [Decidable p] [Decidable q] (h : p ↔ q) : decide p = decide q := decide_eq_decide.mpr h
theorem WDict.has {kvs : List (D × D)} {a : Addr} (h : WDict c kvs a) (z : Txt) : (∃ es n, L2.KDict c.K c.w a es n) ∧ ∃ r, PySem.W.nsIn c.K a (toStr z) = some r ∧ r.isSome = (dget (.str z) kvs).isSome := by
  refine ⟨h.1, ?_⟩
  obtain ⟨r, hr, hm⟩ := h.2 z
  refine ⟨r, hr, ?_⟩
  cases hg : dget (.str z) kvs with
  | none => rw [hg] at hm; subst hm; rfl
  | some w => rw [hg] at hm; obtain ⟨u, v0, rfl, _⟩ := hm; rfl
theorem Bor.wdict {g : Gs} {H : Hp} {p : D × D} {kvs : List (D × D)} {v : V} (r : Bor c g H (.dic (p :: kvs)) v) : ∃ a, v = .ref a ∧ WDict c (p :: kvs) a := by
  have r := r.rep (fun _ z => by cases z)
  simp only [Rep] at r
  obtain ⟨a, e, h | h⟩ := r
  · cases h.1
  · exact ⟨a, e, h.2⟩
theorem op_cop (o : Cop) (hK : X.K = c.K) (hw : X.w = c.w) (hu : X.A.units + 65 < cLine) : OpR X (compareOp (copOf o)) (rCop c (cop o)) := by
  intro pins s σ H x y v u Q I rx ry ⟨g, σ', a, b, k, R, ra, rb, e, q⟩
  unfold cop at e
  split at e
  case h_1 => exact op_eqo hK (by omega) pins s σ H x y v u Q I rx ry ⟨g, σ', a, b, k, R, ra, rb, e, q⟩
  case h_2 => exact op_neo hK (by omega) pins s σ H x y v u Q I rx ry ⟨g, σ', a, b, k, R, ra, rb, e, q⟩
  case h_3 i j =>
    have ra := ra.rep (fun _ z => by cases z)
    have rb := rb.rep (fun _ z => by cases z)
    simp [Rep] at ra rb; subst ra rb; cases e
    exact op_lt pins s σ H _ _ v u Q I rx ry ⟨_, _, rfl, rfl, q⟩
  case h_4 i j =>
    have ra := ra.rep (fun _ z => by cases z)
    have rb := rb.rep (fun _ z => by cases z)
    simp [Rep] at ra rb; subst ra rb; cases e
    exact op_lt_str pins s σ H _ _ v u Q I rx ry ⟨_, _, rfl, rfl, by rw [dec_any (q := i < j) (by simp [toStr])]; exact q⟩
  case h_5 i j =>
    have ra := ra.rep (fun _ z => by cases z)
    have rb := rb.rep (fun _ z => by cases z)
    simp [Rep] at ra rb; subst ra rb; cases e
    exact op_le pins s σ H _ _ v u Q I rx ry ⟨_, _, rfl, rfl, q⟩
  case h_6 i j =>
    have ra := ra.rep (fun _ z => by cases z)
    have rb := rb.rep (fun _ z => by cases z)
    simp [Rep] at ra rb; subst ra rb; cases e
    exact op_gt pins s σ H _ _ v u Q I rx ry ⟨_, _, rfl, rfl, q⟩
  case h_7 i j =>
    have ra := ra.rep (fun _ z => by cases z)
    have rb := rb.rep (fun _ z => by cases z)
    simp [Rep] at ra rb; subst ra rb; cases e
    exact op_ge pins s σ H _ _ v u Q I rx ry ⟨_, _, rfl, rfl, q⟩
  case h_8 =>
    have rb := rb.rep (fun _ z => by cases z)
    simp [Rep] at rb; subst rb; cases e
    exact op_isN pins s σ H _ _ v u Q I rx ry ⟨rfl, by rw [ra.non_iff]; exact q⟩
  case h_9 =>
    have rb := rb.rep (fun _ z => by cases z)
    simp [Rep] at rb; subst rb; cases e
    exact op_notN pins s σ H _ _ v u Q I rx ry ⟨rfl, by rw [ra.non_iff]; exact q⟩
  case h_10 i j =>
    have ra := ra.rep (fun _ z => by cases z)
    have rb := rb.rep (fun _ z => by cases z)
    simp [Rep] at ra rb; subst ra rb; cases e
    exact op_isBl pins s σ H _ _ v u Q I rx ry ⟨_, _, rfl, rfl, by rw [← Bool.beq_eq_decide_eq]; exact q⟩
  case h_11 i j =>
    have ra := ra.rep (fun _ z => by cases z)
    have rb := rb.rep (fun _ z => by cases z)
    simp [Rep] at ra rb; subst ra rb; cases e
    exact op_notBl pins s σ H _ _ v u Q I rx ry ⟨_, _, rfl, rfl, by rw [← Bool.beq_eq_decide_eq]; exact q⟩
  case h_12 i j =>
    have ra := ra.rep (fun _ z => by cases z)
    have rb := rb.rep (fun _ z => by cases z)
    simp [Rep] at ra rb; subst ra rb; cases e
    exact op_in_sign pins s σ H _ _ v u Q I rx ry ⟨i, toStr j, rfl, rfl, by rw [dec_any (q := i ∈ j) (by simp [toStr])]; exact q⟩
  case h_13 i j =>
    have ra := ra.rep (fun _ z => by cases z)
    have rb := rb.rep (fun _ z => by cases z)
    simp [Rep] at ra rb; subst ra rb; cases e
    exact op_notIn_sign pins s σ H _ _ v u Q I rx ry ⟨i, toStr j, rfl, rfl, by rw [dec_any (q := i ∈ j) (by simp [toStr])]; exact q⟩
  case h_14 ys =>
    split at e
    case isTrue z => cases e; exact op_ino false hK hu (.inl rfl) z I R ra rb rx ry q
    case isFalse z => cases e
  case h_15 ys =>
    split at e
    case isTrue z => cases e; exact op_ino true hK hu (.inl rfl) z I R ra rb rx ry q
    case isFalse z => cases e
  case h_16 ys =>
    split at e
    case isTrue z => cases e; exact op_ino false hK hu (.inr rfl) z I R ra rb rx ry q
    case isFalse z => cases e
  case h_17 ys =>
    split at e
    case isTrue z => cases e; exact op_ino true hK hu (.inr rfl) z I R ra rb rx ry q
    case isFalse z => cases e
  case h_18 z p kvs =>
    have ra := ra.rep (fun _ z => by cases z)
    simp only [Rep] at ra
    obtain ⟨d, rfl, hd⟩ := rb.wdict
    subst ra
    cases e
    obtain ⟨⟨es, n, D⟩, r, hr, hi⟩ := hd.has z
    exact op_in_kd (X := X) (by rw [hK, hw]; exact D) pins s σ H _ _ v u Q I rx ry ⟨_, r, rfl, rfl, by rw [hK]; exact hr, by rw [hi]; exact q⟩
  case h_19 z p kvs =>
    have ra := ra.rep (fun _ z => by cases z)
    simp only [Rep] at ra
    obtain ⟨d, rfl, hd⟩ := rb.wdict
    subst ra
    cases e
    obtain ⟨⟨es, n, D⟩, r, hr, hi⟩ := hd.has z
    exact op_notIn_kd (X := X) (by rw [hK, hw]; exact D) pins s σ H _ _ v u Q I rx ry ⟨_, r, rfl, rfl, by rw [hK]; exact hr, by rw [hi]; exact q⟩
  case h_20 => cases e
end
end Ev
set_option Elab.async false
set_option linter.all false
set_option autoImplicit false
set_option maxRecDepth 100000
namespace Ev
open PySem PySem.Spec PyProof.Rows L2
mutual
/-- as plain, empty dicts within -/
def D.plainq : Nat → D → Bool
  | _, .non => true
  | _, .bl _ => true
  | _, .int _ => true
  | _, .str x => x.all fun k => decide (k < 1114112)
  | _, .dic [] => true
  | n + 1, .tup xs => D.plainqs n xs
  | n + 1, .lst xs => D.plainqs n xs
  | _, _ => false
def D.plainqs : Nat → List D → Bool
  | _, [] => true
  | n, x :: xs => D.plainq n x && D.plainqs n xs
end
mutual
def toPyq : D → PyData
  | .non => .none | .bl b => .bool b | .int i => .int i | .str x => .str (toStr x)
  | .tup xs => .tuple (toPyqs xs) | .lst xs => .list (toPyqs xs)
  | .dic _ => .dict [] | .ref _ => .none | .scr _ => .none
def toPyqs : List D → List PyData
  | [] => []
  | x :: xs => toPyq x :: toPyqs xs
end
/-- repr, where the library tells it -/
def shownD (d : D) : Option Txt := if D.plainq 60 d && PyData.showable (toPyq d) && decide ((PyData.shown (toPyq d)).length ≤ SZ) then some (PyData.shown (toPyq d)).cps.toList else none
mutual
theorem plain_q : ∀ (n : Nat) (x : D), D.plain n x = true → D.plainq n x = true ∧ toPyq x = toPy x := fun n x h => by
  cases x with
  | non => exact ⟨by simp [D.plainq], rfl⟩
  | bl b => exact ⟨by simp [D.plainq], rfl⟩
  | int i => exact ⟨by simp [D.plainq], rfl⟩
  | str z => simp only [D.plain] at h; exact ⟨by simp only [D.plainq]; exact h, rfl⟩
  | tup xs =>
    cases n with
    | zero => simp [D.plain] at h
    | succ n =>
      simp only [D.plain] at h
      have q := plains_q n xs h
      exact ⟨by simp only [D.plainq]; exact q.1, by simp only [toPyq, toPy]; rw [q.2]⟩
  | lst xs =>
    cases n with
    | zero => simp [D.plain] at h
    | succ n =>
      simp only [D.plain] at h
      have q := plains_q n xs h
      exact ⟨by simp only [D.plainq]; exact q.1, by simp only [toPyq, toPy]; rw [q.2]⟩
  | dic _ => simp [D.plain] at h
  | ref _ => simp [D.plain] at h
  | scr _ => simp [D.plain] at h
  termination_by n x => sizeOf x
theorem plains_q : ∀ (n : Nat) (xs : List D), D.plains n xs = true → D.plainqs n xs = true ∧ toPyqs xs = toPys xs
  | n, [], _ => ⟨by simp [D.plainqs], rfl⟩
  | n, x :: xs, h => by
    simp only [D.plains, Bool.and_eq_true] at h
    have q1 := plain_q n x h.1
    have q2 := plains_q n xs h.2
    exact ⟨by simp only [D.plainqs, Bool.and_eq_true]; exact ⟨q1.1, q2.1⟩, by simp only [toPyqs, toPys]; rw [q1.2, q2.2]⟩
  termination_by n xs => sizeOf xs
end
mutual
theorem plainq_depth : ∀ (n : Nat) (x : D), D.plainq n x = true → (toPyq x).depth ≤ n + 1 := fun n x h => by
  cases x with
  | non => simp [toPyq, PyData.depth]
  | bl b => simp [toPyq, PyData.depth]
  | int i => simp [toPyq, PyData.depth]
  | str z => simp [toPyq, PyData.depth]
  | dic kvs => simp [toPyq, PyData.depth, PyData.depthKv]
  | tup xs =>
    cases n with
    | zero => simp [D.plainq] at h
    | succ n =>
      simp only [D.plainq] at h
      have q := plainqs_depth n xs h
      simp only [toPyq, PyData.depth]
      omega
  | lst xs =>
    cases n with
    | zero => simp [D.plainq] at h
    | succ n =>
      simp only [D.plainq] at h
      have q := plainqs_depth n xs h
      simp only [toPyq, PyData.depth]
      omega
  | ref _ => simp [toPyq, PyData.depth]
  | scr _ => simp [toPyq, PyData.depth]
  termination_by n x => sizeOf x
theorem plainqs_depth : ∀ (n : Nat) (xs : List D), D.plainqs n xs = true → PyData.depthAll (toPyqs xs) ≤ n + 1
  | n, [], _ => by simp [toPyqs, PyData.depthAll]
  | n, x :: xs, h => by
    simp only [D.plainqs, Bool.and_eq_true] at h
    have q1 := plainq_depth n x h.1
    have q2 := plainqs_depth n xs h.2
    simp only [toPyqs, PyData.depthAll]
    omega
  termination_by n xs => sizeOf xs
end
/-- where the modules' dict stands there is no list -/
def SmOk (K : PySem.W.Frag) : Prop := ∃ o, K.lookup sysModules = some o ∧ o.cls = .type "dict"
section
variable {X : Cx} {c : Kx} {F H : Hp} {m : List Addr} {pins : List (Addr × Obj)} {σ : St} {s : Shared}
mutual
theorem Rep.readsq (hK : X.K = c.K) (sm : SmOk c.K) (I : Inv X pins σ H s) (fh : ∀ a o, F a = some o → H a = some o) : ∀ (n : Nat) (d : D) (v : V) (u : Value), D.plainq n d = true → Rep c F m d v → RelV v u → ∃ as, Reads s.heap u (toPyq d) as ∧ sysModules ∉ as := fun n d v u hp h r => by
  cases d with
  | non => simp only [Rep] at h; subst h; cases r; exact ⟨[], .none, by simp⟩
  | bl b => simp only [Rep] at h; subst h; cases r; exact ⟨[], .bool b, by simp⟩
  | int i => simp only [Rep] at h; subst h; obtain ⟨t, rfl⟩ := r; exact ⟨[], .int i t, by simp⟩
  | str x => simp only [Rep] at h; subst h; obtain ⟨t, rfl⟩ := r; exact ⟨[], .str _ t, by simp⟩
  | tup xs =>
    cases n with
    | zero => simp [D.plainq] at hp
    | succ n =>
      simp only [D.plainq] at hp
      simp only [Rep] at h
      obtain ⟨a, vs, rfl, sq, rr⟩ := h
      cases r
      obtain ⟨its, rv, ⟨o, ho, hc, k, hd⟩, _⟩ := I.tuple (by rw [hK]; exact sqT_of fh sq)
      obtain ⟨as, q1, q2⟩ := RepL.readsq hK sm I fh n xs vs its hp rr rv
      exact ⟨as, Reads.tuple ho hc hd (by simpa using q1), q2⟩
  | lst xs =>
    cases n with
    | zero => simp [D.plainq] at hp
    | succ n =>
      simp only [D.plainq] at hp
      simp only [Rep] at h
      obtain ⟨a, vs, rfl, sq, rr⟩ := h
      cases r
      obtain ⟨its, rv, ⟨o, k, ho, hc, hx, hd⟩, _⟩ := I.list (SqL.of (K := X.K) (fh _ _ sq))
      obtain ⟨as, q1, q2⟩ := RepL.readsq hK sm I fh n xs vs its hp rr rv
      refine ⟨a :: as, Reads.list ho hc hd (by simpa using q1), fun hm => ?_⟩
      rcases List.mem_cons.mp hm with e | hm
      · obtain ⟨o', l, hc'⟩ := sm
        rw [← hK] at l
        have := I.kIn _ _ l
        rw [e, ho] at this
        cases this
        rw [hc] at hc'
        exact absurd hc' (by decide)
      · exact q2 hm
  | dic kvs =>
    cases kvs with
    | cons => simp [D.plainq] at hp
    | nil =>
      simp only [Rep] at h
      obtain ⟨a, rfl, h | h⟩ := h
      · cases r
        obtain ⟨z, hsm, vs, rel, o, es, ep, ho, hx, hd, hk, hpr, _⟩ := dk_of I.hok (fh _ _ h.2)
        have e0 : vs = [] := by
          have := rel.length
          simpa using this.symm
        subst e0
        have e1 : es.toList = [] := by
          cases q : es.toList with
          | nil => rfl
          | cons e r => rw [q] at hpr; cases hpr
        refine ⟨a :: [] ++ [], Reads.dict ho hx.1 hd (by rw [e1]; exact .nil) (by rw [e1]; exact .nil), fun hm => ?_⟩
        have : sysModules = a := by simpa using hm
        rw [← this] at hsm
        exact absurd hsm (by decide)
      · exact absurd rfl h.1
  | ref _ => simp [D.plainq] at hp
  | scr _ => simp [D.plainq] at hp
  termination_by n d => sizeOf d
theorem RepL.readsq (hK : X.K = c.K) (sm : SmOk c.K) (I : Inv X pins σ H s) (fh : ∀ a o, F a = some o → H a = some o) : ∀ (n : Nat) (ds : List D) (vs : List V) (us : List Value), D.plainqs n ds = true → RepL c F m ds vs → Vals vs us → ∃ as, ReadsAll s.heap us (toPyqs ds) as ∧ sysModules ∉ as
  | n, [], vs, us, _, h, r => by
    simp only [RepL] at h
    subst h
    cases r
    exact ⟨[], .nil, by simp⟩
  | n, d :: ds, vs, us, hp, h, r => by
    simp only [D.plainqs, Bool.and_eq_true] at hp
    simp only [RepL] at h
    obtain ⟨v, vr, rfl, h1, h2⟩ := h
    cases r with
    | cons r1 r2 =>
      obtain ⟨as, q1, q2⟩ := Rep.readsq hK sm I fh n d v _ hp.1 h1 r1
      obtain ⟨bs, q3, q4⟩ := RepL.readsq hK sm I fh n ds vr _ hp.2 h2 r2
      exact ⟨as ++ bs, .cons q1 q3, fun hm => (List.mem_append.mp hm).elim q2 q4⟩
  termination_by n ds => sizeOf ds
end
end
section
variable {X : Cx} {c : Kx} {g : Gs} {σ : St} {H : Hp}
theorem isEmpty_repL {F : Hp} {m : List Addr} {xs : List D} {vs : List V} (r : RepL c F m xs vs) : vs.isEmpty = xs.isEmpty := by
  have := repL_length r
  cases xs <;> cases vs <;> simp_all
theorem truth_ok (hK : X.K = c.K) (R : Rel c g σ H) {d : D} {v : V} {k : Bool} (b : Bor c g H d v) (h : truth d = some k) : TruV X.K v H k := by
  cases d with
  | non => have b := b.rep (fun _ z => by cases z); simp [Rep] at b; subst b; simp [truth] at h; subst h; rfl
  | bl x => have b := b.rep (fun _ z => by cases z); simp [Rep] at b; subst b; simp [truth] at h; subst h; rfl
  | int i =>
    have b := b.rep (fun _ z => by cases z); simp [Rep] at b; subst b; simp only [truth, Option.some.injEq] at h; subst h
    show decide (i ≠ 0) = (i != 0)
    by_cases z : i = 0
    · subst z; rfl
    · simp [z]
  | str x =>
    have b := b.rep (fun _ z => by cases z); simp [Rep] at b; subst b
    simp only [truth] at h
    split at h
    · rename_i z
      simp only [Option.some.injEq] at h; subst h
      refine ⟨by rw [toStr_len, sizeLine_eq]; exact z, ?_⟩
      rw [toStr_len]
      cases x with
      | nil => rfl
      | cons a r =>
        simp only [List.isEmpty_cons, Bool.not_false, List.length_cons]
        symm
        simp
        omega
    · cases h
  | tup xs =>
    obtain ⟨a, vs, rfl, s, r⟩ := b.tup R
    simp only [truth, Option.some.injEq] at h; subst h
    exact .inr (.inl ⟨vs, by rw [hK]; exact s, by rw [isEmpty_repL r]⟩)
  | lst xs =>
    obtain ⟨a, vs, rfl, s, r⟩ := b.lst R
    simp only [truth, Option.some.injEq] at h; subst h
    exact .inl ⟨vs, SqL.of s, by rw [isEmpty_repL r]⟩
  | dic kvs => simp [truth] at h
  | ref n => simp [truth] at h
  | scr ns => simp [truth] at h
theorem atI_eq {α : Type} {xs : List α} {i : Int} {d : α} (h : Ev.atI xs i = some d) : ∃ n, L2.ixN xs.length i = some n ∧ xs[n]? = some d := by
  unfold Ev.atI at h
  unfold L2.ixN
  by_cases h0 : 0 ≤ i
  · rw [if_pos h0] at h ⊢
    have hl := (List.getElem?_eq_some_iff.mp h).1
    exact ⟨i.toNat, by rw [if_pos (by omega)], h⟩
  · rw [if_neg h0] at h ⊢
    by_cases h1 : 0 ≤ i + xs.length
    · rw [if_pos h1] at h
      exact ⟨(i + xs.length).toNat, by rw [if_pos (by omega)], h⟩
    · rw [if_neg h1] at h; cases h
theorem atI_V {F : Hp} {m : List Addr} {xs : List D} {vs : List V} {i : Int} {d : D} (r : RepL c F m xs vs) (h : Ev.atI xs i = some d) : ∃ v, L2.atI vs i = some v ∧ Rep c F m d v := by
  obtain ⟨n, h1, h2⟩ := atI_eq h
  obtain ⟨v, e, rv⟩ := r.get_ h2
  refine ⟨v, ?_, rv⟩
  unfold L2.atI
  rw [repL_length r, h1]; exact e
def rIdx (c : Kx) (W : WX) : R2 := fun x y H Q => ∃ g σ' a b d, Rel c g σ' H ∧ Bor c g H a x ∧ Rep c g.F g.m b y ∧ index a b = some d ∧ AD c W g σ' d Q
theorem ix_idx {W : WX} (hK : X.K = c.K) (hw : X.w = c.w) : IxR X (rIdx c W) := by
  intro value sli pins s σ H x y v u Q I rx ry ⟨g, σ', a, b, d, R, ra, rb, e, q⟩ hs
  unfold index at e
  split at e
  case h_1 ns i =>
    have ra := ra.rep (fun _ z => by cases z)
    simp only [Rep] at ra rb; subst rb
    obtain ⟨p, rfl, sq⟩ := ra
    obtain ⟨n, e', rfl⟩ := Option.map_eq_some_iff.mp e
    obtain ⟨k, h1, h2⟩ := atI_eq e'
    refine ix_list value sli pins s σ H _ _ v u Q I rx ry ⟨p, _, i, .int n, rfl, rfl, by rw [hK]; exact sqL_of R.b.fh sq, ?_, q.here R (by simp [Rep])⟩ hs
    unfold L2.atI
    rw [List.length_map, h1]
    show (ns.map V.int)[k]? = _
    rw [List.getElem?_map, h2]; rfl
  case h_2 xs i =>
    simp only [Rep] at rb; subst rb
    obtain ⟨p, vs, rfl, s1, r1⟩ := ra.tup R
    obtain ⟨w, h1, h2⟩ := atI_V r1 e
    exact ix_tup value sli pins s σ H _ _ v u Q I rx ry ⟨p, vs, i, w, rfl, rfl, by rw [hK]; exact s1, h1, q.here R h2⟩ hs
  case h_3 xs i =>
    simp only [Rep] at rb; subst rb
    obtain ⟨p, vs, rfl, s1, r1⟩ := ra.lst R
    obtain ⟨w, h1, h2⟩ := atI_V r1 e
    exact ix_list value sli pins s σ H _ _ v u Q I rx ry ⟨p, vs, i, w, rfl, rfl, SqL.of s1, h1, q.here R h2⟩ hs
  case h_4 z i =>
    have ra := ra.rep (fun _ z => by cases z)
    simp only [Rep] at ra rb; subst ra rb
    split at e
    case isTrue hz =>
      obtain ⟨n, e', rfl⟩ := Option.map_eq_some_iff.mp e
      obtain ⟨k, h1, h2⟩ := atI_eq e'
      refine ix_str value sli pins s σ H _ _ v u Q I rx ry ⟨toStr z, i, n, rfl, rfl, by rw [toStr_len, sizeLine_eq]; exact hz, ?_, q.here R (by simp [Rep, toStr])⟩ hs
      unfold L2.atI
      show (L2.ixN z.length i).bind (fun j => z[j]?) = some n
      rw [h1]; exact h2
    case isFalse hz => cases e
  case h_5 p kvs k =>
    obtain ⟨a, rfl, ⟨es, n, KD⟩, hd⟩ := ra.wdict
    simp only [Rep] at rb; subst rb
    obtain ⟨r, hr, hm⟩ := hd k
    rw [e] at hm
    obtain ⟨u0, v0, rfl, rv, fl⟩ := hm
    refine ix_kdict value sli pins s σ H _ _ v u Q I rx ry ⟨a, toStr k, v0, rfl, rfl, ⟨es, n, u0, by rw [hK]; exact KD.at_, by rw [hw]; exact KD.lit, by rw [hK]; exact hr, rv⟩, q.here R ?_⟩ hs
    cases d <;> simp only [FlatV] at fl <;> simp only [Rep] <;> exact fl
  case h_6 => cases e
theorem cut_cutV {F : Hp} {m : List Addr} {xs : List D} {vs : List V} (r : RepL c F m xs vs) (lo hi : Option Int) : RepL c F m (cut xs lo hi) (cutV vs lo hi) := by
  unfold cut cutV
  rw [repL_length r]
  have e : ∀ n d o, HT.sIx n d o = Ev.sIx n d o := fun n d o => by cases o <;> rfl
  rw [e, e]
  exact (r.drop_ _).take_ _
def rSli (c : Kx) (W : WX) : V → Option Int → Option Int → Hp → VK → Prop := fun x lo hi H Q => ∃ g σ' a d, Rel c g σ' H ∧ Bor c g H a x ∧ slice a lo hi = some d ∧ AD c W g σ' d Q
theorem sl_sli {W : WX} (hK : X.K = c.K) : SlR X (rSli c W) := by
  intro pins s σ H x v vl vu lo hi sl Q I rx hs pl pu ⟨g, σ', a, d, R, ra, e, q⟩
  unfold slice at e
  split at e
  case h_1 xs =>
    obtain ⟨p, vs, rfl, s1, r1⟩ := ra.tup R
    cases e
    refine sl_tupA pins s σ H _ v vl vu lo hi sl Q I rx hs pl pu ⟨p, vs, rfl, by rw [hK]; exact s1, fun hh => ?_, fun _ p' hp => q.tup R (cut_cutV r1 lo hi) hp⟩
    have ra := ra.rep (fun _ z => by cases z)
    have e : cut xs lo hi = xs := by
      have l := repL_length r1
      have e : ∀ n d o, HT.sIx n d o = Ev.sIx n d o := fun n d o => by cases o <;> rfl
      rw [e, e, l] at hh
      unfold cut
      rw [hh.1, hh.2]; simp
    rw [e] at q
    exact q.here R ra
  case h_2 xs =>
    obtain ⟨p, vs, rfl, s1, r1⟩ := ra.lst R
    cases e
    exact sl_list pins s σ H _ v vl vu lo hi sl Q I rx hs pl pu ⟨p, vs, rfl, SqL.of s1, fun p' hp => q.lst R (cut_cutV r1 lo hi) hp⟩
  case h_3 z =>
    have ra := ra.rep (fun _ z => by cases z)
    simp only [Rep] at ra; subst ra
    split at e
    case isTrue hz =>
      cases e
      refine sl_str pins s σ H _ v vl vu lo hi sl Q I rx hs pl pu ⟨toStr z, rfl, by rw [toStr_len, sizeLine_eq]; exact hz, q.here R ?_⟩
      simp only [Rep, V.str.injEq]
      unfold cutS cut
      have e : ∀ n d o, HT.sIx n d o = Ev.sIx n d o := fun n d o => by cases o <;> rfl
      rw [e, e, toStr_len]
      rfl
    case isFalse hz => cases e
  case h_4 => cases e
end
end Ev
set_option Elab.async false
set_option linter.all false
set_option autoImplicit false
set_option maxRecDepth 100000
namespace Ev
open PySem PySem.Spec PyProof.Rows L2
def rBi (c : Kx) (W : WX) (b : Bi) : List V → Hp → VK → Prop := fun xs H Q => ∃ g σ' ds d, Rel c g σ' H ∧ RepL c g.F g.m ds xs ∧ bip shownD b ds = some d ∧ AD c W g σ' d Q
/-- len of a value looked at -/
def rLen (c : Kx) (W : WX) : List V → Hp → VK → Prop := fun xs H Q => ∃ g σ' a x d, xs = [x] ∧ Rel c g σ' H ∧ Bor c g H a x ∧ bip shownD .len [a] = some d ∧ AD c W g σ' d Q
def biVal : Bi → Value
  | .len => .builtin "len" | .abs => .builtin "abs" | .max2 => .builtin "max" | .min2 => .builtin "min" | .max1 => .builtin "max" | .all => .builtin "all" | .any => .builtin "any"
  | .tuple => .type "tuple" | .str => .type "str" | .int => .type "int" | .divmod => .builtin "divmod" | .sum => .builtin "sum" | .repr => .builtin "repr" | .list => .type "list"
section
variable {X : Cx} {c : Kx} {W : WX}
theorem repL_one {F : Hp} {m : List Addr} {d : D} {vs : List V} (r : RepL c F m [d] vs) : ∃ v, vs = [v] ∧ Rep c F m d v := by
  simp only [RepL] at r
  obtain ⟨v, r, rfl, h, rfl⟩ := r
  exact ⟨v, rfl, h⟩
theorem repL_two {F : Hp} {m : List Addr} {d e : D} {vs : List V} (r : RepL c F m [d, e] vs) : ∃ v w, vs = [v, w] ∧ Rep c F m d v ∧ Rep c F m e w := by
  simp only [RepL] at r
  obtain ⟨v, r, rfl, h, w, t, rfl, h', rfl⟩ := r
  exact ⟨v, w, rfl, h, h'⟩
theorem bi_len (hK : X.K = c.K) : CallR X (.builtin "len") (rLen c W) := by
  intro pins s σ H xs us Q I r ⟨g, σ', a, x, d, e1, R, b, e, q⟩
  subst e1
  cases a with
  | str z =>
    have b := b.rep (fun _ z => by cases z)
    simp only [Rep] at b; subst b
    simp only [bip] at e
    split at e
    case isTrue hz => cases e; exact call_len pins s σ H _ us Q I r ⟨_, z.length, rfl, ⟨by rw [toStr_len, sizeLine_eq]; exact hz, (toStr_len z).symm⟩, q.here R (by simp [Rep])⟩
    case isFalse hz => cases e
  | tup ys =>
    simp only [bip] at e; cases e
    obtain ⟨p, vs, rfl, s1, r1⟩ := b.tup R
    exact call_len pins s σ H _ us Q I r ⟨_, ys.length, rfl, .inr ⟨vs, by rw [hK]; exact s1, (repL_length r1).symm⟩, q.here R (by simp [Rep])⟩
  | lst ys =>
    simp only [bip] at e; cases e
    obtain ⟨p, vs, rfl, s1, r1⟩ := b.lst R
    exact call_len pins s σ H _ us Q I r ⟨_, ys.length, rfl, .inl ⟨vs, SqL.of s1, (repL_length r1).symm⟩, q.here R (by simp [Rep])⟩
  | scr ns =>
    simp only [bip] at e; cases e
    have b := b.rep (fun _ z => by cases z)
    simp only [Rep] at b
    obtain ⟨p, rfl, sq⟩ := b
    exact call_len pins s σ H _ us Q I r ⟨_, ns.length, rfl, .inl ⟨_, by rw [hK]; exact sqL_of R.b.fh sq, by simp⟩, q.here R (by simp [Rep])⟩
  | _ => simp [bip] at e
theorem str_int (i : Int) : (Str.ofString (toString i) : Str) = toStr (intTxt i) := by
  unfold toStr intTxt
  rw [Str.ofString_eq_toList]
theorem div_by {j : Int} (h : j.natAbs.log2 < 9000) (i : Int) : Builtin.divisionGoesByPylong i j = false := PyProof.noPylong_of_log2 h
theorem fold_max : ∀ (r : List Int) (i : Int), (r.foldl max i ∈ i :: r) ∧ ∀ y, y ∈ i :: r → y ≤ r.foldl max i
  | [], i => by simp
  | j :: r, i => by
    obtain ⟨h1, h2⟩ := fold_max r (max i j)
    simp only [List.foldl_cons]
    have h3 := h2 (max i j) (by simp)
    refine ⟨?_, fun y hy => ?_⟩
    · rcases List.mem_cons.mp h1 with e | e
      · rw [e]
        by_cases z : i ≤ j
        · rw [Int.max_eq_right z]; simp
        · rw [Int.max_eq_left (by omega)]; simp
      · simp [e]
    · rcases List.mem_cons.mp hy with e | e
      · subst e; omega
      · rcases List.mem_cons.mp e with e | e
        · subst e; omega
        · exact h2 y (by simp [e])
theorem shownD_some {d : D} {t : Txt} (h : shownD d = some t) : D.plainq 60 d = true ∧ PyData.showable (toPyq d) = true ∧ (PyData.shown (toPyq d)).length ≤ SZ ∧ t = (PyData.shown (toPyq d)).cps.toList := by
  unfold shownD at h
  split at h
  · rename_i z
    simp only [Bool.and_eq_true, decide_eq_true_eq] at z
    cases h
    exact ⟨z.1.1, z.1.2, z.2, rfl⟩
  · cases h
theorem bi_ok (b : Bi) (hK : X.K = c.K) (sm : SmOk c.K) (hc : X.calm = true) (hg : X.A.guards = some []) (hu : X.A.units + 65 < cLine) : CallR X (biVal b) (rBi c W b) := by
  intro pins s σ H xs us Q I r ⟨g, σ', ds, d, R, rs, e, q⟩
  have e0 := e
  unfold bip at e
  split at e
  case h_1 z =>
    obtain ⟨v, rfl, h⟩ := repL_one rs
    exact bi_len (W := W) hK pins s σ H _ us Q I r ⟨g, σ', _, v, d, rfl, R, .inl h, e0, q⟩
  case h_2 z =>
    obtain ⟨v, rfl, h⟩ := repL_one rs
    exact bi_len (W := W) hK pins s σ H _ us Q I r ⟨g, σ', _, v, d, rfl, R, .inl h, e0, q⟩
  case h_3 z =>
    obtain ⟨v, rfl, h⟩ := repL_one rs
    exact bi_len (W := W) hK pins s σ H _ us Q I r ⟨g, σ', _, v, d, rfl, R, .inl h, e0, q⟩
  case h_4 z =>
    obtain ⟨v, rfl, h⟩ := repL_one rs
    exact bi_len (W := W) hK pins s σ H _ us Q I r ⟨g, σ', _, v, d, rfl, R, .inl h, e0, q⟩
  case h_5 i =>
    obtain ⟨v, rfl, h⟩ := repL_one rs
    simp only [Rep] at h; subst h; cases e
    exact call_abs pins s σ H _ us Q I r ⟨i, rfl, q.here R (by simp [Rep])⟩
  case h_6 i j =>
    obtain ⟨v, w, rfl, h, h'⟩ := repL_two rs
    simp only [Rep] at h h'; subst h h'; cases e
    exact call_max2 hc pins s σ H _ us Q I r ⟨i, j, rfl, q.here R (by simp [Rep])⟩
  case h_7 i j =>
    obtain ⟨v, w, rfl, h, h'⟩ := repL_two rs
    simp only [Rep] at h h'; subst h h'; cases e
    exact call_min2 hc pins s σ H _ us Q I r ⟨i, j, rfl, q.here R (by simp [Rep])⟩
  case h_8 ys =>
    obtain ⟨v, rfl, h⟩ := repL_one rs
    simp only [Rep] at h
    obtain ⟨p, vs, rfl, s1, r1⟩ := h
    obtain ⟨is, e1, e2⟩ := Option.bind_eq_some_iff.mp e
    have := r1.ints e1; subst this
    cases is with
    | nil => cases e2
    | cons i t =>
      cases e2
      obtain ⟨f1, f2⟩ := fold_max t i
      refine cr_max hc pins s σ H _ us Q I r ⟨p, i :: t, rfl, SqL.of (R.b.fh _ _ s1), by simp, fun k hk hl => ?_⟩
      have e : k = t.foldl max i := by
        have a1 := hl _ f1
        have a2 := f2 k hk
        omega
      rw [e]
      exact q.here R (by simp [Rep])
  case h_9 ys =>
    obtain ⟨v, rfl, h⟩ := repL_one rs
    simp only [Rep] at h
    obtain ⟨p, vs, rfl, s1, r1⟩ := h
    obtain ⟨bs, e', rfl⟩ := Option.map_eq_some_iff.mp e
    have := r1.bls e'; subst this
    exact cr_all hc pins s σ H _ us Q I r ⟨p, bs, rfl, SqL.of (R.b.fh _ _ s1), q.here R (by simp [Rep])⟩
  case h_10 ys =>
    obtain ⟨v, rfl, h⟩ := repL_one rs
    simp only [Rep] at h
    obtain ⟨p, vs, rfl, s1, r1⟩ := h
    obtain ⟨bs, e', rfl⟩ := Option.map_eq_some_iff.mp e
    have := r1.bls e'; subst this
    exact cr_any hc pins s σ H _ us Q I r ⟨p, bs, rfl, SqL.of (R.b.fh _ _ s1), q.here R (by simp [Rep])⟩
  case h_11 ys =>
    obtain ⟨v, rfl, h⟩ := repL_one rs
    have h0 := h
    simp only [Rep] at h
    obtain ⟨p, vs, rfl, s1, r1⟩ := h
    cases e
    exact call_tupleT pins s σ H _ us Q I r ⟨p, vs, rfl, by rw [hK]; exact sqT_of R.b.fh s1, q.here R h0⟩
  case h_12 ys =>
    obtain ⟨v, rfl, h⟩ := repL_one rs
    simp only [Rep] at h
    obtain ⟨p, vs, rfl, s1, r1⟩ := h
    cases e
    exact call_tuple_of pins s σ H _ us Q I r ⟨p, vs, rfl, .inl ⟨SqL.of (R.b.fh _ _ s1), fun l hl => q.tup R r1 hl⟩⟩
  case h_13 i =>
    obtain ⟨v, rfl, h⟩ := repL_one rs
    simp only [Rep] at h; subst h
    split at e
    case isTrue z =>
      cases e
      refine call_str_int pins s σ H _ us Q I r ⟨i, rfl, z, ?_⟩
      rw [str_int]; exact q.here R (by simp [Rep])
    case isFalse z => cases e
  case h_14 x =>
    obtain ⟨v, rfl, h⟩ := repL_one rs
    simp only [Rep] at h; subst h; cases e
    exact SkE.call_str_str pins s σ H _ us Q I r ⟨_, rfl, q.here R (by simp [Rep])⟩
  case h_15 i =>
    obtain ⟨v, rfl, h⟩ := repL_one rs
    simp only [Rep] at h; subst h; cases e
    exact call_int1 pins s σ H _ us Q I r (.inl ⟨i, rfl, q.here R (by simp [Rep])⟩)
  case h_16 k =>
    obtain ⟨v, rfl, h⟩ := repL_one rs
    simp only [Rep] at h; subst h; cases e
    exact call_int1 pins s σ H _ us Q I r (.inr ⟨k, rfl, q.here R (by simp [Rep])⟩)
  case h_17 i j =>
    obtain ⟨v, w, rfl, h, h'⟩ := repL_two rs
    simp only [Rep] at h h'; subst h h'
    split at e
    case isTrue z =>
      cases e
      exact call_divmodW pins s σ H _ us Q I r ⟨i, j, rfl, ⟨z.1, div_by z.2 i⟩, fun p hp => q.tup R (RepL.cons_ (by simp [Rep]) (RepL.cons_ (by simp [Rep]) (by simp [RepL]))) hp⟩
    case isFalse z => cases e
  case h_18 ys =>
    obtain ⟨v, rfl, h⟩ := repL_one rs
    simp only [Rep] at h
    obtain ⟨p, vs, rfl, s1, r1⟩ := h
    obtain ⟨is, e', rfl⟩ := Option.map_eq_some_iff.mp e
    have := r1.ints e'; subst this
    exact cr_sum hc pins s σ H _ us Q I r ⟨p, is, rfl, SqL.of (R.b.fh _ _ s1), q.here R (by simp [Rep])⟩
  case h_19 x =>
    obtain ⟨v, rfl, h⟩ := repL_one rs
    obtain ⟨t, e', rfl⟩ := Option.map_eq_some_iff.mp e
    obtain ⟨hp, hs, hl, rfl⟩ := shownD_some e'
    have hsz : (PyData.shown (toPyq x)).length ≤ sizeLine := by rw [sizeLine_eq]; exact hl
    have fin : ∀ tk, EP X pins σ Q (.str (PyData.shown (toPyq x)) tk) { s with toks := s.toks + 1 } := fun tk => ⟨.str _, H, I.tok _, ⟨_, rfl⟩, q.here R (by simp [Rep, toStr])⟩
    obtain ⟨u, rfl, rv⟩ := vals1 r
    have hdep := plainq_depth 60 x hp
    have deep : ∀ a, u = .ref a → wpAny (model X.prog X.w) X.A (call (.builtin "repr") [u]) (EP X pins σ Q) X.xe s := fun a ea => by
      subst ea
      obtain ⟨as, hr, hsm⟩ := Rep.readsq hK sm I R.b.fh 60 x v (.ref a) hp h rv
      exact repr_of_reads' hr hs (fun _ => hsm) hg (by omega) (fun _ _ e => e) (fun h' u tk hk => ⟨.str _, H, I.kept (t' := tk) hk, ⟨_, rfl⟩, q.here R (by simp [Rep, toStr])⟩) hsz
    cases x with
    | non => simp only [Rep] at h; subst h; cases rv; exact P.repr_of_none (fin _)
    | bl b => simp only [Rep] at h; subst h; cases rv; exact P.repr_of_bool (fin _)
    | int i => simp only [Rep] at h; subst h; obtain ⟨t, rfl⟩ := rv; exact P.repr_of_int (by simpa [toPyq, PyData.showable] using hs) (fin _)
    | str z => simp only [Rep] at h; subst h; obtain ⟨t, rfl⟩ := rv; exact P.repr_of_str (fin _) hsz
    | tup ys => simp only [Rep] at h; obtain ⟨a, vs, rfl, _⟩ := h; exact deep a rv
    | lst ys => simp only [Rep] at h; obtain ⟨a, vs, rfl, _⟩ := h; exact deep a rv
    | dic _ => simp only [Rep] at h; obtain ⟨a, rfl, _⟩ := h; exact deep a rv
    | ref _ => simp [D.plainq] at hp
    | scr _ => simp [D.plainq] at hp
  case h_20 => cases e
end
end Ev
set_option Elab.async false
set_option linter.all false
set_option autoImplicit false
set_option maxRecDepth 100000
namespace Ev
open PySem PySem.Spec PyProof.Rows L2
def tyNm : Ty → String
  | .str => "str" | .tuple => "tuple" | .list => "list" | .int => "int" | .bool => "bool" | .dict => "dict"
def tyOf : D → String
  | .non => "NoneType" | .bl _ => "bool" | .int _ => "int" | .str _ => "str" | .tup _ => "tuple" | .lst _ => "list" | .dic _ => "dict" | .ref _ => "list" | .scr _ => "list"
theorem kit_all (t : Ty) (d : D) (b : Bool) (h : isTy t d = some b) : kitB (tyOf d) (tyNm t) = some b := by
  cases t <;> cases d <;> simp [isTy] at h <;> subst h <;> (simp only [tyOf, tyNm]; decide +kernel)
section
variable {X : Cx} {c : Kx} {W : WX}
theorem Bor.ty {g : Gs} {σ : St} {H : Hp} (hK : X.K = c.K) (R : Rel c g σ H) {d : D} {v : V} (b : Bor c g H d v) (n1 : ∀ n, d ≠ .ref n) (n2 : ∀ ns, d ≠ .scr ns) : TyX X.K H v (.type (tyOf d)) := by
  cases d with
  | non => have b := b.rep (fun _ z => by cases z); simp only [Rep] at b; subst b; exact .base .non
  | bl x => have b := b.rep (fun _ z => by cases z); simp only [Rep] at b; subst b; exact .base (.bl x)
  | int i => have b := b.rep (fun _ z => by cases z); simp only [Rep] at b; subst b; exact .base (.int i)
  | str z => have b := b.rep (fun _ z => by cases z); simp only [Rep] at b; subst b; exact .base (.str _)
  | tup xs =>
    obtain ⟨a, vs, rfl, s, r⟩ := b.tup R
    rw [← hK] at s
    rcases s with (h | ⟨o, h⟩) | ⟨o, its, n, h, hc, _⟩
    · exact .base (.tup h)
    · exact .fTuple h
    · exact .kTuple h hc
  | lst xs =>
    obtain ⟨a, vs, rfl, s, r⟩ := b.lst R
    exact .base (.lst s)
  | dic kvs =>
    have b := b.rep (fun _ z => by cases z)
    simp only [Rep] at b
    obtain ⟨a, rfl, b2⟩ := b
    rcases b2 with ⟨_, h⟩ | h
    · exact .base (.dK (R.b.fh _ _ h))
    · obtain ⟨_, ⟨es, n, KD⟩, _⟩ := h
      exact .kDict (by rw [hK]; exact KD.at_) rfl
  | ref n => exact absurd rfl (n1 n)
  | scr ns => exact absurd rfl (n2 ns)
/-- isinstance(x, T) by values: what is asked -/
def rIsi1 (c : Kx) (t : Ty) : List V → Hp → VK → Prop := fun xs H Q => ∃ g σ' a x k, xs = [x, .ty (tyNm t)] ∧ Rel c g σ' H ∧ Bor c g H a x ∧ isTy t a = some k ∧ Q (.bl k) H
theorem isi_ok (t : Ty) (hK : X.K = c.K) : CallR X (.builtin "isinstance") (rIsi1 c t) := by
  intro pins s σ H xs us Q I r ⟨g, σ', a, x, k, e1, R, b, e, q⟩
  subst e1
  refine call_isi pins s σ H _ us Q I r ⟨x, .ty (tyNm t), .type (tyOf a), .type (tyNm t), k, rfl, .ty _, b.ty hK R (fun n z => ?_) (fun ns z => ?_), kit_ty (kit_all t a k e), q⟩
  · subst z; simp [isTy] at e
  · subst z; simp [isTy] at e
def rListF (c : Kx) (W : WX) : List V → Hp → VK → Prop := fun xs H Q => ∃ g σ' d ys, Rel c g σ' H ∧ RepL c g.F g.m [d] xs ∧ (d = .tup ys ∨ d = .lst ys) ∧ ∀ a H'', Rel c g σ' H'' → Loose c g σ' H'' ys a → Q (.ref a) H''
theorem list_ok (hK : X.K = c.K) : CallR X (.type "list") (rListF c W) := by
  intro pins s σ H xs us Q I r ⟨g, σ', d, ys, R, rs, hd, q⟩
  obtain ⟨v, rfl, h⟩ := repL_one rs
  rcases hd with rfl | rfl
  · simp only [Rep] at h
    obtain ⟨p, vs, rfl, s1, r1⟩ := h
    exact call_list_of pins s σ H _ us Q I r ⟨p, vs, rfl, .inr (by rw [hK]; exact sqT_of R.b.fh s1), fun l hl => q l _ (R.grow0 hl) (R.loose hl r1)⟩
  · simp only [Rep] at h
    obtain ⟨p, vs, rfl, s1, r1⟩ := h
    exact call_list_of pins s σ H _ us Q I r ⟨p, vs, rfl, .inl (SqL.of (R.b.fh _ _ s1)), fun l hl => q l _ (R.grow0 hl) (R.loose hl r1)⟩
theorem joinT_eq (sep : Txt) : ∀ ts : List Txt, Str.join (toStr sep) (ts.map toStr) = toStr (joinT sep ts)
  | [] => rfl
  | [x] => rfl
  | x :: y :: r => by
    have ih := joinT_eq sep (y :: r)
    show toStr x ++ toStr sep ++ Str.join (toStr sep) ((y :: r).map toStr) = _
    rw [ih, toStr_app, toStr_app]
    rfl
theorem joinLen_eq (n : Nat) : ∀ ts : List Txt, ((ts.map toStr).map (·.length)).sum + (ts.map toStr).length * n = joinLen n ts
  | [] => by simp [joinLen]
  | x :: r => by
    have ih := joinLen_eq n r
    simp only [List.map_cons, List.sum_cons, List.length_cons, joinLen]
    rw [toStr_len, ← ih, Nat.add_mul]
    omega
def rMt (c : Kx) (W : WX) (mt : Mt) (T : Ty) : V → List V → Hp → VK → Prop := fun x xs H Q => ∃ g σ' a ds d, Rel c g σ' H ∧ Rep c g.F g.m a x ∧ RepL c g.F g.m ds xs ∧ tyOf a = tyNm T ∧ mtp mt a ds = some d ∧ AD c W g σ' d Q
theorem mtp_one {mt : Mt} {a d : D} {ds : List D} (h : mtp mt a ds = some d) : ∃ x, ds = [x] := by
  cases ds with
  | nil => cases mt <;> cases a <;> simp [mtp] at h
  | cons x r =>
    cases r with
    | nil => exact ⟨x, rfl⟩
    | cons y t => cases mt <;> cases a <;> simp [mtp] at h
theorem mt_ok_join (hK : X.K = c.K) : MtR X "str.join" (rMt c W .join .str) := by
  intro pins s σ H x xs v us Q I rx rs ⟨g, σ', a, ds, d, R, ra, rds, ty, e, q⟩
  cases a <;> simp [tyOf, tyNm] at ty
  rename_i sep
  simp only [Rep] at ra; subst ra
  obtain ⟨y, rfl⟩ := mtp_one e
  obtain ⟨v', rfl, h⟩ := repL_one rds
  cases y <;> simp [mtp] at e
  rename_i ys
  simp only [Rep] at h
  obtain ⟨p, vs, rfl, s1, r1⟩ := h
  obtain ⟨ts, e1, e2⟩ := Option.bind_eq_some_iff.mp e
  have := r1.txts e1; subst this
  split at e2
  case isFalse z => cases e2
  case isTrue z =>
  cases e2
  refine mt_join pins s σ H _ _ v us Q I rx rs ⟨toStr sep, p, ts.map toStr, rfl, rfl, .inl (SqL.of (R.b.fh _ _ (by rw [List.map_map]; exact s1))), ?_, ?_⟩
  · rw [toStr_len, joinLen_eq]; exact z
  · rw [TL.join_eq, joinT_eq]; exact q.here R (by simp [Rep])
end
end Ev
set_option Elab.async false
set_option linter.all false
set_option autoImplicit false
set_option maxRecDepth 100000
namespace Ev
open PySem PySem.Spec PyProof.Rows L2
section
variable (c : Kx) (W : WX)
/-- .. of a thing looked at only -/
def tBo (m : M D) : TE := fun σ H Q => ∃ g, Rel c g σ H ∧ After c W g σ (m g.ρ g.S) fun d g' H' => ∀ v, Bor c g' H' d v → Q v H'
/-- .. of what leaves the heap's objects as they are -/
def tSi (m : M D) : TE := fun σ H Q => ∃ g, Rel c g σ H ∧ After c W g σ (m g.ρ g.S) fun d g' H' => (∀ a o, H a = some o → H' a = some o) → ∀ v, Rep c g'.F g'.m d v → Q v H'
end
section
variable {X : Cx} {c : Kx} {W : WX} {pos : Pos} {a b e : Expr} {ma mb m : M D} {g g' : Gs} {σ : St} {H H' : Hp}
theorem Bor.keep {d : D} {v : V} (h : Bor c g H d v) (x : GExt g g') (k : ∀ a o, H a = some o → H' a = some o) : Bor c g' H' d v := by
  rcases h with h | ⟨xs, a, vs, e1, e2, h1, h2⟩
  · exact .inl (h.ext x.e)
  · exact .inr ⟨xs, a, vs, e1, e2, k _ _ h1, h2.ext x.e⟩
theorem PE.toBo (h : PE X e (tM c W m)) : PE X e (tBo c W m) := PE.weak h fun σ H Q ⟨g, R, h⟩ => ⟨g, R, h.imp fun d g' H' x R' h v r => h v (.inl r)⟩
theorem PE.ofSi (h : PE X e (tSi c W m)) : PE X e (tM c W m) := by
  refine PE.weak h fun σ H Q ⟨g, R, h⟩ => ⟨g, R, h.imp fun d g' H' x R' h _ v r => h v r⟩
theorem ok_bvar {i : Nat} {x : Str} (hN : X.N[i]? = some x) (hv : Vis X.env.scope x) (hd : (x == ("__debug__" : Str)) = false) (hcd : (x == ("__classdict__" : Str)) = false) : PE X (.Name x pos) (tBo c W (mBor i)) := by
  refine PE.weak (pe_var hN hv hd hcd) fun σ H Q ⟨g, R, h⟩ => ?_
  unfold mBor at h
  cases e : g.ρ[i]? with
  | none => rw [e] at h; exact h.elim
  | some o =>
    cases o with
    | none => rw [e] at h; exact h.elim
    | some s =>
      cases s with
      | fz d =>
        rw [e] at h
        obtain ⟨v, e1, r⟩ := R.sf i d e
        exact ⟨v, e1, h g H rfl rfl .refl R v (.inl r)⟩
      | ow xs =>
        rw [e] at h
        obtain ⟨a, vs, e1, h1, r, _⟩ := R.so i xs e
        exact ⟨.ref a, e1, h g H rfl rfl .refl R _ (.inr ⟨xs, a, vs, rfl, rfl, h1, r⟩)⟩
      | ex x => rw [e] at h; exact h.elim
theorem ok_svar {i : Nat} {x : Str} (hN : X.N[i]? = some x) (hv : Vis X.env.scope x) (hd : (x == ("__debug__" : Str)) = false) (hcd : (x == ("__classdict__" : Str)) = false) : PE X (.Name x pos) (tSi c W (mVar i)) := by
  refine PE.weak (pe_var hN hv hd hcd) fun σ H Q ⟨g, R, h⟩ => ?_
  unfold mVar at h
  cases e : g.ρ[i]? with
  | none => rw [e] at h; exact h.elim
  | some o =>
    cases o with
    | none => rw [e] at h; exact h.elim
    | some s =>
      cases s with
      | fz d =>
        rw [e] at h
        obtain ⟨v, e1, r⟩ := R.sf i d e
        exact ⟨v, e1, h g H rfl rfl .refl R (fun _ _ z => z) v r⟩
      | ow xs =>
        rw [e] at h
        obtain ⟨a, F', e1, R', ex, r⟩ := R.freezeSlot e
        exact ⟨.ref a, e1, After.app h R' ex rfl rfl (fun _ _ z => z) _ r⟩
      | ex x => rw [e] at h; exact h.elim
theorem ok_scst {e : Expr} {v : V} {d : D} (h : PE X e (tC v)) (r : ∀ F m, Rep c F m d v) : PE X e (tSi c W (M.pure d)) :=
  PE.weak h fun σ H Q ⟨g, R, q⟩ => q g H rfl rfl .refl R (fun _ _ z => z) v (r _ _)
theorem ok_snil : PE X (.List [] pos) (tSi c W (M.pure (.lst []))) := by
  refine PE.weak (pe_lst pa_nil) fun σ H Q ⟨g, R, h⟩ => ⟨by show 0 ≤ sizeLine; decide, fun p hp => ?_⟩
  obtain ⟨R2, x2⟩ := R.grow (o := .lst []) hp
  refine After.app h R2 x2 rfl rfl (fun a o z => by rw [upd_ne (ne_of_none z hp)]; exact z) (.ref p) ?_
  simp only [Rep]
  exact ⟨p, [], rfl, upd_same, by simp [RepL]⟩
theorem ok_sdct (hc : X.calm = true) : PE X (.Dict [] [] pos) (tSi c W (M.pure (.dic []))) := by
  refine PE.weak pe_dnewK fun σ H Q ⟨g, R, h⟩ => fun p hp => ?_
  obtain ⟨R2, x2⟩ := R.grow (o := .dK []) hp
  refine After.app h R2 x2 rfl rfl (fun a o z => by rw [upd_ne (ne_of_none z hp)]; exact z) (.ref p) ?_
  show ∃ a, V.ref p = .ref a ∧ _
  exact ⟨p, rfl, .inl ⟨rfl, upd_same⟩⟩
theorem ok_bin {o : Bop} (hK : X.K = c.K) (ha : PE X a (tM c W ma)) (hb : PE X b (tM c W mb)) : PE X (.BinOp a (bopOf o) b pos) (tM c W (M.bind ma fun x => M.bind mb fun y => M.of (bop o x y))) := by
  refine PE.weak (pe_op (op_bop (c := c) (W := W) o hK) ha hb) fun σ H Q ⟨g, R, h⟩ => ⟨g, R, (After.bind h).imp fun x g1 H1 x1 R1 h1 v r => ⟨g1, R1, (After.bind h1).imp fun y g2 H2 x2 R2 h2 u r' => ?_⟩⟩
  obtain ⟨d, e, q⟩ := After.of h2
  exact ⟨g2, σ, x, y, d, R2, r.ext x2.e, r', e, q⟩
theorem ok_neg (ha : PE X a (tM c W ma)) : PE X (.UnaryOp .USub a pos) (tM c W (M.bind ma fun x => match x with | .int i => M.pure (.int (-i)) | _ => M.bad)) := by
  refine PE.weak (pe_un un_neg ha) fun σ H Q ⟨g, R, h⟩ => ⟨g, R, (After.bind h).imp fun x g1 H1 x1 R1 h1 v r => ?_⟩
  cases x with
  | int i =>
    simp only [Rep] at r; subst r
    exact ⟨i, rfl, h1 g1 H1 rfl rfl .refl R1 _ (by simp [Rep])⟩
  | _ => exact h1.elim
section
variable (hK : X.K = c.K) (hw : X.w = c.w) (hu : X.A.units + 65 < cLine)
include hK hw hu
/-- a comparison as a value -/
theorem ok_cmp (o : Cop) (ha : PE X a (tM c W ma)) (hb : PE X b (tBo c W mb)) (hm : behindInMarks (copOf o) b = false) : PE X (.Compare a [copOf o] [b] pos) (tM c W (M.bind ma fun x => M.bind mb fun y => M.bind (M.of (cop o x y)) fun l => M.pure (.bl l))) := by
  refine PE.weak (pe_cmpR (op_cop (c := c) o hK hw hu) ha hb hm) fun σ H Q ⟨g, R, h⟩ => ⟨g, R, (After.bind h).imp fun x g1 H1 x1 R1 h1 v r => ⟨g1, R1, (After.bind h1).imp fun y g2 H2 x2 R2 h2 u r' => ?_⟩⟩
  obtain ⟨l, e, q⟩ := After.of (After.bind h2)
  exact ⟨g2, σ, x, y, l, R2, .inl (r.ext x2.e), r', e, After.pure (After.app q R2 .refl rfl rfl) R2 _ (by simp [Rep])⟩
theorem ok_cmp2 (o : Cop) (ha : PE X a (tBo c W ma)) (hb : PE X b (tSi c W mb)) (hm : behindInMarks (copOf o) b = false) : PE X (.Compare a [copOf o] [b] pos) (tM c W (M.bind ma fun x => M.bind mb fun y => M.bind (M.of (cop o x y)) fun l => M.pure (.bl l))) := by
  refine PE.weak (pe_cmpR (op_cop (c := c) o hK hw hu) ha hb hm) fun σ H Q ⟨g, R, h⟩ => ⟨g, R, (After.bind h).imp fun x g1 H1 x1 R1 h1 v r => ⟨g1, R1, (After.bind h1).imp fun y g2 H2 x2 R2 h2 kp u r' => ?_⟩⟩
  obtain ⟨l, e, q⟩ := After.of (After.bind h2)
  exact ⟨g2, σ, x, y, l, R2, r.keep x2 kp, .inl r', e, After.pure (After.app q R2 .refl rfl rfl) R2 _ (by simp [Rep])⟩
/-- .. as a test -/
theorem okT_cmp (o : Cop) (ha : PE X a (tM c W ma)) (hb : PE X b (tBo c W mb)) (hm : behindInMarks (copOf o) b = false) : PT X (.Compare a [copOf o] [b] pos) (tB c W (M.bind (M.bind ma fun x => M.bind mb fun y => M.bind (M.of (cop o x y)) fun l => M.pure (.bl l)) mTruth)) := by
  refine PT.weak (pt_cmpR (op_cop (c := c) o hK hw hu) ha hb hm) fun σ H Q ⟨g, R, h⟩ => ⟨g, R, (After.bind (After.bind h)).imp fun x g1 H1 x1 R1 h1 v r => ⟨g1, R1, (After.bind h1).imp fun y g2 H2 x2 R2 h2 u r' => ?_⟩⟩
  obtain ⟨l, e, q⟩ := After.of (After.bind h2)
  have q2 := After.pure (After.app q R2 .refl rfl rfl) R2
  exact ⟨g2, σ, x, y, l, R2, .inl (r.ext x2.e), r', e, l, rfl, q2 g2 H2 rfl rfl .refl R2⟩
theorem okT_cmp2 (o : Cop) (ha : PE X a (tBo c W ma)) (hb : PE X b (tSi c W mb)) (hm : behindInMarks (copOf o) b = false) : PT X (.Compare a [copOf o] [b] pos) (tB c W (M.bind (M.bind ma fun x => M.bind mb fun y => M.bind (M.of (cop o x y)) fun l => M.pure (.bl l)) mTruth)) := by
  refine PT.weak (pt_cmpR (op_cop (c := c) o hK hw hu) ha hb hm) fun σ H Q ⟨g, R, h⟩ => ⟨g, R, (After.bind (After.bind h)).imp fun x g1 H1 x1 R1 h1 v r => ⟨g1, R1, (After.bind h1).imp fun y g2 H2 x2 R2 h2 kp u r' => ?_⟩⟩
  obtain ⟨l, e, q⟩ := After.of (After.bind h2)
  have q2 := After.pure (After.app q R2 .refl rfl rfl) R2
  exact ⟨g2, σ, x, y, l, R2, r.keep x2 kp, .inl r', e, l, rfl, q2 g2 H2 rfl rfl .refl R2⟩
end
end
end Ev
set_option Elab.async false
set_option linter.all false
set_option autoImplicit false
set_option maxRecDepth 100000
namespace Ev
open PySem PySem.Spec PyProof.Rows L2
/-- a value's truth -/
def mT (m : M D) : M Bool := M.bind m mTruth
section
variable {α β γ : Type}
theorem M.assoc (m : M α) (f : α → M β) (k : β → M γ) : M.bind (M.bind m f) k = M.bind m fun a => M.bind (f a) k := by
  funext ρ S
  unfold M.bind Res.bind
  cases m ρ S <;> rfl
theorem M.pure_bind (a : α) (f : α → M β) : M.bind (M.pure a) f = f a := rfl
theorem M.bind_congr {m : M α} {f k : α → M β} (h : ∀ a, f a = k a) : M.bind m f = M.bind m k := by
  have : f = k := funext h
  rw [this]
end
def mNot (ma : M D) : M D := M.bind ma fun x => M.bind (mTruth x) fun k => M.pure (.bl (!k))
theorem mT_not (ma : M D) : mT (mNot ma) = M.bind (mT ma) fun k => M.pure (!k) := by
  unfold mT mNot
  rw [M.assoc, M.assoc]
  refine M.bind_congr fun x => ?_
  rw [M.assoc]
  rfl
def mAnd (ma mb : M D) : M D := M.bind ma fun x => M.bind (mTruth x) fun k => if k then mb else M.pure x
def mOr (ma mb : M D) : M D := M.bind ma fun x => M.bind (mTruth x) fun k => if k then M.pure x else mb
def mIte (mt ma mb : M D) : M D := M.bind mt fun x => M.bind (mTruth x) fun k => if k then ma else mb
theorem mT_and (ma mb : M D) : mT (mAnd ma mb) = M.bind (mT ma) fun k => if k then mT mb else M.pure false := by
  unfold mT mAnd
  rw [M.assoc, M.assoc]
  refine M.bind_congr fun x => ?_
  rw [M.assoc]
  funext ρ S
  unfold M.bind Res.bind mTruth M.of
  cases e : truth x with
  | none => rfl
  | some k =>
    cases k with
    | true => rfl
    | false => simp only [Bool.false_eq_true, if_false]; unfold M.pure; simp only [e]; rfl
theorem mT_or (ma mb : M D) : mT (mOr ma mb) = M.bind (mT ma) fun k => if k then M.pure true else mT mb := by
  unfold mT mOr
  rw [M.assoc, M.assoc]
  refine M.bind_congr fun x => ?_
  rw [M.assoc]
  funext ρ S
  unfold M.bind Res.bind mTruth M.of
  cases e : truth x with
  | none => rfl
  | some k =>
    cases k with
    | false => rfl
    | true => simp only [if_true]; unfold M.pure; simp only [e]; rfl
theorem mIte_eq (mt ma mb : M D) : mIte mt ma mb = M.bind (mT mt) fun k => if k then ma else mb := by
  unfold mT mIte
  rw [M.assoc]
section
variable {X : Cx} {c : Kx} {W : WX} {pos : Pos} {a b e t d : Expr} {es rest : List Expr} {ma mb mc m mt : M D} {ms : M (List D)} {g g' : Gs} {σ : St} {H H' : Hp}
theorem tr (hK : X.K = c.K) {d : D} {v : V} {ok : Bool → Gs → Hp → Prop} (R : Rel c g σ H) (r : Bor c g H d v) (h : After c W g σ (mTruth d g.ρ g.S) ok) : ∃ k, TruV X.K v H k ∧ truth d = some k ∧ ok k g H := by
  obtain ⟨k, e, q⟩ := After.of h
  exact ⟨k, truth_ok hK R r e, e, After.app q R .refl rfl rfl⟩
/-- a test by truth -/
theorem okT_truth (hK : X.K = c.K) (ha : PE X a (tM c W ma)) (he : ∀ whole, isTrue a X.env whole = (do let v ← whole; standAt a.pos; holding [v] (truthy v))) : PT X a (tB c W (mT ma)) := by
  refine PT.weak (pt_truth ha he) fun σ H Q ⟨g, R, h⟩ => ⟨g, R, (After.bind h).imp fun x g1 H1 x1 R1 h1 v r => ?_⟩
  obtain ⟨k, t, _, q⟩ := tr hK R1 (.inl r) h1
  exact ⟨k, t, q⟩
theorem ok_not (hK : X.K = c.K) (ha : PE X a (tM c W ma)) : PE X (.UnaryOp .Not a pos) (tM c W (mNot ma)) := by
  refine PE.weak (pe_notT ha) fun σ H Q ⟨g, R, h⟩ => ⟨g, R, (After.bind h).imp fun x g1 H1 x1 R1 h1 v r => ?_⟩
  obtain ⟨k, t, _, q⟩ := tr hK R1 (.inl r) (After.bind h1)
  exact ⟨k, t, After.pure q R1 _ (by simp [Rep])⟩
theorem okT_not (ha : PT X a (tB c W (mT ma))) : PT X (.UnaryOp .Not a pos) (tB c W (mT (mNot ma))) := by
  rw [mT_not]
  exact PT.weak (pt_not ha) fun σ H Q ⟨g, R, h⟩ => ⟨g, R, (After.bind h).imp fun k g1 H1 x1 R1 h1 => After.pure h1 R1⟩
theorem ok_one {op : BoolOp} (ha : PE X a (tM c W ma)) : PE X (.BoolOp op [a] pos) (tM c W ma) := pe_one ha
theorem ok_and (hK : X.K = c.K) (ha : PE X a (tM c W ma)) (hb : PE X (.BoolOp .And (b :: rest) pos) (tM c W mb)) : PE X (.BoolOp .And (a :: b :: rest) pos) (tM c W (mAnd ma mb)) := by
  refine PE.weak (pe_andT ha hb) fun σ H Q ⟨g, R, h⟩ => ⟨g, R, (After.bind h).imp fun x g1 H1 x1 R1 h1 v r => ?_⟩
  obtain ⟨k, t, _, q⟩ := tr hK R1 (.inl r) (After.bind h1)
  refine ⟨k, t, ?_⟩
  cases k with
  | true => exact ⟨g1, R1, q⟩
  | false => exact After.pure q R1 v r
theorem okW_one_and (ha : PT X a (tB c W (mT ma))) : PW X (.BoolOp .And [a] pos) (tB c W (mT ma)) := pw_and1 ha
theorem okW_one_or (ha : PT X a (tB c W (mT ma))) : PW X (.BoolOp .Or [a] pos) (tB c W (mT ma)) := pw_or1 ha
theorem okW_and (ha : PT X a (tB c W (mT ma))) (hb : PW X (.BoolOp .And (b :: rest) pos) (tB c W (mT mb))) : PW X (.BoolOp .And (a :: b :: rest) pos) (tB c W (mT (mAnd ma mb))) := by
  rw [mT_and]
  refine PW.weak (pw_and ha hb) fun σ H Q ⟨g, R, h⟩ => ⟨g, R, (After.bind h).imp fun k g1 H1 x1 R1 h1 => ?_⟩
  cases k with
  | true => exact ⟨g1, R1, h1⟩
  | false => exact After.pure h1 R1
theorem okW_or (ha : PT X a (tB c W (mT ma))) (hb : PW X (.BoolOp .Or (b :: rest) pos) (tB c W (mT mb))) : PW X (.BoolOp .Or (a :: b :: rest) pos) (tB c W (mT (mOr ma mb))) := by
  rw [mT_or]
  refine PW.weak (pw_or ha hb) fun σ H Q ⟨g, R, h⟩ => ⟨g, R, (After.bind h).imp fun k g1 H1 x1 R1 h1 => ?_⟩
  cases k with
  | true => exact After.pure h1 R1
  | false => exact ⟨g1, R1, h1⟩
theorem ok_ite (ht : PT X t (tB c W (mT mt))) (ha : PE X a (tM c W ma)) (hb : PE X b (tM c W mb)) : PE X (.IfExp t a b pos) (tM c W (mIte mt ma mb)) := by
  rw [mIte_eq]
  refine PE.weak (pe_ifExp ht ha hb) fun σ H Q ⟨g, R, h⟩ => ⟨g, R, (After.bind h).imp fun k g1 H1 x1 R1 h1 => ?_⟩
  cases k with
  | true => exact ⟨g1, R1, h1⟩
  | false => exact ⟨g1, R1, h1⟩
def mChn (o p : Cop) (ma mb mc : M D) : M D := M.bind ma fun x => M.bind mb fun y => M.bind (M.of (cop o x y)) fun k => if k then M.bind mc fun z => M.bind (M.of (cop p y z)) fun l => M.pure (.bl l) else M.pure (.bl false)
theorem okT_chn (hK : X.K = c.K) (hw : X.w = c.w) (hu : X.A.units + 65 < cLine) (o p : Cop) (ha : PE X a (tM c W ma)) (hb : PE X b (tM c W mb)) (hd : PE X d (tM c W mc)) (hm : lastMarks [copOf o, copOf p] [b, d] = false) :
    PT X (.Compare a [copOf o, copOf p] [b, d] pos) (tB c W (mT (mChn o p ma mb mc))) := by
  refine PT.weak (pt_chain (op_cop (c := c) o hK hw hu) (op_cop (c := c) p hK hw hu) ha hb hd hm) fun σ H Q ⟨g, R, h⟩ => ⟨g, R, (After.bind (After.bind h)).imp fun x g1 H1 x1 R1 h1 v r => ⟨g1, R1, (After.bind h1).imp fun y g2 H2 x2 R2 h2 u r' => ?_⟩⟩
  obtain ⟨k, e, q⟩ := After.of (After.bind h2)
  have q := After.app q R2 .refl rfl rfl
  refine ⟨g2, σ, x, y, k, R2, .inl (r.ext x2.e), .inl r', e, k, rfl, ?_⟩
  cases k with
  | false => exact ⟨false, rfl, (After.pure q R2) g2 H2 rfl rfl .refl R2⟩
  | true =>
    refine ⟨g2, R2, (After.bind q).imp fun z g3 H3 x3 R3 h3 w r3 => ?_⟩
    obtain ⟨l, e3, q3⟩ := After.of (After.bind h3)
    exact ⟨g3, σ, y, z, l, R3, .inl (r'.ext x3.e), .inl r3, e3, l, rfl, (After.pure (After.app q3 R3 .refl rfl rfl) R3) g3 H3 rfl rfl .refl R3⟩
theorem mIdx_pure {x i : D} (h : ∀ n, x ≠ .ref n) (ρ : Env) (S : Sto) : mIdx x i ρ S = M.of (index x i) ρ S := by
  cases x <;> first | rfl | exact absurd rfl (h _)
/-- a cell's item -/
theorem cell_at (hK : X.K = c.K) (R : Rel c g σ H) {n : Nat} {v : V} {xs : List D} {k : Int} {d : D} (r : Rep c g.F g.m (.ref n) v) (hS : g.S[n]? = some (.lst xs)) (hd : atI xs k = some d) : ∃ a vs w, v = .ref a ∧ H a = some (.lst vs) ∧ L2.atI vs k = some w ∧ Rep c g.F g.m d w := by
  simp only [Rep] at r
  obtain ⟨a, h1, rfl⟩ := r
  obtain ⟨_, _, vs, h2, r2⟩ := R.b.cl n _ a hS h1
  obtain ⟨w, h3, h4⟩ := atI_V r2 hd
  exact ⟨a, vs, w, rfl, h2, h3, h4⟩
def rIdx2 (c : Kx) (W : WX) : R2 := fun x y H Q => ∃ g σ' a b, Rel c g σ' H ∧ Bor c g H a x ∧ Rep c g.F g.m b y ∧ After c W g σ' (mIdx a b g.ρ g.S) fun d g' H' => ∀ v, Rep c g'.F g'.m d v → Q v H'
theorem ix_idx2 (hK : X.K = c.K) (hw : X.w = c.w) : IxR X (rIdx2 c W) := by
  intro value sli pins s σ H x y v u Q I rx ry ⟨g, σ', a, b, R, ra, rb, q⟩ hs
  by_cases z : ∃ n, a = .ref n
  · obtain ⟨n, rfl⟩ := z
    have ra := ra.rep (fun _ z => by cases z)
    unfold mIdx at q
    simp only at q
    cases hS : g.S[n]? with
    | none => rw [hS] at q; exact q.elim
    | some cl =>
      cases cl with
      | dct _ => rw [hS] at q; exact q.elim
      | ins _ _ => rw [hS] at q; exact q.elim
      | lst xs =>
        rw [hS] at q
        cases b <;> try exact q.elim
        rename_i k
        simp only at q
        cases hd : atI xs k with
        | none => rw [hd] at q; exact q.elim
        | some d =>
          rw [hd] at q
          obtain ⟨p, vs, w, rfl, h1, h2, h3⟩ := cell_at hK R ra hS hd
          simp only [Rep] at rb; subst rb
          exact ix_list value sli pins s σ H _ _ v u Q I rx ry ⟨p, vs, k, w, rfl, rfl, SqL.of h1, h2, q g H rfl rfl .refl R w h3⟩ hs
  · rw [mIdx_pure (fun n e => z ⟨n, e⟩)] at q
    obtain ⟨d, e, q⟩ := After.of q
    exact ix_idx (W := W) hK hw value sli pins s σ H x y v u Q I rx ry ⟨g, σ', a, b, d, R, ra, rb, e, q⟩ hs
theorem ok_idx (hK : X.K = c.K) (hw : X.w = c.w) (ha : PE X a (tM c W ma)) (hb : PE X b (tM c W mb)) (hs : PlainIx b) : PE X (.Subscript a b pos) (tM c W (M.bind ma fun x => M.bind mb fun k => mIdx x k)) := by
  refine PE.weak (pe_ix (ix_idx2 (W := W) hK hw) ha hb hs) fun σ H Q ⟨g, R, h⟩ => ⟨g, R, (After.bind h).imp fun x g1 H1 x1 R1 h1 v r => ⟨g1, R1, (After.bind h1).imp fun y g2 H2 x2 R2 h2 u r' => ?_⟩⟩
  exact ⟨g2, σ, x, y, R2, .inl (r.ext x2.e), r', h2⟩
theorem ok_idx2 (hK : X.K = c.K) (hw : X.w = c.w) (ha : PE X a (tBo c W ma)) (hb : PE X b (tSi c W mb)) (hs : PlainIx b) : PE X (.Subscript a b pos) (tM c W (M.bind ma fun x => M.bind mb fun k => mIdx x k)) := by
  refine PE.weak (pe_ix (ix_idx2 (W := W) hK hw) ha hb hs) fun σ H Q ⟨g, R, h⟩ => ⟨g, R, (After.bind h).imp fun x g1 H1 x1 R1 h1 v r => ⟨g1, R1, (After.bind h1).imp fun y g2 H2 x2 R2 h2 kp u r' => ?_⟩⟩
  exact ⟨g2, σ, x, y, R2, r.keep x2 kp, r', h2⟩
end
end Ev
set_option Elab.async false
set_option linter.all false
set_option autoImplicit false
set_option maxRecDepth 100000
namespace Ev
open PySem PySem.Spec PyProof.Rows L2
section
variable (c : Kx) (W : WX)
def tO (m : M (Option Int)) : TO := fun σ H Q => ∃ g, Rel c g σ H ∧ After c W g σ (m g.ρ g.S) fun o g' H' => Q o H'
def tOs (m : M (Option Int)) : TO := fun σ H Q => ∃ g, Rel c g σ H ∧ After c W g σ (m g.ρ g.S) fun o g' H' => (∀ a o, H a = some o → H' a = some o) → Q o H'
end
section
variable {X : Cx} {c : Kx} {W : WX} {pos p2 apos cpos : Pos} {a b e t d o : Expr} {lo hi : Option Expr} {es rest : List Expr} {ma mb mc m mt : M D} {ml mh : M (Option Int)} {ms : M (List D)} {g g' : Gs} {σ : St} {H H' : Hp}
def mPart (m : M D) : M (Option Int) := M.bind m fun d => match d with | .int i => M.pure (some i) | _ => M.bad
theorem po_no : PO X none (tO c W (M.pure none)) := ⟨fun pins s σ H Q I ⟨g, R, h⟩ => po_none.run pins s σ H Q I (After.pure h R)⟩
theorem po_nos : PO X none (tOs c W (M.pure none)) := ⟨fun pins s σ H Q I ⟨g, R, h⟩ => po_none.run pins s σ H Q I (After.pure h R fun _ _ z => z)⟩
theorem po_yes (h : PE X e (tM c W m)) : PO X (some e) (tO c W (mPart m)) := by
  refine ⟨fun pins s σ H Q I ⟨g, R, q⟩ => (po_some h).run pins s σ H Q I ⟨g, R, (After.bind q).imp fun x g1 H1 x1 R1 h1 v r => ?_⟩⟩
  cases x with
  | int i => simp only [Rep] at r; exact ⟨i, r, After.pure h1 R1⟩
  | _ => exact h1.elim
theorem po_yess (h : PE X e (tSi c W m)) : PO X (some e) (tOs c W (mPart m)) := by
  refine ⟨fun pins s σ H Q I ⟨g, R, q⟩ => (po_some h).run pins s σ H Q I ⟨g, R, (After.bind q).imp fun x g1 H1 x1 R1 h1 kp v r => ?_⟩⟩
  cases x with
  | int i => simp only [Rep] at r; exact ⟨i, r, After.pure h1 R1 kp⟩
  | _ => exact h1.elim
def mSlc (ma : M D) (ml mh : M (Option Int)) : M D := M.bind ma fun x => M.bind ml fun l => M.bind mh fun h => M.of (slice x l h)
theorem ok_slc (hK : X.K = c.K) (ha : PE X a (tM c W ma)) (hl : PO X lo (tO c W ml)) (hh : PO X hi (tO c W mh)) : PE X (.Subscript a (.Slice lo hi none p2) pos) (tM c W (mSlc ma ml mh)) := by
  refine PE.weak (pe_slice (sl_sli (W := W) hK) ha hl hh) fun σ H Q ⟨g, R, h⟩ => ⟨g, R, (After.bind h).imp fun x g1 H1 x1 R1 h1 v r => ⟨g1, R1, (After.bind h1).imp fun l g2 H2 x2 R2 h2 => ⟨g2, R2, (After.bind h2).imp fun u g3 H3 x3 R3 h3 => ?_⟩⟩⟩
  obtain ⟨w, e, q⟩ := After.of h3
  exact ⟨g3, σ, x, w, R3, .inl ((r.ext x2.e).ext x3.e), e, q⟩
theorem ok_slc2 (hK : X.K = c.K) (ha : PE X a (tBo c W ma)) (hl : PO X lo (tOs c W ml)) (hh : PO X hi (tOs c W mh)) : PE X (.Subscript a (.Slice lo hi none p2) pos) (tM c W (mSlc ma ml mh)) := by
  refine PE.weak (pe_slice (sl_sli (W := W) hK) ha hl hh) fun σ H Q ⟨g, R, h⟩ => ⟨g, R, (After.bind h).imp fun x g1 H1 x1 R1 h1 v r => ⟨g1, R1, (After.bind h1).imp fun l g2 H2 x2 R2 h2 k2 => ⟨g2, R2, (After.bind h2).imp fun u g3 H3 x3 R3 h3 k3 => ?_⟩⟩⟩
  obtain ⟨w, e, q⟩ := After.of h3
  exact ⟨g3, σ, x, w, R3, (r.keep x2 k2).keep x3 k3, e, q⟩
theorem ok_bi (bi : Bi) {x : Str} {p : Pos} {id : String} (hv : biVal bi = .builtin id) (hK : X.K = c.K) (sm : SmOk c.K) (hc : X.calm = true) (hgd : X.A.guards = some []) (hu : X.A.units + 65 < cLine)
    (hg : Gl X x) (hm : X.mg x = none) (hb : bootBuiltins x = some (.builtin id)) (hn : x ≠ "__name__") (hdb : (x == ("__debug__" : Str)) = false) (ha : PA X (e :: es) (tA c W ms))
    (he : starEach (e :: es) X.env = (false, eval e X.env) :: starEach es X.env) (hpl : (backTo pos (starEach es X.env)).any (·.1) = false) :
    PE X (.Call (.Name x p) (e :: es) [] pos) (tM c W (M.bind ms fun ds => M.of (bip shownD bi ds))) := by
  have op := bi_ok (c := c) (W := W) bi hK sm hc hgd hu
  rw [hv] at op
  refine PE.weak (pe_callB op hg hm hb ha hn hdb he hpl) fun σ H Q ⟨g, R, h⟩ => ⟨g, R, (After.bind h).imp fun ds g1 H1 x1 R1 h1 vs rs => ?_⟩
  obtain ⟨d, e, q⟩ := After.of h1
  exact ⟨g1, σ, ds, d, R1, rs, e, q⟩
theorem ok_biT (bi : Bi) {x : Str} {p : Pos} {T : String} (hv : biVal bi = .type T) (hK : X.K = c.K) (sm : SmOk c.K) (hc : X.calm = true) (hgd : X.A.guards = some []) (hu : X.A.units + 65 < cLine)
    (hg : Gl X x) (hm : X.mg x = none) (hb : bootBuiltins x = some (.type T)) (hn : x ≠ "__name__") (hdb : (x == ("__debug__" : Str)) = false) (ha : PA X (e :: es) (tA c W ms))
    (he : starEach (e :: es) X.env = (false, eval e X.env) :: starEach es X.env) (hpl : (backTo pos (starEach es X.env)).any (·.1) = false) :
    PE X (.Call (.Name x p) (e :: es) [] pos) (tM c W (M.bind ms fun ds => M.of (bip shownD bi ds))) := by
  have op := bi_ok (c := c) (W := W) bi hK sm hc hgd hu
  rw [hv] at op
  refine PE.weak (pe_callTy op hg hm hb ha hn hdb he hpl) fun σ H Q ⟨g, R, h⟩ => ⟨g, R, (After.bind h).imp fun ds g1 H1 x1 R1 h1 vs rs => ?_⟩
  obtain ⟨d, e, q⟩ := After.of h1
  exact ⟨g1, σ, ds, d, R1, rs, e, q⟩
theorem ok_len {x : Str} {p : Pos} (hK : X.K = c.K) (hg : Gl X x) (hm : X.mg x = none) (hb : bootBuiltins x = some (.builtin "len")) (hn : x ≠ "__name__") (hdb : (x == ("__debug__" : Str)) = false) (ha : PE X e (tBo c W m))
    (he : starEach [e] X.env = (false, eval e X.env) :: starEach [] X.env) (hpl : (backTo pos (starEach [] X.env)).any (·.1) = false) :
    PE X (.Call (.Name x p) [e] [] pos) (tM c W (M.bind m fun x => M.of (bip shownD .len [x]))) := by
  refine PE.weak (pe_callB (bi_len (c := c) (W := W) hK) hg hm hb (pa_cons ha pa_nil he) hn hdb he hpl) fun σ H Q ⟨g, R, h⟩ => ⟨g, R, (After.bind h).imp fun d g1 H1 x1 R1 h1 v r => ?_⟩
  obtain ⟨w, e, q⟩ := After.of h1
  exact ⟨g1, σ, d, v, w, rfl, R1, r, e, q⟩
/-- list(x), x a list or a tuple -/
theorem okF_list {x : Str} {p : Pos} (hK : X.K = c.K) (hg : Gl X x) (hm : X.mg x = none) (hb : bootBuiltins x = some (.type "list")) (hn : x ≠ "__name__") (hdb : (x == ("__debug__" : Str)) = false) (ha : PE X e (tM c W m))
    (he : starEach [e] X.env = (false, eval e X.env) :: starEach [] X.env) (hpl : (backTo pos (starEach [] X.env)).any (·.1) = false) :
    PE X (.Call (.Name x p) [e] [] pos) (tF c W (M.bind m mLst)) := by
  refine PE.weak (pe_callTy (list_ok (c := c) (W := W) hK) hg hm hb (pa_cons ha pa_nil he) hn hdb he hpl) fun σ H Q ⟨g, R, h⟩ => ⟨g, R, (After.bind h).imp fun d g1 H1 x1 R1 h1 v r => ?_⟩
  unfold mLst at h1
  cases d with
  | tup xs => exact ⟨g1, σ, _, xs, R1, RepL.cons_ r (by simp [RepL]), .inl rfl, After.pure h1 R1⟩
  | lst xs => exact ⟨g1, σ, _, xs, R1, RepL.cons_ r (by simp [RepL]), .inr rfl, After.pure h1 R1⟩
  | _ => exact h1.elim
theorem ok_isi (T : Ty) {x y : Str} {p p3 : Pos} (hK : X.K = c.K) (hg : Gl X x) (hm : X.mg x = none) (hb : bootBuiltins x = some (.builtin "isinstance")) (hn : x ≠ "__name__") (hdb : (x == ("__debug__" : Str)) = false)
    (hg2 : Gl X y) (hm2 : X.mg y = none) (hb2 : bootBuiltins y = some (.type (tyNm T))) (hn2 : y ≠ "__name__") (hdb2 : (y == ("__debug__" : Str)) = false) (ha : PE X e (tBo c W m))
    (he : starEach [e, .Name y p3] X.env = (false, eval e X.env) :: starEach [.Name y p3] X.env) (hpl : (backTo pos (starEach [.Name y p3] X.env)).any (·.1) = false) :
    PE X (.Call (.Name x p) [e, .Name y p3] [] pos) (tM c W (M.bind m fun x => M.bind (M.of (isTy T x)) fun k => M.pure (.bl k))) := by
  refine PE.weak (pe_callB (isi_ok (c := c) T hK) hg hm hb (pa_cons ha (pa_cons (pe_bltn (v := .ty (tyNm T)) hg2 hm2 hb2 rfl hn2 hdb2) pa_nil) he) hn hdb he hpl) fun σ H Q ⟨g, R, h⟩ => ⟨g, R, (After.bind h).imp fun d g1 H1 x1 R1 h1 v r => ?_⟩
  obtain ⟨k, e, q⟩ := After.of (After.bind h1)
  exact ⟨g1, σ, d, v, k, rfl, R1, r, e, After.pure (After.app q R1 .refl rfl rfl) R1 _ (by simp [Rep])⟩
def tyIs : Ty → D → Bool
  | .str, .str _ => true
  | .list, .lst _ => true
  | _, _ => false
theorem tyV_of (hK : X.K = c.K) (R : Rel c g σ H) {T : Ty} {d : D} {v : V} (h : tyIs T d = true) (r : Rep c g.F g.m d v) : tyV X.K (tyNm T) v H := by
  cases T <;> cases d <;> simp [tyIs] at h
  · simp only [Rep] at r; subst r; rfl
  · simp only [Rep] at r
    obtain ⟨a, vs, rfl, s, _⟩ := r
    exact .inl ⟨rfl, vs, SqL.of (R.b.fh _ _ s)⟩
def mMt (mt : Mt) (f : D → Bool) (m : M D) (ms : M (List D)) : M D := M.bind m fun x => if f x then M.bind ms fun ds => M.of (mtp mt x ds) else M.bad
section
variable {name : Str} {id : String}
theorem ok_mt (mt : Mt) (T : Ty) (hK : X.K = c.K) (pa : PlainAttrs (tyNm T)) (slot : Slot (tyNm T) name id) (hty : typeOf (.builtin id) = pure (.type "method_descriptor")) (hm : MtR X id (rMt c W mt T)) (ho : PE X o (tM c W m)) (ha : PA X (e :: es) (tA c W ms))
    (hbase : attributeBase o name X.env (eval o X.env) = eval o X.env)
    (hfew : ((backTo cpos (starEach (e :: es) X.env)).all (fun x => !x.1) && (backToKw cpos (keywordEach [] X.env)).all (fun x => x.1.isSome) && decide ((e :: es).length + ([] : List Keyword).length + (if ([] : List Keyword).isEmpty then 0 else 1) < 30)) = true)
    (hline : (apos.endLine == cpos.line) = true) (hs : starEach (e :: es) X.env = (false, eval e X.env) :: starEach es X.env) (hplain : (backTo cpos (starEach es X.env)).any (·.1) = false) :
    PE X (.Call (.Attribute o name apos) (e :: es) [] cpos) (tM c W (mMt mt (tyIs T) m ms)) := by
  refine PE.weak (pe_bm pa slot hty hm ho ha hbase hfew hline hs hplain) fun σ H Q ⟨g, R, h⟩ => ⟨g, R, (After.bind h).imp fun x g1 H1 x1 R1 h1 v r => ?_⟩
  cases ht : tyIs T x with
  | false => rw [ht] at h1; exact h1.elim
  | true =>
    rw [ht] at h1
    refine ⟨tyV_of hK R1 ht r, g1, R1, (After.bind h1).imp fun ds g2 H2 x2 R2 h2 vs rs => ?_⟩
    obtain ⟨d, e, q⟩ := After.of h2
    refine ⟨g2, σ, x, ds, d, R2, r.ext x2.e, rs, ?_, e, q⟩
    cases T <;> cases x <;> simp [tyIs] at ht <;> rfl
end
end
end Ev
set_option Elab.async false
set_option linter.all false
set_option autoImplicit false
set_option maxRecDepth 100000
namespace Ev
open PySem PySem.Spec PyProof.Rows L2
/-- a def keeps a promise where no repr is under way; an exception may leave it -/
structure FnG (P : PySem.Program) (w : World) (K : PySem.W.Frag) (mg : Str → Option Value) (base : Heap) (k : Nat) (f : Addr) (fd : FuncData) (ps : List Str) (sp : Sp) : Prop where
  len : ∀ vs H Q E, sp vs H Q E → vs.length = ps.length
  run : ∀ (A : Around) (outer : List PySem.Env) (s : Shared) (H : Hp) (args : Args) (us : List Value) (vs : List V) (Q : VK) (E : XK), Room (2 * k) A → A.guards = some [] → Env0 P w K mg base A outer s H → BindsTo s fd args (ps.zip us) → Vals vs us → sp vs H Q E →
    codeAny (model P w) A (.call (.ref f) args) (L2.CR (L2.CX P w) outer P w H s Q E) s
/-- by its body -/
theorem fnG_of {P : PySem.Program} {w : World} {K : PySem.W.Frag} {mg : Str → Option Value} {base : Heap} {x qual : Str} {params : Arguments} {body : List Stmt} {scope : Scope} {dvs : List V} {kws : List (Str × V)} {f : Addr} {fd : FuncData} {N ps : List Str} {k : Nat} {sp : Sp}
    (F : FunD K x qual params body scope dvs kws f fd) (S : FnScope N ps scope) (len : ∀ vs H Q E, sp vs H Q E → vs.length = ps.length)
    (hbody : ∀ (cdv : Value) (A : Around) (outer : List PySem.Env) (s : Shared) (H : Hp) (vs : List V) (Q : VK) (E : XK), Room (2 * k + 1) (A.deeper (envOfC qual scope s.heap.objs.size f cdv)) → A.guards = some [] → sp vs H Q E →
      ∃ t, PSs (cxOf (L2.CX P w) P w K mg base N qual scope f cdv A outer s H E) body t ∧ t { nx := fun _ H' => Q .non H', rt := Q } (start N vs) H) : FnG P w K mg base (k + 1) f fd ps sp := by
  obtain ⟨oc, od, dV, kV, doc, pm, an, cdv, ct, osl, e0, lk, hcd, _, _⟩ := F.ex
  subst e0
  refine ⟨len, fun A outer s H args us vs Q E hroom hguard en hbind rv hsp => ?_⟩
  have hlen := len _ _ _ _ hsp
  have hK : K.In s.heap := en.mod.kin.keeps (fun b o z => (en.bs b o z).1)
  have hlim : s.heap.NoLimit := en.mod.nolimit.keeps (fun b o z => (en.bs b o z).1)
  have kinds : ∀ y ∈ ps.zip us, scope.names.lookup y.1 = some .local ∨ (scope.names.lookup y.1 = some .cell ∧ ((cellsFrom (s.heap.objs.size + 1) scope.names []).lookup y.1).isSome = true) := by
    intro y hy
    cases S.par y.1 (List.of_mem_zip hy).1 with
    | inl q => exact Or.inl q
    | inr q => exact Or.inr ⟨q, PySem.W.cellsFrom_some _ _ _ (Or.inl q)⟩
  refine codeAny_call_function hroom.depth (hK _ _ lk) rfl S.co S.gen rfl (PySem.W.codeRec_of hK hcd) (hbind _ _ _ _ ?_)
  refine wpAny_newFunctionEnv_cells S.kind kinds (fun env he s1 ic => ?_)
  subst he
  refine ⟨hlim.keeps ic.toInCall.keep, codeAny_func ?_⟩
  obtain ⟨t, ht, hq⟩ := hbody cdv A outer s H vs Q E ((hroom.mono (show 2 * k + 1 + 1 ≤ 2 * (k + 1) by omega)).deeper _) hguard hsp
  have hI := inv_start (CX := L2.CX P w) (P := P) (w := w) (K := K) (mg := mg) (base := base) (E := E) (H := H) (qual := qual) S hroom.hd en hlen rv ic
  refine wpAny_mono (ht.run [] s1 (start N vs) H _ hI hq) (fun fl s' hs => ?_) (fun e s' hs => hs)
  cases fl with
  | ret u => obtain ⟨v, σ', H', J, rv', q⟩ := hs; exact ⟨v, H', J.os, J.bare, J.base, J.hok, rv', q⟩
  | next => obtain ⟨σ', H', J, q⟩ := hs; exact ⟨V.non, H', J.os, J.bare, J.base, J.hok, rfl, q⟩
  | brk => obtain ⟨_, _, _, q⟩ := hs; exact q.elim
  | cont => obtain ⟨_, _, _, q⟩ := hs; exact q.elim
section
variable {X : Cx} {k : Nat} {f : Addr} {fd : FuncData} {ps ks : List Str} {sp : Sp} {x : Str} {p pos : Pos} {e : Expr} {es : List Expr} {t tk : TA} {W : WX}
/-- f(e, ..), every parameter given by place; what is raised is wished for at the slots -/
def tCallG (sp : Sp) (W : WX) (t : TA) : TE := fun σ H Q => t σ H fun vs H1 => sp vs H1 Q (fun cls d H' => W cls d σ H')
theorem passW (tk : Takes X W) {pins : List (Addr × Obj)} {σ : L2.St} {H : Hp} {s s' : Shared} {e : Value} (I : Inv X pins σ H s) (h : L2.CX X.prog X.w X.stack H s (fun cls d H' => W cls d σ H') e s') : X.xe e s' :=
  tk e s' (XE.of_call I (fun cls d H' z => z) h)
theorem run_G {pins : List (Addr × Obj)} {σ : L2.St} {H : Hp} {s : Shared} {Q : VK} {us ws : List Value} {vs : List V} {kw : List (Str × Value)} (F : FnG X.prog X.w X.K X.mg X.base k f fd ps sp) (hr : Room (2 * k) X.A) (hg : X.A.guards = some []) (tk : Takes X W) (I : Inv X pins σ H s)
    (hb : BindsTo s fd ⟨us, kw⟩ (ps.zip ws)) (r : Vals vs ws) (h : sp vs H Q (fun cls d H' => W cls d σ H')) : wpAny (model X.prog X.w) X.A (call (.ref f) us kw) (EP X pins σ Q) X.xe s := by
  refine wpAny_call (codeAny_mono (F.run X.A X.stack s H ⟨us, kw⟩ ws vs Q _ hr hg I.env0 hb r h) fun r s' hq => ?_)
  cases r with
  | error e => exact passW tk I hq
  | ok fl =>
    cases fl with
    | ret u => exact I.after hq
    | next => exact hq.elim
    | brk => exact hq.elim
    | cont => exact hq.elim
theorem pe_callG (F : FnG X.prog X.w X.K X.mg X.base k f fd ps sp) (hr : Room (2 * k) X.A) (hgd : X.A.guards = some []) (tk : Takes X W) (hg : Gl X x) (hm : X.mg x = some (.ref f)) (hk : PySem.W.keepIn X.K (.ref f) = true) (hb : Binds X.K fd ps [])
    (ha : PA X (e :: es) t) (hdb : (x == ("__debug__" : Str)) = false) (he : starEach (e :: es) X.env = (false, eval e X.env) :: starEach es X.env) (hpl : (backTo pos (starEach es X.env)).any (·.1) = false) : PE X (.Call (.Name x p) (e :: es) [] pos) (tCallG sp W t) := by
  refine ⟨fun pins s σ H Q I h => wpAny_Call_Name_kw (ld_glob I hg hm ?_ hdb)⟩
  refine PySem.W.callWith_K (h₀ := X.base) I.ok.mod.kin hk (thn (ha.run pos pins s σ H _ I h) fun us s1 ⟨vs, H1, I1, r, q⟩ => ⟨I1.kIn, ?_⟩) he hpl
  have hl : us.length = ps.length := by rw [← r.length]; exact F.len _ _ _ _ q
  have b := hb s1 us I1.kIn (by rw [List.append_nil]; exact hl)
  rw [List.append_nil] at b
  exact run_G F hr hgd tk I1 b r q
end
/-- what the meaning of a call says -/
def spF (c : Kx) (call : Call) (f np : Nat) : Sp := fun vs H Q E => ∃ (g : Gs) (ds : List D), g.ρ = [] ∧ RelB c g.G g.F g.m g.S H ∧ RepL c g.F g.m ds vs ∧ ds.length = np ∧
  match call f ds g.S with
  | .ok d S' => ∀ v H' F' m', RelB c g.G F' m' S' H' → Ext g.F g.m F' m' → Rep c F' m' d v → Q v H'
  | .okl xs S' => ∀ a vs H' F' m', RelB c g.G F' m' S' H' → Ext g.F g.m F' m' → H' a = some (.lst vs) → RepL c F' m' xs vs → F' a = none → g.G a = none → a ∉ m' → Q (.ref a) H'
  | .exc x S' => ∀ cls dd H' F' m', RelB c g.G F' m' S' H' → Ext g.F g.m F' m' → ExnR c x cls dd H' → E cls dd H'
  | .bad => False
open Classical in
/-- what a caller's slots hold by themselves is protected in a call -/
noncomputable def protect (g : Gs) (σ : St) (H : Hp) : Hp := fun a => if ∃ (i : Nat) (xs : List D), g.ρ[i]? = some (some (.ow xs)) ∧ σ[i]? = some (some (.ref a)) then H a else g.G a
theorem protect_own {g : Gs} {σ : St} {H : Hp} {a : Addr} (h : ∃ (i : Nat) (xs : List D), g.ρ[i]? = some (some (.ow xs)) ∧ σ[i]? = some (some (.ref a))) : protect g σ H a = H a := by unfold protect; rw [if_pos h]
theorem protect_else {g : Gs} {σ : St} {H : Hp} {a : Addr} (h : ¬ ∃ (i : Nat) (xs : List D), g.ρ[i]? = some (some (.ow xs)) ∧ σ[i]? = some (some (.ref a))) : protect g σ H a = g.G a := by unfold protect; rw [if_neg h]
section
variable {c : Kx} {g : Gs} {σ : St} {H : Hp}
theorem Rel.toCall (R : Rel c g σ H) : RelB c (protect g σ H) g.F g.m g.S H := by
  refine ⟨R.b.fh, fun a o h => ?_, fun a o h => ?_, R.b.ml, R.b.md, fun n x a h1 h2 => ?_⟩
  · by_cases z : ∃ (i : Nat) (xs : List D), g.ρ[i]? = some (some (.ow xs)) ∧ σ[i]? = some (some (.ref a))
    · rw [protect_own z] at h; exact h
    · rw [protect_else z] at h; exact R.b.gh a o h
  · by_cases z : ∃ (i : Nat) (xs : List D), g.ρ[i]? = some (some (.ow xs)) ∧ σ[i]? = some (some (.ref a))
    · obtain ⟨i, xs, e1, e2⟩ := z
      obtain ⟨vs, _, _, f, _⟩ := R.ownAt e1 e2
      rw [f] at h; cases h
    · rw [protect_else z]; exact R.b.fg a o h
  · obtain ⟨q1, q2, q3⟩ := R.b.cl n x a h1 h2
    refine ⟨q1, ?_, q3⟩
    rw [protect_else]
    · exact q2
    · rintro ⟨i, xs, e1, e2⟩
      obtain ⟨vs, _, _, _, _, hm⟩ := R.ownAt e1 e2
      exact hm (List.mem_of_getElem? h2)
/-- behind the call -/
theorem Rel.ofCall (R : Rel c g σ H) {F' : Hp} {m' : List Addr} {S' : Sto} {H' : Hp} (B : RelB c (protect g σ H) F' m' S' H') (x : Ext g.F g.m F' m') :
    Rel c { g with F := F', m := m', S := S' } σ H' ∧ GExt g { g with F := F', m := m', S := S' } := by
  have own : ∀ {i : Nat} {xs : List D} {a : Addr}, g.ρ[i]? = some (some (.ow xs)) → σ[i]? = some (some (.ref a)) → ∃ vs, H a = some (.lst vs) ∧ protect g σ H a = some (.lst vs) ∧ RepL c g.F g.m xs vs ∧ g.G a = none := fun {i xs a} e1 e2 => by
    obtain ⟨vs, h1, r, _, h2, _⟩ := R.ownAt e1 e2
    exact ⟨vs, h1, by rw [protect_own ⟨i, xs, e1, e2⟩]; exact h1, r, h2⟩
  refine ⟨⟨⟨B.fh, fun a o h => ?_, fun a o h => ?_, B.ml, B.md, fun n y a h1 h2 => ?_⟩, R.ln, fun i d h => ?_, fun i xs h => ?_, R.sd, R.sx⟩, x, rfl⟩
  · by_cases z : ∃ (i : Nat) (xs : List D), g.ρ[i]? = some (some (.ow xs)) ∧ σ[i]? = some (some (.ref a))
    · obtain ⟨i, xs, e1, e2⟩ := z
      obtain ⟨vs, _, _, _, q⟩ := own e1 e2
      have h : g.G a = some o := h
      rw [q] at h; cases h
    · exact B.gh a o (by rw [protect_else z]; exact h)
  · have q := B.fg a o h
    by_cases z : ∃ (i : Nat) (xs : List D), g.ρ[i]? = some (some (.ow xs)) ∧ σ[i]? = some (some (.ref a))
    · obtain ⟨i, xs, e1, e2⟩ := z
      obtain ⟨vs, _, _, _, q⟩ := own e1 e2
      exact q
    · rw [protect_else z] at q; exact q
  · obtain ⟨q1, q2, q3⟩ := B.cl n y a h1 h2
    refine ⟨q1, ?_, q3⟩
    by_cases z : ∃ (i : Nat) (xs : List D), g.ρ[i]? = some (some (.ow xs)) ∧ σ[i]? = some (some (.ref a))
    · obtain ⟨i, xs, e1, e2⟩ := z
      obtain ⟨vs, _, _, _, q⟩ := own e1 e2
      exact q
    · rw [protect_else z] at q2; exact q2
  · obtain ⟨v, e1, r⟩ := R.sf i d h
    exact ⟨v, e1, r.ext x⟩
  · obtain ⟨a, vs, e1, h1, r, h2, h3, h4⟩ := R.so i xs h
    obtain ⟨vs', q1, q2, _, _⟩ := own h e1
    rw [h1] at q1; cases q1
    refine ⟨a, vs, e1, B.gh a _ q2, r.ext x, ?_, h3, fun hm => ?_⟩
    · show F' a = none
      cases q : F' a with
      | none => rfl
      | some o => have z := B.fg a o q; rw [q2] at z; cases z
    · obtain ⟨n, hn, e⟩ := List.getElem_of_mem hm
      have hs : n < S'.length := by rw [← B.ml]; exact hn
      obtain ⟨_, q, _⟩ := B.cl n S'[n] a (by simp [hs]) (by rw [List.getElem?_eq_getElem hn, e])
      rw [q2] at q; cases q
end
section
variable {X : Cx} {c : Kx} {W : WX} {k : Nat} {f : Addr} {fd : FuncData} {ps : List Str} {x : Str} {p pos : Pos} {e : Expr} {es : List Expr} {ms : M (List D)} {P : Prm} {n np : Nat}
/-- what a call hands out is nobody's -/
theorem looseCall {g : Gs} {σ : St} {H H' : Hp} {F' : Hp} {m' : List Addr} {S' : Sto} {xs : List D} {a : Addr} {vs : List V} (R : Rel c g σ H) (h1 : H' a = some (.lst vs)) (r : RepL c F' m' xs vs) (h2 : F' a = none) (h3 : protect g σ H a = none) (h4 : a ∉ m') :
    Loose c { g with F := F', m := m', S := S' } σ H' xs a := by
  have hn : ∀ (i : Nat) (ys : List D), g.ρ[i]? = some (some (.ow ys)) → σ[i]? ≠ some (some (.ref a)) := fun i ys e1 e2 => by
    obtain ⟨us, q, _⟩ := R.ownAt e1 e2
    rw [protect_own ⟨i, ys, e1, e2⟩, q] at h3
    cases h3
  refine ⟨⟨vs, h1, r⟩, h2, ?_, h4, hn⟩
  show g.G a = none
  rw [protect_else (fun ⟨i, ys, e1, e2⟩ => hn i ys e1 e2)] at h3
  exact h3
/-- the meaning of a call is what the promise asks -/
theorem call_read {g : Gs} {σ : St} {H : Hp} {Q : VK} {ds : List D} {vs : List V} (R : Rel c g σ H) (rs : RepL c g.F g.m ds vs) (hl : ds.length = np) (h : After c W g σ (mCall P n ds g.ρ g.S) fun d g' H' => ∀ v, Rep c g'.F g'.m d v → Q v H') :
    spF c P.call n np vs H Q (fun cls d H' => W cls d σ H') := by
  refine ⟨{ g with G := protect g σ H, ρ := [] }, ds, rfl, R.toCall, rs, hl, ?_⟩
  unfold mCall at h
  show (match P.call n ds g.S with | .ok d S' => _ | .okl xs S' => _ | .exc x S' => _ | .bad => False)
  cases eq : P.call n ds g.S with
  | bad => rw [eq] at h; exact h
  | ok d S' =>
    rw [eq] at h
    intro v H' F' m' B x r
    obtain ⟨R', x'⟩ := R.ofCall B x
    exact After.app h R' x' rfl rfl v r
  | okl xs S' =>
    rw [eq] at h
    intro a vs H' F' m' B x h1 r h2 h3 h4
    obtain ⟨R', x'⟩ := R.ofCall B x
    obtain ⟨F'', R'', x'', r''⟩ := R'.freeze (looseCall R (S' := S') h1 r h2 h3 h4)
    exact After.app h R'' (x'.trans x'') rfl rfl _ r''
  | exc y S' =>
    rw [eq] at h
    intro cls dd H' F' m' B x r
    obtain ⟨R', x'⟩ := R.ofCall B x
    exact h { g with F := F', m := m', S := S' } H' cls dd rfl rfl x' R' r
end
end Ev
set_option Elab.async false
set_option linter.all false
set_option autoImplicit false
set_option maxRecDepth 100000
namespace Ev
open PySem PySem.Spec PyProof.Rows L2
section
variable (c : Kx) (W : WX)
/-- as After, where the slots may have changed -/
def After2 {α : Type} (g : Gs) (r : Res α) (ok : α → Gs → St → Hp → Prop) : Prop :=
  match r with
  | .ok a ρ S => ∀ g' σ' H', g'.ρ = ρ → g'.S = S → GExt g g' → Rel c g' σ' H' → ok a g' σ' H'
  | .exc x ρ S => ∀ g' σ' H' cls d, g'.ρ = ρ → g'.S = S → GExt g g' → Rel c g' σ' H' → ExnR c x cls d H' → W cls d σ' H'
  | .bad => False
def flowOk (D : Ends) : Flow → Gs → St → Hp → Prop
  | .nx, _, σ, H => D.nx σ H
  | .br, _, σ, H => D.bk σ H
  | .ct, _, σ, H => D.ct σ H
  | .rt d, g, _, H => ∀ v, Rep c g.F g.m d v → D.rt v H
  | .rl xs, g, σ, _ => ∀ a H'', Rel c g σ H'' → Loose c g σ H'' xs a → D.rt (.ref a) H''
/-- the reading of a statement with the meaning m -/
def tS (m : M Flow) : TS := fun D σ H => ∃ g, Rel c g σ H ∧ After2 c W g (m g.ρ g.S) (flowOk c D)
end
section
variable {c : Kx} {W : WX} {α β : Type} {g g1 : Gs} {σ : St} {H : Hp} {r : Res α} {ok ok' : α → Gs → St → Hp → Prop}
theorem After2.shift (h : After2 c W g r ok) (e : GExt g g1) : After2 c W g1 r ok := by
  cases r with
  | ok a ρ S => exact fun g' σ' H' e1 e2 e3 R => h g' σ' H' e1 e2 (e.trans e3) R
  | exc x ρ S => exact fun g' σ' H' cls d e1 e2 e3 R => h g' σ' H' cls d e1 e2 (e.trans e3) R
  | bad => exact h
theorem After2.imp (h : After2 c W g r ok) (f : ∀ a g' σ' H', GExt g g' → Rel c g' σ' H' → ok a g' σ' H' → ok' a g' σ' H') : After2 c W g r ok' := by
  cases r with
  | ok a ρ S => exact fun g' σ' H' e1 e2 e3 R => f a g' σ' H' e3 R (h g' σ' H' e1 e2 e3 R)
  | exc x ρ S => exact h
  | bad => exact h
theorem After2.bind {m : M α} {f : α → M β} {ok : β → Gs → St → Hp → Prop} (h : After2 c W g (M.bind m f g.ρ g.S) ok) : After2 c W g (m g.ρ g.S) fun a g1 _ _ => After2 c W g1 (f a g1.ρ g1.S) ok := by
  unfold M.bind Res.bind at h
  cases e : m g.ρ g.S with
  | ok a ρ S =>
    rw [e] at h
    intro g' σ' H' e1 e2 e3 R
    have h' : After2 c W g (f a ρ S) ok := h
    rw [e1, e2]
    exact h'.shift e3
  | exc x ρ S => rw [e] at h; exact h
  | bad => rw [e] at h; exact h
/-- an expression ahead -/
theorem After2.one (h : After2 c W g r ok) (σ : St) : After c W g σ r fun a g' H' => ok a g' σ H' := by
  cases r with
  | ok a ρ S => exact fun g' H' e1 e2 e3 R => h g' σ H' e1 e2 e3 R
  | exc x ρ S => exact fun g' H' cls d e1 e2 e3 R => h g' σ H' cls d e1 e2 e3 R
  | bad => exact h
theorem After2.pure {a : α} (h : After2 c W g (M.pure a g.ρ g.S) ok) (R : Rel c g σ H) : ok a g σ H := h g σ H rfl rfl .refl R
theorem After2.app {a : α} {ρ : Env} {S : Sto} {g' : Gs} {H' : Hp} (h : After2 c W g (.ok a ρ S) ok) (R : Rel c g' σ H') (x : GExt g g') (e1 : g'.ρ = ρ) (e2 : g'.S = S) : ok a g' σ H' := h g' σ H' e1 e2 x R
end
section
variable {X : Cx} {st : Stmt} {sts : List Stmt}
theorem PS.weak {t t' : TS} (h : PS X st t) (w : ∀ D σ H, t' D σ H → t D σ H) : PS X st t' := ⟨fun pins s σ H D I q => h.run pins s σ H D I (w D σ H q)⟩
theorem PSs.weak {t t' : TS} (h : PSs X sts t) (w : ∀ D σ H, t' D σ H → t D σ H) : PSs X sts t' := ⟨fun pins s σ H D I q => h.run pins s σ H D I (w D σ H q)⟩
end
def sNx : M Flow := M.pure .nx
def sSeq (a b : M Flow) : M Flow := M.bind a fun f => match f with | .nx => b | f => M.pure f
def sEx (m : M D) : M Flow := M.bind m fun _ => sNx
def sRet (m : M D) : M Flow := M.bind m fun d => M.pure (.rt d)
/-- a list that is nobody's is handed out -/
def sRetL (m : M (List D)) : M Flow := M.bind m fun xs => M.pure (.rl xs)
def sIf (t : M Bool) (a b : M Flow) : M Flow := M.bind t fun k => if k then a else b
def sAsg (m : M D) (f : D → M Unit) : M Flow := M.bind m fun d => M.bind (f d) fun _ => sNx
def sOwn (i : Nat) (m : M (List D)) : M Flow := M.bind m fun xs => M.bind (mOwn i xs) fun _ => sNx
section
variable {X : Cx} {c : Kx} {W : WX} {st : Stmt} {rest : List Stmt} {a b : M Flow} {e : Expr} {m : M D} {pos : Pos}
theorem os_nil : PSs X [] (tS c W sNx) := PSs.weak pss_nil fun D σ H ⟨g, R, h⟩ => After2.pure h R
theorem os_seq (h1 : PS X st (tS c W a)) (h2 : PSs X rest (tS c W b)) : PSs X (st :: rest) (tS c W (sSeq a b)) := by
  refine PSs.weak (pss_cons h1 h2) fun D σ H ⟨g, R, h⟩ => ⟨g, R, (After2.bind h).imp fun f g1 σ1 H1 x1 R1 q => ?_⟩
  cases f with
  | nx => exact ⟨g1, R1, q⟩
  | br => exact After2.pure (W := W) q R1
  | ct => exact After2.pure (W := W) q R1
  | rt d => exact After2.pure (W := W) q R1
  | rl d => exact After2.pure (W := W) q R1
theorem os_one (h1 : PS X st (tS c W a)) : PSs X [st] (tS c W a) := PSs.weak (pss_one h1) fun D σ H q => q
theorem os_ex (he : PE X e (tM c W m)) (hs : swapsWith e none pos.line X.env = pure false) : PS X (.Expr e pos) (tS c W (sEx m)) :=
  PS.weak (ps_expr he hs) fun D σ H ⟨g, R, h⟩ => ⟨g, R, ((After2.bind h).one σ).imp fun d g1 H1 x1 R1 q v _ => After2.pure q R1⟩
theorem os_ret (he : PE X e (tM c W m)) : PS X (.Return (some e) pos) (tS c W (sRet m)) :=
  PS.weak (ps_ret he) fun D σ H ⟨g, R, h⟩ => ⟨g, R, ((After2.bind h).one σ).imp fun d g1 H1 x1 R1 q v r => After2.pure q R1 v r⟩
theorem os_if {t : Expr} {sa sb : List Stmt} {mt : M Bool} (ht : PT X t (tB c W mt)) (ha : PSs X sa (tS c W a)) (hb : PSs X sb (tS c W b)) : PS X (.If t sa sb pos) (tS c W (sIf mt a b)) := by
  refine PS.weak (ps_if ht ha hb) fun D σ H ⟨g, R, h⟩ => ⟨g, R, ((After2.bind h).one σ).imp fun k g1 H1 x1 R1 q => ?_⟩
  cases k with
  | true => exact ⟨g1, R1, q⟩
  | false => exact ⟨g1, R1, q⟩
end
section
variable (c : Kx) (W : WX)
def tG (Z : St → St → Prop) (f : D → M Unit) : TG := fun v σ H Q => ∃ g d, Rel c g σ H ∧ Rep c g.F g.m d v ∧ After2 c W g (f d g.ρ g.S) fun _ _ σ' H' => Z σ σ' → Q σ' H'
def tGs (Z : St → St → Prop) (f : List D → M Unit) : TGs := fun vs σ H Q => ∃ g ds, Rel c g σ H ∧ RepL c g.F g.m ds vs ∧ After2 c W g (f ds g.ρ g.S) fun _ _ σ' H' => Z σ σ' → Q σ' H'
end
/-- what a target does to the slots -/
structure Zr (Z : St → St → Prop) : Prop where
  refl : ∀ σ, Z σ σ
  trans : ∀ a b d, Z a b → Z b d → Z a d
def zAny : St → St → Prop := fun _ _ => True
theorem zr_any : Zr zAny := ⟨fun _ => trivial, fun _ _ _ _ _ => trivial⟩
/-- no more things -/
def gEnd (ds : List D) : M Unit := match ds with | [] => M.pure () | _ :: _ => M.bad
def gCon (f : D → M Unit) (k : List D → M Unit) (ds : List D) : M Unit := match ds with | [] => M.bad | d :: r => M.bind (f d) fun _ => k r
/-- a, b, .. of a tuple or a list -/
def gUnp (n : Nat) (k : List D → M Unit) (d : D) : M Unit := M.bind (mLst d) fun ds => if ds.length = n then k ds else M.bad
section
variable {X : Cx} {c : Kx} {W : WX} {pos : Pos} {e tg : Expr} {es : List Expr} {m : M D} {f : D → M Unit} {k : List D → M Unit} {Z : St → St → Prop}
theorem PG.weak {t t' : TG} (h : PG X tg t) (w : ∀ v σ H Q, t' v σ H Q → t v σ H Q) : PG X tg t' := ⟨fun pins s σ H v u Q I r q => h.run pins s σ H v u Q I r (w v σ H Q q)⟩
theorem PGs.weak {t t' : TGs} (h : PGs X es t) (w : ∀ v σ H Q, t' v σ H Q → t v σ H Q) : PGs X es t' := ⟨fun pins s σ H v u Q I r q => h.run pins s σ H v u Q I r (w v σ H Q q)⟩
theorem og_name {i : Nat} {x : Str} (hN : X.N.Nodup) (hi : X.N[i]? = some x) (hx : Loc X.env.scope x) (hf : X.fn x = true ∨ X.env.scope.names.lookup x = some .local) (hz : ∀ σ v, Z σ (σ.set i (some v))) : PG X (.Name x pos) (tG c W Z (mSet i)) := by
  refine PG.weak (pg_name hN hi hx hf) fun v σ H Q ⟨g, d, R, r, h⟩ => ?_
  unfold mSet at h
  by_cases z : i < g.ρ.length
  · rw [if_pos z] at h
    exact After2.app h (R.set r) ⟨.refl, rfl⟩ rfl rfl (hz _ _)
  · rw [if_neg z] at h; exact h.elim
theorem ogs_nil (zr : Zr Z) : PGs X [] (tGs c W Z gEnd) := by
  refine PGs.weak pgs_nil fun vs σ H Q ⟨g, ds, R, r, h⟩ => ?_
  cases ds with
  | nil => simp only [RepL] at r; exact ⟨r, After2.pure h R (zr.refl _)⟩
  | cons d ds => exact h.elim
theorem ogs_cons (zr : Zr Z) (h1 : PG X e (tG c W Z f)) (h2 : PGs X es (tGs c W Z k)) (hs : (assignEach (e :: es) X.env).map (·.2) = assign e X.env :: (assignEach es X.env).map (·.2)) : PGs X (e :: es) (tGs c W Z (gCon f k)) := by
  refine PGs.weak (pgs_cons h1 h2 hs) fun vs σ H Q ⟨g, ds, R, r, h⟩ => ?_
  cases ds with
  | nil => exact h.elim
  | cons d ds =>
    simp only [RepL] at r
    obtain ⟨v, vr, rfl, r1, r2⟩ := r
    exact ⟨v, vr, rfl, g, d, R, r1, (After2.bind h).imp fun _ g1 σ1 H1 x1 R1 q z1 => ⟨g1, ds, R1, r2.ext x1.e, q.imp fun _ _ _ _ _ _ q z2 => q (zr.trans _ _ _ z1 z2)⟩⟩
theorem og_unp {k' n : Nat} (hK : X.K = c.K) (hc : X.calm = true) (h : PGs X es (tGs c W Z k)) (hn : (assignEach es X.env).length = n) (hst : (assignEach es X.env).findIdx? (·.1) = none) : PG X (.Tuple es k' pos) (tG c W Z (gUnp n k)) := by
  have p1 := pg_tup (k := k') (pos := pos) hc h hn hst
  have p2 := pg_unl (k := k') (pos := pos) hc h hn hst
  refine ⟨fun pins s σ H v u Q I r ⟨g, d, R, rr, hh⟩ => ?_⟩
  have h1 := After2.bind hh
  unfold mLst at h1
  cases d with
  | tup ds =>
    have h2 := After2.pure h1 R
    simp only [Rep] at rr
    obtain ⟨a, vs, rfl, hq, rs⟩ := rr
    by_cases z : ds.length = n
    · rw [if_pos z] at h2
      exact p1.run pins s σ H _ u Q I r ⟨a, vs, rfl, by rw [hK]; exact sqT_of R.b.fh hq, by rw [repL_length rs, z], g, ds, R, rs, h2⟩
    · rw [if_neg z] at h2; exact h2.elim
  | lst ds =>
    have h2 := After2.pure h1 R
    simp only [Rep] at rr
    obtain ⟨a, vs, rfl, hq, rs⟩ := rr
    by_cases z : ds.length = n
    · rw [if_pos z] at h2
      exact p2.run pins s σ H _ u Q I r ⟨a, vs, rfl, .of (R.b.fh _ _ hq), by rw [repL_length rs, z], g, ds, R, rs, h2⟩
    · rw [if_neg z] at h2; exact h2.elim
  | non => exact h1.elim
  | bl b => exact h1.elim
  | int b => exact h1.elim
  | str b => exact h1.elim
  | dic b => exact h1.elim
  | ref b => exact h1.elim
  | scr b => exact h1.elim
theorem os_asg (he : PE X e (tM c W m)) (hg : PG X tg (tG c W zAny f)) (hs : swapsWithSole [tg] e pos.line X.env = pure false) (hw : swappedStores [tg] e X.env = pure none)
    (h1 : (assignEach [tg] X.env).map (·.2) = [assign tg X.env]) : PS X (.Assign [tg] e pos) (tS c W (sAsg m f)) := by
  refine PS.weak (ps_asg he hg hs hw h1) fun D σ H ⟨g, R, h⟩ => ⟨g, R, ((After2.bind h).one σ).imp fun d g1 H1 x1 R1 q v r => ⟨g1, d, R1, r, (After2.bind q).imp fun _ g2 σ2 H2 x2 R2 q _ => ?_⟩⟩
  exact After2.pure q R2
end
end Ev
set_option Elab.async false
set_option linter.all false
set_option autoImplicit false
set_option maxRecDepth 100000
namespace Ev
open PySem PySem.Spec PyProof.Rows L2
section
variable {c : Kx} {g : Gs} {σ : St} {H : Hp}
/-- a loose list becomes a slot's own -/
theorem Rel.setOwn (R : Rel c g σ H) {i : Nat} {xs : List D} {a : Addr} (L : Loose c g σ H xs a) : Rel c { g with ρ := g.ρ.set i (some (.ow xs)) } (σ.set i (some (.ref a))) H := by
  have lt : ∀ {j : Nat} {s : SV}, (g.ρ.set i (some (.ow xs)))[j]? = some (some s) → (j = i ∧ s = .ow xs ∧ i < g.ρ.length) ∨ (j ≠ i ∧ g.ρ[j]? = some (some s)) := fun {j s} h => by
    by_cases z : j = i
    · subst z
      have hl : j < g.ρ.length := by
        have := (List.getElem?_eq_some_iff.mp h).1
        simpa using this
      rw [List.getElem?_set_self hl] at h
      cases h
      exact .inl ⟨rfl, rfl, hl⟩
    · rw [List.getElem?_set_ne (Ne.symm z)] at h
      exact .inr ⟨z, h⟩
  refine ⟨R.b, by simp [R.ln], fun j d h => ?_, fun j ys h => ?_, fun j k ys zs b ne h1 h2 h3 => ?_, fun j x h => (lt h).elim (fun q => by cases q.2.1) fun ⟨z, h⟩ => ?_⟩
  · rcases lt h with ⟨_, z, _⟩ | ⟨z, h⟩
    · cases z
    · obtain ⟨v, e1, r⟩ := R.sf j d h
      exact ⟨v, by rw [List.getElem?_set_ne (Ne.symm z)]; exact e1, r⟩
  · rcases lt h with ⟨rfl, z, hl⟩ | ⟨z, h⟩
    · cases z
      obtain ⟨vs, hv, r⟩ := L.ex
      exact ⟨a, vs, by rw [List.getElem?_set_self (by rw [← R.ln]; exact hl)], hv, r, L.f, L.gn, L.mn⟩
    · obtain ⟨b, vs, e1, q⟩ := R.so j ys h
      exact ⟨b, vs, by rw [List.getElem?_set_ne (Ne.symm z)]; exact e1, q⟩
  · rcases lt h1 with ⟨rfl, _, hl⟩ | ⟨z1, h1'⟩
    · rcases lt h2 with ⟨rfl, _, _⟩ | ⟨z2, h2'⟩
      · exact absurd rfl ne
      · rw [List.getElem?_set_self (by rw [← R.ln]; exact hl)] at h3
        cases h3
        rw [List.getElem?_set_ne (Ne.symm z2)]
        exact L.s k zs h2'
    · rw [List.getElem?_set_ne (Ne.symm z1)] at h3
      rcases lt h2 with ⟨rfl, z, hl⟩ | ⟨z2, h2'⟩
      · rw [List.getElem?_set_self (by rw [← R.ln]; exact hl)]
        intro e; cases e
        exact L.s j ys h1' h3
      · rw [List.getElem?_set_ne (Ne.symm z2)]
        exact R.sd j k ys zs b ne h1' h2' h3
  · obtain ⟨b, e1, e2⟩ := R.sx j x h
    exact ⟨b, e1, by rw [List.getElem?_set_ne (Ne.symm z)]; exact e2⟩
/-- an own list grows -/
theorem Rel.pushOwn (R : Rel c g σ H) {i : Nat} {xs : List D} {d : D} {v : V} {a : Addr} {vs : List V} (hi : g.ρ[i]? = some (some (.ow xs))) (hs : σ[i]? = some (some (.ref a))) (ha : H a = some (.lst vs)) (r : Rep c g.F g.m d v) :
    Rel c { g with ρ := g.ρ.set i (some (.ow (xs ++ [d]))) } σ (upd H a (.lst (vs ++ [v]))) := by
  obtain ⟨ws, h1, rs, h2, h3, h4⟩ := R.ownAt hi hs
  rw [ha] at h1; cases h1
  have hl : i < g.ρ.length := (List.getElem?_eq_some_iff.mp hi).1
  have lt : ∀ {j : Nat} {s : SV}, (g.ρ.set i (some (.ow (xs ++ [d]))))[j]? = some (some s) → (j = i ∧ s = .ow (xs ++ [d])) ∨ (j ≠ i ∧ g.ρ[j]? = some (some s)) := fun {j s} h => by
    by_cases z : j = i
    · subst z
      rw [List.getElem?_set_self hl] at h
      cases h
      exact .inl ⟨rfl, rfl⟩
    · rw [List.getElem?_set_ne (Ne.symm z)] at h
      exact .inr ⟨z, h⟩
  have old : ∀ {j : Nat} {ys : List D}, (g.ρ.set i (some (.ow (xs ++ [d]))))[j]? = some (some (.ow ys)) → ∃ zs, g.ρ[j]? = some (some (.ow zs)) := fun {j ys} h => by
    rcases lt h with ⟨rfl, _⟩ | ⟨_, h⟩
    · exact ⟨_, hi⟩
    · exact ⟨_, h⟩
  refine ⟨⟨fun b o h => ?_, fun b o h => ?_, R.b.fg, R.b.ml, R.b.md, fun n x b q1 q2 => ?_⟩, by simp [R.ln], fun j e h => ?_, fun j ys h => ?_, fun j k ys zs b ne q1 q2 q3 => ?_, fun j x h => (lt h).elim (fun q => by cases q.2) fun q => R.sx j x q.2⟩
  · rw [upd_ne (fun z => by subst z; have h : g.F b = some o := h; rw [h2] at h; cases h)]; exact R.b.fh b o h
  · rw [upd_ne (fun z => by subst z; have h : g.G b = some o := h; rw [h3] at h; cases h)]; exact R.b.gh b o h
  · rw [upd_ne (fun z : b = a => h4 (z ▸ List.mem_of_getElem? q2))]
    exact R.b.cl n x b q1 q2
  · rcases lt h with ⟨_, z⟩ | ⟨_, h⟩
    · cases z
    · exact R.sf j e h
  · rcases lt h with ⟨rfl, z⟩ | ⟨z, h⟩
    · cases z
      refine ⟨a, vs ++ [v], hs, upd_same, ?_, h2, h3, h4⟩
      exact rs.app (by simp only [RepL]; exact ⟨v, [], rfl, r, rfl⟩)
    · obtain ⟨b, us, e1, p1, p2, p3, p4, p5⟩ := R.so j ys h
      have nb : b ≠ a := fun q => by subst q; exact R.sd i j xs ys b (Ne.symm z) hi h hs e1
      exact ⟨b, us, e1, by rw [upd_ne nb]; exact p1, p2, p3, p4, p5⟩
  · obtain ⟨ys', q1⟩ := old q1
    obtain ⟨zs', q2⟩ := old q2
    exact R.sd j k ys' zs' b ne q1 q2 q3
end
section
variable {X : Cx} {c : Kx} {W : WX} {pos pos' : Pos} {e : Expr} {m : M D} {ms : M (List D)}
theorem os_own {i : Nat} {x : Str} (hN : X.N.Nodup) (hi : X.N[i]? = some x) (hx : Loc X.env.scope x) (he : PE X e (tF c W ms)) (hs : swapsWith e (some (.Name x pos')) pos.line X.env = pure false) (hf : X.fn x = true ∨ X.env.scope.names.lookup x = some .local) :
    PS X (.Assign [.Name x pos'] e pos) (tS c W (sOwn i ms)) := by
  refine PS.weak (ps_set hN hi hx he hs hf) fun D σ H ⟨g, R, h⟩ => ⟨g, R, ((After2.bind h).one σ).imp fun xs g1 H1 x1 R1 q a H2 R2 L => ?_⟩
  have q1 := After2.bind q
  unfold mOwn at q1
  by_cases z : i < g1.ρ.length
  · rw [if_pos z] at q1
    have R3 := R2.setOwn (i := i) L
    exact After2.pure (After2.app q1 R3 ⟨.refl, rfl⟩ rfl rfl) R3
  · rw [if_neg z] at q1; exact q1.elim
/-- x.append(e) -/
def mOwnHere (i : Nat) : M Unit := fun ρ S => match ρ[i]? with | some (some (.ow _)) => .ok () ρ S | _ => .bad
def sApp (i : Nat) (m : M D) : M Flow := M.bind (mOwnHere i) fun _ => M.bind m fun d => M.bind (mApp i d) fun _ => sNx
end
end Ev
set_option Elab.async false
set_option linter.all false
set_option autoImplicit false
set_option maxRecDepth 100000
namespace Ev
open PySem PySem.Spec PyProof.Rows L2
section
variable {X : Cx} {c : Kx} {W : WX} {pos : Pos} {e : Expr} {m : M D}
theorem os_app {i : Nat} {x : Str} {p apos cpos : Pos} (hK : X.K = c.K) (hN : X.N[i]? = some x) (hv : Vis X.env.scope x) (hd : (x == ("__debug__" : Str)) = false) (hcd : (x == ("__classdict__" : Str)) = false) (he : PE X e (tM c W m))
    (hbase : attributeBase (.Name x p) "append" X.env (eval (.Name x p) X.env) = eval (.Name x p) X.env)
    (hfew : ((backTo cpos (starEach [e] X.env)).all (fun x => !x.1) && (backToKw cpos (keywordEach [] X.env)).all (fun x => x.1.isSome)
      && decide (([e] : List Expr).length + ([] : List Keyword).length + (if ([] : List Keyword).isEmpty then 0 else 1) < 30)) = true)
    (hline : (apos.endLine == cpos.line) = true) (hs : starEach [e] X.env = (false, eval e X.env) :: starEach [] X.env)
    (hsw : swapsWith (.Call (.Attribute (.Name x p) "append" apos) [e] [] cpos) none pos.line X.env = pure false) :
    PS X (.Expr (.Call (.Attribute (.Name x p) "append" apos) [e] [] cpos) pos) (tS c W (sApp i m)) := by
  refine PS.weak (ps_expr (pe_bm PySem.F.plainAttrs_list PySem.F.slot_list_append PySem.F.type_list_append mt_append (pe_var hN hv hd hcd) (pa_cons he pa_nil hs) hbase hfew hline hs rfl) hsw) fun D σ H ⟨g, R, h⟩ => ?_
  have h0 := (After2.bind h)
  unfold mOwnHere at h0
  cases eq : g.ρ[i]? with
  | none => rw [eq] at h0; exact h0.elim
  | some o =>
    cases o with
    | none => rw [eq] at h0; exact h0.elim
    | some sv =>
      cases sv with
      | fz d => rw [eq] at h0; exact h0.elim
      | ex x => rw [eq] at h0; exact h0.elim
      | ow xs =>
        rw [eq] at h0
        have h1 := After2.app h0 R .refl rfl rfl
        obtain ⟨a, vs, e1, ha, rs, n1, n2, n3⟩ := R.so i xs eq
        refine ⟨.ref a, e1, ?_, g, R, ((After2.bind h1).one σ).imp fun d g1 H1 x1 R1 q v r => ?_⟩
        · exact .inl ⟨rfl, vs, .of ha⟩
        · have q1 := After2.bind q
          unfold mApp at q1
          cases eq1 : g1.ρ[i]? with
          | none => rw [eq1] at q1; exact q1.elim
          | some o =>
            cases o with
            | none => rw [eq1] at q1; exact q1.elim
            | some sv =>
              cases sv with
              | fz d => rw [eq1] at q1; exact q1.elim
              | ex x => rw [eq1] at q1; exact q1.elim
              | ow ys =>
                rw [eq1] at q1
                obtain ⟨vs1, hb, rs1, _⟩ := R1.ownAt eq1 e1
                by_cases z : ys.length < SZ
                · simp only [if_pos z] at q1
                  have R2 := R1.pushOwn eq1 e1 hb r
                  exact ⟨a, vs1, v, rfl, rfl, hb, by rw [sizeLine_eq, repL_length rs1]; exact z, After2.pure (After2.app q1 R2 ⟨.refl, rfl⟩ rfl rfl) R2⟩
                · simp only [if_neg z] at q1; exact q1.elim
end
/-- an iterator tells the things ds, one by one -/
def ItR (c : Kx) (g0 : Gs) (J : It) (ds : List D) : Prop := ∀ g σ H, Ext g0.F g0.m g.F g.m → Rel c g σ H →
  (∀ i d, ds[i]? = some d → J.go i H ∧ ∀ x H', J.yld i H x H' → ∃ F', Rel c { g with F := F' } σ H' ∧ Ext g.F g.m F' g.m ∧ Rep c F' g.m d x) ∧ (∀ i, ds.length ≤ i → J.stop i H)
def tI (c : Kx) (W : WX) (m : M (List D)) : TI := fun σ H R => ∃ g, Rel c g σ H ∧ After c W g σ (m g.ρ g.S) fun ds g' H' => ∀ J, ItR c g' J ds → R J H'
section
variable {X : Cx} {c : Kx} {W : WX} {e tg : Expr} {m : M D} {ms : M (List D)} {pos : Pos}
theorem PI.weak {w w' : TI} (h : PI X tg e w) (k : ∀ σ H R, w' σ H R → w σ H R) : PI X tg e w' := ⟨fun pins s σ H R I q => h.run pins s σ H R I (k σ H R q)⟩
theorem repL_at {F : Hp} {m : List Addr} {d : D} : ∀ {ds : List D} {vs : List V} {i : Nat}, RepL c F m ds vs → ds[i]? = some d → ∃ v, vs[i]? = some v ∧ Rep c F m d v
  | [], _, _, _, e => by simp at e
  | x :: xs, vs, i, h, e => by
    simp only [RepL] at h
    obtain ⟨v, r, rfl, h1, h2⟩ := h
    cases i with
    | zero => simp at e; subst e; exact ⟨v, rfl, h1⟩
    | succ i => simpa using repL_at (i := i) h2 (by simpa using e)
def mItems (m : M D) : M (List D) := M.bind m mList
theorem itr_lst {g0 : Gs} {a : Addr} {vs : List V} {ds : List D} (hK : X.K = c.K) (h : g0.F a = some (.lst vs)) (r : RepL c g0.F g0.m ds vs) : ItR c g0 (Itl X.K a) ds := by
  intro g σ H x R
  have ha : H a = some (.lst vs) := R.b.fh _ _ (x.f _ _ h)
  have hl := repL_length r
  refine ⟨fun i d e => ?_, fun i hi => ⟨vs, .of ha, by rw [hl]; exact hi⟩⟩
  obtain ⟨v, e1, r1⟩ := repL_at r e
  refine ⟨⟨vs, v, .of ha, e1⟩, fun y H' ⟨e2, q⟩ => ⟨g.F, ?_, .refl, ?_⟩⟩
  · rw [e2]; exact R
  · have := q vs (.of ha)
    rw [e1] at this; cases this
    exact r1.ext x
theorem itr_tup {g0 : Gs} {a : Addr} {vs : List V} {ds : List D} (hK : X.K = c.K) (h : SqT c.K g0.F a vs) (r : RepL c g0.F g0.m ds vs) : ItR c g0 (Itt X.K a) ds := by
  intro g σ H x R
  have ha : SqT X.K H a vs := by rw [hK]; exact sqT_of R.b.fh (x.sqT h)
  have hl := repL_length r
  refine ⟨fun i d e => ?_, fun i hi => ⟨vs, ha, by rw [hl]; exact hi⟩⟩
  obtain ⟨v, e1, r1⟩ := repL_at r e
  refine ⟨⟨vs, v, ha, e1⟩, fun y H' ⟨e2, q⟩ => ⟨g.F, ?_, .refl, ?_⟩⟩
  · rw [e2]; exact R
  · have := q vs ha
    rw [e1] at this; cases this
    exact r1.ext x
theorem oi_sq (hK : X.K = c.K) (he : PE X e (tM c W m)) : PI X tg e (tI c W (mItems m)) := by
  refine ⟨fun pins s σ H Rr I ⟨g, R, h⟩ => ?_⟩
  have h1 := After.bind h
  cases eq : m g.ρ g.S with
  | bad => rw [eq] at h1; exact h1.elim
  | exc x ρ S =>
    refine (pi_list he).run pins s σ H Rr I ⟨g, R, ?_⟩
    rw [eq] at h1 ⊢; exact h1
  | ok d ρ S =>
    rw [eq] at h1
    have go : ∀ {ok' : D → Gs → Hp → Prop}, (∀ g' H', g'.ρ = ρ → g'.S = S → GExt g g' → Rel c g' σ H' → After c W g' σ (mList d g'.ρ g'.S) (fun ds g' H' => ∀ J, ItR c g' J ds → Rr J H') → ok' d g' H') → After c W g σ (m g.ρ g.S) ok' := fun {ok'} f => by
      rw [eq]
      intro g' H' e1 e2 x1 R1
      exact f g' H' e1 e2 x1 R1 (h1 g' H' e1 e2 x1 R1)
    have dead : ∀ {g' : Gs} {H' : Hp}, After c W g' σ (M.bad g'.ρ g'.S) (fun (ds : List D) g' H' => ∀ J, ItR c g' J ds → Rr J H') → False := fun q => q
    have nope : (∀ ρ S, mList d ρ S = .bad) → wpAny (model X.prog X.w) X.A (eval e X.env) (fun v s1 => wpAny (model X.prog X.w) X.A (pyIter v) (PIE X pins σ tg Rr) X.xe s1) X.xe s := fun z => by
      refine (pi_list he).run pins s σ H Rr I ⟨g, R, go fun g' H' e1 e2 x1 R1 q => ?_⟩
      rw [z] at q; exact q.elim
    cases d with
    | lst ds =>
      refine (pi_list he).run pins s σ H Rr I ⟨g, R, go fun g' H' e1 e2 x1 R1 q v r => ?_⟩
      have q1 := After.pure q R1
      simp only [Rep] at r
      obtain ⟨a, vs, rfl, ha, rs⟩ := r
      exact ⟨a, rfl, ⟨vs, .of (R1.b.fh _ _ ha)⟩, q1 _ (itr_lst hK ha rs)⟩
    | tup ds =>
      refine (pi_tup he).run pins s σ H Rr I ⟨g, R, go fun g' H' e1 e2 x1 R1 q v r => ?_⟩
      have q1 := After.pure q R1
      simp only [Rep] at r
      obtain ⟨a, vs, rfl, ha, rs⟩ := r
      exact ⟨a, rfl, ⟨vs, by rw [hK]; exact sqT_of R1.b.fh ha⟩, q1 _ (itr_tup hK ha rs)⟩
    | str x =>
      refine (pi_str he).run pins s σ H Rr I ⟨g, R, go fun g' H' e1 e2 x1 R1 q v r => ?_⟩
      simp only [Rep] at r
      subst r
      unfold mList at q
      by_cases z : x.length ≤ SZ
      · simp only [if_pos z] at q
        refine ⟨_, rfl, After.pure q R1 _ fun g2 σ2 H2 x2 R2 => ⟨fun i d ed => ?_, fun i hi => ?_⟩⟩
        · rw [List.getElem?_map] at ed
          cases ex : x[i]? with
          | none => rw [ex] at ed; cases ed
          | some k =>
            rw [ex] at ed
            have ed : D.str [k] = d := by simpa using ed
            subst ed
            have hi := (List.getElem?_eq_some_iff.mp ex).1
            have ec : (toStr x).cps[i]? = some k := by simp [toStr, ex]
            refine ⟨show i < (toStr x).cps.size by simpa [toStr] using hi, fun y H' ⟨e2, k', ek, ey⟩ => ⟨g2.F, by rw [e2]; exact R2, .refl, ?_⟩⟩
            rw [ec] at ek; cases ek
            simp only [Rep]
            exact ey
        · show (toStr x).cps.size ≤ i
          simpa [toStr] using hi
      · simp only [if_neg z] at q; exact q.elim
    | non => exact nope fun _ _ => rfl
    | bl b => exact nope fun _ _ => rfl
    | int b => exact nope fun _ _ => rfl
    | dic b => exact nope fun _ _ => rfl
    | ref b => exact nope fun _ _ => rfl
    | scr b => exact nope fun _ _ => rfl
theorem rng_at (lo : Int) : ∀ (n i : Nat), (rngD lo n)[i]? = if i < n then some (.int (lo + i)) else none := by
  intro n
  induction n generalizing lo with
  | zero => intro i; simp [rngD]
  | succ n ih =>
    intro i
    cases i with
    | zero => simp [rngD]
    | succ i =>
      simp only [rngD, List.getElem?_cons_succ, ih]
      have e : lo + 1 + (i : Int) = lo + ((i + 1 : Nat) : Int) := by omega
      rw [e]
      by_cases z : i < n
      · rw [if_pos z, if_pos (by omega)]
      · rw [if_neg z, if_neg (by omega)]
theorem rng_len (lo : Int) : ∀ n : Nat, (rngD lo n).length = n := by
  intro n
  induction n generalizing lo with
  | zero => rfl
  | succ n ih => simp [rngD, ih]
theorem itr_rng {g0 : Gs} {lo : Int} {n : Nat} : ItR c g0 (Itr lo n) (rngD lo n) := by
  intro g σ H x R
  refine ⟨fun i d e => ?_, fun i hi => by rw [rng_len] at hi; exact hi⟩
  rw [rng_at] at e
  by_cases z : i < n
  · rw [if_pos z] at e; cases e
    exact ⟨z, fun y H' ⟨e2, ey⟩ => ⟨g.F, by rw [e2]; exact R, .refl, by simp only [Rep]; exact ey⟩⟩
  · rw [if_neg z] at e; cases e
def mRng1 (ms : M (List D)) : M (List D) := M.bind ms fun ds => match ds with
  | [.int n] => if -(2 ^ 62) ≤ n ∧ n < 2 ^ 62 then M.pure (rngD 0 n.toNat) else M.bad
  | _ => M.bad
def mRng2 (ms : M (List D)) : M (List D) := M.bind ms fun ds => match ds with
  | [.int l, .int n] => if -(2 ^ 62) ≤ l ∧ l < 2 ^ 62 ∧ -(2 ^ 62) ≤ n ∧ n < 2 ^ 62 then M.pure (rngD l (n - l).toNat) else M.bad
  | _ => M.bad
theorem oi_rng1 {a : Expr} {p : Pos} (hg : Gl X "range") (hm : X.mg "range" = none) (ha : PA X [a] (tA c W ms)) (hs : starEach [a] X.env = [(false, eval a X.env)]) :
    PI X tg (.Call (.Name "range" p) [a] [] pos) (tI c W (mRng1 ms)) := by
  refine PI.weak (pi_range1 hg hm ha hs) fun σ H Q ⟨g, R, h⟩ => ⟨g, R, (After.bind h).imp fun ds g1 H1 x1 R1 q vs rs => ?_⟩
  split at q
  · rename_i n
    obtain ⟨v, rfl, r⟩ := repL_one rs
    simp only [Rep] at r
    subst r
    by_cases z : -(2 ^ 62) ≤ n ∧ n < 2 ^ 62
    · rw [if_pos z] at q
      exact ⟨n, rfl, z.1, z.2, After.pure q R1 _ itr_rng⟩
    · rw [if_neg z] at q; exact q.elim
  · exact q.elim
end
end Ev
set_option Elab.async false
set_option linter.all false
set_option autoImplicit false
set_option maxRecDepth 100000
namespace Ev
open PySem PySem.Spec PyProof.Rows L2
def sFor (mi : M (List D)) (f : D → M Unit) (b : M Flow) : M Flow := M.bind mi (loopM f b)
def sWhl (fuel : Nat) (t : M Bool) (b : M Flow) : M Flow := whileM t b fuel
section
variable {c : Kx} {W : WX} {α : Type} {g g1 : Gs}
/-- what is known at g is known at g1, where the slots and the cells are the same -/
theorem After2.at_ {m : M α} {ok : α → Gs → St → Hp → Prop} (h : After2 c W g (m g.ρ g.S) ok) (x : GExt g g1) (e1 : g1.ρ = g.ρ) (e2 : g1.S = g.S) : After2 c W g1 (m g1.ρ g1.S) ok := by
  rw [e1, e2]; exact h.shift x
theorem After.at_ {σ : St} {m : M α} {ok : α → Gs → Hp → Prop} (h : After c W g σ (m g.ρ g.S) ok) (x : GExt g g1) (e1 : g1.ρ = g.ρ) (e2 : g1.S = g.S) : After c W g1 σ (m g1.ρ g1.S) ok := by
  rw [e1, e2]; exact h.shift x
theorem GExt.ofF {F' : Hp} (x : Ext g.F g.m F' g.m) : GExt g { g with F := F' } := ⟨x, rfl⟩
end
theorem drop_at {α : Type} {ds : List α} {i : Nat} {d : α} (h : ds[i]? = some d) : ds.drop i = d :: ds.drop (i + 1) := by
  obtain ⟨hl, e⟩ := List.getElem?_eq_some_iff.mp h
  rw [List.drop_eq_getElem_cons hl, e]
section
variable {X : Cx} {c : Kx} {W : WX} {e tg iter : Expr} {body : List Stmt} {m : M D} {mi : M (List D)} {f : D → M Unit} {b : M Flow} {pos : Pos}
theorem os_for (hp : PassesOwn (model X.prog X.w) X.A X.env X.xe) (hc : X.calm = true) (hi : PI X tg iter (tI c W mi)) (hg : PG X tg (tG c W zAny f)) (hb : PSs X body (tS c W b)) (hs : ∀ x, foldedSetIterable iter X.env x = pure x) :
    PS X (.For tg iter body [] pos) (tS c W (sFor mi f b)) := by
  refine PS.weak (ps_for hp hc hi hg hb hs) fun Dn σ H ⟨g, R, h⟩ => ⟨g, R, ((After2.bind h).one σ).imp fun ds g1 H1 x1 R1 q J hJ => ?_⟩
  refine ⟨fun i n σ H => ∃ g2, GExt g1 g2 ∧ Rel c g2 σ H ∧ n = ds.length - i ∧ i ≤ ds.length ∧ After2 c W g2 (loopM f b (ds.drop i) g2.ρ g2.S) (flowOk c Dn), ⟨_, g1, .refl, R1, rfl, Nat.zero_le _, q⟩, ?_⟩
  rintro i n σ2 H2 ⟨g2, x2, R2, en, hle, q2⟩
  obtain ⟨j1, j2⟩ := hJ g2 σ2 H2 x2.e R2
  cases ed : ds[i]? with
  | none =>
    have hl : ds.length ≤ i := List.getElem?_eq_none_iff.mp ed
    rw [List.drop_eq_nil_of_le hl] at q2
    exact .inl ⟨j2 i hl, After2.pure q2 R2⟩
  | some d =>
    have hlt : i < ds.length := (List.getElem?_eq_some_iff.mp ed).1
    obtain ⟨go, yl⟩ := j1 i d ed
    rw [drop_at ed] at q2
    refine .inr ⟨go, fun σ' H' => ∃ g3, GExt g1 g3 ∧ Rel c g3 σ' H' ∧ After2 c W g3 (loopM f b (ds.drop (i + 1)) g3.ρ g3.S) (flowOk c Dn), fun σ' H' ⟨g3, x3, R3, q3⟩ => ⟨ds.length - (i + 1), by omega, g3, x3, R3, rfl, hlt, q3⟩, fun y H' hy => ?_⟩
    obtain ⟨F', R3, x3, r3⟩ := yl y H' hy
    have q3 := After2.at_ q2 (GExt.ofF x3) rfl rfl
    refine ⟨_, d, R3, r3, (After2.bind q3).imp fun _ g4 σ4 H4 x4 R4 q4 _ => ⟨g4, R4, (After2.bind q4).imp fun fl g5 σ5 H5 x5 R5 q5 => ?_⟩⟩
    have x15 := ((x2.trans (GExt.ofF x3)).trans x4).trans x5
    cases fl with
    | nx => exact ⟨g5, x15, R5, q5⟩
    | ct => exact ⟨g5, x15, R5, q5⟩
    | br => exact After2.pure (W := W) q5 R5
    | rt v => exact After2.pure (W := W) q5 R5
    | rl v => exact After2.pure (W := W) q5 R5
theorem zip_at : ∀ (xs ys : List D) (i : Nat), (zipD xs ys)[i]? = match xs[i]?, ys[i]? with | some x, some y => some (.tup [x, y]) | _, _ => none
  | [], ys, i => by simp [zipD]
  | x :: xs, [], i => by simp [zipD]
  | x :: xs, y :: ys, 0 => by simp [zipD]
  | x :: xs, y :: ys, i + 1 => by simpa [zipD] using zip_at xs ys i
theorem zip_len : ∀ (xs ys : List D), (zipD xs ys).length = min xs.length ys.length
  | [], ys => by simp [zipD]
  | x :: xs, [] => by simp [zipD]
  | x :: xs, y :: ys => by simp [zipD, zip_len xs ys]
/-- a new tuple of known things -/
theorem Rel.tup (c : Kx) {g : Gs} {σ : St} {H : Hp} (R : Rel c g σ H) {T : Addr} {ds : List D} {vs : List V} (hT : H T = none) (r : RepL c g.F g.m ds vs) :
    ∃ F', Rel c { g with F := F' } σ (upd H T (.tup vs)) ∧ Ext g.F g.m F' g.m ∧ Rep c F' g.m (.tup ds) (.ref T) := by
  obtain ⟨R2, x2⟩ := R.grow (o := .tup vs) hT
  refine ⟨_, R2, x2.e, ?_⟩
  simp only [Rep]
  exact ⟨T, vs, rfl, SqT.of upd_same, r.ext x2.e⟩
theorem RepL.two {F : Hp} {m : List Addr} {d e : D} {v w : V} (h1 : Rep c F m d v) (h2 : Rep c F m e w) : RepL c F m [d, e] [v, w] := RepL.cons_ h1 (RepL.cons_ h2 (by simp [RepL]))
/-- both lists, or both tuples -/
def zipOf (ds : List D) : M (List D) := match ds with
  | [.lst xs, .lst ys] => M.pure (zipD xs ys)
  | [.tup xs, .tup ys] => M.pure (zipD xs ys)
  | _ => M.bad
def mZip (ms : M (List D)) : M (List D) := M.bind ms zipOf
end
end Ev
set_option Elab.async false
set_option linter.all false
set_option autoImplicit false
set_option maxRecDepth 100000
namespace Ev
open PySem PySem.Spec PyProof.Rows L2
def mWipe (own : List Nat) : M Unit := fun ρ S => .ok () (wipeE ρ own) S
def cmpR (own : List Nat) (f : D → M Unit) (t : M Bool) (e : M D) : List D → List D → M (List D)
  | acc, [] => M.pure acc
  | acc, d :: r => M.bind (f d) fun _ => M.bind t fun k => if k then M.bind e fun v => M.bind (mWipe own) fun _ => if acc.length < SZ then cmpR own f t e (acc ++ [v]) r else M.bad else M.bind (mWipe own) fun _ => cmpR own f t e acc r
def Res.noX {α : Type} : Res α → Res α
  | .ok a ρ S => .ok a ρ S
  | _ => .bad
def noX {α : Type} (m : M α) : M α := fun ρ S => (m ρ S).noX
/-- the new list of a comprehension -/
def fComp (mi : M (List D)) (own : List Nat) (f : D → M Unit) (t : M Bool) (e : M D) : M (List D) := M.bind mi fun ds => noX (M.bind (mWipe own) fun _ => cmpR own f t e [] ds)
/-- nothing is raised -/
def W0 : WX := fun _ _ _ _ => False
def zOwn (own : List Nat) : St → St → Prop := fun σ σ' => wipe σ' own = wipe σ own
theorem zr_own (own : List Nat) : Zr (zOwn own) := ⟨fun _ => rfl, fun _ _ _ h1 h2 => h2.trans h1⟩
theorem wipe_in {σ : St} {i : Nat} : ∀ {vs : List Nat}, i ∈ vs → i < σ.length → (wipe σ vs)[i]? = some none
  | v :: vs, h, hl => by
    unfold wipe
    by_cases e : v = i
    · subst e; rw [List.getElem?_set_self (by rw [wipe_length]; exact hl)]
    · rw [List.getElem?_set_ne e]
      exact wipe_in ((List.mem_cons.mp h).resolve_left (fun z => e z.symm)) hl
theorem wipe_ext {σ τ : St} {vs : List Nat} (hl : τ.length = σ.length) (h : ∀ i, i ∉ vs → τ[i]? = σ[i]?) : wipe τ vs = wipe σ vs := by
  apply List.ext_getElem?
  intro i
  by_cases hm : i ∈ vs
  · by_cases hi : i < σ.length
    · rw [wipe_in hm (by rw [hl]; exact hi), wipe_in hm hi]
    · rw [List.getElem?_eq_none (by rw [wipe_length, hl]; omega), List.getElem?_eq_none (by rw [wipe_length]; omega)]
  · rw [wipe_out hm, wipe_out hm]; exact h i hm
theorem wipe_wipe (σ : St) (vs : List Nat) : wipe (wipe σ vs) vs = wipe σ vs := wipe_ext (wipe_length σ vs) fun i h => wipe_out h
theorem zOwn_set {own : List Nat} {i : Nat} (h : i ∈ own) (σ : St) (v : V) : zOwn own σ (σ.set i (some v)) :=
  wipe_ext (by simp) fun j hj => by rw [List.getElem?_set_ne (fun z : i = j => hj (z ▸ h))]
section
variable {c : Kx} {g : Gs} {σ : St} {H : Hp} {W : WX}
/-- a slot is forgotten on both sides -/
theorem Rel.drop2 (R : Rel c g σ H) (i : Nat) : Rel c { g with ρ := g.ρ.set i none } (σ.set i none) H := by
  have zz : ∀ {j : Nat} {s : SV}, (g.ρ.set i none)[j]? = some (some s) → g.ρ[j]? = some (some s) ∧ j ≠ i := fun {j s} h => by
    by_cases z : j = i
    · subst z
      have hl : j < g.ρ.length := by
        have := (List.getElem?_eq_some_iff.mp h).1
        simpa using this
      rw [List.getElem?_set_self hl] at h
      cases h
    · rw [List.getElem?_set_ne (Ne.symm z)] at h
      exact ⟨h, z⟩
  refine ⟨R.b, by simp [R.ln], fun j d h => ?_, fun j xs h => ?_, fun j k xs ys a ne h1 h2 h3 => ?_, fun j x h => ?_⟩
  · obtain ⟨h, z⟩ := zz h
    obtain ⟨v, e1, r⟩ := R.sf j d h
    exact ⟨v, by rw [List.getElem?_set_ne (Ne.symm z)]; exact e1, r⟩
  · obtain ⟨h, z⟩ := zz h
    obtain ⟨a, vs, e1, q⟩ := R.so j xs h
    exact ⟨a, vs, by rw [List.getElem?_set_ne (Ne.symm z)]; exact e1, q⟩
  · obtain ⟨p1, z1⟩ := zz h1
    obtain ⟨p2, z2⟩ := zz h2
    rw [List.getElem?_set_ne (Ne.symm z1)] at h3
    rw [List.getElem?_set_ne (Ne.symm z2)]
    exact R.sd j k xs ys a ne p1 p2 h3
  · obtain ⟨h, z⟩ := zz h
    obtain ⟨a, e1, e2⟩ := R.sx j x h
    exact ⟨a, e1, by rw [List.getElem?_set_ne (Ne.symm z)]; exact e2⟩
theorem Rel.wipe_ : ∀ (vs : List Nat), Rel c g σ H → Rel c { g with ρ := wipeE g.ρ vs } (wipe σ vs) H
  | [], R => R
  | v :: vs, R => (Rel.wipe_ vs R).drop2 v
theorem Rel.unwipe {vs : List Nat} (R : Rel c g (wipe σ vs) H) : Rel c g σ H := by
  refine ⟨R.b, by rw [R.ln, wipe_length], fun j d h => ?_, fun j xs h => ?_, fun j k xs ys a ne h1 h2 h3 h4 => ?_, fun j x h => ?_⟩
  · obtain ⟨v, e1, r⟩ := R.sf j d h
    exact ⟨v, (wipe_some e1).1, r⟩
  · obtain ⟨a, vs, e1, q⟩ := R.so j xs h
    exact ⟨a, vs, (wipe_some e1).1, q⟩
  · obtain ⟨b1, _, e1, _⟩ := R.so j xs h1
    obtain ⟨b2, _, e2, _⟩ := R.so k ys h2
    have z1 := (wipe_some e1).1
    have z2 := (wipe_some e2).1
    rw [h3] at z1; rw [h4] at z2
    cases z1; cases z2
    exact R.sd j k xs ys a ne h1 h2 e1 e2
  · obtain ⟨a, e1, e2⟩ := R.sx j x h
    exact ⟨a, e1, (wipe_some e2).1⟩
/-- less is protected -/
theorem Rel.less (R : Rel c g σ H) {G0 : Hp} (s : ∀ a o, G0 a = some o → g.G a = some o) : Rel c { g with G := G0 } σ H := by
  have no : ∀ {a : Addr}, g.G a = none → G0 a = none := fun {a} h => by
    cases q : G0 a with
    | none => rfl
    | some o => have := s a o q; rw [h] at this; cases this
  refine ⟨⟨R.b.fh, fun a o h => R.b.gh a o (s a o h), fun a o h => no (R.b.fg a o h), R.b.ml, R.b.md, fun n x a h1 h2 => ?_⟩, R.ln, R.sf, fun i xs h => ?_, R.sd, R.sx⟩
  · obtain ⟨q1, q2, q3⟩ := R.b.cl n x a h1 h2
    exact ⟨q1, no q2, q3⟩
  · obtain ⟨a, vs, e1, h1, r, h2, h3, h4⟩ := R.so i xs h
    exact ⟨a, vs, e1, h1, r, h2, no h3, h4⟩
/-- something new is protected -/
theorem Rel.guard (R : Rel c g σ H) {a : Addr} {o : HO} (h : H a = none) : Rel c { g with G := upd g.G a o } σ (upd H a o) := by
  obtain ⟨f1, f2, f3⟩ := R.fresh h
  have R0 := R.grow0 (o := o) h
  have own : ∀ {b : Addr} {u : HO}, H b = some u → b ≠ a := fun q z => by subst z; rw [h] at q; cases q
  refine ⟨⟨R0.b.fh, fun b u q => ?_, fun b u q => ?_, R.b.ml, R.b.md, fun n x b h1 h2 => ?_⟩, R.ln, R.sf, fun i xs q => ?_, R.sd, R.sx⟩
  · have q : upd g.G a o b = some u := q
    by_cases z : b = a
    · subst z; rw [upd_same] at q ⊢; exact q
    · rw [upd_ne z] at q; exact R0.b.gh b u q
  · show upd g.G a o b = none
    have z : b ≠ a := fun z => by subst z; rw [f1] at q; cases q
    rw [upd_ne z]
    exact R.b.fg b u q
  · have z : b ≠ a := fun z => f3 (z ▸ List.mem_of_getElem? h2)
    obtain ⟨q1, q2, q3⟩ := R0.b.cl n x b h1 h2
    exact ⟨q1, by show upd g.G a o b = none; rw [upd_ne z]; exact q2, q3⟩
  · obtain ⟨b, vs, e1, h1, r, h2, h3, h4⟩ := R0.so i xs q
    obtain ⟨b', vs', e1', h1', _⟩ := R.so i xs q
    rw [e1] at e1'; cases e1'
    exact ⟨b, vs, e1, h1, r, h2, by show upd g.G a o b = none; rw [upd_ne (own h1')]; exact h3, h4⟩
/-- what is protected is written by its holder -/
theorem Rel.reguard (R : Rel c g σ H) {a : Addr} {u o : HO} (h : g.G a = some u) : Rel c { g with G := upd g.G a o } σ (upd H a o) := by
  have fn : g.F a = none := by
    cases q : g.F a with
    | none => rfl
    | some x => have := R.b.fg a x q; rw [h] at this; cases this
  have own : ∀ {b : Addr}, g.G b = none → b ≠ a := fun q z => by subst z; rw [h] at q; cases q
  refine ⟨⟨fun b x q => ?_, fun b x q => ?_, fun b x q => ?_, R.b.ml, R.b.md, fun n x b h1 h2 => ?_⟩, R.ln, R.sf, fun i xs q => ?_, R.sd, R.sx⟩
  · have z : b ≠ a := fun z => by subst z; rw [fn] at q; cases q
    rw [upd_ne z]; exact R.b.fh b x q
  · have q : upd g.G a o b = some x := q
    by_cases z : b = a
    · subst z; rw [upd_same] at q ⊢; exact q
    · rw [upd_ne z] at q ⊢; exact R.b.gh b x q
  · have z : b ≠ a := fun z => by subst z; rw [fn] at q; cases q
    show upd g.G a o b = none
    rw [upd_ne z]; exact R.b.fg b x q
  · obtain ⟨q1, q2, q3⟩ := R.b.cl n x b h1 h2
    have z := own q2
    exact ⟨q1, by show upd g.G a o b = none; rw [upd_ne z]; exact q2, by rw [upd_ne z]; exact q3⟩
  · obtain ⟨b, vs, e1, h1, r, h2, h3, h4⟩ := R.so i xs q
    have z := own h3
    exact ⟨b, vs, e1, by rw [upd_ne z]; exact h1, r, h2, by show upd g.G a o b = none; rw [upd_ne z]; exact h3, h4⟩
/-- a step, where more is protected than is told behind it -/
theorem After2.step {α β : Type} {G0 : Hp} {m : M α} {f : α → M β} {ok : β → Gs → St → Hp → Prop} (h : After2 c W0 { g with G := G0 } (M.bind m f g.ρ g.S) ok) (s : ∀ a o, G0 a = some o → g.G a = some o) :
    After2 c W0 g (m g.ρ g.S) fun a g1 _ _ => After2 c W0 { g1 with G := G0 } (f a g1.ρ g1.S) ok := by
  unfold M.bind Res.bind at h
  cases e : m g.ρ g.S with
  | bad => rw [e] at h; exact h
  | ok a ρ S =>
    rw [e] at h
    intro g' σ' H' e1 e2 x R
    have h' : After2 c W0 { g with G := G0 } (f a ρ S) ok := h
    rw [e1, e2]
    exact h'.shift ⟨x.e, rfl⟩
  | exc y ρ S =>
    rw [e] at h
    intro g' σ' H' cls d e1 e2 x R q
    exact h { g' with G := G0 } σ' H' cls d e1 e2 ⟨x.e, rfl⟩ (R.less (by rw [x.pr]; exact s)) q
end
section
variable {X : Cx} {c : Kx} {W : WX} {elt tg iter : Expr} {ifs : List Expr} {scope : Scope} {own : List (Str × Nat)} {vs : List Nat} {pos : Pos} {mi : M (List D)} {f : D → M Unit} {mt : M Bool} {me : M D}
theorem ots_nil {X : Cx} : PTs X [] (tB c W (M.pure true)) := ⟨fun pins s σ H Q I ⟨g, R, h⟩ => pts_nil.run pins s σ H Q I (After.pure h R)⟩
theorem ots_one {X : Cx} {e : Expr} (h : PT X e (tB c W mt)) : PTs X [e] (tB c W mt) := pts_one h
theorem lc_read {σ : St} {H : Hp} {Q : VK} (h : tF c W (fComp mi vs f mt me) σ H Q) : tLc (tI c W mi) (tG c W0 (zOwn vs) f) (tB c W0 mt) (tM c W0 me) vs σ H Q := by
  obtain ⟨g, R, h⟩ := h
  refine ⟨g, R, (After.bind h).imp fun ds g1 H1 x1 R1 q J hJ Da hD => ?_⟩
  have R1w := R1.wipe_ vs
  -- what is pending, at the block's slots
  have q2 : After2 c W0 { g1 with ρ := wipeE g1.ρ vs } (cmpR vs f mt me [] ds (wipeE g1.ρ vs) g1.S) fun xs g' σ' H' => σ' = wipe σ vs → ∀ a H'', Rel c g' σ H'' → Loose c g' σ H'' xs a → Q (.ref a) H'' := by
    have q1 : After c W g1 σ (cmpR vs f mt me [] ds (wipeE g1.ρ vs) g1.S).noX fun xs g' H' => ∀ a H'', Rel c g' σ H'' → Loose c g' σ H'' xs a → Q (.ref a) H'' := q
    revert q1
    cases cmpR vs f mt me [] ds (wipeE g1.ρ vs) g1.S with
    | bad => exact fun z => z
    | exc x ρ S => exact fun z => z.elim
    | ok xs ρ S => exact fun z g' σ' H' e1 e2 x R' es => z g' H' e1 e2 ⟨x.e, x.pr⟩ (by subst es; exact R'.unwipe)
  refine ⟨fun i n H => ∃ g2 ads acc, GExt { g1 with ρ := wipeE g1.ρ vs } { g2 with G := g1.G } ∧ g2.G = upd g1.G Da (.lst acc) ∧ Rel c g2 (wipe σ vs) H ∧ RepL c g2.F g2.m ads acc ∧ n = ds.length - i ∧ i ≤ ds.length ∧
    After2 c W0 { g2 with G := g1.G } (cmpR vs f mt me ads (ds.drop i) g2.ρ g2.S) fun xs g' σ' H' => σ' = wipe σ vs → ∀ a H'', Rel c g' σ H'' → Loose c g' σ H'' xs a → Q (.ref a) H'',
    ⟨_, { g1 with ρ := wipeE g1.ρ vs, G := upd g1.G Da (.lst []) }, [], [], .refl, rfl, R1w.guard hD, by simp [RepL], rfl, Nat.zero_le _, q2⟩, ?_⟩
  rintro i n H2 ⟨g2, ads, acc, x2, eG, R2, rs, en, hle, q3⟩
  have sub : ∀ a o, g1.G a = some o → g2.G a = some o := fun a o e => by
    rw [eG, upd_ne (fun z => by subst z; rw [R1.b.gh _ _ e] at hD; cases hD)]; exact e
  have x2e : Ext g1.F g1.m g2.F g2.m := x2.e
  obtain ⟨j1, j2⟩ := hJ g2 _ H2 x2e R2
  cases ed : ds[i]? with
  | none =>
    have hl : ds.length ≤ i := List.getElem?_eq_none_iff.mp ed
    rw [List.drop_eq_nil_of_le hl] at q3
    have R3 := (R2.less sub)
    refine .inl ⟨j2 i hl, After2.pure q3 R3 rfl Da H2 R3.unwipe ⟨⟨acc, R2.b.gh _ _ (by rw [eG, upd_same]), rs⟩, ?_, ?_, ?_, ?_⟩⟩
    · cases z : g2.F Da with
      | none => rfl
      | some o => have := R2.b.fg _ _ z; rw [eG, upd_same] at this; cases this
    · cases z : g1.G Da with
      | none => rfl
      | some o => have := R1.b.gh _ _ z; rw [hD] at this; cases this
    · intro hm
      obtain ⟨k, hk, e⟩ := List.getElem_of_mem hm
      have hs : k < g2.S.length := by rw [← R2.b.ml]; exact hk
      obtain ⟨_, z, _⟩ := R2.b.cl k g2.S[k] Da (by simp [hs]) (by rw [List.getElem?_eq_getElem hk, e])
      rw [eG, upd_same] at z; cases z
    · intro k ys h1 h2
      obtain ⟨b, ws, e1, _, _, _, h3, _⟩ := R2.so k ys h1
      have e2 := (wipe_some e1).1
      rw [h2] at e2; cases e2
      rw [eG, upd_same] at h3; cases h3
  | some d =>
    have hlt : i < ds.length := (List.getElem?_eq_some_iff.mp ed).1
    obtain ⟨go, yl⟩ := j1 i d ed
    rw [drop_at ed] at q3
    refine .inr ⟨go, fun H' => ∃ g3 ads acc, GExt { g1 with ρ := wipeE g1.ρ vs } { g3 with G := g1.G } ∧ g3.G = upd g1.G Da (.lst acc) ∧ Rel c g3 (wipe σ vs) H' ∧ RepL c g3.F g3.m ads acc ∧
      After2 c W0 { g3 with G := g1.G } (cmpR vs f mt me ads (ds.drop (i + 1)) g3.ρ g3.S) fun xs g' σ' H' => σ' = wipe σ vs → ∀ a H'', Rel c g' σ H'' → Loose c g' σ H'' xs a → Q (.ref a) H'',
      fun H' ⟨g3, ads, acc, x3, eG, R3, rs, q⟩ => ⟨ds.length - (i + 1), by omega, g3, ads, acc, x3, eG, R3, rs, rfl, hlt, q⟩, fun y H' hy => ?_⟩
    obtain ⟨F', R3, x3, r3⟩ := yl y H' hy
    have q4 : After2 c W0 { { g2 with F := F' } with G := g1.G } (cmpR vs f mt me ads (d :: ds.drop (i + 1)) g2.ρ g2.S) _ := q3.shift ⟨x3, rfl⟩
    have subs : ∀ {g' : Gs}, GExt g2 g' → ∀ a o, g1.G a = some o → g'.G a = some o := fun {g'} x a o e => by rw [x.pr]; exact sub a o e
    have q5 := After2.step (g := { g2 with F := F' }) q4 sub
    refine ⟨_, d, R3, r3, q5.imp fun _ g4 σ4 H4 x4 R4 q6 zo => ?_⟩
    have es : wipe σ4 vs = wipe σ vs := by
      have z : wipe σ4 vs = wipe (wipe σ vs) vs := zo
      rw [z, wipe_wipe]
    have x24 : GExt g2 g4 := (GExt.ofF x3).trans x4
    refine ⟨es, g4, R4, ((After2.step q6 (subs x24)).one σ4).imp fun k g5 H5 x5 R5 q7 => ?_⟩
    have x25 : GExt g2 g5 := x24.trans x5
    cases k with
    | false =>
      have Rw : Rel c { g5 with ρ := wipeE g5.ρ vs } (wipe σ vs) H5 := by rw [← es]; exact R5.wipe_ vs
      have q8 : After2 c W0 { g5 with G := g1.G } (cmpR vs f mt me ads (ds.drop (i + 1)) (wipeE g5.ρ vs) g5.S) _ := q7
      exact ⟨{ g5 with ρ := wipeE g5.ρ vs }, ads, acc, ⟨x2e.trans x25.e, rfl⟩, x25.pr.trans eG, Rw, rs.ext x25.e, q8.shift ⟨.refl, rfl⟩⟩
    | true =>
      have q8 : After2 c W0 { g5 with G := g1.G } (M.bind me (fun v => M.bind (mWipe vs) fun _ => if ads.length < SZ then cmpR vs f mt me (ads ++ [v]) (ds.drop (i + 1)) else M.bad) g5.ρ g5.S) _ := q7
      refine ⟨g5, R5, ((After2.step q8 (subs x25)).one σ4).imp fun v g6 H6 x6 R6 q9 y r => ?_⟩
      have x26 : GExt g2 g6 := x25.trans x6
      have hG : g6.G Da = some (.lst acc) := by rw [x26.pr, eG, upd_same]
      have q10 : After2 c W0 { g6 with G := g1.G } ((if ads.length < SZ then cmpR vs f mt me (ads ++ [v]) (ds.drop (i + 1)) else M.bad) (wipeE g6.ρ vs) g6.S) _ := q9
      by_cases z : ads.length < SZ
      · rw [if_pos z] at q10
        have rs' := rs.ext x26.e
        have Rw : Rel c { g6 with ρ := wipeE g6.ρ vs } (wipe σ vs) H6 := by rw [← es]; exact R6.wipe_ vs
        have Rg := Rw.reguard (o := .lst (acc ++ [y])) hG
        refine ⟨acc, R6.b.gh _ _ hG, by rw [sizeLine_eq, repL_length rs]; exact z, { g6 with ρ := wipeE g6.ρ vs, G := upd g6.G Da (.lst (acc ++ [y])) }, ads ++ [v], acc ++ [y], ⟨x2e.trans x26.e, rfl⟩, ?_, Rg, ?_, q10.shift ⟨.refl, rfl⟩⟩
        · show upd g6.G Da (.lst (acc ++ [y])) = _
          rw [x26.pr, eG, upd_upd]
        · exact rs'.app (by simp only [RepL]; exact ⟨y, [], rfl, r, rfl⟩)
      · rw [if_neg z] at q10; exact q10.elim
theorem okF_comp (hc : X.calm = true) (hN : X.N.Nodup) (hi : PI X tg iter (tI c W mi)) (ok : BlkOk X.N X.env.scope scope own) (hvs : own.map (·.2) = vs)
    (hg : ∀ (s : Shared) (H : Hp) (C : Addr) (cl : List (Str × Addr)) (fp : List Addr), PG (X.blk s H scope (compEnvC scope cl C X.env) fp) tg (tG c W0 (zOwn vs) f))
    (ht : ∀ (s : Shared) (H : Hp) (C : Addr) (cl : List (Str × Addr)) (fp : List Addr), PTs (X.blk s H scope (compEnvC scope cl C X.env) fp) ifs (tB c W0 mt))
    (he : ∀ (s : Shared) (H : Hp) (C : Addr) (cl : List (Str × Addr)) (fp : List Addr), PE (X.blk s H scope (compEnvC scope cl C X.env) fp) elt (tM c W0 me)) (hs : ∀ x, foldedSetIterable iter X.env x = pure x) :
    PE X (.ListComp elt [⟨tg, iter, ifs, 0⟩] scope pos) (tF c W (fComp mi vs f mt me)) := by
  subst hvs
  exact PE.weak (pe_lc hc hN hi ok hg ht he hs) fun σ H Q h => lc_read h
/-- .. that stays -/
theorem os_asgLc {i : Nat} {y : Str} {py spos : Pos} (hc : X.calm = true) (hN : X.N.Nodup) (hy : X.N[i]? = some y) (hyl : X.env.scope.names.lookup y = some .local) (hsw : swapsWith (.ListComp elt [⟨tg, iter, ifs, 0⟩] scope pos) (some (.Name y py)) spos.line X.env = pure true)
    (hi : PI X tg iter (tI c W mi)) (ok : BlkOk X.N X.env.scope scope own) (hvs : own.map (·.2) = vs)
    (hg : ∀ (s : Shared) (H : Hp) (C : Addr) (cl : List (Str × Addr)) (fp : List Addr), PG (X.blk s H scope (compEnvC scope cl C X.env) fp) tg (tG c W0 (zOwn vs) f))
    (ht : ∀ (s : Shared) (H : Hp) (C : Addr) (cl : List (Str × Addr)) (fp : List Addr), PTs (X.blk s H scope (compEnvC scope cl C X.env) fp) ifs (tB c W0 mt))
    (he : ∀ (s : Shared) (H : Hp) (C : Addr) (cl : List (Str × Addr)) (fp : List Addr), PE (X.blk s H scope (compEnvC scope cl C X.env) fp) elt (tM c W0 me)) (hs : ∀ x, foldedSetIterable iter X.env x = pure x) :
    PS X (.Assign [.Name y py] (.ListComp elt [⟨tg, iter, ifs, 0⟩] scope pos) spos) (tS c W (sAsg (M.bind (fComp mi vs f mt me) fun xs => M.pure (.lst xs)) (mSet i))) := by
  subst hvs
  refine PS.weak (ps_setLc hc hN hy hyl hsw hi ok hg ht he hs) fun D σ H ⟨g, R, h⟩ => lc_read ⟨g, R, ?_⟩
  have h1 := After2.bind h
  have h2 := (After2.bind h1).one σ
  refine h2.imp fun xs g1 H1 x1 R1 q a H2 R2 L => ?_
  obtain ⟨F', R3, x3, r⟩ := R2.freeze L
  have q1 : After2 c W g1 (.ok (.lst xs) g1.ρ g1.S) fun d g2 _ _ => After2 c W g2 ((M.bind (mSet i d) fun _ => sNx) g2.ρ g2.S) (flowOk c D) := q
  have q2 := After2.bind (After2.app q1 R3 x3 rfl rfl)
  unfold mSet at q2
  by_cases z : i < g1.ρ.length
  · have z' : i < ({ g1 with F := F' } : Gs).ρ.length := z
    rw [if_pos z'] at q2
    have R4 := R3.set (i := i) r
    exact After2.pure (After2.app q2 R4 ⟨.refl, rfl⟩ rfl rfl) R4
  · have z' : ¬ i < ({ g1 with F := F' } : Gs).ρ.length := z
    rw [if_neg z'] at q2; exact q2.elim
end
end Ev
set_option Elab.async false
set_option linter.all false
set_option autoImplicit false
set_option maxRecDepth 100000
namespace Ev
open PySem PySem.Spec PyProof.Rows
section
variable {prog : Program} {w : World} {A : Around} {E : Value → Shared → Prop} {s : Shared}
theorem walksTup (hh : A.handled = none) {it t : Addr} (hne : t ≠ it) {items : Array Value} (k : Nat) :
    WalksS prog w A it [it, t] [it] (fun a b => a = b) (items.size - k) (fun i v => items[k + i]? = some v) (fun i s => IsTupIter s.heap it t (k + i) ∧ IsTup s.heap t items) where
  sub := fun b hb => by simp at hb; subst hb; simp
  grefl := fun _ => rfl
  gtrans := fun _ _ _ h1 h2 => h1.trans h2
  frame := fun i s (h' : Heap) tk ⟨⟨o, e, hc, hd⟩, ob, e2, r⟩ _ kk => ⟨⟨o, kk it (by simp) o e, hc, hd⟩, ob, kk t (by simp) ob e2, r⟩
  item := fun i s Q E hi ⟨hit, ht⟩ hQ => by
    have hlt : k + i < items.size := by omega
    refine next_tuple_item hit ht (x := items[k + i]) (by simp [hlt]) fun h₁ hit₁ hs₁ => hQ _ _ (by simp [hlt]) ⟨hit₁, ht.extBut hs₁.extBut hne⟩ ⟨fun b o hb e => (hs₁.2 b (by simpa using hb)).trans e, rfl, rfl, rfl, Nat.le_refl _⟩
  done := fun s Q E ⟨hit, ht⟩ hQ => by
    refine next_tuple_end hh hit ht (Array.getElem?_eq_none (by omega)) fun h₂ he₂ => hQ _ ⟨fun b o hb e => he₂ b o (by simpa using hb) e, rfl, rfl, rfl, Nat.le_refl _⟩
  self := fun i s Q E ⟨hit, _⟩ hQ => wpAny_pyIter_tupleiter hit hQ
theorem items_of {items : Array Value} {P : Nat → Value → Prop} {acc : Array Value} {n k : Nat} (h : ItemsOf (fun i v => items[k + i]? = some v) acc n) (hn : n = items.size - k) : acc.toList = items.toList.drop k := by
  obtain ⟨h1, h2⟩ := h
  apply List.ext_getElem?
  intro i
  rw [List.getElem?_drop]
  cases e : acc[i]? with
  | none =>
    have hl : acc.size ≤ i := Array.getElem?_eq_none_iff.mp e
    rw [List.getElem?_eq_none (by simpa using hl), List.getElem?_eq_none (by simp; omega)]
  | some v =>
    have := h2 i v e
    simp only [Array.getElem?_toList]
    rw [e, this]
/-- what is left in a tuple's iterator, taken out -/
theorem collectTup (hh : A.handled = none) {it t : Addr} (hne : t ≠ it) {items : Array Value} (k : Nat) (hit : IsTupIter s.heap it t k) (ht : IsTup s.heap t items) (hsz : items.size ≤ sizeLine) {Q : List Value → Shared → Prop}
    (hQ : ∀ (h' : Heap) (tk : Nat), (∀ b o, b ≠ it → s.heap.get? b = some o → h'.get? b = some o) → s.heap.objs.size ≤ h'.objs.size → Q (items.toList.drop k) { s with heap := h', toks := tk }) : wpAny (model prog w) A (collect (.ref it)) Q E s := by
  have hil : it < s.heap.objs.size := by obtain ⟨o, e, _⟩ := hit; exact Heap.lt_size e
  have htl : t < s.heap.objs.size := by obtain ⟨o, e, _⟩ := ht; exact Heap.lt_size e
  have W := walksTup (prog := prog) (w := w) (A := A.in1) (items := items) (show A.in1.handled = none from hh) hne k
  have notIn : s.heap.objs.size ∉ [it, t] := by
    intro hm
    have : s.heap.objs.size = it ∨ s.heap.objs.size = t := by simpa using hm
    rcases this with z | z
    · exact Nat.ne_of_gt hil z
    · exact Nat.ne_of_gt htl z
  have dif : s.heap.objs.size ≠ it := Nat.ne_of_gt hil
  unfold collect
  apply wpAny_bind
  apply wpAny_runValue
  refine codeAny_builtin F.entry_proto_collect ?_
  rw [F.plain_proto_collect |> (Around.under_plainId · _)]
  show wpAny _ A.in1 (newList [] >>= fun z => again (.builtin "list.__iadd__" ⟨[z, .ref it], []⟩)) _ _ s
  apply wpAny_bind
  refine wpAny_newObj_type ?_
  · apply wpAny_pure
    refine ⟨F.plain_list_iadd |> (plainId_quiet · _), codeAny_builtin F.entry_list_iadd ?_⟩
    rw [F.plain_list_iadd |> (Around.under_plainId · _)]
    have st := W.frame 0 s (s.heap.push { cls := .type "list", data := .seq ([] : List Value).toArray }) s.toks ⟨hit, ht⟩ (Nat.le_refl _) (fun b _ o e => s.heap.get?_push_of_some _ e)
    have new : (s.heap.push { cls := .type "list", data := .seq ([] : List Value).toArray }).get? s.heap.objs.size = some { cls := .type "list", data := .seq ([] : List Value).toArray } := Heap.get?_push_size _ rfl
    have ne2 : Builtin.List.listSameRef (.ref s.heap.objs.size) (.ref it) = false := by simpa [Builtin.List.listSameRef] using dif
    have ty : ∀ (h' : Heap) (tk : Nat), IsTupIter h' it t k → Shared.TypeIs { s with heap := h', toks := tk } (.ref it) "tuple_iterator" := fun h' tk ⟨o, e, hc, _⟩ => ⟨o, e, hc⟩
    show wpAny _ A.in1 (Builtin.List.listExtendWith (.ref s.heap.objs.size) (.ref it) (.ref s.heap.objs.size)) _ _ _
    unfold Builtin.List.listExtendWith
    apply wpAny_bind
    refine wpAny_typeOf (ty _ _ st.1) ?_
    rw [ne2 |> fun z => if_neg (by rw [z]; decide)]
    apply wpAny_bind
    refine W.self 0 _ _ _ st ?_
    apply wpAny_bind
    apply wpAny_holding
    unfold Builtin.List.listLengthHint
    apply wpAny_bind
    refine wpAny_specialOf (ty _ _ st.1) F.nolen_tu ?_
    show wpAny _ A.in1 (specialOf (.ref it) (Str.ofString "__length_hint__") >>= _) _ _ _
    apply wpAny_bind
    refine wpAny_specialOf (ty _ _ st.1) F.hint_tu ?_
    generalize hid : ("tuple_iterator.__length_hint__" : String) = nm
    wp_delta
    rw [show splitId nm = some ("tuple_iterator", "__length_hint__") from by subst hid; decide +kernel]
    subst hid
    apply wpAny_bind
    refine wpAny_isInstance (T := "tuple_iterator") (b := true) (ty _ _ st.1) (by rw [isSubtype_type]; kernel_rfl) ?_
    apply wpAny_pure
    rw [if_neg (by decide)]
    apply wpAny_pure
    refine ⟨F.plain_extend_loop |> (plainId_quiet · _), codeAny_extend_loopS W (by omega) _ notIn _ (items.size - k) 0 _ _ _ rfl (Nat.zero_le _) st new (ItemsOf.nil _) ?_⟩
    intro s' acc n mv there ac
    show wpAny _ A (load s.heap.objs.size >>= _) _ _ s'
    apply wpAny_bind
    refine wpAny_load there ?_
    apply wpAny_pure
    have ea := items_of (P := fun _ _ => True) ac rfl
    show Q acc.toList s'
    rw [ea]
    obtain ⟨hp, g, d, tk, os⟩ := s'
    obtain ⟨m1, m2, m3, m4, m5⟩ := mv
    have e2 : s.gens = g := m2
    have e3 : d = s.drawn := m3
    have e4 : os = s.os := m4
    subst e2 e3 e4
    have big := Heap.lt_size there
    refine hQ hp tk (fun b o hb e => ?_) (Nat.le_of_lt big)
    refine m1 b o ?_ (s.heap.get?_push_of_some _ e)
    have lt := Heap.lt_size e
    intro hm
    have : b = s.heap.objs.size ∨ b = it := by simpa using hm
    rcases this with z | z
    · exact Nat.ne_of_lt lt z
    · exact hb z
theorem unpackItems_star1 {t : Addr} {items : Array Value} {x : Value} {xs : List Value} {Q : List Value → Shared → Prop} (hh : A.handled = none) (ht : IsTup s.heap t items) (hi : items.toList = x :: xs) (hsz : items.size ≤ sizeLine)
    (hQ : ∀ (h' : Heap) (tk : Nat), (∀ b o, s.heap.get? b = some o → h'.get? b = some o) → s.heap.objs.size ≤ h'.objs.size → Q [x, .ref h'.objs.size] { s with heap := h'.push { cls := .type "list", data := .seq xs.toArray }, toks := tk }) :
    wpAny (model prog w) A (unpackItems (.ref t) 2 (some 1)) Q E s := by
  have hlt : t ≠ s.heap.objs.size := by obtain ⟨o, ho, _⟩ := ht; exact Nat.ne_of_lt (Heap.lt_size ho)
  have hsize : items.size = xs.length + 1 := by
    have := congrArg List.length hi
    simpa using this
  unfold unpackItems
  refine wpAny_bind ?_
  unfold notIterableAtAll
  refine wpAny_bind (wpAny_specialOf ht.typeIs slot_tuple_iter.lookup ?_)
  refine wpAny_pure ?_
  simp only [Bool.false_eq_true, if_false]
  refine wpAny_bind (wpAny_holding (iter_tuple ht ?_))
  refine wpAny_bind (wpAny_holding (draw_tuple hlt 1 0 _ _ ⟨_, Heap.get?_push_size _ rfl, rfl, rfl⟩ (ht.push _) (by omega) fun h₁ hit₁ hs₁ => ?_))
  have hall : List.take 1 (List.drop 0 items.toList) = [x] := by rw [hi]; rfl
  rw [hall]
  rw [if_neg (by simp)]
  have ht₁ : IsTup h₁ t items := (ht.push _).extBut hs₁.extBut hlt
  have hl1 : s.heap.objs.size < h₁.objs.size := by
    obtain ⟨o, e, _⟩ := hit₁
    exact Heap.lt_size e
  refine wpAny_bind (wpAny_holding (collectTup hh hlt 1 hit₁ ht₁ hsz fun hp tk m1 m2 => ?_))
  have ea : items.toList.drop 1 = xs := by rw [hi]; rfl
  rw [ea]
  simp only [Nat.sub_self, Nat.not_lt_zero, if_false, Nat.sub_zero, List.take_length, List.drop_length, List.append_nil]
  refine wpAny_bind (wpAny_newObj_type ?_ (by show xs.length ≤ sizeLine; omega))
  refine wpAny_pure ?_
  have hk : ∀ b o, s.heap.get? b = some o → hp.get? b = some o := fun b o e => by
    have hb : b ≠ s.heap.objs.size := Nat.ne_of_lt (Heap.lt_size e)
    exact m1 b o hb (hs₁.extBut b o hb (Heap.get?_push_of_some _ e))
  exact hQ hp tk hk (Nat.le_trans (Nat.le_of_lt hl1) m2)
theorem assign_star1 {env : PySem.Env} {elts : List Expr} {x1} {pos : Pos} {t : Addr} {items : Array Value} {x : Value} {xs : List Value} {Q : Unit → Shared → Prop} (hh : A.handled = none) (ht : IsTup s.heap t items) (hi : items.toList = x :: xs) (hsz : items.size ≤ sizeLine)
    (hn : (assignEach elts env).length = 2) (hstar : (assignEach elts env).findIdx? (·.1) = some 1)
    (h : ∀ (h' : Heap) (tk : Nat), (∀ b o, s.heap.get? b = some o → h'.get? b = some o) → s.heap.objs.size ≤ h'.objs.size → wpAny (model prog w) A (assignInOrder ((assignEach elts env).map (·.2)) [x, .ref h'.objs.size]) Q E { s with heap := h'.push { cls := .type "list", data := .seq xs.toArray }, toks := tk }) :
    wpAny (model prog w) A (assign (.Tuple elts x1 pos) env (.ref t)) Q E s := by
  rw [assign_Tuple]
  refine wpAny_bind (wpAny_standAt ?_)
  unfold unpack
  rw [hn, hstar]
  exact wpAny_bind (wpAny_holding (unpackItems_star1 hh ht hi hsz h))
end
end Ev
set_option Elab.async false
set_option linter.all false
set_option autoImplicit false
set_option maxRecDepth 100000
namespace Ev
open PySem PySem.Spec PyProof.Rows L2
def gStar (f k : D → M Unit) (d : D) : M Unit := match d with
  | .tup (x :: xs) => M.bind (f x) fun _ => k (.lst xs)
  | _ => M.bad
section
variable {X : Cx} {c : Kx} {W : WX} {pos p2 : Pos} {e1 e2 : Expr} {f k : D → M Unit} {Z : St → St → Prop}
theorem og_star {kk : Nat} (hK : X.K = c.K) (hc : X.calm = true) (zr : Zr Z) (h1 : PG X e1 (tG c W Z f)) (h2 : PG X e2 (tG c W Z k)) (hn : (assignEach [e1, .Starred e2 p2] X.env).length = 2) (hst : (assignEach [e1, .Starred e2 p2] X.env).findIdx? (·.1) = some 1)
    (hs : (assignEach [e1, .Starred e2 p2] X.env).map (·.2) = [assign e1 X.env, assign e2 X.env]) : PG X (.Tuple [e1, .Starred e2 p2] kk pos) (tG c W Z (gStar f k)) := by
  refine ⟨fun pins s σ H v u Q I r ⟨g, d, R, rr, hh⟩ => ?_⟩
  unfold gStar at hh
  split at hh
  · rename_i x xs
    simp only [Rep] at rr
    obtain ⟨a, vs, rfl, hq, rs⟩ := rr
    simp only [RepL] at rs
    obtain ⟨v1, vr, rfl, r1, rs⟩ := rs
    cases r
    have hq' : SqT X.K H a (v1 :: vr) := by rw [hK]; exact sqT_of R.b.fh hq
    obtain ⟨its, rv, ht, hz⟩ := I.tuple hq'
    cases rv with
    | cons ru rvr =>
      rename_i u1 ur
      have hz2 : (u1 :: ur).toArray.size ≤ sizeLine := by
        have e := rvr.length
        have hz' : vr.length + 1 ≤ sizeLine := by simpa using hz
        simp
        omega
      refine assign_star1 (x := u1) (xs := ur) (I.ok.hd hc) ht (by simp) hz2 hn hst fun h' tk hkeep hle => ?_
      rw [hs]
      have hl := rvr.length
      have hz' : vr.length + 1 ≤ sizeLine := by simpa using hz
      have hz2 : vr.length ≤ sizeLine := by
        omega
      have I1 : Inv X pins σ (upd H h'.objs.size (.lst vr)) { s with heap := h'.push { cls := .type "list", data := .seq ur.toArray }, toks := tk } :=
        I.laid (fun b o e => Heap.get?_push_of_some _ (hkeep b o e)) hle ⟨hz2, ur, 0, rvr, Heap.get?_push_size _ rfl⟩
      obtain ⟨R1, x1⟩ := R.grow (o := .lst vr) (I.hok.fresh hle)
      have h0 := hh.at_ x1 rfl rfl
      refine assignInOrder_cons (thn (h1.run pins _ σ _ v1 u1 (fun σ' H' => Z σ σ' ∧ ∃ g', GExt { g with F := upd g.F h'.objs.size (.lst vr) } g' ∧ Rel c g' σ' H' ∧ After2 c W g' (k (.lst xs) g'.ρ g'.S) fun _ _ σ'' H'' => Z σ σ'' → Q σ'' H'') I1 ru ⟨_, x, R1, r1.ext x1.e, (After2.bind h0).imp fun _ g2 σ2 H2 x2 R2 q z => ⟨z, g2, x2, R2, q⟩⟩) fun _ s2 hs2 => ?_)
      obtain ⟨σ2, H2, I2, z2, g2, x2, R2, q2⟩ := hs2
      refine assignInOrder_cons (thn (h2.run pins _ σ2 H2 (.ref h'.objs.size) _ Q I2 rfl ⟨g2, .lst xs, R2, ?_, q2.imp fun _ g3 σ3 H3 x3 R3 q z => q (zr.trans _ _ _ z2 z)⟩) fun _ s3 hs3 => assignInOrder_nil hs3)
      simp only [Rep]
      exact ⟨_, vr, rfl, x2.e.f _ _ (by simp [upd]), (rs.ext x1.e).ext x2.e⟩
  · exact hh.elim
theorem RepL.set_at {F : Hp} {m : List Addr} {d : D} {v : V} (r : Rep c F m d v) : ∀ {ds : List D} {vs : List V} (i : Nat), RepL c F m ds vs → RepL c F m (ds.set i d) (vs.set i v)
  | [], vs, i, h => by simp only [RepL] at h; subst h; simp [RepL]
  | x :: xs, vs, i, h => by
    simp only [RepL] at h
    obtain ⟨w, t, rfl, h1, h2⟩ := h
    cases i with
    | zero => exact RepL.cons_ r h2
    | succ i => exact RepL.cons_ h1 (RepL.set_at r i h2)
theorem Rel.put {g : Gs} {σ : St} {H : Hp} (R : Rel c g σ H) {n : Nat} {a : Addr} {xs ys : List D} {vs : List V} (hm : g.m[n]? = some a) (hS : g.S[n]? = some (.lst xs)) (r : RepL c g.F g.m ys vs) :
    Rel c { g with S := g.S.set n (.lst ys) } σ (upd H a (.lst vs)) := by
  obtain ⟨q1, q2, q3⟩ := R.b.cl n _ a hS hm
  have hn : n < g.S.length := (List.getElem?_eq_some_iff.mp hS).1
  refine ⟨⟨fun b o h => ?_, fun b o h => ?_, R.b.fg, by simp [R.b.ml], R.b.md, fun k x b h1 h2 => ?_⟩, R.ln, R.sf, fun i zs h => ?_, R.sd, R.sx⟩
  · rw [upd_ne (fun z => by subst z; rw [q1] at h; cases h)]; exact R.b.fh b o h
  · rw [upd_ne (fun z => by subst z; have h : g.G b = some o := h; rw [q2] at h; cases h)]; exact R.b.gh b o h
  · by_cases z : k = n
    · subst z
      have h2 : g.m[k]? = some b := h2
      rw [hm] at h2; cases h2
      have h1 : (g.S.set k (.lst ys))[k]? = some x := h1
      rw [List.getElem?_set_self hn] at h1
      cases h1
      exact ⟨q1, q2, vs, upd_same, r⟩
    · have h1 : (g.S.set n (.lst ys))[k]? = some x := h1
      rw [List.getElem?_set_ne (Ne.symm z)] at h1
      have nb : b ≠ a := fun e => by
        subst e
        obtain ⟨l1, e1⟩ := List.getElem?_eq_some_iff.mp hm
        obtain ⟨l2, e2⟩ := List.getElem?_eq_some_iff.mp (show g.m[k]? = some b from h2)
        have e3 : g.m[k] = g.m[n] := e2.trans e1.symm
        have pw := List.pairwise_iff_getElem.mp R.b.md
        rcases Nat.lt_or_gt_of_ne z with q | q
        · exact pw k n l2 l1 q e3
        · exact pw n k l1 l2 q e3.symm
      obtain ⟨p1, p2, p3⟩ := R.b.cl k x b h1 h2
      exact ⟨p1, p2, by rw [upd_ne nb]; exact p3⟩
  · obtain ⟨b, ws, e1, h1, rs, h2, h3, h4⟩ := R.so i zs h
    have nb : b ≠ a := fun e => by subst e; exact h4 (List.mem_of_getElem? hm)
    exact ⟨b, ws, e1, by rw [upd_ne nb]; exact h1, rs, h2, h3, h4⟩
def gPut (mo mi : M D) (d : D) : M Unit := M.bind mo fun x => M.bind mi fun k => mPut x k d
theorem og_put {o i : Expr} {mo mi : M D} (hK : X.K = c.K) (ho : PE X o (tM c W mo)) (hi : PE X i (tM c W mi)) (zr : Zr Z)
    (ha : ∀ v, assign (.Subscript o i pos) X.env v = (do
      let ov ← holding [v] (eval o X.env)
      let iv ← holding [v, ov] (eval i X.env)
      standAt pos
      holding [v, ov, iv] (setItem ov iv v)
      release [v, ov, iv] [])) : PG X (.Subscript o i pos) (tG c W Z (gPut mo mi)) := by
  refine PG.weak (pg_sub ho hi set_list ha) fun v σ H Q ⟨g, d, R, r, h⟩ => ⟨g, R, ((After2.bind h).one σ).imp fun x g1 H1 x1 R1 q xv rx => ⟨g1, R1, ((After2.bind q).one σ).imp fun k g2 H2 x2 R2 q2 kv rk => ?_⟩⟩
  unfold mPut at q2
  cases x with
  | ref n =>
    cases k with
    | int k =>
      cases eS : g2.S[n]? with
      | none => simp only [eS] at q2; exact q2.elim
      | some cell =>
        cases cell with
        | dct _ => simp only [eS] at q2; exact q2.elim
        | ins _ _ => simp only [eS] at q2; exact q2.elim
        | lst xs =>
          simp only [eS] at q2
          by_cases z : 0 ≤ k ∧ k.toNat < xs.length
          · rw [if_pos z] at q2
            simp only [Rep] at rx rk
            obtain ⟨a, hm, rfl⟩ := rx
            subst rk
            have hm2 := x2.e.at_ hm
            obtain ⟨p1, p2, vs, hv, rs⟩ := R2.b.cl n _ a eS hm2
            have rd := (r.ext x1.e).ext x2.e
            have R3 := R2.put hm2 eS (RepL.set_at rd k.toNat rs)
            refine ⟨a, vs, k, k.toNat, rfl, rfl, hv, ?_, After2.app q2 R3 ⟨.refl, rfl⟩ rfl rfl (zr.refl _)⟩
            have hl := repL_length rs
            have z2 := z.2
            unfold ixN
            rw [if_pos z.1, if_pos (by omega)]
          · rw [if_neg z] at q2; exact q2.elim
    | non => exact q2.elim
    | bl b => exact q2.elim
    | str b => exact q2.elim
    | tup b => exact q2.elim
    | lst b => exact q2.elim
    | dic b => exact q2.elim
    | ref b => exact q2.elim
    | scr b => exact q2.elim
  | non => exact q2.elim
  | bl b => exact q2.elim
  | int b => exact q2.elim
  | str b => exact q2.elim
  | tup b => exact q2.elim
  | lst b => exact q2.elim
  | dic b => exact q2.elim
  | scr b => exact q2.elim
/-- a new cell -/
def xCel (ms : M (List D)) : M D := M.bind ms fun ds => if ds.length ≤ SZ then mCell ds else M.bad
theorem Rel.newCell {g : Gs} {σ : St} {H : Hp} (R : Rel c g σ H) {p : Addr} {ds : List D} {vs : List V} (hp : H p = none) (r : RepL c g.F g.m ds vs) :
    Rel c { g with m := g.m ++ [p], S := g.S ++ [.lst ds] } σ (upd H p (.lst vs)) ∧ GExt g { g with m := g.m ++ [p], S := g.S ++ [.lst ds] } := by
  obtain ⟨f1, f2, f3⟩ := R.fresh hp
  have R0 := R.grow0 (o := .lst vs) hp
  have ex : Ext g.F g.m g.F (g.m ++ [p]) := ⟨fun _ _ h => h, [p], rfl⟩
  refine ⟨⟨⟨R0.b.fh, R0.b.gh, R.b.fg, by simp [R.b.ml], ?_, fun n x a h1 h2 => ?_⟩, R.ln, fun i d h => ?_, fun i xs h => ?_, R.sd, R.sx⟩, ex, rfl⟩
  · rw [List.nodup_append]
    exact ⟨R.b.md, by simp, fun a ha b hb => by simp at hb; subst hb; exact fun z => f3 (z ▸ ha)⟩
  · have h1 : (g.S ++ [Cell.lst ds])[n]? = some x := h1
    have h2 : (g.m ++ [p])[n]? = some a := h2
    by_cases z : n < g.S.length
    · rw [List.getElem?_append_left z] at h1
      rw [List.getElem?_append_left (by rw [R.b.ml]; exact z)] at h2
      obtain ⟨q1, q2, q3⟩ := R0.b.cl n x a h1 h2
      refine ⟨q1, q2, ?_⟩
      exact q3.ext ex
    · rw [List.getElem?_append_right (by omega)] at h1
      rw [List.getElem?_append_right (by rw [R.b.ml]; omega)] at h2
      rw [R.b.ml] at h2
      cases hk : n - g.S.length with
      | zero =>
        rw [hk] at h1 h2
        simp at h1 h2
        subst h1 h2
        exact ⟨f1, f2, vs, upd_same, r.ext ex⟩
      | succ k => rw [hk] at h1; simp at h1
  · obtain ⟨v, e1, r1⟩ := R.sf i d h
    exact ⟨v, e1, r1.ext ex⟩
  · obtain ⟨a, ws, e1, h1, r1, h2, h3, h4⟩ := R0.so i xs h
    refine ⟨a, ws, e1, h1, r1.ext ex, h2, h3, fun hm => ?_⟩
    have hm : a ∈ g.m ++ [p] := hm
    rcases List.mem_append.mp hm with z | z
    · exact h4 z
    · simp at z
      obtain ⟨b, us, e2, p1, _⟩ := R.so i xs h
      rw [e1] at e2; cases e2
      rw [z, hp] at p1; cases p1
theorem ok_cel {es : List Expr} {ms : M (List D)} (h : PA X es (tA c W ms)) : PE X (.List es pos) (tM c W (xCel ms)) := by
  refine PE.weak (pe_lst h) fun σ H Q ⟨g, R, h⟩ => ⟨g, R, (After.bind h).imp fun ds g1 H1 x1 R1 h1 vs rs => ?_⟩
  have hl := repL_length rs
  by_cases z : ds.length ≤ SZ
  · rw [if_pos z] at h1
    refine ⟨by rw [sizeLine_eq, hl]; exact z, fun p hp => ?_⟩
    obtain ⟨R2, x2⟩ := R1.newCell hp rs
    refine After.app h1 R2 x2 rfl rfl (.ref p) ?_
    simp only [Rep]
    exact ⟨p, by show (g1.m ++ [p])[g1.S.length]? = some p; rw [← R1.b.ml]; simp, rfl⟩
  · rw [if_neg z] at h1; exact h1.elim
end
end Ev
set_option Elab.async false
set_option linter.all false
set_option autoImplicit false
set_option maxRecDepth 100000
set_option maxHeartbeats 1000000
namespace EvZ
open PySem
open PySem.Sem (wp)
namespace F
theorem typeCall_zs (a b c : Value) : checkTypeCall "zip" ⟨[a, b], [(Str.ofString "strict", c)]⟩ = pure () := by kernel_rfl
theorem newCall_zs (a b c : Value) : checkBuiltinCall "zip.__new__" ⟨[.type "zip", a, b], [(Str.ofString "strict", c)]⟩ = pure () := by kernel_rfl
theorem args_init_zs (obj a b c : Value) : argsOk "object.__init__" ⟨[obj, a, b], [(Str.ofString "strict", c)]⟩ := by unfold argsOk; kernel_rfl
end F
abbrev IsZs (h : Heap) (za ti tu : Addr) (f0 : Value) : Prop :=
  h.get? za = some { cls := .type "zip", dict := none, data := .fields #[f0, .bool false, .bool true, .ref ti, .ref tu], slots := #[] }
section
variable {prog : Program} {w : World} {A : Around} {E : Value → Shared → Prop} {s : Shared}
theorem go_zs {elts : List Expr} {x1} {pos : Pos} {za ti tu tt : Addr} {Q : Unit → Shared → Prop} (hz : IsZs s.heap za ti tu (rawInt tt)) (hQ : ∀ h', IsZs h' za ti tu .none → Heap.SameBut za s.heap h' → Q () { s with heap := h' }) :
    wpAny (model prog w) A (letOwnedTupleGo (.Tuple elts x1 pos) (.ref za) (.ref tt)) Q E s := by
  unfold letOwnedTupleGo
  refine wpAny_bind (wpAny_load hz ?_)
  show wpAny _ _ (if (["enumerate", "zip", "dict_itemiterator", "dict_reverseitemiterator", "odict_iterator", "itertools.zip_longest", "itertools.pairwise"].contains "zip" &&
      (#[rawInt tt, .bool false, .bool true, .ref ti, .ref tu] : Array Value)[0]? == some (rawInt tt)) = true then _ else _) Q E s
  rw [if_pos (by simp)]
  refine wpAny_bind (wpAny_rule ?_)
  show wpAny _ _ (setField (.ref za) 0 .none) Q E s
  exact wpAny_setField_rec hz (by simp) fun h' g1 g2 => hQ h' g1 g2
theorem iter_zs {za ti tu : Addr} {f0 : Value} {Q : Value → Shared → Prop} (hz : IsZs s.heap za ti tu f0) (h : Q (.ref za) s) : wpAny (model prog w) A (pyIter (.ref za)) Q E s := by
  have ty : s.TypeIs (.ref za) "zip" := ⟨_, hz, rfl⟩
  refine wpAny_pyIter_slot ty F.slot_zip_iter (wpAny_call_entry F.slot_zip_iter ty F.entry_zip_iter ?_ (F.args_zip_iter_1 _))
  show wpAny _ _ (ret (.ref za)) _ _ s
  exact wpAny_pure ⟨_, rfl, "zip", _, ty, F.slot_zip_next.lookup, h⟩
end
end EvZ
set_option Elab.async false
set_option linter.all false
set_option autoImplicit false
set_option maxRecDepth 100000
namespace EvZ
open PySem PySem.Spec PyProof.Rows L2
theorem callWith_ty_kw {M : Model} {A : Around} {E : Value → Shared → Prop} {s : Shared} {pos : Pos} {T : String} {args : List (Bool × Sem Value)} {kws : List (Option Str × Sem Value)} {Q : Value → Shared → Prop} (n1 : args.any (·.1) = false) (n2 : kws.any (·.1.isNone) = false)
    (h : wpAny M A (evalArgs (.type T) true args kws) (fun a s1 => wpAny M A (call (.type T) a.pos a.kw) Q E s1) E s) : wpAny M A (callWith pos (.type T) [] args kws) Q E s := by
  unfold callWith
  refine wpAny_bind (wpAny_holding (wpAny_mono h (fun a s1 q => wpAny_bind (wpAny_standAt ?_)) fun _ _ z => z))
  simp only [n1, n2, Bool.or_false]
  exact wpAny_bind (wpAny_pure (wpAny_bind (wpAny_mono q (fun r s2 z => wpAny_bind (wpAny_holding (wpAny_point (wpAny_pure z)))) fun _ _ z => z)))
end EvZ
namespace Ev
open PySem PySem.Spec PyProof.Rows L2
def zsOf (ds : List D) : M (List D) := match ds with
  | [.tup xs, .tup ys] => if xs.length = ys.length then M.pure (zipD xs ys) else M.bad
  | _ => M.bad
def mZs (ms : M (List D)) : M (List D) := M.bind ms zsOf
end Ev
set_option Elab.async false
set_option linter.all false
set_option autoImplicit false
set_option maxRecDepth 100000
namespace Ev
open PySem PySem.Spec PyProof.Rows L2
def sRai (n : Nat) : M Flow := fun ρ S => .exc ⟨n, []⟩ ρ S
def sTry (b : M Flow) (sb : Nat → Bool) (h : M Flow) : M Flow := fun ρ S => match b ρ S with
  | .exc x ρ' S' => if sb x.c then noX h ρ' S' else .exc x ρ' S'
  | r => r
theorem After2.noX {α : Type} {c : Kx} {W : WX} {g : Gs} {m : M α} {ρ : Env} {S : Sto} {ok : α → Gs → St → Hp → Prop} (h : After2 c W g (Ev.noX m ρ S) ok) : After2 c W0 g (m ρ S) ok := by
  unfold Ev.noX at h
  cases e : m ρ S with
  | ok a ρ S => rw [e] at h; exact h
  | exc x ρ S => rw [e] at h; exact h.elim
  | bad => rw [e] at h; exact h
section
variable {X : Cx} {c : Kx} {W : WX} {pos : Pos}
theorem os_raise {C : Addr} {n : Nat} {e : Expr} (hc : X.calm = true) (tk : Takes X W) (n0 : n ≠ 0) (hca : c.ca n = some C) (h : PMk X e (fun _ H Q => Q (.ref C) none H)) : PS X (.Raise (some e) none pos) (tS c W (sRai n)) :=
  PS.weak (ps_raise hc tk h) fun D σ H ⟨g, R, h⟩ => h g σ H (.ref C) none rfl rfl .refl R ⟨rfl, rfl, n0, C, hca, rfl⟩
theorem PK.weak {kws : List Keyword} {t t' : TA} (h : PK X kws t) (w : ∀ σ H Q, t' σ H Q → t σ H Q) : PK X kws t' := ⟨fun p pins s σ H Q I q => h.run p pins s σ H Q I (w σ H Q q)⟩
theorem okk_nil : PK X [] (tA c W (M.pure [])) := PK.weak pk_nil fun σ H Q ⟨g, R, h⟩ => After.pure h R [] (by simp [RepL])
theorem okk_cons {e : Expr} {kws : List Keyword} {nm : Option Str} {kpos : Pos} {m : M D} {ms : M (List D)} (ha : PE X e (tM c W m)) (hr : PK X kws (tA c W ms)) : PK X (⟨nm, e, kpos⟩ :: kws) (tA c W (M.bind m fun d => M.bind ms fun ds => M.pure (d :: ds))) := by
  refine PK.weak (pk_cons ha hr) fun σ H Q ⟨g, R, h⟩ => ⟨g, R, (After.bind h).imp fun d g1 H1 x1 R1 h1 v r => ⟨g1, R1, (After.bind h1).imp fun ds g2 H2 x2 R2 h2 vs rs => ?_⟩⟩
  exact After.pure h2 R2 (v :: vs) (RepL.cons_ (r.ext x2.e) rs)
/-- the values in the parameters' order: src tells of each its place, or the default -/
structure KSrc (K : PySem.W.Frag) (fd : FuncData) (ps : List Str) (n : Nat) (ks : List Str) (src : List (Sum Nat D)) : Prop where
  b : ∃ (g : List Value → List Value → List Value) (gV : List V → List V → List V), KBn K fd ps n ks g gV ∧
    ∀ (c : Kx) (F : Hp) (m : List Addr) (ds es : List D) (vs zs : List V), RepL c F m ds vs → RepL c F m es zs → ds.length = n → es.length = ks.length → ∃ l, srcOf (ds ++ es) src = some l ∧ RepL c F m l (gV vs zs) ∧ l.length = ps.length
def mCalk (P : Prm) (f n m : Nat) (ms mk : M (List D)) (src : List (Sum Nat D)) : M D := M.bind ms fun ds => M.bind mk fun es => if ds.length = n ∧ es.length = m then M.bind (M.of (srcOf (ds ++ es) src)) fun l => mCall P f l else M.bad
section
variable {k n np : Nat} {f : Addr} {fd : FuncData} {ps ks : List Str} {x : Str} {p : Pos} {e : Expr} {es : List Expr} {kws : List Keyword} {ms mk : M (List D)} {P : Prm} {nf : Nat} {src : List (Sum Nat D)}
theorem calk_read {g : Gs} {σ : St} {H : Hp} {Q : VK} {ds zs : List D} {vs ws : List V} {gV : List V → List V → List V} (R : Rel c g σ H) (rs : RepL c g.F g.m ds vs) (rz : RepL c g.F g.m zs ws)
    (hb : ∃ l, srcOf (ds ++ zs) src = some l ∧ RepL c g.F g.m l (gV vs ws) ∧ l.length = ps.length) (h : After c W g σ ((M.bind (M.of (srcOf (ds ++ zs) src)) fun l => mCall P nf l) g.ρ g.S) fun d g' H' => ∀ v, Rep c g'.F g'.m d v → Q v H') :
    spF c P.call nf ps.length (gV vs ws) H Q (fun cls d H' => W cls d σ H') := by
  obtain ⟨l, e1, r, hl⟩ := hb
  rw [e1] at h
  have h1 := After.bind h
  have h2 : After c W g σ (.ok l g.ρ g.S) fun l g1 _ => After c W g1 σ (mCall P nf l g1.ρ g1.S) fun d g' H' => ∀ v, Rep c g'.F g'.m d v → Q v H' := h1
  exact call_read R r hl (After.app h2 R .refl rfl rfl)
theorem run_GN {pins : List (Addr × Obj)} {σ : St} {H : Hp} {s : Shared} {Q : VK} {us ws : List Value} {vs zs : List V} {sp : Sp} {g : List Value → List Value → List Value} {gV : List V → List V → List V} (F : FnG X.prog X.w X.K X.mg X.base k f fd ps sp) (hr : Room (2 * k) X.A) (hgd : X.A.guards = some []) (tk : Takes X W)
    (hb : KBn X.K fd ps n ks g gV) (I : Inv X pins σ H s) (r : Vals vs us) (rz : Vals zs ws) (l1 : vs.length = n) (l2 : zs.length = ks.length) (h : sp (gV vs zs) H Q (fun cls d H' => W cls d σ H')) : wpAny (model X.prog X.w) X.A (call (.ref f) us (ks.zip ws)) (EP X pins σ Q) X.xe s :=
  run_G F hr hgd tk I (hb.to s us ws I.kIn (r.length.symm.trans l1) (rz.length.symm.trans l2)) (hb.rel r rz) h
theorem ok_calk0 (F : FnG X.prog X.w X.K X.mg X.base k f fd ps (spF c P.call nf ps.length)) (hr : Room (2 * k) X.A) (hgd : X.A.guards = some []) (tk : Takes X W) (hg : Gl X x) (hm : X.mg x = some (.ref f)) (hk : PySem.W.keepIn X.K (.ref f) = true) (hb : KSrc X.K fd ps 0 ks src)
    (hkw : PK X kws (tA c W mk)) (hall : (backToKw pos (keywordEach kws X.env)).all (·.1.isSome) = true) (hks : (backToKw pos (keywordEach kws X.env)).filterMap (·.1) = ks) (hdb : (x == ("__debug__" : Str)) = false)
    (hpl : ((backTo pos (starEach [] X.env)).any (·.1) || (backToKw pos (keywordEach kws X.env)).any (·.1.isNone)) = false) :
    PE X (.Call (.Name x p) [] kws pos) (tM c W (mCalk P nf 0 ks.length (M.pure []) mk src)) := by
  obtain ⟨g, gV, kb, hsrc⟩ := hb.b
  refine ⟨fun pins s σ H Q I ⟨g0, R, h⟩ => ?_⟩
  refine wpAny_Call_Name_kw (ld_glob I hg hm ?_ hdb)
  have q0 : After c W g0 σ ((M.bind mk fun es => if (([] : List D).length = 0 ∧ es.length = ks.length) then M.bind (M.of (srcOf (([] : List D) ++ es) src)) fun l => mCall P nf l else M.bad) g0.ρ g0.S) fun d g' H' => ∀ v, Rep c g'.F g'.m d v → Q v H' := h
  refine PySem.W.callWith_KW0 (h₀ := X.base) I.ok.mod.kin hk hall (thn (hkw.run pos pins s σ H (fun zs H2 => ∃ g2 zd, Rel c g2 σ H2 ∧ RepL c g2.F g2.m zd zs ∧ After c W g2 σ ((if (([] : List D).length = 0 ∧ zd.length = ks.length) then M.bind (M.of (srcOf (([] : List D) ++ zd) src)) fun l => mCall P nf l else M.bad) g2.ρ g2.S) fun d g' H' => ∀ v, Rep c g'.F g'.m d v → Q v H') I
    ⟨g0, R, (After.bind q0).imp fun zd g2 H2 x2 R2 q2 zs rz => ⟨g2, zd, R2, rz, q2⟩⟩) fun ws s2 ⟨zs, H2, I2, rzv, g2, zd, R2, rz, q2⟩ => ⟨I2.kIn, ?_⟩) hpl
  rw [hks]
  by_cases z : ([] : List D).length = 0 ∧ zd.length = ks.length
  · rw [if_pos z] at q2
    exact run_GN (us := []) F hr hgd tk kb I2 .nil rzv rfl ((repL_length rz).trans z.2) (calk_read R2 (by simp [RepL]) rz (hsrc c _ _ [] _ [] _ (by simp [RepL]) rz rfl z.2) q2)
  · rw [if_neg z] at q2; exact q2.elim
end
end
end Ev
set_option Elab.async false
set_option linter.all false
set_option autoImplicit false
set_option maxRecDepth 100000
namespace Ev
open PySem PySem.Spec PyProof.Rows L2
/-- a def: parameters, slots, what its body means -/
structure FD where
  np : Nat
  ns : Nat
  body : Prm → M Flow
def runD (P : Prm) (fd : FD) (ds : List D) (S : Sto) : CR :=
  if ds.length = fd.np then match fd.body P ((ds.map fun d => some (.fz d)) ++ List.replicate (fd.ns - ds.length) none) S with
    | .ok .nx _ S' => .ok .non S'
    | .ok (.rt d) _ S' => .ok d S'
    | .ok (.rl xs) _ S' => .okl xs S'
    | .ok _ _ _ => .bad
    | .exc x _ S' => .exc x S'
    | .bad => .bad
  else .bad
structure Tb where
  fn : Nat → Option FD
  shown : D → Option Txt
  fuel : Nat
def Tb.prm (T : Tb) (c : Call) : Prm := { call := c, shown := T.shown, sub := fun _ _ => false, flds := fun _ => [], fuel := T.fuel }
def callT (T : Tb) : Nat → Call
  | 0 => fun _ _ _ => .bad
  | k + 1 => fun f ds S => match T.fn f with
    | none => .bad
    | some fd => runD (T.prm (callT T k)) fd ds S
theorem start_rel {c : Kx} {g : Gs} {N : List Str} {ds : List D} {vs : List V} {H : Hp} (R : RelB c g.G g.F g.m g.S H) (rs : RepL c g.F g.m ds vs) :
    Rel c { g with ρ := (ds.map fun d => some (.fz d)) ++ List.replicate (N.length - ds.length) none } (start N vs) H := by
  have hl := repL_length rs
  have low : ∀ {i : Nat} {sv : SV}, ((ds.map fun d => some (SV.fz d)) ++ List.replicate (N.length - ds.length) none)[i]? = some (some sv) → ∃ d, ds[i]? = some d ∧ sv = .fz d := fun {i sv} h => by
    by_cases z : i < ds.length
    · rw [List.getElem?_append_left (by simpa using z), List.getElem?_map] at h
      cases e : ds[i]? with
      | none => rw [e] at h; cases h
      | some d => rw [e] at h; cases h; exact ⟨d, rfl, rfl⟩
    · rw [List.getElem?_append_right (by simpa using z), List.getElem?_replicate] at h
      split at h <;> cases h
  refine ⟨R, by simp [L2.start, hl], fun i d h => ?_, fun i xs h => ?_, fun i j xs ys a _ h => ?_, fun i x h => (low h).elim fun d q => by cases q.2⟩
  · obtain ⟨d', e, z⟩ := low h
    cases z
    obtain ⟨v, ev, r⟩ := repL_at rs e
    refine ⟨v, ?_, r⟩
    have hv : i < vs.length := (List.getElem?_eq_some_iff.mp ev).1
    unfold L2.start
    rw [List.getElem?_append_left (by simpa using hv), List.getElem?_map, ev]
    rfl
  · obtain ⟨_, _, z⟩ := low h
    cases z
  · obtain ⟨_, _, z⟩ := low h
    cases z
section
variable {P : PySem.Program} {w : World} {K : PySem.W.Frag} {mg : Str → Option Value} {base : Heap} {x qual : Str} {params : Arguments} {body : List Stmt} {scope : Scope} {dvs : List V} {kws : List (Str × V)} {f : Addr} {fd : FuncData} {N ps : List Str} {k : Nat}
/-- the body's reading gives the def's promise -/
theorem fn_of {c : Kx} {T : Tb} {nf : Nat} {d : FD} (F : FunD K x qual params body scope dvs kws f fd) (S : FnScope N ps scope) (hT : T.fn nf = some d) (hnp : d.np = ps.length) (hns : d.ns = N.length)
    (hb : ∀ (cdv : Value) (A : Around) (outer : List PySem.Env) (s : Shared) (H : Hp) (E : XK), Room (2 * k + 1) (A.deeper (envOfC qual scope s.heap.objs.size f cdv)) → (A.deeper (envOfC qual scope s.heap.objs.size f cdv)).guards = some [] →
      PSs (cxOf (L2.CX P w) P w K mg base N qual scope f cdv A outer s H E) body (tS c (fun cls d _ H => E cls d H) (d.body (T.prm (callT T k))))) : FnG P w K mg base (k + 1) f fd ps (spF c (callT T (k + 1)) nf ps.length) := by
  refine fnG_of F S (fun vs H Q E ⟨g, ds, _, _, rs, hl, _⟩ => (repL_length rs).trans hl) fun cdv A outer s H vs Q E hr hg hsp => ⟨_, hb cdv A outer s H E hr hg, ?_⟩
  obtain ⟨g, ds, _, R, rs, hl, h⟩ := hsp
  have h : (match (match T.fn nf with | none => CR.bad | some fd => runD (T.prm (callT T k)) fd ds g.S) with | .ok d S' => _ | .okl xs S' => _ | .exc x S' => _ | .bad => False) := h
  rw [hT] at h
  have h : (match runD (T.prm (callT T k)) d ds g.S with
    | .ok d S' => ∀ v H' F' m', RelB c g.G F' m' S' H' → Ext g.F g.m F' m' → Rep c F' m' d v → Q v H'
    | .okl xs S' => ∀ a vs H' F' m', RelB c g.G F' m' S' H' → Ext g.F g.m F' m' → H' a = some (.lst vs) → RepL c F' m' xs vs → F' a = none → g.G a = none → a ∉ m' → Q (.ref a) H'
    | .exc x S' => ∀ cls dd H' F' m', RelB c g.G F' m' S' H' → Ext g.F g.m F' m' → ExnR c x cls dd H' → E cls dd H'
    | .bad => False) := h
  unfold runD at h
  rw [if_pos (hl.trans hnp.symm), hns] at h
  refine ⟨{ g with ρ := (ds.map fun d => some (.fz d)) ++ List.replicate (N.length - ds.length) none }, start_rel R rs, ?_⟩
  revert h
  show _ → After2 c _ _ (d.body (T.prm (callT T k)) ((ds.map fun d => some (.fz d)) ++ List.replicate (N.length - ds.length) none) g.S) _
  cases d.body (T.prm (callT T k)) ((ds.map fun d => some (.fz d)) ++ List.replicate (N.length - ds.length) none) g.S with
  | bad => exact fun z => z.elim
  | exc y ρ S =>
    intro h g' σ' H' cls dd e1 e2 x1 R1 r
    have hG : g'.G = g.G := x1.pr
    refine h cls dd H' g'.F g'.m ?_ x1.e r
    rw [← hG, ← e2]; exact R1.b
  | ok fl ρ S =>
    cases fl with
    | nx =>
      intro h g' σ' H' e1 e2 x1 R1
      have hG : g'.G = g.G := x1.pr
      refine h .non H' g'.F g'.m ?_ x1.e (by simp [Rep])
      rw [← hG, ← e2]; exact R1.b
    | rt v =>
      intro h g' σ' H' e1 e2 x1 R1 u r
      have hG : g'.G = g.G := x1.pr
      refine h u H' g'.F g'.m ?_ x1.e r
      rw [← hG, ← e2]; exact R1.b
    | rl xs =>
      intro h g' σ' H' e1 e2 x1 R1 a H2 R2 L
      have hG : g'.G = g.G := x1.pr
      obtain ⟨vs, hv, rv⟩ := L.ex
      refine h a vs H2 g'.F g'.m ?_ x1.e hv rv L.f (by rw [← hG]; exact L.gn) L.mn
      rw [← hG, ← e2]; exact R2.b
    | br => exact fun z => z.elim
    | ct => exact fun z => z.elim
end
end Ev
set_option Elab.async false
set_option linter.all false
set_option autoImplicit false
set_option maxRecDepth 100000
namespace Ev
open PySem PySem.Spec PyProof.Rows L2
/-- the ground of a walk -/
structure Bg (X : Cx) (c : Kx) (W : WX) (k : Nat) (ht : Bool := false) : Prop where
  hK : X.K = c.K
  hw : X.w = c.w
  hr : ht = false → Room (2 * k + 1) X.A
  hh : L2H.RoomH (2 * k + 1) X.A
  hg : X.A.guards = some []
  hN : X.N.Nodup
  tk : Takes X W
  hc : ht = false → X.calm = true
  sm : SmOk c.K
theorem Bg.hu {X : Cx} {c : Kx} {W : WX} {k : Nat} {ht : Bool} (B : Bg X c W k ht) : X.A.units + 65 < cLine := by have := B.hh.un; omega
theorem takes_blk {X : Cx} : Takes X W0 := fun u s' x => by
  obtain ⟨_, _, _, _, _, _, _, _, _, _, _, _, _, _, _, _, z⟩ := x
  exact z.elim
theorem Bg.blk {X : Cx} {c : Kx} {W : WX} {k : Nat} {ht : Bool} (B : Bg X c W k ht) {s : Shared} {H : Hp} {scope : Scope} {cenv : PySem.Env} {fp : List Addr} : Bg (X.blk s H scope cenv fp) c W0 k ht :=
  ⟨B.hK, B.hw, B.hr, B.hh, B.hg, B.hN, takes_blk, B.hc, B.sm⟩
theorem bg_of {P : PySem.Program} {w : World} {K : PySem.W.Frag} {mg : Str → Option Value} {base : Heap} {N : List Str} {qual : Str} {scope : Scope} {f : Addr} {cdv : Value} {A : Around} {outer : List PySem.Env} {s : Shared} {H : Hp} {E : XK} {k : Nat} {ca : Nat → Option Addr}
    (hr : Room (2 * k + 1) (A.deeper (envOfC qual scope s.heap.objs.size f cdv))) (hg : (A.deeper (envOfC qual scope s.heap.objs.size f cdv)).guards = some []) (hN : N.Nodup) (sm : SmOk K) :
    Bg (cxOf (L2.CX P w) P w K mg base N qual scope f cdv A outer s H E) ⟨K, w, ca⟩ (fun cls d _ H => E cls d H) k :=
  ⟨rfl, rfl, fun _ => hr, L2H.roomH_of hr, hg, hN, takes_of rfl rfl rfl rfl, fun _ => rfl, sm⟩
def visB (sc : Scope) (x : Str) : Bool := (sc.names.lookup x == some .local || (sc.names.lookup x == some .cell || sc.names.lookup x == some .free)) && (!(x == ("__debug__" : Str)) && !(x == ("__classdict__" : Str)))
theorem nk_eq {a b : Option NameKind} (h : (a == b) = true) : a = b := by
  cases a <;> cases b <;> first | rfl | (rename_i p; cases p <;> cases h) | (rename_i p q; cases p <;> cases q <;> first | rfl | cases h)
theorem vis_of {sc : Scope} {x : Str} (h : visB sc x = true) : Vis sc x ∧ (x == ("__debug__" : Str)) = false ∧ (x == ("__classdict__" : Str)) = false := by
  unfold visB at h
  simp only [Bool.and_eq_true, Bool.or_eq_true, Bool.not_eq_true'] at h
  obtain ⟨h1, h2, h3⟩ := h
  refine ⟨?_, h2, h3⟩
  rcases h1 with h1 | h1 | h1
  · exact .inl (nk_eq h1)
  · exact .inr (.inl (nk_eq h1))
  · exact .inr (.inr (nk_eq h1))
def locB (sc : Scope) (x : Str) : Bool := sc.names.lookup x == some .local || sc.names.lookup x == some .cell
theorem loc_of {sc : Scope} {x : Str} (h : locB sc x = true) : Loc sc x := by
  unfold locB at h
  simp only [Bool.or_eq_true] at h
  rcases h with h | h
  · exact .inl (nk_eq h)
  · exact .inr (nk_eq h)
def fnB (X : Cx) (x : Str) : Bool := X.fn x || X.env.scope.names.lookup x == some .local
theorem fn_of_ {X : Cx} {x : Str} (h : fnB X x = true) : X.fn x = true ∨ X.env.scope.names.lookup x = some .local := by
  unfold fnB at h
  simp only [Bool.or_eq_true] at h
  rcases h with h | h
  · exact .inl h
  · exact .inr (nk_eq h)
def aNil : M (List D) := M.pure []
def aCons (m : M D) (ms : M (List D)) : M (List D) := M.bind m fun d => M.bind ms fun ds => M.pure (d :: ds)
def xTup (ms : M (List D)) : M D := M.bind ms fun ds => if ds.length ≤ SZ then M.pure (.tup ds) else M.bad
def fLst (ms : M (List D)) : M (List D) := M.bind ms fun ds => if ds.length ≤ SZ then M.pure ds else M.bad
def xFz (ms : M (List D)) : M D := M.bind ms fun xs => M.pure (.lst xs)
def xBin (o : Bop) (ma mb : M D) : M D := M.bind ma fun x => M.bind mb fun y => M.of (bop o x y)
def fAdd (ma mb : M D) : M (List D) := M.bind (xBin .add ma mb) asLst
def fMul (ma mb : M D) : M (List D) := M.bind (xBin .mul ma mb) asLst
def fList (m : M D) : M (List D) := M.bind m mLst
def negD (d : D) : M D := match d with | .int i => M.pure (.int (-i)) | _ => M.bad
def xNeg (ma : M D) : M D := M.bind ma fun x => match x with | .int i => M.pure (.int (-i)) | _ => M.bad
def xCmp (o : Cop) (ma mb : M D) : M D := M.bind ma fun x => M.bind mb fun y => M.bind (M.of (cop o x y)) fun l => M.pure (.bl l)
def xIdx (ma mb : M D) : M D := M.bind ma fun x => M.bind mb fun k => mIdx x k
def xBi (b : Bi) (ms : M (List D)) : M D := M.bind ms fun ds => M.of (bip shownD b ds)
def xLen (m : M D) : M D := M.bind m fun x => M.of (bip shownD .len [x])
def xIsi (m : M D) (T : Ty) : M D := M.bind m fun x => M.bind (M.of (isTy T x)) fun k => M.pure (.bl k)
def xCall (P : Prm) (n np : Nat) (ms : M (List D)) : M D := M.bind ms fun ds => if ds.length = np then mCall P n ds else M.bad
section
variable {X : Cx} {c : Kx} {W : WX} {k : Nat} {pos p : Pos} {a b d e : Expr} {es : List Expr} {ma mb mc md m : M D} {ms : M (List D)}
theorem k_var {ht : Bool} (B : Bg X c W k ht) (i : Nat) {x : Str} (hN : X.N[i]? = some x) (hv : visB X.env.scope x = true) : PE X (.Name x pos) (tM c W (mVar i)) := ok_var hN (vis_of hv).1 (vis_of hv).2.1 (vis_of hv).2.2
theorem k_bvar {ht : Bool} (B : Bg X c W k ht) (i : Nat) {x : Str} (hN : X.N[i]? = some x) (hv : visB X.env.scope x = true) : PE X (.Name x pos) (tBo c W (mBor i)) := ok_bvar hN (vis_of hv).1 (vis_of hv).2.1 (vis_of hv).2.2
theorem k_svar {ht : Bool} (B : Bg X c W k ht) (i : Nat) {x : Str} (hN : X.N[i]? = some x) (hv : visB X.env.scope x = true) : PE X (.Name x pos) (tSi c W (mVar i)) := ok_svar hN (vis_of hv).1 (vis_of hv).2.1 (vis_of hv).2.2
theorem k_str {x : Str} {j : Nat} (l : Txt) (h : x.cps.toList = l) : PE X (.Constant (.str x) j pos) (tM c W (M.pure (.str l))) := by subst h; exact ok_str
theorem k_sstr {x : Str} {j : Nat} (l : Txt) (h : x.cps.toList = l) : PE X (.Constant (.str x) j pos) (tSi c W (M.pure (.str l))) := by subst h; exact ok_scst pe_str fun _ _ => by simp [Rep, toStr]
theorem k_sint {i : Int} {j : Nat} : PE X (.Constant (.int i) j pos) (tSi c W (M.pure (.int i))) := ok_scst pe_int fun _ _ => by simp [Rep]
/-- a module's constant -/
structure Gc (mg : Str → Option Value) (c : Kx) (x : Str) (dv : D) : Prop where
  g : ∃ u v, mg x = some u ∧ RelV v u ∧ ∀ F m, Rep c F m dv v
theorem Gc.pe {x : Str} {dv : D} (G : Gc X.mg c x dv) (hg : Gl X x) (hd : (x == ("__debug__" : Str)) = false) : ∃ v, PE X (.Name x pos) (tC v) ∧ ∀ F m, Rep c F m dv v := by
  obtain ⟨u, v, h1, h2, h3⟩ := G.g
  exact ⟨v, ⟨fun pins s σ H Q I q => ld_glob I hg h1 ⟨v, H, I, h2, q⟩ hd⟩, h3⟩
theorem k_glo {x : Str} {dv : D} (G : Gc X.mg c x dv) (hg : Gl X x) (hd : (x == ("__debug__" : Str)) = false) : PE X (.Name x pos) (tM c W (M.pure dv)) := by
  obtain ⟨v, h, r⟩ := G.pe hg hd
  exact ok_cst h r
theorem k_sglo {x : Str} {dv : D} (G : Gc X.mg c x dv) (hg : Gl X x) (hd : (x == ("__debug__" : Str)) = false) : PE X (.Name x pos) (tSi c W (M.pure dv)) := by
  obtain ⟨v, h, r⟩ := G.pe hg hd
  exact ok_scst h r
theorem k_nil : PA X [] (tA c W aNil) := ok_nil
theorem k_cons (ha : PE X e (tM c W m)) (hr : PA X es (tA c W ms)) (hs : starEach (e :: es) X.env = (false, eval e X.env) :: starEach es X.env) : PA X (e :: es) (tA c W (aCons m ms)) := ok_cons ha hr hs
theorem kk_nil : PK X [] (tA c W aNil) := okk_nil
theorem kk_cons {kws : List Keyword} {nm : Option Str} {kpos : Pos} (ha : PE X e (tM c W m)) (hr : PK X kws (tA c W ms)) : PK X (⟨nm, e, kpos⟩ :: kws) (tA c W (aCons m ms)) := okk_cons ha hr
theorem k_tup {j : Nat} (h : PA X es (tA c W ms)) : PE X (.Tuple es j pos) (tM c W (xTup ms)) := ok_tup h
theorem kF_lst (h : PA X es (tA c W ms)) : PE X (.List es pos) (tF c W (fLst ms)) := okF_lst h
theorem k_fz (h : PE X e (tF c W ms)) : PE X e (tM c W (xFz ms)) := ok_ofF h
theorem k_bin {ht : Bool} (B : Bg X c W k ht) (o : Bop) (ha : PE X a (tM c W ma)) (hb : PE X b (tM c W mb)) : PE X (.BinOp a (bopOf o) b pos) (tM c W (xBin o ma mb)) := ok_bin B.hK ha hb
theorem k_neg (ha : PE X a (tM c W ma)) : PE X (.UnaryOp .USub a pos) (tM c W (xNeg ma)) := ok_neg ha
theorem k_cmp {ht : Bool} (B : Bg X c W k ht) (o : Cop) (ha : PE X a (tM c W ma)) (hb : PE X b (tBo c W mb)) (hm : behindInMarks (copOf o) b = false) : PE X (.Compare a [copOf o] [b] pos) (tM c W (xCmp o ma mb)) := ok_cmp B.hK B.hw B.hu o ha hb hm
theorem k_cmp2 {ht : Bool} (B : Bg X c W k ht) (o : Cop) (ha : PE X a (tBo c W ma)) (hb : PE X b (tSi c W mb)) (hm : behindInMarks (copOf o) b = false) : PE X (.Compare a [copOf o] [b] pos) (tM c W (xCmp o ma mb)) := ok_cmp2 B.hK B.hw B.hu o ha hb hm
theorem kT_cmp {ht : Bool} (B : Bg X c W k ht) (o : Cop) (ha : PE X a (tM c W ma)) (hb : PE X b (tBo c W mb)) (hm : behindInMarks (copOf o) b = false) : PT X (.Compare a [copOf o] [b] pos) (tB c W (mT (xCmp o ma mb))) := okT_cmp B.hK B.hw B.hu o ha hb hm
theorem kT_cmp2 {ht : Bool} (B : Bg X c W k ht) (o : Cop) (ha : PE X a (tBo c W ma)) (hb : PE X b (tSi c W mb)) (hm : behindInMarks (copOf o) b = false) : PT X (.Compare a [copOf o] [b] pos) (tB c W (mT (xCmp o ma mb))) := okT_cmp2 B.hK B.hw B.hu o ha hb hm
theorem kT_chn {ht : Bool} (B : Bg X c W k ht) (o q : Cop) (ha : PE X a (tM c W ma)) (hb : PE X b (tM c W mb)) (hd : PE X d (tM c W mc)) (hm : lastMarks [copOf o, copOf q] [b, d] = false) : PT X (.Compare a [copOf o, copOf q] [b, d] pos) (tB c W (mT (mChn o q ma mb mc))) := okT_chn B.hK B.hw B.hu o q ha hb hd hm
theorem kT_of {ht : Bool} (B : Bg X c W k ht) (ha : PE X a (tM c W ma)) (he : ∀ whole, isTrue a X.env whole = (do let v ← whole; standAt a.pos; holding [v] (truthy v))) : PT X a (tB c W (mT ma)) := okT_truth B.hK ha he
theorem k_not {ht : Bool} (B : Bg X c W k ht) (ha : PE X a (tM c W ma)) : PE X (.UnaryOp .Not a pos) (tM c W (mNot ma)) := ok_not B.hK ha
theorem kT_not (ha : PT X a (tB c W (mT ma))) : PT X (.UnaryOp .Not a pos) (tB c W (mT (mNot ma))) := okT_not ha
theorem k_and {ht : Bool} (B : Bg X c W k ht) {rest : List Expr} (ha : PE X a (tM c W ma)) (hb : PE X (.BoolOp .And (b :: rest) pos) (tM c W mb)) : PE X (.BoolOp .And (a :: b :: rest) pos) (tM c W (mAnd ma mb)) := ok_and B.hK ha hb
theorem k_idx {ht : Bool} (B : Bg X c W k ht) (ha : PE X a (tM c W ma)) (hb : PE X b (tM c W mb)) (hs : PlainIx b) : PE X (.Subscript a b pos) (tM c W (xIdx ma mb)) := ok_idx B.hK B.hw ha hb hs
theorem k_idx2 {ht : Bool} (B : Bg X c W k ht) (ha : PE X a (tBo c W ma)) (hb : PE X b (tSi c W mb)) (hs : PlainIx b) : PE X (.Subscript a b pos) (tM c W (xIdx ma mb)) := ok_idx2 B.hK B.hw ha hb hs
theorem k_bi (B : Bg X c W k) (bi : Bi) {x : Str} {id : String} (hv : biVal bi = .builtin id) (hm : X.mg x = none) (hb : bootBuiltins x = some (.builtin id)) (ha : PA X (e :: es) (tA c W ms)) (hg : Gl X x) (hn : x ≠ "__name__") (hdb : (x == ("__debug__" : Str)) = false)
    (he : starEach (e :: es) X.env = (false, eval e X.env) :: starEach es X.env) (hpl : (backTo pos (starEach es X.env)).any (·.1) = false) : PE X (.Call (.Name x p) (e :: es) [] pos) (tM c W (xBi bi ms)) := ok_bi bi hv B.hK B.sm (B.hc rfl) B.hg B.hu hg hm hb hn hdb ha he hpl
theorem k_biT (B : Bg X c W k) (bi : Bi) {x : Str} {id : String} (hv : biVal bi = .type id) (hm : X.mg x = none) (hb : bootBuiltins x = some (.type id)) (ha : PA X (e :: es) (tA c W ms)) (hg : Gl X x) (hn : x ≠ "__name__") (hdb : (x == ("__debug__" : Str)) = false)
    (he : starEach (e :: es) X.env = (false, eval e X.env) :: starEach es X.env) (hpl : (backTo pos (starEach es X.env)).any (·.1) = false) : PE X (.Call (.Name x p) (e :: es) [] pos) (tM c W (xBi bi ms)) := ok_biT bi hv B.hK B.sm (B.hc rfl) B.hg B.hu hg hm hb hn hdb ha he hpl
theorem k_len {ht : Bool} (B : Bg X c W k ht) {x : Str} (hm : X.mg x = none) (hb : bootBuiltins x = some (.builtin "len")) (ha : PE X e (tBo c W m)) (hg : Gl X x) (hn : x ≠ "__name__") (hdb : (x == ("__debug__" : Str)) = false)
    (he : starEach [e] X.env = (false, eval e X.env) :: starEach [] X.env) (hpl : (backTo pos (starEach [] X.env)).any (·.1) = false) : PE X (.Call (.Name x p) [e] [] pos) (tM c W (xLen m)) := ok_len B.hK hg hm hb hn hdb ha he hpl
theorem kF_list {ht : Bool} (B : Bg X c W k ht) {x : Str} (hm : X.mg x = none) (hb : bootBuiltins x = some (.type "list")) (ha : PE X e (tM c W m)) (hg : Gl X x) (hn : x ≠ "__name__") (hdb : (x == ("__debug__" : Str)) = false)
    (he : starEach [e] X.env = (false, eval e X.env) :: starEach [] X.env) (hpl : (backTo pos (starEach [] X.env)).any (·.1) = false) : PE X (.Call (.Name x p) [e] [] pos) (tF c W (fList m)) := okF_list B.hK hg hm hb hn hdb ha he hpl
theorem k_isi {ht : Bool} (B : Bg X c W k ht) (T : Ty) {x y : Str} {p3 : Pos} (hm : X.mg x = none) (hb : bootBuiltins x = some (.builtin "isinstance")) (hm2 : X.mg y = none) (hb2 : bootBuiltins y = some (.type (tyNm T))) (ha : PE X e (tBo c W m)) (hg : Gl X x) (hg2 : Gl X y) (hn : x ≠ "__name__") (hn2 : y ≠ "__name__")
    (hdb : (x == ("__debug__" : Str)) = false) (hdb2 : (y == ("__debug__" : Str)) = false) (he : starEach [e, .Name y p3] X.env = (false, eval e X.env) :: starEach [.Name y p3] X.env) (hpl : (backTo pos (starEach [.Name y p3] X.env)).any (·.1) = false) :
    PE X (.Call (.Name x p) [e, .Name y p3] [] pos) (tM c W (xIsi m T)) := ok_isi T B.hK hg hm hb hn hdb hg2 hm2 hb2 hn2 hdb2 ha he hpl
end
end Ev
set_option Elab.async false
set_option linter.all false
set_option autoImplicit false
set_option maxRecDepth 100000
namespace Ev
open PySem PySem.Spec PyProof.Rows L2
/-- what is known of a def at a depth -/
structure Fe (P : PySem.Program) (w : World) (K : PySem.W.Frag) (mg : Str → Option Value) (base : Heap) (c : Kx) (call : Call) (k : Nat) (x : Str) (nf : Nat) (ps : List Str) (B : FuncData → Prop) : Prop where
  e : ∃ f fd, mg x = some (.ref f) ∧ PySem.W.keepIn K (.ref f) = true ∧ FnG P w K mg base k f fd ps (spF c call nf ps.length) ∧ B fd
section
variable {X : Cx} {c : Kx} {W : WX} {k : Nat} {pos p : Pos} {a b d e : Expr} {es : List Expr} {ma mb mc md m : M D} {ms mk : M (List D)} {P : Prm} {nf : Nat} {ps : List Str} {x : Str}
theorem k_call (B : Bg X c W k) (F : Fe X.prog X.w X.K X.mg X.base c P.call k x nf ps (fun fd => Binds X.K fd ps [])) (ha : PA X (e :: es) (tA c W ms)) (hg : Gl X x) (hdb : (x == ("__debug__" : Str)) = false)
    (he : starEach (e :: es) X.env = (false, eval e X.env) :: starEach es X.env) (hpl : (backTo pos (starEach es X.env)).any (·.1) = false) : PE X (.Call (.Name x p) (e :: es) [] pos) (tM c W (xCall P nf ps.length ms)) := by
  obtain ⟨f, fd, hm, hk, G, hb⟩ := F.e
  refine PE.weak (pe_callG G ((B.hr rfl).mono (Nat.le_succ _)) B.hg B.tk hg hm hk hb ha hdb he hpl) fun σ H Q ⟨g, R, h⟩ => ⟨g, R, (After.bind h).imp fun ds g1 H1 x1 R1 q vs rs => ?_⟩
  by_cases z : ds.length = ps.length
  · rw [if_pos z] at q
    exact call_read R1 rs z q
  · rw [if_neg z] at q; exact q.elim
theorem k_callk0 (B : Bg X c W k) {ks : List Str} {src : List (Sum Nat D)} {kws : List Keyword} (F : Fe X.prog X.w X.K X.mg X.base c P.call k x nf ps (fun fd => KSrc X.K fd ps 0 ks src)) (hkw : PK X kws (tA c W mk)) (hg : Gl X x)
    (hall : (backToKw pos (keywordEach kws X.env)).all (·.1.isSome) = true) (hks : (backToKw pos (keywordEach kws X.env)).filterMap (·.1) = ks) (hdb : (x == ("__debug__" : Str)) = false)
    (hpl : ((backTo pos (starEach [] X.env)).any (·.1) || (backToKw pos (keywordEach kws X.env)).any (·.1.isNone)) = false) :
    PE X (.Call (.Name x p) [] kws pos) (tM c W (mCalk P nf 0 ks.length aNil mk src)) := by
  obtain ⟨f, fd, hm, hk, G, hb⟩ := F.e
  exact ok_calk0 G ((B.hr rfl).mono (Nat.le_succ _)) B.hg B.tk hg hm hk hb hkw hall hks hdb hpl
def mJoinT (m : M D) (ms : M (List D)) : M D := mMt .join (tyIs .str) m ms
theorem k_join {ht : Bool} (B : Bg X c W k ht) {apos cpos : Pos} (ho : PE X a (tM c W m)) (ha : PA X (e :: es) (tA c W ms)) (hbase : attributeBase a "join" X.env (eval a X.env) = eval a X.env)
    (hfew : ((backTo cpos (starEach (e :: es) X.env)).all (fun x => !x.1) && (backToKw cpos (keywordEach [] X.env)).all (fun x => x.1.isSome) && decide ((e :: es).length + ([] : List Keyword).length + (if ([] : List Keyword).isEmpty then 0 else 1) < 30)) = true)
    (hline : (apos.endLine == cpos.line) = true) (hs : starEach (e :: es) X.env = (false, eval e X.env) :: starEach es X.env) (hplain : (backTo cpos (starEach es X.env)).any (·.1) = false) :
    PE X (.Call (.Attribute a "join" apos) (e :: es) [] cpos) (tM c W (mJoinT m ms)) :=
  ok_mt .join .str B.hK PySem.F.plainAttrs_str PySem.F.slot_str_join PySem.F.type_str_join (mt_ok_join B.hK) ho ha hbase hfew hline hs hplain
/-- a written tuple's index -/
structure Gt (mg : Str → Option Value) (K : PySem.W.Frag) (c : Kx) (x : Str) (xs : List D) : Prop where
  g : ∃ p, mg x = some (.ref p) ∧ (∃ ob, K.lookup p = some ob ∧ ob.cls = .type "tuple" ∧ ob.dict = none) ∧ ∀ F m, Rep c F m (.tup xs) (.ref p)
theorem k_slc {ht : Bool} (B : Bg X c W k ht) {lo hi : Option Expr} {ml mh : M (Option Int)} {p2 : Pos} (ha : PE X a (tM c W ma)) (hl : PO X lo (tO c W ml)) (hh : PO X hi (tO c W mh)) : PE X (.Subscript a (.Slice lo hi none p2) pos) (tM c W (mSlc ma ml mh)) := ok_slc B.hK ha hl hh
theorem k_slc2 {ht : Bool} (B : Bg X c W k ht) {lo hi : Option Expr} {ml mh : M (Option Int)} {p2 : Pos} (ha : PE X a (tBo c W ma)) (hl : PO X lo (tOs c W ml)) (hh : PO X hi (tOs c W mh)) : PE X (.Subscript a (.Slice lo hi none p2) pos) (tM c W (mSlc ma ml mh)) := ok_slc2 B.hK ha hl hh
/-- an own class: raised with a text -/
structure Ge (mg : Str → Option Value) (K : PySem.W.Frag) (c : Kx) (x : Str) (n : Nat) : Prop where
  n0 : n ≠ 0
  g : ∃ C, mg x = some (.ref C) ∧ c.ca n = some C ∧ PySem.W.excIn K C He.veBase "ValueError.__new__" = true ∧ PySem.W.keepIn K (.ref C) = true ∧ PySem.W.subIn K (.ref C) (.type "BaseException") = some true ∧ PySem.W.typeIn K (.ref C) = some (.type "type")
theorem k_raise (B : Bg X c W k) {n : Nat} {m : Str} {j : Nat} {p2 pos' : Pos} (G : Ge X.mg X.K c x n) (hg : Gl X x) (hdb : (x == ("__debug__" : Str)) = false) : PS X (.Raise (some (.Call (.Name x p) [.Constant (.str m) j p2] [] pos)) none pos') (tS c W (sRai n)) := by
  obtain ⟨C, h1, h2, h3, h4, h5, h6⟩ := G.g
  exact os_raise (B.hc rfl) B.tk G.n0 h2 (pmk_own PySem.F.excBase_ValueError h3 h1 h4 (raises_own h5 h6) hg hdb)
theorem k_for (B : Bg X c W k) (hp : PassesOwn (model X.prog X.w) X.A X.env X.xe) {tg iter : Expr} {body : List Stmt} {mi : M (List D)} {f : D → M Unit} {b : M Flow} (hi : PI X tg iter (tI c W mi)) (hg : PG X tg (tG c W zAny f)) (hb : PSs X body (tS c W b)) (hs : ∀ x, foldedSetIterable iter X.env x = pure x) :
    PS X (.For tg iter body [] pos) (tS c W (sFor mi f b)) := os_for hp (B.hc rfl) hi hg hb hs
theorem g_name {ht : Bool} (B : Bg X c W k ht) {Z : St → St → Prop} (i : Nat) (hi : X.N[i]? = some x) (hl : locB X.env.scope x = true) (hf : fnB X x = true) (hz : ∀ σ v, Z σ (σ.set i (some v))) : PG X (.Name x pos) (tG c W Z (mSet i)) := og_name B.hN hi (loc_of hl) (fn_of_ hf) hz
theorem zAny_set (i : Nat) : ∀ (σ : St) (v : V), zAny σ (σ.set i (some v)) := fun _ _ => trivial
theorem g_unp (B : Bg X c W k) {Z : St → St → Prop} {f : List D → M Unit} {k' n : Nat} (h : PGs X es (tGs c W Z f)) (hn : (assignEach es X.env).length = n) (hst : (assignEach es X.env).findIdx? (·.1) = none) : PG X (.Tuple es k' pos) (tG c W Z (gUnp n f)) := og_unp B.hK (B.hc rfl) h hn hst
theorem g_star (B : Bg X c W k) {Z : St → St → Prop} {f h : D → M Unit} {kk : Nat} {p2 : Pos} (zr : Zr Z) (h1 : PG X a (tG c W Z f)) (h2 : PG X b (tG c W Z h)) (hn : (assignEach [a, .Starred b p2] X.env).length = 2) (hst : (assignEach [a, .Starred b p2] X.env).findIdx? (·.1) = some 1)
    (hs : (assignEach [a, .Starred b p2] X.env).map (·.2) = [assign a X.env, assign b X.env]) : PG X (.Tuple [a, .Starred b p2] kk pos) (tG c W Z (gStar f h)) := og_star B.hK (B.hc rfl) zr h1 h2 hn hst hs
theorem g_put {ht : Bool} (B : Bg X c W k ht) {Z : St → St → Prop} {o i : Expr} {mo mi : M D} (zr : Zr Z) (ho : PE X o (tM c W mo)) (hi : PE X i (tM c W mi))
    (ha : ∀ v, assign (.Subscript o i pos) X.env v = (do
      let ov ← holding [v] (eval o X.env)
      let iv ← holding [v, ov] (eval i X.env)
      standAt pos
      holding [v, ov, iv] (setItem ov iv v)
      release [v, ov, iv] [])) : PG X (.Subscript o i pos) (tG c W Z (gPut mo mi)) := og_put B.hK ho hi zr ha
theorem k_own {ht : Bool} (B : Bg X c W k ht) {pos' : Pos} (i : Nat) (hi : X.N[i]? = some x) (hl : locB X.env.scope x = true) (hf : fnB X x = true) (he : PE X e (tF c W ms)) (hs : swapsWith e (some (.Name x pos')) pos.line X.env = pure false) : PS X (.Assign [.Name x pos'] e pos) (tS c W (sOwn i ms)) := os_own B.hN hi (loc_of hl) he hs (fn_of_ hf)
theorem k_app {ht : Bool} (B : Bg X c W k ht) {apos cpos : Pos} (i : Nat) (hi : X.N[i]? = some x) (hv : visB X.env.scope x = true) (he : PE X e (tM c W m)) (hbase : attributeBase (.Name x p) "append" X.env (eval (.Name x p) X.env) = eval (.Name x p) X.env)
    (hfew : ((backTo cpos (starEach [e] X.env)).all (fun x => !x.1) && (backToKw cpos (keywordEach [] X.env)).all (fun x => x.1.isSome)
      && decide (([e] : List Expr).length + ([] : List Keyword).length + (if ([] : List Keyword).isEmpty then 0 else 1) < 30)) = true)
    (hline : (apos.endLine == cpos.line) = true) (hs : starEach [e] X.env = (false, eval e X.env) :: starEach [] X.env) (hsw : swapsWith (.Call (.Attribute (.Name x p) "append" apos) [e] [] cpos) none pos.line X.env = pure false) :
    PS X (.Expr (.Call (.Attribute (.Name x p) "append" apos) [e] [] cpos) pos) (tS c W (sApp i m)) := os_app B.hK hi (vis_of hv).1 (vis_of hv).2.1 (vis_of hv).2.2 he hbase hfew hline hs hsw
end
end Ev
set_option Elab.async false
set_option linter.all false
set_option autoImplicit false
set_option maxRecDepth 100000
namespace Ev
open PySem PySem.Spec PyProof.Rows L2
section
variable {X : Cx} {c : Kx} {W : WX} {k : Nat} {elt tg iter : Expr} {ifs : List Expr} {scope : Scope} {own : List (Str × Nat)} {vs : List Nat} {pos : Pos} {mi : M (List D)} {f : D → M Unit} {mt : M Bool} {me : M D}
theorem kF_comp (B : Bg X c W k) (hi : PI X tg iter (tI c W mi)) (ok : BlkOk X.N X.env.scope scope own) (hvs : own.map (·.2) = vs)
    (hg : ∀ (s : Shared) (H : Hp) (C : Addr) (cl : List (Str × Addr)) (fp : List Addr), Bg (X.blk s H scope (compEnvC scope cl C X.env) fp) c W0 k → PG (X.blk s H scope (compEnvC scope cl C X.env) fp) tg (tG c W0 (zOwn vs) f))
    (ht : ∀ (s : Shared) (H : Hp) (C : Addr) (cl : List (Str × Addr)) (fp : List Addr), Bg (X.blk s H scope (compEnvC scope cl C X.env) fp) c W0 k → PTs (X.blk s H scope (compEnvC scope cl C X.env) fp) ifs (tB c W0 mt))
    (he : ∀ (s : Shared) (H : Hp) (C : Addr) (cl : List (Str × Addr)) (fp : List Addr), Bg (X.blk s H scope (compEnvC scope cl C X.env) fp) c W0 k → PE (X.blk s H scope (compEnvC scope cl C X.env) fp) elt (tM c W0 me)) (hs : ∀ x, foldedSetIterable iter X.env x = pure x) :
    PE X (.ListComp elt [⟨tg, iter, ifs, 0⟩] scope pos) (tF c W (fComp mi vs f mt me)) :=
  okF_comp (B.hc rfl) B.hN hi ok hvs (fun s H C cl fp => hg s H C cl fp B.blk) (fun s H C cl fp => ht s H C cl fp B.blk) (fun s H C cl fp => he s H C cl fp B.blk) hs
theorem k_asgLc (B : Bg X c W k) (i : Nat) {y : Str} {py spos : Pos} (hy : X.N[i]? = some y) (hyl : X.env.scope.names.lookup y = some .local) (hsw : swapsWith (.ListComp elt [⟨tg, iter, ifs, 0⟩] scope pos) (some (.Name y py)) spos.line X.env = pure true)
    (hi : PI X tg iter (tI c W mi)) (ok : BlkOk X.N X.env.scope scope own) (hvs : own.map (·.2) = vs)
    (hg : ∀ (s : Shared) (H : Hp) (C : Addr) (cl : List (Str × Addr)) (fp : List Addr), Bg (X.blk s H scope (compEnvC scope cl C X.env) fp) c W0 k → PG (X.blk s H scope (compEnvC scope cl C X.env) fp) tg (tG c W0 (zOwn vs) f))
    (ht : ∀ (s : Shared) (H : Hp) (C : Addr) (cl : List (Str × Addr)) (fp : List Addr), Bg (X.blk s H scope (compEnvC scope cl C X.env) fp) c W0 k → PTs (X.blk s H scope (compEnvC scope cl C X.env) fp) ifs (tB c W0 mt))
    (he : ∀ (s : Shared) (H : Hp) (C : Addr) (cl : List (Str × Addr)) (fp : List Addr), Bg (X.blk s H scope (compEnvC scope cl C X.env) fp) c W0 k → PE (X.blk s H scope (compEnvC scope cl C X.env) fp) elt (tM c W0 me)) (hs : ∀ x, foldedSetIterable iter X.env x = pure x) :
    PS X (.Assign [.Name y py] (.ListComp elt [⟨tg, iter, ifs, 0⟩] scope pos) spos) (tS c W (sAsg (xFz (fComp mi vs f mt me)) (mSet i))) :=
  os_asgLc (B.hc rfl) B.hN hy hyl hsw hi ok hvs (fun s H C cl fp => hg s H C cl fp B.blk) (fun s H C cl fp => ht s H C cl fp B.blk) (fun s H C cl fp => he s H C cl fp B.blk) hs
end
end Ev
set_option Elab.async false
set_option linter.all false
set_option autoImplicit false
set_option maxRecDepth 100000
namespace Ev
open PySem PySem.Spec PyProof.Rows L2
section
variable {P : PySem.Program} {w : World} {K : PySem.W.Frag} {mg mb : Str → Option Value} {k : Nat} {fa a : Addr} {fd : FuncData} {x : Str} {sp : Sp} {t : Shared} {us : List Value} {ns : List Int}
theorem lawG (kx : K.In t.heap) (g1 : t.heap.Ns mainGlobals mg) (g2 : t.heap.Ns builtinsNs mb) (g3 : ∀ y : Str, y ≠ "__name__" → mb y = bootBuiltins y) (g4 : t.heap.NoLimit) (g5 : t.gens = #[])
    (obj : t.heap.get? a = some { cls := .type "list", data := .seq us.toArray }) (hin : IntsAre us ns) (small : ns.length ≤ sizeLine) (room : Room (2 * k) callerA)
    (F : ∀ b : Heap, K.In b → b.Ns mainGlobals mg → FnG P w K mg b k fa fd [x] sp) (bnd : ∀ (s : Shared) (u : Value), BindsTo s fd ⟨[u], []⟩ [(x, u)])
    (wish : ∀ H : Hp, Only H → SqL K H a (ns.map V.int) → sp [.ref a] H (fun v _ => v = .bl true) fun _ _ _ => False) :
    codeAny (model P w) callerA (.call (.ref fa) ⟨[.ref a], []⟩) (fun r s' => r = .ok (.ret (.bool true)) ∧ OldK t.heap s'.heap ∧ s'.os = t.os ∧ AllBare s'.gens) t := by
  have rv := vals_ints hin
  have inner : ∀ H : Hp, Only H → SqL K H a (ns.map V.int) → HOk P w H t.heap → (∀ b, H b ≠ none → b = a) → (H a ≠ none → K.lookup a = none) →
      codeAny (model P w) callerA (.call (.ref fa) ⟨[.ref a], []⟩) (fun r s' => r = .ok (.ret (.bool true)) ∧ OldK t.heap s'.heap ∧ s'.os = t.os ∧ AllBare s'.gens) t := by
    intro H only sq hok one out
    have untr : ∀ {b : Addr} {o : Obj}, t.heap.get? b = some o → (∀ es ep, o.data ≠ .seq es ep) → H b = none := fun {b o} e d => by
      cases q : H b with
      | none => rfl
      | some u =>
        have z := one b (by rw [q]; simp)
        rw [z, obj] at e
        cases e
        exact absurd rfl (d us.toArray _)
    have ns' : ∀ {b : Addr} {m : Str → Option Value}, t.heap.Ns b m → (hidT t.heap H).Ns b m := fun {b m} ⟨o, es, ep, e, d, r⟩ =>
      ⟨o, es, ep, hidT_get e (untr e fun _ _ z => by rw [d] at z; cases z), d, r⟩
    have kin : K.In (hidT t.heap H) := fun b o e => hidT_get (kx b o e) (by
      cases q : H b with
      | none => rfl
      | some u =>
        have z := one b (by rw [q]; simp)
        rw [z] at e q
        rw [out (by rw [q]; simp)] at e; cases e)
    have md : Mod K mg (hidT t.heap H) := ⟨kin, ns' g1, ⟨mb, ns' g2, g3⟩, let ⟨mc, q1, q2⟩ := g4; ⟨mc, ns' q1, q2⟩⟩
    have en : Env0 P w K mg (hidT t.heap H) callerA [] t H := ⟨rfl, md, fun b o e => of_hidT e, Nat.le_of_eq (hidT_size _ _), trivial, fun b hb => (List.not_mem_nil hb).elim, hok, .of_eq g5⟩
    refine codeAny_mono ((F _ kin (ns' g1)).run callerA [] t H ⟨[.ref a], []⟩ [.ref a] [.ref a] _ _ room rfl en (bnd t (.ref a)) (.cons rfl .nil) (wish H only sq)) fun r s' h => ?_
    cases r with
    | error e =>
      obtain ⟨_, _, _, _, _, _, _, _, _, _, _, _, z⟩ := h
      exact z.elim
    | ok fl =>
      cases fl with
      | next => exact h.elim
      | brk => exact h.elim
      | cont => exact h.elim
      | ret u =>
        obtain ⟨v, H', h1, h2, un, h3, h4, q⟩ := h
        have q : v = .bl true := q
        rw [q] at h4
        have e4 : u = Value.bool true := h4
        rw [e4]
        refine ⟨rfl, OldK.of_keep fun b o e => ?_, h1, h2⟩
        cases hb : H b with
        | none => exact un.keep b o e hb (fun z => (List.not_mem_nil z).elim) (fun z => (List.not_mem_nil z).elim)
        | some u =>
          rcases only b with z | ⟨ob, xs, z⟩
          · rw [hb] at z; cases z
          · have e1 := (hok b _ z).1
            have e2 := (h3 b _ (un.frzs b ob _ z)).1
            rw [e] at e1; cases e1
            exact e2
  cases hk : K.lookup a with
  | some o =>
    have e := kx a o hk
    rw [obj] at e
    cases e
    exact inner (fun _ => none) (fun _ => .inl rfl) (.inr ⟨_, us.toArray, _, hk, rfl, rfl, rfl, by rw [List.size_toArray, hin.length]; exact small, by simpa using rv⟩) (fun b u z => by cases z) (fun b z => (z rfl).elim) fun z => (z rfl).elim
  | none =>
    have at_ : ∀ b : Addr, b ≠ a → (if b = a then some (HO.frz { cls := .type "list", data := .seq us.toArray } (.lst (ns.map V.int))) else none) = none := fun b hb => if_neg hb
    refine inner (fun b => if b = a then some (.frz { cls := .type "list", data := .seq us.toArray } (.lst (ns.map V.int))) else none) (fun b => ?_) (.inl (.inr ⟨_, if_pos rfl⟩)) (fun b u z => ?_) (fun b z => ?_) fun _ => hk
    · by_cases hb : b = a
      · exact .inr ⟨_, _, if_pos hb⟩
      · exact .inl (at_ b hb)
    · by_cases hb : b = a
      · have z := (if_pos hb).symm.trans z
        cases z
        subst hb
        exact ⟨obj, by rw [List.length_map]; exact small, us, _, rv, obj⟩
      · have z := (at_ b hb).symm.trans z
        cases z
    · by_cases hb : b = a
      · exact hb
      · exact (z (at_ b hb)).elim
end
theorem endG {l : PySem.W.OpenLaw} {n k : Nat} {q : PySem.Program} {loose : List Str} {XP : (Str → Option Value) → Heap → Prop} {YP : World → Heap → Prop} {d : DefRec} {x : Str} (hn : l.most = some n) (hn2 : n ≤ sizeLine) (hdf : d.params.defaults = []) (room : Room (2 * k) callerA)
    (F : ∀ (w : World) (mg : Str → Option Value) (fa : Addr) (h : Heap), YP w h → h.Ns mainGlobals mg → mg d.name = some (.ref fa) →
      ∃ (K : PySem.W.Frag) (fd : FuncData) (sp : Sp), K.In h ∧ (∀ (s : Shared) (u : Value), BindsTo s fd ⟨[u], []⟩ [(x, u)]) ∧
        (∀ (H : Hp) (a : Addr) (ns : List Int), ns.length ≤ n → (∀ z ∈ ns, Builtin.Int.intBits z ≤ 1048576) → Only H → SqL K H a (ns.map V.int) → sp [.ref a] H (fun v _ => v = .bl true) fun _ _ _ => False) ∧
        ∀ base : Heap, K.In base → base.Ns mainGlobals mg → FnG l.prog w K mg base k fa fd [x] sp) : PySem.W.WalkO q loose XP YP l.row.toRowW d [] (fun f vs => PySem.call f vs) := by
  refine Att.attach_callB hn hdf fun w s₀ s₁ mg mb fa o pm cd doc a vs ns G Y ho hd hcd hmg hobj hints hlen hbits hg => ?_
  obtain ⟨K, fd, sp, kx, hb, hsp, hF⟩ := F w mg fa _ Y G.T.g hmg
  exact lawG kx G.T.g G.T.b G.T.builtins G.T.nolimit hg hobj hints (Nat.le_trans hlen hn2) room hF hb fun H hO hS => hsp H a ns hlen hbits hO hS
end Ev
set_option Elab.async false
set_option linter.all false
set_option autoImplicit false
set_option maxRecDepth 100000
namespace Ev
open PySem PySem.Spec PyProof.Rows L2
def flatV : D → V
  | .bl b => .bl b
  | .int i => .int i
  | .str x => .str (toStr x)
  | _ => .non
theorem rep_flat {c : Kx} {F : Hp} {m : List Addr} : ∀ {d : D}, d.flat = true → Rep c F m d (flatV d)
  | .non, _ => by simp [Rep, flatV]
  | .bl _, _ => by simp [Rep, flatV]
  | .int _, _ => by simp [Rep, flatV]
  | .str _, _ => by simp [Rep, flatV]
  | .tup _, h => by simp [D.flat] at h
  | .lst _, h => by simp [D.flat] at h
  | .dic _, h => by simp [D.flat] at h
  | .ref _, h => by simp [D.flat] at h
  | .scr _, h => by simp [D.flat] at h
theorem repL_flat {c : Kx} {F : Hp} {m : List Addr} : ∀ {ds : List D}, ds.all D.flat = true → RepL c F m ds (ds.map flatV)
  | [], _ => by simp [RepL]
  | d :: ds, h => by
    simp only [List.all_cons, Bool.and_eq_true] at h
    exact RepL.cons_ (rep_flat h.1) (repL_flat h.2)
/-- the module's name x is a tuple of these -/
def tupC (x : Str) (xs : List D) (K : PySem.W.Frag) : Bool := xs.all D.flat && match K.lookup (He.ga K x) with
  | some ⟨.type c, none, .seq its _, _⟩ => decide (c = "tuple") && (decide (its.size ≤ sizeLine) && He.relAll (xs.map flatV) its.toList)
  | _ => false
theorem tupC_ok {c : Kx} {x : Str} {xs : List D} (h : tupC x xs c.K = true) : (∃ ob, c.K.lookup (He.ga c.K x) = some ob ∧ ob.cls = .type "tuple" ∧ ob.dict = none) ∧ ∀ F m, Rep c F m (.tup xs) (.ref (He.ga c.K x)) := by
  unfold tupC at h
  obtain ⟨hf, h⟩ := He.ba h
  cases q : c.K.lookup (He.ga c.K x) with
  | none => rw [q] at h; cases h
  | some o =>
    obtain ⟨oc, od, dt, sl⟩ := o
    rw [q] at h
    cases oc with
    | type n =>
      cases od with
      | none =>
        cases dt with
        | seq its k =>
          obtain ⟨h1, h2⟩ := He.ba (show (decide (n = "tuple") && (decide (its.size ≤ sizeLine) && He.relAll (xs.map flatV) its.toList)) = true from h)
          obtain ⟨h3, h4⟩ := He.ba h2
          have e := of_decide_eq_true h1
          subst e
          refine ⟨⟨_, rfl, rfl, rfl⟩, fun F m => ?_⟩
          simp only [Rep]
          exact ⟨_, _, rfl, .inr ⟨_, its, k, q, rfl, rfl, of_decide_eq_true h3, He.relAll_ok h4⟩, repL_flat hf⟩
        | _ => cases h
      | some a => cases dt <;> cases h
    | _ => cases od <;> cases dt <;> cases h
def entC : List DictEntry → List (D × D) → Bool
  | [], [] => true
  | e :: es, (.str k, d) :: r => (match e.key with
    | .str y _ => decide (y = toStr k)
    | _ => false) && (d.flat && He.relB (flatV d) e.val) && entC es r
  | _, _ => false
theorem entC_find : ∀ {es : List DictEntry} {kvs : List (D × D)}, entC es kvs = true → ∀ z : Txt, match dget (.str z) kvs with
    | none => es.find? (·.key.isStr (toStr z)) = none ∧ es.any (·.refKey) = false
    | some d => ∃ e, es.find? (·.key.isStr (toStr z)) = some e ∧ RelV (flatV d) e.val ∧ d.flat = true
  | [], [], _, z => by simp [dget]
  | [], (_, _) :: _, h, _ => by cases h
  | e :: es, [], h, _ => by simp [entC] at h
  | e :: es, (k, d) :: r, h, z => by
    cases k with
    | str k =>
      simp only [entC, Bool.and_eq_true] at h
      obtain ⟨⟨h1, h2, h3⟩, h4⟩ := h
      have ih := entC_find h4 z
      cases ek : e.key with
      | str y t =>
        rw [ek] at h1
        have hy : y = toStr k := by simpa using h1
        have er : e.refKey = false := by unfold DictEntry.refKey; rw [ek]
        by_cases hz : k = z
        · subst hz
          have e1 : dget (.str k) ((.str k, d) :: r) = some d := by simp [dget, D.eqb]
          rw [e1]
          have e2 : e.key.isStr (toStr k) = true := by rw [ek, hy]; simp [Value.isStr]
          exact ⟨e, by rw [List.find?_cons, e2], He.relB_ok h3, h2⟩
        · have e1 : dget (.str z) ((.str k, d) :: r) = dget (.str z) r := by
            have : (k == z) = false := by simpa using hz
            simp [dget, D.eqb, this]
          rw [e1]
          have e2 : e.key.isStr (toStr z) = false := by
            rw [ek, hy]
            have : ¬ toStr k = toStr z := fun q => hz (toStr_inj q)
            simp [Value.isStr, this]
          revert ih
          cases dget (.str z) r with
          | none => exact fun ih => ⟨by rw [List.find?_cons, e2]; exact ih.1, by rw [List.any_cons, er]; exact ih.2⟩
          | some d' => exact fun ⟨e', q1, q2, q3⟩ => ⟨e', by rw [List.find?_cons, e2]; exact q1, q2, q3⟩
      | _ => rw [ek] at h1; cases h1
    | _ => simp [entC] at h
/-- the module's name x is a dict of these -/
def dicC (x : Str) (kvs : List (D × D)) (K : PySem.W.Frag) : Bool := match K.lookup (He.ga K x) with
  | some ⟨_, _, .dict es _, _⟩ => !kvs.isEmpty && entC es.toList kvs
  | _ => false
theorem dicC_ok {c : Kx} {x : Str} {kvs : List (D × D)} (h : dicC x kvs c.K = true) (hk : ∃ es n, KDict c.K c.w (He.ga c.K x) es n) : ∀ F m, Rep c F m (.dic kvs) (.ref (He.ga c.K x)) := by
  intro F m
  simp only [Rep]
  have hne : kvs ≠ [] := by
    rintro rfl
    unfold dicC at h
    split at h <;> simp at h
  refine ⟨_, rfl, .inr ⟨hne, hk, fun z => ?_⟩⟩
  unfold dicC at h
  cases q : c.K.lookup (He.ga c.K x) with
  | none => rw [q] at h; cases h
  | some o =>
    obtain ⟨oc, od, dt, sl⟩ := o
    rw [q] at h
    cases dt with
    | dict es n =>
      have f := entC_find (Bool.and_eq_true_iff.mp (show (!kvs.isEmpty && entC es.toList kvs) = true from h)).2 z
      unfold PySem.W.nsIn
      rw [q]
      revert f
      cases dget (.str z) kvs with
      | none =>
        rintro ⟨f1, f2⟩
        refine ⟨none, ?_, rfl⟩
        show (match es.toList.find? (·.key.isStr (toStr z)) with | some e => some (some e.val) | none => if es.toList.any (·.refKey) then none else some none) = _
        rw [f1]
        simp only [f2]
        rfl
      | some d =>
        rintro ⟨e, f1, f2, f3⟩
        refine ⟨some e.val, ?_, e.val, flatV d, rfl, f2, ?_⟩
        · show (match es.toList.find? (·.key.isStr (toStr z)) with | some e => some (some e.val) | none => if es.toList.any (·.refKey) then none else some none) = _
          rw [f1]
        · cases d <;> simp [D.flat] at f3 <;> simp [FlatV, flatV]
    | _ => cases h
def smC (K : PySem.W.Frag) : Bool := match K.lookup sysModules with
  | some o => decide (o.cls = .type "dict")
  | none => false
theorem smC_ok {K : PySem.W.Frag} (h : smC K = true) : SmOk K := by
  unfold smC at h
  split at h
  · rename_i o e
    exact ⟨o, e, of_decide_eq_true h⟩
  · cases h
abbrev AlX : Type := He.AlT × Bool
def obsX (fa : List He.Fa) (fn : List He.DefD) (ts : List He.Tab) (ch : PySem.W.Frag → Bool) (K : PySem.W.Frag) : AlX := (He.obsT fa fn ts K, ch K)
def valX (fn : List He.DefD) (ts : List He.Tab) (w : World) : AlX := (He.valT fn ts w, true)
def SaysX (fa : List He.Fa) (fn : List He.DefD) (ts : List He.Tab) (ch : PySem.W.Frag → Bool) (w : World) (K : PySem.W.Frag) : Prop := obsX fa fn ts ch K = valX fn ts w
def obsXG (n : Nat) (fa : List He.Fa) (fn : List He.DefD) (ts : List He.Tab) (ch : PySem.W.Frag → Bool) (g : Addr → Option Obj) : AlX := obsX fa fn ts ch (He.frG g (He.asD g n ++ [sysModules]))
def hookX (n : Nat) (fa : List He.Fa) (fn : List He.DefD) (ts : List He.Tab) (ch : PySem.W.Frag → Bool) : PySem.W.Hook where
  α := AlX
  obs := fun s => obsXG n fa fn ts ch s.heap.get?
  val := fun w => valX fn ts w
  says := fun w h => ∃ K : PySem.W.Frag, K.In h ∧ SaysX fa fn ts ch w K
  of := fun _ _ e => ⟨_, He.frG_in, e⟩
  keeps := fun _ _ _ ⟨K, hK, c⟩ k => ⟨K, PySem.W.Frag.In.keeps hK k, c⟩
theorem obsXG_eq {n : Nat} {fa : List He.Fa} {fn : List He.DefD} {ts : List He.Tab} {ch : PySem.W.Frag → Bool} {g : Addr → Option Obj} {s : Shared} (h : ∀ a, g a = s.heap.get? a) : obsXG n fa fn ts ch g = (hookX n fa fn ts ch).obs s := by
  have e : g = s.heap.get? := funext h
  rw [e] <;> rfl
section
variable {fa : List He.Fa} {fn : List He.DefD} {ts : List He.Tab} {ch : PySem.W.Frag → Bool} {w : World} {K : PySem.W.Frag}
theorem SaysX.t (c : SaysX fa fn ts ch w K) : He.SaysT fa fn ts w K := congrArg (fun z : AlX => z.1) c
theorem SaysX.c (c : SaysX fa fn ts ch w K) : ch K = true := congrArg (fun z : AlX => z.2) c
theorem SaysX.fds (c : SaysX fa fn ts ch w K) : ∃ fds : Nat → FuncData, ∀ (i : Nat) (d : He.DefD), fn[i]? = some d → FunD K d.name d.qual d.params d.body d.scope (d.dvs K) (d.kws K) (He.fAd K d.at_) (fds i) := by
  have h : ∀ i : Nat, ∃ fd : FuncData, ∀ d : He.DefD, fn[i]? = some d → FunD K d.name d.qual d.params d.body d.scope (d.dvs K) (d.kws K) (He.fAd K d.at_) fd := fun i => by
    cases e : fn[i]? with
    | none => exact ⟨default, fun d z => by cases z⟩
    | some d =>
      obtain ⟨fd, F⟩ := c.t.d.def_ i e
      exact ⟨fd, fun d' z => by cases z; exact F⟩
  exact ⟨fun i => (h i).choose, fun i => (h i).choose_spec⟩
end
section
variable {c : Kx} {h : Heap} {mg : Str → Option Value}
theorem gc_str (X : c.K.In h) (G : h.Ns mainGlobals mg) {x z : Str} {l : Txt} (e : z = toStr l) (q : (He.Fa.str x z).ok c.K = true) : Gc mg c x (.str l) := by
  obtain ⟨t, hm⟩ := He.str_ok X G q
  subst e
  exact ⟨_, .str (toStr l), hm, ⟨t, rfl⟩, fun F m => by simp [Rep]⟩
theorem gc_int (X : c.K.In h) (G : h.Ns mainGlobals mg) {x : Str} {i : Int} (q : (He.Fa.int x i).ok c.K = true) : Gc mg c x (.int i) := by
  obtain ⟨t, hm⟩ := He.int_ok X G q
  exact ⟨_, .int i, hm, ⟨t, rfl⟩, fun F m => by simp [Rep]⟩
theorem gc_tup (X : c.K.In h) (G : h.Ns mainGlobals mg) {x : Str} {xs : List D} (q : (He.Fa.glo x).ok c.K = true) (t : tupC x xs c.K = true) : Gc mg c x (.tup xs) := ⟨_, .ref (He.ga c.K x), He.glo_ok X G q, rfl, (tupC_ok t).2⟩
theorem gc_dic (X : c.K.In h) (G : h.Ns mainGlobals mg) {x : Str} {kvs : List (D × D)} (q : (He.Fa.glo x).ok c.K = true) (t : dicC x kvs c.K = true) (hk : ∃ es n, KDict c.K c.w (He.ga c.K x) es n) : Gc mg c x (.dic kvs) := ⟨_, .ref (He.ga c.K x), He.glo_ok X G q, rfl, dicC_ok t hk⟩
theorem ge_exc (X : c.K.In h) (G : h.Ns mainGlobals mg) {x : Str} {n : Nat} (n0 : n ≠ 0) (ca : c.ca n = some (He.ga c.K x)) (q : (He.Fa.glo x).ok c.K = true) (e : (He.Fa.exc x).ok c.K = true) : Ge mg c.K c x n := by
  obtain ⟨e1, e2, e3, e4⟩ := He.exc_ok e
  exact ⟨n0, _, He.glo_ok X G q, ca, e1, e2, e3, e4⟩
/-- without calls nothing is promised -/
theorem fnG_zero {P : PySem.Program} {w : World} {K : PySem.W.Frag} {base : Heap} {T : Tb} {f : Addr} {fd : FuncData} {ps : List Str} {nf np : Nat} : FnG P w K mg base 0 f fd ps (spF c (callT T 0) nf np) := by
  have no : ∀ vs H Q E, ¬ spF c (callT T 0) nf np vs H Q E := fun vs H Q E ⟨g, ds, _, _, _, _, h⟩ => h
  exact ⟨fun vs H Q E h => (no vs H Q E h).elim, fun A outer s H args us vs Q E _ _ _ _ _ h => (no vs H Q E h).elim⟩
/-- the law's end, by what its def's meaning answers -/
theorem wish_of {call : Call} {nf : Nat} {a : Addr} {ns : List Int} {H : Hp} {S' : Sto} (h : call nf [.scr ns] [] = .ok (.bl true) S') (hS : SqL c.K H a (ns.map V.int)) : spF c call nf 1 [.ref a] H (fun v _ => v = .bl true) fun _ _ _ => False := by
  refine ⟨⟨fun _ => none, H, [], [], []⟩, [.scr ns], rfl, ⟨fun _ _ q => q, (fun _ _ q => by cases q), fun _ _ _ => rfl, rfl, List.nodup_nil, fun n x b q => by simp at q⟩, ?_, rfl, ?_⟩
  · simp only [RepL, Rep]
    exact ⟨_, [], rfl, ⟨a, rfl, hS⟩, rfl⟩
  · rw [h]
    intro v H' F' m' _ _ r
    simpa [Rep] using r
end
end Ev
set_option Elab.async false
set_option linter.all false
set_option autoImplicit false
set_option maxRecDepth 100000
namespace Ev
open PySem PySem.Spec PyProof.Rows L2
def pick {α : Type} (l : List α) : List Nat → List α
  | [] => []
  | i :: r => match l[i]? with | some a => a :: pick l r | none => pick l r
theorem pick_rel {vs : List V} {us : List Value} (r : Vals vs us) : ∀ pm : List Nat, Vals (pick vs pm) (pick us pm)
  | [] => .nil
  | i :: pm => by
    unfold pick
    cases e : vs[i]? with
    | none =>
      rw [r.none_of e]
      exact pick_rel r pm
    | some v =>
      obtain ⟨u, hu, rv⟩ := r.get e
      rw [hu]
      exact .cons rv (pick_rel r pm)
theorem repL_app {c : Kx} {F : Hp} {m : List Addr} : ∀ {ds es : List D} {vs zs : List V}, RepL c F m ds vs → RepL c F m es zs → RepL c F m (ds ++ es) (vs ++ zs)
  | [], _, vs, _, h, h' => by simp only [RepL] at h; subst h; exact h'
  | d :: ds, es, vs, zs, h, h' => by
    simp only [RepL] at h
    obtain ⟨v, r, rfl, h1, h2⟩ := h
    exact RepL.cons_ h1 (repL_app h2 h')
theorem pick_rep {c : Kx} {F : Hp} {m : List Addr} {ds : List D} {vs : List V} (r : RepL c F m ds vs) : ∀ {pm : List Nat}, (∀ i ∈ pm, i < ds.length) → ∃ l, srcOf ds (pm.map .inl) = some l ∧ RepL c F m l (pick vs pm) ∧ l.length = pm.length
  | [], _ => ⟨[], rfl, by simp [RepL, pick], rfl⟩
  | i :: pm, h => by
    obtain ⟨l, e, rl, hl⟩ := pick_rep r (pm := pm) fun j hj => h j (List.mem_cons_of_mem _ hj)
    have hi := h i List.mem_cons_self
    have ei : ds[i]? = some ds[i] := List.getElem?_eq_getElem hi
    obtain ⟨v, ev, rv⟩ := repL_at r ei
    refine ⟨ds[i] :: l, ?_, ?_, by simp [hl]⟩
    · simp only [List.map_cons, srcOf, ei, e]
    · unfold pick
      rw [ev]
      exact RepL.cons_ rv rl
theorem ksrc_of {K : PySem.W.Frag} {fd : FuncData} {ps ks : List Str} {n : Nat} (pm : List Nat) (hlt : ∀ i ∈ pm, i < n + ks.length) (hl : pm.length = ps.length)
    (hb : ∀ (s : Shared) (us zs : List Value), us.length = n → zs.length = ks.length → BindsTo s fd ⟨us, ks.zip zs⟩ (ps.zip (pick (us ++ zs) pm))) : KSrc K fd ps n ks (pm.map .inl) := by
  refine ⟨fun us zs => pick (us ++ zs) pm, fun vs zs => pick (vs ++ zs) pm, ⟨fun s us zs _ l1 l2 => hb s us zs l1 l2, fun r1 r2 => pick_rel (r1.append r2) pm⟩, fun c F m ds es vs zs r1 r2 l1 l2 => ?_⟩
  obtain ⟨l, e, r, hl'⟩ := pick_rep (repL_app r1 r2) (pm := pm) fun i hi => by rw [List.length_append, l1, l2]; exact hlt i hi
  exact ⟨l, e, r, hl'.trans hl⟩
end Ev
set_option Elab.async false
set_option linter.all false
set_option autoImplicit false
set_option maxRecDepth 100000
namespace Ev
open PySem PySem.Spec PyProof.Rows L2
def caX (ca : Nat → Option Addr) (a : Addr) : Nat → Option Addr := fun n => if n = 0 then some a else ca n
/-- the context while an exception at a is caught -/
def Kx.exc (c : Kx) (a : Addr) : Kx := ⟨c.K, c.w, caX c.ca a⟩
section
variable {K : PySem.W.Frag} {w : World} {ca cb : Nat → Option Addr} {F : Hp} {m : List Addr}
mutual
theorem Rep.to : ∀ {d : D} {v : V}, Rep ⟨K, w, ca⟩ F m d v → Rep ⟨K, w, cb⟩ F m d v
  | .non, _, h => by simpa [Rep] using h
  | .bl _, _, h => by simpa [Rep] using h
  | .int _, _, h => by simpa [Rep] using h
  | .str _, _, h => by simpa [Rep] using h
  | .tup xs, v, h => by
    obtain ⟨a, vs, e1, h1, h2⟩ := (show ∃ a vs, v = .ref a ∧ SqT K F a vs ∧ RepL ⟨K, w, ca⟩ F m xs vs by simpa [Rep] using h)
    have q := RepL.to h2
    simp only [Rep]
    exact ⟨a, vs, e1, h1, q⟩
  | .lst xs, v, h => by
    obtain ⟨a, vs, e1, h1, h2⟩ := (show ∃ a vs, v = .ref a ∧ F a = some (.lst vs) ∧ RepL ⟨K, w, ca⟩ F m xs vs by simpa [Rep] using h)
    have q := RepL.to h2
    simp only [Rep]
    exact ⟨a, vs, e1, h1, q⟩
  | .dic kvs, v, h => by simpa [Rep, WDict] using h
  | .ref n, v, h => by simpa [Rep] using h
  | .scr ns, v, h => by simpa [Rep] using h
theorem RepL.to : ∀ {xs : List D} {vs : List V}, RepL ⟨K, w, ca⟩ F m xs vs → RepL ⟨K, w, cb⟩ F m xs vs
  | [], _, h => by simpa [RepL] using h
  | x :: xs, vs, h => by
    obtain ⟨v, r, e1, h1, h2⟩ := (show ∃ v r, vs = v :: r ∧ Rep ⟨K, w, ca⟩ F m x v ∧ RepL ⟨K, w, ca⟩ F m xs r by simpa [RepL] using h)
    have q1 := Rep.to h1
    have q2 := RepL.to h2
    simp only [RepL]
    exact ⟨v, r, e1, q1, q2⟩
end
theorem RepKv.to : ∀ {kvs : List (D × D)} {kk : List (L2.Key × V)}, RepKv ⟨K, w, ca⟩ F m kvs kk → RepKv ⟨K, w, cb⟩ F m kvs kk
  | [], _, h => h
  | (k, d) :: r, kk, ⟨key, v, t, h1, h2, h3, h4⟩ => ⟨key, v, t, h1, h2, h3.to, RepKv.to h4⟩
theorem RepFs.to : ∀ {fs : List (Txt × D)} {vs : List (Str × V)}, RepFs ⟨K, w, ca⟩ F m fs vs → RepFs ⟨K, w, cb⟩ F m fs vs
  | [], _, h => h
  | (f, d) :: r, vs, ⟨v, t, h2, h3, h4⟩ => ⟨v, t, h2, h3.to, RepFs.to h4⟩
theorem CellR.to (hc : ∀ n, n ≠ 0 → ca n = cb n) {x : Cell} {o : Option HO} (h : CellR ⟨K, w, ca⟩ F m x o) : CellR ⟨K, w, cb⟩ F m x o := by
  cases x with
  | lst xs => obtain ⟨vs, h1, h2⟩ := h; exact ⟨vs, h1, h2.to⟩
  | dct kvs => obtain ⟨kk, h1, h2⟩ := h; exact ⟨kk, h1, h2.to⟩
  | ins cl fs => obtain ⟨C, dx, vs, h1, h2, h3, h4⟩ := h; exact ⟨C, dx, vs, h1, (hc cl h1).symm.trans h2, h3, h4.to⟩
theorem RelB.to (hc : ∀ n, n ≠ 0 → ca n = cb n) {G : Hp} {S : Sto} {H : Hp} (B : RelB ⟨K, w, ca⟩ G F m S H) : RelB ⟨K, w, cb⟩ G F m S H :=
  ⟨B.fh, B.gh, B.fg, B.ml, B.md, fun n x a h1 h2 => by
    obtain ⟨q1, q2, q3⟩ := B.cl n x a h1 h2
    exact ⟨q1, q2, q3.to hc⟩⟩
end
/-- no slot holds a caught exception -/
def noEx (ρ : Env) : Bool := ρ.all fun | some (.ex _) => false | _ => true
def sTryAs (b : M Flow) (sb : Nat → Bool) (i : Nat) (h : Exn → M Flow) : M Flow := fun ρ S => match b ρ S with
  | .exc x ρ' S' => if sb x.c then (if noEx ρ' && decide (i < ρ'.length) then (match h x (ρ'.set i (some (.ex x))) S' with
      | .ok (.rl _) _ _ => .bad
      | .ok f ρ2 S2 => if noEx (ρ2.set i none) then .ok f (ρ2.set i none) S2 else .bad
      | _ => .bad) else .bad) else .exc x ρ' S'
  | r => r
section
variable {X : Cx} {c : Kx} {W : WX} {pos : Pos}
/-- the slot i holds the caught exception -/
def mIsE (i : Nat) (b : Bool) : M D := fun ρ S => match ρ[i]? with
  | some (some (.ex _)) => .ok (.bl b) ρ S
  | _ => .bad
/-- a class by its name, asked of the caught ones -/
structure Gi (mg : Str → Option Value) (K : PySem.W.Frag) (ca : Nat → Option Addr) (x : Str) (sb : Nat → Bool) : Prop where
  g : ∃ v u, ClsV v u ∧ (∀ n C, n ≠ 0 → ca n = some C → PySem.W.kitOne K (.ref C) u = some (sb n)) ∧ (mg x = some u ∨ (mg x = none ∧ bootBuiltins x = some u ∧ x ≠ "__name__"))
theorem clsV_rel {v : V} {u : Value} (k : ClsV v u) : RelV v u := by cases k <;> rfl
theorem Gi.pe {ca : Nat → Option Addr} {x : Str} {sb : Nat → Bool} (G : Gi X.mg X.K ca x sb) (hg : Gl X x) (hdb : (x == ("__debug__" : Str)) = false) : ∃ v u, ClsV v u ∧ (∀ n C, n ≠ 0 → ca n = some C → PySem.W.kitOne X.K (.ref C) u = some (sb n)) ∧ PE X (.Name x pos) (tC v) := by
  obtain ⟨v, u, k, h, q⟩ := G.g
  refine ⟨v, u, k, h, ?_⟩
  rcases q with q | ⟨q1, q2, q3⟩
  · exact pe_glob hg q (clsV_rel k) hdb
  · exact pe_bltn hg q1 q2 (clsV_rel k) q3 hdb
theorem Gi.exc {mg : Str → Option Value} {K : PySem.W.Frag} {ca : Nat → Option Addr} {x : Str} {sb : Nat → Bool} (G : Gi mg K ca x sb) (a : Addr) : Gi mg K (caX ca a) x sb := by
  obtain ⟨v, u, k, h, q⟩ := G.g
  exact ⟨v, u, k, fun n C n0 e => h n C n0 ((if_neg n0).symm.trans e), q⟩
end
end Ev
set_option Elab.async false
set_option linter.all false
set_option autoImplicit false
set_option maxRecDepth 100000
namespace Ev
open PySem PySem.Spec PyProof.Rows L2
/-- a sequence turned about -/
def revD (d : D) : Option D := match d with
  | .lst xs => some (.lst xs.reverse)
  | .tup xs => if xs.length ≤ SZ then some (.tup xs.reverse) else none
  | .str x => if x.length ≤ SZ then some (.str x.reverse) else none
  | _ => none
def xRev (m : M D) : M D := M.bind m fun x => M.of (revD x)
end Ev
set_option Elab.async false
set_option linter.all false
set_option autoImplicit false
set_option maxRecDepth 100000
namespace Ev
open PySem PySem.Spec PyProof.Rows L2
section
variable {X : Cx} {c : Kx} {W : WX} {k : Nat} {e o : Expr} {es : List Expr} {m : M D} {ms : M (List D)} {apos cpos : Pos}
def mCount (m : M D) (ms : M (List D)) : M D := mMt .count (tyIs .list) m ms
def mIndexL (m : M D) (ms : M (List D)) : M D := mMt .index (tyIs .list) m ms
end
end Ev
set_option Elab.async false
set_option linter.all false
set_option autoImplicit false
set_option maxRecDepth 100000
namespace Ev
open PySem PySem.Spec PyProof.Rows L2
def sPar (i j : Nat) (ms : M (List D)) : M Flow := M.bind ms fun ds => match ds with
  | [a, b] => M.bind (mSet i a) fun _ => M.bind (mSet j b) fun _ => sNx
  | _ => M.bad
def sPar3 (i j l : Nat) (ms : M (List D)) : M Flow := M.bind ms fun ds => match ds with
  | [a, b, d] => M.bind (mSet i a) fun _ => M.bind (mSet j b) fun _ => M.bind (mSet l d) fun _ => sNx
  | _ => M.bad
section
variable {X : Cx} {c : Kx} {W : WX} {k : Nat}
theorem set_step {g : Gs} {σ : St} {H : Hp} {i : Nat} {d : D} {v : V} {α : Type} {f : Unit → M α} {ok : α → Gs → St → Hp → Prop} (R : Rel c g σ H) (r : Rep c g.F g.m d v) (h : After2 c W g (M.bind (mSet i d) f g.ρ g.S) ok) :
    ∃ g', Rel c g' (σ.set i (some v)) H ∧ GExt g g' ∧ After2 c W g' (f () g'.ρ g'.S) ok := by
  have h1 := After2.bind h
  unfold mSet at h1
  by_cases z : i < g.ρ.length
  · rw [if_pos z] at h1
    refine ⟨{ g with ρ := g.ρ.set i (some (.fz d)) }, R.set r, ⟨.refl, rfl⟩, ?_⟩
    exact After2.app h1 (R.set r) ⟨.refl, rfl⟩ rfl rfl
  · rw [if_neg z] at h1; exact h1.elim
theorem k_par (B : Bg X c W k) (i j : Nat) {x y : Str} {a b : Expr} {ms : M (List D)} {px py pt pos : Pos} {kt k2 : Nat} {pt2 : Pos} (hi : X.N[i]? = some x) (hj : X.N[j]? = some y) (hij : i ≠ j)
    (hx : (X.env.scope.names.lookup x == some .local) = true) (hy : (X.env.scope.names.lookup y == some .local) = true) (ha : PA X [a, b] (tA c W ms))
    (hw : swappedStores [.Tuple [.Name x px, .Name y py] kt pt] (.Tuple [a, b] k2 pt2) X.env = pure (some [x, y]))
    (hs : swapsWithSole [.Tuple [.Name x px, .Name y py] kt pt] (.Tuple [a, b] k2 pt2) pos.line X.env = pure false) :
    PS X (.Assign [.Tuple [.Name x px, .Name y py] kt pt] (.Tuple [a, b] k2 pt2) pos) (tS c W (sPar i j ms)) := by
  refine PS.weak (ps_par (B.hc rfl) B.hN hi hj hij (nk_eq hx) (nk_eq hy) ha hw hs) fun D σ H ⟨g, R, h⟩ => ⟨g, R, ((After2.bind h).one σ).imp fun ds g1 H1 x1 R1 q vs rs => ?_⟩
  match ds, rs, q with
  | [d1, d2], rs, q =>
    obtain ⟨v, w, rfl, r1, r2⟩ := repL_two rs
    refine ⟨v, w, rfl, ?_⟩
    obtain ⟨g2, R2, x2, q2⟩ := set_step R1 r1 q
    obtain ⟨g3, R3, x3, q3⟩ := set_step R2 (r2.ext x2.e) q2
    exact After2.pure q3 R3
  | [], _, q => exact q.elim
  | [_], _, q => exact q.elim
  | _ :: _ :: _ :: _, _, q => exact q.elim
end
end Ev
set_option Elab.async false
set_option linter.all false
set_option autoImplicit false
set_option maxRecDepth 100000
namespace Ev
open PySem PySem.Spec PyProof.Rows L2
def Mono (H H' : Hp) : Prop := ∀ a o, H a = some o → H' a = some o
theorem Mono.refl {H : Hp} : Mono H H := fun _ _ h => h
theorem Mono.trans {H H1 H2 : Hp} (a : Mono H H1) (b : Mono H1 H2) : Mono H H2 := fun x o h => b x o (a x o h)
theorem Mono.upd {H : Hp} {p : Addr} {o : HO} (hp : H p = none) : Mono H (upd H p o) := fun a u h => by rw [upd_ne (ne_of_none h hp)]; exact h
section
variable {c : Kx} {g : Gs} {σ : St} {H H' : Hp}
/-- all that is new stays from now on -/
theorem Rel.growM (R : Rel c g σ H) (mo : Mono H H') : Rel c { g with F := fun a => if (H a).isNone then H' a else g.F a } σ H' ∧ GExt g { g with F := fun a => if (H a).isNone then H' a else g.F a } := by
  have old : ∀ {a : Addr} {u : HO}, H a = some u → (if (H a).isNone then H' a else g.F a) = g.F a := fun h => by rw [h]; rfl
  have ext : Ext g.F g.m (fun a => if (H a).isNone then H' a else g.F a) g.m := ⟨fun a o h => by show (if (H a).isNone then H' a else g.F a) = _; rw [old (R.b.fh _ _ h)]; exact h, [], by simp⟩
  refine ⟨⟨⟨fun a o h => ?_, fun a o h => mo _ _ (R.b.gh a o h), fun a o h => ?_, R.b.ml, R.b.md, fun n x a h1 h2 => ?_⟩, R.ln, fun i d h => ?_, fun i xs h => ?_, R.sd, R.sx⟩, ext, rfl⟩
  · have h : (if (H a).isNone then H' a else g.F a) = some o := h
    cases q : H a with
    | none => rw [q] at h; exact h
    | some u => rw [old q] at h; exact mo _ _ (R.b.fh _ _ h)
  · have h : (if (H a).isNone then H' a else g.F a) = some o := h
    cases q : H a with
    | none =>
      cases qg : g.G a with
      | none => rfl
      | some u => have := R.b.gh _ _ qg; rw [q] at this; cases this
    | some u => rw [old q] at h; exact R.b.fg _ _ h
  · obtain ⟨q1, q2, q3⟩ := R.b.cl n x a h1 h2
    obtain ⟨u, e⟩ := q3.some_
    refine ⟨by show (if (H a).isNone then H' a else g.F a) = none; rw [old e]; exact q1, q2, ?_⟩
    rw [e] at q3
    rw [mo _ _ e]
    exact q3.ext ext
  · obtain ⟨v, e, r⟩ := R.sf i d h
    exact ⟨v, e, r.ext ext⟩
  · obtain ⟨a, vs, e, h1, r, h2, h3, h4⟩ := R.so i xs h
    exact ⟨a, vs, e, mo _ _ h1, r.ext ext, by show (if (H a).isNone then H' a else g.F a) = none; rw [old h1]; exact h2, h3, h4⟩
end
/-- a written value, laid anew -/
def New (H H' : Hp) : D → V → Prop
  | .tup ds, v => ds.all D.flat = true ∧ ∃ a, v = .ref a ∧ H a = none ∧ H' a = some (.tup (ds.map flatV))
  | d, v => D.flat d = true ∧ v = flatV d
theorem New.mono {H H1 H2 H3 : Hp} {d : D} {v : V} (m1 : Mono H H1) (m2 : Mono H2 H3) (h : New H1 H2 d v) : New H H3 d v := by
  cases d with
  | tup ds =>
    obtain ⟨f, a, e, h1, h2⟩ := h
    refine ⟨f, a, e, ?_, m2 _ _ h2⟩
    cases q : H a with
    | none => rfl
    | some o => have := m1 _ _ q; rw [h1] at this; cases this
  | _ => exact h
theorem New.rep {c : Kx} {g : Gs} {H H' : Hp} {d : D} {v : V} (h : New H H' d v) (m : List Addr) : Rep c (fun a => if (H a).isNone then H' a else g.F a) m d v := by
  cases d with
  | tup ds =>
    obtain ⟨f, a, e, h1, h2⟩ := h
    simp only [Rep]
    refine ⟨a, _, e, SqT.of ?_, repL_flat f⟩
    show (if (H a).isNone then H' a else g.F a) = _
    rw [h1]; exact h2
  | _ => obtain ⟨f, e⟩ := h; rw [e]; exact rep_flat f
def tK (d : D) : TE := fun _ H Q => ∀ v H', Mono H H' → New H H' d v → Q v H'
/-- the pairs of a display -/
def PNew (H H' : Hp) : List (D × D) → List (V × V) → Prop
  | [], ps => ps = []
  | (k, d) :: r, ps => ∃ v t, ps = (flatV k, v) :: t ∧ New H H' d v ∧ PNew H H' r t
theorem PNew.mono {H H1 H2 H3 : Hp} (m1 : Mono H H1) (m2 : Mono H2 H3) : ∀ {kvs : List (D × D)} {ps : List (V × V)}, PNew H1 H2 kvs ps → PNew H H3 kvs ps
  | [], _, h => h
  | (k, d) :: r, ps, ⟨v, t, e, h1, h2⟩ => ⟨v, t, e, h1.mono m1 m2, PNew.mono m1 m2 h2⟩
structure PD (X : Cx) (pos : Pos) (keys : List (Option Expr)) (vals : List Expr) (kvs : List (D × D)) : Prop where
  ex : ∃ trs, PPs X pos keys vals trs ∧ ∀ σ H (Q : List (V × V) → Hp → Prop), (∀ ps H', Mono H H' → PNew H H' kvs ps → Q ps H') → tPairs trs σ H Q
section
variable {X : Cx} {c : Kx} {W : WX} {k : Nat} {pos p : Pos} {e ke ve : Expr} {es vals : List Expr} {keys : List (Option Expr)} {kvs : List (D × D)} {d : D} {ds : List D}
theorem kc_flat {v : V} (h : PE X e (tC v)) (f : D.flat d = true) (ev : flatV d = v) : PE X e (tK d) := PE.weak h fun σ H Q q => q v H .refl (by
  cases d <;> first | exact ⟨f, ev.symm⟩ | (simp [D.flat] at f))
theorem kc_str {x : Str} {j : Nat} (l : Txt) (h : x.cps.toList = l) : PE X (.Constant (.str x) j pos) (tK (.str l)) := kc_flat (d := .str l) pe_str rfl (by subst h; simp [flatV, toStr])
theorem kc_int {i : Int} {j : Nat} : PE X (.Constant (.int i) j pos) (tK (.int i)) := kc_flat (d := .int i) pe_int rfl rfl
theorem pd_nil : PD X pos [] [] [] := ⟨[], pps_nil, fun σ H Q q => q [] H .refl rfl⟩
theorem pd_cons {kd : D} (f : D.flat kd = true) (hk : PE X ke (tK kd)) (hv : PE X ve (tK d)) (hr : PD X pos keys vals kvs) : PD X pos (some ke :: keys) (ve :: vals) ((kd, d) :: kvs) := by
  obtain ⟨trs, h1, h2⟩ := hr.ex
  refine ⟨(tK kd, tK d) :: trs, pps_cons hk hv h1, fun σ H Q q x H1 m1 n1 y H2 m2 n2 => h2 σ H2 _ fun ps H3 m3 n3 => q _ _ ((m1.trans m2).trans m3) ⟨y, ps, ?_, n2.mono m1 m3, n3.mono (m1.trans m2) .refl⟩⟩
  have ev : x = flatV kd := by cases kd <;> first | exact n1.2 | (simp [D.flat] at f)
  rw [ev]
/-- the keys are texts, unlike ones -/
def keysNd : List (D × D) → Bool
  | [] => true
  | (.str x, _) :: r => (dget (.str x) r).isNone && keysNd r
  | _ :: _ => false
theorem keys_put {H H' : Hp} : ∀ {kvs : List (D × D)} {ps : List (V × V)}, keysNd kvs = true → PNew H H' kvs ps →
    ∃ kk : List (L2.Key × V), ps = kk.map (fun kv => (kV kv.1, kv.2)) ∧ kk.length = kvs.length ∧ ∀ (acc : List (L2.Key × V)) (x : Txt), match dget (.str x) kvs with
      | none => valV (mergeK acc kk) (.inr (toStr x)) = valV acc (.inr (toStr x))
      | some d => ∃ v, valV (mergeK acc kk) (.inr (toStr x)) = some v ∧ New H H' d v
  | [], ps, _, h => by
    simp only [PNew] at h
    subst h
    exact ⟨[], rfl, rfl, fun acc x => rfl⟩
  | (kd, d) :: r, ps, hn, h => by
    cases kd with
    | str z =>
      simp only [keysNd, Bool.and_eq_true] at hn
      obtain ⟨v, t, rfl, n1, n2⟩ := h
      obtain ⟨kk, e1, e2, e3⟩ := keys_put hn.2 n2
      refine ⟨(.inr (toStr z), v) :: kk, by rw [e1]; rfl, by simp [e2], fun acc x => ?_⟩
      have e4 := e3 (putK acc (.inr (toStr z)) v) x
      have em : mergeK acc ((.inr (toStr z), v) :: kk) = mergeK (putK acc (.inr (toStr z)) v) kk := rfl
      rw [em]
      by_cases hz : z = x
      · subst hz
        have e5 : dget (.str z) ((.str z, d) :: r) = some d := by simp [dget, D.eqb]
        rw [e5]
        have e6 : dget (.str z) r = none := by simpa using hn.1
        rw [e6] at e4
        refine ⟨v, ?_, n1⟩
        rw [e4, valV_put, if_pos rfl]
      · have e5 : dget (.str x) ((.str z, d) :: r) = dget (.str x) r := by
          have : (z == x) = false := by simpa using hz
          simp [dget, D.eqb, this]
        rw [e5]
        have e7 : valV (putK acc (.inr (toStr z)) v) (.inr (toStr x)) = valV acc (.inr (toStr x)) := by
          rw [valV_put, if_neg (fun q => hz (toStr_inj (Sum.inr.inj q)).symm)]
        cases e6 : dget (.str x) r with
        | none => rw [e6] at e4; rw [← e7]; exact e4
        | some d' => rw [e6] at e4; exact e4
    | _ => simp [keysNd] at hn
/-- the display's dict stands -/
structure DAt (F : Hp) (kvs : List (D × D)) (c : Kx) (m : List Addr) (p : Addr) : Prop where
  ex : ∃ kk : List (L2.Key × V), F p = some (.dK kk) ∧ ∀ x : Txt, match dget (.str x) kvs with
    | none => valV kk (.inr (toStr x)) = none
    | some d => ∃ v, valV kk (.inr (toStr x)) = some v ∧ Rep c F m d v
theorem ok_disp (pd : PD X pos keys vals kvs) (nd : keysNd kvs = true) (hall : keys.all (·.isSome) = true) (hl : keys.length = vals.length) (hk : decide (kvs.length = keys.length) = true) (h0 : keys ≠ []) (h15 : decide (keys.length ≤ 15) = true) :
    PE X (.Dict keys vals pos) (fun σ H Q => ∃ g, Rel c g σ H ∧ ∀ p g' H', GExt g g' → g'.ρ = g.ρ → g'.S = g.S → Rel c g' σ H' → DAt g'.F kvs c g'.m p → Q (.ref p) H') := by
  obtain ⟨trs, h1, h2⟩ := pd.ex
  refine PE.weak (pe_disp h1 hall hl h0 (of_decide_eq_true h15)) fun σ H Q ⟨g, R, q⟩ p hp => h2 _ _ _ fun ps H2 mo pn => ?_
  obtain ⟨kk, e1, e2, e3⟩ := keys_put nd pn
  have hk := of_decide_eq_true hk
  have h15 := of_decide_eq_true h15
  have mo1 : Mono H H2 := (Mono.upd hp).trans mo
  have mo3 : Mono H (upd H2 p (.dK (mergeK [] kk))) := fun a o h => by rw [upd_ne (ne_of_none h hp)]; exact mo1 _ _ h
  have mo2 : ∀ a, a ≠ p → upd H2 p (.dK (mergeK [] kk)) a = H2 a := fun a h => upd_ne h
  refine ⟨mo _ _ upd_same, kk, e1, by omega, ?_⟩
  obtain ⟨R2, x2⟩ := R.growM mo3
  refine q p _ _ x2 rfl rfl R2 ⟨mergeK [] kk, ?_, fun x => ?_⟩
  · show (if (H p).isNone then upd H2 p (.dK (mergeK [] kk)) p else g.F p) = _
    rw [hp]; exact upd_same
  · have e4 := e3 [] x
    cases e5 : dget (.str x) kvs with
    | none => rw [e5] at e4; exact e4
    | some d =>
      rw [e5] at e4
      obtain ⟨v, q1, q2⟩ := e4
      refine ⟨v, q1, ?_⟩
      have n2 : New H (upd H2 p (.dK (mergeK [] kk))) d v := by
        cases d with
        | tup ds =>
          obtain ⟨f, a, e, n1, n2⟩ := q2
          have np : a ≠ p := fun z => by subst z; rw [upd_same] at n1; cases n1
          exact ⟨f, a, e, by rw [upd_ne np] at n1; exact n1, by rw [upd_ne np]; exact n2⟩
        | _ => exact q2
      exact n2.rep _
/-- {..}[e] -/
def xDix (kvs : List (D × D)) (m : M D) : M D := M.bind m fun k => match k with | .str x => M.of (dget (.str x) kvs) | _ => M.bad
/-- {..}.get(e, f) -/
def xDgt (kvs : List (D × D)) (m md : M D) : M D := M.bind m fun k => M.bind md fun d => match k with | .str x => M.pure ((dget (.str x) kvs).getD d) | _ => M.bad
theorem DAt.ext {F F' : Hp} {m m' : List Addr} {q : Addr} (h : DAt F kvs c m q) (x : Ext F m F' m') : DAt F' kvs c m' q := by
  obtain ⟨kk, h1, h2⟩ := h.ex
  refine ⟨kk, x.f _ _ h1, fun z => ?_⟩
  have h3 := h2 z
  cases e : dget (.str z) kvs with
  | none => rw [e] at h3; exact h3
  | some d => rw [e] at h3; obtain ⟨v, q1, q2⟩ := h3; exact ⟨v, q1, q2.ext x⟩
theorem k_dgt {ht : Bool} (B : Bg X c W k ht) {i f : Expr} {m md : M D} {apos cpos : Pos} (pd : PD X pos keys vals kvs) (nd : keysNd kvs = true) (hall : keys.all (·.isSome) = true) (hl : keys.length = vals.length) (hk : decide (kvs.length = keys.length) = true) (h0 : keys ≠ []) (h15 : decide (keys.length ≤ 15) = true)
    (hi : PE X i (tM c W m)) (hf : PE X f (tM c W md)) (hm : M2 X (.Dict keys vals pos) "get" apos i f cpos) : PE X (.Call (.Attribute (.Dict keys vals pos) "get" apos) [i, f] [] cpos) (tM c W (xDgt kvs m md)) := by
  refine PE.weak (pe_dget2 (by have := B.hu; omega) (ok_disp (c := c) pd nd hall hl hk h0 h15) hi hf hm) fun σ H Q ⟨g, R, h⟩ => ⟨g, R, fun q g1 H1 x1 e1 e2 R1 da => ?_⟩
  obtain ⟨kk0, hp0, _⟩ := da.ex
  refine ⟨q, rfl, .inl ⟨kk0, .of (R1.b.fh _ _ hp0)⟩, g1, R1, (After.bind (After.at_ h x1 e1 e2)).imp fun kd g2 H2 x2 R2 h2 v rv => ⟨g2, R2, (After.bind h2).imp fun dd g3 H3 x3 R3 h3 w rw' => ?_⟩⟩
  cases kd with
  | str x =>
    simp only [Rep] at rv
    subst rv
    obtain ⟨kk, hp, hd⟩ := ((da.ext x2.e).ext x3.e).ex
    have hd := hd x
    refine ⟨valV kk (.inr (toStr x)), .inl ⟨kk, .inr (toStr x), .of (R3.b.fh _ _ hp), rfl, rfl⟩, ?_⟩
    have q3 := After.pure h3 R3
    cases e3 : dget (.str x) kvs with
    | none => rw [e3] at hd q3; rw [hd]; exact q3 w rw'
    | some d =>
      rw [e3] at hd q3
      obtain ⟨u, q1, q2⟩ := hd
      rw [q1]
      exact q3 u q2
  | _ => exact h3.elim
end
end Ev
set_option Elab.async false
set_option linter.all false
set_option autoImplicit false
set_option maxRecDepth 100000
namespace Ev
open PySem PySem.Spec PyProof.Rows L2
/-- x.pop() of a slot's own list -/
def mPop (i : Nat) : M D := fun ρ S => match ρ[i]? with
  | some (some (.ow xs)) => (match xs[xs.length - 1]? with | some d => .ok d (ρ.set i (some (.ow xs.dropLast))) S | none => .bad)
  | _ => .bad
/-- x.pop(k) -/
def mPopAt (i k : Nat) : M D := fun ρ S => match ρ[i]? with
  | some (some (.ow xs)) => (match xs[k]? with | some d => .ok d (ρ.set i (some (.ow (xs.eraseIdx k)))) S | none => .bad)
  | _ => .bad
def mExt (i : Nat) (d : D) : M Unit := fun ρ S => match ρ[i]?, d with
  | some (some (.ow xs)), .lst ys => if xs.length + ys.length ≤ SZ then .ok () (ρ.set i (some (.ow (xs ++ ys)))) S else .bad
  | _, _ => .bad
/-- x.extend(e) -/
def sExt (i : Nat) (m : M D) : M Flow := M.bind (mOwnHere i) fun _ => M.bind m fun d => M.bind (mExt i d) fun _ => sNx
end Ev
set_option Elab.async false
set_option linter.all false
set_option autoImplicit false
set_option maxRecDepth 100000
namespace Ev
open PySem PySem.Spec PyProof.Rows L2
section
variable {c : Kx} {g : Gs} {σ : St} {H : Hp}
/-- a new cell -/
theorem Rel.newC (R : Rel c g σ H) {p : Addr} {x : Cell} {o : HO} (hp : H p = none) (r : CellR c g.F g.m x (some o)) :
    Rel c { g with m := g.m ++ [p], S := g.S ++ [x] } σ (upd H p o) ∧ GExt g { g with m := g.m ++ [p], S := g.S ++ [x] } := by
  obtain ⟨f1, f2, f3⟩ := R.fresh hp
  have R0 := R.grow0 (o := o) hp
  have ex : Ext g.F g.m g.F (g.m ++ [p]) := ⟨fun _ _ h => h, [p], rfl⟩
  refine ⟨⟨⟨R0.b.fh, R0.b.gh, R.b.fg, by simp [R.b.ml], ?_, fun n y a h1 h2 => ?_⟩, R.ln, fun i d h => ?_, fun i xs h => ?_, R.sd, R.sx⟩, ex, rfl⟩
  · rw [List.nodup_append]
    exact ⟨R.b.md, by simp, fun a ha b hb => by simp at hb; subst hb; exact fun z => f3 (z ▸ ha)⟩
  · have h1 : (g.S ++ [x])[n]? = some y := h1
    have h2 : (g.m ++ [p])[n]? = some a := h2
    by_cases z : n < g.S.length
    · rw [List.getElem?_append_left z] at h1
      rw [List.getElem?_append_left (by rw [R.b.ml]; exact z)] at h2
      obtain ⟨q1, q2, q3⟩ := R0.b.cl n y a h1 h2
      exact ⟨q1, q2, q3.ext ex⟩
    · rw [List.getElem?_append_right (by omega)] at h1
      rw [List.getElem?_append_right (by rw [R.b.ml]; omega)] at h2
      have hn : n - g.S.length = 0 := by
        have := (List.getElem?_eq_some_iff.mp h1).1
        simp at this; omega
      rw [hn] at h1
      rw [R.b.ml, hn] at h2
      cases h1
      cases h2
      refine ⟨f1, f2, ?_⟩
      rw [upd_same]
      exact r.ext ex
  · obtain ⟨v, e1, r1⟩ := R.sf i d h
    exact ⟨v, e1, r1.ext ex⟩
  · obtain ⟨a, vs, e1, h1, rs, h2, h3, h4⟩ := R0.so i xs h
    refine ⟨a, vs, e1, h1, rs.ext ex, h2, h3, fun hm => ?_⟩
    rcases List.mem_append.mp hm with hm | hm
    · exact h4 hm
    · simp at hm
      subst hm
      obtain ⟨a', ws, e1', h1', _⟩ := R.so i xs h
      rw [e1] at e1'
      cases e1'
      rw [hp] at h1'; cases h1'
/-- a cell is another one -/
theorem Rel.putC (R : Rel c g σ H) {n : Nat} {a : Addr} {x y : Cell} {o : HO} (hm : g.m[n]? = some a) (hS : g.S[n]? = some x) (r : CellR c g.F g.m y (some o)) :
    Rel c { g with S := g.S.set n y } σ (upd H a o) := by
  obtain ⟨q1, q2, q3⟩ := R.b.cl n _ a hS hm
  have hn : n < g.S.length := (List.getElem?_eq_some_iff.mp hS).1
  refine ⟨⟨fun b o h => ?_, fun b o h => ?_, R.b.fg, by simp [R.b.ml], R.b.md, fun k z b h1 h2 => ?_⟩, R.ln, R.sf, fun i zs h => ?_, R.sd, R.sx⟩
  · rw [upd_ne (fun z => by subst z; rw [q1] at h; cases h)]; exact R.b.fh b o h
  · rw [upd_ne (fun z => by subst z; have h : g.G b = some o := h; rw [q2] at h; cases h)]; exact R.b.gh b o h
  · by_cases e : k = n
    · subst e
      have h2 : g.m[k]? = some b := h2
      rw [hm] at h2; cases h2
      have h1 : (g.S.set k y)[k]? = some z := h1
      rw [List.getElem?_set_self hn] at h1
      cases h1
      exact ⟨q1, q2, by rw [upd_same]; exact r⟩
    · have h1 : (g.S.set n y)[k]? = some z := h1
      rw [List.getElem?_set_ne (Ne.symm e)] at h1
      have nb : b ≠ a := fun e2 => by
        subst e2
        obtain ⟨l1, e1⟩ := List.getElem?_eq_some_iff.mp hm
        obtain ⟨l2, e2⟩ := List.getElem?_eq_some_iff.mp (show g.m[k]? = some b from h2)
        have e3 : g.m[k] = g.m[n] := e2.trans e1.symm
        have pw := List.pairwise_iff_getElem.mp R.b.md
        rcases Nat.lt_or_gt_of_ne e with q | q
        · exact pw k n l2 l1 q e3
        · exact pw n k l1 l2 q e3.symm
      obtain ⟨p1, p2, p3⟩ := R.b.cl k z b h1 h2
      exact ⟨p1, p2, by rw [upd_ne nb]; exact p3⟩
  · obtain ⟨b, ws, e1, h1, rs, h2, h3, h4⟩ := R.so i zs h
    have nb : b ≠ a := fun e => by subst e; exact h4 (List.mem_of_getElem? hm)
    exact ⟨b, ws, e1, by rw [upd_ne nb]; exact h1, rs, h2, h3, h4⟩
end
def fget (f : Txt) : List (Txt × D) → Option D
  | [] => none
  | (g, d) :: r => if g == f then some d else fget f r
def fput (f : Txt) (v : D) : List (Txt × D) → List (Txt × D)
  | [] => [(f, v)]
  | (g, d) :: r => if g == f then (g, v) :: r else (g, d) :: fput f v r
section
variable {c : Kx} {F : Hp} {m : List Addr}
theorem RepFs.get {f : Txt} : ∀ {fs : List (Txt × D)} {vs : List (Str × V)}, RepFs c F m fs vs → match fget f fs with
    | none => vs.lookup (toStr f) = none
    | some d => ∃ v, vs.lookup (toStr f) = some v ∧ Rep c F m d v
  | [], vs, h => by simp only [RepFs] at h; subst h; rfl
  | (g, d) :: r, vs, ⟨v, t, e, h1, h2⟩ => by
    subst e
    have ih := RepFs.get (f := f) h2
    unfold fget
    by_cases z : g = f
    · subst z
      simp only [beq_self_eq_true, if_true]
      exact ⟨v, by simp [List.lookup], h1⟩
    · have z1 : (g == f) = false := by simpa using z
      have z2 : (toStr f == toStr g) = false := by rw [str_beq]; simpa using fun e => z e.symm
      rw [z1]
      simp only [Bool.false_eq_true, if_false, List.lookup, z2]
      exact ih
theorem RepFs.put {f : Txt} {d : D} {v : V} (hv : Rep c F m d v) : ∀ {fs : List (Txt × D)} {vs : List (Str × V)}, RepFs c F m fs vs → RepFs c F m (fput f d fs) (putF (toStr f) v vs)
  | [], vs, h => by simp only [RepFs] at h; subst h; exact ⟨v, [], rfl, hv, rfl⟩
  | (g, e) :: r, vs, ⟨w, t, eq, h1, h2⟩ => by
    subst eq
    unfold fput putF
    by_cases z : g = f
    · subst z
      simp only [beq_self_eq_true, if_true]
      exact ⟨v, t, rfl, hv, h2⟩
    · have z1 : (g == f) = false := by simpa using z
      rw [z1, if_neg (fun e => z (toStr_inj e))]
      exact ⟨w, _, rfl, h1, RepFs.put hv h2⟩
theorem RepFs.len : ∀ {fs : List (Txt × D)} {vs : List (Str × V)}, RepFs c F m fs vs → vs.length = fs.length
  | [], vs, h => by simp only [RepFs] at h; subst h; rfl
  | (g, e) :: r, vs, ⟨w, t, eq, h1, h2⟩ => by subst eq; simp [RepFs.len h2]
end
/-- the fields of an instance of one of some classes -/
def insOf (cls : List Nat) (x : D) (S : Sto) : Option (Nat × Nat × List (Txt × D)) := match x with
  | .ref n => (match S[n]? with | some (.ins cl fs) => if cls.contains cl then some (n, cl, fs) else none | _ => none)
  | _ => none
def mFld (cls : List Nat) (f : Txt) (x : D) : M D := fun ρ S => match insOf cls x S with
  | some (_, _, fs) => (match fget f fs with | some d => .ok d ρ S | none => .bad)
  | none => .bad
def xFld (cls : List Nat) (f : Txt) (m : M D) : M D := M.bind m (mFld cls f)
def mFpt (cls : List Nat) (f : Txt) (x v : D) : M Unit := fun ρ S => match insOf cls x S with
  | some (n, cl, fs) => if fs.length < 900 then .ok () ρ (S.set n (.ins cl (fput f v fs))) else .bad
  | none => .bad
/-- o.f = e -/
def sFst (cls : List Nat) (f : Txt) (mo mv : M D) : M Flow := M.bind mv fun d => M.bind mo fun x => M.bind (mFpt cls f x d) fun _ => sNx
/-- o.f += e, o.f -= e of whole numbers -/
def sFag (cl : Nat) (f : Txt) (sub : Bool) (mo mv : M D) : M Flow := M.bind mo fun x => M.bind (mFld [cl] f x) fun a => M.bind mv fun b => match a, b with
  | .int i, .int j => M.bind (mFpt [cl] f x (.int (if sub then i - j else i + j))) fun _ => sNx
  | _, _ => M.bad
def mMth (P : Prm) (cl nf np : Nat) (nm : Txt) (ms : M (List D)) (x : D) : M D := fun ρ S => match insOf [cl] x S with
  | some (_, _, fs) => (match fget nm fs with
    | none => (M.bind ms fun ds => if ds.length + 1 = np then mCall P nf (x :: ds) else M.bad) ρ S
    | some _ => .bad)
  | none => .bad
/-- o.m(..) -/
def xMth (P : Prm) (cl nf np : Nat) (nm : Txt) (m : M D) (ms : M (List D)) : M D := M.bind m (mMth P cl nf np nm ms)
/-- C(..) -/
def mMak (P : Prm) (cl nf : Nat) (ds : List D) : M D := fun ρ S => match P.call nf (.ref S.length :: ds) (S ++ [.ins cl []]) with
  | .ok .non S' => .ok (.ref S.length) ρ S'
  | .exc x S' => .exc x ρ S'
  | _ => .bad
def xMak (P : Prm) (cl nf np : Nat) (ms : M (List D)) : M D := M.bind ms fun ds => if ds.length + 1 = np then mMak P cl nf ds else M.bad
end Ev
set_option Elab.async false
set_option linter.all false
set_option autoImplicit false
set_option maxRecDepth 100000
namespace Ev
open PySem PySem.Spec PyProof.Rows L2
section
variable {prog : Program} {w : World} {A : Around} {E : Value → Shared → Prop} {s : Shared}
/-- one more in front -/
def W1St (St : Nat → Shared → Prop) : Nat → Shared → Prop
  | 0, _ => False
  | i + 1, s => St i s
def W1P (P : Nat → Value → Prop) : Nat → Value → Prop
  | 0, _ => False
  | i + 1, v => P i v
theorem w1 {I : Addr} {fp wr : List Addr} {G : Array GenState → Array GenState → Prop} {n : Nat} {P : Nat → Value → Prop} {St : Nat → Shared → Prop} (W : WalksS prog w A I fp wr G n P St) : WalksS prog w A I fp wr G (n + 1) (W1P P) (W1St St) where
  sub := W.sub
  grefl := W.grefl
  gtrans := W.gtrans
  frame := fun i s h' tk st e k => match i, st with | i + 1, st => W.frame i s h' tk st e k
  item := fun i s Q E hi st k => match i, st with | i + 1, st => W.item i s Q E (by omega) st k
  done := fun s Q E st k => W.done s Q E st k
  self := fun i s Q E st k => match i, st with | i + 1, st => W.self i s Q E st k
end
end Ev
set_option Elab.async false
set_option linter.all false
set_option autoImplicit false
set_option maxRecDepth 100000
namespace Ev
open PySem PySem.Spec PyProof.Rows L2
/-- the masks that may come -/
def Msk (m : Nat) : Prop := MaskOk m ∨ m = 511
def orb : Nat → Nat → List Nat
  | _, 0 => []
  | x, n + 1 => x :: orb ((x * 5 + 1) % 512) n
theorem lcg_front (x : Nat) : ∀ k, lcgI 511 ((x * 5 + 1) % 512) k = lcgI 511 x (k + 1)
  | 0 => rfl
  | k + 1 => by show (lcgI 511 ((x * 5 + 1) % 512) k * 5 + 1) % 512 = _; rw [lcg_front x k]; rfl
theorem orb_mem : ∀ (n x j : Nat), j ∈ orb x n → ∃ k, k < n ∧ lcgI 511 x k = j
  | 0, _, _, h => by cases h
  | n + 1, x, j, h => by
    rcases List.mem_cons.mp h with rfl | h
    · exact ⟨0, by omega, rfl⟩
    · obtain ⟨k, hk, e⟩ := orb_mem n _ j h
      exact ⟨k + 1, by omega, by rw [← lcg_front]; exact e⟩
theorem orb_all : ((List.range 512).all fun j => (orb 0 512).contains j) = true := by decide +kernel
theorem from0 {j : Nat} (h : j ≤ 511) : ∃ k, k < 512 ∧ lcgI 511 0 k = j :=
  orb_mem 512 0 j (List.contains_iff_mem.mp (List.all_eq_true.mp orb_all j (List.mem_range.mpr (by omega))))
theorem lcg_add (a : Nat) : ∀ k, lcgI 511 (lcgI 511 0 a) k = lcgI 511 0 (a + k)
  | 0 => rfl
  | k + 1 => by show (lcgI 511 (lcgI 511 0 a) k * 5 + 1) % 512 = _; rw [lcg_add a k]; rfl
theorem lcg_again : ∀ k, lcgI 511 0 (512 + k) = lcgI 511 0 k
  | 0 => by decide +kernel
  | k + 1 => by show (lcgI 511 0 (512 + k) * 5 + 1) % 512 = _; rw [lcg_again k]; rfl
theorem lcg_from {i j : Nat} (hi : i ≤ 511) (hj : j ≤ 511) : ∃ k, k ≤ 511 ∧ lcgI 511 i k = j := by
  obtain ⟨a, ha, rfl⟩ := from0 hi
  obtain ⟨b, hb, rfl⟩ := from0 hj
  by_cases c : a ≤ b
  · exact ⟨b - a, by omega, by rw [lcg_add, show a + (b - a) = b by omega]⟩
  · exact ⟨512 + b - a, by omega, by rw [lcg_add, show a + (512 + b - a) = 512 + b by omega, lcg_again]⟩
theorem msk_run {m : Nat} (hm : Msk m) (h : Int) {j : Nat} (hj : j ≤ m) : ∃ n, n ≤ m + 12 ∧ runI m (SetTable.bits h) n = j := by
  rcases hm with hm | rfl
  · exact run_meets hm h hj
  · obtain ⟨k, hk, e⟩ := lcg_from (runI_le 511 (SetTable.bits h) 12) hj
    exact ⟨12 + k, by omega, (runI_tail (bits_lt h) k).trans e⟩
theorem msk_odd {m : Nat} (h : Msk m) : m % 2 = 1 := by
  rcases h with h | rfl
  · exact mask_odd h
  · rfl
theorem msk_le {m : Nat} (h : Msk m) : m ≤ 511 := by
  rcases h with (e | e | e) | e <;> omega
theorem way_in (m : Nat) (h : Int) (k : Nat) : way m h k ≤ m := by
  have b0 : SetTable.bits h % (m + 1) ≤ m := Nat.le_of_lt_succ (Nat.mod_lt _ (by omega))
  have b1 := runEnd_bd b0
  have := nth_in (m := m) k (runAt m (SetTable.bits h % (m + 1)) (SetTable.bits h)) (by simp only [runAt]; omega)
  show (nth m _ k).j ≤ m
  omega
/-- each thing stands on its hash's way, with no empty slot ahead -/
structure Tbl (t : SetTable) (hs : List Int) : Prop where
  up : Ris t.place.toList
  nod : t.dummies = #[]
  len : t.place.size = hs.length
  msk : Msk t.mask
  at_ : ∀ (i : Nat) (h : Int) (j : Nat), hs[i]? = some h → t.place.toList[i]? = some j → ∃ k, way t.mask h k = j ∧ ∀ k', k' < k → way t.mask h k' ∈ t.place.toList
/-- the first empty slot -/
theorem Tbl.free {t : SetTable} {hs : List Int} (T : Tbl t hs) (room : hs.length ≤ t.mask) (h : Int) :
    ∃ K, K < 10 * SetTable.turns t.mask ∧ way t.mask h K ∉ t.place.toList ∧ ∀ k, k < K → way t.mask h k ∈ t.place.toList := by
  obtain ⟨j, hj, out⟩ := st_missing t.place.toList (t.mask + 1) (by rw [Array.length_toList, T.len]; omega)
  obtain ⟨n, hn, e⟩ := msk_run T.msk h (show j ≤ t.mask by omega)
  obtain ⟨k, hk, e2⟩ := run_nth t.mask (SetTable.bits h) n
  have ew : way t.mask h k = j := by show (nth t.mask _ k).j = j; rw [e2]; exact e
  obtain ⟨K, a, b, c⟩ := st_least (p := fun k => ¬ way t.mask h k ∈ t.place.toList) k (by rw [ew]; exact out)
  refine ⟨K, ?_, b, fun k' q => Classical.byContradiction (c k' q)⟩
  unfold SetTable.turns
  omega
theorem Tbl.ahead {t : SetTable} {hs : List Int} (T : Tbl t hs) {h : Int} {K i j : Nat} (out : way t.mask h K ∉ t.place.toList) (hi : hs[i]? = some h) (hj : t.place.toList[i]? = some j) : ∃ k, k < K ∧ way t.mask h k = j := by
  obtain ⟨k, e, all⟩ := T.at_ i h j hi hj
  refine ⟨k, Nat.lt_of_not_le fun c => ?_, e⟩
  rcases Nat.lt_or_ge K k with q | q
  · exact out (all K q)
  · obtain rfl : k = K := Nat.le_antisymm q c
    exact out (e ▸ List.mem_of_getElem? hj)
/-- one more is laid into the first empty slot -/
theorem Tbl.put {t : SetTable} {hs : List Int} (T : Tbl t hs) {h : Int} {K : Nat} (out : way t.mask h K ∉ t.place.toList) (all : ∀ k, k < K → way t.mask h k ∈ t.place.toList) {p : Nat} (hp : SetTable.below t.place (way t.mask h K) = p) :
    p ≤ hs.length ∧ Tbl (t.put (way t.mask h K)).1 (hs.take p ++ h :: hs.drop p) ∧ (t.put (way t.mask h K)).2 = p ∧ (t.put (way t.mask h K)).1.mask = t.mask ∧ (t.put (way t.mask h K)).1.led = t.led ∧ (t.put (way t.mask h K)).1.plain = t.plain ∧ (t.put (way t.mask h K)).1.fill = hs.length + 1 := by
  generalize hw : way t.mask h K = w at *
  obtain ⟨c, _, _⟩ := below_cut T.up w
  rw [hp] at c
  have l0 : t.place.toList.length = hs.length := T.len
  have ph : p ≤ hs.length := by rw [← T.len]; exact c
  have pl : p ≤ t.place.toList.length := by omega
  have new : t.place[SetTable.below t.place w]? ≠ some w := fun e => out (List.mem_of_getElem? (by rw [Array.getElem?_toList]; exact e))
  have pp : (t.put w).1.place.toList = t.place.toList.take p ++ w :: t.place.toList.drop p := by rw [← hp]; exact put_place t w
  have sz : (t.put w).1.place.size = hs.length + 1 := by rw [← Array.length_toList, pp, len_ins _ pl, l0]
  have more : ∀ x, x ∈ t.place.toList → x ∈ (t.put w).1.place.toList := fun x hx => by rw [pp]; exact mem_ins.mpr (.inr hx)
  refine ⟨ph, ⟨ris_insert T.up new, put_dm T.nod w, by rw [len_ins _ ph]; exact sz, T.msk, fun i g j hi hj => ?_⟩, hp, rfl, rfl, rfl, ?_⟩
  · rw [tins_get hs ph] at hi
    rw [pp, tins_get _ pl] at hj
    have old : ∀ i', hs[i']? = some g → t.place.toList[i']? = some j → ∃ k, way t.mask g k = j ∧ ∀ k', k' < k → way t.mask g k' ∈ (t.put w).1.place.toList := fun i' x y => by
      obtain ⟨k, e, q⟩ := T.at_ i' g j x y
      exact ⟨k, e, fun k' z => more _ (q k' z)⟩
    show ∃ k, way t.mask g k = j ∧ _
    split at hi
    · rename_i z; rw [if_pos z] at hj; exact old i hi hj
    · rename_i z
      rw [if_neg z] at hj
      split at hi
      · rename_i y
        rw [if_pos y] at hj
        cases hi
        cases hj
        exact ⟨K, hw, fun k' q => more _ (all k' q)⟩
      · rename_i y; rw [if_neg y] at hj; exact old (i - 1) hi hj
  · show (t.put w).1.place.size + (t.put w).1.dummies.size = _
    rw [sz, put_dm T.nod w]
    rfl
theorem free_at {m : Nat} (hm : Msk m) (owner : Array (Option Nat)) (h : Int) {j : Nat} (hj : j ≤ m) (hf : oAt owner j = none) :
    ∃ K, SetTable.layClean.free m owner (SetTable.turns m) (SetTable.bits h % (m + 1)) (SetTable.bits h) = some (way m h K) ∧ oAt owner (way m h K) = none ∧ ∀ k, k < K → oAt owner (way m h k) ≠ none := by
  obtain ⟨n, hn, e⟩ := msk_run hm h hj
  have ew : way m h (off m (SetTable.bits h % (m + 1)) (SetTable.bits h) n) = j := by
    show (nth m _ _).j = j
    rw [nth_off, itL_run]
    exact e
  obtain ⟨K, a, b, c⟩ := st_least (p := fun k => oAt owner (way m h k) = none) _ (by rw [ew]; exact hf)
  refine ⟨K, free_spec m owner _ n _ _ K (by unfold SetTable.turns; omega) a (fun k q => ?_) ?_, b, c⟩
  · cases z : oAt owner (nth m (runAt m (SetTable.bits h % (m + 1)) (SetTable.bits h)) k).j with
    | none => exact absurd z (c k q)
    | some _ => rfl
  · have b : oAt owner (nth m (runAt m (SetTable.bits h % (m + 1)) (SetTable.bits h)) K).j = none := b
    rw [b]
    rfl
theorem own_more {m : Nat} (hm : Msk m) {done : List Int} {owner : Array (Option Nat)} (W : Own m done owner) (room : done.length ≤ m) (h : Int) :
    ∃ j, SetTable.layClean.free m owner (SetTable.turns m) (SetTable.bits h % (m + 1)) (SetTable.bits h) = some j ∧ Own m (done ++ [h]) (owner.setIfInBounds j (some done.length)) := by
  obtain ⟨ps, lp, inp⟩ := W.ps
  obtain ⟨j0, z0, y0⟩ := st_missing ps (m + 1) (by omega)
  have none0 : oAt owner j0 = none := Classical.byContradiction fun q => y0 (inp j0 (by omega) q)
  obtain ⟨K, e1, e2, e3⟩ := free_at hm owner h (show j0 ≤ m by omega) none0
  have wl := way_in m h K
  refine ⟨way m h K, e1, ?_⟩
  generalize hw : way m h K = w at *
  have ws : w < owner.size := by rw [W.sz]; omega
  have self := oAt_set_self (some done.length) ws
  have keep : ∀ i, oAt owner i ≠ none → oAt (owner.setIfInBounds w (some done.length)) i ≠ none := fun i q => by
    by_cases c : i = w
    · subst c; rw [self]; simp
    · rw [oAt_set_ne _ c]; exact q
  refine ⟨(Array.size_setIfInBounds ..).trans W.sz, fun j k jm e => ?_, fun k q => ?_, ⟨w :: ps, by simp [lp], fun j jm e => ?_⟩⟩
  · by_cases c : j = w
    · subst c
      rw [self] at e
      cases e
      exact ⟨h, K, by simp, hw, fun k' q => keep _ (e3 k' q)⟩
    · rw [oAt_set_ne _ c] at e
      obtain ⟨g, K', a, b, d⟩ := W.at_ j k jm e
      exact ⟨g, K', by rw [List.getElem?_append_left (List.getElem?_eq_some_iff.mp a).1]; exact a, b, fun k' q => keep _ (d k' q)⟩
  · simp only [List.length_append, List.length_singleton] at q
    by_cases c : k < done.length
    · obtain ⟨j, jm, e⟩ := W.all k c
      exact ⟨j, jm, by rw [oAt_set_ne _ (fun z => by rw [z, e2] at e; cases e)]; exact e⟩
    · obtain rfl : k = done.length := by omega
      exact ⟨w, wl, self⟩
  · by_cases c : j = w
    · exact c ▸ List.mem_cons_self ..
    · rw [oAt_set_ne _ c] at e
      exact List.mem_cons_of_mem _ (inp j jm e)
theorem own_fold {m : Nat} (hm : Msk m) : ∀ (rest done : List Int) (owner : Array (Option Nat)), Own m done owner → done.length + rest.length ≤ m →
    ∃ owner', rest.foldl (stepF m) (some (owner, done.length)) = some (owner', done.length + rest.length) ∧ Own m (done ++ rest) owner'
  | [], done, owner, W, _ => ⟨owner, rfl, by rw [List.append_nil]; exact W⟩
  | h :: rest, done, owner, W, hl => by
    simp only [List.length_cons] at hl ⊢
    obtain ⟨j, e, W1⟩ := own_more hm W (by omega) h
    obtain ⟨o2, f, W2⟩ := own_fold hm rest (done ++ [h]) _ W1 (by simp; omega)
    simp only [List.length_append, List.length_singleton] at f
    refine ⟨o2, ?_, by simpa using W2⟩
    rw [List.foldl_cons, stepF_some e, f, show done.length + 1 + rest.length = done.length + (rest.length + 1) by omega]
theorem own_laid {m : Nat} (hm : Msk m) {hs : Array Int} (hn : hs.size ≤ m) : ∃ owner, SetTable.layClean m hs = some owner ∧ Own m hs.toList owner := by
  obtain ⟨o, f, W⟩ := own_fold hm hs.toList [] _ (Own.init m) (by simpa using hn)
  refine ⟨o, ?_, by simpa using W⟩
  rw [layClean_eq]
  have f : hs.toList.foldl (stepF m) (some (Array.replicate (m + 1) none, 0)) = some (o, _) := f
  rw [f]
  rfl
theorem Tbl.anew (t : SetTable) {hs : Array Int} {wanted M : Nat} (hw : SetTable.sizeAbove wanted - 1 = M) (hM : Msk M) (hn : hs.size ≤ M) :
    ∃ t' order, t.relaid hs wanted = some (t', order) ∧ order.toList.Perm (List.range hs.size) ∧ Tbl t' (order.toList.map fun i => hs.getD i 0) ∧ t'.mask = M ∧ t'.led = t.led ∧ t'.plain = t.plain := by
  obtain ⟨o, e, W⟩ := own_laid hM hn
  have r : t.relaid hs wanted = some (tabOf t M o, ((liveOf M o).map (·.2)).toArray) := by rw [relaid_eq, hw, e]; rfl
  obtain ⟨r1, r2⟩ := ris_live (fun j => o.getD j none) (List.range (M + 1)) List.pairwise_lt_range
  have r1 : Ris ((liveOf M o).map (·.1)) := r1
  have r2 : ∀ x ∈ (liveOf M o).map (·.1), x ∈ List.range (M + 1) := r2
  have nd : ((liveOf M o).map (·.1)).Nodup := r1.imp fun h => Nat.ne_of_lt h
  obtain ⟨ps, p1, p2⟩ := W.ps
  have size2 : ∀ k, k < hs.size → k ∈ (liveOf M o).map (·.2) := fun k hk => by
    obtain ⟨j, a, b⟩ := W.all k hk
    exact List.mem_map.mpr ⟨(j, k), (mem_live W.sz).mpr ⟨a, b⟩, rfl⟩
  have len : (liveOf M o).length = hs.size := by
    have a := nat_nodup_len _ ps nd fun x hx => by
      obtain ⟨⟨y, k⟩, q, rfl⟩ := List.mem_map.mp hx
      obtain ⟨b1, b2⟩ := (mem_live W.sz).mp q
      exact p2 y b1 (by rw [b2]; simp)
    have b := nat_nodup_len (List.range hs.size) _ List.nodup_range fun k hk => size2 k (List.mem_range.mp hk)
    simp only [List.length_map, List.length_range] at a b
    have : hs.toList.length = hs.size := rfl
    omega
  refine ⟨_, _, r, perm_range hs.size _ (by simpa using len) size2, ⟨r1, rfl, by simp [tabOf], hM, fun i h j h1 h2 => ?_⟩, rfl, rfl, rfl⟩
  have h1 : (((liveOf M o).map (·.2)).map fun i => hs.getD i 0)[i]? = some h := h1
  have h2 : ((liveOf M o).map (·.1))[i]? = some j := h2
  simp only [List.getElem?_map] at h1 h2
  cases q : (liveOf M o)[i]? with
  | none => rw [q] at h2; cases h2
  | some yk =>
    obtain ⟨y, k⟩ := yk
    rw [q] at h1 h2
    simp only [Option.map_some, Option.some.injEq] at h1 h2
    subst h2
    obtain ⟨b1, b2⟩ := (mem_live W.sz).mp (List.mem_of_getElem? q)
    obtain ⟨g, K, a1, a2, a3⟩ := W.at_ y k b1 b2
    have eg : hs.getD k 0 = g := by rw [Array.getD_eq_getD_getElem?, ← Array.getElem?_toList, a1]; rfl
    obtain rfl : g = h := eg.symm.trans h1
    refine ⟨K, a2, fun k' z => ?_⟩
    show way M g k' ∈ (liveOf M o).map (·.1)
    cases c : oAt o (way M g k') with
    | none => exact absurd c (a3 k' z)
    | some l => exact List.mem_map.mpr ⟨_, (mem_live W.sz).mpr ⟨way_in .., c⟩, rfl⟩
end Ev
set_option Elab.async false
set_option linter.all false
set_option autoImplicit false
set_option maxRecDepth 100000
namespace Ev
open PySem PySem.Spec PyProof.Rows L2
/-- the tuple at an address is of these texts -/
abbrev TKy (P : Program) (w : World) (h : Heap) (k : List Str) (a : Addr) : Prop := IsTupleKey (strKind P w) h k a
abbrev thx (P : Program) (w : World) (k : List Str) : Int := tupleKeyHash (strKind P w) k
section
variable {P : Program} {w : World} {A : Around} {E : Value → Shared → Prop} {s : Shared}
theorem strs_items {k : List Str} {vs : List Value} (h : ItemsAre (strKind P w) k vs) : ∀ v ∈ vs, ∃ x t, v = Value.str x t := by
  induction h with
  | nil => simp
  | @cons k0 v' ks vs h1 _ ih =>
    intro v hv
    rcases List.mem_cons.mp hv with rfl | hv
    · have h1 : Value.isStrOf k0 v = true := h1
      cases v <;> simp [Value.isStrOf] at h1
      exact ⟨_, _, rfl⟩
    · exact ih v hv
theorem cls_str (n : Nat) (x : Str) (t : Tok) : ofAClassStatement n (.str x t) = pure false := by cases n <;> rfl
theorem byv_str (n : Nat) (x : Str) (t : Tok) : hashByValue n (.str x t) = pure false := by cases n <;> rfl
theorem cls_tky {k : List Str} {b : Addr} {Q : Bool → Shared → Prop} (hk : TKy P w s.heap k b) (h : Q false s) : wpAny (model P w) A (ofAClassStatement 8 (.ref b)) Q E s := by
  have ty := hk.typeIs
  obtain ⟨o, its, n, ho, _, hd, hi⟩ := hk
  unfold ofAClassStatement
  refine wpAny_bind (wpAny_typeOf ty ?_)
  simp only [beq_self_eq_true, if_true]
  try refine wpAny_bind (wpAny_pure ?_)
  try simp only [Bool.not_true, Bool.false_eq_true, if_false]
  refine wpAny_bind (m := seqItems? (.ref b)) (wpAny_seqItems ho hd ?_)
  refine wpAny_bind (m := forIn its _ _) ?_
  rw [← Array.forIn_toList]
  refine wpAny_forIn_list _ (fun rest r s' => (r.1 = none ∧ s' = s) ∧ ∀ v ∈ rest, ∃ x t, v = Value.str x t) _ ?_ ?_ _ _ ⟨⟨rfl, rfl⟩, strs_items hi⟩
  · rintro v rest r s' ⟨⟨h1, h2⟩, all⟩
    subst h2
    obtain ⟨x, t, e⟩ := all v (List.mem_cons_self ..)
    subst e
    rw [cls_str]
    refine wpAny_bind (wpAny_pure ?_)
    simp only [Bool.false_eq_true, if_false]
    exact wpAny_pure ⟨⟨rfl, rfl⟩, fun u hu => all u (List.mem_cons_of_mem _ hu)⟩
  · rintro ⟨r1, r2⟩ s' ⟨⟨h1, h2⟩, _⟩
    subst h2
    simp only at h1
    subst h1
    exact wpAny_pure h
/-- whether its hash goes by value: told one way or the other -/
theorem byv_tky {k : List Str} {b : Addr} {Q : Bool → Shared → Prop} (hk : TKy P w s.heap k b) (h : ∀ z, Q z s) : wpAny (model P w) A (hashByValue 8 (.ref b)) Q E s := by
  have ty := hk.typeIs
  obtain ⟨o, its, n, ho, _, hd, hi⟩ := hk
  unfold hashByValue
  refine wpAny_bind (wpAny_specialOf ty F.slot_tuple_hash.lookup ?_)
  refine wpAny_bind (m := seqItems? (.ref b)) (wpAny_seqItems ho hd ?_)
  refine wpAny_bind (m := forIn its _ _) ?_
  rw [← Array.forIn_toList]
  refine wpAny_forIn_list _ (fun rest r s' => (r.1 = none ∧ s' = s) ∧ ∀ v ∈ rest, ∃ x t, v = Value.str x t) _ ?_ ?_ _ _ ⟨⟨rfl, rfl⟩, strs_items hi⟩
  · rintro v rest r s' ⟨⟨h1, h2⟩, all⟩
    subst h2
    obtain ⟨x, t, e⟩ := all v (List.mem_cons_self ..)
    subst e
    rw [byv_str]
    refine wpAny_bind (wpAny_pure ?_)
    simp only [Bool.not_false, if_true]
    exact wpAny_pure (wpAny_pure (h false))
  · rintro ⟨r1, r2⟩ s' ⟨⟨h1, h2⟩, _⟩
    subst h2
    simp only at h1
    subst h1
    exact wpAny_pure (h true)
theorem seen_tky {k : List Str} {b : Addr} {Q : Bool → Shared → Prop} (hk : TKy P w s.heap k b) {ys : List Value} (hy : ∀ y ∈ ys, ∃ k' c, y = Value.ref c ∧ TKy P w s.heap k' c) (h : Q false s) :
    wpAny (model P w) A (searchCouldBeSeen (.ref b) ys) Q E s := by
  unfold searchCouldBeSeen
  refine wpAny_bind (wpAny_forIn_list _ (fun rest r s' => (r.1 = none ∧ s' = s) ∧ ∀ y ∈ rest, ∃ k' c, y = Value.ref c ∧ TKy P w s.heap k' c) _ ?_ ?_ _ _ ⟨⟨rfl, rfl⟩, hy⟩)
  · rintro v rest r s' ⟨⟨h1, h2⟩, all⟩
    subst h2
    obtain ⟨k', c, e, hc⟩ := all v (List.mem_cons_self ..)
    subst e
    have on : ∀ y ∈ rest, ∃ k' c, y = Value.ref c ∧ TKy P w s'.heap k' c := fun u hu => all u (List.mem_cons_of_mem _ hu)
    dsimp only
    by_cases z : (b == c || (carriedByValue (.ref b) && carriedByValue (.ref c))) = true
    · exact wp_if_pos z (wpAny_pure ⟨⟨rfl, rfl⟩, on⟩)
    · refine wp_if_neg z (wpAny_bind (wpAny_eqIsQuiet_tuple hk ?_))
      simp only [Bool.not_true, Bool.false_eq_true, if_false]
      refine wpAny_bind (wpAny_eqIsQuiet_tuple hc ?_)
      simp only [Bool.not_true, Bool.false_eq_true, if_false]
      refine wpAny_bind (cls_tky hk ?_)
      simp only [Bool.false_eq_true, if_false]
      refine wpAny_bind (cls_tky hc ?_)
      simp only [Bool.false_eq_true, if_false]
      exact wpAny_pure ⟨⟨rfl, rfl⟩, on⟩
  · rintro ⟨r1, r2⟩ s' ⟨⟨h1, h2⟩, _⟩
    subst h2
    simp only at h1
    subst h1
    exact wpAny_pure h
def srows (P : Program) (w : World) (L : List (Addr × List Str)) : List (Int × Value) := L.map fun p => (thx P w p.2, Value.ref p.1)
/-- the set at an address holds these tuples, as it stands in its table -/
structure SetS (P : Program) (w : World) (h : Heap) (a : Addr) (L : List (Addr × List Str)) (es : Array (Int × Value)) (ep : Nat) (t : SetTable) : Prop where
  ob : ∃ o, h.get? a = some o ∧ o.ExactSet ∧ o.data = .set es ep t
  rows : es.toList = srows P w L
  tab : Tbl t (L.map fun p => thx P w p.2)
  nd : (L.map (·.2)).Nodup
  tup : ∀ p ∈ L, TKy P w h p.2 p.1
  led : w.params.followText "set-order" = true ∨ t.led = true
  room : L.length * 5 < t.mask * 3
variable {a : Addr} {L : List (Addr × List Str)} {es : Array (Int × Value)} {ep : Nat} {t : SetTable}
theorem rows_size (h : es.toList = srows P w L) : es.size = L.length := by
  rw [← Array.length_toList, h, srows, List.length_map]
theorem SetS.size (R : SetS P w s.heap a L es ep t) : es.size = L.length := rows_size R.rows
theorem SetS.fits (R : SetS P w s.heap a L es ep t) : t.fits es.size = true := by
  have h1 := R.tab.len
  rw [List.length_map] at h1
  have := R.size
  have := R.room
  simp only [SetTable.fits, SetTable.fill, R.tab.nod, Bool.and_eq_true, beq_iff_eq, decide_eq_true_eq, List.size_toArray, List.length_nil]
  omega
theorem SetS.at_ (R : SetS P w s.heap a L es ep t) {i : Nat} {p : Addr × List Str} (h : L[i]? = some p) : es[i]? = some (thx P w p.2, Value.ref p.1) := by
  rw [← Array.getElem?_toList, R.rows, srows, List.getElem?_map, h]
  rfl
theorem SetS.gw (R : SetS P w s.heap a L es ep t) : ¬ t.gaveWay = true := by
  unfold SetTable.gaveWay
  rw [msk_odd R.tab.msk]
  decide
theorem nth_clean (m : Nat) : ∀ (n : Nat) (p : SetTable.Probe), p.dummy = none → (nth m p n).dummy = none
  | 0, _, h => h
  | n + 1, p, h => nth_clean m n (adv m p) (by unfold adv; split <;> exact h)
/-- from one step of the way on -/
theorem seek (R : SetS P w s.heap a L es ep t) {x : Addr} {k : List Str} (hx : TKy P w s.heap k x) (hu : A.units < cLine) {h : Int} (hh : thx P w k = h) {K : Nat} (lk : K < 10 * SetTable.turns t.mask)
    (out : way t.mask h K ∉ t.place.toList) (full : ∀ c, c < K → way t.mask h c ∈ t.place.toList) {Q : SetFound → Shared → Prop}
    (yes : k ∈ L.map (·.2) → Q (.there none) s) (no : k ∉ L.map (·.2) → Q (.free (way t.mask h K) false) s) :
    ∀ (f c : Nat) (st : Option SetTable.Probe), st.getD (t.probeStart h) = nth t.mask (runAt t.mask (SetTable.bits h % (t.mask + 1)) (SetTable.bits h)) c → c ≤ K → K < c + f →
      (∀ (i : Nat) p, L[i]? = some p → p.2 = k → ∃ d, c ≤ d ∧ d < K ∧ t.place.toList[i]? = some (way t.mask h d)) → wpAny (model P w) A (setSearchFrom a (.ref x) h true f st) Q E s := by
  intro f
  induction f with
  | zero => intro c st _ h1 h2; omega
  | succ f ih =>
    intro c st est hc hf left
    obtain ⟨o, ho, hex, hd⟩ := R.ob
    rw [setSearchFrom_succ]
    refine wpAny_bind (wpAny_setState_of ho hd R.fits ?_)
    dsimp only
    refine wp_if_neg R.gw ?_
    try refine wpAny_bind (wpAny_pure ?_)
    have wj : ∀ d, (nth t.mask (runAt t.mask (SetTable.bits h % (t.mask + 1)) (SetTable.bits h)) d).j = way t.mask h d := fun _ => rfl
    generalize ew : runAt t.mask (SetTable.bits h % (t.mask + 1)) (SetTable.bits h) = W0 at *
    have on : ∀ q, nth t.mask (nth t.mask W0 c) q = nth t.mask W0 (c + q) := fun q => (nth_add t.mask c W0 q).symm
    have clean : (nth t.mask W0 c).dummy = none := nth_clean _ _ _ (by rw [← ew]; rfl)
    have spec := go_spec t R.tab.up R.tab.nod (fun i => (es[i]?.map (·.1)).getD 0) h (10 * SetTable.turns t.mask) (K - c) _ clean (by omega)
      (fun q hq => by rw [on, wj]; exact full (c + q) (by omega)) (by rw [on, wj, show c + (K - c) = K by omega]; exact out)
    have hashed : ∀ (i : Nat) p, L[i]? = some p → (es[i]?.map (·.1)).getD 0 = thx P w p.2 := fun i p e => by rw [R.at_ e]; rfl
    rcases spec with ⟨q, i, hq, hi, e1, before, pr⟩ | ⟨before, pr⟩
    · have pr : t.probe (fun i => (es[i]?.map (·.1)).getD 0) h (st.getD (t.probeStart h)) = some (.candidate (way t.mask h (c + q)) i (nth t.mask W0 (c + (q + 1)))) := by
        rw [est]
        refine Eq.trans pr ?_
        rw [on, on, wj]
      rw [pr]
      dsimp only
      have hi : t.place.toList[i]? = some (way t.mask h (c + q)) := by rw [hi, on, wj]
      have il : i < L.length := by
        have h1 := (List.getElem?_eq_some_iff.mp hi).1
        have h2 := R.tab.len
        simp only [List.length_map, Array.length_toList] at h1 h2
        omega
      obtain ⟨p, hp⟩ : ∃ p, L[i]? = some p := ⟨_, List.getElem?_eq_getElem il⟩
      have pm := List.mem_of_getElem? hp
      have go : wpAny (model P w) A (searchRest a (.ref x) h true f es t (way t.mask h (c + q)) i (nth t.mask W0 (c + (q + 1)))) Q E s := by
        unfold searchRest
        rw [R.at_ hp]
        dsimp only
        refine wpAny_bind (wpAny_holding (wpAny_eqBool_tuple hu (R.tup p pm) hx ?_))
        refine wpAny_bind (wpAny_setState_of ho hd R.fits ?_)
        dsimp only
        by_cases same : p.2 = k
        · exact wp_if_pos (by simp [same]) (wpAny_pure (yes (List.mem_map.mpr ⟨p, pm, same⟩)))
        · refine wp_if_neg (by simp [same]) ?_
          try refine wpAny_bind (wpAny_pure ?_)
          rw [sameMem]
          dsimp only
          simp only [if_true, slot_live R.tab.up hi, R.at_ hp]
          refine wpAny_bind (wpAny_isSame_ref_self (wpAny_bind (wpAny_pure ?_)))
          simp only [if_true]
          refine wp_if_neg (by simp [same]) (ih (c + (q + 1)) _ rfl (by omega) (by omega) fun j r hj er => ?_)
          obtain ⟨d, d1, d2, d3⟩ := left j r hj er
          refine ⟨d, Nat.lt_of_not_le fun (z : d ≤ c + q) => ?_, d2, d3⟩
          by_cases eq : d = c + q
          · subst eq
            have s1 := slot_live R.tab.up hi
            rw [slot_live R.tab.up d3] at s1
            injection s1 with s1
            subst s1
            rw [hp] at hj
            cases hj
            exact same er
          · have z : d ≤ c + q := z
            exact before (d - c) j (by omega) (by rw [on, wj, show c + (d - c) = d by omega]; exact d3) ((hashed j r hj).trans (er ▸ hh))
      by_cases hl : t.led = true
      · refine wp_if_neg (by simp [hl]) ?_
        try refine wpAny_bind (wpAny_pure ?_)
        exact go
      · refine wp_if_pos (by simp [hl]) (wpAny_bind (seen_tky hx (fun y hy => ?_) ?_))
        · obtain ⟨e, he, rfl⟩ := List.mem_map.mp hy
          have he : e ∈ es.toList := by
            have := (by simpa using he : e ∈ es ∧ _).1
            simpa using this
          rw [R.rows] at he
          obtain ⟨p2, hp2, rfl⟩ := List.mem_map.mp he
          exact ⟨p2.2, p2.1, rfl, R.tup p2 hp2⟩
        · refine wp_if_neg (by simp) ?_
          try refine wpAny_bind (wpAny_pure ?_)
          exact go
    · have pr : t.probe (fun i => (es[i]?.map (·.1)).getD 0) h (st.getD (t.probeStart h)) = some (.empty (way t.mask h K) none) := by
        rw [est]
        refine Eq.trans pr ?_
        rw [on, wj, show c + (K - c) = K by omega]
      rw [pr]
      dsimp only
      refine wpAny_pure (no fun hm => ?_)
      obtain ⟨p, pm, rfl⟩ := List.mem_map.mp hm
      obtain ⟨i, hi⟩ := List.mem_iff_getElem?.mp pm
      obtain ⟨d, d1, d2, d3⟩ := left i p hi rfl
      exact before (d - c) i (by omega) (by rw [on, wj, show c + (d - c) = d by omega]; exact d3) ((hashed i p hi).trans hh)
theorem SetS.seek (R : SetS P w s.heap a L es ep t) {x : Addr} {k : List Str} (hx : TKy P w s.heap k x) (hu : A.units < cLine) {Q : SetFound → Shared → Prop}
    (yes : k ∈ L.map (·.2) → Q (.there none) s)
    (no : ∀ K, k ∉ L.map (·.2) → way t.mask (thx P w k) K ∉ t.place.toList → (∀ c, c < K → way t.mask (thx P w k) c ∈ t.place.toList) → Q (.free (way t.mask (thx P w k) K) false) s) :
    wpAny (model P w) A (setSearch a (.ref x) (thx P w k) true) Q E s := by
  have room := R.room
  obtain ⟨K, lk, out, full⟩ := R.tab.free (by rw [List.length_map]; omega) (thx P w k)
  have big : K < 0 + 100000 := by
    have := msk_le R.tab.msk
    unfold SetTable.turns at lk
    omega
  refine Ev.seek R hx hu rfl lk out full yes (fun n => no K n out full) 100000 0 none rfl (by omega) big fun i p hp e => ?_
  have hi : (L.map fun p => thx P w p.2)[i]? = some (thx P w k) := by rw [List.getElem?_map, hp, ← e]; rfl
  have il : i < t.place.toList.length := by
    have h1 := (List.getElem?_eq_some_iff.mp hp).1
    have h2 := R.tab.len
    simp only [List.length_map, Array.length_toList] at h2 ⊢
    omega
  obtain ⟨d, d1, d2⟩ := R.tab.ahead out hi (List.getElem?_eq_getElem il)
  exact ⟨d, by omega, d1, by rw [List.getElem?_eq_getElem il, d2]⟩
end
end Ev
set_option Elab.async false
set_option linter.all false
set_option autoImplicit false
set_option maxRecDepth 100000
namespace Ev
open PySem PySem.Spec PyProof.Rows L2
section
variable {P : Program} {w : World} {A : Around} {E : Value → Shared → Prop} {s : Shared} {a : Addr} {L : List (Addr × List Str)} {es : Array (Int × Value)} {ep : Nat} {t : SetTable}
theorem tky_same {h h' : Heap} {k : List Str} {a b : Addr} {o : Obj} {es : Array (Int × Value)} {ep : Nat} {t : SetTable} (hb : TKy P w h k b) (ho : h.get? a = some o) (hd : o.data = .set es ep t) (hs : Heap.SameBut a h h') : TKy P w h' k b := by
  obtain ⟨u, its, n, hu, hc, hdu, hi⟩ := hb
  refine ⟨u, its, n, (hs.2 b fun e => ?_).trans hu, hc, hdu, hi⟩
  subst e
  rw [ho] at hu
  cases hu
  rw [hd] at hdu
  cases hdu
theorem mid_perm {α : Type} (L : List α) (p : Nat) (x : α) : (L.take p ++ x :: L.drop p).Perm (x :: L) := by
  refine List.perm_middle.trans ?_
  rw [List.take_append_drop]
/-- what is told in an order that the table gives -/
theorem in_order (hr : es.toList = srows P w L) (order : Array Nat) (hp : order.toList.Perm (List.range L.length)) :
    ∃ M, (order.filterMap (es[·]?)).toList = srows P w M ∧ M.Perm L ∧ (M.map fun p => thx P w p.2) = order.toList.map fun i => (es.map (·.1)).getD i 0 := by
  have sz := rows_size hr
  have one : ∀ i (h : i < L.length), es[i]? = some (thx P w L[i].2, Value.ref L[i].1) := fun i h => by
    rw [← Array.getElem?_toList, hr, srows, List.getElem?_map, List.getElem?_eq_getElem h]
    rfl
  have key : ∀ l : List Nat, (∀ i ∈ l, i < L.length) → ((l.filterMap fun i => es[i]?) = srows P w (l.filterMap fun i => L[i]?)) ∧ ((l.filterMap fun i => L[i]?).map fun p => thx P w p.2) = l.map fun i => (es.map (·.1)).getD i 0 := fun l => by
    induction l with
    | nil => exact fun _ => ⟨rfl, rfl⟩
    | cons i l ih =>
      intro hl
      have h := hl i (List.mem_cons_self ..)
      obtain ⟨a, b⟩ := ih fun j hj => hl j (List.mem_cons_of_mem _ hj)
      rw [List.filterMap_cons_some (one i h), List.filterMap_cons_some (List.getElem?_eq_getElem h), a]
      refine ⟨rfl, ?_⟩
      rw [List.map_cons, List.map_cons, b]
      congr 1
      simp [Array.getD_eq_getD_getElem?, Array.getElem?_map, one i h]
  obtain ⟨a, b⟩ := key order.toList fun i hi => List.mem_range.mp (hp.mem_iff.mp hi)
  refine ⟨_, by simpa using a, (hp.filterMap _).trans (List.Perm.of_eq ?_), b⟩
  have all : ∀ n, n ≤ L.length → (List.range n).filterMap (fun i => L[i]?) = L.take n := fun n => by
    induction n with
    | zero => intro _; rfl
    | succ n ih =>
      intro h
      rw [List.range_succ, List.filterMap_append, ih (by omega), List.filterMap_cons_some (List.getElem?_eq_getElem (show n < L.length by omega)), List.take_succ, List.getElem?_eq_getElem (show n < L.length by omega)]
      rfl
  rw [all _ (Nat.le_refl _), List.take_length]
theorem relaid {o : Obj} (ho : s.heap.get? a = some o) (hex : o.ExactSet) (hd : o.data = .set es ep t) (hr : es.toList = srows P w L) (hsz : t.place.size = es.size) (hdm : t.dummies = #[]) (hfl : es.size ≤ t.mask)
    (nd : (L.map (·.2)).Nodup) (tup : ∀ p ∈ L, TKy P w s.heap p.2 p.1) (ld : w.params.followText "set-order" = true ∨ t.led = true) {wanted M : Nat}
    (hw : SetTable.sizeAbove wanted - 1 = M) (hM : Msk M) (hw2 : SetTable.sizeAbove wanted ≤ 512) (hn : L.length * 5 < M * 3) {Q : Unit → Shared → Prop}
    (hQ : ∀ h' L' es' ep' t', Heap.SameBut a s.heap h' → SetS P w h' a L' es' ep' t' → L'.Perm L → Q () { s with heap := h' }) : wpAny (model P w) A (setRelay a wanted) Q E s := by
  have sz := rows_size hr
  have fit : t.fits es.size = true := by
    simp only [SetTable.fits, SetTable.fill, hdm, Bool.and_eq_true, beq_iff_eq, decide_eq_true_eq, List.size_toArray, List.length_nil]
    omega
  obtain ⟨t', order, e, hp, T, em, el, ep'⟩ := Tbl.anew t (hs := es.map (·.1)) (wanted := wanted) hw hM (by rw [Array.size_map, sz]; omega)
  rw [Array.size_map, sz] at hp
  obtain ⟨N, r1, r2, r3⟩ := in_order hr order hp
  rw [← r3] at T
  have s2 : (order.filterMap (es[·]?)).size = es.size := by rw [rows_size r1, sz, r2.length_eq]
  rw [setRelay_eq]
  refine wpAny_bind (wpAny_setState_of ho hd fit ?_)
  dsimp only
  refine wp_if_neg (by rw [sizeLine_eq]; omega) ?_
  try refine wpAny_bind (wpAny_pure ?_)
  rw [e]
  dsimp only
  refine wpAny_bind (wp_if_neg (by rw [s2]; simp) ?_)
  try refine wpAny_bind (wpAny_pure ?_)
  refine wpAny_pure ?_
  dsimp only
  refine wpAny_storeSet_of ho hd ?_ (by
    rw [s2, sz, sizeLine_eq]
    have := msk_le hM
    omega)
  have sb : Heap.SameBut a s.heap (s.heap.update a (Obj.putSet (order.filterMap (es[·]?)) t')) := Heap.SameBut.update ..
  exact hQ _ N _ (ep + 1) t' sb ⟨⟨_, store_at ho hd, ⟨hex.1, hex.2.1, hex.2.2⟩, rfl⟩, r1, T, (r2.map (·.2)).nodup_iff.mpr nd, fun p hm => tky_same (tup p (r2.mem_iff.mp hm)) ho hd sb, by rw [el]; exact ld, by rw [r2.length_eq, em]; exact hn⟩ r2
theorem size_5 : SetTable.sizeAbove (SetTable.grown 5) = 32 := by decide +kernel
theorem size_19 : SetTable.sizeAbove (SetTable.grown 19) = 128 := by decide +kernel
theorem size_77 : SetTable.sizeAbove (SetTable.grown 77) = 512 := by decide +kernel
/-- what is stored, and the table laid anew where it is too full -/
theorem stored {o : Obj} (ho : s.heap.get? a = some o) (hex : o.ExactSet) (hd : o.data = .set es ep t) {x : Addr} {k : List Str} (hm : k ∉ L.map (·.2)) (sz : es.size = L.length) {es1 : Array (Int × Value)} {t2 : SetTable} {L1 : List (Addr × List Str)}
    (r1 : es1.toList = srows P w L1) (pm : L1.Perm ((x, k) :: L)) (nd : (L.map (·.2)).Nodup) (tup : ∀ p ∈ L1, TKy P w s.heap p.2 p.1) (T : Tbl t2 (L1.map fun p => thx P w p.2)) (ld : w.params.followText "set-order" = true ∨ t2.led = true)
    (room : L.length * 5 < t2.mask * 3) (fill : t2.fill = L.length + 1) (few : L.length < 300) {Q : Bool → Shared → Prop}
    (hQ : ∀ h' L' es' ep' t', Heap.SameBut a s.heap h' → SetS P w h' a L' es' ep' t' → L'.Perm ((x, k) :: L) → Q true { s with heap := h' }) :
    wpAny (model P w) A (do
      storeSet a es1 t2
      if !false && t2.tooFull then setRelay a (SetTable.grown (es.size + 1))
      return true) Q E s := by
  have l1 : L1.length = L.length + 1 := pm.length_eq
  have z1 : es1.size = L.length + 1 := (rows_size r1).trans l1
  refine wpAny_bind (wpAny_storeSet_of ho hd ?_ (by rw [z1, sizeLine_eq]; omega))
  have sb : Heap.SameBut a s.heap (s.heap.update a (Obj.putSet es1 t2)) := Heap.SameBut.update ..
  have ho1 := store_at (es' := es1) (t' := t2) ho hd
  have tup1 : ∀ p ∈ L1, TKy P w (s.heap.update a (Obj.putSet es1 t2)) p.2 p.1 := fun p hp => tky_same (tup p hp) ho hd sb
  generalize s.heap.update a (Obj.putSet es1 t2) = h1 at *
  have nd1 : (L1.map (·.2)).Nodup := (pm.map (·.2)).nodup_iff.mpr (List.nodup_cons.mpr ⟨hm, nd⟩)
  have len := T.len
  rw [List.length_map] at len
  by_cases hf : t2.tooFull = true
  · have full : (L.length + 1) * 5 ≥ t2.mask * 3 := by
      have h := hf
      unfold SetTable.tooFull at h
      rw [decide_eq_true_eq, fill] at h
      exact h
    have go : ∀ M, SetTable.sizeAbove (SetTable.grown (L.length + 1)) - 1 = M → Msk M → SetTable.sizeAbove (SetTable.grown (L.length + 1)) ≤ 512 → (L.length + 1) * 5 < M * 3 →
        wpAny (model P w) A (setRelay a (SetTable.grown (es.size + 1))) (fun _ s' => wpAny (model P w) A (pure true) Q E s') E { s with heap := h1 } := fun M g1 g2 g3 g4 => by
      rw [sz]
      refine relaid (s := { s with heap := h1 }) ho1 ⟨hex.1, hex.2.1, hex.2.2⟩ rfl r1 (by omega) T.nod (by omega) nd1 tup1 ld g1 g2 g3 (by omega) fun h' L' es' ep' t' sb2 R2 pm2 => ?_
      exact wpAny_pure (hQ h' L' es' ep' t' (sb.trans sb2) R2 (pm2.trans pm))
    have fin : wpAny (model P w) A (setRelay a (SetTable.grown (es.size + 1))) (fun _ s' => wpAny (model P w) A (pure true) Q E s') E { s with heap := h1 } := by
      rcases T.msk with (e | e | e) | e
      · have : L.length = 4 := by omega
        exact go 31 (by rw [this, size_5]) (.inl (.inr (.inl rfl))) (by rw [this, size_5]; decide) (by omega)
      · have : L.length = 18 := by omega
        exact go 127 (by rw [this, size_19]) (.inl (.inr (.inr rfl))) (by rw [this, size_19]; decide) (by omega)
      · have : L.length = 76 := by omega
        exact go 511 (by rw [this, size_77]) (.inr rfl) (by rw [this, size_77]; decide) (by omega)
      · omega
    first
      | exact wpAny_bind (wp_if_pos (by simp [hf]) fin)
      | exact wp_if_pos (by simp [hf]) (wpAny_bind fin)
  · have few2 : L1.length * 5 < t2.mask * 3 := by
      have h := hf
      unfold SetTable.tooFull at h
      rw [decide_eq_true_eq, fill] at h
      omega
    have fin := hQ h1 L1 es1 (ep + 1) t2 sb ⟨⟨_, ho1, ⟨hex.1, hex.2.1, hex.2.2⟩, rfl⟩, r1, T, nd1, tup1, ld, few2⟩ pm
    first
      | exact wp_if_neg (by simp [hf]) (wpAny_pure fin)
      | exact wpAny_bind (wp_if_neg (by simp [hf]) (wpAny_pure (wpAny_pure fin)))
/-- one more -/
theorem SetS.add (R : SetS P w s.heap a L es ep t) {x : Addr} {k : List Str} (hx : TKy P w s.heap k x) (hu : A.units < cLine) (few : L.length < 300) {Q : Bool → Shared → Prop}
    (hQ : ∀ b h' L' es' ep' t', Heap.SameBut a s.heap h' → SetS P w h' a L' es' ep' t' → (k ∈ L.map (·.2) → L' = L) → (k ∉ L.map (·.2) → L'.Perm ((x, k) :: L)) → Q b { s with heap := h' }) :
    wpAny (model P w) A (setAddHashed a (.ref x) (thx P w k)) Q E s := by
  obtain ⟨o, ho, hex, hd⟩ := R.ob
  unfold setAddHashed
  refine wpAny_holding ?_
  rw [show (100000 : Nat) = 99999 + 1 from rfl, setAddHashedIn_succ]
  refine wpAny_bind (wpAny_setState_of ho hd R.fits ?_)
  dsimp only
  refine wp_if_neg (by simp [byScan, Value.scannable]) ?_
  try refine wpAny_bind (wpAny_pure ?_)
  refine wpAny_bind (R.seek hx hu (fun hm => ?_) fun K hm out full => ?_)
  · dsimp only
    exact wpAny_pure (hQ false s.heap L es ep t (Heap.SameBut.refl a s.heap) R (fun _ => rfl) fun z => absurd hm z)
  · dsimp only
    refine wpAny_bind (wpAny_setState_of ho hd R.fits ?_)
    dsimp only
    obtain ⟨ph, T, q2, q3, q4, q5, q6⟩ := R.tab.put out full rfl
    generalize t.put (way t.mask (thx P w k) K) = tp at *
    obtain ⟨t1, p⟩ := tp
    dsimp only at *
    subst q2
    generalize SetTable.below t.place (way t.mask (thx P w k) K) = p at *
    have r1 : (SetTable.insertAt es p (thx P w k, Value.ref x)).toList = srows P w (L.take p ++ (x, k) :: L.drop p) := by
      rw [SetTable.toList_insertAt, R.rows]
      unfold srows
      rw [List.map_append, List.map_cons, List.map_take, List.map_drop]
    have T : Tbl t1 ((L.take p ++ (x, k) :: L.drop p).map fun p => thx P w p.2) := by
      rw [List.map_append, List.map_cons, List.map_take, List.map_drop]
      exact T
    have pm := mid_perm L p (x, k)
    have tup1 : ∀ q ∈ L.take p ++ (x, k) :: L.drop p, TKy P w s.heap q.2 q.1 := fun q hq => by
      rcases List.mem_cons.mp (pm.mem_iff.mp hq) with rfl | hq
      · exact hx
      · exact R.tup q hq
    have rm := R.room
    rw [List.length_map] at q6
    have go : ∀ t2 : SetTable, Tbl t2 ((L.take p ++ (x, k) :: L.drop p).map fun p => thx P w p.2) → t2.led = t1.led → t2.mask = t1.mask → t2.fill = t1.fill → wpAny (model P w) A (do
        storeSet a (SetTable.insertAt es p (thx P w k, Value.ref x)) t2
        if !false && t2.tooFull then setRelay a (SetTable.grown (es.size + 1))
        return true) Q E s := fun t2 T2 e1 e2 e3 =>
      stored ho hex hd hm R.size r1 pm R.nd tup1 T2 (by rw [e1, q4]; exact R.led) (by rw [e2, q3]; exact rm) (e3.trans q6) few fun h' L' es' ep' t' sb R' pm' => hQ true h' L' es' ep' t' sb R' (fun z => absurd z hm) fun _ => pm'
    have both : ∀ z : Bool, wpAny (model P w) A (do
        storeSet a (SetTable.insertAt es p (thx P w k, Value.ref x)) (if z = true then t1 else { t1 with plain := false })
        if !false && (if z = true then t1 else { t1 with plain := false }).tooFull then setRelay a (SetTable.grown (es.size + 1))
        return true) Q E s := fun z => by
      cases z with
      | true => exact go t1 T rfl rfl rfl
      | false => exact go { t1 with plain := false } ⟨T.up, T.nod, T.len, T.msk, T.at_⟩ rfl rfl rfl
    by_cases pl : t1.plain = true
    · first
        | exact wpAny_bind (wp_if_pos pl (byv_tky hx fun z => both z))
        | exact wp_if_pos pl (wpAny_bind (byv_tky hx fun z => both z))
    · first
        | exact wpAny_bind (wp_if_neg pl (wpAny_pure (both true)))
        | exact wp_if_neg pl (both true)
        | exact wp_if_neg pl (wpAny_bind (wpAny_pure (both true)))
theorem SetS.keep {h h' : Heap} (R : SetS P w h a L es ep t) (ha : ∀ o, h.get? a = some o → h'.get? a = some o) (ht : ∀ p ∈ L, TKy P w h' p.2 p.1) : SetS P w h' a L es ep t := by
  obtain ⟨o, ho, r⟩ := R.ob
  exact ⟨⟨o, ha o ho, r⟩, R.rows, R.tab, R.nd, ht, R.led, R.room⟩
end
end Ev
set_option Elab.async false
set_option linter.all false
set_option autoImplicit false
set_option maxRecDepth 100000
set_option Elab.async false
set_option linter.all false
set_option autoImplicit false
set_option maxRecDepth 100000
set_option Elab.async false
set_option linter.all false
set_option autoImplicit false
set_option maxRecDepth 100000
namespace Ev
open PySem PySem.Spec PyProof.Rows L2
def dd {α : Type} [DecidableEq α] : List α → List α
  | [] => []
  | x :: r => x :: (dd r).filter fun y => decide (y ≠ x)
end Ev
set_option Elab.async false
set_option linter.all false
set_option autoImplicit false
set_option maxRecDepth 100000
namespace Ev
open PySem PySem.Spec PyProof.Rows L2
abbrev PI : Type := Addr × (Txt × Txt)
end Ev
set_option Elab.async false
set_option linter.all false
set_option autoImplicit false
set_option maxRecDepth 100000
set_option Elab.async false
set_option linter.all false
set_option autoImplicit false
set_option maxRecDepth 100000
set_option Elab.async false
set_option linter.all false
set_option autoImplicit false
set_option maxRecDepth 100000
namespace Ev
open PySem PySem.Spec PyProof.Rows L2
section
variable {X : Cx} {c : Kx} {W : WX} {k : Nat}
theorem Loose.grow {g : Gs} {σ : St} {H : Hp} {xs : List D} {a p : Addr} {o : HO} (L : Loose c g σ H xs a) (hp : H p = none) (x : Ext g.F g.m (upd g.F p o) g.m) : Loose c { g with F := upd g.F p o } σ (upd H p o) xs a := by
  obtain ⟨vs, h, r⟩ := L.ex
  have z : a ≠ p := fun z => by subst z; rw [hp] at h; cases h
  exact ⟨⟨vs, by rw [upd_ne z]; exact h, r.ext x⟩, by show upd g.F p o a = none; rw [upd_ne z]; exact L.f, L.gn, L.mn, L.s⟩
end
end Ev
set_option Elab.async false
set_option linter.all false
set_option autoImplicit false
set_option maxRecDepth 100000
namespace Ev
open PySem PySem.Spec PyProof.Rows L2
def mCallF (P : Prm) (f : Nat) (ds : List D) : M (List D) := fun ρ S => match P.call f ds S with
  | .okl xs S' => .ok xs ρ S'
  | .exc x S' => .exc x ρ S'
  | _ => .bad
def xCallF (P : Prm) (n np : Nat) (ms : M (List D)) : M (List D) := M.bind ms fun ds => if ds.length = np then mCallF P n ds else M.bad
def mCalkF (P : Prm) (f n m : Nat) (ms mk : M (List D)) (src : List (Sum Nat D)) : M (List D) := M.bind ms fun ds => M.bind mk fun es => if ds.length = n ∧ es.length = m then M.bind (M.of (srcOf (ds ++ es) src)) fun l => mCallF P f l else M.bad
section
variable {X : Cx} {c : Kx} {W : WX} {k nf np : Nat} {ps : List Str} {x : Str} {p pos : Pos} {e : Expr} {es : List Expr} {ms mk : M (List D)} {P : Prm}
theorem upd_less {G : Hp} {a b : Addr} {o : HO} (hn : G a = none) (h : upd G a o b = none) : G b = none := by
  by_cases z : b = a
  · subst z; exact hn
  · rw [upd_ne z] at h; exact h
theorem Loose.less {g : Gs} {σ : St} {H : Hp} {G : Hp} {a b : Addr} {o : HO} {ys : List D} (L : Loose c g σ H ys b) (hG : g.G = upd G a o) (hn : G a = none) : Loose c { g with G := G } σ H ys b ∧ b ≠ a := by
  have gb := L.gn
  rw [hG] at gb
  exact ⟨⟨L.ex, L.f, upd_less hn gb, L.mn, L.s⟩, fun z => by subst z; rw [upd_same] at gb; cases gb⟩
end
end Ev
set_option Elab.async false
set_option linter.all false
set_option autoImplicit false
set_option maxRecDepth 100000
set_option Elab.async false
set_option linter.all false
set_option autoImplicit false
set_option maxRecDepth 100000
namespace Ev
open PySem PySem.Spec PyProof.Rows L2
def xEqE (ma : M D) : M D := M.bind ma fun x => match x with | .lst xs => M.pure (.bl xs.isEmpty) | _ => M.bad
end Ev
set_option Elab.async false
set_option linter.all false
set_option autoImplicit false
set_option maxRecDepth 100000
namespace Ev
open PySem PySem.Spec PyProof.Rows L2
section
variable {X : Cx} {c : Kx} {W : WX} {k : Nat} {pos : Pos} {e : Expr} {es : List Expr} {m : M D} {f : List D → M Unit} {Z : St → St → Prop}
def gUnpT (n : Nat) (k : List D → M Unit) (d : D) : M Unit := M.bind (mList d) fun ds => if ds.length = n then k ds else M.bad
def fListT (m : M D) : M (List D) := M.bind m mList
end
end Ev
set_option Elab.async false
set_option linter.all false
set_option autoImplicit false
set_option maxRecDepth 100000
namespace Ev
open PySem PySem.Spec PyProof.Rows L2
def swB (a b : Txt) (i : Nat) : Bool := decide (i ≤ a.length) && b.isPrefixOf (a.drop i)
inductive Sm' where | sw | ix
/-- methods of texts, by values -/
def stp : Sm' → Txt → List D → Option D
  | .sw, a, [.str b] => some (.bl (swB a b 0))
  | .sw, a, [.str b, .int i] => if 0 ≤ i then some (.bl (swB a b i.toNat)) else none
  | .ix, [43, 45], [.str [43]] => some (.int 0)
  | .ix, [43, 45], [.str [45]] => some (.int 1)
  | _, _, _ => none
section
variable {X : Cx} {c : Kx} {W : WX} {k : Nat} {e o : Expr} {es : List Expr} {m : M D} {ms : M (List D)} {apos cpos : Pos}
def mSt (st : Sm') (m : M D) (ms : M (List D)) : M D := M.bind m fun x => match x with
  | .str a => M.bind ms fun ds => M.of (stp st a ds)
  | _ => M.bad
end
end Ev
set_option Elab.async false
set_option linter.all false
set_option autoImplicit false
set_option maxRecDepth 100000
namespace PySem.SeqAt
open AutoSeq1 (wpAny_loadPart')
open MeetsSeq
end PySem.SeqAt
namespace PySem.SeqAt
end PySem.SeqAt
set_option Elab.async false
set_option linter.all false
set_option autoImplicit false
set_option maxRecDepth 100000
set_option Elab.async false
set_option linter.all false
set_option autoImplicit false
set_option maxRecDepth 100000
namespace Ev
open PySem PySem.Spec PyProof.Rows L2
/-- in its place, or at the end -/
def dput (kvs : List (D × D)) (k d : D) : List (D × D) :=
  if (kvs.any fun p => D.eqb p.1 k) = true then kvs.map (fun p => if D.eqb p.1 k = true then (p.1, d) else p) else kvs ++ [(k, d)]
def dmerge (kvs more : List (D × D)) : List (D × D) := more.foldl (fun acc p => dput acc p.1 p.2) kvs
theorem keyOf_eqb {j k : D} {kj kk : L2.Key} (h1 : keyOf j = some kj) (h2 : keyOf k = some kk) : (D.eqb j k = true) ↔ kj = kk := by
  cases j <;> cases k <;> simp only [keyOf, Option.some.injEq] at h1 h2 <;> first | (cases h1; done) | (cases h2; done) | skip
  · subst h1 h2
    simp [D.eqb]
  · subst h1 h2
    simp [D.eqb]
  · subst h1 h2
    simp [D.eqb]
  · subst h1 h2
    simp only [D.eqb, beq_iff_eq, Sum.inr.injEq]
    exact ⟨fun h => by rw [h], toStr_inj⟩
section
variable {c : Kx} {F : Hp} {m : List Addr}
theorem RepKv.keys {kvs : List (D × D)} {kk : List (L2.Key × V)} (h : RepKv c F m kvs kk) : kk.length = kvs.length := by
  induction kvs generalizing kk with
  | nil => simp only [RepKv] at h; subst h; rfl
  | cons p r ih => obtain ⟨key, v, t, h1, rfl, h3, h4⟩ := h; simp [ih h4]
theorem RepKv.any {kvs : List (D × D)} {kk : List (L2.Key × V)} (h : RepKv c F m kvs kk) {k : D} {key : L2.Key} (hk : keyOf k = some key) : (kvs.any fun p => D.eqb p.1 k) = kk.any fun kv => decide (kv.1 = key) := by
  induction kvs generalizing kk with
  | nil => simp only [RepKv] at h; subst h; rfl
  | cons p r ih =>
    obtain ⟨key', v, t, h1, rfl, h3, h4⟩ := h
    rw [List.any_cons, List.any_cons, ih h4]
    congr 1
    have := keyOf_eqb h1 hk
    by_cases e : key' = key
    · rw [this.mpr e]; simp [e]
    · have : D.eqb p.1 k = false := by
        cases q : D.eqb p.1 k with
        | false => rfl
        | true => exact absurd (this.mp q) e
      rw [this]; simp [e]
theorem RepKv.get {kvs : List (D × D)} {kk : List (L2.Key × V)} (h : RepKv c F m kvs kk) {k : D} {key : L2.Key} (hk : keyOf k = some key) : match dget k kvs with
    | none => valV kk key = none
    | some d => ∃ v, valV kk key = some v ∧ Rep c F m d v := by
  induction kvs generalizing kk with
  | nil => simp only [RepKv] at h; subst h; exact rfl
  | cons p r ih =>
    obtain ⟨key', v, t, h1, rfl, h3, h4⟩ := h
    have q := keyOf_eqb h1 hk
    obtain ⟨pk, pd⟩ := p
    simp only [dget]
    by_cases e : key' = key
    · rw [if_pos (q.mpr e), valV_pos (p := (key', v)) e]
      exact ⟨v, rfl, h3⟩
    · rw [if_neg (fun z => e (q.mp z)), valV_neg (p := (key', v)) e]
      exact ih h4
theorem RepKv.app {kvs more : List (D × D)} {kk mm : List (L2.Key × V)} (h : RepKv c F m kvs kk) (h' : RepKv c F m more mm) : RepKv c F m (kvs ++ more) (kk ++ mm) := by
  induction kvs generalizing kk with
  | nil => simp only [RepKv] at h; subst h; exact h'
  | cons p r ih =>
    obtain ⟨key', v, t, h1, rfl, h3, h4⟩ := h
    exact ⟨key', v, t ++ mm, h1, rfl, h3, ih h4⟩
theorem RepKv.map {kvs : List (D × D)} {kk : List (L2.Key × V)} (h : RepKv c F m kvs kk) {k d : D} {key : L2.Key} {v : V} (hk : keyOf k = some key) (r : Rep c F m d v) :
    RepKv c F m (kvs.map fun p => if D.eqb p.1 k = true then (p.1, d) else p) (kk.map fun kv => if kv.1 = key then (kv.1, v) else kv) := by
  induction kvs generalizing kk with
  | nil => simp only [RepKv] at h; subst h; exact rfl
  | cons p rr ih =>
    obtain ⟨key', w, t, h1, rfl, h3, h4⟩ := h
    have q := keyOf_eqb h1 hk
    rw [List.map_cons, List.map_cons]
    obtain ⟨pk, pd⟩ := p
    by_cases e : key' = key
    · rw [if_pos (q.mpr e), if_pos (show (key', w).1 = key from e)]
      exact ⟨key', v, _, h1, rfl, r, ih h4⟩
    · rw [if_neg (fun z => e (q.mp z)), if_neg (show ¬ (key', w).1 = key from e)]
      exact ⟨key', w, _, h1, rfl, h3, ih h4⟩
theorem RepKv.put {kvs : List (D × D)} {kk : List (L2.Key × V)} (h : RepKv c F m kvs kk) {k d : D} {key : L2.Key} {v : V} (hk : keyOf k = some key) (r : Rep c F m d v) : RepKv c F m (dput kvs k d) (putK kk key v) := by
  unfold dput putK
  rw [h.any hk]
  by_cases e : (kk.any fun kv => decide (kv.1 = key)) = true
  · rw [if_pos e, if_pos e]; exact h.map hk r
  · rw [if_neg e, if_neg e]; exact h.app ⟨key, v, [], hk, rfl, r, rfl⟩
theorem RepKv.merge : ∀ {more kvs : List (D × D)} {mm kk : List (L2.Key × V)}, RepKv c F m kvs kk → RepKv c F m more mm → RepKv c F m (dmerge kvs more) (mergeK kk mm)
  | [], kvs, mm, kk, h, h' => by simp only [RepKv] at h'; subst h'; exact h
  | p :: r, kvs, mm, kk, h, h' => by
    obtain ⟨key', w, t, h1, rfl, h3, h4⟩ := h'
    show RepKv c F m (dmerge (dput kvs p.1 p.2) r) (mergeK (putK kk key' w) t)
    exact RepKv.merge (h.put h1 h3) h4
end
theorem mergeK_new : ∀ (kk acc : List (L2.Key × V)), (∀ p ∈ kk, valV acc p.1 = none) → (kk.map (·.1)).Nodup → mergeK acc kk = acc ++ kk
  | [], acc, _, _ => by rw [List.append_nil]; rfl
  | p :: r, acc, h, nd => by
    rw [List.map_cons, List.nodup_cons] at nd
    have e : mergeK acc (p :: r) = mergeK (putK acc p.1 p.2) r := rfl
    rw [e, putK_new _ (h p List.mem_cons_self), mergeK_new r _ (fun q hq => ?_) nd.2, List.append_assoc]
    · rfl
    · rw [valV_snoc _ _ _ _ (h p List.mem_cons_self), if_neg (fun z => nd.1 (by rw [← z]; exact List.mem_map_of_mem hq))]
      exact h q (List.mem_cons_of_mem _ hq)
theorem dget_mem {x : Txt} : ∀ {kvs : List (D × D)}, dget (.str x) kvs = none → ∀ p ∈ kvs, p.1 ≠ .str x
  | (j, v) :: r, h, p, hp => by
    simp only [dget] at h
    by_cases e : D.eqb j (.str x) = true
    · rw [if_pos e] at h; cases h
    · rw [if_neg e] at h
      rcases List.mem_cons.mp hp with rfl | hp
      · exact fun z => e (by rw [show j = .str x from z]; simp [D.eqb])
      · exact dget_mem h p hp
theorem keys_rep {c : Kx} {g : Gs} {H H' : Hp} (m : List Addr) : ∀ {kvs : List (D × D)} {ps : List (V × V)}, keysNd kvs = true → PNew H H' kvs ps →
    ∃ kk : List (L2.Key × V), ps = kk.map (fun kv => (kV kv.1, kv.2)) ∧ kk.length = kvs.length ∧ (kk.map (·.1)).Nodup ∧ (∀ p ∈ kk, ∃ q ∈ kvs, ∃ x, q.1 = .str x ∧ p.1 = .inr (toStr x)) ∧ RepKv c (fun a => if (H a).isNone then H' a else g.F a) m kvs kk
  | [], ps, _, h => by
    simp only [PNew] at h
    subst h
    exact ⟨[], rfl, rfl, List.nodup_nil, (fun p hp => nomatch hp), rfl⟩
  | (kd, d) :: r, ps, hn, h => by
    cases kd with
    | str z =>
      simp only [keysNd, Bool.and_eq_true] at hn
      obtain ⟨v, t, rfl, n1, n2⟩ := h
      obtain ⟨kk, e1, e2, e3, e4, e5⟩ := keys_rep (c := c) (g := g) m hn.2 n2
      have hd : dget (.str z) r = none := by simpa using hn.1
      refine ⟨(.inr (toStr z), v) :: kk, by rw [e1]; rfl, by simp [e2], ?_, fun p hp => ?_, .inr (toStr z), v, kk, rfl, rfl, n1.rep m, e5⟩
      · rw [List.map_cons, List.nodup_cons]
        refine ⟨fun hm => ?_, e3⟩
        obtain ⟨p, hp, e⟩ := List.mem_map.mp hm
        obtain ⟨q, hq, x, h1, h2⟩ := e4 p hp
        rw [h2] at e
        have := toStr_inj (Sum.inr.inj e)
        subst this
        exact dget_mem hd q hq h1
      · rcases List.mem_cons.mp hp with rfl | hp
        · exact ⟨_, List.mem_cons_self, z, rfl, rfl⟩
        · obtain ⟨q, hq, x, h1, h2⟩ := e4 p hp
          exact ⟨q, List.mem_cons_of_mem _ hq, x, h1, h2⟩
    | _ => simp [keysNd] at hn
theorem pnew_minus {H H2 : Hp} {p : Addr} : ∀ {kvs : List (D × D)} {ps : List (V × V)}, keysNd kvs = true → PNew (upd H p (.dK [])) H2 kvs ps → PNew H (fun a => if a = p then none else H2 a) kvs ps
  | [], _, _, h => h
  | (kk, d) :: r, ps, nd, ⟨v, t, e, n1, n2⟩ => by
    have nd' : keysNd r = true := by
      cases kk with
      | str z => simp only [keysNd, Bool.and_eq_true] at nd; exact nd.2
      | _ => simp [keysNd] at nd
    refine ⟨v, t, e, ?_, pnew_minus nd' n2⟩
    cases d with
    | tup ds =>
      obtain ⟨f, a, e, m1, m2⟩ := n1
      have na : a ≠ p := fun z => by subst z; rw [upd_same] at m1; cases m1
      exact ⟨f, a, e, by rw [upd_ne na] at m1; exact m1, by show (if a = p then none else H2 a) = _; rw [if_neg na]; exact m2⟩
    | _ => exact n1
/-- a new dict -/
def xMkD (kvs : List (D × D)) : M D := fun ρ S => .ok (.ref S.length) ρ (S ++ [.dct kvs])
section
variable {X : Cx} {c : Kx} {W : WX} {k : Nat} {pos p : Pos} {vals : List Expr} {keys : List (Option Expr)} {kvs : List (D × D)}
theorem k_mkd (pd : PD X pos keys vals kvs) (nd : keysNd kvs = true) (hall : keys.all (·.isSome) = true) (hl : keys.length = vals.length) (hk : decide (kvs.length = keys.length) = true) (h0 : keys ≠ []) (h15 : decide (keys.length ≤ 15) = true) :
    PE X (.Dict keys vals pos) (tM c W (xMkD kvs)) := by
  obtain ⟨trs, h1, h2⟩ := pd.ex
  refine PE.weak (pe_disp h1 hall hl h0 (of_decide_eq_true h15)) fun σ H Q ⟨g, R, q⟩ p hp => h2 _ _ _ fun ps H2 mo pn => ?_
  have np : H2 p = some (.dK []) := mo _ _ upd_same
  have mo1 : Mono H (fun a => if a = p then none else H2 a) := fun a o h => by
    show (if a = p then none else H2 a) = _
    have e : a ≠ p := ne_of_none h hp
    rw [if_neg e]
    exact mo _ _ (by rw [upd_ne e]; exact h)
  obtain ⟨R2, x2⟩ := R.growM mo1
  have pn2 := pnew_minus nd pn
  obtain ⟨kk, e1, e2, e3, e4, e5⟩ := keys_rep (c := c) (g := g) g.m nd pn2
  have hk := of_decide_eq_true hk
  have h15 := of_decide_eq_true h15
  refine ⟨np, kk, e1, by omega, ?_⟩
  have em : mergeK [] kk = kk := (mergeK_new kk [] (fun p _ => rfl) e3).trans rfl
  rw [em]
  obtain ⟨R3, x3⟩ := R2.newC (p := p) (x := .dct kvs) (o := .dK kk) (by show (if p = p then none else H2 p) = none; rw [if_pos rfl]) ⟨kk, rfl, e5⟩
  have eH : upd (fun a => if a = p then none else H2 a) p (.dK kk) = upd H2 p (.dK kk) := by
    funext b
    by_cases e : b = p
    · subst e; rw [upd_same, upd_same]
    · rw [upd_ne e, upd_ne e]; exact if_neg e
  rw [eH] at R3
  refine After.app q R3 (x2.trans x3) rfl rfl (.ref p) ?_
  simp only [Rep]
  exact ⟨p, by show (g.m ++ [p])[g.S.length]? = some p; rw [← R.b.ml]; simp, rfl⟩
end
/-- o is a dict that is kept -/
def mDct (o : D) : M Unit := fun ρ S => match o with
  | .ref n => (match S[n]? with | some (.dct _) => .ok () ρ S | _ => .bad)
  | _ => .bad
def mDctGet (o k d : D) : M D := fun ρ S => match o with
  | .ref n => (match S[n]? with | some (.dct kvs) => (match keyOf k with | some _ => .ok ((dget k kvs).getD d) ρ S | none => .bad) | _ => .bad)
  | _ => .bad
/-- o.get(k, d) -/
def xGetC (mo mk md : M D) : M D := M.bind mo fun o => M.bind (mDct o) fun _ => M.bind mk fun k => M.bind md fun d => mDctGet o k d
def mDctUpd (o e : D) : M D := fun ρ S => match o, e with
  | .ref n, .ref j => (match S[n]?, S[j]? with
    | some (.dct kvs), some (.dct more) => if n ≠ j ∧ kvs.length + more.length ≤ SZ then .ok .non ρ (S.set n (.dct (dmerge kvs more))) else .bad
    | _, _ => .bad)
  | _, _ => .bad
/-- o.update(e) -/
def xUpdC (mo me : M D) : M D := M.bind mo fun o => M.bind (mDct o) fun _ => M.bind me fun e => mDctUpd o e
section
variable {c : Kx} {g : Gs} {σ : St} {H : Hp}
theorem Rel.dctAt (R : Rel c g σ H) {n : Nat} {v : V} {kvs : List (D × D)} (r : Rep c g.F g.m (.ref n) v) (hS : g.S[n]? = some (.dct kvs)) : ∃ a kk, v = .ref a ∧ g.m[n]? = some a ∧ H a = some (.dK kk) ∧ RepKv c g.F g.m kvs kk := by
  simp only [Rep] at r
  obtain ⟨a, hm, rfl⟩ := r
  obtain ⟨_, _, kk, h1, h2⟩ := R.b.cl n _ a hS hm
  exact ⟨a, kk, rfl, hm, h1, h2⟩
theorem rep_key {F : Hp} {m : List Addr} {k : D} {key : L2.Key} {v : V} (h : keyOf k = some key) (r : Rep c F m k v) : v = kV key := by
  cases k <;> simp only [keyOf, Option.some.injEq] at h <;> first | (cases h; done) | skip
  · subst h; simpa [Rep, kV] using r
  · subst h; simpa [Rep, kV] using r
end
section
variable {X : Cx} {c : Kx} {W : WX} {k : Nat} {o e f : Expr} {mo mk md me : M D} {apos cpos : Pos}
theorem k_getc {ht : Bool} (B : Bg X c W k ht) (ho : PE X o (tM c W mo)) (hk : PE X e (tM c W mk)) (hf : PE X f (tM c W md)) (hm : M2 X o "get" apos e f cpos) : PE X (.Call (.Attribute o "get" apos) [e, f] [] cpos) (tM c W (xGetC mo mk md)) := by
  refine PE.weak (pe_dget2 (by have := B.hu; omega) ho hk hf hm) fun σ H Q ⟨g, R, h⟩ => ⟨g, R, (After.bind h).imp fun od g1 H1 x1 R1 h1 v r => ?_⟩
  cases od with
  | ref n =>
    have h1 := After.bind h1
    unfold mDct at h1
    cases hS : g1.S[n]? with
    | none => simp only [hS] at h1; exact h1.elim
    | some cell =>
      cases cell with
      | lst _ => simp only [hS] at h1; exact h1.elim
      | ins _ _ => simp only [hS] at h1; exact h1.elim
      | dct kvs =>
        simp only [hS] at h1
        obtain ⟨a, kk, rfl, hm1, hH, _⟩ := R1.dctAt r hS
        have h1 := After.app h1 R1 .refl rfl rfl
        refine ⟨a, rfl, .inl ⟨kk, .of hH⟩, g1, R1, (After.bind h1).imp fun kd g2 H2 x2 R2 h2 w rk => ⟨g2, R2, (After.bind h2).imp fun dd g3 H3 x3 R3 h3 u rd => ?_⟩⟩
        unfold mDctGet at h3
        cases hS3 : g3.S[n]? with
        | none => simp only [hS3] at h3; exact h3.elim
        | some cell =>
          cases cell with
          | lst _ => simp only [hS3] at h3; exact h3.elim
          | ins _ _ => simp only [hS3] at h3; exact h3.elim
          | dct kvs3 =>
            simp only [hS3] at h3
            cases hkey : keyOf kd with
            | none => simp only [hkey] at h3; exact h3.elim
            | some key =>
              simp only [hkey] at h3
              obtain ⟨a3, kk3, ea, hm3, hH3, rkv⟩ := R3.dctAt ((r.ext x2.e).ext x3.e) hS3
              cases ea
              have ew := rep_key hkey rk
              subst ew
              refine ⟨valV kk3 key, .inl ⟨kk3, key, .of hH3, rfl, rfl⟩, ?_⟩
              have q := rkv.get hkey
              cases e3 : dget kd kvs3 with
              | none => rw [e3] at q h3; rw [q]; exact After.app h3 R3 .refl rfl rfl u rd
              | some d => rw [e3] at q h3; obtain ⟨v3, q1, q2⟩ := q; rw [q1]; exact After.app h3 R3 .refl rfl rfl v3 q2
  | _ => exact (After.bind h1).elim
end
section
variable {X : Cx} {pins : List (Addr × Obj)} {σ : St} {H : Hp} {s : Shared} {a b : Addr} {kvs more : List (L2.Key × V)} {A : Around} {E : Value → Shared → Prop}
theorem d_upd {Q : Value → Shared → Prop} (I : Inv X pins σ H s) (e1 : H a = some (.dK kvs)) (e2 : H b = some (.dK more)) (hab : a ≠ b) (hl : kvs.length + more.length ≤ sizeLine) (h : ∀ s', Inv X pins σ (upd H a (.dK (mergeK kvs more))) s' → Q .none s') :
    wpAny (model X.prog X.w) A (call (.builtin "dict.update") [.ref a, .ref b]) Q E s := by
  obtain ⟨z, hd, vs, rel, dd⟩ := dk_of I.hok e1
  obtain ⟨z2, hd2, vs2, rel2, dd2⟩ := dk_of I.hok e2
  refine call_meetsIn PySem.F.slot_dict_update dd.typeIs PySem.F.entry_dict_update (PySem.F.args_dict_update_2 _ _) (meets_dict_update (mixKind X.prog X.w) a b hab hd2) ⟨vs, vs2, dd, dd2, by rw [← rel.length, ← rel2.length]; exact hl, fun h' d1 d2 sb => h _ ?_⟩
  have he : ∃ q, h'.get? a = some q := let ⟨q, _, _, hq, _⟩ := d1; ⟨q, hq⟩
  exact d_write (t' := s.toks) I (by rw [e1]; exact True.intro) sb he (dk_new (Nat.le_trans (length_mergeK more kvs) hl) hd (KV.merge rel2 rel) d1)
end
section
variable {X : Cx} {c : Kx} {W : WX} {k : Nat} {o e : Expr} {mo me : M D} {apos cpos : Pos}
theorem k_updc {ht : Bool} (B : Bg X c W k ht) (ho : PE X o (tM c W mo)) (he : PE X e (tM c W me)) (m : M1 X o "update" apos e cpos) : PE X (.Call (.Attribute o "update" apos) [e] [] cpos) (tM c W (xUpdC mo me)) := by
  refine ⟨fun pins s σ H Q I ⟨g, R, h⟩ => ?_⟩
  refine wpAny_Call_method m.base m.few m.line PySem.F.plainAttrs_dict PySem.F.slot_dict_update PySem.F.type_dict_update (thn (ho.run pins s σ H (fun v H1 => ∃ g1 n kvs, Rel c g1 σ H1 ∧ Rep c g1.F g1.m (.ref n) v ∧ g1.S[n]? = some (.dct kvs) ∧ After c W g1 σ ((M.bind me fun e => mDctUpd (.ref n) e) g1.ρ g1.S) fun d g' H' => ∀ v, Rep c g'.F g'.m d v → Q v H') I ⟨g, R, (After.bind h).imp fun od g1 H1 x1 R1 h1 v r => ?_⟩) fun u s1 ⟨x, H1, I1, rx, g1, n, kvs, R1, r1, hS, h1⟩ => ?_)
  · have h1 := After.bind h1
    unfold mDct at h1
    cases od with
    | ref n =>
      cases hS : g1.S[n]? with
      | none => simp only [hS] at h1; exact h1.elim
      | some cell =>
        cases cell with
        | lst _ => simp only [hS] at h1; exact h1.elim
        | ins _ _ => simp only [hS] at h1; exact h1.elim
        | dct kvs =>
          simp only [hS] at h1
          exact ⟨g1, n, kvs, R1, r, hS, After.app h1 R1 .refl rfl rfl⟩
    | _ => exact h1.elim
  · obtain ⟨a, kk, rfl, hm1, hH, _⟩ := R1.dctAt r1 hS
    obtain rfl : u = Value.ref a := rx
    obtain ⟨t1, t2, _⟩ := isD_at I1 (.inl ⟨kk, .of hH⟩)
    refine ⟨t1, t2, ?_⟩
    rw [m.trees]
    refine Calls.callWith_builtin rfl (Calls.evalArgs_plain (Calls.spliced_cons (thn (he.run pins s1 σ H1 (fun w H2 => ∃ g2 ed, Rel c g2 σ H2 ∧ Rep c g2.F g2.m ed w ∧ Rep c g2.F g2.m (.ref n) (.ref a) ∧ After c W g2 σ (mDctUpd (.ref n) ed g2.ρ g2.S) fun d g' H' => ∀ v, Rep c g'.F g'.m d v → Q v H') I1 ⟨g1, R1, (After.bind h1).imp fun ed g2 H2 x2 R2 h2 w rw' => ⟨g2, ed, R2, rw', r1.ext x2.e, h2⟩⟩) fun iv s2 ⟨w, H2, I2, ry, g2, ed, R2, r2, r3, h2⟩ => Calls.spliced_nil ?_)))
    unfold mDctUpd at h2
    cases ed with
    | ref j =>
      cases hS1 : g2.S[n]? with
      | none => simp only [hS1] at h2; exact h2.elim
      | some c1 =>
        cases hS2 : g2.S[j]? with
        | none => cases c1 <;> (simp only [hS1, hS2] at h2; exact h2.elim)
        | some c2 =>
          cases c1 with
          | lst _ => simp only [hS1, hS2] at h2; exact h2.elim
          | ins _ _ => simp only [hS1, hS2] at h2; exact h2.elim
          | dct kv1 =>
            cases c2 with
            | lst _ => simp only [hS1, hS2] at h2; exact h2.elim
            | ins _ _ => simp only [hS1, hS2] at h2; exact h2.elim
            | dct kv2 =>
              simp only [hS1, hS2] at h2
              obtain ⟨a1, k1, ea, hm2, hH1, rk1⟩ := R2.dctAt r3 hS1
              cases ea
              obtain ⟨b, k2, rfl, hmb, hH2, rk2⟩ := R2.dctAt r2 hS2
              obtain rfl : iv = Value.ref b := ry
              by_cases hc : n ≠ j ∧ kv1.length + kv2.length ≤ SZ
              · rw [if_pos hc] at h2
                have hab : a ≠ b := fun z => by
                  subst z
                  obtain ⟨l1, q1⟩ := List.getElem?_eq_some_iff.mp hm2
                  obtain ⟨l2, q2⟩ := List.getElem?_eq_some_iff.mp hmb
                  have pw := List.pairwise_iff_getElem.mp R2.b.md
                  rcases Nat.lt_or_gt_of_ne hc.1 with q | q
                  · exact pw n j l1 l2 q (q1.trans q2.symm)
                  · exact pw j n l2 l1 q (q2.trans q1.symm)
                refine d_upd I2 hH1 hH2 hab (by rw [rk1.keys, rk2.keys, sizeLine_eq]; exact hc.2) fun s3 I3 => ⟨.non, _, I3, rfl, ?_⟩
                have R3 := R2.putC (y := .dct (dmerge kv1 kv2)) (o := .dK (mergeK k1 k2)) hm2 hS1 ⟨_, rfl, rk1.merge rk2⟩
                exact After.app h2 R3 ⟨.refl, rfl⟩ rfl rfl .non (by simp [Rep])
              · rw [if_neg hc] at h2; exact h2.elim
    | _ => exact h2.elim
end
end Ev
set_option Elab.async false
set_option linter.all false
set_option autoImplicit false
set_option maxRecDepth 100000
namespace EvZ
open PySem PySem.Spec PyProof.Rows L2
/-- the text's signs, the items at b as they stand at each turn, in new pairs -/
def ItSL (K : PySem.W.Frag) (x : Str) (b : Addr) (n : Nat) : It :=
  ⟨fun i H => ∃ (ys : List V) (c : Nat) (y : V), SqL K H b ys ∧ ys.length = n ∧ x.cps[i]? = some c ∧ ys[i]? = some y,
    fun i H v H' => ∃ T c y, v = .ref T ∧ H T = none ∧ H' = upd H T (.tup [.str ⟨#[c]⟩, y]) ∧ x.cps[i]? = some c ∧ ∀ ys, SqL K H b ys → ys[i]? = some y,
    fun i H => ∃ ys : List V, SqL K H b ys ∧ ys.length = n ∧ (x.cps.size ≤ i ∨ n ≤ i)⟩
theorem turn_SL {P : Program} {w : World} {K : PySem.W.Frag} {elts : List Expr} {kk : Nat} {tpos : Pos} {x : Str} {t : Tok} {b z TI TO i1 i2 : Addr} {n : Nat} (S : ZipSep2 z TI TO i1 i2 [i1] [i2, b]) (hne : b ≠ i2) :
    Turn P w K (.Tuple elts kk tpos) (ItSL K x b n) [z, TI, TO, i1, i2] z (fun i h => IsZip h z TI TO .none ∧ IsTupOf2 h TI (.ref i1) (.ref i2) ∧ (∃ u v, IsTupOf2 h TO u v) ∧ h.IsStrIter i1 (strIterType x) x t i ∧ h.IsListIter i2 b i ∧ i ≤ x.cps.size ∧ i ≤ n) where
  mem := by simp
  obj := fun i h st c hc => by
    obtain ⟨hz, hTI, ⟨u, v, hTO⟩, ⟨o1, e1, _, d1⟩, ⟨o2, e2, _, d2⟩, _⟩ := st
    have e' : c = z ∨ c = TI ∨ c = TO ∨ c = i1 ∨ c = i2 := by simpa using hc
    rcases e' with q | q | q | q | q
    · rw [q]; exact ⟨_, hz, fun v q => nomatch q⟩
    · rw [q]; exact ⟨_, hTI, fun v q => nomatch q⟩
    · rw [q]; exact ⟨_, hTO, fun v q => nomatch q⟩
    · rw [q]; exact ⟨o1, e1, fun v q => by rw [d1] at q; cases q⟩
    · rw [q]; exact ⟨o2, e2, fun v q => by rw [d2] at q; cases q⟩
  keep := fun i h h' st k => by
    obtain ⟨hz, hTI, ⟨u, v, hTO⟩, ⟨o1, e1, r1⟩, h2, hb⟩ := st
    exact ⟨k z (by simp) _ hz, k TI (by simp) _ hTI, ⟨u, v, k TO (by simp) _ hTO⟩, ⟨o1, k i1 (by simp) o1 e1, r1⟩, h2.at fun o q => k i2 (by simp) o q, hb⟩
  item := by
    intro X hP hw hK hc i pins s σ H E I hf st hg
    subst hP hw hK
    obtain ⟨hz, hTI, ⟨u0, v0, hTO⟩, h1, h2, bd1, bd2⟩ := st
    obtain ⟨ys, cc, y, hqy, hn, hx, hy⟩ := hg
    obtain ⟨its, rv, p, _⟩ := I.list hqy
    obtain ⟨u2, hu2, ru2⟩ := rv.get hy
    have hh : X.A.in1.handled = none := I.ok.hd hc
    have hzl : z < s.heap.objs.size := Heap.lt_size hz
    have lx : i < x.cps.size := (Array.getElem?_eq_some_iff.mp hx).1
    have ly : i < its.toArray.size := by
      have := (List.getElem?_eq_some_iff.mp hu2).1
      simpa using this
    refine wpAny_pyNext_zipD2_item S (Draws.text hh i1 x t) (Draws.list hh i2 b hne its.toArray) hz hTI hTO h1 ⟨h2, p.isList⟩ lx ly fun x1 x2 h' tk y1 y2 z' TO' d1 d2 hT hsz hk => ?_
    obtain ⟨c1, u1, ec, rfl⟩ := y1
    rw [hx] at ec
    cases ec
    have e2 : x2 = u2 := by
      have y2 : its.toArray[i]? = some x2 := y2
      rw [show its.toArray[i]? = its[i]? by simp, hu2] at y2
      cases y2; rfl
    subst e2
    refine ⟨_, rfl, wpAny_letOwnedTupleGo_zip (s := { s with heap := h', toks := tk }) z' fun h'' z'' sb => ?_⟩
    have hT2 : h''.get? s.heap.objs.size = some { cls := .type "tuple", data := .seq #[.str ⟨#[cc]⟩ u1, x2] } := (sb.2 _ (Nat.ne_of_gt hzl)).trans hT
    have new : ObjOk X.prog X.w (upd H s.heap.objs.size (.tup [.str ⟨#[cc]⟩, y])) h'' s.heap.objs.size (.tup [.str ⟨#[cc]⟩, y]) :=
      ⟨by show 2 ≤ sizeLine; decide, [.str ⟨#[cc]⟩ u1, x2], .cons ⟨u1, rfl⟩ (.cons ru2 .nil), ⟨_, hT2, rfl, _, rfl⟩⟩
    have I1 : Inv X pins σ (upd H s.heap.objs.size (.tup [.str ⟨#[cc]⟩, y])) { s with heap := h'', toks := tk } :=
      I.turnedNew (t' := tk) (ch := [z, TI, TO, i1, i2]) (fun c o hb q => (sb.2 c (fun q' => hb (by simp [q']))).trans (hk c o (fun q' => hb (by simp [q'])) (fun q' => hb (by simp [q'])) (fun q' => hb (by simp [q'])) (fun q' => hb (by simp [q'])) q)) hf (Nat.le_refl _) new
    refine ⟨.ref s.heap.objs.size, _, I1, rfl, ⟨_, cc, y, rfl, I.hok.fresh (Nat.le_refl _), rfl, hx, fun l hl => by rw [I.list_inj hl hqy]; exact hy⟩, ⟨z'', ?_, ⟨.str ⟨#[cc]⟩ u1, x2, ?_⟩, ?_, ?_, lx, ?_⟩, fun c hcm => ?_⟩
    · exact (sb.2 _ S.TIz).trans (hk _ _ S.TIz S.TITO S.TIi1 S.TIi2 hTI)
    · exact (sb.2 _ S.TOz).trans TO'
    · obtain ⟨o1, q1, r1⟩ := d1
      exact ⟨o1, (sb.2 _ (Ne.symm S.zi1)).trans q1, r1⟩
    · exact d2.1.at fun o q => (sb.2 _ (Ne.symm S.zi2)).trans q
    · have := (List.getElem?_eq_some_iff.mp hy).1; omega
    · have hlt : c < s.heap.objs.size := by
        have e' : c = z ∨ c = TI ∨ c = TO ∨ c = i1 ∨ c = i2 := by simpa using hcm
        rcases e' with q | q | q | q | q
        · rw [q]; exact hzl
        · rw [q]; exact Heap.lt_size hTI
        · rw [q]; exact Heap.lt_size hTO
        · rw [q]; obtain ⟨_, e1, _⟩ := h1; exact Heap.lt_size e1
        · rw [q]; obtain ⟨_, e2, _⟩ := h2; exact Heap.lt_size e2
      rw [upd_ne (Nat.ne_of_lt hlt)]
      exact (hf c hcm).1
  done := by
    intro X hP hw hK hc i pins s σ H E I hf st hg
    subst hP hw hK
    obtain ⟨hz, hTI, ⟨u0, v0, hTO⟩, h1, h2, bd1, bd2⟩ := st
    obtain ⟨ys, hqy, hn, hend⟩ := hg
    obtain ⟨its, rv, p, _⟩ := I.list hqy
    have ln := rv.length
    have hh : X.A.in1.handled = none := I.ok.hd hc
    have sz : its.toArray.size = ys.length := by simp; omega
    exact wpAny_pyNext_zipD2_end S (Draws.text hh i1 x t) (Draws.list hh i2 b hne its.toArray) hz hTI hTO h1 ⟨h2, p.isList⟩ bd1 (by rw [sz, hn]; exact bd2) (by rw [sz, hn]; omega) fun h' tk hk => ⟨rfl, I.turnedL (t' := tk) (ch := [z, TI, TO, i1, i2]) (fun c o hb q =>
      hk c o (fun q' => hb (by simp [q'])) (fun q' => hb (by simp [q'])) (fun q' => hb (by simp [q'])) (fun q' => hb (by simp [q'])) q) hf⟩
  self := fun A i s Q E st h => wpAny_pyIter_zip st.1 h
/-- the text's signs, the items at b as they stand at each turn, in new pairs -/
def ItST (K : PySem.W.Frag) (x : Str) (b : Addr) (n : Nat) : It :=
  ⟨fun i H => ∃ (ys : List V) (c : Nat) (y : V), SqT K H b ys ∧ ys.length = n ∧ x.cps[i]? = some c ∧ ys[i]? = some y,
    fun i H v H' => ∃ T c y, v = .ref T ∧ H T = none ∧ H' = upd H T (.tup [.str ⟨#[c]⟩, y]) ∧ x.cps[i]? = some c ∧ ∀ ys, SqT K H b ys → ys[i]? = some y,
    fun i H => ∃ ys : List V, SqT K H b ys ∧ ys.length = n ∧ (x.cps.size ≤ i ∨ n ≤ i)⟩
theorem turn_ST {P : Program} {w : World} {K : PySem.W.Frag} {elts : List Expr} {kk : Nat} {tpos : Pos} {x : Str} {t : Tok} {b z TI TO i1 i2 : Addr} {n : Nat} (S : ZipSep2 z TI TO i1 i2 [i1] [i2, b]) (hne : b ≠ i2) :
    Turn P w K (.Tuple elts kk tpos) (ItST K x b n) [z, TI, TO, i1, i2] z (fun i h => IsZip h z TI TO .none ∧ IsTupOf2 h TI (.ref i1) (.ref i2) ∧ (∃ u v, IsTupOf2 h TO u v) ∧ h.IsStrIter i1 (strIterType x) x t i ∧ h.IsTupleIter i2 b i ∧ i ≤ x.cps.size ∧ i ≤ n) where
  mem := by simp
  obj := fun i h st c hc => by
    obtain ⟨hz, hTI, ⟨u, v, hTO⟩, ⟨o1, e1, _, d1⟩, ⟨o2, e2, _, d2⟩, _⟩ := st
    have e' : c = z ∨ c = TI ∨ c = TO ∨ c = i1 ∨ c = i2 := by simpa using hc
    rcases e' with q | q | q | q | q
    · rw [q]; exact ⟨_, hz, fun v q => nomatch q⟩
    · rw [q]; exact ⟨_, hTI, fun v q => nomatch q⟩
    · rw [q]; exact ⟨_, hTO, fun v q => nomatch q⟩
    · rw [q]; exact ⟨o1, e1, fun v q => by rw [d1] at q; cases q⟩
    · rw [q]; exact ⟨o2, e2, fun v q => by rw [d2] at q; cases q⟩
  keep := fun i h h' st k => by
    obtain ⟨hz, hTI, ⟨u, v, hTO⟩, ⟨o1, e1, r1⟩, h2, hb⟩ := st
    exact ⟨k z (by simp) _ hz, k TI (by simp) _ hTI, ⟨u, v, k TO (by simp) _ hTO⟩, ⟨o1, k i1 (by simp) o1 e1, r1⟩, h2.at fun o q => k i2 (by simp) o q, hb⟩
  item := by
    intro X hP hw hK hc i pins s σ H E I hf st hg
    subst hP hw hK
    obtain ⟨hz, hTI, ⟨u0, v0, hTO⟩, h1, h2, bd1, bd2⟩ := st
    obtain ⟨ys, cc, y, hqy, hn, hx, hy⟩ := hg
    obtain ⟨its, rv, p, _⟩ := I.tuple hqy
    obtain ⟨u2, hu2, ru2⟩ := rv.get hy
    have hh : X.A.in1.handled = none := I.ok.hd hc
    have hzl : z < s.heap.objs.size := Heap.lt_size hz
    have lx : i < x.cps.size := (Array.getElem?_eq_some_iff.mp hx).1
    have ly : i < its.toArray.size := by
      have := (List.getElem?_eq_some_iff.mp hu2).1
      simpa using this
    refine wpAny_pyNext_zipD2_item S (Draws.text hh i1 x t) (Draws.tuple hh i2 b hne its.toArray) hz hTI hTO h1 ⟨h2, p⟩ lx ly fun x1 x2 h' tk y1 y2 z' TO' d1 d2 hT hsz hk => ?_
    obtain ⟨c1, u1, ec, rfl⟩ := y1
    rw [hx] at ec
    cases ec
    have e2 : x2 = u2 := by
      have y2 : its.toArray[i]? = some x2 := y2
      rw [show its.toArray[i]? = its[i]? by simp, hu2] at y2
      cases y2; rfl
    subst e2
    refine ⟨_, rfl, wpAny_letOwnedTupleGo_zip (s := { s with heap := h', toks := tk }) z' fun h'' z'' sb => ?_⟩
    have hT2 : h''.get? s.heap.objs.size = some { cls := .type "tuple", data := .seq #[.str ⟨#[cc]⟩ u1, x2] } := (sb.2 _ (Nat.ne_of_gt hzl)).trans hT
    have new : ObjOk X.prog X.w (upd H s.heap.objs.size (.tup [.str ⟨#[cc]⟩, y])) h'' s.heap.objs.size (.tup [.str ⟨#[cc]⟩, y]) :=
      ⟨by show 2 ≤ sizeLine; decide, [.str ⟨#[cc]⟩ u1, x2], .cons ⟨u1, rfl⟩ (.cons ru2 .nil), ⟨_, hT2, rfl, _, rfl⟩⟩
    have I1 : Inv X pins σ (upd H s.heap.objs.size (.tup [.str ⟨#[cc]⟩, y])) { s with heap := h'', toks := tk } :=
      I.turnedNew (t' := tk) (ch := [z, TI, TO, i1, i2]) (fun c o hb q => (sb.2 c (fun q' => hb (by simp [q']))).trans (hk c o (fun q' => hb (by simp [q'])) (fun q' => hb (by simp [q'])) (fun q' => hb (by simp [q'])) (fun q' => hb (by simp [q'])) q)) hf (Nat.le_refl _) new
    refine ⟨.ref s.heap.objs.size, _, I1, rfl, ⟨_, cc, y, rfl, I.hok.fresh (Nat.le_refl _), rfl, hx, fun l hl => by rw [I.tuple_inj hl hqy]; exact hy⟩, ⟨z'', ?_, ⟨.str ⟨#[cc]⟩ u1, x2, ?_⟩, ?_, ?_, lx, ?_⟩, fun c hcm => ?_⟩
    · exact (sb.2 _ S.TIz).trans (hk _ _ S.TIz S.TITO S.TIi1 S.TIi2 hTI)
    · exact (sb.2 _ S.TOz).trans TO'
    · obtain ⟨o1, q1, r1⟩ := d1
      exact ⟨o1, (sb.2 _ (Ne.symm S.zi1)).trans q1, r1⟩
    · exact d2.1.at fun o q => (sb.2 _ (Ne.symm S.zi2)).trans q
    · have := (List.getElem?_eq_some_iff.mp hy).1; omega
    · have hlt : c < s.heap.objs.size := by
        have e' : c = z ∨ c = TI ∨ c = TO ∨ c = i1 ∨ c = i2 := by simpa using hcm
        rcases e' with q | q | q | q | q
        · rw [q]; exact hzl
        · rw [q]; exact Heap.lt_size hTI
        · rw [q]; exact Heap.lt_size hTO
        · rw [q]; obtain ⟨_, e1, _⟩ := h1; exact Heap.lt_size e1
        · rw [q]; obtain ⟨_, e2, _⟩ := h2; exact Heap.lt_size e2
      rw [upd_ne (Nat.ne_of_lt hlt)]
      exact (hf c hcm).1
  done := by
    intro X hP hw hK hc i pins s σ H E I hf st hg
    subst hP hw hK
    obtain ⟨hz, hTI, ⟨u0, v0, hTO⟩, h1, h2, bd1, bd2⟩ := st
    obtain ⟨ys, hqy, hn, hend⟩ := hg
    obtain ⟨its, rv, p, _⟩ := I.tuple hqy
    have ln := rv.length
    have hh : X.A.in1.handled = none := I.ok.hd hc
    have sz : its.toArray.size = ys.length := by simp; omega
    exact wpAny_pyNext_zipD2_end S (Draws.text hh i1 x t) (Draws.tuple hh i2 b hne its.toArray) hz hTI hTO h1 ⟨h2, p⟩ bd1 (by rw [sz, hn]; exact bd2) (by rw [sz, hn]; omega) fun h' tk hk => ⟨rfl, I.turnedL (t' := tk) (ch := [z, TI, TO, i1, i2]) (fun c o hb q =>
      hk c o (fun q' => hb (by simp [q'])) (fun q' => hb (by simp [q'])) (fun q' => hb (by simp [q'])) (fun q' => hb (by simp [q'])) q) hf⟩
  self := fun A i s Q E st h => wpAny_pyIter_zip st.1 h
theorem sep_new {n b : Addr} (h : b < n) : ZipSep2 (n + 4) (n + 2) (n + 3) n (n + 1) [n] [n + 1, b] := by
  have e1 : b ≠ n := Nat.ne_of_lt h
  have e2 : b ≠ n + 1 := Nat.ne_of_lt (Nat.lt_of_lt_of_le h (Nat.le_add_right _ _))
  have e3 : b ≠ n + 2 := Nat.ne_of_lt (Nat.lt_of_lt_of_le h (Nat.le_add_right _ _))
  have e4 : b ≠ n + 3 := Nat.ne_of_lt (Nat.lt_of_lt_of_le h (Nat.le_add_right _ _))
  have e5 : b ≠ n + 4 := Nat.ne_of_lt (Nat.lt_of_lt_of_le h (Nat.le_add_right _ _))
  have ad : ∀ i j : Nat, i ≠ j → (n + i : Nat) ≠ n + j := fun i j h z => h (Nat.add_left_cancel z)
  have a0 : ∀ i : Nat, i ≠ 0 → (n + i : Nat) ≠ n := fun i h z => h (by have : n + i = n + 0 := z; exact Nat.add_left_cancel this)
  refine ⟨ad 2 4 (by decide), ad 3 4 (by decide), ad 2 3 (by decide), a0 2 (by decide), by simp, ?_, ?_, ad 2 1 (by decide), by simp, ?_, ?_, ?_, ?_⟩
  · simpa using a0 4 (by decide)
  · simpa using a0 3 (by decide)
  · simp only [List.mem_cons, List.not_mem_nil, or_false, not_or]; exact ⟨ad 4 1 (by decide), Ne.symm e5⟩
  · simp only [List.mem_cons, List.not_mem_nil, or_false, not_or]; exact ⟨ad 3 1 (by decide), Ne.symm e4⟩
  · simp only [List.mem_cons, List.not_mem_nil, or_false, not_or]; exact ⟨Ne.symm (a0 1 (by decide)), Ne.symm e1⟩
  · simpa using a0 1 (by decide)
def iZipS (K : PySem.W.Frag) (ta : TA) : TI := fun σ H R => ta σ H fun vs H1 => ∃ x b ys, vs = [.str x, .ref b] ∧ ((SqL K H1 b ys ∧ R (ItSL K x b ys.length) H1) ∨ (SqT K H1 b ys ∧ R (ItST K x b ys.length) H1))
theorem pi_zipS {X : Cx} {e e2 : Expr} {ta : TA} {p pos tpos : Pos} {elts : List Expr} {kk : Nat} (hg : Gl X "zip") (hm : X.mg "zip" = none) (ha : PA X [e, e2] ta)
    (hs : starEach [e, e2] X.env = (false, eval e X.env) :: starEach [e2] X.env := by rfl) (hpl : (backTo pos (starEach [e2] X.env)).any (·.1) = false := by rfl) :
    PI X (.Tuple elts kk tpos) (.Call (.Name "zip" p) [e, e2] [] pos) (iZipS X.K ta) := by
  refine ⟨fun pins s σ H R I h => ?_⟩
  refine Call_ (ld_blt I hg hm PyProof.Rows.boot_zip (PyProof.Rows.callWith_type1 (thn (ha.run pos pins s σ H _ I h) fun us s1 ⟨vs, H1, I1, r1, q1⟩ => ?_) hs hpl))
  obtain ⟨x, b, ys, ex, q1⟩ := q1
  subst ex
  cases r1 with
  | cons r rr =>
    cases rr with
    | cons r' rr =>
      cases rr
      obtain ⟨t, rfl⟩ := r
      cases r'
      have fresh5 : ∀ c, c ∈ [s1.heap.objs.size + 4, s1.heap.objs.size + 2, s1.heap.objs.size + 3, s1.heap.objs.size, s1.heap.objs.size + 1] → FpOk X pins H1 c := fun c hcm => by
        have e' : c = s1.heap.objs.size + 4 ∨ c = s1.heap.objs.size + 2 ∨ c = s1.heap.objs.size + 3 ∨ c = s1.heap.objs.size ∨ c = s1.heap.objs.size + 1 := by simpa using hcm
        have hle : s1.heap.objs.size ≤ c := by
          rcases e' with z | z | z | z | z
          · rw [z]; exact Nat.le_add_right _ _
          · rw [z]; exact Nat.le_add_right _ _
          · rw [z]; exact Nat.le_add_right _ _
          · rw [z]; exact Nat.le_refl _
          · rw [z]; exact Nat.le_add_right _ _
        exact I1.fpOk hle (I1.hok.fresh hle)
      rcases q1 with ⟨hqy, q⟩ | ⟨hqy, q⟩
      · obtain ⟨its, rv, p1, _⟩ := I1.list hqy
        have lb : b < s1.heap.objs.size := p1.lt
        refine zip_begins2 (begins_text x t) (begins_list b its.toArray) trivial p1.isList fun h' hz hTI hTO g1 g2 hsz hk => wpAny_pyIter_zip hz ?_
        have I2 : Inv X pins σ H1 { s1 with heap := h' } := I1.kept (t' := s1.toks) hk
        exact ⟨s1.heap.objs.size + 4, [s1.heap.objs.size + 4, s1.heap.objs.size + 2, s1.heap.objs.size + 3, s1.heap.objs.size, s1.heap.objs.size + 1], _, _, H1, rfl, I2, turn_SL (x := x) (t := t) (sep_new lb) (Nat.ne_of_lt (Nat.lt_of_lt_of_le lb (Nat.le_add_right _ _))), ⟨hz, hTI, ⟨_, _, hTO⟩, ⟨_, g1, rfl, rfl⟩, ⟨_, g2, rfl, rfl⟩, Nat.zero_le _, Nat.zero_le _⟩, fresh5, q⟩
      · obtain ⟨its, rv, p1, _⟩ := I1.tuple hqy
        have lb : b < s1.heap.objs.size := by obtain ⟨o, e, _⟩ := id p1; exact Heap.lt_size e
        refine zip_begins2 (begins_text x t) (begins_tuple b its.toArray) trivial (show s1.heap.IsTuple b its.toArray from p1) fun h' hz hTI hTO g1 g2 hsz hk => wpAny_pyIter_zip hz ?_
        have I2 : Inv X pins σ H1 { s1 with heap := h' } := I1.kept (t' := s1.toks) hk
        exact ⟨s1.heap.objs.size + 4, [s1.heap.objs.size + 4, s1.heap.objs.size + 2, s1.heap.objs.size + 3, s1.heap.objs.size, s1.heap.objs.size + 1], _, _, H1, rfl, I2, turn_ST (x := x) (t := t) (sep_new lb) (Nat.ne_of_lt (Nat.lt_of_lt_of_le lb (Nat.le_add_right _ _))), ⟨hz, hTI, ⟨_, _, hTO⟩, ⟨_, g1, rfl, rfl⟩, ⟨_, g2, rfl, rfl⟩, Nat.zero_le _, Nat.zero_le _⟩, fresh5, q⟩
end EvZ
namespace Ev
open PySem PySem.Spec PyProof.Rows L2
def signsD (x : Txt) : List D := x.map fun c => .str [c]
theorem signs_at (x : Txt) (i : Nat) : (signsD x)[i]? = x[i]?.map fun c => .str [c] := by simp [signsD]
theorem itr_SL {X : Cx} {c : Kx} {g0 : Gs} {a2 : Addr} {x : Txt} {ws : List V} {es : List D} (hK : X.K = c.K) (h2 : g0.F a2 = some (.lst ws)) (r2 : RepL c g0.F g0.m es ws) : ItR c g0 (EvZ.ItSL X.K (toStr x) a2 ws.length) (zipD (signsD x) es) := by
  intro g σ H xx R
  have hb : SqL X.K H a2 ws := .of (R.b.fh _ _ (xx.f _ _ h2))
  have hl2 := repL_length r2
  have hls : (signsD x).length = x.length := by simp [signsD]
  have hcs : (toStr x).cps.size = x.length := by simp [toStr]
  refine ⟨fun i d e => ?_, fun i hi => ⟨ws, hb, rfl, by rw [zip_len, hls] at hi; rw [hcs, hl2]; omega⟩⟩
  rw [zip_at, signs_at] at e
  cases e1 : x[i]? with
  | none => rw [e1] at e; cases e
  | some d1 =>
    cases e2 : es[i]? with
    | none => rw [e1, e2] at e; cases e
    | some d2 =>
      rw [e1, e2] at e; cases e
      obtain ⟨w, p2, r3⟩ := repL_at r2 e2
      have ec : (toStr x).cps[i]? = some d1 := by simpa [toStr] using e1
      refine ⟨⟨ws, d1, w, hb, rfl, ec, p2⟩, fun y H' ⟨T, c', y', ey, hT, eH, q1, q2⟩ => ?_⟩
      have z2 := q2 ws hb
      rw [ec] at q1; rw [p2] at z2
      cases q1; cases z2
      subst ey eH
      exact R.tup c hT (RepL.two (by simp [Rep, toStr]) (r3.ext xx))
theorem itr_ST {X : Cx} {c : Kx} {g0 : Gs} {a2 : Addr} {x : Txt} {ws : List V} {es : List D} (hK : X.K = c.K) (h2 : SqT c.K g0.F a2 ws) (r2 : RepL c g0.F g0.m es ws) : ItR c g0 (EvZ.ItST X.K (toStr x) a2 ws.length) (zipD (signsD x) es) := by
  intro g σ H xx R
  have hb : SqT X.K H a2 ws := by rw [hK]; exact sqT_of R.b.fh (xx.sqT h2)
  have hl2 := repL_length r2
  have hls : (signsD x).length = x.length := by simp [signsD]
  have hcs : (toStr x).cps.size = x.length := by simp [toStr]
  refine ⟨fun i d e => ?_, fun i hi => ⟨ws, hb, rfl, by rw [zip_len, hls] at hi; rw [hcs, hl2]; omega⟩⟩
  rw [zip_at, signs_at] at e
  cases e1 : x[i]? with
  | none => rw [e1] at e; cases e
  | some d1 =>
    cases e2 : es[i]? with
    | none => rw [e1, e2] at e; cases e
    | some d2 =>
      rw [e1, e2] at e; cases e
      obtain ⟨w, p2, r3⟩ := repL_at r2 e2
      have ec : (toStr x).cps[i]? = some d1 := by simpa [toStr] using e1
      refine ⟨⟨ws, d1, w, hb, rfl, ec, p2⟩, fun y H' ⟨T, c', y', ey, hT, eH, q1, q2⟩ => ?_⟩
      have z2 := q2 ws hb
      rw [ec] at q1; rw [p2] at z2
      cases q1; cases z2
      subst ey eH
      exact R.tup c hT (RepL.two (by simp [Rep, toStr]) (r3.ext xx))
/-- a text and a list, a text and a tuple -/
def zipSOf (ds : List D) : M (List D) := match ds with
  | [.str x, .lst ys] => M.pure (zipD (signsD x) ys)
  | [.str x, .tup ys] => M.pure (zipD (signsD x) ys)
  | _ => M.bad
def mZipS (ms : M (List D)) : M (List D) := M.bind ms zipSOf
theorem oi_zipS {X : Cx} {c : Kx} {W : WX} {e e2 : Expr} {p pos tpos : Pos} {elts : List Expr} {kk : Nat} {ms : M (List D)} (hK : X.K = c.K) (hg : Gl X "zip") (hm : X.mg "zip" = none) (ha : PA X [e, e2] (tA c W ms))
    (hs : starEach [e, e2] X.env = (false, eval e X.env) :: starEach [e2] X.env) (hpl : (backTo pos (starEach [e2] X.env)).any (·.1) = false) :
    L2.PI X (.Tuple elts kk tpos) (.Call (.Name "zip" p) [e, e2] [] pos) (tI c W (mZipS ms)) := by
  refine Ev.PI.weak (EvZ.pi_zipS hg hm ha hs hpl) fun σ H Q ⟨g, R, h⟩ => ⟨g, R, (After.bind h).imp fun ds g1 H1 x1 R1 q vs rs => ?_⟩
  unfold zipSOf at q
  split at q
  · obtain ⟨v, w, rfl, r1, r2⟩ := repL_two rs
    simp only [Rep] at r1 r2
    subst r1
    obtain ⟨a2, ws, rfl, h2, r2⟩ := r2
    exact ⟨_, a2, ws, rfl, .inl ⟨.of (R1.b.fh _ _ h2), After.pure q R1 _ (itr_SL hK h2 r2)⟩⟩
  · obtain ⟨v, w, rfl, r1, r2⟩ := repL_two rs
    simp only [Rep] at r1 r2
    subst r1
    obtain ⟨a2, ws, rfl, h2, r2⟩ := r2
    exact ⟨_, a2, ws, rfl, .inr ⟨by rw [hK]; exact sqT_of R1.b.fh h2, After.pure q R1 _ (itr_ST hK h2 r2)⟩⟩
  · exact q.elim
end Ev
set_option Elab.async false
set_option linter.all false
set_option autoImplicit false
set_option maxRecDepth 100000
set_option maxHeartbeats 1000000
namespace EvZ
open PySem PySem.Spec PyProof.Rows L2
section
variable {prog : Program} {w : World} {A : Around} {E : Value → Shared → Prop} {s : Shared} {z TI TO i1 i2 : Addr} {fp1 fp2 : List Addr} {n1 n2 i : Nat} {P1 P2 : Nat → Value → Prop} {St1 St2 : Nat → Heap → Prop} {a1 a2 : Value}
theorem nextOrEnd_itemD {it : Addr} {fp : List Addr} {n i : Nat} {P : Nat → Value → Prop} {St : Nat → Heap → Prop} {Q : Option Value → Shared → Prop} (D : Draws prog w A it fp n P St) (hi : i < n) (st : St i s.heap)
    (hQ : ∀ x h' tk, P i x → St (i + 1) h' → Heap.SameBut it s.heap h' → Q (some x) { s with heap := h', toks := tk }) : wpAny (model prog w) A (Builtin.SmallTypes.nextOrEnd (.ref it)) Q E s := by
  unfold Builtin.SmallTypes.nextOrEnd
  exact wpAny_bind (wpAny_attempt (D.item i _ _ _ hi st fun x h' tk p st sb => wpAny_pure (hQ x h' tk p st sb)))
theorem nextOrEnd_endD {it : Addr} {fp : List Addr} {n : Nat} {P : Nat → Value → Prop} {St : Nat → Heap → Prop} {Q : Option Value → Shared → Prop} (D : Draws prog w A it fp n P St) (st : St n s.heap)
    (hQ : ∀ h', Heap.ExtBut it s.heap h' → Q none { s with heap := h' }) : wpAny (model prog w) A (Builtin.SmallTypes.nextOrEnd (.ref it)) Q E s := by
  unfold Builtin.SmallTypes.nextOrEnd
  refine wpAny_bind (wpAny_attempt (D.done _ _ _ st fun h' e hb he => ?_))
  obtain ⟨o, ho, hc⟩ := he
  exact wpAny_bind (wpAny_isInstance (T := "StopIteration") (b := true) ⟨o, ho, hc⟩ isSubtype_stop (wpAny_pure (hQ _ hb)))
theorem zv_next_item {Q : Value → Shared → Prop} (S : ZipSep2 z TI TO i1 i2 fp1 fp2) (D1 : Draws prog w A i1 fp1 n1 P1 St1) (D2 : Draws prog w A i2 fp2 n2 P2 St2)
    (hz : IsZs s.heap z TI TO .none) (hTI : IsTupOf2 s.heap TI (.ref i1) (.ref i2)) (hTO : IsTupOf2 s.heap TO a1 a2) (st1 : St1 i s.heap) (st2 : St2 i s.heap) (hlt1 : i < n1) (hlt2 : i < n2)
    (hQ : ∀ x1 x2 h' tk, P1 i x1 → P2 i x2 → IsZs h' z TI TO (rawInt s.heap.objs.size) → IsTupOf2 h' TO x1 x2 → St1 (i + 1) h' → St2 (i + 1) h' → IsTupOf2 h' s.heap.objs.size x1 x2 → h'.objs.size = s.heap.objs.size + 1 →
      (∀ c o, c ≠ z → c ≠ TO → c ≠ i1 → c ≠ i2 → s.heap.get? c = some o → h'.get? c = some o) → Q (.ref s.heap.objs.size) { s with heap := h', toks := tk }) :
    wpAny (model prog w) A (Builtin.«zip.__next__» ⟨[.ref z], []⟩) (fun fin s' => ∃ v, fin = .done (.ret v) ∧ Q v s') E s := by
  obtain ⟨hp, g, d, tk0, os⟩ := s
  show wpAny _ _ (field (.ref z) 2 >>= _) _ _ _
  refine wpAny_bind (wpAny_field hz rfl (x := .bool true) rfl ?_)
  show wpAny _ _ (field (.ref z) 3 >>= _) _ _ _
  refine wpAny_bind (wpAny_field hz rfl (x := .ref TI) rfl ?_)
  refine wpAny_bind (wpAny_seqItems hTI rfl ?_)
  show wpAny _ _ (Builtin.SmallTypes.ownedTupleIsFree (.ref z) >>= _) _ _ _
  refine wpAny_bind ?_
  unfold Builtin.SmallTypes.ownedTupleIsFree
  refine wpAny_bind (wpAny_field hz rfl (x := .none) rfl (wpAny_pure ?_))
  simp only [if_true]
  refine wpAny_bind (wpAny_rule ?_)
  refine wpAny_bind (wpAny_field hz rfl (x := .ref TO) rfl ?_)
  refine wpAny_bind (wpAny_setField_rec hz (by simp) fun g0 hz0 hs0 => ?_)
  replace hz0 : IsZs g0 z TI TO .ellipsis := hz0
  replace hs0 : Heap.SameBut z hp g0 := hs0
  refine wpAny_bind ?_
  simp only [List.zipIdx_cons, List.zipIdx_nil, List.forIn_cons, List.forIn_nil]
  refine wpAny_bind (wpAny_bind (wpAny_onRaise ?_))
  show wpAny _ _ (Builtin.SmallTypes.nextOrEnd (.ref i1)) _ _ ⟨g0, g, d, tk0, os⟩
  refine nextOrEnd_itemD D1 hlt1 (D1.over st1 hs0 S.zf1) fun x1 p1 tk1 hx1 sn1 hp1 => ?_
  replace hp1 : Heap.SameBut i1 g0 p1 := hp1
  have hU1 : IsTupOf2 p1 TO a1 a2 := hp1.extBut _ _ S.Ti1 (hs0.extBut _ _ S.TOz hTO)
  refine wpAny_bind (wpAny_seqItems (s := ⟨p1, g, d, tk1, os⟩) hU1 rfl ?_)
  refine wpAny_bind (updateSeq_IsTupOf2 (s := ⟨p1, g, d, tk1, os⟩) hU1 fun g1 hT1 hs1 => ?_)
  replace hT1 : IsTupOf2 g1 TO x1 a2 := hT1
  replace hs1 : Heap.SameBut TO p1 g1 := hs1
  refine wpAny_bind (wpAny_letGo (wpAny_pure ?_))
  refine wpAny_bind (wpAny_bind (wpAny_onRaise ?_))
  show wpAny _ _ (Builtin.SmallTypes.nextOrEnd (.ref i2)) _ _ ⟨g1, g, d, tk1, os⟩
  refine nextOrEnd_itemD D2 hlt2 (D2.over (D2.over (D2.over st2 hs0 S.zf2) hp1 S.sep1_2) hs1 S.Tf2) fun x2 p2 tk2 hx2 sn2 hp2 => ?_
  replace hp2 : Heap.SameBut i2 g1 p2 := hp2
  have hU2 : IsTupOf2 p2 TO x1 a2 := hp2.extBut _ _ S.Ti2 hT1
  refine wpAny_bind (wpAny_seqItems (s := ⟨p2, g, d, tk2, os⟩) hU2 rfl ?_)
  refine wpAny_bind (updateSeq_IsTupOf2 (s := ⟨p2, g, d, tk2, os⟩) hU2 fun g2 hT2 hs2 => ?_)
  replace hT2 : IsTupOf2 g2 TO x1 x2 := hT2
  replace hs2 : Heap.SameBut TO p2 g2 := hs2
  refine wpAny_bind (wpAny_letGo (wpAny_pure (wpAny_pure ?_)))
  refine wpAny_bind (wpAny_seqItems (s := ⟨g2, g, d, tk2, os⟩) hT2 rfl ?_)
  refine wpAny_bind (wpAny_newTuple ?_)
  have hsz : g2.objs.size = hp.objs.size := by rw [hs2.1, hp2.1, hs1.1, hp1.1, hs0.1]
  have hzz : IsZs g2 z TI TO .ellipsis := (hs2.extBut _ _ S.TOz.symm (hp2.extBut _ _ S.zi2 (hs1.extBut _ _ S.TOz.symm (hp1.extBut _ _ S.zi1 hz0))))
  have hkk : ∀ c o, c ≠ z → c ≠ TO → c ≠ i1 → c ≠ i2 → hp.get? c = some o → g2.get? c = some o := fun c o cz cT c1 c2 e =>
    (hs2.extBut _ _ cT (hp2.extBut _ _ c2 (hs1.extBut _ _ cT (hp1.extBut _ _ c1 (hs0.extBut _ _ cz e)))))
  have hj1 : St1 (i + 1) g2 := (D1.over (D1.over (D1.over sn1 hs1 S.Tf1) hp2 S.sep2_1) hs2 S.Tf1)
  have hj2 : St2 (i + 1) g2 := (D2.over sn2 hs2 S.Tf2)
  have hzlt : z < g2.objs.size := Heap.lt_size hzz
  show wpAny _ _ (Builtin.SmallTypes.ownedTupleHandOut (.ref z) (.ref g2.objs.size) >>= _) _ _ ⟨g2.push { cls := .type "tuple", data := .seq #[x1, x2] }, g, d, tk2, os⟩
  refine wpAny_bind ?_
  unfold Builtin.SmallTypes.ownedTupleHandOut
  have h6 : IsZs (g2.push { cls := .type "tuple", data := .seq #[x1, x2] }) z TI TO .ellipsis := Heap.get?_push_of_some _ hzz
  refine wpAny_bind (wpAny_setField_rec h6 (by simp) fun e7 z7 q7 => ?_)
  replace z7 : IsZs e7 z TI TO (rawInt g2.objs.size) := z7
  refine wpAny_setField_rec z7 (by simp) fun e8 z8 q8 => ?_
  replace z8 : IsZs e8 z TI TO (rawInt g2.objs.size) := z8
  replace q7 : Heap.SameBut z (g2.push { cls := .type "tuple", data := .seq #[x1, x2] }) e7 := q7
  replace q8 : Heap.SameBut z e7 e8 := q8
  have up : ∀ c o, c ≠ z → g2.get? c = some o → e8.get? c = some o := fun c o c1 e => q8.extBut _ _ c1 (q7.extBut _ _ c1 (Heap.get?_push_of_some _ e))
  have hT8 : IsTupOf2 e8 g2.objs.size x1 x2 := q8.extBut _ _ (Nat.ne_of_gt hzlt) (q7.extBut _ _ (Nat.ne_of_gt hzlt) (Heap.get?_push_size _ rfl))
  have hz8 : e8.objs.size = g2.objs.size + 1 := by rw [q8.1, q7.1, Heap.size_push]
  rw [hsz] at z8 hT8 hz8
  refine wpAny_pure ⟨_, rfl, ?_⟩
  show Q (.ref g2.objs.size) ⟨e8, g, d, tk2, os⟩
  rw [hsz]
  exact hQ x1 x2 e8 tk2 hx1 hx2 z8 (up _ _ S.TOz hT2) (D1.frame _ _ _ hj1 fun b hb o e => up b o (fun q => S.zf1 (q ▸ hb)) e) (D2.frame _ _ _ hj2 fun b hb o e => up b o (fun q => S.zf2 (q ▸ hb)) e) hT8 hz8 fun c o cz cT c1 c2 e => up c o cz (hkk c o cz cT c1 c2 e)
theorem zv_next_end {Q : Fin → Shared → Prop} (hh : A.handled = none) (S : ZipSep2 z TI TO i1 i2 fp1 fp2) (D1 : Draws prog w A i1 fp1 i P1 St1) (D2 : Draws prog w A i2 fp2 i P2 St2)
    (hz : IsZs s.heap z TI TO .none) (hTI : IsTupOf2 s.heap TI (.ref i1) (.ref i2)) (hTO : IsTupOf2 s.heap TO a1 a2) (st1 : St1 i s.heap) (st2 : St2 i s.heap)
    (hE : ∀ h' e, (∀ c o, c ≠ z → c ≠ TO → c ≠ i1 → c ≠ i2 → s.heap.get? c = some o → h'.get? c = some o) → (∃ o, h'.get? e = some o ∧ o.cls = .type "StopIteration") → E (.ref e) { s with heap := h' }) :
    wpAny (model prog w) A (Builtin.«zip.__next__» ⟨[.ref z], []⟩) Q E s := by
  show wpAny _ _ (field (.ref z) 2 >>= _) _ _ _
  refine wpAny_bind (wpAny_field hz rfl (x := .bool true) rfl ?_)
  show wpAny _ _ (field (.ref z) 3 >>= _) _ _ _
  refine wpAny_bind (wpAny_field hz rfl (x := .ref TI) rfl ?_)
  refine wpAny_bind (wpAny_seqItems hTI rfl ?_)
  show wpAny _ _ (Builtin.SmallTypes.ownedTupleIsFree (.ref z) >>= _) _ _ _
  refine wpAny_bind ?_
  unfold Builtin.SmallTypes.ownedTupleIsFree
  refine wpAny_bind (wpAny_field hz rfl (x := .none) rfl (wpAny_pure ?_))
  simp only [if_true]
  refine wpAny_bind (wpAny_rule ?_)
  refine wpAny_bind (wpAny_field hz rfl (x := .ref TO) rfl ?_)
  refine wpAny_bind (wpAny_setField_rec hz (by simp) fun e1 hz1 sb1 => ?_)
  replace hz1 : IsZs e1 z TI TO .ellipsis := hz1
  refine wpAny_bind ?_
  simp only [List.zipIdx_cons, List.zipIdx_nil, List.forIn_cons, List.forIn_nil]
  refine wpAny_bind (wpAny_bind (wpAny_onRaise ?_))
  show wpAny _ _ (Builtin.SmallTypes.nextOrEnd (.ref i1)) _ _ _
  refine nextOrEnd_endD D1 (D1.over st1 sb1 S.zf1) fun e2 sb2 => ?_
  have hz2 : IsZs e2 z TI TO .ellipsis := sb2 _ _ S.zi1 hz1
  refine wpAny_bind (wpAny_setField_rec hz2 (by simp) fun e3 hz3 sb3 => ?_)
  refine wpAny_bind ?_
  wp_delta
  simp only [Nat.lt_irrefl, gt_iff_lt, if_false, List.drop_succ_cons, List.drop_zero, List.zipIdx_cons, List.zipIdx_nil, List.forIn_cons, List.forIn_nil]
  have up3 : ∀ c o, c ≠ z → c ≠ TO → c ≠ i1 → c ≠ i2 → s.heap.get? c = some o → e3.get? c = some o := fun c o c1 c2 c3 c4 e => sb3.extBut _ _ c1 (sb2 _ _ c3 (sb1.extBut _ _ c1 e))
  have j2 : St2 i e3 := D2.frame _ _ _ st2 fun b hb o e => sb3.extBut _ _ (fun q => S.zf2 (q ▸ hb)) (sb2 _ _ (fun q => S.sep1_2 (q ▸ hb)) (sb1.extBut _ _ (fun q => S.zf2 (q ▸ hb)) e))
  refine wpAny_bind (wpAny_bind (wpAny_bind (nextOrEnd_endD D2 j2 fun e4 sb4 => ?_)))
  simp only [Option.isSome_none, Bool.false_eq_true, if_false]
  refine wpAny_pure (wpAny_pure ?_)
  refine wpAny_bind (wpAny_rule ?_)
  unfold Builtin.SmallTypes.stopIteration
  refine wpAny_bind ?_
  simp only [newExc, newTuple]
  refine wpAny_bind (wpAny_newObj_type ?_ (by size_fits))
  refine wpAny_bind (m := firstArgMember _ _) (wpAny_of_eq (a := Value.none) (by first | rfl | (simp only [firstArgMember]; rfl)) ?_)
  refine wpAny_newObj_type ?_ (by size_fits)
  simp only [raiseNew]
  refine wpAny_bind (wpAny_handled ?_)
  first | rw [show A.in1.handled = none from hh] | rw [hh]
  refine wpAny_bind (wpAny_pure (wpAny_throw ?_))
  refine hE _ _ (fun c o c1 c2 c3 c4 e => Heap.get?_push_of_some _ (Heap.get?_push_of_some _ (sb4 _ _ c4 (up3 c o c1 c2 c3 c4 e)))) ⟨_, Heap.get?_push_size _ rfl, rfl⟩
theorem pyNext_zv_item {Q : Option Value → Shared → Prop} (S : ZipSep2 z TI TO i1 i2 fp1 fp2) (D1 : Draws prog w A.in1 i1 fp1 n1 P1 St1) (D2 : Draws prog w A.in1 i2 fp2 n2 P2 St2)
    (hz : IsZs s.heap z TI TO .none) (hTI : IsTupOf2 s.heap TI (.ref i1) (.ref i2)) (hTO : IsTupOf2 s.heap TO a1 a2) (st1 : St1 i s.heap) (st2 : St2 i s.heap) (hlt1 : i < n1) (hlt2 : i < n2)
    (hQ : ∀ x1 x2 h' tk, P1 i x1 → P2 i x2 → IsZs h' z TI TO (rawInt s.heap.objs.size) → IsTupOf2 h' TO x1 x2 → St1 (i + 1) h' → St2 (i + 1) h' → IsTupOf2 h' s.heap.objs.size x1 x2 → h'.objs.size = s.heap.objs.size + 1 →
      (∀ c o, c ≠ z → c ≠ TO → c ≠ i1 → c ≠ i2 → s.heap.get? c = some o → h'.get? c = some o) → Q (some (.ref s.heap.objs.size)) { s with heap := h', toks := tk }) :
    wpAny (model prog w) A (pyNext (.ref z)) Q E s := by
  have hT : s.TypeIs (.ref z) "zip" := ⟨_, hz, rfl⟩
  unfold pyNext
  exact wpAny_bind (wpAny_attempt (wpAny_callSpecial?_slot (name := Str.ofString "__next__") hT PySem.F.slot_zip_next
    (wpAny_call_entry PySem.F.slot_zip_next hT PySem.F.entry_zip_next
      (zv_next_item S D1 D2 hz hTI hTO st1 st2 hlt1 hlt2 fun x1 x2 h' tk y1 y2 b1 b2 d1 d2 b5 b6 b7 => wpAny_pure (hQ x1 x2 h' tk y1 y2 b1 b2 d1 d2 b5 b6 b7)) (PySem.F.args_zip_next_1 _))))
theorem pyNext_zv_end {Q : Option Value → Shared → Prop} (hh : A.handled = none) (S : ZipSep2 z TI TO i1 i2 fp1 fp2) (D1 : Draws prog w A.in1 i1 fp1 i P1 St1) (D2 : Draws prog w A.in1 i2 fp2 i P2 St2)
    (hz : IsZs s.heap z TI TO .none) (hTI : IsTupOf2 s.heap TI (.ref i1) (.ref i2)) (hTO : IsTupOf2 s.heap TO a1 a2) (st1 : St1 i s.heap) (st2 : St2 i s.heap)
    (hQ : ∀ h', (∀ c o, c ≠ z → c ≠ TO → c ≠ i1 → c ≠ i2 → s.heap.get? c = some o → h'.get? c = some o) → Q none { s with heap := h' }) : wpAny (model prog w) A (pyNext (.ref z)) Q E s := by
  have hT : s.TypeIs (.ref z) "zip" := ⟨_, hz, rfl⟩
  unfold pyNext
  refine wpAny_bind (wpAny_attempt (wpAny_callSpecial?_slot (name := Str.ofString "__next__") hT PySem.F.slot_zip_next
    (wpAny_call_entry PySem.F.slot_zip_next hT PySem.F.entry_zip_next (zv_next_end hh S D1 D2 hz hTI hTO st1 st2 fun h' e kk he => ?_) (PySem.F.args_zip_next_1 _))))
  obtain ⟨ob, h3, h4⟩ := he
  exact wpAny_bind (wpAny_isInstance (T := "StopIteration") (b := true) ⟨ob, h3, h4⟩ isSubtype_stop (wpAny_pure (hQ _ kk)))
end
theorem pyNext_zv_end' {prog : Program} {w : World} {A : Around} {E : Value → Shared → Prop} {s : Shared} {z TI TO i1 i2 : Addr} {fp1 fp2 : List Addr} {n1 n2 i : Nat} {P1 P2 : Nat → Value → Prop} {St1 St2 : Nat → Heap → Prop} {a1 a2 : Value} {Q : Option Value → Shared → Prop} (hh : A.handled = none) (S : ZipSep2 z TI TO i1 i2 fp1 fp2) (D1 : Draws prog w A.in1 i1 fp1 n1 P1 St1) (D2 : Draws prog w A.in1 i2 fp2 n2 P2 St2) (e1 : i = n1) (e2 : i = n2)
    (hz : IsZs s.heap z TI TO .none) (hTI : IsTupOf2 s.heap TI (.ref i1) (.ref i2)) (hTO : IsTupOf2 s.heap TO a1 a2) (st1 : St1 i s.heap) (st2 : St2 i s.heap)
    (hQ : ∀ h', (∀ c o, c ≠ z → c ≠ TO → c ≠ i1 → c ≠ i2 → s.heap.get? c = some o → h'.get? c = some o) → Q none { s with heap := h' }) : wpAny (model prog w) A (pyNext (.ref z)) Q E s := by
  subst e1
  subst e2
  exact pyNext_zv_end hh S D1 D2 hz hTI hTO st1 st2 hQ
/-- the text's signs, the items at b as they stand at each turn, in new pairs -/
def ItSV (K : PySem.W.Frag) (x : Str) (b : Addr) (n : Nat) : It :=
  ⟨fun i H => ∃ (ys : List V) (c : Nat) (y : V), SqL K H b ys ∧ ys.length = n ∧ x.cps[i]? = some c ∧ ys[i]? = some y,
    fun i H v H' => ∃ T c y, v = .ref T ∧ H T = none ∧ H' = upd H T (.tup [.str ⟨#[c]⟩, y]) ∧ x.cps[i]? = some c ∧ ∀ ys, SqL K H b ys → ys[i]? = some y,
    fun i H => ∃ ys : List V, SqL K H b ys ∧ ys.length = n ∧ (x.cps.size = n ∧ n ≤ i)⟩
theorem turn_SV {P : Program} {w : World} {K : PySem.W.Frag} {elts : List Expr} {kk : Nat} {tpos : Pos} {x : Str} {t : Tok} {b z TI TO i1 i2 : Addr} {n : Nat} (S : ZipSep2 z TI TO i1 i2 [i1] [i2, b]) (hne : b ≠ i2) :
    Turn P w K (.Tuple elts kk tpos) (ItSV K x b n) [z, TI, TO, i1, i2] z (fun i h => IsZs h z TI TO .none ∧ IsTupOf2 h TI (.ref i1) (.ref i2) ∧ (∃ u v, IsTupOf2 h TO u v) ∧ h.IsStrIter i1 (strIterType x) x t i ∧ h.IsListIter i2 b i ∧ i ≤ x.cps.size ∧ i ≤ n) where
  mem := by simp
  obj := fun i h st c hc => by
    obtain ⟨hz, hTI, ⟨u, v, hTO⟩, ⟨o1, e1, _, d1⟩, ⟨o2, e2, _, d2⟩, _⟩ := st
    have e' : c = z ∨ c = TI ∨ c = TO ∨ c = i1 ∨ c = i2 := by simpa using hc
    rcases e' with q | q | q | q | q
    · rw [q]; exact ⟨_, hz, fun v q => nomatch q⟩
    · rw [q]; exact ⟨_, hTI, fun v q => nomatch q⟩
    · rw [q]; exact ⟨_, hTO, fun v q => nomatch q⟩
    · rw [q]; exact ⟨o1, e1, fun v q => by rw [d1] at q; cases q⟩
    · rw [q]; exact ⟨o2, e2, fun v q => by rw [d2] at q; cases q⟩
  keep := fun i h h' st k => by
    obtain ⟨hz, hTI, ⟨u, v, hTO⟩, ⟨o1, e1, r1⟩, h2, hb⟩ := st
    exact ⟨k z (by simp) _ hz, k TI (by simp) _ hTI, ⟨u, v, k TO (by simp) _ hTO⟩, ⟨o1, k i1 (by simp) o1 e1, r1⟩, h2.at fun o q => k i2 (by simp) o q, hb⟩
  item := by
    intro X hP hw hK hc i pins s σ H E I hf st hg
    subst hP hw hK
    obtain ⟨hz, hTI, ⟨u0, v0, hTO⟩, h1, h2, bd1, bd2⟩ := st
    obtain ⟨ys, cc, y, hqy, hn, hx, hy⟩ := hg
    obtain ⟨its, rv, p, _⟩ := I.list hqy
    obtain ⟨u2, hu2, ru2⟩ := rv.get hy
    have hh : X.A.in1.handled = none := I.ok.hd hc
    have hzl : z < s.heap.objs.size := Heap.lt_size hz
    have lx : i < x.cps.size := (Array.getElem?_eq_some_iff.mp hx).1
    have ly : i < its.toArray.size := by
      have := (List.getElem?_eq_some_iff.mp hu2).1
      simpa using this
    refine pyNext_zv_item S (Draws.text hh i1 x t) (Draws.list hh i2 b hne its.toArray) hz hTI hTO h1 ⟨h2, p.isList⟩ lx ly fun x1 x2 h' tk y1 y2 z' TO' d1 d2 hT hsz hk => ?_
    obtain ⟨c1, u1, ec, rfl⟩ := y1
    rw [hx] at ec
    cases ec
    have e2 : x2 = u2 := by
      have y2 : its.toArray[i]? = some x2 := y2
      rw [show its.toArray[i]? = its[i]? by simp, hu2] at y2
      cases y2; rfl
    subst e2
    refine ⟨_, rfl, go_zs (s := { s with heap := h', toks := tk }) z' fun h'' z'' sb => ?_⟩
    have hT2 : h''.get? s.heap.objs.size = some { cls := .type "tuple", data := .seq #[.str ⟨#[cc]⟩ u1, x2] } := (sb.2 _ (Nat.ne_of_gt hzl)).trans hT
    have new : ObjOk X.prog X.w (upd H s.heap.objs.size (.tup [.str ⟨#[cc]⟩, y])) h'' s.heap.objs.size (.tup [.str ⟨#[cc]⟩, y]) :=
      ⟨by show 2 ≤ sizeLine; decide, [.str ⟨#[cc]⟩ u1, x2], .cons ⟨u1, rfl⟩ (.cons ru2 .nil), ⟨_, hT2, rfl, _, rfl⟩⟩
    have I1 : Inv X pins σ (upd H s.heap.objs.size (.tup [.str ⟨#[cc]⟩, y])) { s with heap := h'', toks := tk } :=
      I.turnedNew (t' := tk) (ch := [z, TI, TO, i1, i2]) (fun c o hb q => (sb.2 c (fun q' => hb (by simp [q']))).trans (hk c o (fun q' => hb (by simp [q'])) (fun q' => hb (by simp [q'])) (fun q' => hb (by simp [q'])) (fun q' => hb (by simp [q'])) q)) hf (Nat.le_refl _) new
    refine ⟨.ref s.heap.objs.size, _, I1, rfl, ⟨_, cc, y, rfl, I.hok.fresh (Nat.le_refl _), rfl, hx, fun l hl => by rw [I.list_inj hl hqy]; exact hy⟩, ⟨z'', ?_, ⟨.str ⟨#[cc]⟩ u1, x2, ?_⟩, ?_, ?_, lx, ?_⟩, fun c hcm => ?_⟩
    · exact (sb.2 _ S.TIz).trans (hk _ _ S.TIz S.TITO S.TIi1 S.TIi2 hTI)
    · exact (sb.2 _ S.TOz).trans TO'
    · obtain ⟨o1, q1, r1⟩ := d1
      exact ⟨o1, (sb.2 _ (Ne.symm S.zi1)).trans q1, r1⟩
    · exact d2.1.at fun o q => (sb.2 _ (Ne.symm S.zi2)).trans q
    · have := (List.getElem?_eq_some_iff.mp hy).1; omega
    · have hlt : c < s.heap.objs.size := by
        have e' : c = z ∨ c = TI ∨ c = TO ∨ c = i1 ∨ c = i2 := by simpa using hcm
        rcases e' with q | q | q | q | q
        · rw [q]; exact hzl
        · rw [q]; exact Heap.lt_size hTI
        · rw [q]; exact Heap.lt_size hTO
        · rw [q]; obtain ⟨_, e1, _⟩ := h1; exact Heap.lt_size e1
        · rw [q]; obtain ⟨_, e2, _⟩ := h2; exact Heap.lt_size e2
      rw [upd_ne (Nat.ne_of_lt hlt)]
      exact (hf c hcm).1
  done := by
    intro X hP hw hK hc i pins s σ H E I hf st hg
    subst hP hw hK
    obtain ⟨hz, hTI, ⟨u0, v0, hTO⟩, h1, h2, bd1, bd2⟩ := st
    obtain ⟨ys, hqy, hn, hend⟩ := hg
    obtain ⟨its, rv, p, _⟩ := I.list hqy
    have ln := rv.length
    have hh : X.A.in1.handled = none := I.ok.hd hc
    have sz : its.toArray.size = ys.length := by simp; omega
    have ei : i = x.cps.size := by omega
    have ej : i = its.toArray.size := by omega
    exact pyNext_zv_end' (I.ok.hd hc) S (Draws.text hh i1 x t) (Draws.list hh i2 b hne its.toArray) ei ej hz hTI hTO h1 ⟨h2, p.isList⟩ fun h' hk => ⟨rfl, I.turnedL (t' := s.toks) (ch := [z, TI, TO, i1, i2]) (fun c o hb q =>
      hk c o (fun q' => hb (by simp [q'])) (fun q' => hb (by simp [q'])) (fun q' => hb (by simp [q'])) (fun q' => hb (by simp [q'])) q) hf⟩
  self := fun A i s Q E st h => iter_zs st.1 h
abbrev gvZ2 (h : Heap) (o1 o2 : Obj) : Heap := (gzO2 h o1 o2).push { cls := .type "zip", data := .fields #[.none, .bool false, .bool true, .ref ((h.push o1).push o2).objs.size, .ref (gzT2 h o1 o2).objs.size] }
theorem meets_zv {v1 v2 : Value} {o1 o2 : Obj} {H1 H2 : Heap → Prop} (B1 : Begins v1 o1 H1) (B2 : Begins v2 o2 H2) :
    Meets (Builtin.«zip.__new__» ⟨[.type "zip", v1, v2], [(Str.ofString "strict", .bool true)]⟩) (fun _ R s => (H1 s.heap ∧ H2 s.heap) ∧
      R (.ok (.ret (.ref (gzO2 s.heap o1 o2).objs.size))) { s with heap := gvZ2 s.heap o1 o2 }) :=
  .of_wp fun prog w A R s h => by
    obtain ⟨hp, g, d, tk, os⟩ := s; obtain ⟨⟨h1, h2⟩, h⟩ := h
    have hsub := sub_zip
    have n1 : (Str.ofString "strict" == ("strict" : Str)) = true := by decide +kernel
    have n2 : (Str.ofString "strict" != ("strict" : Str)) = false := by decide +kernel
    have q1 : ∀ {A' : Around} {E : Value → Shared → Prop} {Q : Value → Shared → Prop}, Q (.ref hp.objs.size) ⟨(hp.push o1), g, d, tk, os⟩ → wpAny (model prog w) A' (pyIter v1) Q E ⟨hp, g, d, tk, os⟩ :=
      fun q => B1.iter prog w _ _ ⟨hp, g, d, tk, os⟩ _ (B1.keeps _ _ h1 fun b o' e => e) q
    have q2 : ∀ {A' : Around} {E : Value → Shared → Prop} {Q : Value → Shared → Prop}, Q (.ref (hp.push o1).objs.size) ⟨((hp.push o1).push o2), g, d, tk, os⟩ → wpAny (model prog w) A' (pyIter v2) Q E ⟨(hp.push o1), g, d, tk, os⟩ :=
      fun q => B2.iter prog w _ _ ⟨(hp.push o1), g, d, tk, os⟩ _ (B2.keeps _ _ h2 fun b o' e => (Heap.get?_push_of_some _ e)) q
    wp_walk using q1, q2
    exact ⟨_, rfl, h⟩
section
variable {prog : Program} {w : World} {A : Around} {E : Value → Shared → Prop} {s : Shared}
theorem call_zv {v1 v2 : Value} {o1 o2 : Obj} {H1 H2 : Heap → Prop} {Q : Value → Shared → Prop} (B1 : Begins v1 o1 H1) (B2 : Begins v2 o2 H2) (h1 : H1 s.heap) (h2 : H2 s.heap)
    (h : ∀ h', IsZs h' (s.heap.objs.size + 4) (s.heap.objs.size + 2) (s.heap.objs.size + 3) .none → IsTupOf2 h' (s.heap.objs.size + 2) (.ref s.heap.objs.size) (.ref (s.heap.objs.size + 1)) →
      IsTupOf2 h' (s.heap.objs.size + 3) .none .none → h'.get? s.heap.objs.size = some o1 → h'.get? (s.heap.objs.size + 1) = some o2 →
      (∀ c o, s.heap.get? c = some o → h'.get? c = some o) → Q (.ref (s.heap.objs.size + 4)) { s with heap := h' }) :
    wpAny (model prog w) A (call (.type "zip") [v1, v2] [(Str.ofString "strict", .bool true)]) Q E s := by
  refine callType_newKw PySem.F.called_zip (by decide) (EvZ.F.typeCall_zs _ _ _) (EvZ.F.newCall_zs _ _ _) (fun obj => EvZ.F.args_init_zs obj _ _ _) PySem.F.entry_zip_new (meets_zv B1 B2) ⟨⟨h1, h2⟩, ?_⟩
  have z1 : (s.heap.push o1).objs.size = s.heap.objs.size + 1 := by rw [Heap.size_push]
  have z2 : ((s.heap.push o1).push o2).objs.size = s.heap.objs.size + 2 := by rw [Heap.size_push, z1]
  have zT : (gzT2 s.heap o1 o2).objs.size = s.heap.objs.size + 3 := by rw [Heap.size_push, z2]
  have zO : (gzO2 s.heap o1 o2).objs.size = s.heap.objs.size + 4 := by rw [Heap.size_push, zT]
  have gZ : (gvZ2 s.heap o1 o2).get? (gzO2 s.heap o1 o2).objs.size = some { cls := .type "zip", data := .fields #[.none, .bool false, .bool true, .ref ((s.heap.push o1).push o2).objs.size, .ref (gzT2 s.heap o1 o2).objs.size] } := Heap.get?_push_size _ rfl
  have gO : (gvZ2 s.heap o1 o2).get? (gzT2 s.heap o1 o2).objs.size = some { cls := .type "tuple", data := .seq #[.none, .none] } := Heap.get?_push_of_some _ (Heap.get?_push_size _ rfl)
  have gT : (gvZ2 s.heap o1 o2).get? ((s.heap.push o1).push o2).objs.size = some { cls := .type "tuple", data := .seq #[.ref s.heap.objs.size, .ref (s.heap.push o1).objs.size] } := Heap.get?_push_of_some _ (Heap.get?_push_of_some _ (Heap.get?_push_size _ rfl))
  have g1 : (gvZ2 s.heap o1 o2).get? s.heap.objs.size = some o1 := Heap.get?_push_of_some _ (Heap.get?_push_of_some _ (Heap.get?_push_of_some _ (Heap.get?_push_of_some _ (Heap.get?_push_size _ B1.free))))
  have g2 : (gvZ2 s.heap o1 o2).get? (s.heap.push o1).objs.size = some o2 := Heap.get?_push_of_some _ (Heap.get?_push_of_some _ (Heap.get?_push_of_some _ (Heap.get?_push_size _ B2.free)))
  rw [zO, zT, z2] at gZ
  rw [zT] at gO
  rw [z2, z1] at gT
  rw [z1] at g2
  show _ ∧ _
  rw [zO]
  exact ⟨⟨_, gZ, rfl⟩, h _ gZ gT gO g1 g2 fun c o e => Heap.get?_push_of_some _ (Heap.get?_push_of_some _ (Heap.get?_push_of_some _ (Heap.get?_push_of_some _ (Heap.get?_push_of_some _ e))))⟩
end
def iZv (K : PySem.W.Frag) (ta : TA) : TI := fun σ H R => ta σ H fun vs H1 => ∃ x b ys, vs = [.str x, .ref b] ∧ SqL K H1 b ys ∧ R (ItSV K x b ys.length) H1
theorem pi_zv {X : Cx} {e e2 : Expr} {ta : TA} {p pos tpos k1 k2 : Pos} {j : Nat} {elts : List Expr} {kk : Nat} (hg : Gl X "zip") (hm : X.mg "zip" = none) (ha : PA X [e, e2] ta)
    (hs : backTo pos (starEach [e, e2] X.env) = (false, eval e X.env) :: backTo pos (starEach [e2] X.env)) (hpl : (backTo pos (starEach [e, e2] X.env)).any (·.1) = false) :
    L2.PI X (.Tuple elts kk tpos) (.Call (.Name "zip" p) [e, e2] [⟨some "strict", .Constant (.bool true) j k1, k2⟩] pos) (iZv X.K ta) := by
  refine ⟨fun pins s σ H R I h => ?_⟩
  refine wpAny_Call_Name_kw (ld_blt I hg hm PyProof.Rows.boot_zip ?_)
  refine callWith_ty_kw hpl rfl ?_
  have hA := ha.run pos pins s σ H _ I h
  rw [hs] at hA ⊢
  refine evalArgs_kwB rfl (thn hA fun us s1 ⟨vs, H1, I1, r1, q1⟩ => ?_)
  refine kws_cons (Constant_bool (kws_nil ?_))
  obtain ⟨x, b, ys, ex, hqy, q⟩ := q1
  subst ex
  cases r1 with
  | cons r rr =>
    cases rr with
    | cons r' rr =>
      cases rr
      obtain ⟨t, rfl⟩ := r
      cases r'
      have fresh5 : ∀ c, c ∈ [s1.heap.objs.size + 4, s1.heap.objs.size + 2, s1.heap.objs.size + 3, s1.heap.objs.size, s1.heap.objs.size + 1] → FpOk X pins H1 c := fun c hcm => by
        have e' : c = s1.heap.objs.size + 4 ∨ c = s1.heap.objs.size + 2 ∨ c = s1.heap.objs.size + 3 ∨ c = s1.heap.objs.size ∨ c = s1.heap.objs.size + 1 := by simpa using hcm
        have hle : s1.heap.objs.size ≤ c := by
          rcases e' with z | z | z | z | z
          · rw [z]; exact Nat.le_add_right _ _
          · rw [z]; exact Nat.le_add_right _ _
          · rw [z]; exact Nat.le_add_right _ _
          · rw [z]; exact Nat.le_refl _
          · rw [z]; exact Nat.le_add_right _ _
        exact I1.fpOk hle (I1.hok.fresh hle)
      obtain ⟨its, rv, p1, _⟩ := I1.list hqy
      have lb : b < s1.heap.objs.size := p1.lt
      refine call_zv (begins_text x t) (begins_list b its.toArray) trivial p1.isList fun h' hz hTI hTO g1 g2 hk => iter_zs hz ?_
      have I2 : Inv X pins σ H1 { s1 with heap := h' } := I1.kept (t' := s1.toks) hk
      exact ⟨s1.heap.objs.size + 4, [s1.heap.objs.size + 4, s1.heap.objs.size + 2, s1.heap.objs.size + 3, s1.heap.objs.size, s1.heap.objs.size + 1], _, _, H1, rfl, I2, turn_SV (x := x) (t := t) (sep_new lb) (Nat.ne_of_lt (Nat.lt_of_lt_of_le lb (Nat.le_add_right _ _))), ⟨hz, hTI, ⟨_, _, hTO⟩, ⟨_, g1, rfl, rfl⟩, ⟨_, g2, rfl, rfl⟩, Nat.zero_le _, Nat.zero_le _⟩, fresh5, q⟩
end EvZ
namespace Ev
open PySem PySem.Spec PyProof.Rows L2
theorem itr_SV {X : Cx} {c : Kx} {g0 : Gs} {a2 : Addr} {x : Txt} {ws : List V} {es : List D} (hK : X.K = c.K) (h2 : g0.F a2 = some (.lst ws)) (hl : x.length = es.length) (r2 : RepL c g0.F g0.m es ws) : ItR c g0 (EvZ.ItSV X.K (toStr x) a2 ws.length) (zipD (signsD x) es) := by
  intro g σ H xx R
  have hb : SqL X.K H a2 ws := .of (R.b.fh _ _ (xx.f _ _ h2))
  have hl2 := repL_length r2
  have hls : (signsD x).length = x.length := by simp [signsD]
  have hcs : (toStr x).cps.size = x.length := by simp [toStr]
  refine ⟨fun i d e => ?_, fun i hi => ⟨ws, hb, rfl, by rw [hcs, hl2]; exact hl, by rw [zip_len, hls] at hi; rw [hl2]; omega⟩⟩
  rw [zip_at, signs_at] at e
  cases e1 : x[i]? with
  | none => rw [e1] at e; cases e
  | some d1 =>
    cases e2 : es[i]? with
    | none => rw [e1, e2] at e; cases e
    | some d2 =>
      rw [e1, e2] at e; cases e
      obtain ⟨w, p2, r3⟩ := repL_at r2 e2
      have ec : (toStr x).cps[i]? = some d1 := by simpa [toStr] using e1
      refine ⟨⟨ws, d1, w, hb, rfl, ec, p2⟩, fun y H' ⟨T, c', y', ey, hT, eH, q1, q2⟩ => ?_⟩
      have z2 := q2 ws hb
      rw [ec] at q1; rw [p2] at z2
      cases q1; cases z2
      subst ey eH
      exact R.tup c hT (RepL.two (by simp [Rep, toStr]) (r3.ext xx))
/-- a text and a list of one length -/
def zvOf (ds : List D) : M (List D) := match ds with
  | [.str x, .lst ys] => if x.length = ys.length then M.pure (zipD (signsD x) ys) else M.bad
  | _ => M.bad
def mZv (ms : M (List D)) : M (List D) := M.bind ms zvOf
theorem oi_zv {X : Cx} {c : Kx} {W : WX} {e e2 : Expr} {p pos tpos k1 k2 : Pos} {j : Nat} {elts : List Expr} {kk : Nat} {ms : M (List D)} (hK : X.K = c.K) (hg : Gl X "zip") (hm : X.mg "zip" = none) (ha : PA X [e, e2] (tA c W ms))
    (hs : backTo pos (starEach [e, e2] X.env) = (false, eval e X.env) :: backTo pos (starEach [e2] X.env)) (hpl : (backTo pos (starEach [e, e2] X.env)).any (·.1) = false) :
    L2.PI X (.Tuple elts kk tpos) (.Call (.Name "zip" p) [e, e2] [⟨some "strict", .Constant (.bool true) j k1, k2⟩] pos) (tI c W (mZv ms)) := by
  refine Ev.PI.weak (EvZ.pi_zv hg hm ha hs hpl) fun σ H Q ⟨g, R, h⟩ => ⟨g, R, (After.bind h).imp fun ds g1 H1 x1 R1 q vs rs => ?_⟩
  unfold zvOf at q
  split at q
  · rename_i x ys
    obtain ⟨v, w, rfl, r1, r2⟩ := repL_two rs
    simp only [Rep] at r1 r2
    subst r1
    obtain ⟨a2, ws, rfl, h2, r2⟩ := r2
    by_cases z : x.length = ys.length
    · rw [if_pos z] at q
      exact ⟨_, a2, ws, rfl, .of (R1.b.fh _ _ h2), After.pure q R1 _ (itr_SV hK h2 z r2)⟩
    · rw [if_neg z] at q; exact q.elim
  · exact q.elim
end Ev
set_option Elab.async false
set_option linter.all false
set_option autoImplicit false
set_option maxRecDepth 100000
namespace Ev
open PySem PySem.Spec PyProof.Rows L2
def flatC : Cell → Bool
  | .lst xs => xs.all D.flat
  | .dct kvs => kvs.all fun p => D.flat p.2
  | .ins _ _ => false
section
variable {c : Kx} {F F' : Hp} {m m' : List Addr}
theorem rep_flatF {d : D} {v : V} (h : Rep c F m d v) (f : D.flat d = true) : Rep c F' m' d v := by
  cases d <;> first | (simp [D.flat] at f; done) | simpa [Rep] using h
theorem repL_flatF : ∀ {ds : List D} {vs : List V}, RepL c F m ds vs → ds.all D.flat = true → RepL c F' m' ds vs
  | [], _, h, _ => by simpa [RepL] using h
  | d :: ds, vs, h, f => by
    rw [List.all_cons, Bool.and_eq_true] at f
    simp only [RepL] at h ⊢
    obtain ⟨v, r, e, h1, h2⟩ := h
    exact ⟨v, r, e, rep_flatF h1 f.1, repL_flatF h2 f.2⟩
theorem repKv_flatF : ∀ {kvs : List (D × D)} {kk : List (L2.Key × V)}, RepKv c F m kvs kk → (kvs.all fun p => D.flat p.2) = true → RepKv c F' m' kvs kk
  | [], _, h, _ => h
  | p :: r, kk, ⟨key, v, t, h1, h2, h3, h4⟩, f => by
    rw [List.all_cons, Bool.and_eq_true] at f
    exact ⟨key, v, t, h1, h2, rep_flatF h3 f.1, repKv_flatF h4 f.2⟩
theorem cell_flatF {x : Cell} {o : Option HO} (h : CellR c F m x o) (f : flatC x = true) : CellR c F' m' x o := by
  cases x with
  | lst xs => obtain ⟨vs, h1, h2⟩ := h; exact ⟨vs, h1, repL_flatF h2 f⟩
  | dct kvs => obtain ⟨kk, h1, h2⟩ := h; exact ⟨kk, h1, repKv_flatF h2 f⟩
  | ins _ _ => cases f
end
section
variable {c : Kx} {g : Gs} {σ : St} {H : Hp}
/-- what a callee may see while the own list at a is lent -/
noncomputable def lendG (g : Gs) (σ : St) (H : Hp) (a : Addr) : Hp := fun b => if b = a then none else protect g σ H b
theorem Rel.lend (R : Rel c g σ H) {j : Nat} {xs : List D} {a : Addr} {vs : List V} (h1 : H a = some (.lst vs)) (h2 : g.F a = none) (h4 : a ∉ g.m) :
    RelB c (lendG g σ H a) (upd g.F a (.lst vs)) g.m g.S H ∧ Ext g.F g.m (upd g.F a (.lst vs)) g.m := by
  have B := R.toCall
  have ex : Ext g.F g.m (upd g.F a (.lst vs)) g.m := ⟨fun b o h => by rw [upd_ne (fun z => by subst z; rw [h2] at h; cases h)]; exact h, [], by simp⟩
  refine ⟨⟨fun b o h => ?_, fun b o h => ?_, fun b o h => ?_, B.ml, B.md, fun n x b q1 q2 => ?_⟩, ex⟩
  · by_cases z : b = a
    · subst z; rw [upd_same] at h; cases h; exact h1
    · rw [upd_ne z] at h; exact B.fh _ _ h
  · unfold lendG at h
    by_cases z : b = a
    · rw [if_pos z] at h; cases h
    · rw [if_neg z] at h; exact B.gh _ _ h
  · unfold lendG
    by_cases z : b = a
    · rw [if_pos z]
    · rw [if_neg z]; rw [upd_ne z] at h; exact B.fg _ _ h
  · obtain ⟨p1, p2, p3⟩ := B.cl n x b q1 q2
    have nb : b ≠ a := fun z => by subst z; exact h4 (List.mem_of_getElem? q2)
    refine ⟨by rw [upd_ne nb]; exact p1, by unfold lendG; rw [if_neg nb]; exact p2, p3.ext ex⟩
/-- behind it -/
theorem Rel.unlend (R : Rel c g σ H) {j : Nat} {xs : List D} {a : Addr} {vs : List V} (hj : g.ρ[j]? = some (some (.ow xs))) (hσ : σ[j]? = some (some (.ref a))) (h1 : H a = some (.lst vs)) (hr : RepL c g.F g.m xs vs) (h2 : g.F a = none) (h3 : g.G a = none)
    {F2 : Hp} {m2 : List Addr} {S2 : Sto} {H2 : Hp} (B : RelB c (lendG g σ H a) F2 m2 S2 H2) (x : Ext (upd g.F a (.lst vs)) g.m F2 m2) (fl : S2.all flatC = true) :
    Rel c { g with F := fun b => if b = a then none else F2 b, m := m2, S := S2 } σ H2 ∧ GExt g { g with F := fun b => if b = a then none else F2 b, m := m2, S := S2 } := by
  have Fa : F2 a = some (.lst vs) := x.f _ _ upd_same
  have Ha : H2 a = some (.lst vs) := B.fh _ _ Fa
  have ex : Ext g.F g.m (fun b => if b = a then none else F2 b) m2 := ⟨fun b o h => by
    have nb : b ≠ a := fun z => by subst z; rw [h2] at h; cases h
    show (if b = a then none else F2 b) = _
    rw [if_neg nb]
    exact x.f _ _ (by rw [upd_ne nb]; exact h), x.2⟩
  have am : a ∉ m2 := fun hm => by
    obtain ⟨n, hn, e⟩ := List.getElem_of_mem hm
    have hs : n < S2.length := by rw [← B.ml]; exact hn
    obtain ⟨q, _, _⟩ := B.cl n S2[n] a (by simp [hs]) (by rw [List.getElem?_eq_getElem hn, e])
    rw [Fa] at q; cases q
  have gh : ∀ b o, protect g σ H b = some o → b ≠ a → H2 b = some o := fun b o h nb => B.gh b o (by unfold lendG; rw [if_neg nb]; exact h)
  have pe : ∀ b o, g.G b = some o → protect g σ H b = some o := fun b o h => by
    by_cases z : ∃ (i : Nat) (xs : List D), g.ρ[i]? = some (some (.ow xs)) ∧ σ[i]? = some (some (.ref b))
    · obtain ⟨i, ys, e1, e2⟩ := z
      obtain ⟨_, _, _, _, q, _⟩ := R.ownAt e1 e2
      rw [q] at h; cases h
    · rw [protect_else z]; exact h
  refine ⟨⟨⟨fun b o h => ?_, fun b o h => ?_, fun b o h => ?_, B.ml, B.md, fun n y b q1 q2 => ?_⟩, R.ln, fun i d h => ?_, fun i ys h => ?_, R.sd, R.sx⟩, ex, rfl⟩
  · have h : (if b = a then none else F2 b) = some o := h
    by_cases z : b = a
    · rw [if_pos z] at h; cases h
    · rw [if_neg z] at h; exact B.fh _ _ h
  · have h : g.G b = some o := h
    exact gh b o (pe b o h) (fun z => by subst z; rw [h3] at h; cases h)
  · have h : (if b = a then none else F2 b) = some o := h
    by_cases z : b = a
    · rw [if_pos z] at h; cases h
    · rw [if_neg z] at h
      have q := B.fg _ _ h
      unfold lendG at q
      rw [if_neg z] at q
      show g.G b = none
      cases e : g.G b with
      | none => rfl
      | some u => rw [pe b u e] at q; cases q
  · obtain ⟨p1, p2, p3⟩ := B.cl n y b q1 q2
    have nb : b ≠ a := fun z => by subst z; exact am (List.mem_of_getElem? q2)
    refine ⟨by show (if b = a then none else F2 b) = none; rw [if_neg nb]; exact p1, ?_, cell_flatF p3 (List.all_eq_true.mp fl y (List.mem_of_getElem? q1))⟩
    show g.G b = none
    cases e : g.G b with
    | none => rfl
    | some u =>
      unfold lendG at p2
      rw [if_neg nb, pe b u e] at p2; cases p2
  · obtain ⟨v, e1, r⟩ := R.sf i d h
    exact ⟨v, e1, r.ext ex⟩
  · obtain ⟨b, ws, e1, q1, r, q2, q3, q4⟩ := R.so i ys h
    by_cases z : b = a
    · subst z
      rw [h1] at q1; cases q1
      exact ⟨b, vs, e1, Ha, r.ext ex, by show (if b = b then none else F2 b) = none; rw [if_pos rfl], q3, am⟩
    · have hp : protect g σ H b = some (.lst ws) := (protect_own (g := g) (σ := σ) (H := H) ⟨i, ys, h, e1⟩).trans q1
      have Hb := gh b _ hp z
      have Fb : F2 b = none := by
        cases e : F2 b with
        | none => rfl
        | some u =>
          have q := B.fg _ _ e
          unfold lendG at q
          rw [if_neg z, hp] at q; cases q
      refine ⟨b, ws, e1, Hb, r.ext ex, by show (if b = a then none else F2 b) = none; rw [if_neg z]; exact Fb, q3, fun hm => ?_⟩
      obtain ⟨n, hn, e⟩ := List.getElem_of_mem hm
      have hs : n < S2.length := by rw [← B.ml]; exact hn
      obtain ⟨_, q, _⟩ := B.cl n S2[n] b (by simp [hs]) (by rw [List.getElem?_eq_getElem hn, e])
      unfold lendG at q
      rw [if_neg z, hp] at q; cases q
end
/-- f(x, own): the own list at the slot j is lent -/
def mLend (P : Prm) (nf i j : Nat) : M D := fun ρ S => match ρ[i]?, ρ[j]? with
  | some (some (.fz d)), some (some (.ow xs)) => (match P.call nf [d, .lst xs] S with
    | .ok r S' => if D.flat r && S'.all flatC then .ok r ρ S' else .bad
    | _ => .bad)
  | _, _ => .bad
section
variable {X : Cx} {c : Kx} {W : WX} {k : Nat} {P : Prm} {nf : Nat} {ps : List Str} {x x1 x2 : Str} {p p1 p2 pos : Pos}
theorem k_lend (B : Bg X c W k) (i j : Nat) (F : Fe X.prog X.w X.K X.mg X.base c P.call k x nf ps (fun fd => Binds X.K fd ps [])) (hps : ps.length = 2) (hi : X.N[i]? = some x1) (hj : X.N[j]? = some x2) (v1 : visB X.env.scope x1 = true) (v2 : visB X.env.scope x2 = true) (hg : Gl X x) (hdb : (x == ("__debug__" : Str)) = false)
    (h2 : starEach [.Name x2 p2] X.env = (false, eval (.Name x2 p2) X.env) :: starEach [] X.env)
    (he : starEach [.Name x1 p1, .Name x2 p2] X.env = (false, eval (.Name x1 p1) X.env) :: starEach [.Name x2 p2] X.env) (hpl : (backTo pos (starEach [.Name x2 p2] X.env)).any (·.1) = false) :
    PE X (.Call (.Name x p) [.Name x1 p1, .Name x2 p2] [] pos) (tM c W (mLend P nf i j)) := by
  obtain ⟨f, fd, hm, hk, G, hb⟩ := F.e
  have ha : PA X [.Name x1 p1, .Name x2 p2] (tCons (tVar i) (tCons (tVar j) tNil)) := pa_cons (pe_var hi (vis_of v1).1 (vis_of v1).2.1 (vis_of v1).2.2) (pa_cons (pe_var hj (vis_of v2).1 (vis_of v2).2.1 (vis_of v2).2.2) pa_nil h2) he
  refine PE.weak (pe_callG G ((B.hr rfl).mono (Nat.le_succ _)) B.hg B.tk hg hm hk hb ha hdb he hpl) fun σ H Q ⟨g, R, h⟩ => ?_
  unfold mLend at h
  cases e1 : g.ρ[i]? with
  | none => simp only [e1] at h; exact h.elim
  | some o1 =>
    cases o1 with
    | none => simp only [e1] at h; exact h.elim
    | some s1 =>
      cases s1 with
      | ow _ => simp only [e1] at h; exact h.elim
      | ex _ => simp only [e1] at h; exact h.elim
      | fz d =>
        cases e2 : g.ρ[j]? with
        | none => simp only [e1, e2] at h; exact h.elim
        | some o2 =>
          cases o2 with
          | none => simp only [e1, e2] at h; exact h.elim
          | some s2 =>
            cases s2 with
            | fz _ => simp only [e1, e2] at h; exact h.elim
            | ex _ => simp only [e1, e2] at h; exact h.elim
            | ow xs =>
              simp only [e1, e2] at h
              obtain ⟨v, q1, r1⟩ := R.sf i d e1
              obtain ⟨a, vs, q2, hH, rr, hF, hG, ham⟩ := R.so j xs e2
              obtain ⟨RB, ex⟩ := R.lend (j := j) (xs := xs) hH hF ham
              refine ⟨v, q1, .ref a, q2, ?_⟩
              refine ⟨{ G := lendG g σ H a, F := upd g.F a (.lst vs), m := g.m, ρ := [], S := g.S }, [d, .lst xs], rfl, RB, RepL.two (r1.ext ex) (by simp only [Rep]; exact ⟨a, vs, rfl, upd_same, rr.ext ex⟩), hps.symm ▸ rfl, ?_⟩
              show (match P.call nf [d, .lst xs] g.S with | .ok d S' => _ | .okl xs S' => _ | .exc x S' => _ | .bad => False)
              cases eq : P.call nf [d, .lst xs] g.S with
              | bad => rw [eq] at h; exact h
              | okl _ _ => rw [eq] at h; exact h.elim
              | exc _ _ => rw [eq] at h; exact h.elim
              | ok r S' =>
                rw [eq] at h
                by_cases fl : (D.flat r && S'.all flatC) = true
                · simp only [fl, if_true] at h
                  rw [Bool.and_eq_true] at fl
                  intro w H' F' m' B' x' r'
                  obtain ⟨R', xx⟩ := R.unlend (j := j) e2 q2 hH rr hF hG B' x' fl.2
                  exact After.app h R' xx rfl rfl w (rep_flatF r' fl.1)
                · simp only [fl, if_false] at h
                  exact h.elim
end
end Ev
set_option Elab.async false
set_option linter.all false
set_option autoImplicit false
set_option maxRecDepth 100000
namespace Ev
open PySem
/-- a table has a def -/
class Fn (T : Tb) (n : Nat) (fd : outParam FD) : Prop where
  e : T.fn n = some fd
/-- forms.is_form_to -/
def b_101 (P : Prm) : M Flow := (sSeq (sIf (mT (xIsi (mBor 0) .str)) (sRet (xCmp .in_ (mBor 0) (M.pure (.tup [(.str [97,110,121]), (.str [110,117,109]), (.str [116,101,120,116])])))) sNx) (sSeq (sIf (mT (mOr (mNot (xIsi (mBor 0) .tuple)) (mOr (xCmp .eq (mVar 0) (xTup aNil)) (xCmp .eq (mBor 1) (M.pure (.int 0)))))) (sRet (M.pure (.bl false))) sNx) (sSeq (sAsg (mVar 0) (gStar (mSet 2) (mSet 3))) (sSeq (sIf (mT (mOr (mNot (xIsi (mBor 2) .str)) (mOr (xCmp .nin (mBor 2) (M.pure (.dic [((.str [100,101,101,100]), (.int 3)), ((.str [98,111,120]), (.int 2))]))) (xCmp .ne (xLen (mBor 0)) (xIdx (M.pure (.dic [((.str [100,101,101,100]), (.int 3)), ((.str [98,111,120]), (.int 2))])) (mVar 2)))))) (sRet (M.pure (.bl false))) sNx) (sRet (xBi .all (aCons (xFz (fComp (mItems (mVar 3)) [4] (mSet 4) (M.pure true) (xCall P 101 2 (aCons (mVar 4) (aCons (xBin .sub (mVar 1) (M.pure (.int 1))) aNil))))) aNil)))))))
abbrev fd_101 : FD := ⟨2, 5, b_101⟩
/-- forms.is_form -/
def b_102 (P : Prm) : M Flow := (sRet (xCall P 101 2 (aCons (mVar 0) (aCons (M.pure (.int 5)) aNil))))
abbrev fd_102 : FD := ⟨1, 1, b_102⟩
/-- law._law_pot -/
def b_112 (P : Prm) : M Flow := (sSeq (sAsg (mIte (xCmp .lt (mVar 1) (xLen (mBor 0))) (xIdx (mBor 0) (mVar 1)) (M.pure (.int 0))) (mSet 2)) (sRet (xCel (aCons (xBi .max2 (aCons (M.pure (.int 0)) (aCons (xBin .sub (xBi .abs (aCons (mVar 2) aNil)) (xBin .pow (M.pure (.int 10)) (M.pure (.int 18)))) aNil))) (aCons (xBin .add (xBin .mod (xBin .pow (xBin .add (xBin .add (xBin .mod (xBi .abs (aCons (mVar 2) aNil)) (M.pure (.int 2147483477))) (xBin .mul (M.pure (.int 101)) (mVar 1))) (M.pure (.int 3))) (M.pure (.int 2))) (M.pure (.int 2147483399))) (M.pure (.int 1))) aNil)))))
abbrev fd_112 : FD := ⟨2, 3, b_112⟩
/-- law._law_digit -/
def b_113 (P : Prm) : M Flow := (sSeq (sIf (mT (xCmp .gt (xIdx (mBor 0) (M.pure (.int 0))) (M.pure (.int 0)))) (sSeq (sAsg (xBi .divmod (aCons (xIdx (mBor 0) (M.pure (.int 0))) (aCons (mVar 1) aNil))) (gUnp 2 (gCon (gPut (mVar 0) (M.pure (.int 0))) (gCon (mSet 2) gEnd)))) (sRet (mVar 2))) sNx) (sSeq (sAsg (xBin .mod (xBin .add (xBin .mul (xIdx (mBor 0) (M.pure (.int 1))) (M.pure (.int 48271))) (M.pure (.int 10037))) (M.pure (.int 2147483587))) (gPut (mVar 0) (M.pure (.int 1)))) (sRet (xBin .mod (xBin .fdv (xBin .mod (xBin .mul (xIdx (mBor 0) (M.pure (.int 1))) (xIdx (mBor 0) (M.pure (.int 1)))) (M.pure (.int 2147483563))) (M.pure (.int 5))) (mVar 1)))))
abbrev fd_113 : FD := ⟨2, 3, b_113⟩
/-- law._law_form -/
def b_114 (P : Prm) : M Flow := (sSeq (sAsg (xCall P 113 2 (aCons (mVar 0) (aCons (M.pure (.int 6)) aNil))) (mSet 2)) (sSeq (sIf (mT (mOr (xCmp .eq (mBor 1) (M.pure (.int 0))) (xCmp .lt (mBor 2) (M.pure (.int 3))))) (sRet (xIdx (xFz (fLst (aCons (M.pure (.str [97,110,121])) (aCons (M.pure (.str [110,117,109])) (aCons (M.pure (.str [116,101,120,116])) aNil))))) (xCall P 113 2 (aCons (mVar 0) (aCons (M.pure (.int 3)) aNil))))) sNx) (sSeq (sIf (mT (xCmp .lt (mBor 2) (M.pure (.int 5)))) (sRet (xTup (aCons (M.pure (.str [100,101,101,100])) (aCons (xCall P 114 2 (aCons (mVar 0) (aCons (xBin .sub (mVar 1) (M.pure (.int 1))) aNil))) (aCons (xCall P 114 2 (aCons (mVar 0) (aCons (xBin .sub (mVar 1) (M.pure (.int 1))) aNil))) aNil))))) sNx) (sRet (xTup (aCons (M.pure (.str [98,111,120])) (aCons (xCall P 114 2 (aCons (mVar 0) (aCons (xBin .sub (mVar 1) (M.pure (.int 1))) aNil))) aNil)))))))
abbrev fd_114 : FD := ⟨2, 3, b_114⟩
/-- forms.is_name -/
def b_149 (P : Prm) : M Flow := (sSeq (sIf (mT (mOr (mNot (xIsi (mBor 0) .str)) (mNot (mChn .le .le (M.pure (.int 1)) (xLen (mBor 0)) (M.pure (.int 8)))))) (sRet (M.pure (.bl false))) sNx) (sRet (xBi .all (aCons (xFz (fComp (mItems (mVar 0)) [1] (mSet 1) (M.pure true) (xCmp .in_ (mBor 1) (M.pure (.str [97,98,99,100,101,102,103,104,105,106,107,108,109,110,111,112,113,114,115,116,117,118,119,120,121,122]))))) aNil))))
abbrev fd_149 : FD := ⟨1, 2, b_149⟩
/-- seals.is_among -/
def b_158 (P : Prm) : M Flow := (sRet (mAnd (xIsi (mBor 0) .str) (xCmp .in_ (mVar 0) (mBor 1))))
abbrev fd_158 : FD := ⟨2, 2, b_158⟩
/-- seals.is_mark -/
def b_159 (P : Prm) : M Flow := (sRet (mAnd (xIsi (mBor 0) .str) (mAnd (mChn .le .le (M.pure (.int 1)) (xLen (mBor 0)) (M.pure (.int 14))) (xBi .all (aCons (xFz (fComp (mItems (mVar 0)) [1] (mSet 1) (M.pure true) (xCmp .in_ (mBor 1) (M.pure (.str [97,98,99,100,101,102,103,104,105,106,107,108,109,110,111,112,113,114,115,116,117,118,119,120,121,122,48,49,50,51,52,53,54,55,56,57,46]))))) aNil)))))
abbrev fd_159 : FD := ⟨1, 2, b_159⟩
/-- seals.is_asked -/
def b_160 (P : Prm) : M Flow := (sSeq (sIf (mT (mOr (mNot (xIsi (mBor 0) .tuple)) (xCmp .ne (xLen (mBor 0)) (M.pure (.int 3))))) (sRet (M.pure (.bl false))) sNx) (sSeq (sAsg (mVar 0) (gUnp 3 (gCon (mSet 1) (gCon (mSet 2) (gCon (mSet 3) gEnd))))) (sRet (mAnd (xCall P 158 2 (aCons (mVar 1) (aCons (M.pure (.tup [(.str [110,117,109]), (.str [116,101,120,116]), (.str [100,101,101,100]), (.str [98,111,120])])) aNil))) (mAnd (xCall P 159 1 (aCons (mVar 2) aNil)) (xCall P 158 2 (aCons (mVar 3) (aCons (M.pure (.tup [(.str [103,105,118,101,114]), (.str [116,97,107,101,114])])) aNil))))))))
abbrev fd_160 : FD := ⟨1, 4, b_160⟩
/-- seals.head_in -/
def b_161 (P : Prm) : M Flow := (sRet (mIte (xCmp .eq (xIdx (mBor 0) (M.pure (.int 0))) (M.pure (.str [98,114,111,107,101,110]))) (xIdx (mBor 0) (M.pure (.int 1))) (xIdx (mBor 0) (M.pure (.int 0)))))
abbrev fd_161 : FD := ⟨1, 1, b_161⟩
/-- seals.is_low_seal -/
def b_162 (P : Prm) : M Flow := (sSeq (sIf (mT (xIsi (mBor 0) .str)) (sRet (xCmp .eq (mBor 0) (M.pure (.str [115,116,97,121])))) sNx) (sSeq (sIf (mT (mOr (mNot (xIsi (mBor 0) .tuple)) (mOr (xCmp .ne (xLen (mBor 0)) (M.pure (.int 2))) (mNot (xCall P 163 2 (aCons (xIdx (mBor 0) (M.pure (.int 1))) (aCons (mVar 1) aNil))))))) (sRet (M.pure (.bl false))) sNx) (sSeq (sAsg (mVar 0) (gUnp 2 (gCon (mSet 2) (gCon (mSet 3) gEnd)))) (sRet (mOr (xCmp .is_ (mBor 2) (M.pure .non)) (mAnd (xCall P 160 1 (aCons (mVar 2) aNil)) (xCmp .eq (xIdx (mBor 2) (M.pure (.int 0))) (xCall P 161 1 (aCons (mVar 3) aNil)))))))))
abbrev fd_162 : FD := ⟨2, 4, b_162⟩
/-- seals.is_core -/
def b_163 (P : Prm) : M Flow := (sSeq (sIf (mT (mOr (mNot (xIsi (mBor 0) .tuple)) (mOr (xCmp .eq (mVar 0) (xTup aNil)) (mNot (xIsi (xIdx (mBor 0) (M.pure (.int 0))) .str))))) (sRet (M.pure (.bl false))) sNx) (sSeq (sAsg (mVar 0) (gStar (mSet 2) (mSet 3))) (sSeq (sIf (mT (xCmp .eq (mBor 2) (M.pure (.str [98,114,111,107,101,110])))) (sRet (xCall P 160 1 (aCons (mSlc (mBor 0) (mPart (M.pure (.int 1))) (M.pure none)) aNil))) sNx) (sSeq (sIf (mT (xCmp .in_ (mBor 2) (M.pure (.tup [(.str [100,101,101,100]), (.str [98,111,120])])))) (sRet (mAnd (xCmp .eq (xLen (mBor 3)) (M.pure (.int 2))) (mAnd (xCmp .gt (mBor 1) (M.pure (.int 0))) (xBi .all (aCons (xFz (fComp (mItems (mVar 3)) [4] (mSet 4) (M.pure true) (xCall P 162 2 (aCons (mVar 4) (aCons (xBin .sub (mVar 1) (M.pure (.int 1))) aNil))))) aNil))))) sNx) (sRet (mAnd (xCmp .in_ (mBor 2) (M.pure (.tup [(.str [110,117,109]), (.str [116,101,120,116])]))) (xEqE (mVar 3))))))))
abbrev fd_163 : FD := ⟨2, 5, b_163⟩
/-- seals.is_seal -/
def b_164 (P : Prm) : M Flow := (sRet (xCall P 162 2 (aCons (mVar 0) (aCons (M.pure (.int 5)) aNil))))
abbrev fd_164 : FD := ⟨1, 1, b_164⟩
/-- law._law_name -/
def b_193 (P : Prm) : M Flow := (sSeq (sAsg (M.pure (.str [97,98,99,100,101,102,103,104,105,106,107,108,109,110,111,112,113,114,115,116,117,118,119,120,121,122])) (mSet 2)) (sSeq (sAsg (xIdx (xFz (fLst (aCons (M.pure (.int 1)) (aCons (M.pure (.int 1)) (aCons (M.pure (.int 2)) (aCons (M.pure (.int 3)) (aCons (M.pure (.int 8)) (aCons (xBin .add (M.pure (.int 1)) (xCall P 113 2 (aCons (mVar 0) (aCons (M.pure (.int 8)) aNil)))) aNil)))))))) (xCall P 113 2 (aCons (mVar 0) (aCons (M.pure (.int 6)) aNil)))) (mSet 3)) (sSeq (sAsg (mJoinT (M.pure (.str [])) (aCons (xFz (fComp (mRng1 (aCons (mVar 3) aNil)) [7] (mSet 7) (M.pure true) (xIdx (mVar 2) (xCall P 113 2 (aCons (mVar 0) (aCons (M.pure (.int 26)) aNil)))))) aNil)) (mSet 4)) (sSeq (sIf (mT (xCmp .eq (xCall P 113 2 (aCons (mVar 0) (aCons (M.pure (.int 8)) aNil))) (M.pure (.int 0)))) (sAsg (xIdx (xFz (fLst (aCons (M.pure (.str [99,97,108,108])) (aCons (M.pure (.str [100,101,101,100])) (aCons (M.pure (.str [97,110,121])) (aCons (M.pure (.str [110,117,109])) (aCons (M.pure (.str [116,101,120,116])) (aCons (M.pure (.str [98,111,120])) (aCons (M.pure (.str [108,101,116])) (aCons (M.pure (.str [109,97,105,110])) aNil)))))))))) (xCall P 113 2 (aCons (mVar 0) (aCons (M.pure (.int 8)) aNil)))) (mSet 4)) sNx) (sSeq (sIf (mT (mAnd (xCmp .ne (mBor 1) (M.pure (.lst []))) (xCmp .eq (xCall P 113 2 (aCons (mVar 0) (aCons (M.pure (.int 5)) aNil))) (M.pure (.int 0))))) (sSeq (sAsg (xIdx (mVar 1) (xCall P 113 2 (aCons (mVar 0) (aCons (xLen (mBor 1)) aNil)))) (mSet 5)) (sAsg (xBin .add (mSlc (mVar 5) (M.pure none) (mPart (xCall P 113 2 (aCons (mVar 0) (aCons (xLen (mBor 5)) aNil))))) (mSlc (mBor 4) (M.pure none) (mPart (M.pure (.int 1))))) (mSet 4))) sNx) (sSeq (sIf (mT (xCmp .in_ (mVar 4) (mBor 1))) (sSeq (sAsg (xFz (fComp (mRng1 (aCons (M.pure (.int 80)) aNil)) [7] (mSet 7) (M.pure true) (xBin .add (xBin .add (xIdx (mVar 2) (xBin .fdv (mVar 7) (M.pure (.int 26)))) (xIdx (mVar 2) (xBin .mod (mVar 7) (M.pure (.int 26))))) (M.pure (.str [113]))))) (mSet 6)) (sAsg (xIdx (xFz (fComp (mItems (mVar 6)) [8] (mSet 8) (mT (xCmp .nin (mVar 8) (mBor 1))) (mVar 8))) (M.pure (.int 0))) (mSet 4))) sNx) (sRet (mVar 4))))))))
abbrev fd_193 : FD := ⟨2, 9, b_193⟩
/-- sealtexts.read_seal -/
def b_237 (P : Prm) : M Flow := (sSeq (sIf (mT (mNot (xIsi (mBor 0) .str))) (sRai 120) sNx) (sSeq (sAsg (xMak P 702 703 2 (aCons (mVar 0) aNil)) (mSet 1)) (sSeq (sAsg (xMth P 702 710 2 [115,101,97,108] (mVar 1) (aCons (M.pure (.int 5)) aNil)) (mSet 2)) (sSeq (sIf (mT (mOr (xCmp .ne (xFld [702] [97,116] (mVar 1)) (xLen (mBor 0))) (mNot (xCall P 164 1 (aCons (mVar 2) aNil))))) (sRai 120) sNx) (sRet (mVar 2))))))
abbrev fd_237 : FD := ⟨1, 3, b_237⟩
/-- law._law_is_form -/
def b_244 (P : Prm) : M Flow := (sSeq (sIf (mT (xIsi (mBor 0) .str)) (sRet (xCmp .in_ (mVar 0) (xTup (aCons (M.pure (.str [97,110,121])) (aCons (M.pure (.str [110,117,109])) (aCons (M.pure (.str [116,101,120,116])) aNil)))))) sNx) (sSeq (sIf (mT (mOr (mNot (xIsi (mBor 0) .tuple)) (mOr (xCmp .eq (mBor 1) (M.pure (.int 0))) (mOr (xCmp .eq (mVar 0) (xTup aNil)) (mNot (xIsi (xIdx (mBor 0) (M.pure (.int 0))) .str)))))) (sRet (M.pure (.bl false))) sNx) (sSeq (sIf (mT (xCmp .ne (xLen (mBor 0)) (xDgt [((.str [100,101,101,100]), (.int 3)), ((.str [98,111,120]), (.int 2))] (xIdx (mBor 0) (M.pure (.int 0))) (M.pure (.int 0))))) (sRet (M.pure (.bl false))) sNx) (sRet (xBi .all (aCons (xFz (fComp (mItems (mSlc (mBor 0) (mPart (M.pure (.int 1))) (M.pure none))) [2] (mSet 2) (M.pure true) (xCall P 244 2 (aCons (mVar 2) (aCons (xBin .sub (mVar 1) (M.pure (.int 1))) aNil))))) aNil))))))
abbrev fd_244 : FD := ⟨2, 3, b_244⟩
/-- terms.is_whole -/
def b_261 (P : Prm) : M Flow := (sRet (mAnd (xIsi (mBor 0) .int) (mNot (xIsi (mBor 0) .bool))))
abbrev fd_261 : FD := ⟨1, 1, b_261⟩
/-- terms.is_written -/
def b_262 (P : Prm) : M Flow := (sRet (mAnd (xIsi (mBor 0) .str) (mAnd (xCmp .le (xLen (mBor 0)) (M.pure (.int 8))) (xBi .all (aCons (xFz (fComp (mItems (mVar 0)) [1] (mSet 1) (M.pure true) (xCmp .in_ (mBor 1) (M.pure (.str [97,98,99,100,101,102,103,104,105,106,107,108,109,110,111,112,113,114,115,116,117,118,119,120,121,122]))))) aNil)))))
abbrev fd_262 : FD := ⟨1, 2, b_262⟩
/-- terms.is_term -/
def b_263 (P : Prm) : M Flow := (sSeq (sIf (mT (mOr (mNot (xIsi (mBor 0) .tuple)) (mOr (xCmp .eq (mVar 0) (xTup aNil)) (mOr (mNot (xIsi (xIdx (mBor 0) (M.pure (.int 0))) .str)) (xCmp .nin (xIdx (mBor 0) (M.pure (.int 0))) (M.pure (.dic [((.str [110,117,109,98,101,114]), (.str [119])), ((.str [116,101,120,116]), (.str [108])), ((.str [110,97,109,101]), (.str [120])), ((.str [100,101,101,100]), (.str [120,65,101])), ((.str [99,97,108,108]), (.str [101,101])), ((.str [108,101,116]), (.str [120,101,101])), ((.str [116,101,108,108]), (.str [65,101])), ((.str [105,102]), (.str [101,101,101])), ((.str [97,100,100]), (.str [101,101])), ((.str [115,117,98]), (.str [101,101])), ((.str [115,105,122,101]), (.str [101])), ((.str [98,111,120]), (.str [65,101])), ((.str [114,101,97,100]), (.str [101])), ((.str [119,114,105,116,101]), (.str [101,101])), ((.str [115,97,109,101]), (.str [101,101])), ((.str [100,111]), (.str [101,101]))]))))))) (sRet (M.pure (.bl false))) sNx) (sSeq (sAsg (mVar 0) (gStar (mSet 1) (mSet 2))) (sSeq (sAsg (xIdx (M.pure (.dic [((.str [110,117,109,98,101,114]), (.str [119])), ((.str [116,101,120,116]), (.str [108])), ((.str [110,97,109,101]), (.str [120])), ((.str [100,101,101,100]), (.str [120,65,101])), ((.str [99,97,108,108]), (.str [101,101])), ((.str [108,101,116]), (.str [120,101,101])), ((.str [116,101,108,108]), (.str [65,101])), ((.str [105,102]), (.str [101,101,101])), ((.str [97,100,100]), (.str [101,101])), ((.str [115,117,98]), (.str [101,101])), ((.str [115,105,122,101]), (.str [101])), ((.str [98,111,120]), (.str [65,101])), ((.str [114,101,97,100]), (.str [101])), ((.str [119,114,105,116,101]), (.str [101,101])), ((.str [115,97,109,101]), (.str [101,101])), ((.str [100,111]), (.str [101,101]))])) (mVar 1)) (mSet 3)) (sRet (mAnd (xCmp .eq (xLen (mBor 2)) (xLen (mBor 3))) (xBi .all (aCons (xFz (fComp (mZipS (aCons (mVar 3) (aCons (mVar 2) aNil))) [4, 5] (gUnp 2 (gCon (mSet 4) (gCon (mSet 5) gEnd))) (M.pure true) (xCall P 264 2 (aCons (mVar 4) (aCons (mVar 5) aNil))))) aNil)))))))
abbrev fd_263 : FD := ⟨1, 6, b_263⟩
/-- terms.fits -/
def b_264 (P : Prm) : M Flow := (sSeq (sIf (mT (xCmp .eq (mBor 0) (M.pure (.str [119])))) (sRet (xCall P 261 1 (aCons (mVar 1) aNil))) sNx) (sSeq (sIf (mT (xCmp .eq (mBor 0) (M.pure (.str [108])))) (sRet (xCall P 262 1 (aCons (mVar 1) aNil))) sNx) (sSeq (sIf (mT (xCmp .eq (mBor 0) (M.pure (.str [120])))) (sRet (xCall P 149 1 (aCons (mVar 1) aNil))) sNx) (sRet (mIte (xCmp .eq (mBor 0) (M.pure (.str [65]))) (xCall P 102 1 (aCons (mVar 1) aNil)) (xCall P 263 1 (aCons (mVar 1) aNil)))))))
abbrev fd_264 : FD := ⟨2, 2, b_264⟩
/-- terms.want_term -/
def b_265 (P : Prm) : M Flow := (sIf (mT (mNot (xCall P 263 1 (aCons (mVar 0) aNil)))) (sRai 147) sNx)
abbrev fd_265 : FD := ⟨1, 1, b_265⟩
/-- terms.terms_in -/
def b_266 (P : Prm) : M Flow := (sSeq (sAsg (mVar 0) (gStar (mSet 1) (mSet 2))) (sRet (xFz (fComp (mZv (aCons (xIdx (M.pure (.dic [((.str [110,117,109,98,101,114]), (.str [119])), ((.str [116,101,120,116]), (.str [108])), ((.str [110,97,109,101]), (.str [120])), ((.str [100,101,101,100]), (.str [120,65,101])), ((.str [99,97,108,108]), (.str [101,101])), ((.str [108,101,116]), (.str [120,101,101])), ((.str [116,101,108,108]), (.str [65,101])), ((.str [105,102]), (.str [101,101,101])), ((.str [97,100,100]), (.str [101,101])), ((.str [115,117,98]), (.str [101,101])), ((.str [115,105,122,101]), (.str [101])), ((.str [98,111,120]), (.str [65,101])), ((.str [114,101,97,100]), (.str [101])), ((.str [119,114,105,116,101]), (.str [101,101])), ((.str [115,97,109,101]), (.str [101,101])), ((.str [100,111]), (.str [101,101]))])) (mVar 1)) (aCons (mVar 2) aNil))) [3, 4] (gUnp 2 (gCon (mSet 3) (gCon (mSet 4) gEnd))) (mT (xCmp .eq (mBor 3) (M.pure (.str [101])))) (mVar 4)))))
abbrev fd_266 : FD := ⟨1, 5, b_266⟩
/-- terms.many_in -/
def b_267 (P : Prm) : M Flow := (sRet (xBin .add (M.pure (.int 1)) (xBi .sum (aCons (xFz (fComp (mItems (xCall P 266 1 (aCons (mVar 0) aNil))) [1] (mSet 1) (M.pure true) (xCall P 267 1 (aCons (mVar 1) aNil)))) aNil))))
abbrev fd_267 : FD := ⟨1, 2, b_267⟩
/-- terms.parts_in -/
def b_268 (P : Prm) : M Flow := (sSeq (sEx (xCall P 265 1 (aCons (mVar 0) aNil))) (sRet (xCall P 267 1 (aCons (mVar 0) aNil))))
abbrev fd_268 : FD := ⟨1, 1, b_268⟩
/-- law._law_pool -/
def b_269 (P : Prm) : M Flow := (sSeq (sOwn 1 (fLst aNil)) (sSeq (sFor (mRng1 (aCons (xBin .add (M.pure (.int 1)) (xCall P 113 2 (aCons (mVar 0) (aCons (M.pure (.int 4)) aNil)))) aNil)) (mSet 2) (sApp 1 (mLend P 193 0 1))) (sRet (mVar 1))))
abbrev fd_269 : FD := ⟨1, 3, b_269⟩
/-- law._law_number -/
def b_270 (P : Prm) : M Flow := (sSeq (sAsg (xFz (fLst (aCons (M.pure (.int 0)) (aCons (M.pure (.int 1)) (aCons (xNeg (M.pure (.int 1))) (aCons (xBin .sub (xCall P 113 2 (aCons (mVar 0) (aCons (M.pure (.int 40)) aNil))) (M.pure (.int 20))) (aCons (xBin .sub (xBin .pow (M.pure (.int 10)) (M.pure (.int 30))) (M.pure (.int 1))) (aCons (xBin .sub (M.pure (.int 1)) (xBin .pow (M.pure (.int 10)) (M.pure (.int 30)))) aNil)))))))) (mSet 1)) (sRet (xIdx (mVar 1) (xCall P 113 2 (aCons (mVar 0) (aCons (M.pure (.int 6)) aNil))))))
abbrev fd_270 : FD := ⟨1, 2, b_270⟩
/-- law._law_letters -/
def b_271 (P : Prm) : M Flow := (sSeq (sAsg (xIdx (xFz (fLst (aCons (M.pure (.int 0)) (aCons (M.pure (.int 1)) (aCons (M.pure (.int 3)) (aCons (M.pure (.int 8)) aNil)))))) (xCall P 113 2 (aCons (mVar 0) (aCons (M.pure (.int 4)) aNil)))) (mSet 1)) (sRet (mJoinT (M.pure (.str [])) (aCons (xFz (fComp (mRng1 (aCons (mVar 1) aNil)) [2] (mSet 2) (M.pure true) (xIdx (M.pure (.str [97,98,99,100,101,102,103,104,105,106,107,108,109,110,111,112,113,114,115,116,117,118,119,120,121,122])) (xCall P 113 2 (aCons (mVar 0) (aCons (M.pure (.int 26)) aNil)))))) aNil))))
abbrev fd_271 : FD := ⟨1, 3, b_271⟩
/-- law._law_any_term -/
def b_272 (P : Prm) : M Flow := (sSeq (sAsg (xFz (fLst (aCons (M.pure (.str [110,97,109,101])) (aCons (M.pure (.str [110,117,109,98,101,114])) (aCons (M.pure (.str [116,101,120,116])) (aCons (M.pure (.str [100,101,101,100])) (aCons (M.pure (.str [108,101,116])) (aCons (M.pure (.str [100,101,101,100])) (aCons (M.pure (.str [108,101,116])) (aCons (M.pure (.str [99,97,108,108])) (aCons (M.pure (.str [116,101,108,108])) (aCons (M.pure (.str [105,102])) (aCons (M.pure (.str [97,100,100])) (aCons (M.pure (.str [115,117,98])) (aCons (M.pure (.str [115,105,122,101])) (aCons (M.pure (.str [98,111,120])) aNil)))))))))))))))) (mSet 3)) (sSeq (sAsg (xBin .add (mVar 3) (xFz (fLst (aCons (M.pure (.str [114,101,97,100])) (aCons (M.pure (.str [119,114,105,116,101])) (aCons (M.pure (.str [115,97,109,101])) (aCons (M.pure (.str [100,111])) aNil))))))) (mSet 3)) (sSeq (sAsg (xIdx (mVar 3) (xCall P 113 2 (aCons (mVar 0) (aCons (mIte (xCmp .gt (mBor 2) (M.pure (.int 0))) (M.pure (.int 18)) (M.pure (.int 3))) aNil)))) (mSet 4)) (sRet (xBi .tuple (aCons (xBin .add (xFz (fLst (aCons (mVar 4) aNil))) (xFz (fComp (mItems (xCall P 477 1 (aCons (mVar 4) aNil))) [5] (mSet 5) (M.pure true) (xCall P 273 4 (aCons (mVar 0) (aCons (mVar 5) (aCons (mVar 1) (aCons (mVar 2) aNil)))))))) aNil))))))
abbrev fd_272 : FD := ⟨3, 6, b_272⟩
/-- law._law_part -/
def b_273 (P : Prm) : M Flow := (sSeq (sIf (mT (xCmp .eq (mBor 1) (M.pure (.str [119])))) (sRet (xCall P 270 1 (aCons (mVar 0) aNil))) sNx) (sSeq (sIf (mT (xCmp .eq (mBor 1) (M.pure (.str [108])))) (sRet (xCall P 271 1 (aCons (mVar 0) aNil))) sNx) (sSeq (sIf (mT (xCmp .eq (mBor 1) (M.pure (.str [120])))) (sRet (xIdx (mVar 2) (xCall P 113 2 (aCons (mVar 0) (aCons (xLen (mBor 2)) aNil))))) sNx) (sSeq (sIf (mT (xCmp .eq (mBor 1) (M.pure (.str [65])))) (sRet (xCall P 114 2 (aCons (mVar 0) (aCons (xIdx (xFz (fLst (aCons (M.pure (.int 0)) (aCons (M.pure (.int 1)) (aCons (M.pure (.int 2)) (aCons (xIdx (xFz (fLst (aCons (M.pure (.int 2)) (aCons (M.pure (.int 5)) aNil)))) (xBi .int (aCons (xCmp .gt (mBor 3) (M.pure (.int 3))) aNil))) aNil)))))) (xCall P 113 2 (aCons (mVar 0) (aCons (M.pure (.int 4)) aNil)))) aNil)))) sNx) (sRet (xCall P 272 3 (aCons (mVar 0) (aCons (mVar 2) (aCons (xBin .sub (mVar 3) (M.pure (.int 1))) aNil)))))))))
abbrev fd_273 : FD := ⟨4, 4, b_273⟩
/-- law._law_shape~ce2529 -/
def b_477 (P : Prm) : M Flow := (sSeq (sAsg (xMkD [((.str [110,117,109,98,101,114]), (.str [119])), ((.str [116,101,120,116]), (.str [108])), ((.str [110,97,109,101]), (.str [120])), ((.str [100,101,101,100]), (.str [120,65,101])), ((.str [99,97,108,108]), (.str [101,101])), ((.str [108,101,116]), (.str [120,101,101])), ((.str [116,101,108,108]), (.str [65,101]))]) (mSet 1)) (sSeq (sAsg (xMkD [((.str [105,102]), (.str [101,101,101])), ((.str [97,100,100]), (.str [101,101])), ((.str [115,117,98]), (.str [101,101])), ((.str [115,105,122,101]), (.str [101])), ((.str [98,111,120]), (.str [65,101])), ((.str [114,101,97,100]), (.str [101])), ((.str [119,114,105,116,101]), (.str [101,101]))]) (mSet 2)) (sSeq (sEx (xUpdC (mVar 1) (mVar 2))) (sSeq (sEx (xUpdC (mVar 1) (xMkD [((.str [115,97,109,101]), (.str [101,101])), ((.str [100,111]), (.str [101,101]))]))) (sRet (xGetC (mVar 1) (mVar 0) (M.pure (.str []))))))))
abbrev fd_477 : FD := ⟨1, 3, b_477⟩
/-- sealtexts.Reader.__init__ -/
def b_703 (P : Prm) : M Flow := (sSeq (sFst [702] [116,101,120,116] (mVar 0) (mVar 1)) (sFst [702] [97,116] (mVar 0) (M.pure (.int 0))))
abbrev fd_703 : FD := ⟨2, 2, b_703⟩
/-- sealtexts.Reader.is_at -/
def b_704 (P : Prm) : M Flow := (sRet (mSt .sw (xFld [702] [116,101,120,116] (mVar 0)) (aCons (mVar 1) (aCons (xFld [702] [97,116] (mVar 0)) aNil))))
abbrev fd_704 : FD := ⟨2, 2, b_704⟩
/-- sealtexts.Reader.take -/
def b_705 (P : Prm) : M Flow := (sSeq (sIf (mT (mNot (xMth P 702 704 2 [105,115,95,97,116] (mVar 0) (aCons (mVar 1) aNil)))) (sRai 120) sNx) (sFag 702 [97,116] false (mVar 0) (xLen (mBor 1))))
abbrev fd_705 : FD := ⟨2, 2, b_705⟩
/-- sealtexts.Reader.take_one -/
def b_706 (P : Prm) : M Flow := (sSeq (sAsg (xFz (fComp (mItems (mVar 1)) [3] (mSet 3) (mT (xMth P 702 704 2 [105,115,95,97,116] (mVar 0) (aCons (mVar 3) aNil))) (mVar 3))) (mSet 2)) (sSeq (sIf (mT (xCmp .eq (mBor 2) (M.pure (.lst [])))) (sRai 120) sNx) (sSeq (sEx (xMth P 702 705 2 [116,97,107,101] (mVar 0) (aCons (xIdx (mBor 2) (M.pure (.int 0))) aNil))) (sRet (xIdx (mBor 2) (M.pure (.int 0)))))))
abbrev fd_706 : FD := ⟨2, 4, b_706⟩
/-- sealtexts.Reader.marked -/
def b_707 (P : Prm) : M Flow := (sSeq (sAsg (xFld [702] [97,116] (mVar 0)) (mSet 1)) (sSeq (sWhl P.fuel (mT (mAnd (xCmp .lt (xFld [702] [97,116] (mVar 0)) (xLen (xFld [702] [116,101,120,116] (mVar 0)))) (xCmp .in_ (xIdx (xFld [702] [116,101,120,116] (mVar 0)) (xFld [702] [97,116] (mVar 0))) (M.pure (.str [97,98,99,100,101,102,103,104,105,106,107,108,109,110,111,112,113,114,115,116,117,118,119,120,121,122,48,49,50,51,52,53,54,55,56,57,46]))))) (sFag 702 [97,116] false (mVar 0) (M.pure (.int 1)))) (sRet (mSlc (xFld [702] [116,101,120,116] (mVar 0)) (mPart (mVar 1)) (mPart (xFld [702] [97,116] (mVar 0)))))))
abbrev fd_707 : FD := ⟨1, 2, b_707⟩
/-- sealtexts.Reader.asked -/
def b_708 (P : Prm) : M Flow := (sSeq (sAsg (mSlc (xMth P 702 706 2 [116,97,107,101,95,111,110,101] (mVar 0) (aCons (xFz (fComp (mItems (M.pure (.tup [(.str [110,117,109]), (.str [116,101,120,116]), (.str [100,101,101,100]), (.str [98,111,120])]))) [3] (mSet 3) (M.pure true) (xBin .add (mVar 3) (M.pure (.str [63]))))) aNil)) (M.pure none) (mPart (xNeg (M.pure (.int 1))))) (mSet 1)) (sSeq (sAsg (xMth P 702 707 1 [109,97,114,107,101,100] (mVar 0) aNil) (mSet 2)) (sRet (xTup (aCons (mVar 1) (aCons (mVar 2) (aCons (xIdx (M.pure (.tup [(.str [103,105,118,101,114]), (.str [116,97,107,101,114])])) (mSt .ix (M.pure (.str [43,45])) (aCons (xMth P 702 706 2 [116,97,107,101,95,111,110,101] (mVar 0) (aCons (xFz (fListT (M.pure (.str [43,45])))) aNil)) aNil))) aNil)))))))
abbrev fd_708 : FD := ⟨1, 4, b_708⟩
/-- sealtexts.Reader.check -/
def b_709 (P : Prm) : M Flow := (sSeq (sIf (mT (mNot (xBi .any (aCons (xFz (fComp (mItems (M.pure (.tup [(.str [110,117,109]), (.str [116,101,120,116]), (.str [100,101,101,100]), (.str [98,111,120])]))) [2] (mSet 2) (M.pure true) (xMth P 702 704 2 [105,115,95,97,116] (mVar 0) (aCons (xBin .add (mVar 2) (M.pure (.str [63]))) aNil)))) aNil)))) (sRet (M.pure .non)) sNx) (sSeq (sAsg (xMth P 702 708 1 [97,115,107,101,100] (mVar 0) aNil) (mSet 1)) (sSeq (sEx (xMth P 702 705 2 [116,97,107,101] (mVar 0) (aCons (M.pure (.str [59])) aNil))) (sRet (mVar 1)))))
abbrev fd_709 : FD := ⟨1, 3, b_709⟩
/-- sealtexts.Reader.seal -/
def b_710 (P : Prm) : M Flow := (sSeq (sIf (mT (xMth P 702 704 2 [105,115,95,97,116] (mVar 0) (aCons (M.pure (.str [45])) aNil))) (sSeq (sEx (xMth P 702 705 2 [116,97,107,101] (mVar 0) (aCons (M.pure (.str [45])) aNil))) (sRet (M.pure (.str [115,116,97,121])))) sNx) (sSeq (sAsg (xMth P 702 709 1 [99,104,101,99,107] (mVar 0) aNil) (mSet 2)) (sSeq (sAsg (xMth P 702 711 2 [99,111,114,101] (mVar 0) (aCons (mVar 1) aNil)) (mSet 3)) (sSeq (sIf (mT (mAnd (xCmp .nis (mBor 2) (M.pure .non)) (xCmp .ne (xIdx (mBor 2) (M.pure (.int 0))) (xCall P 161 1 (aCons (mVar 3) aNil))))) (sRai 120) sNx) (sRet (xTup (aCons (mVar 2) (aCons (mVar 3) aNil))))))))
abbrev fd_710 : FD := ⟨2, 4, b_710⟩
/-- sealtexts.Reader.core -/
def b_711 (P : Prm) : M Flow := (sSeq (sIf (mT (xMth P 702 704 2 [105,115,95,97,116] (mVar 0) (aCons (M.pure (.str [33])) aNil))) (sSeq (sEx (xMth P 702 705 2 [116,97,107,101] (mVar 0) (aCons (M.pure (.str [33])) aNil))) (sRet (xBin .add (xTup (aCons (M.pure (.str [98,114,111,107,101,110])) aNil)) (xMth P 702 708 1 [97,115,107,101,100] (mVar 0) aNil)))) sNx) (sSeq (sFor (mItems (M.pure (.tup [(.str [100,101,101,100]), (.str [98,111,120])]))) (mSet 2) (sSeq (sAsg (xIdx (M.pure (.dic [((.str [100,101,101,100]), (.str [40,41])), ((.str [98,111,120]), (.str [91,93]))])) (mVar 2)) (gUnpT 2 (gCon (mSet 3) (gCon (mSet 4) gEnd)))) (sIf (mT (mAnd (xCmp .gt (mBor 1) (M.pure (.int 0))) (xMth P 702 704 2 [105,115,95,97,116] (mVar 0) (aCons (mVar 3) aNil)))) (sSeq (sEx (xMth P 702 705 2 [116,97,107,101] (mVar 0) (aCons (mVar 3) aNil))) (sSeq (sAsg (xMth P 702 710 2 [115,101,97,108] (mVar 0) (aCons (xBin .sub (mVar 1) (M.pure (.int 1))) aNil)) (mSet 5)) (sSeq (sEx (xMth P 702 705 2 [116,97,107,101] (mVar 0) (aCons (M.pure (.str [44])) aNil))) (sSeq (sAsg (xMth P 702 710 2 [115,101,97,108] (mVar 0) (aCons (xBin .sub (mVar 1) (M.pure (.int 1))) aNil)) (mSet 6)) (sSeq (sEx (xMth P 702 705 2 [116,97,107,101] (mVar 0) (aCons (mVar 4) aNil))) (sRet (xTup (aCons (mVar 2) (aCons (mVar 5) (aCons (mVar 6) aNil)))))))))) sNx))) (sRet (xTup (aCons (xMth P 702 706 2 [116,97,107,101,95,111,110,101] (mVar 0) (aCons (M.pure (.tup [(.str [110,117,109]), (.str [116,101,120,116])])) aNil)) aNil)))))
abbrev fd_711 : FD := ⟨2, 7, b_711⟩
end Ev
set_option Elab.async false
set_option linter.all false
set_option autoImplicit false
set_option maxRecDepth 100000
namespace Ev
namespace k41
open PySem PySem.Spec PyProof.Rows L2
/-- _law_is_word: _law_item _law_least _law_sign -/
def b_274 (P : Prm) : M Flow := (sSeq (sIf (mT (mOr (mNot (xIsi (mBor 0) .str)) (mNot (mChn .le .le (mVar 1) (xLen (mBor 0)) (M.pure (.int 8)))))) (sRet (M.pure (.bl false))) sNx) (sRet (xBi .all (aCons (xFz (fComp (mItems (mVar 0)) [2] (mSet 2) (M.pure true) (xCmp .in_ (mBor 2) (M.pure (.str [97,98,99,100,101,102,103,104,105,106,107,108,109,110,111,112,113,114,115,116,117,118,119,120,121,122]))))) aNil))))
abbrev fd_274 : FD := ⟨2, 3, b_274⟩
/-- _law_fits: _law_sort _law_item -/
def b_276 (P : Prm) : M Flow := (sSeq (sIf (mT (xCmp .eq (mBor 0) (M.pure (.str [119])))) (sRet (mAnd (xIsi (mBor 1) .int) (mNot (xIsi (mBor 1) .bool)))) sNx) (sSeq (sIf (mT (xCmp .in_ (mVar 0) (xTup (aCons (M.pure (.str [108])) (aCons (M.pure (.str [120])) aNil))))) (sRet (xCall P 274 2 (aCons (mVar 1) (aCons (xBi .int (aCons (xCmp .eq (mBor 0) (M.pure (.str [120]))) aNil)) aNil)))) sNx) (sRet (mIte (xCmp .eq (mBor 0) (M.pure (.str [65]))) (xCall P 244 2 (aCons (mVar 1) (aCons (M.pure (.int 5)) aNil))) (xCall P 275 1 (aCons (mVar 1) aNil))))))
abbrev fd_276 : FD := ⟨2, 2, b_276⟩
/-- _law_is_term: _law_item _law_shape_here _law_sort _law_one -/
def b_275 (P : Prm) : M Flow := (sSeq (sIf (mT (mOr (mNot (xIsi (mBor 0) .tuple)) (mOr (xCmp .eq (mVar 0) (xTup aNil)) (mNot (xIsi (xIdx (mBor 0) (M.pure (.int 0))) .str))))) (sRet (M.pure (.bl false))) sNx) (sSeq (sAsg (xCall P 477 1 (aCons (xIdx (mBor 0) (M.pure (.int 0))) aNil)) (mSet 1)) (sSeq (sIf (mT (mOr (xCmp .eq (mBor 1) (M.pure (.str []))) (xCmp .ne (xLen (mBor 1)) (xBin .sub (xLen (mBor 0)) (M.pure (.int 1)))))) (sRet (M.pure (.bl false))) sNx) (sRet (xBi .all (aCons (xFz (fComp (mZipS (aCons (mVar 1) (aCons (mSlc (mBor 0) (mPart (M.pure (.int 1))) (M.pure none)) aNil))) [2, 3] (gUnp 2 (gCon (mSet 2) (gCon (mSet 3) gEnd))) (M.pure true) (xCall P 276 2 (aCons (mVar 2) (aCons (mVar 3) aNil))))) aNil))))))
abbrev fd_275 : FD := ⟨1, 4, b_275⟩
/-- _law_odd: _law_pot_here _law_six _law_turn _law_some -/
def b_478 (P : Prm) : M Flow := (sSeq (sAsg (M.pure (.str [110,117,109])) (mSet 1)) (sSeq (sFor (mRng1 (aCons (M.pure (.int 6)) aNil)) (mSet 2) (sAsg (xTup (aCons (M.pure (.str [98,111,120])) (aCons (mVar 1) aNil))) (mSet 1))) (sSeq (sAsg (xFz (fLst (aCons (M.pure .non) (aCons (M.pure (.bl true)) (aCons (M.pure (.bl false)) (aCons (M.pure (.int 0)) (aCons (M.pure (.int 7)) (aCons (M.pure (.str [])) (aCons (M.pure (.str [65])) (aCons (M.pure (.str [97,98,99,100,101,102,103,104,105])) (aCons (M.pure (.str [97,110,121])) (aCons (M.pure (.str [110,117,109])) (aCons (M.pure (.str [100,101,101,100])) (aCons (M.pure (.str [120])) (aCons (M.pure (.str [119,97,108,108])) (aCons (xTup aNil) (aCons (xFz (fLst aNil)) (aCons (M.pure (.dic [])) (aCons (xTup (aCons (M.pure (.str [110,117,109])) aNil)) aNil))))))))))))))))))) (mSet 3)) (sSeq (sAsg (xBin .add (mVar 3) (xFz (fLst (aCons (xFz (fLst (aCons (M.pure (.str [110,117,109])) aNil))) (aCons (xTup (aCons (M.pure (.str [98,111,120])) aNil)) (aCons (xTup (aCons (M.pure (.str [100,101,101,100])) (aCons (M.pure (.str [110,117,109])) aNil))) (aCons (mVar 1) (aCons (xTup (aCons (M.pure (.str [110,117,109,98,101,114])) (aCons (M.pure (.bl true)) aNil))) (aCons (xTup (aCons (M.pure (.str [116,101,120,116])) (aCons (M.pure (.str [97,66,99])) aNil))) (aCons (xTup (aCons (M.pure (.str [110,97,109,101])) (aCons (M.pure (.str [])) aNil))) (aCons (M.pure (.str [97,32,98])) aNil))))))))))) (mSet 3)) (sSeq (sAsg (xBin .add (mVar 3) (xFz (fLst (aCons (xTup (aCons (M.pure (.str [116,101,120,116])) (aCons (M.pure (.str [97,98,99,100,101,102,103,104,105])) aNil))) (aCons (xTup (aCons (M.pure (.str [110,117,109,98,101,114])) (aCons (M.pure (.str [49])) aNil))) (aCons (xTup (aCons (M.pure (.str [119,97,108,108])) (aCons (M.pure (.str [119])) (aCons (M.pure (.str [110,117,109])) (aCons (M.pure (.str [97,110,121])) (aCons (xTup (aCons (M.pure (.str [110,117,109,98,101,114])) (aCons (M.pure (.int 1)) aNil))) aNil)))))) (aCons (xTup (aCons (M.pure (.str [97,100,100])) aNil)) aNil))))))) (mSet 3)) (sRet (xIdx (mVar 3) (xCall P 113 2 (aCons (mVar 0) (aCons (xLen (mBor 3)) aNil))))))))))
abbrev fd_478 : FD := ⟨1, 4, b_478⟩
/-- _law_otherwise: _law_pot_here _law_item _law_at _law_way -/
def b_479 (P : Prm) : M Flow := (sSeq (sIf (mT (mOr (mNot (xIsi (mBor 1) .tuple)) (xCmp .eq (mVar 1) (xTup aNil)))) (sRet (xCall P 478 1 (aCons (mVar 0) aNil))) sNx) (sSeq (sPar 2 3 (aCons (xCall P 113 2 (aCons (mVar 0) (aCons (xLen (mBor 1)) aNil))) (aCons (xCall P 113 2 (aCons (mVar 0) (aCons (M.pure (.int 12)) aNil))) aNil))) (sSeq (sIf (mT (xCmp .lt (mBor 3) (M.pure (.int 8)))) (sRet (xBin .add (xBin .add (mSlc (mBor 1) (M.pure none) (mPart (mVar 2))) (xTup (aCons (xCall P 479 2 (aCons (mVar 0) (aCons (xIdx (mBor 1) (mVar 2)) aNil))) aNil))) (mSlc (mVar 1) (mPart (xBin .add (mVar 2) (M.pure (.int 1)))) (M.pure none)))) sNx) (sSeq (sIf (mT (xCmp .eq (mBor 3) (M.pure (.int 8)))) (sRet (xBin .add (mSlc (mBor 1) (M.pure none) (mPart (mVar 2))) (mSlc (mVar 1) (mPart (xBin .add (mVar 2) (M.pure (.int 1)))) (M.pure none)))) sNx) (sSeq (sIf (mT (xCmp .eq (mBor 3) (M.pure (.int 9)))) (sRet (xBin .add (xBin .add (mSlc (mBor 1) (M.pure none) (mPart (mVar 2))) (xTup (aCons (xIdx (mBor 1) (mVar 2)) aNil))) (mSlc (mBor 1) (mPart (mVar 2)) (M.pure none)))) sNx) (sRet (mIte (xCmp .eq (mBor 3) (M.pure (.int 10))) (xFz (fList (mVar 1))) (xCall P 478 1 (aCons (mVar 0) aNil)))))))))
abbrev fd_479 : FD := ⟨2, 4, b_479⟩
/-- _law_many: _law_tree _law_below _law_sort _law_one -/
def b_480 (P : Prm) : M Flow := (sSeq (sAsg (xFz (fComp (mZipS (aCons (xCall P 477 1 (aCons (xIdx (mBor 0) (M.pure (.int 0))) aNil)) (aCons (mSlc (mBor 0) (mPart (M.pure (.int 1))) (M.pure none)) aNil))) [2, 3] (gUnp 2 (gCon (mSet 2) (gCon (mSet 3) gEnd))) (mT (xCmp .eq (mBor 2) (M.pure (.str [101])))) (mVar 3))) (mSet 1)) (sRet (xBin .add (M.pure (.int 1)) (xBi .sum (aCons (xFz (fComp (mItems (mVar 1)) [3] (mSet 3) (M.pure true) (xCall P 480 1 (aCons (mVar 3) aNil)))) aNil)))))
abbrev fd_480 : FD := ⟨1, 4, b_480⟩
/-- _law_told: _law_item _law_kept _law_told_here -/
def b_481 (P : Prm) : M Flow := (sSeq (sAsg (xBi .repr (aCons (mVar 0) aNil)) (mSet 1)) (sSeq (sAsg (xFz (fLst (aCons (xCall P 263 1 (aCons (mVar 0) aNil)) (aCons (xCall P 263 1 (aCons (mVar 0) aNil)) (aCons (mCalk P 263 0 1 aNil (aCons (mVar 0) aNil) [.inl 0]) aNil))))) (mSet 2)) (sRet (mAnd (xCmp .eq (xBi .repr (aCons (mVar 2) aNil)) (xBi .repr (aCons (xBin .mul (xFz (fLst (aCons (xCall P 275 1 (aCons (mVar 0) aNil)) aNil))) (M.pure (.int 3))) aNil))) (xCmp .eq (xBi .repr (aCons (mVar 0) aNil)) (mBor 1))))))
abbrev fd_481 : FD := ⟨1, 3, b_481⟩
/-- _law_right: _law_pot_here _law_tree _law_turn _law_item -/
def b_482 (P : Prm) : M Flow := (sSeq (sAsg (xCall P 272 3 (aCons (mVar 0) (aCons (xCall P 269 1 (aCons (mVar 0) aNil)) (aCons (M.pure (.int 4)) aNil)))) (mSet 1)) (sSeq (sIf (mT (mOr (mNot (xCall P 275 1 (aCons (mVar 1) aNil))) (mNot (xCall P 481 1 (aCons (mVar 1) aNil))))) (sRet (M.pure (.bl false))) sNx) (sSeq (sIf (mT (xCmp .ne (xBi .repr (aCons (xFz (fLst (aCons (xCall P 268 1 (aCons (mVar 1) aNil)) (aCons (mCalk P 268 0 1 aNil (aCons (mVar 1) aNil) [.inl 0]) aNil)))) aNil)) (xBi .repr (aCons (xBin .mul (xFz (fLst (aCons (xCall P 480 1 (aCons (mVar 1) aNil)) aNil))) (M.pure (.int 2))) aNil)))) (sRet (M.pure (.bl false))) sNx) (sSeq (sFor (mRng1 (aCons (M.pure (.int 5)) aNil)) (mSet 2) (sSeq (sAsg (xCall P 479 2 (aCons (mVar 0) (aCons (mVar 1) aNil))) (mSet 3)) (sSeq (sIf (mT (xCmp .gt (mBor 2) (M.pure (.int 2)))) (sAsg (xCall P 479 2 (aCons (mVar 0) (aCons (mVar 3) aNil))) (mSet 3)) sNx) (sIf (mT (mNot (xCall P 481 1 (aCons (mVar 3) aNil)))) (sRet (M.pure (.bl false))) sNx)))) (sRet (mAnd (xCall P 481 1 (aCons (xCall P 478 1 (aCons (mVar 0) aNil)) aNil)) (xCall P 481 1 (aCons (mVar 1) aNil))))))))
abbrev fd_482 : FD := ⟨1, 4, b_482⟩
/-- law: _law_script _law_k -/
def b_126 (P : Prm) : M Flow := (sRet (xBi .all (aCons (xFz (fComp (mRng1 (aCons (xBi .max2 (aCons (M.pure (.int 1)) (aCons (xBi .min2 (aCons (M.pure (.int 6)) (aCons (xLen (mBor 0)) aNil))) aNil))) aNil)) [1] (mSet 1) (M.pure true) (xCall P 482 1 (aCons (xCall P 112 2 (aCons (mVar 0) (aCons (mVar 1) aNil))) aNil)))) aNil)))
abbrev fd_126 : FD := ⟨1, 2, b_126⟩
def TF : Nat → Option FD
  | 149 => some fd_149
  | 101 => some fd_101
  | 102 => some fd_102
  | 261 => some fd_261
  | 262 => some fd_262
  | 264 => some fd_264
  | 263 => some fd_263
  | 265 => some fd_265
  | 266 => some fd_266
  | 267 => some fd_267
  | 268 => some fd_268
  | 112 => some fd_112
  | 113 => some fd_113
  | 193 => some fd_193
  | 114 => some fd_114
  | 269 => some fd_269
  | 270 => some fd_270
  | 271 => some fd_271
  | 477 => some fd_477
  | 273 => some fd_273
  | 272 => some fd_272
  | 244 => some fd_244
  | 274 => some fd_274
  | 276 => some fd_276
  | 275 => some fd_275
  | 478 => some fd_478
  | 479 => some fd_479
  | 480 => some fd_480
  | 481 => some fd_481
  | 482 => some fd_482
  | 126 => some fd_126
  | _ => none
def TT : Tb := ⟨TF, shownD, 4096⟩
instance : Fn TT 149 fd_149 := ⟨rfl⟩
instance : Fn TT 101 fd_101 := ⟨rfl⟩
instance : Fn TT 102 fd_102 := ⟨rfl⟩
instance : Fn TT 261 fd_261 := ⟨rfl⟩
instance : Fn TT 262 fd_262 := ⟨rfl⟩
instance : Fn TT 264 fd_264 := ⟨rfl⟩
instance : Fn TT 263 fd_263 := ⟨rfl⟩
instance : Fn TT 265 fd_265 := ⟨rfl⟩
instance : Fn TT 266 fd_266 := ⟨rfl⟩
instance : Fn TT 267 fd_267 := ⟨rfl⟩
instance : Fn TT 268 fd_268 := ⟨rfl⟩
instance : Fn TT 112 fd_112 := ⟨rfl⟩
instance : Fn TT 113 fd_113 := ⟨rfl⟩
instance : Fn TT 193 fd_193 := ⟨rfl⟩
instance : Fn TT 114 fd_114 := ⟨rfl⟩
instance : Fn TT 269 fd_269 := ⟨rfl⟩
instance : Fn TT 270 fd_270 := ⟨rfl⟩
instance : Fn TT 271 fd_271 := ⟨rfl⟩
instance : Fn TT 477 fd_477 := ⟨rfl⟩
instance : Fn TT 273 fd_273 := ⟨rfl⟩
instance : Fn TT 272 fd_272 := ⟨rfl⟩
instance : Fn TT 244 fd_244 := ⟨rfl⟩
instance : Fn TT 274 fd_274 := ⟨rfl⟩
instance : Fn TT 276 fd_276 := ⟨rfl⟩
instance : Fn TT 275 fd_275 := ⟨rfl⟩
instance : Fn TT 478 fd_478 := ⟨rfl⟩
instance : Fn TT 479 fd_479 := ⟨rfl⟩
instance : Fn TT 480 fd_480 := ⟨rfl⟩
instance : Fn TT 481 fd_481 := ⟨rfl⟩
instance : Fn TT 482 fd_482 := ⟨rfl⟩
instance : Fn TT 126 fd_126 := ⟨rfl⟩
abbrev PP (k : Nat) : Prm := TT.prm (callT TT k)
def top (i : Nat) : Stmt := PySem.Challenge.pw_wallseal_k41_what_is_a_term.main.body.getD i (.Pass ⟨0, 0, 0, 0⟩)
structure Fx (P : PySem.Program) (w : World) (K : PySem.W.Frag) (mg : Str → Option Value) (base : Heap) (c : Kx) (k : Nat) : Prop where
  sm : SmOk K
  g_len : mg "len" = none
  c_MOST_LETTERS : Gc mg c "MOST_LETTERS" (.int 8)
  g_isinstance : mg "isinstance" = none
  g_str : mg "str" = none
  c_LETTERS_forms : Gc mg c "LETTERS_forms" (.str [97,98,99,100,101,102,103,104,105,106,107,108,109,110,111,112,113,114,115,116,117,118,119,120,121,122])
  g_all : mg "all" = none
  c_PLAIN : Gc mg c "PLAIN" (.tup [(.str [97,110,121]), (.str [110,117,109]), (.str [116,101,120,116])])
  g_tuple : mg "tuple" = none
  c_WIDTHS : Gc mg c "WIDTHS" (.dic [((.str [100,101,101,100]), (.int 3)), ((.str [98,111,120]), (.int 2))])
  f_101 : Fe P w K mg base c (callT TT k) k "is_form_to" 101 ["thing", "high"] (fun fd => Binds K fd ["thing", "high"] [])
  c_MOST_HEIGHT : Gc mg c "MOST_HEIGHT" (.int 5)
  g_bool : mg "bool" = none
  g_int : mg "int" = none
  c_LETTERS_terms : Gc mg c "LETTERS_terms" (.str [97,98,99,100,101,102,103,104,105,106,107,108,109,110,111,112,113,114,115,116,117,118,119,120,121,122])
  c_MOST_SIGNS : Gc mg c "MOST_SIGNS" (.int 8)
  f_261 : Fe P w K mg base c (callT TT k) k "is_whole" 261 ["thing"] (fun fd => Binds K fd ["thing"] [])
  f_262 : Fe P w K mg base c (callT TT k) k "is_written" 262 ["thing"] (fun fd => Binds K fd ["thing"] [])
  f_149 : Fe P w K mg base c (callT TT k) k "is_name" 149 ["thing"] (fun fd => Binds K fd ["thing"] [])
  f_102 : Fe P w K mg base c (callT TT k) k "is_form" 102 ["thing"] (fun fd => Binds K fd ["thing"] [])
  f_263 : Fe P w K mg base c (callT TT k) k "is_term" 263 ["thing"] (fun fd => Binds K fd ["thing"] [])
  c_SHAPES : Gc mg c "SHAPES" (.dic [((.str [110,117,109,98,101,114]), (.str [119])), ((.str [116,101,120,116]), (.str [108])), ((.str [110,97,109,101]), (.str [120])), ((.str [100,101,101,100]), (.str [120,65,101])), ((.str [99,97,108,108]), (.str [101,101])), ((.str [108,101,116]), (.str [120,101,101])), ((.str [116,101,108,108]), (.str [65,101])), ((.str [105,102]), (.str [101,101,101])), ((.str [97,100,100]), (.str [101,101])), ((.str [115,117,98]), (.str [101,101])), ((.str [115,105,122,101]), (.str [101])), ((.str [98,111,120]), (.str [65,101])), ((.str [114,101,97,100]), (.str [101])), ((.str [119,114,105,116,101]), (.str [101,101])), ((.str [115,97,109,101]), (.str [101,101])), ((.str [100,111]), (.str [101,101]))])
  g_zip : mg "zip" = none
  f_264 : Fe P w K mg base c (callT TT k) k "fits" 264 ["sort", "thing"] (fun fd => Binds K fd ["sort", "thing"] [])
  e_147 : Ge mg K c "NoTerm" 147
  f_266 : Fe P w K mg base c (callT TT k) k "terms_in" 266 ["term"] (fun fd => Binds K fd ["term"] [])
  f_267 : Fe P w K mg base c (callT TT k) k "many_in" 267 ["term"] (fun fd => Binds K fd ["term"] [])
  g_sum : mg "sum" = none
  f_265 : Fe P w K mg base c (callT TT k) k "want_term" 265 ["thing"] (fun fd => Binds K fd ["thing"] [])
  g_abs : mg "abs" = none
  g_max : mg "max" = none
  g_divmod : mg "divmod" = none
  f_113 : Fe P w K mg base c (callT TT k) k "_law_digit" 113 ["_law_pot_here", "_law_many_here"] (fun fd => Binds K fd ["_law_pot_here", "_law_many_here"] [])
  g_range : mg "range" = none
  f_114 : Fe P w K mg base c (callT TT k) k "_law_form" 114 ["_law_pot_here", "_law_high"] (fun fd => Binds K fd ["_law_pot_here", "_law_high"] [])
  f_193 : Fe P w K mg base c (callT TT k) k "_law_name" 193 ["_law_pot_here", "_law_used"] (fun fd => Binds K fd ["_law_pot_here", "_law_used"] [])
  f_270 : Fe P w K mg base c (callT TT k) k "_law_number" 270 ["_law_pot_here"] (fun fd => Binds K fd ["_law_pot_here"] [])
  f_271 : Fe P w K mg base c (callT TT k) k "_law_letters" 271 ["_law_pot_here"] (fun fd => Binds K fd ["_law_pot_here"] [])
  f_272 : Fe P w K mg base c (callT TT k) k "_law_any_term" 272 ["_law_pot_here", "_law_pool_here", "_law_deep"] (fun fd => Binds K fd ["_law_pot_here", "_law_pool_here", "_law_deep"] [])
  f_477 : Fe P w K mg base c (callT TT k) k "_law_shape" 477 ["_law_word"] (fun fd => Binds K fd ["_law_word"] [])
  f_273 : Fe P w K mg base c (callT TT k) k "_law_part" 273 ["_law_pot_here", "_law_sort", "_law_pool_here", "_law_deep"] (fun fd => Binds K fd ["_law_pot_here", "_law_sort", "_law_pool_here", "_law_deep"] [])
  f_244 : Fe P w K mg base c (callT TT k) k "_law_is_form" 244 ["_law_item", "_law_high"] (fun fd => Binds K fd ["_law_item", "_law_high"] [])
  f_274 : Fe P w K mg base c (callT TT k) k "_law_is_word" 274 ["_law_item", "_law_least"] (fun fd => Binds K fd ["_law_item", "_law_least"] [])
  f_275 : Fe P w K mg base c (callT TT k) k "_law_is_term" 275 ["_law_item"] (fun fd => Binds K fd ["_law_item"] [])
  f_276 : Fe P w K mg base c (callT TT k) k "_law_fits" 276 ["_law_sort", "_law_item"] (fun fd => Binds K fd ["_law_sort", "_law_item"] [])
  f_478 : Fe P w K mg base c (callT TT k) k "_law_odd" 478 ["_law_pot_here"] (fun fd => Binds K fd ["_law_pot_here"] [])
  f_479 : Fe P w K mg base c (callT TT k) k "_law_otherwise" 479 ["_law_pot_here", "_law_item"] (fun fd => Binds K fd ["_law_pot_here", "_law_item"] [])
  g_list : mg "list" = none
  f_480 : Fe P w K mg base c (callT TT k) k "_law_many" 480 ["_law_tree"] (fun fd => Binds K fd ["_law_tree"] [])
  g_repr : mg "repr" = none
  k_263_0_thing : Fe P w K mg base c (callT TT k) k "is_term" 263 ["thing"] (fun fd => KSrc K fd ["thing"] 0 ["thing"] [.inl 0])
  f_269 : Fe P w K mg base c (callT TT k) k "_law_pool" 269 ["_law_pot_here"] (fun fd => Binds K fd ["_law_pot_here"] [])
  f_481 : Fe P w K mg base c (callT TT k) k "_law_told" 481 ["_law_item"] (fun fd => Binds K fd ["_law_item"] [])
  k_268_0_term : Fe P w K mg base c (callT TT k) k "parts_in" 268 ["term"] (fun fd => KSrc K fd ["term"] 0 ["term"] [.inl 0])
  f_268 : Fe P w K mg base c (callT TT k) k "parts_in" 268 ["term"] (fun fd => Binds K fd ["term"] [])
  g_min : mg "min" = none
  f_482 : Fe P w K mg base c (callT TT k) k "_law_right" 482 ["_law_pot_here"] (fun fd => Binds K fd ["_law_pot_here"] [])
  f_112 : Fe P w K mg base c (callT TT k) k "_law_pot" 112 ["_law_script", "_law_k"] (fun fd => Binds K fd ["_law_script", "_law_k"] [])
abbrev Walks (P : PySem.Program) (w : World) (K : PySem.W.Frag) (mg : Str → Option Value) (base : Heap) (ca : Nat → Option Addr) (k : Nat) (N : List Str) (qual : Str) (scope : Scope) (body : List Stmt) (m : M Flow) : Prop :=
  ∀ (f : Addr) (cdv : Value) (A : Around) (outer : List PySem.Env) (s : Shared) (H : Hp) (E : XK), Room (2 * k + 1) (A.deeper (envOfC qual scope s.heap.objs.size f cdv)) → (A.deeper (envOfC qual scope s.heap.objs.size f cdv)).guards = some [] →
    PSs (cxOf (L2.CX P w) P w K mg base N qual scope f cdv A outer s H E) body (tS ⟨K, w, ca⟩ (fun cls d _ H => E cls d H) m)
section
variable {P : PySem.Program} {w : World} {K : PySem.W.Frag} {mg : Str → Option Value} {base : Heap} {ca : Nat → Option Addr} {k : Nat}
theorem w_149 (Z : Fx P w K mg base ⟨K, w, ca⟩ k) : Walks P w K mg base ca k ["thing", "sign"] "is_name" (defScope (top 9)) (defBody (top 9)) (b_149 (TT.prm (callT TT k))) := by
  intro f cdv A outer s H E hr hg
  have B := bg_of (P := P) (w := w) (K := K) (mg := mg) (base := base) (N := ["thing", "sign"]) (f := f) (cdv := cdv) (A := A) (outer := outer) (s := s) (H := H) (E := E) (ca := ca) hr hg (by decide +kernel) Z.sm
  have hp : PassesOwn (model P w) (cxOf (L2.CX P w) P w K mg base ["thing", "sign"] "is_name" (defScope (top 9)) f cdv A outer s H E).A (cxOf (L2.CX P w) P w K mg base ["thing", "sign"] "is_name" (defScope (top 9)) f cdv A outer s H E).env (cxOf (L2.CX P w) P w K mg base ["thing", "sign"] "is_name" (defScope (top 9)) f cdv A outer s H E).xe := passes_of rfl
  exact (os_seq (os_if (PW.pt (okW_or (kT_not (kT_of B (k_isi B .str Z.g_isinstance rfl Z.g_str rfl (k_bvar B 0 rfl rfl) rfl rfl (by decide) (by decide) rfl rfl rfl rfl) (fun _ => rfl))) (okW_one_or (kT_not (kT_chn B .le .le ok_int (k_len B Z.g_len rfl (k_bvar B 0 rfl rfl) rfl (by decide) rfl rfl rfl) (k_glo Z.c_MOST_LETTERS rfl rfl) rfl))))) (os_one (os_ret ok_bl)) os_nil)
    (os_one (os_ret (k_bi B .all rfl Z.g_all rfl (k_cons (k_fz (kF_comp B (oi_sq B.hK (k_var B 0 rfl rfl)) (blkOk_by (N := ["thing", "sign"]) (sc := defScope (top 9)) (own := [("sign", 1)]) (by decide +kernel)) rfl (fun s0 H0 C0 cl0 fp0 B => (g_name B 1 rfl rfl rfl (zOwn_set (by decide)))) (fun s0 H0 C0 cl0 fp0 B => ots_nil) (fun s0 H0 C0 cl0 fp0 B => (k_cmp2 B .in_ (k_bvar B 1 rfl rfl) (k_sglo Z.c_LETTERS_forms rfl rfl) rfl)) (fun _ => rfl))) k_nil rfl) rfl (by decide) rfl rfl rfl))))
theorem w_101 (Z : Fx P w K mg base ⟨K, w, ca⟩ k) : Walks P w K mg base ca k ["thing", "high", "word", "parts", "part"] "is_form_to" (defScope (top 10)) (defBody (top 10)) (b_101 (TT.prm (callT TT k))) := by
  intro f cdv A outer s H E hr hg
  have B := bg_of (P := P) (w := w) (K := K) (mg := mg) (base := base) (N := ["thing", "high", "word", "parts", "part"]) (f := f) (cdv := cdv) (A := A) (outer := outer) (s := s) (H := H) (E := E) (ca := ca) hr hg (by decide +kernel) Z.sm
  have hp : PassesOwn (model P w) (cxOf (L2.CX P w) P w K mg base ["thing", "high", "word", "parts", "part"] "is_form_to" (defScope (top 10)) f cdv A outer s H E).A (cxOf (L2.CX P w) P w K mg base ["thing", "high", "word", "parts", "part"] "is_form_to" (defScope (top 10)) f cdv A outer s H E).env (cxOf (L2.CX P w) P w K mg base ["thing", "high", "word", "parts", "part"] "is_form_to" (defScope (top 10)) f cdv A outer s H E).xe := passes_of rfl
  exact (os_seq (os_if (kT_of B (k_isi B .str Z.g_isinstance rfl Z.g_str rfl (k_bvar B 0 rfl rfl) rfl rfl (by decide) (by decide) rfl rfl rfl rfl) (fun _ => rfl)) (os_one (os_ret (k_cmp2 B .in_ (k_bvar B 0 rfl rfl) (k_sglo Z.c_PLAIN rfl rfl) rfl))) os_nil)
    (os_seq (os_if (PW.pt (okW_or (kT_not (kT_of B (k_isi B .tuple Z.g_isinstance rfl Z.g_tuple rfl (k_bvar B 0 rfl rfl) rfl rfl (by decide) (by decide) rfl rfl rfl rfl) (fun _ => rfl))) (okW_or (kT_cmp B .eq (k_var B 0 rfl rfl) (PE.toBo (k_tup k_nil)) rfl) (okW_one_or (kT_cmp2 B .eq (k_bvar B 1 rfl rfl) k_sint rfl))))) (os_one (os_ret ok_bl)) os_nil)
    (os_seq (os_asg (k_var B 0 rfl rfl) (g_star B zr_any (g_name B 2 rfl rfl rfl (zAny_set 2)) (g_name B 3 rfl rfl rfl (zAny_set 3)) rfl rfl rfl) rfl rfl rfl)
    (os_seq (os_if (PW.pt (okW_or (kT_not (kT_of B (k_isi B .str Z.g_isinstance rfl Z.g_str rfl (k_bvar B 2 rfl rfl) rfl rfl (by decide) (by decide) rfl rfl rfl rfl) (fun _ => rfl))) (okW_or (kT_cmp2 B .nin (k_bvar B 2 rfl rfl) (k_sglo Z.c_WIDTHS rfl rfl) rfl) (okW_one_or (kT_cmp B .ne (k_len B Z.g_len rfl (k_bvar B 0 rfl rfl) rfl (by decide) rfl rfl rfl) (PE.toBo (k_idx2 B (PE.toBo (k_glo Z.c_WIDTHS rfl rfl)) (k_svar B 2 rfl rfl) (fun _ _ => rfl))) rfl))))) (os_one (os_ret ok_bl)) os_nil)
    (os_one (os_ret (k_bi B .all rfl Z.g_all rfl (k_cons (k_fz (kF_comp B (oi_sq B.hK (k_var B 3 rfl rfl)) (blkOk_by (N := ["thing", "high", "word", "parts", "part"]) (sc := defScope (top 10)) (own := [("part", 4)]) (by decide +kernel)) rfl (fun s0 H0 C0 cl0 fp0 B => (g_name B 4 rfl rfl rfl (zOwn_set (by decide)))) (fun s0 H0 C0 cl0 fp0 B => ots_nil) (fun s0 H0 C0 cl0 fp0 B => (k_call (P := PP k) B Z.f_101 (k_cons (k_var B 4 rfl rfl) (k_cons (k_bin B .sub (k_var B 1 rfl rfl) ok_int) k_nil rfl) rfl) rfl rfl rfl rfl)) (fun _ => rfl))) k_nil rfl) rfl (by decide) rfl rfl rfl)))))))
theorem w_102 (Z : Fx P w K mg base ⟨K, w, ca⟩ k) : Walks P w K mg base ca k ["thing"] "is_form" (defScope (top 11)) (defBody (top 11)) (b_102 (TT.prm (callT TT k))) := by
  intro f cdv A outer s H E hr hg
  have B := bg_of (P := P) (w := w) (K := K) (mg := mg) (base := base) (N := ["thing"]) (f := f) (cdv := cdv) (A := A) (outer := outer) (s := s) (H := H) (E := E) (ca := ca) hr hg (by decide +kernel) Z.sm
  have hp : PassesOwn (model P w) (cxOf (L2.CX P w) P w K mg base ["thing"] "is_form" (defScope (top 11)) f cdv A outer s H E).A (cxOf (L2.CX P w) P w K mg base ["thing"] "is_form" (defScope (top 11)) f cdv A outer s H E).env (cxOf (L2.CX P w) P w K mg base ["thing"] "is_form" (defScope (top 11)) f cdv A outer s H E).xe := passes_of rfl
  exact (os_one (os_ret (k_call (P := PP k) B Z.f_101 (k_cons (k_var B 0 rfl rfl) (k_cons (k_glo Z.c_MOST_HEIGHT rfl rfl) k_nil rfl) rfl) rfl rfl rfl rfl)))
theorem w_261 (Z : Fx P w K mg base ⟨K, w, ca⟩ k) : Walks P w K mg base ca k ["thing"] "is_whole" (defScope (top 16)) (defBody (top 16)) (b_261 (TT.prm (callT TT k))) := by
  intro f cdv A outer s H E hr hg
  have B := bg_of (P := P) (w := w) (K := K) (mg := mg) (base := base) (N := ["thing"]) (f := f) (cdv := cdv) (A := A) (outer := outer) (s := s) (H := H) (E := E) (ca := ca) hr hg (by decide +kernel) Z.sm
  have hp : PassesOwn (model P w) (cxOf (L2.CX P w) P w K mg base ["thing"] "is_whole" (defScope (top 16)) f cdv A outer s H E).A (cxOf (L2.CX P w) P w K mg base ["thing"] "is_whole" (defScope (top 16)) f cdv A outer s H E).env (cxOf (L2.CX P w) P w K mg base ["thing"] "is_whole" (defScope (top 16)) f cdv A outer s H E).xe := passes_of rfl
  exact (os_one (os_ret (k_and B (k_isi B .int Z.g_isinstance rfl Z.g_int rfl (k_bvar B 0 rfl rfl) rfl rfl (by decide) (by decide) rfl rfl rfl rfl) (ok_one (k_not B (k_isi B .bool Z.g_isinstance rfl Z.g_bool rfl (k_bvar B 0 rfl rfl) rfl rfl (by decide) (by decide) rfl rfl rfl rfl))))))
theorem w_262 (Z : Fx P w K mg base ⟨K, w, ca⟩ k) : Walks P w K mg base ca k ["thing", "sign"] "is_written" (defScope (top 17)) (defBody (top 17)) (b_262 (TT.prm (callT TT k))) := by
  intro f cdv A outer s H E hr hg
  have B := bg_of (P := P) (w := w) (K := K) (mg := mg) (base := base) (N := ["thing", "sign"]) (f := f) (cdv := cdv) (A := A) (outer := outer) (s := s) (H := H) (E := E) (ca := ca) hr hg (by decide +kernel) Z.sm
  have hp : PassesOwn (model P w) (cxOf (L2.CX P w) P w K mg base ["thing", "sign"] "is_written" (defScope (top 17)) f cdv A outer s H E).A (cxOf (L2.CX P w) P w K mg base ["thing", "sign"] "is_written" (defScope (top 17)) f cdv A outer s H E).env (cxOf (L2.CX P w) P w K mg base ["thing", "sign"] "is_written" (defScope (top 17)) f cdv A outer s H E).xe := passes_of rfl
  exact (os_one (os_ret (k_and B (k_isi B .str Z.g_isinstance rfl Z.g_str rfl (k_bvar B 0 rfl rfl) rfl rfl (by decide) (by decide) rfl rfl rfl rfl) (k_and B (k_cmp2 B .le (PE.toBo (k_len B Z.g_len rfl (k_bvar B 0 rfl rfl) rfl (by decide) rfl rfl rfl)) (k_sglo Z.c_MOST_SIGNS rfl rfl) rfl) (ok_one (k_bi B .all rfl Z.g_all rfl (k_cons (k_fz (kF_comp B (oi_sq B.hK (k_var B 0 rfl rfl)) (blkOk_by (N := ["thing", "sign"]) (sc := defScope (top 17)) (own := [("sign", 1)]) (by decide +kernel)) rfl (fun s0 H0 C0 cl0 fp0 B => (g_name B 1 rfl rfl rfl (zOwn_set (by decide)))) (fun s0 H0 C0 cl0 fp0 B => ots_nil) (fun s0 H0 C0 cl0 fp0 B => (k_cmp2 B .in_ (k_bvar B 1 rfl rfl) (k_sglo Z.c_LETTERS_terms rfl rfl) rfl)) (fun _ => rfl))) k_nil rfl) rfl (by decide) rfl rfl rfl))))))
theorem w_264 (Z : Fx P w K mg base ⟨K, w, ca⟩ k) : Walks P w K mg base ca k ["sort", "thing"] "fits" (defScope (top 18)) (defBody (top 18)) (b_264 (TT.prm (callT TT k))) := by
  intro f cdv A outer s H E hr hg
  have B := bg_of (P := P) (w := w) (K := K) (mg := mg) (base := base) (N := ["sort", "thing"]) (f := f) (cdv := cdv) (A := A) (outer := outer) (s := s) (H := H) (E := E) (ca := ca) hr hg (by decide +kernel) Z.sm
  have hp : PassesOwn (model P w) (cxOf (L2.CX P w) P w K mg base ["sort", "thing"] "fits" (defScope (top 18)) f cdv A outer s H E).A (cxOf (L2.CX P w) P w K mg base ["sort", "thing"] "fits" (defScope (top 18)) f cdv A outer s H E).env (cxOf (L2.CX P w) P w K mg base ["sort", "thing"] "fits" (defScope (top 18)) f cdv A outer s H E).xe := passes_of rfl
  exact (os_seq (os_if (kT_cmp2 B .eq (k_bvar B 0 rfl rfl) (k_sstr [119] (by decide +kernel)) rfl) (os_one (os_ret (k_call (P := PP k) B Z.f_261 (k_cons (k_var B 1 rfl rfl) k_nil rfl) rfl rfl rfl rfl))) os_nil)
    (os_seq (os_if (kT_cmp2 B .eq (k_bvar B 0 rfl rfl) (k_sstr [108] (by decide +kernel)) rfl) (os_one (os_ret (k_call (P := PP k) B Z.f_262 (k_cons (k_var B 1 rfl rfl) k_nil rfl) rfl rfl rfl rfl))) os_nil)
    (os_seq (os_if (kT_cmp2 B .eq (k_bvar B 0 rfl rfl) (k_sstr [120] (by decide +kernel)) rfl) (os_one (os_ret (k_call (P := PP k) B Z.f_149 (k_cons (k_var B 1 rfl rfl) k_nil rfl) rfl rfl rfl rfl))) os_nil)
    (os_one (os_ret (ok_ite (kT_cmp2 B .eq (k_bvar B 0 rfl rfl) (k_sstr [65] (by decide +kernel)) rfl) (k_call (P := PP k) B Z.f_102 (k_cons (k_var B 1 rfl rfl) k_nil rfl) rfl rfl rfl rfl) (k_call (P := PP k) B Z.f_263 (k_cons (k_var B 1 rfl rfl) k_nil rfl) rfl rfl rfl rfl)))))))
theorem w_263 (Z : Fx P w K mg base ⟨K, w, ca⟩ k) : Walks P w K mg base ca k ["thing", "word", "others", "shape", "sort", "one"] "is_term" (defScope (top 19)) (defBody (top 19)) (b_263 (TT.prm (callT TT k))) := by
  intro f cdv A outer s H E hr hg
  have B := bg_of (P := P) (w := w) (K := K) (mg := mg) (base := base) (N := ["thing", "word", "others", "shape", "sort", "one"]) (f := f) (cdv := cdv) (A := A) (outer := outer) (s := s) (H := H) (E := E) (ca := ca) hr hg (by decide +kernel) Z.sm
  have hp : PassesOwn (model P w) (cxOf (L2.CX P w) P w K mg base ["thing", "word", "others", "shape", "sort", "one"] "is_term" (defScope (top 19)) f cdv A outer s H E).A (cxOf (L2.CX P w) P w K mg base ["thing", "word", "others", "shape", "sort", "one"] "is_term" (defScope (top 19)) f cdv A outer s H E).env (cxOf (L2.CX P w) P w K mg base ["thing", "word", "others", "shape", "sort", "one"] "is_term" (defScope (top 19)) f cdv A outer s H E).xe := passes_of rfl
  exact (os_seq (os_if (PW.pt (okW_or (kT_not (kT_of B (k_isi B .tuple Z.g_isinstance rfl Z.g_tuple rfl (k_bvar B 0 rfl rfl) rfl rfl (by decide) (by decide) rfl rfl rfl rfl) (fun _ => rfl))) (okW_or (kT_cmp B .eq (k_var B 0 rfl rfl) (PE.toBo (k_tup k_nil)) rfl) (okW_or (kT_not (kT_of B (k_isi B .str Z.g_isinstance rfl Z.g_str rfl (PE.toBo (k_idx2 B (k_bvar B 0 rfl rfl) k_sint (fun _ _ => rfl))) rfl rfl (by decide) (by decide) rfl rfl rfl rfl) (fun _ => rfl))) (okW_one_or (kT_cmp2 B .nin (PE.toBo (k_idx2 B (k_bvar B 0 rfl rfl) k_sint (fun _ _ => rfl))) (k_sglo Z.c_SHAPES rfl rfl) rfl)))))) (os_one (os_ret ok_bl)) os_nil)
    (os_seq (os_asg (k_var B 0 rfl rfl) (g_star B zr_any (g_name B 1 rfl rfl rfl (zAny_set 1)) (g_name B 2 rfl rfl rfl (zAny_set 2)) rfl rfl rfl) rfl rfl rfl)
    (os_seq (os_asg (k_idx2 B (PE.toBo (k_glo Z.c_SHAPES rfl rfl)) (k_svar B 1 rfl rfl) (fun _ _ => rfl)) (g_name B 3 rfl rfl rfl (zAny_set 3)) rfl rfl rfl)
    (os_one (os_ret (k_and B (k_cmp B .eq (k_len B Z.g_len rfl (k_bvar B 2 rfl rfl) rfl (by decide) rfl rfl rfl) (PE.toBo (k_len B Z.g_len rfl (k_bvar B 3 rfl rfl) rfl (by decide) rfl rfl rfl)) rfl) (ok_one (k_bi B .all rfl Z.g_all rfl (k_cons (k_fz (kF_comp B (oi_zipS B.hK rfl Z.g_zip (k_cons (k_var B 3 rfl rfl) (k_cons (k_var B 2 rfl rfl) k_nil rfl) rfl) rfl rfl) (blkOk_by (N := ["thing", "word", "others", "shape", "sort", "one"]) (sc := defScope (top 19)) (own := [("sort", 4), ("one", 5)]) (by decide +kernel)) rfl (fun s0 H0 C0 cl0 fp0 B => (g_unp B (ogs_cons (zr_own [4, 5]) (g_name B 4 rfl rfl rfl (zOwn_set (by decide))) (ogs_cons (zr_own [4, 5]) (g_name B 5 rfl rfl rfl (zOwn_set (by decide))) (ogs_nil (zr_own [4, 5])) rfl) rfl) rfl rfl)) (fun s0 H0 C0 cl0 fp0 B => ots_nil) (fun s0 H0 C0 cl0 fp0 B => (k_call (P := PP k) B Z.f_264 (k_cons (k_var B 4 rfl rfl) (k_cons (k_var B 5 rfl rfl) k_nil rfl) rfl) rfl rfl rfl rfl)) (fun _ => rfl))) k_nil rfl) rfl (by decide) rfl rfl rfl))))))))
theorem w_265 (Z : Fx P w K mg base ⟨K, w, ca⟩ k) : Walks P w K mg base ca k ["thing"] "want_term" (defScope (top 20)) (defBody (top 20)) (b_265 (TT.prm (callT TT k))) := by
  intro f cdv A outer s H E hr hg
  have B := bg_of (P := P) (w := w) (K := K) (mg := mg) (base := base) (N := ["thing"]) (f := f) (cdv := cdv) (A := A) (outer := outer) (s := s) (H := H) (E := E) (ca := ca) hr hg (by decide +kernel) Z.sm
  have hp : PassesOwn (model P w) (cxOf (L2.CX P w) P w K mg base ["thing"] "want_term" (defScope (top 20)) f cdv A outer s H E).A (cxOf (L2.CX P w) P w K mg base ["thing"] "want_term" (defScope (top 20)) f cdv A outer s H E).env (cxOf (L2.CX P w) P w K mg base ["thing"] "want_term" (defScope (top 20)) f cdv A outer s H E).xe := passes_of rfl
  exact (os_one (os_if (kT_not (kT_of B (k_call (P := PP k) B Z.f_263 (k_cons (k_var B 0 rfl rfl) k_nil rfl) rfl rfl rfl rfl) (fun _ => rfl))) (os_one (k_raise B Z.e_147 rfl rfl)) os_nil))
theorem w_266 (Z : Fx P w K mg base ⟨K, w, ca⟩ k) : Walks P w K mg base ca k ["term", "word", "others", "sort", "one"] "terms_in" (defScope (top 21)) (defBody (top 21)) (b_266 (TT.prm (callT TT k))) := by
  intro f cdv A outer s H E hr hg
  have B := bg_of (P := P) (w := w) (K := K) (mg := mg) (base := base) (N := ["term", "word", "others", "sort", "one"]) (f := f) (cdv := cdv) (A := A) (outer := outer) (s := s) (H := H) (E := E) (ca := ca) hr hg (by decide +kernel) Z.sm
  have hp : PassesOwn (model P w) (cxOf (L2.CX P w) P w K mg base ["term", "word", "others", "sort", "one"] "terms_in" (defScope (top 21)) f cdv A outer s H E).A (cxOf (L2.CX P w) P w K mg base ["term", "word", "others", "sort", "one"] "terms_in" (defScope (top 21)) f cdv A outer s H E).env (cxOf (L2.CX P w) P w K mg base ["term", "word", "others", "sort", "one"] "terms_in" (defScope (top 21)) f cdv A outer s H E).xe := passes_of rfl
  exact (os_seq (os_asg (k_var B 0 rfl rfl) (g_star B zr_any (g_name B 1 rfl rfl rfl (zAny_set 1)) (g_name B 2 rfl rfl rfl (zAny_set 2)) rfl rfl rfl) rfl rfl rfl)
    (os_one (os_ret (k_fz (kF_comp B (oi_zv B.hK rfl Z.g_zip (k_cons (k_idx2 B (PE.toBo (k_glo Z.c_SHAPES rfl rfl)) (k_svar B 1 rfl rfl) (fun _ _ => rfl)) (k_cons (k_var B 2 rfl rfl) k_nil rfl) rfl) rfl rfl) (blkOk_by (N := ["term", "word", "others", "sort", "one"]) (sc := defScope (top 21)) (own := [("sort", 3), ("one", 4)]) (by decide +kernel)) rfl (fun s0 H0 C0 cl0 fp0 B => (g_unp B (ogs_cons (zr_own [3, 4]) (g_name B 3 rfl rfl rfl (zOwn_set (by decide))) (ogs_cons (zr_own [3, 4]) (g_name B 4 rfl rfl rfl (zOwn_set (by decide))) (ogs_nil (zr_own [3, 4])) rfl) rfl) rfl rfl)) (fun s0 H0 C0 cl0 fp0 B => (ots_one (kT_cmp2 B .eq (k_bvar B 3 rfl rfl) (k_sstr [101] (by decide +kernel)) rfl))) (fun s0 H0 C0 cl0 fp0 B => (k_var B 4 rfl rfl)) (fun _ => rfl))))))
theorem w_267 (Z : Fx P w K mg base ⟨K, w, ca⟩ k) : Walks P w K mg base ca k ["term", "one"] "many_in" (defScope (top 22)) (defBody (top 22)) (b_267 (TT.prm (callT TT k))) := by
  intro f cdv A outer s H E hr hg
  have B := bg_of (P := P) (w := w) (K := K) (mg := mg) (base := base) (N := ["term", "one"]) (f := f) (cdv := cdv) (A := A) (outer := outer) (s := s) (H := H) (E := E) (ca := ca) hr hg (by decide +kernel) Z.sm
  have hp : PassesOwn (model P w) (cxOf (L2.CX P w) P w K mg base ["term", "one"] "many_in" (defScope (top 22)) f cdv A outer s H E).A (cxOf (L2.CX P w) P w K mg base ["term", "one"] "many_in" (defScope (top 22)) f cdv A outer s H E).env (cxOf (L2.CX P w) P w K mg base ["term", "one"] "many_in" (defScope (top 22)) f cdv A outer s H E).xe := passes_of rfl
  exact (os_one (os_ret (k_bin B .add ok_int (k_bi B .sum rfl Z.g_sum rfl (k_cons (k_fz (kF_comp B (oi_sq B.hK (k_call (P := PP k) B Z.f_266 (k_cons (k_var B 0 rfl rfl) k_nil rfl) rfl rfl rfl rfl)) (blkOk_by (N := ["term", "one"]) (sc := defScope (top 22)) (own := [("one", 1)]) (by decide +kernel)) rfl (fun s0 H0 C0 cl0 fp0 B => (g_name B 1 rfl rfl rfl (zOwn_set (by decide)))) (fun s0 H0 C0 cl0 fp0 B => ots_nil) (fun s0 H0 C0 cl0 fp0 B => (k_call (P := PP k) B Z.f_267 (k_cons (k_var B 1 rfl rfl) k_nil rfl) rfl rfl rfl rfl)) (fun _ => rfl))) k_nil rfl) rfl (by decide) rfl rfl rfl))))
theorem w_268 (Z : Fx P w K mg base ⟨K, w, ca⟩ k) : Walks P w K mg base ca k ["term"] "parts_in" (defScope (top 23)) (defBody (top 23)) (b_268 (TT.prm (callT TT k))) := by
  intro f cdv A outer s H E hr hg
  have B := bg_of (P := P) (w := w) (K := K) (mg := mg) (base := base) (N := ["term"]) (f := f) (cdv := cdv) (A := A) (outer := outer) (s := s) (H := H) (E := E) (ca := ca) hr hg (by decide +kernel) Z.sm
  have hp : PassesOwn (model P w) (cxOf (L2.CX P w) P w K mg base ["term"] "parts_in" (defScope (top 23)) f cdv A outer s H E).A (cxOf (L2.CX P w) P w K mg base ["term"] "parts_in" (defScope (top 23)) f cdv A outer s H E).env (cxOf (L2.CX P w) P w K mg base ["term"] "parts_in" (defScope (top 23)) f cdv A outer s H E).xe := passes_of rfl
  exact (os_seq (os_ex (k_call (P := PP k) B Z.f_265 (k_cons (k_var B 0 rfl rfl) k_nil rfl) rfl rfl rfl rfl) rfl)
    (os_one (os_ret (k_call (P := PP k) B Z.f_267 (k_cons (k_var B 0 rfl rfl) k_nil rfl) rfl rfl rfl rfl))))
theorem w_112 (Z : Fx P w K mg base ⟨K, w, ca⟩ k) : Walks P w K mg base ca k ["_law_script", "_law_k", "_law_cell"] "_law_pot" (defScope (top 25)) (defBody (top 25)) (b_112 (TT.prm (callT TT k))) := by
  intro f cdv A outer s H E hr hg
  have B := bg_of (P := P) (w := w) (K := K) (mg := mg) (base := base) (N := ["_law_script", "_law_k", "_law_cell"]) (f := f) (cdv := cdv) (A := A) (outer := outer) (s := s) (H := H) (E := E) (ca := ca) hr hg (by decide +kernel) Z.sm
  have hp : PassesOwn (model P w) (cxOf (L2.CX P w) P w K mg base ["_law_script", "_law_k", "_law_cell"] "_law_pot" (defScope (top 25)) f cdv A outer s H E).A (cxOf (L2.CX P w) P w K mg base ["_law_script", "_law_k", "_law_cell"] "_law_pot" (defScope (top 25)) f cdv A outer s H E).env (cxOf (L2.CX P w) P w K mg base ["_law_script", "_law_k", "_law_cell"] "_law_pot" (defScope (top 25)) f cdv A outer s H E).xe := passes_of rfl
  exact (os_seq (os_asg (ok_ite (kT_cmp B .lt (k_var B 1 rfl rfl) (PE.toBo (k_len B Z.g_len rfl (k_bvar B 0 rfl rfl) rfl (by decide) rfl rfl rfl)) rfl) (k_idx2 B (k_bvar B 0 rfl rfl) (k_svar B 1 rfl rfl) (fun _ _ => rfl)) ok_int) (g_name B 2 rfl rfl rfl (zAny_set 2)) rfl rfl rfl)
    (os_one (os_ret (ok_cel (k_cons (k_bi B .max2 rfl Z.g_max rfl (k_cons ok_int (k_cons (k_bin B .sub (k_bi B .abs rfl Z.g_abs rfl (k_cons (k_var B 2 rfl rfl) k_nil rfl) rfl (by decide) rfl rfl rfl) (k_bin B .pow ok_int ok_int)) k_nil rfl) rfl) rfl (by decide) rfl rfl rfl) (k_cons (k_bin B .add (k_bin B .mod (k_bin B .pow (k_bin B .add (k_bin B .add (k_bin B .mod (k_bi B .abs rfl Z.g_abs rfl (k_cons (k_var B 2 rfl rfl) k_nil rfl) rfl (by decide) rfl rfl rfl) ok_int) (k_bin B .mul ok_int (k_var B 1 rfl rfl))) ok_int) ok_int) ok_int) ok_int) k_nil rfl) rfl)))))
theorem w_113 (Z : Fx P w K mg base ⟨K, w, ca⟩ k) : Walks P w K mg base ca k ["_law_pot_here", "_law_many_here", "_law_digit_here"] "_law_digit" (defScope (top 26)) (defBody (top 26)) (b_113 (TT.prm (callT TT k))) := by
  intro f cdv A outer s H E hr hg
  have B := bg_of (P := P) (w := w) (K := K) (mg := mg) (base := base) (N := ["_law_pot_here", "_law_many_here", "_law_digit_here"]) (f := f) (cdv := cdv) (A := A) (outer := outer) (s := s) (H := H) (E := E) (ca := ca) hr hg (by decide +kernel) Z.sm
  have hp : PassesOwn (model P w) (cxOf (L2.CX P w) P w K mg base ["_law_pot_here", "_law_many_here", "_law_digit_here"] "_law_digit" (defScope (top 26)) f cdv A outer s H E).A (cxOf (L2.CX P w) P w K mg base ["_law_pot_here", "_law_many_here", "_law_digit_here"] "_law_digit" (defScope (top 26)) f cdv A outer s H E).env (cxOf (L2.CX P w) P w K mg base ["_law_pot_here", "_law_many_here", "_law_digit_here"] "_law_digit" (defScope (top 26)) f cdv A outer s H E).xe := passes_of rfl
  exact (os_seq (os_if (kT_cmp2 B .gt (PE.toBo (k_idx2 B (k_bvar B 0 rfl rfl) k_sint (fun _ _ => rfl))) k_sint rfl) (os_seq (os_asg (k_bi B .divmod rfl Z.g_divmod rfl (k_cons (k_idx2 B (k_bvar B 0 rfl rfl) k_sint (fun _ _ => rfl)) (k_cons (k_var B 1 rfl rfl) k_nil rfl) rfl) rfl (by decide) rfl rfl rfl) (g_unp B (ogs_cons zr_any (g_put B zr_any (k_var B 0 rfl rfl) ok_int (fun _ => rfl)) (ogs_cons zr_any (g_name B 2 rfl rfl rfl (zAny_set 2)) (ogs_nil zr_any) rfl) rfl) rfl rfl) rfl rfl rfl)
    (os_one (os_ret (k_var B 2 rfl rfl)))) os_nil)
    (os_seq (os_asg (k_bin B .mod (k_bin B .add (k_bin B .mul (k_idx2 B (k_bvar B 0 rfl rfl) k_sint (fun _ _ => rfl)) ok_int) ok_int) ok_int) (g_put B zr_any (k_var B 0 rfl rfl) ok_int (fun _ => rfl)) rfl rfl rfl)
    (os_one (os_ret (k_bin B .mod (k_bin B .fdv (k_bin B .mod (k_bin B .mul (k_idx2 B (k_bvar B 0 rfl rfl) k_sint (fun _ _ => rfl)) (k_idx2 B (k_bvar B 0 rfl rfl) k_sint (fun _ _ => rfl))) ok_int) ok_int) (k_var B 1 rfl rfl))))))
theorem w_193 (Z : Fx P w K mg base ⟨K, w, ca⟩ k) : Walks P w K mg base ca k ["_law_pot_here", "_law_used", "_law_letters_here", "_law_size", "_law_word", "_law_near", "_law_some", "_law_k", "_law_one"] "_law_name" (defScope (top 27)) (defBody (top 27)) (b_193 (TT.prm (callT TT k))) := by
  intro f cdv A outer s H E hr hg
  have B := bg_of (P := P) (w := w) (K := K) (mg := mg) (base := base) (N := ["_law_pot_here", "_law_used", "_law_letters_here", "_law_size", "_law_word", "_law_near", "_law_some", "_law_k", "_law_one"]) (f := f) (cdv := cdv) (A := A) (outer := outer) (s := s) (H := H) (E := E) (ca := ca) hr hg (by decide +kernel) Z.sm
  have hp : PassesOwn (model P w) (cxOf (L2.CX P w) P w K mg base ["_law_pot_here", "_law_used", "_law_letters_here", "_law_size", "_law_word", "_law_near", "_law_some", "_law_k", "_law_one"] "_law_name" (defScope (top 27)) f cdv A outer s H E).A (cxOf (L2.CX P w) P w K mg base ["_law_pot_here", "_law_used", "_law_letters_here", "_law_size", "_law_word", "_law_near", "_law_some", "_law_k", "_law_one"] "_law_name" (defScope (top 27)) f cdv A outer s H E).env (cxOf (L2.CX P w) P w K mg base ["_law_pot_here", "_law_used", "_law_letters_here", "_law_size", "_law_word", "_law_near", "_law_some", "_law_k", "_law_one"] "_law_name" (defScope (top 27)) f cdv A outer s H E).xe := passes_of rfl
  exact (os_seq (os_asg (k_str [97,98,99,100,101,102,103,104,105,106,107,108,109,110,111,112,113,114,115,116,117,118,119,120,121,122] (by decide +kernel)) (g_name B 2 rfl rfl rfl (zAny_set 2)) rfl rfl rfl)
    (os_seq (os_asg (k_idx B (k_fz (kF_lst (k_cons ok_int (k_cons ok_int (k_cons ok_int (k_cons ok_int (k_cons ok_int (k_cons (k_bin B .add ok_int (k_call (P := PP k) B Z.f_113 (k_cons (k_var B 0 rfl rfl) (k_cons ok_int k_nil rfl) rfl) rfl rfl rfl rfl)) k_nil rfl) rfl) rfl) rfl) rfl) rfl))) (k_call (P := PP k) B Z.f_113 (k_cons (k_var B 0 rfl rfl) (k_cons ok_int k_nil rfl) rfl) rfl rfl rfl rfl) (fun _ _ => rfl)) (g_name B 3 rfl rfl rfl (zAny_set 3)) rfl rfl rfl)
    (os_seq (os_asg (k_join B (k_str [] (by decide +kernel)) (k_cons (k_fz (kF_comp B (oi_rng1 rfl Z.g_range (k_cons (k_var B 3 rfl rfl) k_nil rfl) rfl) (blkOk_by (N := ["_law_pot_here", "_law_used", "_law_letters_here", "_law_size", "_law_word", "_law_near", "_law_some", "_law_k", "_law_one"]) (sc := defScope (top 27)) (own := [("_law_k", 7)]) (by decide +kernel)) rfl (fun s0 H0 C0 cl0 fp0 B => (g_name B 7 rfl rfl rfl (zOwn_set (by decide)))) (fun s0 H0 C0 cl0 fp0 B => ots_nil) (fun s0 H0 C0 cl0 fp0 B => (k_idx B (k_var B 2 rfl rfl) (k_call (P := PP k) B Z.f_113 (k_cons (k_var B 0 rfl rfl) (k_cons ok_int k_nil rfl) rfl) rfl rfl rfl rfl) (fun _ _ => rfl))) (fun _ => rfl))) k_nil rfl) rfl rfl rfl rfl rfl) (g_name B 4 rfl rfl rfl (zAny_set 4)) rfl rfl rfl)
    (os_seq (os_if (kT_cmp2 B .eq (PE.toBo (k_call (P := PP k) B Z.f_113 (k_cons (k_var B 0 rfl rfl) (k_cons ok_int k_nil rfl) rfl) rfl rfl rfl rfl)) k_sint rfl) (os_one (os_asg (k_idx B (k_fz (kF_lst (k_cons (k_str [99,97,108,108] (by decide +kernel)) (k_cons (k_str [100,101,101,100] (by decide +kernel)) (k_cons (k_str [97,110,121] (by decide +kernel)) (k_cons (k_str [110,117,109] (by decide +kernel)) (k_cons (k_str [116,101,120,116] (by decide +kernel)) (k_cons (k_str [98,111,120] (by decide +kernel)) (k_cons (k_str [108,101,116] (by decide +kernel)) (k_cons (k_str [109,97,105,110] (by decide +kernel)) k_nil rfl) rfl) rfl) rfl) rfl) rfl) rfl) rfl))) (k_call (P := PP k) B Z.f_113 (k_cons (k_var B 0 rfl rfl) (k_cons ok_int k_nil rfl) rfl) rfl rfl rfl rfl) (fun _ _ => rfl)) (g_name B 4 rfl rfl rfl (zAny_set 4)) rfl rfl rfl)) os_nil)
    (os_seq (os_if (PW.pt (okW_and (kT_cmp2 B .ne (k_bvar B 1 rfl rfl) ok_snil rfl) (okW_one_and (kT_cmp2 B .eq (PE.toBo (k_call (P := PP k) B Z.f_113 (k_cons (k_var B 0 rfl rfl) (k_cons ok_int k_nil rfl) rfl) rfl rfl rfl rfl)) k_sint rfl)))) (os_seq (os_asg (k_idx B (k_var B 1 rfl rfl) (k_call (P := PP k) B Z.f_113 (k_cons (k_var B 0 rfl rfl) (k_cons (k_len B Z.g_len rfl (k_bvar B 1 rfl rfl) rfl (by decide) rfl rfl rfl) k_nil rfl) rfl) rfl rfl rfl rfl) (fun _ _ => rfl)) (g_name B 5 rfl rfl rfl (zAny_set 5)) rfl rfl rfl)
    (os_one (os_asg (k_bin B .add (k_slc B (k_var B 5 rfl rfl) po_no (po_yes (k_call (P := PP k) B Z.f_113 (k_cons (k_var B 0 rfl rfl) (k_cons (k_len B Z.g_len rfl (k_bvar B 5 rfl rfl) rfl (by decide) rfl rfl rfl) k_nil rfl) rfl) rfl rfl rfl rfl))) (k_slc2 B (k_bvar B 4 rfl rfl) po_nos (po_yess k_sint))) (g_name B 4 rfl rfl rfl (zAny_set 4)) rfl rfl rfl))) os_nil)
    (os_seq (os_if (kT_cmp B .in_ (k_var B 4 rfl rfl) (k_bvar B 1 rfl rfl) rfl) (os_seq (k_asgLc B 6 rfl rfl (sw_true rfl rfl rfl (by decide +kernel)) (oi_rng1 rfl Z.g_range (k_cons ok_int k_nil rfl) rfl) (blkOk_by (N := ["_law_pot_here", "_law_used", "_law_letters_here", "_law_size", "_law_word", "_law_near", "_law_some", "_law_k", "_law_one"]) (sc := defScope (top 27)) (own := [("_law_k", 7)]) (by decide +kernel)) rfl (fun s0 H0 C0 cl0 fp0 B => (g_name B 7 rfl rfl rfl (zOwn_set (by decide)))) (fun s0 H0 C0 cl0 fp0 B => ots_nil) (fun s0 H0 C0 cl0 fp0 B => (k_bin B .add (k_bin B .add (k_idx B (k_var B 2 rfl rfl) (k_bin B .fdv (k_var B 7 rfl rfl) ok_int) (fun _ _ => rfl)) (k_idx B (k_var B 2 rfl rfl) (k_bin B .mod (k_var B 7 rfl rfl) ok_int) (fun _ _ => rfl))) (k_str [113] (by decide +kernel)))) (fun _ => rfl))
    (os_one (os_asg (k_idx2 B (PE.toBo (k_fz (kF_comp B (oi_sq B.hK (k_var B 6 rfl rfl)) (blkOk_by (N := ["_law_pot_here", "_law_used", "_law_letters_here", "_law_size", "_law_word", "_law_near", "_law_some", "_law_k", "_law_one"]) (sc := defScope (top 27)) (own := [("_law_one", 8)]) (by decide +kernel)) rfl (fun s0 H0 C0 cl0 fp0 B => (g_name B 8 rfl rfl rfl (zOwn_set (by decide)))) (fun s0 H0 C0 cl0 fp0 B => (ots_one (kT_cmp B .nin (k_var B 8 rfl rfl) (k_bvar B 1 rfl rfl) rfl))) (fun s0 H0 C0 cl0 fp0 B => (k_var B 8 rfl rfl)) (fun _ => rfl)))) k_sint (fun _ _ => rfl)) (g_name B 4 rfl rfl rfl (zAny_set 4)) rfl rfl rfl))) os_nil)
    (os_one (os_ret (k_var B 4 rfl rfl)))))))))
theorem w_114 (Z : Fx P w K mg base ⟨K, w, ca⟩ k) : Walks P w K mg base ca k ["_law_pot_here", "_law_high", "_law_way"] "_law_form" (defScope (top 28)) (defBody (top 28)) (b_114 (TT.prm (callT TT k))) := by
  intro f cdv A outer s H E hr hg
  have B := bg_of (P := P) (w := w) (K := K) (mg := mg) (base := base) (N := ["_law_pot_here", "_law_high", "_law_way"]) (f := f) (cdv := cdv) (A := A) (outer := outer) (s := s) (H := H) (E := E) (ca := ca) hr hg (by decide +kernel) Z.sm
  have hp : PassesOwn (model P w) (cxOf (L2.CX P w) P w K mg base ["_law_pot_here", "_law_high", "_law_way"] "_law_form" (defScope (top 28)) f cdv A outer s H E).A (cxOf (L2.CX P w) P w K mg base ["_law_pot_here", "_law_high", "_law_way"] "_law_form" (defScope (top 28)) f cdv A outer s H E).env (cxOf (L2.CX P w) P w K mg base ["_law_pot_here", "_law_high", "_law_way"] "_law_form" (defScope (top 28)) f cdv A outer s H E).xe := passes_of rfl
  exact (os_seq (os_asg (k_call (P := PP k) B Z.f_113 (k_cons (k_var B 0 rfl rfl) (k_cons ok_int k_nil rfl) rfl) rfl rfl rfl rfl) (g_name B 2 rfl rfl rfl (zAny_set 2)) rfl rfl rfl)
    (os_seq (os_if (PW.pt (okW_or (kT_cmp2 B .eq (k_bvar B 1 rfl rfl) k_sint rfl) (okW_one_or (kT_cmp2 B .lt (k_bvar B 2 rfl rfl) k_sint rfl)))) (os_one (os_ret (k_idx B (k_fz (kF_lst (k_cons (k_str [97,110,121] (by decide +kernel)) (k_cons (k_str [110,117,109] (by decide +kernel)) (k_cons (k_str [116,101,120,116] (by decide +kernel)) k_nil rfl) rfl) rfl))) (k_call (P := PP k) B Z.f_113 (k_cons (k_var B 0 rfl rfl) (k_cons ok_int k_nil rfl) rfl) rfl rfl rfl rfl) (fun _ _ => rfl)))) os_nil)
    (os_seq (os_if (kT_cmp2 B .lt (k_bvar B 2 rfl rfl) k_sint rfl) (os_one (os_ret (k_tup (k_cons (k_str [100,101,101,100] (by decide +kernel)) (k_cons (k_call (P := PP k) B Z.f_114 (k_cons (k_var B 0 rfl rfl) (k_cons (k_bin B .sub (k_var B 1 rfl rfl) ok_int) k_nil rfl) rfl) rfl rfl rfl rfl) (k_cons (k_call (P := PP k) B Z.f_114 (k_cons (k_var B 0 rfl rfl) (k_cons (k_bin B .sub (k_var B 1 rfl rfl) ok_int) k_nil rfl) rfl) rfl rfl rfl rfl) k_nil rfl) rfl) rfl)))) os_nil)
    (os_one (os_ret (k_tup (k_cons (k_str [98,111,120] (by decide +kernel)) (k_cons (k_call (P := PP k) B Z.f_114 (k_cons (k_var B 0 rfl rfl) (k_cons (k_bin B .sub (k_var B 1 rfl rfl) ok_int) k_nil rfl) rfl) rfl rfl rfl rfl) k_nil rfl) rfl)))))))
theorem w_269 (Z : Fx P w K mg base ⟨K, w, ca⟩ k) : Walks P w K mg base ca k ["_law_pot_here", "_law_found", "_law_k"] "_law_pool" (defScope (top 29)) (defBody (top 29)) (b_269 (TT.prm (callT TT k))) := by
  intro f cdv A outer s H E hr hg
  have B := bg_of (P := P) (w := w) (K := K) (mg := mg) (base := base) (N := ["_law_pot_here", "_law_found", "_law_k"]) (f := f) (cdv := cdv) (A := A) (outer := outer) (s := s) (H := H) (E := E) (ca := ca) hr hg (by decide +kernel) Z.sm
  have hp : PassesOwn (model P w) (cxOf (L2.CX P w) P w K mg base ["_law_pot_here", "_law_found", "_law_k"] "_law_pool" (defScope (top 29)) f cdv A outer s H E).A (cxOf (L2.CX P w) P w K mg base ["_law_pot_here", "_law_found", "_law_k"] "_law_pool" (defScope (top 29)) f cdv A outer s H E).env (cxOf (L2.CX P w) P w K mg base ["_law_pot_here", "_law_found", "_law_k"] "_law_pool" (defScope (top 29)) f cdv A outer s H E).xe := passes_of rfl
  exact (os_seq (k_own B 1 rfl rfl rfl (kF_lst k_nil) rfl)
    (os_seq (k_for B hp (oi_rng1 rfl Z.g_range (k_cons (k_bin B .add ok_int (k_call (P := PP k) B Z.f_113 (k_cons (k_var B 0 rfl rfl) (k_cons ok_int k_nil rfl) rfl) rfl rfl rfl rfl)) k_nil rfl) rfl) (g_name B 2 rfl rfl rfl (zAny_set 2)) (os_one (k_app B 1 rfl rfl (k_lend (P := PP k) B 0 1 Z.f_193 rfl rfl rfl rfl rfl rfl rfl rfl rfl rfl) rfl rfl rfl rfl rfl)) (fun _ => rfl))
    (os_one (os_ret (k_var B 1 rfl rfl)))))
theorem w_270 (Z : Fx P w K mg base ⟨K, w, ca⟩ k) : Walks P w K mg base ca k ["_law_pot_here", "_law_some"] "_law_number" (defScope (top 30)) (defBody (top 30)) (b_270 (TT.prm (callT TT k))) := by
  intro f cdv A outer s H E hr hg
  have B := bg_of (P := P) (w := w) (K := K) (mg := mg) (base := base) (N := ["_law_pot_here", "_law_some"]) (f := f) (cdv := cdv) (A := A) (outer := outer) (s := s) (H := H) (E := E) (ca := ca) hr hg (by decide +kernel) Z.sm
  have hp : PassesOwn (model P w) (cxOf (L2.CX P w) P w K mg base ["_law_pot_here", "_law_some"] "_law_number" (defScope (top 30)) f cdv A outer s H E).A (cxOf (L2.CX P w) P w K mg base ["_law_pot_here", "_law_some"] "_law_number" (defScope (top 30)) f cdv A outer s H E).env (cxOf (L2.CX P w) P w K mg base ["_law_pot_here", "_law_some"] "_law_number" (defScope (top 30)) f cdv A outer s H E).xe := passes_of rfl
  exact (os_seq (os_asg (k_fz (kF_lst (k_cons ok_int (k_cons ok_int (k_cons (k_neg ok_int) (k_cons (k_bin B .sub (k_call (P := PP k) B Z.f_113 (k_cons (k_var B 0 rfl rfl) (k_cons ok_int k_nil rfl) rfl) rfl rfl rfl rfl) ok_int) (k_cons (k_bin B .sub (k_bin B .pow ok_int ok_int) ok_int) (k_cons (k_bin B .sub ok_int (k_bin B .pow ok_int ok_int)) k_nil rfl) rfl) rfl) rfl) rfl) rfl))) (g_name B 1 rfl rfl rfl (zAny_set 1)) rfl rfl rfl)
    (os_one (os_ret (k_idx B (k_var B 1 rfl rfl) (k_call (P := PP k) B Z.f_113 (k_cons (k_var B 0 rfl rfl) (k_cons ok_int k_nil rfl) rfl) rfl rfl rfl rfl) (fun _ _ => rfl)))))
theorem w_271 (Z : Fx P w K mg base ⟨K, w, ca⟩ k) : Walks P w K mg base ca k ["_law_pot_here", "_law_many_here", "_law_k"] "_law_letters" (defScope (top 31)) (defBody (top 31)) (b_271 (TT.prm (callT TT k))) := by
  intro f cdv A outer s H E hr hg
  have B := bg_of (P := P) (w := w) (K := K) (mg := mg) (base := base) (N := ["_law_pot_here", "_law_many_here", "_law_k"]) (f := f) (cdv := cdv) (A := A) (outer := outer) (s := s) (H := H) (E := E) (ca := ca) hr hg (by decide +kernel) Z.sm
  have hp : PassesOwn (model P w) (cxOf (L2.CX P w) P w K mg base ["_law_pot_here", "_law_many_here", "_law_k"] "_law_letters" (defScope (top 31)) f cdv A outer s H E).A (cxOf (L2.CX P w) P w K mg base ["_law_pot_here", "_law_many_here", "_law_k"] "_law_letters" (defScope (top 31)) f cdv A outer s H E).env (cxOf (L2.CX P w) P w K mg base ["_law_pot_here", "_law_many_here", "_law_k"] "_law_letters" (defScope (top 31)) f cdv A outer s H E).xe := passes_of rfl
  exact (os_seq (os_asg (k_idx B (k_fz (kF_lst (k_cons ok_int (k_cons ok_int (k_cons ok_int (k_cons ok_int k_nil rfl) rfl) rfl) rfl))) (k_call (P := PP k) B Z.f_113 (k_cons (k_var B 0 rfl rfl) (k_cons ok_int k_nil rfl) rfl) rfl rfl rfl rfl) (fun _ _ => rfl)) (g_name B 1 rfl rfl rfl (zAny_set 1)) rfl rfl rfl)
    (os_one (os_ret (k_join B (k_str [] (by decide +kernel)) (k_cons (k_fz (kF_comp B (oi_rng1 rfl Z.g_range (k_cons (k_var B 1 rfl rfl) k_nil rfl) rfl) (blkOk_by (N := ["_law_pot_here", "_law_many_here", "_law_k"]) (sc := defScope (top 31)) (own := [("_law_k", 2)]) (by decide +kernel)) rfl (fun s0 H0 C0 cl0 fp0 B => (g_name B 2 rfl rfl rfl (zOwn_set (by decide)))) (fun s0 H0 C0 cl0 fp0 B => ots_nil) (fun s0 H0 C0 cl0 fp0 B => (k_idx B (k_str [97,98,99,100,101,102,103,104,105,106,107,108,109,110,111,112,113,114,115,116,117,118,119,120,121,122] (by decide +kernel)) (k_call (P := PP k) B Z.f_113 (k_cons (k_var B 0 rfl rfl) (k_cons ok_int k_nil rfl) rfl) rfl rfl rfl rfl) (fun _ _ => rfl))) (fun _ => rfl))) k_nil rfl) rfl rfl rfl rfl rfl))))
theorem w_477 (Z : Fx P w K mg base ⟨K, w, ca⟩ k) : Walks P w K mg base ca k ["_law_word", "_law_shapes", "_law_more"] "_law_shape" (defScope (top 32)) (defBody (top 32)) (b_477 (TT.prm (callT TT k))) := by
  intro f cdv A outer s H E hr hg
  have B := bg_of (P := P) (w := w) (K := K) (mg := mg) (base := base) (N := ["_law_word", "_law_shapes", "_law_more"]) (f := f) (cdv := cdv) (A := A) (outer := outer) (s := s) (H := H) (E := E) (ca := ca) hr hg (by decide +kernel) Z.sm
  have hp : PassesOwn (model P w) (cxOf (L2.CX P w) P w K mg base ["_law_word", "_law_shapes", "_law_more"] "_law_shape" (defScope (top 32)) f cdv A outer s H E).A (cxOf (L2.CX P w) P w K mg base ["_law_word", "_law_shapes", "_law_more"] "_law_shape" (defScope (top 32)) f cdv A outer s H E).env (cxOf (L2.CX P w) P w K mg base ["_law_word", "_law_shapes", "_law_more"] "_law_shape" (defScope (top 32)) f cdv A outer s H E).xe := passes_of rfl
  exact (os_seq (os_asg (k_mkd (pd_cons rfl (kc_str [110,117,109,98,101,114] (by decide +kernel)) (kc_str [119] (by decide +kernel)) (pd_cons rfl (kc_str [116,101,120,116] (by decide +kernel)) (kc_str [108] (by decide +kernel)) (pd_cons rfl (kc_str [110,97,109,101] (by decide +kernel)) (kc_str [120] (by decide +kernel)) (pd_cons rfl (kc_str [100,101,101,100] (by decide +kernel)) (kc_str [120,65,101] (by decide +kernel)) (pd_cons rfl (kc_str [99,97,108,108] (by decide +kernel)) (kc_str [101,101] (by decide +kernel)) (pd_cons rfl (kc_str [108,101,116] (by decide +kernel)) (kc_str [120,101,101] (by decide +kernel)) (pd_cons rfl (kc_str [116,101,108,108] (by decide +kernel)) (kc_str [65,101] (by decide +kernel)) pd_nil))))))) (by decide +kernel) rfl rfl rfl (by simp) rfl) (g_name B 1 rfl rfl rfl (zAny_set 1)) rfl rfl rfl)
    (os_seq (os_asg (k_mkd (pd_cons rfl (kc_str [105,102] (by decide +kernel)) (kc_str [101,101,101] (by decide +kernel)) (pd_cons rfl (kc_str [97,100,100] (by decide +kernel)) (kc_str [101,101] (by decide +kernel)) (pd_cons rfl (kc_str [115,117,98] (by decide +kernel)) (kc_str [101,101] (by decide +kernel)) (pd_cons rfl (kc_str [115,105,122,101] (by decide +kernel)) (kc_str [101] (by decide +kernel)) (pd_cons rfl (kc_str [98,111,120] (by decide +kernel)) (kc_str [65,101] (by decide +kernel)) (pd_cons rfl (kc_str [114,101,97,100] (by decide +kernel)) (kc_str [101] (by decide +kernel)) (pd_cons rfl (kc_str [119,114,105,116,101] (by decide +kernel)) (kc_str [101,101] (by decide +kernel)) pd_nil))))))) (by decide +kernel) rfl rfl rfl (by simp) rfl) (g_name B 2 rfl rfl rfl (zAny_set 2)) rfl rfl rfl)
    (os_seq (os_ex (k_updc B (k_var B 1 rfl rfl) (k_var B 2 rfl rfl) ⟨rfl, rfl, rfl, rfl⟩) rfl)
    (os_seq (os_ex (k_updc B (k_var B 1 rfl rfl) (k_mkd (pd_cons rfl (kc_str [115,97,109,101] (by decide +kernel)) (kc_str [101,101] (by decide +kernel)) (pd_cons rfl (kc_str [100,111] (by decide +kernel)) (kc_str [101,101] (by decide +kernel)) pd_nil)) (by decide +kernel) rfl rfl rfl (by simp) rfl) ⟨rfl, rfl, rfl, rfl⟩) rfl)
    (os_one (os_ret (k_getc B (k_var B 1 rfl rfl) (k_var B 0 rfl rfl) (k_str [] (by decide +kernel)) ⟨rfl, rfl, rfl, rfl⟩)))))))
theorem w_273 (Z : Fx P w K mg base ⟨K, w, ca⟩ k) : Walks P w K mg base ca k ["_law_pot_here", "_law_sort", "_law_pool_here", "_law_deep"] "_law_part" (defScope (top 33)) (defBody (top 33)) (b_273 (TT.prm (callT TT k))) := by
  intro f cdv A outer s H E hr hg
  have B := bg_of (P := P) (w := w) (K := K) (mg := mg) (base := base) (N := ["_law_pot_here", "_law_sort", "_law_pool_here", "_law_deep"]) (f := f) (cdv := cdv) (A := A) (outer := outer) (s := s) (H := H) (E := E) (ca := ca) hr hg (by decide +kernel) Z.sm
  have hp : PassesOwn (model P w) (cxOf (L2.CX P w) P w K mg base ["_law_pot_here", "_law_sort", "_law_pool_here", "_law_deep"] "_law_part" (defScope (top 33)) f cdv A outer s H E).A (cxOf (L2.CX P w) P w K mg base ["_law_pot_here", "_law_sort", "_law_pool_here", "_law_deep"] "_law_part" (defScope (top 33)) f cdv A outer s H E).env (cxOf (L2.CX P w) P w K mg base ["_law_pot_here", "_law_sort", "_law_pool_here", "_law_deep"] "_law_part" (defScope (top 33)) f cdv A outer s H E).xe := passes_of rfl
  exact (os_seq (os_if (kT_cmp2 B .eq (k_bvar B 1 rfl rfl) (k_sstr [119] (by decide +kernel)) rfl) (os_one (os_ret (k_call (P := PP k) B Z.f_270 (k_cons (k_var B 0 rfl rfl) k_nil rfl) rfl rfl rfl rfl))) os_nil)
    (os_seq (os_if (kT_cmp2 B .eq (k_bvar B 1 rfl rfl) (k_sstr [108] (by decide +kernel)) rfl) (os_one (os_ret (k_call (P := PP k) B Z.f_271 (k_cons (k_var B 0 rfl rfl) k_nil rfl) rfl rfl rfl rfl))) os_nil)
    (os_seq (os_if (kT_cmp2 B .eq (k_bvar B 1 rfl rfl) (k_sstr [120] (by decide +kernel)) rfl) (os_one (os_ret (k_idx B (k_var B 2 rfl rfl) (k_call (P := PP k) B Z.f_113 (k_cons (k_var B 0 rfl rfl) (k_cons (k_len B Z.g_len rfl (k_bvar B 2 rfl rfl) rfl (by decide) rfl rfl rfl) k_nil rfl) rfl) rfl rfl rfl rfl) (fun _ _ => rfl)))) os_nil)
    (os_seq (os_if (kT_cmp2 B .eq (k_bvar B 1 rfl rfl) (k_sstr [65] (by decide +kernel)) rfl) (os_one (os_ret (k_call (P := PP k) B Z.f_114 (k_cons (k_var B 0 rfl rfl) (k_cons (k_idx B (k_fz (kF_lst (k_cons ok_int (k_cons ok_int (k_cons ok_int (k_cons (k_idx B (k_fz (kF_lst (k_cons ok_int (k_cons ok_int k_nil rfl) rfl))) (k_biT B .int rfl Z.g_int rfl (k_cons (k_cmp2 B .gt (k_bvar B 3 rfl rfl) k_sint rfl) k_nil rfl) rfl (by decide) rfl rfl rfl) (fun _ _ => rfl)) k_nil rfl) rfl) rfl) rfl))) (k_call (P := PP k) B Z.f_113 (k_cons (k_var B 0 rfl rfl) (k_cons ok_int k_nil rfl) rfl) rfl rfl rfl rfl) (fun _ _ => rfl)) k_nil rfl) rfl) rfl rfl rfl rfl))) os_nil)
    (os_one (os_ret (k_call (P := PP k) B Z.f_272 (k_cons (k_var B 0 rfl rfl) (k_cons (k_var B 2 rfl rfl) (k_cons (k_bin B .sub (k_var B 3 rfl rfl) ok_int) k_nil rfl) rfl) rfl) rfl rfl rfl rfl)))))))
theorem w_272 (Z : Fx P w K mg base ⟨K, w, ca⟩ k) : Walks P w K mg base ca k ["_law_pot_here", "_law_pool_here", "_law_deep", "_law_words", "_law_word", "_law_sort"] "_law_any_term" (defScope (top 34)) (defBody (top 34)) (b_272 (TT.prm (callT TT k))) := by
  intro f cdv A outer s H E hr hg
  have B := bg_of (P := P) (w := w) (K := K) (mg := mg) (base := base) (N := ["_law_pot_here", "_law_pool_here", "_law_deep", "_law_words", "_law_word", "_law_sort"]) (f := f) (cdv := cdv) (A := A) (outer := outer) (s := s) (H := H) (E := E) (ca := ca) hr hg (by decide +kernel) Z.sm
  have hp : PassesOwn (model P w) (cxOf (L2.CX P w) P w K mg base ["_law_pot_here", "_law_pool_here", "_law_deep", "_law_words", "_law_word", "_law_sort"] "_law_any_term" (defScope (top 34)) f cdv A outer s H E).A (cxOf (L2.CX P w) P w K mg base ["_law_pot_here", "_law_pool_here", "_law_deep", "_law_words", "_law_word", "_law_sort"] "_law_any_term" (defScope (top 34)) f cdv A outer s H E).env (cxOf (L2.CX P w) P w K mg base ["_law_pot_here", "_law_pool_here", "_law_deep", "_law_words", "_law_word", "_law_sort"] "_law_any_term" (defScope (top 34)) f cdv A outer s H E).xe := passes_of rfl
  exact (os_seq (os_asg (k_fz (kF_lst (k_cons (k_str [110,97,109,101] (by decide +kernel)) (k_cons (k_str [110,117,109,98,101,114] (by decide +kernel)) (k_cons (k_str [116,101,120,116] (by decide +kernel)) (k_cons (k_str [100,101,101,100] (by decide +kernel)) (k_cons (k_str [108,101,116] (by decide +kernel)) (k_cons (k_str [100,101,101,100] (by decide +kernel)) (k_cons (k_str [108,101,116] (by decide +kernel)) (k_cons (k_str [99,97,108,108] (by decide +kernel)) (k_cons (k_str [116,101,108,108] (by decide +kernel)) (k_cons (k_str [105,102] (by decide +kernel)) (k_cons (k_str [97,100,100] (by decide +kernel)) (k_cons (k_str [115,117,98] (by decide +kernel)) (k_cons (k_str [115,105,122,101] (by decide +kernel)) (k_cons (k_str [98,111,120] (by decide +kernel)) k_nil rfl) rfl) rfl) rfl) rfl) rfl) rfl) rfl) rfl) rfl) rfl) rfl) rfl) rfl))) (g_name B 3 rfl rfl rfl (zAny_set 3)) rfl rfl rfl)
    (os_seq (os_asg (k_bin B .add (k_var B 3 rfl rfl) (k_fz (kF_lst (k_cons (k_str [114,101,97,100] (by decide +kernel)) (k_cons (k_str [119,114,105,116,101] (by decide +kernel)) (k_cons (k_str [115,97,109,101] (by decide +kernel)) (k_cons (k_str [100,111] (by decide +kernel)) k_nil rfl) rfl) rfl) rfl)))) (g_name B 3 rfl rfl rfl (zAny_set 3)) rfl rfl rfl)
    (os_seq (os_asg (k_idx B (k_var B 3 rfl rfl) (k_call (P := PP k) B Z.f_113 (k_cons (k_var B 0 rfl rfl) (k_cons (ok_ite (kT_cmp2 B .gt (k_bvar B 2 rfl rfl) k_sint rfl) ok_int ok_int) k_nil rfl) rfl) rfl rfl rfl rfl) (fun _ _ => rfl)) (g_name B 4 rfl rfl rfl (zAny_set 4)) rfl rfl rfl)
    (os_one (os_ret (k_biT B .tuple rfl Z.g_tuple rfl (k_cons (k_bin B .add (k_fz (kF_lst (k_cons (k_var B 4 rfl rfl) k_nil rfl))) (k_fz (kF_comp B (oi_sq B.hK (k_call (P := PP k) B Z.f_477 (k_cons (k_var B 4 rfl rfl) k_nil rfl) rfl rfl rfl rfl)) (blkOk_by (N := ["_law_pot_here", "_law_pool_here", "_law_deep", "_law_words", "_law_word", "_law_sort"]) (sc := defScope (top 34)) (own := [("_law_sort", 5)]) (by decide +kernel)) rfl (fun s0 H0 C0 cl0 fp0 B => (g_name B 5 rfl rfl rfl (zOwn_set (by decide)))) (fun s0 H0 C0 cl0 fp0 B => ots_nil) (fun s0 H0 C0 cl0 fp0 B => (k_call (P := PP k) B Z.f_273 (k_cons (k_var B 0 rfl rfl) (k_cons (k_var B 5 rfl rfl) (k_cons (k_var B 1 rfl rfl) (k_cons (k_var B 2 rfl rfl) k_nil rfl) rfl) rfl) rfl) rfl rfl rfl rfl)) (fun _ => rfl)))) k_nil rfl) rfl (by decide) rfl rfl rfl))))))
theorem w_244 (Z : Fx P w K mg base ⟨K, w, ca⟩ k) : Walks P w K mg base ca k ["_law_item", "_law_high", "_law_part_here"] "_law_is_form" (defScope (top 35)) (defBody (top 35)) (b_244 (TT.prm (callT TT k))) := by
  intro f cdv A outer s H E hr hg
  have B := bg_of (P := P) (w := w) (K := K) (mg := mg) (base := base) (N := ["_law_item", "_law_high", "_law_part_here"]) (f := f) (cdv := cdv) (A := A) (outer := outer) (s := s) (H := H) (E := E) (ca := ca) hr hg (by decide +kernel) Z.sm
  have hp : PassesOwn (model P w) (cxOf (L2.CX P w) P w K mg base ["_law_item", "_law_high", "_law_part_here"] "_law_is_form" (defScope (top 35)) f cdv A outer s H E).A (cxOf (L2.CX P w) P w K mg base ["_law_item", "_law_high", "_law_part_here"] "_law_is_form" (defScope (top 35)) f cdv A outer s H E).env (cxOf (L2.CX P w) P w K mg base ["_law_item", "_law_high", "_law_part_here"] "_law_is_form" (defScope (top 35)) f cdv A outer s H E).xe := passes_of rfl
  exact (os_seq (os_if (kT_of B (k_isi B .str Z.g_isinstance rfl Z.g_str rfl (k_bvar B 0 rfl rfl) rfl rfl (by decide) (by decide) rfl rfl rfl rfl) (fun _ => rfl)) (os_one (os_ret (k_cmp B .in_ (k_var B 0 rfl rfl) (PE.toBo (k_tup (k_cons (k_str [97,110,121] (by decide +kernel)) (k_cons (k_str [110,117,109] (by decide +kernel)) (k_cons (k_str [116,101,120,116] (by decide +kernel)) k_nil rfl) rfl) rfl))) rfl))) os_nil)
    (os_seq (os_if (PW.pt (okW_or (kT_not (kT_of B (k_isi B .tuple Z.g_isinstance rfl Z.g_tuple rfl (k_bvar B 0 rfl rfl) rfl rfl (by decide) (by decide) rfl rfl rfl rfl) (fun _ => rfl))) (okW_or (kT_cmp2 B .eq (k_bvar B 1 rfl rfl) k_sint rfl) (okW_or (kT_cmp B .eq (k_var B 0 rfl rfl) (PE.toBo (k_tup k_nil)) rfl) (okW_one_or (kT_not (kT_of B (k_isi B .str Z.g_isinstance rfl Z.g_str rfl (PE.toBo (k_idx2 B (k_bvar B 0 rfl rfl) k_sint (fun _ _ => rfl))) rfl rfl (by decide) (by decide) rfl rfl rfl rfl) (fun _ => rfl)))))))) (os_one (os_ret ok_bl)) os_nil)
    (os_seq (os_if (kT_cmp B .ne (k_len B Z.g_len rfl (k_bvar B 0 rfl rfl) rfl (by decide) rfl rfl rfl) (PE.toBo (k_dgt B (pd_cons rfl (kc_str [100,101,101,100] (by decide +kernel)) kc_int (pd_cons rfl (kc_str [98,111,120] (by decide +kernel)) kc_int pd_nil)) (by decide +kernel) rfl rfl rfl (by simp) rfl (k_idx2 B (k_bvar B 0 rfl rfl) k_sint (fun _ _ => rfl)) ok_int ⟨rfl, rfl, rfl, rfl⟩)) rfl) (os_one (os_ret ok_bl)) os_nil)
    (os_one (os_ret (k_bi B .all rfl Z.g_all rfl (k_cons (k_fz (kF_comp B (oi_sq B.hK (k_slc2 B (k_bvar B 0 rfl rfl) (po_yess k_sint) po_nos)) (blkOk_by (N := ["_law_item", "_law_high", "_law_part_here"]) (sc := defScope (top 35)) (own := [("_law_part_here", 2)]) (by decide +kernel)) rfl (fun s0 H0 C0 cl0 fp0 B => (g_name B 2 rfl rfl rfl (zOwn_set (by decide)))) (fun s0 H0 C0 cl0 fp0 B => ots_nil) (fun s0 H0 C0 cl0 fp0 B => (k_call (P := PP k) B Z.f_244 (k_cons (k_var B 2 rfl rfl) (k_cons (k_bin B .sub (k_var B 1 rfl rfl) ok_int) k_nil rfl) rfl) rfl rfl rfl rfl)) (fun _ => rfl))) k_nil rfl) rfl (by decide) rfl rfl rfl))))))
theorem w_274 (Z : Fx P w K mg base ⟨K, w, ca⟩ k) : Walks P w K mg base ca k ["_law_item", "_law_least", "_law_sign"] "_law_is_word" (defScope (top 36)) (defBody (top 36)) (b_274 (TT.prm (callT TT k))) := by
  intro f cdv A outer s H E hr hg
  have B := bg_of (P := P) (w := w) (K := K) (mg := mg) (base := base) (N := ["_law_item", "_law_least", "_law_sign"]) (f := f) (cdv := cdv) (A := A) (outer := outer) (s := s) (H := H) (E := E) (ca := ca) hr hg (by decide +kernel) Z.sm
  have hp : PassesOwn (model P w) (cxOf (L2.CX P w) P w K mg base ["_law_item", "_law_least", "_law_sign"] "_law_is_word" (defScope (top 36)) f cdv A outer s H E).A (cxOf (L2.CX P w) P w K mg base ["_law_item", "_law_least", "_law_sign"] "_law_is_word" (defScope (top 36)) f cdv A outer s H E).env (cxOf (L2.CX P w) P w K mg base ["_law_item", "_law_least", "_law_sign"] "_law_is_word" (defScope (top 36)) f cdv A outer s H E).xe := passes_of rfl
  exact (os_seq (os_if (PW.pt (okW_or (kT_not (kT_of B (k_isi B .str Z.g_isinstance rfl Z.g_str rfl (k_bvar B 0 rfl rfl) rfl rfl (by decide) (by decide) rfl rfl rfl rfl) (fun _ => rfl))) (okW_one_or (kT_not (kT_chn B .le .le (k_var B 1 rfl rfl) (k_len B Z.g_len rfl (k_bvar B 0 rfl rfl) rfl (by decide) rfl rfl rfl) ok_int rfl))))) (os_one (os_ret ok_bl)) os_nil)
    (os_one (os_ret (k_bi B .all rfl Z.g_all rfl (k_cons (k_fz (kF_comp B (oi_sq B.hK (k_var B 0 rfl rfl)) (blkOk_by (N := ["_law_item", "_law_least", "_law_sign"]) (sc := defScope (top 36)) (own := [("_law_sign", 2)]) (by decide +kernel)) rfl (fun s0 H0 C0 cl0 fp0 B => (g_name B 2 rfl rfl rfl (zOwn_set (by decide)))) (fun s0 H0 C0 cl0 fp0 B => ots_nil) (fun s0 H0 C0 cl0 fp0 B => (k_cmp2 B .in_ (k_bvar B 2 rfl rfl) (k_sstr [97,98,99,100,101,102,103,104,105,106,107,108,109,110,111,112,113,114,115,116,117,118,119,120,121,122] (by decide +kernel)) rfl)) (fun _ => rfl))) k_nil rfl) rfl (by decide) rfl rfl rfl))))
theorem w_276 (Z : Fx P w K mg base ⟨K, w, ca⟩ k) : Walks P w K mg base ca k ["_law_sort", "_law_item"] "_law_fits" (defScope (top 37)) (defBody (top 37)) (b_276 (TT.prm (callT TT k))) := by
  intro f cdv A outer s H E hr hg
  have B := bg_of (P := P) (w := w) (K := K) (mg := mg) (base := base) (N := ["_law_sort", "_law_item"]) (f := f) (cdv := cdv) (A := A) (outer := outer) (s := s) (H := H) (E := E) (ca := ca) hr hg (by decide +kernel) Z.sm
  have hp : PassesOwn (model P w) (cxOf (L2.CX P w) P w K mg base ["_law_sort", "_law_item"] "_law_fits" (defScope (top 37)) f cdv A outer s H E).A (cxOf (L2.CX P w) P w K mg base ["_law_sort", "_law_item"] "_law_fits" (defScope (top 37)) f cdv A outer s H E).env (cxOf (L2.CX P w) P w K mg base ["_law_sort", "_law_item"] "_law_fits" (defScope (top 37)) f cdv A outer s H E).xe := passes_of rfl
  exact (os_seq (os_if (kT_cmp2 B .eq (k_bvar B 0 rfl rfl) (k_sstr [119] (by decide +kernel)) rfl) (os_one (os_ret (k_and B (k_isi B .int Z.g_isinstance rfl Z.g_int rfl (k_bvar B 1 rfl rfl) rfl rfl (by decide) (by decide) rfl rfl rfl rfl) (ok_one (k_not B (k_isi B .bool Z.g_isinstance rfl Z.g_bool rfl (k_bvar B 1 rfl rfl) rfl rfl (by decide) (by decide) rfl rfl rfl rfl)))))) os_nil)
    (os_seq (os_if (kT_cmp B .in_ (k_var B 0 rfl rfl) (PE.toBo (k_tup (k_cons (k_str [108] (by decide +kernel)) (k_cons (k_str [120] (by decide +kernel)) k_nil rfl) rfl))) rfl) (os_one (os_ret (k_call (P := PP k) B Z.f_274 (k_cons (k_var B 1 rfl rfl) (k_cons (k_biT B .int rfl Z.g_int rfl (k_cons (k_cmp2 B .eq (k_bvar B 0 rfl rfl) (k_sstr [120] (by decide +kernel)) rfl) k_nil rfl) rfl (by decide) rfl rfl rfl) k_nil rfl) rfl) rfl rfl rfl rfl))) os_nil)
    (os_one (os_ret (ok_ite (kT_cmp2 B .eq (k_bvar B 0 rfl rfl) (k_sstr [65] (by decide +kernel)) rfl) (k_call (P := PP k) B Z.f_244 (k_cons (k_var B 1 rfl rfl) (k_cons ok_int k_nil rfl) rfl) rfl rfl rfl rfl) (k_call (P := PP k) B Z.f_275 (k_cons (k_var B 1 rfl rfl) k_nil rfl) rfl rfl rfl rfl))))))
theorem w_275 (Z : Fx P w K mg base ⟨K, w, ca⟩ k) : Walks P w K mg base ca k ["_law_item", "_law_shape_here", "_law_sort", "_law_one"] "_law_is_term" (defScope (top 38)) (defBody (top 38)) (b_275 (TT.prm (callT TT k))) := by
  intro f cdv A outer s H E hr hg
  have B := bg_of (P := P) (w := w) (K := K) (mg := mg) (base := base) (N := ["_law_item", "_law_shape_here", "_law_sort", "_law_one"]) (f := f) (cdv := cdv) (A := A) (outer := outer) (s := s) (H := H) (E := E) (ca := ca) hr hg (by decide +kernel) Z.sm
  have hp : PassesOwn (model P w) (cxOf (L2.CX P w) P w K mg base ["_law_item", "_law_shape_here", "_law_sort", "_law_one"] "_law_is_term" (defScope (top 38)) f cdv A outer s H E).A (cxOf (L2.CX P w) P w K mg base ["_law_item", "_law_shape_here", "_law_sort", "_law_one"] "_law_is_term" (defScope (top 38)) f cdv A outer s H E).env (cxOf (L2.CX P w) P w K mg base ["_law_item", "_law_shape_here", "_law_sort", "_law_one"] "_law_is_term" (defScope (top 38)) f cdv A outer s H E).xe := passes_of rfl
  exact (os_seq (os_if (PW.pt (okW_or (kT_not (kT_of B (k_isi B .tuple Z.g_isinstance rfl Z.g_tuple rfl (k_bvar B 0 rfl rfl) rfl rfl (by decide) (by decide) rfl rfl rfl rfl) (fun _ => rfl))) (okW_or (kT_cmp B .eq (k_var B 0 rfl rfl) (PE.toBo (k_tup k_nil)) rfl) (okW_one_or (kT_not (kT_of B (k_isi B .str Z.g_isinstance rfl Z.g_str rfl (PE.toBo (k_idx2 B (k_bvar B 0 rfl rfl) k_sint (fun _ _ => rfl))) rfl rfl (by decide) (by decide) rfl rfl rfl rfl) (fun _ => rfl))))))) (os_one (os_ret ok_bl)) os_nil)
    (os_seq (os_asg (k_call (P := PP k) B Z.f_477 (k_cons (k_idx2 B (k_bvar B 0 rfl rfl) k_sint (fun _ _ => rfl)) k_nil rfl) rfl rfl rfl rfl) (g_name B 1 rfl rfl rfl (zAny_set 1)) rfl rfl rfl)
    (os_seq (os_if (PW.pt (okW_or (kT_cmp2 B .eq (k_bvar B 1 rfl rfl) (k_sstr [] (by decide +kernel)) rfl) (okW_one_or (kT_cmp B .ne (k_len B Z.g_len rfl (k_bvar B 1 rfl rfl) rfl (by decide) rfl rfl rfl) (PE.toBo (k_bin B .sub (k_len B Z.g_len rfl (k_bvar B 0 rfl rfl) rfl (by decide) rfl rfl rfl) ok_int)) rfl)))) (os_one (os_ret ok_bl)) os_nil)
    (os_one (os_ret (k_bi B .all rfl Z.g_all rfl (k_cons (k_fz (kF_comp B (oi_zipS B.hK rfl Z.g_zip (k_cons (k_var B 1 rfl rfl) (k_cons (k_slc2 B (k_bvar B 0 rfl rfl) (po_yess k_sint) po_nos) k_nil rfl) rfl) rfl rfl) (blkOk_by (N := ["_law_item", "_law_shape_here", "_law_sort", "_law_one"]) (sc := defScope (top 38)) (own := [("_law_sort", 2), ("_law_one", 3)]) (by decide +kernel)) rfl (fun s0 H0 C0 cl0 fp0 B => (g_unp B (ogs_cons (zr_own [2, 3]) (g_name B 2 rfl rfl rfl (zOwn_set (by decide))) (ogs_cons (zr_own [2, 3]) (g_name B 3 rfl rfl rfl (zOwn_set (by decide))) (ogs_nil (zr_own [2, 3])) rfl) rfl) rfl rfl)) (fun s0 H0 C0 cl0 fp0 B => ots_nil) (fun s0 H0 C0 cl0 fp0 B => (k_call (P := PP k) B Z.f_276 (k_cons (k_var B 2 rfl rfl) (k_cons (k_var B 3 rfl rfl) k_nil rfl) rfl) rfl rfl rfl rfl)) (fun _ => rfl))) k_nil rfl) rfl (by decide) rfl rfl rfl))))))
theorem w_478 (Z : Fx P w K mg base ⟨K, w, ca⟩ k) : Walks P w K mg base ca k ["_law_pot_here", "_law_six", "_law_turn", "_law_some"] "_law_odd" (defScope (top 39)) (defBody (top 39)) (b_478 (TT.prm (callT TT k))) := by
  intro f cdv A outer s H E hr hg
  have B := bg_of (P := P) (w := w) (K := K) (mg := mg) (base := base) (N := ["_law_pot_here", "_law_six", "_law_turn", "_law_some"]) (f := f) (cdv := cdv) (A := A) (outer := outer) (s := s) (H := H) (E := E) (ca := ca) hr hg (by decide +kernel) Z.sm
  have hp : PassesOwn (model P w) (cxOf (L2.CX P w) P w K mg base ["_law_pot_here", "_law_six", "_law_turn", "_law_some"] "_law_odd" (defScope (top 39)) f cdv A outer s H E).A (cxOf (L2.CX P w) P w K mg base ["_law_pot_here", "_law_six", "_law_turn", "_law_some"] "_law_odd" (defScope (top 39)) f cdv A outer s H E).env (cxOf (L2.CX P w) P w K mg base ["_law_pot_here", "_law_six", "_law_turn", "_law_some"] "_law_odd" (defScope (top 39)) f cdv A outer s H E).xe := passes_of rfl
  exact (os_seq (os_asg (k_str [110,117,109] (by decide +kernel)) (g_name B 1 rfl rfl rfl (zAny_set 1)) rfl rfl rfl)
    (os_seq (k_for B hp (oi_rng1 rfl Z.g_range (k_cons ok_int k_nil rfl) rfl) (g_name B 2 rfl rfl rfl (zAny_set 2)) (os_one (os_asg (k_tup (k_cons (k_str [98,111,120] (by decide +kernel)) (k_cons (k_var B 1 rfl rfl) k_nil rfl) rfl)) (g_name B 1 rfl rfl rfl (zAny_set 1)) rfl rfl rfl)) (fun _ => rfl))
    (os_seq (os_asg (k_fz (kF_lst (k_cons ok_non (k_cons ok_bl (k_cons ok_bl (k_cons ok_int (k_cons ok_int (k_cons (k_str [] (by decide +kernel)) (k_cons (k_str [65] (by decide +kernel)) (k_cons (k_str [97,98,99,100,101,102,103,104,105] (by decide +kernel)) (k_cons (k_str [97,110,121] (by decide +kernel)) (k_cons (k_str [110,117,109] (by decide +kernel)) (k_cons (k_str [100,101,101,100] (by decide +kernel)) (k_cons (k_str [120] (by decide +kernel)) (k_cons (k_str [119,97,108,108] (by decide +kernel)) (k_cons (k_tup k_nil) (k_cons (k_fz (kF_lst k_nil)) (k_cons (PE.ofSi (ok_sdct (B.hc rfl))) (k_cons (k_tup (k_cons (k_str [110,117,109] (by decide +kernel)) k_nil rfl)) k_nil rfl) rfl) rfl) rfl) rfl) rfl) rfl) rfl) rfl) rfl) rfl) rfl) rfl) rfl) rfl) rfl) rfl))) (g_name B 3 rfl rfl rfl (zAny_set 3)) rfl rfl rfl)
    (os_seq (os_asg (k_bin B .add (k_var B 3 rfl rfl) (k_fz (kF_lst (k_cons (k_fz (kF_lst (k_cons (k_str [110,117,109] (by decide +kernel)) k_nil rfl))) (k_cons (k_tup (k_cons (k_str [98,111,120] (by decide +kernel)) k_nil rfl)) (k_cons (k_tup (k_cons (k_str [100,101,101,100] (by decide +kernel)) (k_cons (k_str [110,117,109] (by decide +kernel)) k_nil rfl) rfl)) (k_cons (k_var B 1 rfl rfl) (k_cons (k_tup (k_cons (k_str [110,117,109,98,101,114] (by decide +kernel)) (k_cons ok_bl k_nil rfl) rfl)) (k_cons (k_tup (k_cons (k_str [116,101,120,116] (by decide +kernel)) (k_cons (k_str [97,66,99] (by decide +kernel)) k_nil rfl) rfl)) (k_cons (k_tup (k_cons (k_str [110,97,109,101] (by decide +kernel)) (k_cons (k_str [] (by decide +kernel)) k_nil rfl) rfl)) (k_cons (k_str [97,32,98] (by decide +kernel)) k_nil rfl) rfl) rfl) rfl) rfl) rfl) rfl) rfl)))) (g_name B 3 rfl rfl rfl (zAny_set 3)) rfl rfl rfl)
    (os_seq (os_asg (k_bin B .add (k_var B 3 rfl rfl) (k_fz (kF_lst (k_cons (k_tup (k_cons (k_str [116,101,120,116] (by decide +kernel)) (k_cons (k_str [97,98,99,100,101,102,103,104,105] (by decide +kernel)) k_nil rfl) rfl)) (k_cons (k_tup (k_cons (k_str [110,117,109,98,101,114] (by decide +kernel)) (k_cons (k_str [49] (by decide +kernel)) k_nil rfl) rfl)) (k_cons (k_tup (k_cons (k_str [119,97,108,108] (by decide +kernel)) (k_cons (k_str [119] (by decide +kernel)) (k_cons (k_str [110,117,109] (by decide +kernel)) (k_cons (k_str [97,110,121] (by decide +kernel)) (k_cons (k_tup (k_cons (k_str [110,117,109,98,101,114] (by decide +kernel)) (k_cons ok_int k_nil rfl) rfl)) k_nil rfl) rfl) rfl) rfl) rfl)) (k_cons (k_tup (k_cons (k_str [97,100,100] (by decide +kernel)) k_nil rfl)) k_nil rfl) rfl) rfl) rfl)))) (g_name B 3 rfl rfl rfl (zAny_set 3)) rfl rfl rfl)
    (os_one (os_ret (k_idx B (k_var B 3 rfl rfl) (k_call (P := PP k) B Z.f_113 (k_cons (k_var B 0 rfl rfl) (k_cons (k_len B Z.g_len rfl (k_bvar B 3 rfl rfl) rfl (by decide) rfl rfl rfl) k_nil rfl) rfl) rfl rfl rfl rfl) (fun _ _ => rfl)))))))))
theorem w_479 (Z : Fx P w K mg base ⟨K, w, ca⟩ k) : Walks P w K mg base ca k ["_law_pot_here", "_law_item", "_law_at", "_law_way"] "_law_otherwise" (defScope (top 40)) (defBody (top 40)) (b_479 (TT.prm (callT TT k))) := by
  intro f cdv A outer s H E hr hg
  have B := bg_of (P := P) (w := w) (K := K) (mg := mg) (base := base) (N := ["_law_pot_here", "_law_item", "_law_at", "_law_way"]) (f := f) (cdv := cdv) (A := A) (outer := outer) (s := s) (H := H) (E := E) (ca := ca) hr hg (by decide +kernel) Z.sm
  have hp : PassesOwn (model P w) (cxOf (L2.CX P w) P w K mg base ["_law_pot_here", "_law_item", "_law_at", "_law_way"] "_law_otherwise" (defScope (top 40)) f cdv A outer s H E).A (cxOf (L2.CX P w) P w K mg base ["_law_pot_here", "_law_item", "_law_at", "_law_way"] "_law_otherwise" (defScope (top 40)) f cdv A outer s H E).env (cxOf (L2.CX P w) P w K mg base ["_law_pot_here", "_law_item", "_law_at", "_law_way"] "_law_otherwise" (defScope (top 40)) f cdv A outer s H E).xe := passes_of rfl
  exact (os_seq (os_if (PW.pt (okW_or (kT_not (kT_of B (k_isi B .tuple Z.g_isinstance rfl Z.g_tuple rfl (k_bvar B 1 rfl rfl) rfl rfl (by decide) (by decide) rfl rfl rfl rfl) (fun _ => rfl))) (okW_one_or (kT_cmp B .eq (k_var B 1 rfl rfl) (PE.toBo (k_tup k_nil)) rfl)))) (os_one (os_ret (k_call (P := PP k) B Z.f_478 (k_cons (k_var B 0 rfl rfl) k_nil rfl) rfl rfl rfl rfl))) os_nil)
    (os_seq (k_par B 2 3 rfl rfl (by decide) rfl rfl (k_cons (k_call (P := PP k) B Z.f_113 (k_cons (k_var B 0 rfl rfl) (k_cons (k_len B Z.g_len rfl (k_bvar B 1 rfl rfl) rfl (by decide) rfl rfl rfl) k_nil rfl) rfl) rfl rfl rfl rfl) (k_cons (k_call (P := PP k) B Z.f_113 (k_cons (k_var B 0 rfl rfl) (k_cons ok_int k_nil rfl) rfl) rfl rfl rfl rfl) k_nil rfl) rfl) rfl rfl)
    (os_seq (os_if (kT_cmp2 B .lt (k_bvar B 3 rfl rfl) k_sint rfl) (os_one (os_ret (k_bin B .add (k_bin B .add (k_slc2 B (k_bvar B 1 rfl rfl) po_nos (po_yess (k_svar B 2 rfl rfl))) (k_tup (k_cons (k_call (P := PP k) B Z.f_479 (k_cons (k_var B 0 rfl rfl) (k_cons (k_idx2 B (k_bvar B 1 rfl rfl) (k_svar B 2 rfl rfl) (fun _ _ => rfl)) k_nil rfl) rfl) rfl rfl rfl rfl) k_nil rfl))) (k_slc B (k_var B 1 rfl rfl) (po_yes (k_bin B .add (k_var B 2 rfl rfl) ok_int)) po_no)))) os_nil)
    (os_seq (os_if (kT_cmp2 B .eq (k_bvar B 3 rfl rfl) k_sint rfl) (os_one (os_ret (k_bin B .add (k_slc2 B (k_bvar B 1 rfl rfl) po_nos (po_yess (k_svar B 2 rfl rfl))) (k_slc B (k_var B 1 rfl rfl) (po_yes (k_bin B .add (k_var B 2 rfl rfl) ok_int)) po_no)))) os_nil)
    (os_seq (os_if (kT_cmp2 B .eq (k_bvar B 3 rfl rfl) k_sint rfl) (os_one (os_ret (k_bin B .add (k_bin B .add (k_slc2 B (k_bvar B 1 rfl rfl) po_nos (po_yess (k_svar B 2 rfl rfl))) (k_tup (k_cons (k_idx2 B (k_bvar B 1 rfl rfl) (k_svar B 2 rfl rfl) (fun _ _ => rfl)) k_nil rfl))) (k_slc2 B (k_bvar B 1 rfl rfl) (po_yess (k_svar B 2 rfl rfl)) po_nos)))) os_nil)
    (os_one (os_ret (ok_ite (kT_cmp2 B .eq (k_bvar B 3 rfl rfl) k_sint rfl) (k_fz (kF_list B Z.g_list rfl (k_var B 1 rfl rfl) rfl (by decide) rfl rfl rfl)) (k_call (P := PP k) B Z.f_478 (k_cons (k_var B 0 rfl rfl) k_nil rfl) rfl rfl rfl rfl)))))))))
theorem w_480 (Z : Fx P w K mg base ⟨K, w, ca⟩ k) : Walks P w K mg base ca k ["_law_tree", "_law_below", "_law_sort", "_law_one"] "_law_many" (defScope (top 41)) (defBody (top 41)) (b_480 (TT.prm (callT TT k))) := by
  intro f cdv A outer s H E hr hg
  have B := bg_of (P := P) (w := w) (K := K) (mg := mg) (base := base) (N := ["_law_tree", "_law_below", "_law_sort", "_law_one"]) (f := f) (cdv := cdv) (A := A) (outer := outer) (s := s) (H := H) (E := E) (ca := ca) hr hg (by decide +kernel) Z.sm
  have hp : PassesOwn (model P w) (cxOf (L2.CX P w) P w K mg base ["_law_tree", "_law_below", "_law_sort", "_law_one"] "_law_many" (defScope (top 41)) f cdv A outer s H E).A (cxOf (L2.CX P w) P w K mg base ["_law_tree", "_law_below", "_law_sort", "_law_one"] "_law_many" (defScope (top 41)) f cdv A outer s H E).env (cxOf (L2.CX P w) P w K mg base ["_law_tree", "_law_below", "_law_sort", "_law_one"] "_law_many" (defScope (top 41)) f cdv A outer s H E).xe := passes_of rfl
  exact (os_seq (k_asgLc B 1 rfl rfl (sw_true rfl rfl rfl (by decide +kernel)) (oi_zipS B.hK rfl Z.g_zip (k_cons (k_call (P := PP k) B Z.f_477 (k_cons (k_idx2 B (k_bvar B 0 rfl rfl) k_sint (fun _ _ => rfl)) k_nil rfl) rfl rfl rfl rfl) (k_cons (k_slc2 B (k_bvar B 0 rfl rfl) (po_yess k_sint) po_nos) k_nil rfl) rfl) rfl rfl) (blkOk_by (N := ["_law_tree", "_law_below", "_law_sort", "_law_one"]) (sc := defScope (top 41)) (own := [("_law_sort", 2), ("_law_one", 3)]) (by decide +kernel)) rfl (fun s0 H0 C0 cl0 fp0 B => (g_unp B (ogs_cons (zr_own [2, 3]) (g_name B 2 rfl rfl rfl (zOwn_set (by decide))) (ogs_cons (zr_own [2, 3]) (g_name B 3 rfl rfl rfl (zOwn_set (by decide))) (ogs_nil (zr_own [2, 3])) rfl) rfl) rfl rfl)) (fun s0 H0 C0 cl0 fp0 B => (ots_one (kT_cmp2 B .eq (k_bvar B 2 rfl rfl) (k_sstr [101] (by decide +kernel)) rfl))) (fun s0 H0 C0 cl0 fp0 B => (k_var B 3 rfl rfl)) (fun _ => rfl))
    (os_one (os_ret (k_bin B .add ok_int (k_bi B .sum rfl Z.g_sum rfl (k_cons (k_fz (kF_comp B (oi_sq B.hK (k_var B 1 rfl rfl)) (blkOk_by (N := ["_law_tree", "_law_below", "_law_sort", "_law_one"]) (sc := defScope (top 41)) (own := [("_law_one", 3)]) (by decide +kernel)) rfl (fun s0 H0 C0 cl0 fp0 B => (g_name B 3 rfl rfl rfl (zOwn_set (by decide)))) (fun s0 H0 C0 cl0 fp0 B => ots_nil) (fun s0 H0 C0 cl0 fp0 B => (k_call (P := PP k) B Z.f_480 (k_cons (k_var B 3 rfl rfl) k_nil rfl) rfl rfl rfl rfl)) (fun _ => rfl))) k_nil rfl) rfl (by decide) rfl rfl rfl)))))
theorem w_481 (Z : Fx P w K mg base ⟨K, w, ca⟩ k) : Walks P w K mg base ca k ["_law_item", "_law_kept", "_law_told_here"] "_law_told" (defScope (top 42)) (defBody (top 42)) (b_481 (TT.prm (callT TT k))) := by
  intro f cdv A outer s H E hr hg
  have B := bg_of (P := P) (w := w) (K := K) (mg := mg) (base := base) (N := ["_law_item", "_law_kept", "_law_told_here"]) (f := f) (cdv := cdv) (A := A) (outer := outer) (s := s) (H := H) (E := E) (ca := ca) hr hg (by decide +kernel) Z.sm
  have hp : PassesOwn (model P w) (cxOf (L2.CX P w) P w K mg base ["_law_item", "_law_kept", "_law_told_here"] "_law_told" (defScope (top 42)) f cdv A outer s H E).A (cxOf (L2.CX P w) P w K mg base ["_law_item", "_law_kept", "_law_told_here"] "_law_told" (defScope (top 42)) f cdv A outer s H E).env (cxOf (L2.CX P w) P w K mg base ["_law_item", "_law_kept", "_law_told_here"] "_law_told" (defScope (top 42)) f cdv A outer s H E).xe := passes_of rfl
  exact (os_seq (os_asg (k_bi B .repr rfl Z.g_repr rfl (k_cons (k_var B 0 rfl rfl) k_nil rfl) rfl (by decide) rfl rfl rfl) (g_name B 1 rfl rfl rfl (zAny_set 1)) rfl rfl rfl)
    (os_seq (os_asg (k_fz (kF_lst (k_cons (k_call (P := PP k) B Z.f_263 (k_cons (k_var B 0 rfl rfl) k_nil rfl) rfl rfl rfl rfl) (k_cons (k_call (P := PP k) B Z.f_263 (k_cons (k_var B 0 rfl rfl) k_nil rfl) rfl rfl rfl rfl) (k_cons (k_callk0 (P := PP k) B Z.k_263_0_thing (kk_cons (k_var B 0 rfl rfl) kk_nil) rfl rfl rfl rfl rfl) k_nil rfl) rfl) rfl))) (g_name B 2 rfl rfl rfl (zAny_set 2)) rfl rfl rfl)
    (os_one (os_ret (k_and B (k_cmp B .eq (k_bi B .repr rfl Z.g_repr rfl (k_cons (k_var B 2 rfl rfl) k_nil rfl) rfl (by decide) rfl rfl rfl) (PE.toBo (k_bi B .repr rfl Z.g_repr rfl (k_cons (k_bin B .mul (k_fz (kF_lst (k_cons (k_call (P := PP k) B Z.f_275 (k_cons (k_var B 0 rfl rfl) k_nil rfl) rfl rfl rfl rfl) k_nil rfl))) ok_int) k_nil rfl) rfl (by decide) rfl rfl rfl)) rfl) (ok_one (k_cmp B .eq (k_bi B .repr rfl Z.g_repr rfl (k_cons (k_var B 0 rfl rfl) k_nil rfl) rfl (by decide) rfl rfl rfl) (k_bvar B 1 rfl rfl) rfl)))))))
theorem w_482 (Z : Fx P w K mg base ⟨K, w, ca⟩ k) : Walks P w K mg base ca k ["_law_pot_here", "_law_tree", "_law_turn", "_law_item"] "_law_right" (defScope (top 43)) (defBody (top 43)) (b_482 (TT.prm (callT TT k))) := by
  intro f cdv A outer s H E hr hg
  have B := bg_of (P := P) (w := w) (K := K) (mg := mg) (base := base) (N := ["_law_pot_here", "_law_tree", "_law_turn", "_law_item"]) (f := f) (cdv := cdv) (A := A) (outer := outer) (s := s) (H := H) (E := E) (ca := ca) hr hg (by decide +kernel) Z.sm
  have hp : PassesOwn (model P w) (cxOf (L2.CX P w) P w K mg base ["_law_pot_here", "_law_tree", "_law_turn", "_law_item"] "_law_right" (defScope (top 43)) f cdv A outer s H E).A (cxOf (L2.CX P w) P w K mg base ["_law_pot_here", "_law_tree", "_law_turn", "_law_item"] "_law_right" (defScope (top 43)) f cdv A outer s H E).env (cxOf (L2.CX P w) P w K mg base ["_law_pot_here", "_law_tree", "_law_turn", "_law_item"] "_law_right" (defScope (top 43)) f cdv A outer s H E).xe := passes_of rfl
  exact (os_seq (os_asg (k_call (P := PP k) B Z.f_272 (k_cons (k_var B 0 rfl rfl) (k_cons (k_call (P := PP k) B Z.f_269 (k_cons (k_var B 0 rfl rfl) k_nil rfl) rfl rfl rfl rfl) (k_cons ok_int k_nil rfl) rfl) rfl) rfl rfl rfl rfl) (g_name B 1 rfl rfl rfl (zAny_set 1)) rfl rfl rfl)
    (os_seq (os_if (PW.pt (okW_or (kT_not (kT_of B (k_call (P := PP k) B Z.f_275 (k_cons (k_var B 1 rfl rfl) k_nil rfl) rfl rfl rfl rfl) (fun _ => rfl))) (okW_one_or (kT_not (kT_of B (k_call (P := PP k) B Z.f_481 (k_cons (k_var B 1 rfl rfl) k_nil rfl) rfl rfl rfl rfl) (fun _ => rfl)))))) (os_one (os_ret ok_bl)) os_nil)
    (os_seq (os_if (kT_cmp B .ne (k_bi B .repr rfl Z.g_repr rfl (k_cons (k_fz (kF_lst (k_cons (k_call (P := PP k) B Z.f_268 (k_cons (k_var B 1 rfl rfl) k_nil rfl) rfl rfl rfl rfl) (k_cons (k_callk0 (P := PP k) B Z.k_268_0_term (kk_cons (k_var B 1 rfl rfl) kk_nil) rfl rfl rfl rfl rfl) k_nil rfl) rfl))) k_nil rfl) rfl (by decide) rfl rfl rfl) (PE.toBo (k_bi B .repr rfl Z.g_repr rfl (k_cons (k_bin B .mul (k_fz (kF_lst (k_cons (k_call (P := PP k) B Z.f_480 (k_cons (k_var B 1 rfl rfl) k_nil rfl) rfl rfl rfl rfl) k_nil rfl))) ok_int) k_nil rfl) rfl (by decide) rfl rfl rfl)) rfl) (os_one (os_ret ok_bl)) os_nil)
    (os_seq (k_for B hp (oi_rng1 rfl Z.g_range (k_cons ok_int k_nil rfl) rfl) (g_name B 2 rfl rfl rfl (zAny_set 2)) (os_seq (os_asg (k_call (P := PP k) B Z.f_479 (k_cons (k_var B 0 rfl rfl) (k_cons (k_var B 1 rfl rfl) k_nil rfl) rfl) rfl rfl rfl rfl) (g_name B 3 rfl rfl rfl (zAny_set 3)) rfl rfl rfl)
    (os_seq (os_if (kT_cmp2 B .gt (k_bvar B 2 rfl rfl) k_sint rfl) (os_one (os_asg (k_call (P := PP k) B Z.f_479 (k_cons (k_var B 0 rfl rfl) (k_cons (k_var B 3 rfl rfl) k_nil rfl) rfl) rfl rfl rfl rfl) (g_name B 3 rfl rfl rfl (zAny_set 3)) rfl rfl rfl)) os_nil)
    (os_one (os_if (kT_not (kT_of B (k_call (P := PP k) B Z.f_481 (k_cons (k_var B 3 rfl rfl) k_nil rfl) rfl rfl rfl rfl) (fun _ => rfl))) (os_one (os_ret ok_bl)) os_nil)))) (fun _ => rfl))
    (os_one (os_ret (k_and B (k_call (P := PP k) B Z.f_481 (k_cons (k_call (P := PP k) B Z.f_478 (k_cons (k_var B 0 rfl rfl) k_nil rfl) rfl rfl rfl rfl) k_nil rfl) rfl rfl rfl rfl) (ok_one (k_call (P := PP k) B Z.f_481 (k_cons (k_var B 1 rfl rfl) k_nil rfl) rfl rfl rfl rfl)))))))))
theorem w_126 (Z : Fx P w K mg base ⟨K, w, ca⟩ k) : Walks P w K mg base ca k ["_law_script", "_law_k"] "law" (defScope (top 44)) (defBody (top 44)) (b_126 (TT.prm (callT TT k))) := by
  intro f cdv A outer s H E hr hg
  have B := bg_of (P := P) (w := w) (K := K) (mg := mg) (base := base) (N := ["_law_script", "_law_k"]) (f := f) (cdv := cdv) (A := A) (outer := outer) (s := s) (H := H) (E := E) (ca := ca) hr hg (by decide +kernel) Z.sm
  have hp : PassesOwn (model P w) (cxOf (L2.CX P w) P w K mg base ["_law_script", "_law_k"] "law" (defScope (top 44)) f cdv A outer s H E).A (cxOf (L2.CX P w) P w K mg base ["_law_script", "_law_k"] "law" (defScope (top 44)) f cdv A outer s H E).env (cxOf (L2.CX P w) P w K mg base ["_law_script", "_law_k"] "law" (defScope (top 44)) f cdv A outer s H E).xe := passes_of rfl
  exact (os_one (os_ret (k_bi B .all rfl Z.g_all rfl (k_cons (k_fz (kF_comp B (oi_rng1 rfl Z.g_range (k_cons (k_bi B .max2 rfl Z.g_max rfl (k_cons ok_int (k_cons (k_bi B .min2 rfl Z.g_min rfl (k_cons ok_int (k_cons (k_len B Z.g_len rfl (k_bvar B 0 rfl rfl) rfl (by decide) rfl rfl rfl) k_nil rfl) rfl) rfl (by decide) rfl rfl rfl) k_nil rfl) rfl) rfl (by decide) rfl rfl rfl) k_nil rfl) rfl) (blkOk_by (N := ["_law_script", "_law_k"]) (sc := defScope (top 44)) (own := [("_law_k", 1)]) (by decide +kernel)) rfl (fun s0 H0 C0 cl0 fp0 B => (g_name B 1 rfl rfl rfl (zOwn_set (by decide)))) (fun s0 H0 C0 cl0 fp0 B => ots_nil) (fun s0 H0 C0 cl0 fp0 B => (k_call (P := PP k) B Z.f_482 (k_cons (k_call (P := PP k) B Z.f_112 (k_cons (k_var B 0 rfl rfl) (k_cons (k_var B 1 rfl rfl) k_nil rfl) rfl) rfl rfl rfl rfl) k_nil rfl) rfl rfl rfl rfl)) (fun _ => rfl))) k_nil rfl) rfl (by decide) rfl rfl rfl)))
end
def e_149 : He.DefD := ⟨("is_name", none), "is_name", "is_name", defArgs (top 9), defBody (top 9), defScope (top 9), [], []⟩
def e_101 : He.DefD := ⟨("is_form_to", none), "is_form_to", "is_form_to", defArgs (top 10), defBody (top 10), defScope (top 10), [], []⟩
def e_102 : He.DefD := ⟨("is_form", none), "is_form", "is_form", defArgs (top 11), defBody (top 11), defScope (top 11), [], []⟩
def e_261 : He.DefD := ⟨("is_whole", none), "is_whole", "is_whole", defArgs (top 16), defBody (top 16), defScope (top 16), [], []⟩
def e_262 : He.DefD := ⟨("is_written", none), "is_written", "is_written", defArgs (top 17), defBody (top 17), defScope (top 17), [], []⟩
def e_264 : He.DefD := ⟨("fits", none), "fits", "fits", defArgs (top 18), defBody (top 18), defScope (top 18), [], []⟩
def e_263 : He.DefD := ⟨("is_term", none), "is_term", "is_term", defArgs (top 19), defBody (top 19), defScope (top 19), [], []⟩
def e_265 : He.DefD := ⟨("want_term", none), "want_term", "want_term", defArgs (top 20), defBody (top 20), defScope (top 20), [], []⟩
def e_266 : He.DefD := ⟨("terms_in", none), "terms_in", "terms_in", defArgs (top 21), defBody (top 21), defScope (top 21), [], []⟩
def e_267 : He.DefD := ⟨("many_in", none), "many_in", "many_in", defArgs (top 22), defBody (top 22), defScope (top 22), [], []⟩
def e_268 : He.DefD := ⟨("parts_in", none), "parts_in", "parts_in", defArgs (top 23), defBody (top 23), defScope (top 23), [], []⟩
def e_112 : He.DefD := ⟨("_law_pot", none), "_law_pot", "_law_pot", defArgs (top 25), defBody (top 25), defScope (top 25), [], []⟩
def e_113 : He.DefD := ⟨("_law_digit", none), "_law_digit", "_law_digit", defArgs (top 26), defBody (top 26), defScope (top 26), [], []⟩
def e_193 : He.DefD := ⟨("_law_name", none), "_law_name", "_law_name", defArgs (top 27), defBody (top 27), defScope (top 27), [], []⟩
def e_114 : He.DefD := ⟨("_law_form", none), "_law_form", "_law_form", defArgs (top 28), defBody (top 28), defScope (top 28), [], []⟩
def e_269 : He.DefD := ⟨("_law_pool", none), "_law_pool", "_law_pool", defArgs (top 29), defBody (top 29), defScope (top 29), [], []⟩
def e_270 : He.DefD := ⟨("_law_number", none), "_law_number", "_law_number", defArgs (top 30), defBody (top 30), defScope (top 30), [], []⟩
def e_271 : He.DefD := ⟨("_law_letters", none), "_law_letters", "_law_letters", defArgs (top 31), defBody (top 31), defScope (top 31), [], []⟩
def e_477 : He.DefD := ⟨("_law_shape", none), "_law_shape", "_law_shape", defArgs (top 32), defBody (top 32), defScope (top 32), [], []⟩
def e_273 : He.DefD := ⟨("_law_part", none), "_law_part", "_law_part", defArgs (top 33), defBody (top 33), defScope (top 33), [], []⟩
def e_272 : He.DefD := ⟨("_law_any_term", none), "_law_any_term", "_law_any_term", defArgs (top 34), defBody (top 34), defScope (top 34), [], []⟩
def e_244 : He.DefD := ⟨("_law_is_form", none), "_law_is_form", "_law_is_form", defArgs (top 35), defBody (top 35), defScope (top 35), [], []⟩
def e_274 : He.DefD := ⟨("_law_is_word", none), "_law_is_word", "_law_is_word", defArgs (top 36), defBody (top 36), defScope (top 36), [], []⟩
def e_276 : He.DefD := ⟨("_law_fits", none), "_law_fits", "_law_fits", defArgs (top 37), defBody (top 37), defScope (top 37), [], []⟩
def e_275 : He.DefD := ⟨("_law_is_term", none), "_law_is_term", "_law_is_term", defArgs (top 38), defBody (top 38), defScope (top 38), [], []⟩
def e_478 : He.DefD := ⟨("_law_odd", none), "_law_odd", "_law_odd", defArgs (top 39), defBody (top 39), defScope (top 39), [], []⟩
def e_479 : He.DefD := ⟨("_law_otherwise", none), "_law_otherwise", "_law_otherwise", defArgs (top 40), defBody (top 40), defScope (top 40), [], []⟩
def e_480 : He.DefD := ⟨("_law_many", none), "_law_many", "_law_many", defArgs (top 41), defBody (top 41), defScope (top 41), [], []⟩
def e_481 : He.DefD := ⟨("_law_told", none), "_law_told", "_law_told", defArgs (top 42), defBody (top 42), defScope (top 42), [], []⟩
def e_482 : He.DefD := ⟨("_law_right", none), "_law_right", "_law_right", defArgs (top 43), defBody (top 43), defScope (top 43), [], []⟩
def e_126 : He.DefD := ⟨("law", none), "law", "law", defArgs (top 44), defBody (top 44), defScope (top 44), [], []⟩
def fns : List He.DefD := [e_149, e_101, e_102, e_261, e_262, e_264, e_263, e_265, e_266, e_267, e_268, e_112, e_113, e_193, e_114, e_269, e_270, e_271, e_477, e_273, e_272, e_244, e_274, e_276, e_275, e_478, e_479, e_480, e_481, e_482, e_126]
def fas : List He.Fa := [.glo "is_name", .glo "is_form_to", .glo "is_form", .glo "is_whole", .glo "is_written", .glo "fits", .glo "is_term", .glo "want_term", .glo "terms_in", .glo "many_in", .glo "parts_in", .glo "_law_pot", .glo "_law_digit", .glo "_law_name", .glo "_law_form", .glo "_law_pool", .glo "_law_number", .glo "_law_letters", .glo "_law_shape", .glo "_law_part", .glo "_law_any_term", .glo "_law_is_form", .glo "_law_is_word", .glo "_law_fits", .glo "_law_is_term", .glo "_law_odd", .glo "_law_otherwise", .glo "_law_many", .glo "_law_told", .glo "_law_right", .glo "law", .free "len", .int "MOST_LETTERS" 8, .free "isinstance", .free "str", .str "LETTERS_forms" "abcdefghijklmnopqrstuvwxyz", .free "all", .glo "PLAIN", .free "tuple", .glo "WIDTHS", .int "MOST_HEIGHT" 5, .free "bool", .free "int", .str "LETTERS_terms" "abcdefghijklmnopqrstuvwxyz", .int "MOST_SIGNS" 8, .glo "SHAPES", .free "zip", .glo "NoTerm", .exc "NoTerm", .free "sum", .free "abs", .free "max", .free "divmod", .free "range", .free "list", .free "repr", .free "min"]
def tbs : List He.Tab := [(fun K => He.ga K "WIDTHS", ["deed", "box"]), (fun K => He.ga K "SHAPES", ["number", "text", "name", "deed", "call", "let", "tell", "if", "add", "sub", "size", "box", "read", "write", "same", "do"])]
def chk (K : PySem.W.Frag) : Bool := (tupC "PLAIN" [(.str [97,110,121]), (.str [110,117,109]), (.str [116,101,120,116])] K) && (dicC "WIDTHS" [((.str [100,101,101,100]), (.int 3)), ((.str [98,111,120]), (.int 2))] K) && (dicC "SHAPES" [((.str [110,117,109,98,101,114]), (.str [119])), ((.str [116,101,120,116]), (.str [108])), ((.str [110,97,109,101]), (.str [120])), ((.str [100,101,101,100]), (.str [120,65,101])), ((.str [99,97,108,108]), (.str [101,101])), ((.str [108,101,116]), (.str [120,101,101])), ((.str [116,101,108,108]), (.str [65,101])), ((.str [105,102]), (.str [101,101,101])), ((.str [97,100,100]), (.str [101,101])), ((.str [115,117,98]), (.str [101,101])), ((.str [115,105,122,101]), (.str [101])), ((.str [98,111,120]), (.str [65,101])), ((.str [114,101,97,100]), (.str [101])), ((.str [119,114,105,116,101]), (.str [101,101])), ((.str [115,97,109,101]), (.str [101,101])), ((.str [100,111]), (.str [101,101]))] K) && (smC K)
def ca (K : PySem.W.Frag) : Nat → Option Addr
  | 147 => some (He.ga K "NoTerm")
  | _ => none
section
variable {P : PySem.Program} {w : World} {K : PySem.W.Frag} {mg : Str → Option Value} {base h : Heap} {fds : Nat → FuncData}
structure Gk (P : PySem.Program) (w : World) (K : PySem.W.Frag) (mg : Str → Option Value) (base : Heap) (fds : Nat → FuncData) (k : Nat) : Prop where
  f_149 : FnG P w K mg base k (He.fAd K ("is_name", none)) (fds 0) ["thing"] (spF ⟨K, w, ca K⟩ (callT TT k) 149 1)
  f_101 : FnG P w K mg base k (He.fAd K ("is_form_to", none)) (fds 1) ["thing", "high"] (spF ⟨K, w, ca K⟩ (callT TT k) 101 2)
  f_102 : FnG P w K mg base k (He.fAd K ("is_form", none)) (fds 2) ["thing"] (spF ⟨K, w, ca K⟩ (callT TT k) 102 1)
  f_261 : FnG P w K mg base k (He.fAd K ("is_whole", none)) (fds 3) ["thing"] (spF ⟨K, w, ca K⟩ (callT TT k) 261 1)
  f_262 : FnG P w K mg base k (He.fAd K ("is_written", none)) (fds 4) ["thing"] (spF ⟨K, w, ca K⟩ (callT TT k) 262 1)
  f_264 : FnG P w K mg base k (He.fAd K ("fits", none)) (fds 5) ["sort", "thing"] (spF ⟨K, w, ca K⟩ (callT TT k) 264 2)
  f_263 : FnG P w K mg base k (He.fAd K ("is_term", none)) (fds 6) ["thing"] (spF ⟨K, w, ca K⟩ (callT TT k) 263 1)
  f_265 : FnG P w K mg base k (He.fAd K ("want_term", none)) (fds 7) ["thing"] (spF ⟨K, w, ca K⟩ (callT TT k) 265 1)
  f_266 : FnG P w K mg base k (He.fAd K ("terms_in", none)) (fds 8) ["term"] (spF ⟨K, w, ca K⟩ (callT TT k) 266 1)
  f_267 : FnG P w K mg base k (He.fAd K ("many_in", none)) (fds 9) ["term"] (spF ⟨K, w, ca K⟩ (callT TT k) 267 1)
  f_268 : FnG P w K mg base k (He.fAd K ("parts_in", none)) (fds 10) ["term"] (spF ⟨K, w, ca K⟩ (callT TT k) 268 1)
  f_112 : FnG P w K mg base k (He.fAd K ("_law_pot", none)) (fds 11) ["_law_script", "_law_k"] (spF ⟨K, w, ca K⟩ (callT TT k) 112 2)
  f_113 : FnG P w K mg base k (He.fAd K ("_law_digit", none)) (fds 12) ["_law_pot_here", "_law_many_here"] (spF ⟨K, w, ca K⟩ (callT TT k) 113 2)
  f_193 : FnG P w K mg base k (He.fAd K ("_law_name", none)) (fds 13) ["_law_pot_here", "_law_used"] (spF ⟨K, w, ca K⟩ (callT TT k) 193 2)
  f_114 : FnG P w K mg base k (He.fAd K ("_law_form", none)) (fds 14) ["_law_pot_here", "_law_high"] (spF ⟨K, w, ca K⟩ (callT TT k) 114 2)
  f_269 : FnG P w K mg base k (He.fAd K ("_law_pool", none)) (fds 15) ["_law_pot_here"] (spF ⟨K, w, ca K⟩ (callT TT k) 269 1)
  f_270 : FnG P w K mg base k (He.fAd K ("_law_number", none)) (fds 16) ["_law_pot_here"] (spF ⟨K, w, ca K⟩ (callT TT k) 270 1)
  f_271 : FnG P w K mg base k (He.fAd K ("_law_letters", none)) (fds 17) ["_law_pot_here"] (spF ⟨K, w, ca K⟩ (callT TT k) 271 1)
  f_477 : FnG P w K mg base k (He.fAd K ("_law_shape", none)) (fds 18) ["_law_word"] (spF ⟨K, w, ca K⟩ (callT TT k) 477 1)
  f_273 : FnG P w K mg base k (He.fAd K ("_law_part", none)) (fds 19) ["_law_pot_here", "_law_sort", "_law_pool_here", "_law_deep"] (spF ⟨K, w, ca K⟩ (callT TT k) 273 4)
  f_272 : FnG P w K mg base k (He.fAd K ("_law_any_term", none)) (fds 20) ["_law_pot_here", "_law_pool_here", "_law_deep"] (spF ⟨K, w, ca K⟩ (callT TT k) 272 3)
  f_244 : FnG P w K mg base k (He.fAd K ("_law_is_form", none)) (fds 21) ["_law_item", "_law_high"] (spF ⟨K, w, ca K⟩ (callT TT k) 244 2)
  f_274 : FnG P w K mg base k (He.fAd K ("_law_is_word", none)) (fds 22) ["_law_item", "_law_least"] (spF ⟨K, w, ca K⟩ (callT TT k) 274 2)
  f_276 : FnG P w K mg base k (He.fAd K ("_law_fits", none)) (fds 23) ["_law_sort", "_law_item"] (spF ⟨K, w, ca K⟩ (callT TT k) 276 2)
  f_275 : FnG P w K mg base k (He.fAd K ("_law_is_term", none)) (fds 24) ["_law_item"] (spF ⟨K, w, ca K⟩ (callT TT k) 275 1)
  f_478 : FnG P w K mg base k (He.fAd K ("_law_odd", none)) (fds 25) ["_law_pot_here"] (spF ⟨K, w, ca K⟩ (callT TT k) 478 1)
  f_479 : FnG P w K mg base k (He.fAd K ("_law_otherwise", none)) (fds 26) ["_law_pot_here", "_law_item"] (spF ⟨K, w, ca K⟩ (callT TT k) 479 2)
  f_480 : FnG P w K mg base k (He.fAd K ("_law_many", none)) (fds 27) ["_law_tree"] (spF ⟨K, w, ca K⟩ (callT TT k) 480 1)
  f_481 : FnG P w K mg base k (He.fAd K ("_law_told", none)) (fds 28) ["_law_item"] (spF ⟨K, w, ca K⟩ (callT TT k) 481 1)
  f_482 : FnG P w K mg base k (He.fAd K ("_law_right", none)) (fds 29) ["_law_pot_here"] (spF ⟨K, w, ca K⟩ (callT TT k) 482 1)
  f_126 : FnG P w K mg base k (He.fAd K ("law", none)) (fds 30) ["_law_script"] (spF ⟨K, w, ca K⟩ (callT TT k) 126 1)
theorem g_zero : Gk P w K mg base fds 0 := ⟨fnG_zero, fnG_zero, fnG_zero, fnG_zero, fnG_zero, fnG_zero, fnG_zero, fnG_zero, fnG_zero, fnG_zero, fnG_zero, fnG_zero, fnG_zero, fnG_zero, fnG_zero, fnG_zero, fnG_zero, fnG_zero, fnG_zero, fnG_zero, fnG_zero, fnG_zero, fnG_zero, fnG_zero, fnG_zero, fnG_zero, fnG_zero, fnG_zero, fnG_zero, fnG_zero, fnG_zero⟩
abbrev FnsD (K : PySem.W.Frag) (fds : Nat → FuncData) : Prop := ∀ (i : Nat) (d : He.DefD), fns[i]? = some d → FunD K d.name d.qual d.params d.body d.scope (d.dvs K) (d.kws K) (He.fAd K d.at_) (fds i)
theorem s_149 : FnScope ["thing", "sign"] ["thing"] (defScope (top 9)) := ⟨rfl, rfl, rfl, by decide +kernel, rfl, by decide +kernel, by decide +kernel⟩
theorem s_101 : FnScope ["thing", "high", "word", "parts", "part"] ["thing", "high"] (defScope (top 10)) := ⟨rfl, rfl, rfl, by decide +kernel, rfl, by decide +kernel, by decide +kernel⟩
theorem s_102 : FnScope ["thing"] ["thing"] (defScope (top 11)) := ⟨rfl, rfl, rfl, by decide +kernel, rfl, by decide +kernel, by decide +kernel⟩
theorem s_261 : FnScope ["thing"] ["thing"] (defScope (top 16)) := ⟨rfl, rfl, rfl, by decide +kernel, rfl, by decide +kernel, by decide +kernel⟩
theorem s_262 : FnScope ["thing", "sign"] ["thing"] (defScope (top 17)) := ⟨rfl, rfl, rfl, by decide +kernel, rfl, by decide +kernel, by decide +kernel⟩
theorem s_264 : FnScope ["sort", "thing"] ["sort", "thing"] (defScope (top 18)) := ⟨rfl, rfl, rfl, by decide +kernel, rfl, by decide +kernel, by decide +kernel⟩
theorem s_263 : FnScope ["thing", "word", "others", "shape", "sort", "one"] ["thing"] (defScope (top 19)) := ⟨rfl, rfl, rfl, by decide +kernel, rfl, by decide +kernel, by decide +kernel⟩
theorem s_265 : FnScope ["thing"] ["thing"] (defScope (top 20)) := ⟨rfl, rfl, rfl, by decide +kernel, rfl, by decide +kernel, by decide +kernel⟩
theorem s_266 : FnScope ["term", "word", "others", "sort", "one"] ["term"] (defScope (top 21)) := ⟨rfl, rfl, rfl, by decide +kernel, rfl, by decide +kernel, by decide +kernel⟩
theorem s_267 : FnScope ["term", "one"] ["term"] (defScope (top 22)) := ⟨rfl, rfl, rfl, by decide +kernel, rfl, by decide +kernel, by decide +kernel⟩
theorem s_268 : FnScope ["term"] ["term"] (defScope (top 23)) := ⟨rfl, rfl, rfl, by decide +kernel, rfl, by decide +kernel, by decide +kernel⟩
theorem s_112 : FnScope ["_law_script", "_law_k", "_law_cell"] ["_law_script", "_law_k"] (defScope (top 25)) := ⟨rfl, rfl, rfl, by decide +kernel, rfl, by decide +kernel, by decide +kernel⟩
theorem s_113 : FnScope ["_law_pot_here", "_law_many_here", "_law_digit_here"] ["_law_pot_here", "_law_many_here"] (defScope (top 26)) := ⟨rfl, rfl, rfl, by decide +kernel, rfl, by decide +kernel, by decide +kernel⟩
theorem s_193 : FnScope ["_law_pot_here", "_law_used", "_law_letters_here", "_law_size", "_law_word", "_law_near", "_law_some", "_law_k", "_law_one"] ["_law_pot_here", "_law_used"] (defScope (top 27)) := ⟨rfl, rfl, rfl, by decide +kernel, rfl, by decide +kernel, by decide +kernel⟩
theorem s_114 : FnScope ["_law_pot_here", "_law_high", "_law_way"] ["_law_pot_here", "_law_high"] (defScope (top 28)) := ⟨rfl, rfl, rfl, by decide +kernel, rfl, by decide +kernel, by decide +kernel⟩
theorem s_269 : FnScope ["_law_pot_here", "_law_found", "_law_k"] ["_law_pot_here"] (defScope (top 29)) := ⟨rfl, rfl, rfl, by decide +kernel, rfl, by decide +kernel, by decide +kernel⟩
theorem s_270 : FnScope ["_law_pot_here", "_law_some"] ["_law_pot_here"] (defScope (top 30)) := ⟨rfl, rfl, rfl, by decide +kernel, rfl, by decide +kernel, by decide +kernel⟩
theorem s_271 : FnScope ["_law_pot_here", "_law_many_here", "_law_k"] ["_law_pot_here"] (defScope (top 31)) := ⟨rfl, rfl, rfl, by decide +kernel, rfl, by decide +kernel, by decide +kernel⟩
theorem s_477 : FnScope ["_law_word", "_law_shapes", "_law_more"] ["_law_word"] (defScope (top 32)) := ⟨rfl, rfl, rfl, by decide +kernel, rfl, by decide +kernel, by decide +kernel⟩
theorem s_273 : FnScope ["_law_pot_here", "_law_sort", "_law_pool_here", "_law_deep"] ["_law_pot_here", "_law_sort", "_law_pool_here", "_law_deep"] (defScope (top 33)) := ⟨rfl, rfl, rfl, by decide +kernel, rfl, by decide +kernel, by decide +kernel⟩
theorem s_272 : FnScope ["_law_pot_here", "_law_pool_here", "_law_deep", "_law_words", "_law_word", "_law_sort"] ["_law_pot_here", "_law_pool_here", "_law_deep"] (defScope (top 34)) := ⟨rfl, rfl, rfl, by decide +kernel, rfl, by decide +kernel, by decide +kernel⟩
theorem s_244 : FnScope ["_law_item", "_law_high", "_law_part_here"] ["_law_item", "_law_high"] (defScope (top 35)) := ⟨rfl, rfl, rfl, by decide +kernel, rfl, by decide +kernel, by decide +kernel⟩
theorem s_274 : FnScope ["_law_item", "_law_least", "_law_sign"] ["_law_item", "_law_least"] (defScope (top 36)) := ⟨rfl, rfl, rfl, by decide +kernel, rfl, by decide +kernel, by decide +kernel⟩
theorem s_276 : FnScope ["_law_sort", "_law_item"] ["_law_sort", "_law_item"] (defScope (top 37)) := ⟨rfl, rfl, rfl, by decide +kernel, rfl, by decide +kernel, by decide +kernel⟩
theorem s_275 : FnScope ["_law_item", "_law_shape_here", "_law_sort", "_law_one"] ["_law_item"] (defScope (top 38)) := ⟨rfl, rfl, rfl, by decide +kernel, rfl, by decide +kernel, by decide +kernel⟩
theorem s_478 : FnScope ["_law_pot_here", "_law_six", "_law_turn", "_law_some"] ["_law_pot_here"] (defScope (top 39)) := ⟨rfl, rfl, rfl, by decide +kernel, rfl, by decide +kernel, by decide +kernel⟩
theorem s_479 : FnScope ["_law_pot_here", "_law_item", "_law_at", "_law_way"] ["_law_pot_here", "_law_item"] (defScope (top 40)) := ⟨rfl, rfl, rfl, by decide +kernel, rfl, by decide +kernel, by decide +kernel⟩
theorem s_480 : FnScope ["_law_tree", "_law_below", "_law_sort", "_law_one"] ["_law_tree"] (defScope (top 41)) := ⟨rfl, rfl, rfl, by decide +kernel, rfl, by decide +kernel, by decide +kernel⟩
theorem s_481 : FnScope ["_law_item", "_law_kept", "_law_told_here"] ["_law_item"] (defScope (top 42)) := ⟨rfl, rfl, rfl, by decide +kernel, rfl, by decide +kernel, by decide +kernel⟩
theorem s_482 : FnScope ["_law_pot_here", "_law_tree", "_law_turn", "_law_item"] ["_law_pot_here"] (defScope (top 43)) := ⟨rfl, rfl, rfl, by decide +kernel, rfl, by decide +kernel, by decide +kernel⟩
theorem s_126 : FnScope ["_law_script", "_law_k"] ["_law_script"] (defScope (top 44)) := ⟨rfl, rfl, rfl, by decide +kernel, rfl, by decide +kernel, by decide +kernel⟩
theorem g_step {k : Nat} (D : FnsD K fds) (Z : Fx P w K mg base ⟨K, w, ca K⟩ k) : Gk P w K mg base fds (k + 1) where
  f_149 := fn_of (T := TT) (nf := 149) (D 0 e_149 rfl) s_149 rfl rfl rfl (w_149 Z _)
  f_101 := fn_of (T := TT) (nf := 101) (D 1 e_101 rfl) s_101 rfl rfl rfl (w_101 Z _)
  f_102 := fn_of (T := TT) (nf := 102) (D 2 e_102 rfl) s_102 rfl rfl rfl (w_102 Z _)
  f_261 := fn_of (T := TT) (nf := 261) (D 3 e_261 rfl) s_261 rfl rfl rfl (w_261 Z _)
  f_262 := fn_of (T := TT) (nf := 262) (D 4 e_262 rfl) s_262 rfl rfl rfl (w_262 Z _)
  f_264 := fn_of (T := TT) (nf := 264) (D 5 e_264 rfl) s_264 rfl rfl rfl (w_264 Z _)
  f_263 := fn_of (T := TT) (nf := 263) (D 6 e_263 rfl) s_263 rfl rfl rfl (w_263 Z _)
  f_265 := fn_of (T := TT) (nf := 265) (D 7 e_265 rfl) s_265 rfl rfl rfl (w_265 Z _)
  f_266 := fn_of (T := TT) (nf := 266) (D 8 e_266 rfl) s_266 rfl rfl rfl (w_266 Z _)
  f_267 := fn_of (T := TT) (nf := 267) (D 9 e_267 rfl) s_267 rfl rfl rfl (w_267 Z _)
  f_268 := fn_of (T := TT) (nf := 268) (D 10 e_268 rfl) s_268 rfl rfl rfl (w_268 Z _)
  f_112 := fn_of (T := TT) (nf := 112) (D 11 e_112 rfl) s_112 rfl rfl rfl (w_112 Z _)
  f_113 := fn_of (T := TT) (nf := 113) (D 12 e_113 rfl) s_113 rfl rfl rfl (w_113 Z _)
  f_193 := fn_of (T := TT) (nf := 193) (D 13 e_193 rfl) s_193 rfl rfl rfl (w_193 Z _)
  f_114 := fn_of (T := TT) (nf := 114) (D 14 e_114 rfl) s_114 rfl rfl rfl (w_114 Z _)
  f_269 := fn_of (T := TT) (nf := 269) (D 15 e_269 rfl) s_269 rfl rfl rfl (w_269 Z _)
  f_270 := fn_of (T := TT) (nf := 270) (D 16 e_270 rfl) s_270 rfl rfl rfl (w_270 Z _)
  f_271 := fn_of (T := TT) (nf := 271) (D 17 e_271 rfl) s_271 rfl rfl rfl (w_271 Z _)
  f_477 := fn_of (T := TT) (nf := 477) (D 18 e_477 rfl) s_477 rfl rfl rfl (w_477 Z _)
  f_273 := fn_of (T := TT) (nf := 273) (D 19 e_273 rfl) s_273 rfl rfl rfl (w_273 Z _)
  f_272 := fn_of (T := TT) (nf := 272) (D 20 e_272 rfl) s_272 rfl rfl rfl (w_272 Z _)
  f_244 := fn_of (T := TT) (nf := 244) (D 21 e_244 rfl) s_244 rfl rfl rfl (w_244 Z _)
  f_274 := fn_of (T := TT) (nf := 274) (D 22 e_274 rfl) s_274 rfl rfl rfl (w_274 Z _)
  f_276 := fn_of (T := TT) (nf := 276) (D 23 e_276 rfl) s_276 rfl rfl rfl (w_276 Z _)
  f_275 := fn_of (T := TT) (nf := 275) (D 24 e_275 rfl) s_275 rfl rfl rfl (w_275 Z _)
  f_478 := fn_of (T := TT) (nf := 478) (D 25 e_478 rfl) s_478 rfl rfl rfl (w_478 Z _)
  f_479 := fn_of (T := TT) (nf := 479) (D 26 e_479 rfl) s_479 rfl rfl rfl (w_479 Z _)
  f_480 := fn_of (T := TT) (nf := 480) (D 27 e_480 rfl) s_480 rfl rfl rfl (w_480 Z _)
  f_481 := fn_of (T := TT) (nf := 481) (D 28 e_481 rfl) s_481 rfl rfl rfl (w_481 Z _)
  f_482 := fn_of (T := TT) (nf := 482) (D 29 e_482 rfl) s_482 rfl rfl rfl (w_482 Z _)
  f_126 := fn_of (T := TT) (nf := 126) (D 30 e_126 rfl) s_126 rfl rfl rfl (w_126 Z _)
theorem bd_101 (D : FnsD K fds) : L2.Binds K (fds 1) ["thing", "high"] [] := FunD.bindsN (D 1 e_101 rfl) fun _ _ _ _ _ _ us hl => match us, hl with | [_, _], _ => rfl
theorem bd_261 (D : FnsD K fds) : L2.Binds K (fds 3) ["thing"] [] := FunD.bindsN (D 3 e_261 rfl) fun _ _ _ _ _ _ us hl => match us, hl with | [_], _ => rfl
theorem bd_262 (D : FnsD K fds) : L2.Binds K (fds 4) ["thing"] [] := FunD.bindsN (D 4 e_262 rfl) fun _ _ _ _ _ _ us hl => match us, hl with | [_], _ => rfl
theorem bd_149 (D : FnsD K fds) : L2.Binds K (fds 0) ["thing"] [] := FunD.bindsN (D 0 e_149 rfl) fun _ _ _ _ _ _ us hl => match us, hl with | [_], _ => rfl
theorem bd_102 (D : FnsD K fds) : L2.Binds K (fds 2) ["thing"] [] := FunD.bindsN (D 2 e_102 rfl) fun _ _ _ _ _ _ us hl => match us, hl with | [_], _ => rfl
theorem bd_263 (D : FnsD K fds) : L2.Binds K (fds 6) ["thing"] [] := FunD.bindsN (D 6 e_263 rfl) fun _ _ _ _ _ _ us hl => match us, hl with | [_], _ => rfl
theorem bd_264 (D : FnsD K fds) : L2.Binds K (fds 5) ["sort", "thing"] [] := FunD.bindsN (D 5 e_264 rfl) fun _ _ _ _ _ _ us hl => match us, hl with | [_, _], _ => rfl
theorem bd_266 (D : FnsD K fds) : L2.Binds K (fds 8) ["term"] [] := FunD.bindsN (D 8 e_266 rfl) fun _ _ _ _ _ _ us hl => match us, hl with | [_], _ => rfl
theorem bd_267 (D : FnsD K fds) : L2.Binds K (fds 9) ["term"] [] := FunD.bindsN (D 9 e_267 rfl) fun _ _ _ _ _ _ us hl => match us, hl with | [_], _ => rfl
theorem bd_265 (D : FnsD K fds) : L2.Binds K (fds 7) ["thing"] [] := FunD.bindsN (D 7 e_265 rfl) fun _ _ _ _ _ _ us hl => match us, hl with | [_], _ => rfl
theorem bd_113 (D : FnsD K fds) : L2.Binds K (fds 12) ["_law_pot_here", "_law_many_here"] [] := FunD.bindsN (D 12 e_113 rfl) fun _ _ _ _ _ _ us hl => match us, hl with | [_, _], _ => rfl
theorem bd_114 (D : FnsD K fds) : L2.Binds K (fds 14) ["_law_pot_here", "_law_high"] [] := FunD.bindsN (D 14 e_114 rfl) fun _ _ _ _ _ _ us hl => match us, hl with | [_, _], _ => rfl
theorem bd_193 (D : FnsD K fds) : L2.Binds K (fds 13) ["_law_pot_here", "_law_used"] [] := FunD.bindsN (D 13 e_193 rfl) fun _ _ _ _ _ _ us hl => match us, hl with | [_, _], _ => rfl
theorem bd_270 (D : FnsD K fds) : L2.Binds K (fds 16) ["_law_pot_here"] [] := FunD.bindsN (D 16 e_270 rfl) fun _ _ _ _ _ _ us hl => match us, hl with | [_], _ => rfl
theorem bd_271 (D : FnsD K fds) : L2.Binds K (fds 17) ["_law_pot_here"] [] := FunD.bindsN (D 17 e_271 rfl) fun _ _ _ _ _ _ us hl => match us, hl with | [_], _ => rfl
theorem bd_272 (D : FnsD K fds) : L2.Binds K (fds 20) ["_law_pot_here", "_law_pool_here", "_law_deep"] [] := FunD.bindsN (D 20 e_272 rfl) fun _ _ _ _ _ _ us hl => match us, hl with | [_, _, _], _ => rfl
theorem bd_477 (D : FnsD K fds) : L2.Binds K (fds 18) ["_law_word"] [] := FunD.bindsN (D 18 e_477 rfl) fun _ _ _ _ _ _ us hl => match us, hl with | [_], _ => rfl
theorem bd_273 (D : FnsD K fds) : L2.Binds K (fds 19) ["_law_pot_here", "_law_sort", "_law_pool_here", "_law_deep"] [] := FunD.bindsN (D 19 e_273 rfl) fun _ _ _ _ _ _ us hl => match us, hl with | [_, _, _, _], _ => rfl
theorem bd_244 (D : FnsD K fds) : L2.Binds K (fds 21) ["_law_item", "_law_high"] [] := FunD.bindsN (D 21 e_244 rfl) fun _ _ _ _ _ _ us hl => match us, hl with | [_, _], _ => rfl
theorem bd_274 (D : FnsD K fds) : L2.Binds K (fds 22) ["_law_item", "_law_least"] [] := FunD.bindsN (D 22 e_274 rfl) fun _ _ _ _ _ _ us hl => match us, hl with | [_, _], _ => rfl
theorem bd_275 (D : FnsD K fds) : L2.Binds K (fds 24) ["_law_item"] [] := FunD.bindsN (D 24 e_275 rfl) fun _ _ _ _ _ _ us hl => match us, hl with | [_], _ => rfl
theorem bd_276 (D : FnsD K fds) : L2.Binds K (fds 23) ["_law_sort", "_law_item"] [] := FunD.bindsN (D 23 e_276 rfl) fun _ _ _ _ _ _ us hl => match us, hl with | [_, _], _ => rfl
theorem bd_478 (D : FnsD K fds) : L2.Binds K (fds 25) ["_law_pot_here"] [] := FunD.bindsN (D 25 e_478 rfl) fun _ _ _ _ _ _ us hl => match us, hl with | [_], _ => rfl
theorem bd_479 (D : FnsD K fds) : L2.Binds K (fds 26) ["_law_pot_here", "_law_item"] [] := FunD.bindsN (D 26 e_479 rfl) fun _ _ _ _ _ _ us hl => match us, hl with | [_, _], _ => rfl
theorem bd_480 (D : FnsD K fds) : L2.Binds K (fds 27) ["_law_tree"] [] := FunD.bindsN (D 27 e_480 rfl) fun _ _ _ _ _ _ us hl => match us, hl with | [_], _ => rfl
theorem bd_269 (D : FnsD K fds) : L2.Binds K (fds 15) ["_law_pot_here"] [] := FunD.bindsN (D 15 e_269 rfl) fun _ _ _ _ _ _ us hl => match us, hl with | [_], _ => rfl
theorem bd_481 (D : FnsD K fds) : L2.Binds K (fds 28) ["_law_item"] [] := FunD.bindsN (D 28 e_481 rfl) fun _ _ _ _ _ _ us hl => match us, hl with | [_], _ => rfl
theorem bd_268 (D : FnsD K fds) : L2.Binds K (fds 10) ["term"] [] := FunD.bindsN (D 10 e_268 rfl) fun _ _ _ _ _ _ us hl => match us, hl with | [_], _ => rfl
theorem bd_482 (D : FnsD K fds) : L2.Binds K (fds 29) ["_law_pot_here"] [] := FunD.bindsN (D 29 e_482 rfl) fun _ _ _ _ _ _ us hl => match us, hl with | [_], _ => rfl
theorem bd_112 (D : FnsD K fds) : L2.Binds K (fds 11) ["_law_script", "_law_k"] [] := FunD.bindsN (D 11 e_112 rfl) fun _ _ _ _ _ _ us hl => match us, hl with | [_, _], _ => rfl
theorem k_263_0_thing_b {K : PySem.W.Frag} {fds : Nat → FuncData} (D : FnsD K fds) : KSrc K (fds 6) ["thing"] 0 ["thing"] [.inl 0] := ksrc_of [0] (by decide) rfl fun s us zs l1 l2 => by
  obtain ⟨oc, od, dV, kV, doc, pm, an, cdv, ct, osl, e0, lk, hcd, hD, hK⟩ := (D 6 e_263 rfl).ex
  rw [e0]
  obtain ⟨_, e1⟩ := hD.resolve_right fun z => z.1 rfl
  rw [e1]
  exact (match us, zs, l1, l2 with | [], [z0], _, _ => BindsTo.of_eq rfl)
theorem k_268_0_term_b {K : PySem.W.Frag} {fds : Nat → FuncData} (D : FnsD K fds) : KSrc K (fds 10) ["term"] 0 ["term"] [.inl 0] := ksrc_of [0] (by decide) rfl fun s us zs l1 l2 => by
  obtain ⟨oc, od, dV, kV, doc, pm, an, cdv, ct, osl, e0, lk, hcd, hD, hK⟩ := (D 10 e_268 rfl).ex
  rw [e0]
  obtain ⟨_, e1⟩ := hD.resolve_right fun z => z.1 rfl
  rw [e1]
  exact (match us, zs, l1, l2 with | [], [z0], _, _ => BindsTo.of_eq rfl)
theorem fx_of {k : Nat} (X : K.In h) (G : h.Ns mainGlobals mg) (c : SaysX fas fns tbs chk w K) (D : FnsD K fds) (g : Gk P w K mg base fds k) : Fx P w K mg base ⟨K, w, ca K⟩ k := by
  have cc := c.c
  unfold chk at cc
  simp only [Bool.and_eq_true] at cc
  exact {
    sm := smC_ok cc.2
    g_len := He.free_ok X G (c.t.d.fact 31 (f := .free "len") rfl)
    c_MOST_LETTERS := gc_int (c := ⟨K, w, ca K⟩) X G (c.t.d.fact 32 (f := .int "MOST_LETTERS" 8) rfl)
    g_isinstance := He.free_ok X G (c.t.d.fact 33 (f := .free "isinstance") rfl)
    g_str := He.free_ok X G (c.t.d.fact 34 (f := .free "str") rfl)
    c_LETTERS_forms := gc_str (c := ⟨K, w, ca K⟩) X G (by decide +kernel) (c.t.d.fact 35 (f := .str "LETTERS_forms" "abcdefghijklmnopqrstuvwxyz") rfl)
    g_all := He.free_ok X G (c.t.d.fact 36 (f := .free "all") rfl)
    c_PLAIN := gc_tup (c := ⟨K, w, ca K⟩) X G (c.t.d.fact 37 (f := .glo "PLAIN") rfl) cc.1.1.1
    g_tuple := He.free_ok X G (c.t.d.fact 38 (f := .free "tuple") rfl)
    c_WIDTHS := gc_dic (c := ⟨K, w, ca K⟩) X G (c.t.d.fact 39 (f := .glo "WIDTHS") rfl) cc.1.1.2 (c.t.tab 0 rfl)
    f_101 := ⟨_, _, He.glo_ok X G (c.t.d.fact 1 (f := .glo "is_form_to") rfl), (D 1 e_101 rfl).kp, g.f_101, bd_101 D⟩
    c_MOST_HEIGHT := gc_int (c := ⟨K, w, ca K⟩) X G (c.t.d.fact 40 (f := .int "MOST_HEIGHT" 5) rfl)
    g_bool := He.free_ok X G (c.t.d.fact 41 (f := .free "bool") rfl)
    g_int := He.free_ok X G (c.t.d.fact 42 (f := .free "int") rfl)
    c_LETTERS_terms := gc_str (c := ⟨K, w, ca K⟩) X G (by decide +kernel) (c.t.d.fact 43 (f := .str "LETTERS_terms" "abcdefghijklmnopqrstuvwxyz") rfl)
    c_MOST_SIGNS := gc_int (c := ⟨K, w, ca K⟩) X G (c.t.d.fact 44 (f := .int "MOST_SIGNS" 8) rfl)
    f_261 := ⟨_, _, He.glo_ok X G (c.t.d.fact 3 (f := .glo "is_whole") rfl), (D 3 e_261 rfl).kp, g.f_261, bd_261 D⟩
    f_262 := ⟨_, _, He.glo_ok X G (c.t.d.fact 4 (f := .glo "is_written") rfl), (D 4 e_262 rfl).kp, g.f_262, bd_262 D⟩
    f_149 := ⟨_, _, He.glo_ok X G (c.t.d.fact 0 (f := .glo "is_name") rfl), (D 0 e_149 rfl).kp, g.f_149, bd_149 D⟩
    f_102 := ⟨_, _, He.glo_ok X G (c.t.d.fact 2 (f := .glo "is_form") rfl), (D 2 e_102 rfl).kp, g.f_102, bd_102 D⟩
    f_263 := ⟨_, _, He.glo_ok X G (c.t.d.fact 6 (f := .glo "is_term") rfl), (D 6 e_263 rfl).kp, g.f_263, bd_263 D⟩
    c_SHAPES := gc_dic (c := ⟨K, w, ca K⟩) X G (c.t.d.fact 45 (f := .glo "SHAPES") rfl) cc.1.2 (c.t.tab 1 rfl)
    g_zip := He.free_ok X G (c.t.d.fact 46 (f := .free "zip") rfl)
    f_264 := ⟨_, _, He.glo_ok X G (c.t.d.fact 5 (f := .glo "fits") rfl), (D 5 e_264 rfl).kp, g.f_264, bd_264 D⟩
    e_147 := ge_exc (c := ⟨K, w, ca K⟩) X G (by decide) rfl (c.t.d.fact 47 (f := .glo "NoTerm") rfl) (c.t.d.fact 48 (f := .exc "NoTerm") rfl)
    f_266 := ⟨_, _, He.glo_ok X G (c.t.d.fact 8 (f := .glo "terms_in") rfl), (D 8 e_266 rfl).kp, g.f_266, bd_266 D⟩
    f_267 := ⟨_, _, He.glo_ok X G (c.t.d.fact 9 (f := .glo "many_in") rfl), (D 9 e_267 rfl).kp, g.f_267, bd_267 D⟩
    g_sum := He.free_ok X G (c.t.d.fact 49 (f := .free "sum") rfl)
    f_265 := ⟨_, _, He.glo_ok X G (c.t.d.fact 7 (f := .glo "want_term") rfl), (D 7 e_265 rfl).kp, g.f_265, bd_265 D⟩
    g_abs := He.free_ok X G (c.t.d.fact 50 (f := .free "abs") rfl)
    g_max := He.free_ok X G (c.t.d.fact 51 (f := .free "max") rfl)
    g_divmod := He.free_ok X G (c.t.d.fact 52 (f := .free "divmod") rfl)
    f_113 := ⟨_, _, He.glo_ok X G (c.t.d.fact 12 (f := .glo "_law_digit") rfl), (D 12 e_113 rfl).kp, g.f_113, bd_113 D⟩
    g_range := He.free_ok X G (c.t.d.fact 53 (f := .free "range") rfl)
    f_114 := ⟨_, _, He.glo_ok X G (c.t.d.fact 14 (f := .glo "_law_form") rfl), (D 14 e_114 rfl).kp, g.f_114, bd_114 D⟩
    f_193 := ⟨_, _, He.glo_ok X G (c.t.d.fact 13 (f := .glo "_law_name") rfl), (D 13 e_193 rfl).kp, g.f_193, bd_193 D⟩
    f_270 := ⟨_, _, He.glo_ok X G (c.t.d.fact 16 (f := .glo "_law_number") rfl), (D 16 e_270 rfl).kp, g.f_270, bd_270 D⟩
    f_271 := ⟨_, _, He.glo_ok X G (c.t.d.fact 17 (f := .glo "_law_letters") rfl), (D 17 e_271 rfl).kp, g.f_271, bd_271 D⟩
    f_272 := ⟨_, _, He.glo_ok X G (c.t.d.fact 20 (f := .glo "_law_any_term") rfl), (D 20 e_272 rfl).kp, g.f_272, bd_272 D⟩
    f_477 := ⟨_, _, He.glo_ok X G (c.t.d.fact 18 (f := .glo "_law_shape") rfl), (D 18 e_477 rfl).kp, g.f_477, bd_477 D⟩
    f_273 := ⟨_, _, He.glo_ok X G (c.t.d.fact 19 (f := .glo "_law_part") rfl), (D 19 e_273 rfl).kp, g.f_273, bd_273 D⟩
    f_244 := ⟨_, _, He.glo_ok X G (c.t.d.fact 21 (f := .glo "_law_is_form") rfl), (D 21 e_244 rfl).kp, g.f_244, bd_244 D⟩
    f_274 := ⟨_, _, He.glo_ok X G (c.t.d.fact 22 (f := .glo "_law_is_word") rfl), (D 22 e_274 rfl).kp, g.f_274, bd_274 D⟩
    f_275 := ⟨_, _, He.glo_ok X G (c.t.d.fact 24 (f := .glo "_law_is_term") rfl), (D 24 e_275 rfl).kp, g.f_275, bd_275 D⟩
    f_276 := ⟨_, _, He.glo_ok X G (c.t.d.fact 23 (f := .glo "_law_fits") rfl), (D 23 e_276 rfl).kp, g.f_276, bd_276 D⟩
    f_478 := ⟨_, _, He.glo_ok X G (c.t.d.fact 25 (f := .glo "_law_odd") rfl), (D 25 e_478 rfl).kp, g.f_478, bd_478 D⟩
    f_479 := ⟨_, _, He.glo_ok X G (c.t.d.fact 26 (f := .glo "_law_otherwise") rfl), (D 26 e_479 rfl).kp, g.f_479, bd_479 D⟩
    g_list := He.free_ok X G (c.t.d.fact 54 (f := .free "list") rfl)
    f_480 := ⟨_, _, He.glo_ok X G (c.t.d.fact 27 (f := .glo "_law_many") rfl), (D 27 e_480 rfl).kp, g.f_480, bd_480 D⟩
    g_repr := He.free_ok X G (c.t.d.fact 55 (f := .free "repr") rfl)
    k_263_0_thing := ⟨_, _, He.glo_ok X G (c.t.d.fact 6 (f := .glo "is_term") rfl), (D 6 e_263 rfl).kp, g.f_263, k_263_0_thing_b D⟩
    f_269 := ⟨_, _, He.glo_ok X G (c.t.d.fact 15 (f := .glo "_law_pool") rfl), (D 15 e_269 rfl).kp, g.f_269, bd_269 D⟩
    f_481 := ⟨_, _, He.glo_ok X G (c.t.d.fact 28 (f := .glo "_law_told") rfl), (D 28 e_481 rfl).kp, g.f_481, bd_481 D⟩
    k_268_0_term := ⟨_, _, He.glo_ok X G (c.t.d.fact 10 (f := .glo "parts_in") rfl), (D 10 e_268 rfl).kp, g.f_268, k_268_0_term_b D⟩
    f_268 := ⟨_, _, He.glo_ok X G (c.t.d.fact 10 (f := .glo "parts_in") rfl), (D 10 e_268 rfl).kp, g.f_268, bd_268 D⟩
    g_min := He.free_ok X G (c.t.d.fact 56 (f := .free "min") rfl)
    f_482 := ⟨_, _, He.glo_ok X G (c.t.d.fact 29 (f := .glo "_law_right") rfl), (D 29 e_482 rfl).kp, g.f_482, bd_482 D⟩
    f_112 := ⟨_, _, He.glo_ok X G (c.t.d.fact 11 (f := .glo "_law_pot") rfl), (D 11 e_112 rfl).kp, g.f_112, bd_112 D⟩
  }
theorem g_all (X : K.In h) (G : h.Ns mainGlobals mg) (c : SaysX fas fns tbs chk w K) (D : FnsD K fds) : ∀ k, Gk P w K mg base fds k
  | 0 => g_zero
  | k + 1 => g_step D (fx_of X G c D (g_all X G c D k))
end
abbrev Rw : PySem.W.OpenRow := PySem.W.OpenLaw.row PySem.Challenge.rw_wallseal_k41_what_is_a_term
abbrev hkx : PySem.W.Hook := hookX 4 fas fns tbs chk
def obx (s : PySem.W.SharedT) : AlX := obsXG 4 fas fns tbs chk (HandSHeadRun.getT s)
theorem obx_eq (s : PySem.W.SharedT) : obx s = hkx.obs s.abs := obsXG_eq (HandSHeadRun.getT_eq s)
theorem facts {P : PySem.Program} {w : World} {K : PySem.W.Frag} {h : Heap} {mg : Str → Option Value} {f : Addr} (kk : Nat) (M : ∀ ns : List Int, ns.length ≤ 63 → (∀ z ∈ ns, Builtin.Int.intBits z ≤ 1048576) → ∃ S', callT TT kk 126 [.scr ns] [] = .ok (.bl true) S')
    (X : K.In h) (G : h.Ns mainGlobals mg) (hfa : mg ("law" : Str) = some (.ref f)) (c : SaysX fas fns tbs chk w K) :
    ∃ (fd : FuncData) (sp : Sp), (∀ (s : Shared) (u : Value), BindsTo s fd ⟨[u], []⟩ [("_law_script", u)]) ∧
      (∀ (H : Hp) (a : Addr) (ns : List Int), ns.length ≤ 63 → (∀ z ∈ ns, Builtin.Int.intBits z ≤ 1048576) → Only H → SqL K H a (ns.map V.int) → sp [.ref a] H (fun v _ => v = .bl true) fun _ _ _ => False) ∧
      ∀ base : Heap, K.In base → base.Ns mainGlobals mg → FnG P w K mg base kk f fd ["_law_script"] sp := by
  obtain ⟨fds, D⟩ := c.fds
  have e := hfa.symm.trans (He.glo_ok X G (c.t.d.fact 30 (f := .glo "law") rfl))
  cases e
  refine ⟨fds 30, spF ⟨K, w, ca K⟩ (callT TT kk) 126 1, fun s u => FunD.bindsA (ps := ["_law_script"]) (D 30 e_126 rfl) (fun _ _ _ _ _ _ us hl => match us, hl with | [_], _ => rfl) s [u] rfl, fun H a ns h1 h2 _ hS => ?_, fun base _ _ => (g_all X G c D kk).f_126⟩
  obtain ⟨S', e⟩ := M ns h1 h2
  exact wish_of (c := ⟨K, w, ca K⟩) e hS
end k41
end Ev
set_option Elab.async false
set_option linter.all false
set_option autoImplicit false
set_option maxRecDepth 100000
set_option maxHeartbeats 4000000
namespace Ev
open PySem
@[simp] theorem rb_ok {α β : Type} (a : α) (ρ : Env) (S : Sto) (f : α → M β) : Res.bind (.ok a ρ S) f = f a ρ S := rfl
@[simp] theorem rb_exc {α β : Type} (x : Exn) (ρ : Env) (S : Sto) (f : α → M β) : Res.bind (.exc x ρ S) f = .exc x ρ S := rfl
theorem mb {α β : Type} (m : M α) (f : α → M β) (ρ : Env) (S : Sto) : M.bind m f ρ S = Res.bind (m ρ S) f := rfl
theorem mp {α : Type} (a : α) (ρ : Env) (S : Sto) : M.pure a ρ S = .ok a ρ S := rfl
theorem eqb_str (x y : Txt) : D.eqb (.str x) (.str y) = (x == y) := rfl
theorem eqb_int (x y : Int) : D.eqb (.int x) (.int y) = (x == y) := rfl
theorem eqb_bl (x y : Bool) : D.eqb (.bl x) (.bl y) = (x == y) := rfl
theorem eqb_tup (xs ys : List D) : D.eqb (.tup xs) (.tup ys) = D.eqbs xs ys := rfl
theorem eqbs_nil : D.eqbs [] [] = true := rfl
theorem eqbs_cn (x : D) (xs : List D) : D.eqbs (x :: xs) [] = false := rfl
theorem eqbs_nc (x : D) (xs : List D) : D.eqbs [] (x :: xs) = false := rfl
theorem eqbs_cc (x y : D) (xs ys : List D) : D.eqbs (x :: xs) (y :: ys) = (D.eqb x y && D.eqbs xs ys) := rfl
theorem eqb_st (x : Txt) (ys : List D) : D.eqb (.str x) (.tup ys) = false := rfl
theorem eqb_ts (x : Txt) (ys : List D) : D.eqb (.tup ys) (.str x) = false := rfl
theorem plain_str (n : Nat) (x : Txt) : D.plain n (.str x) = x.all fun k => decide (k < 1114112) := by cases n <;> rfl
theorem plain_int (n : Nat) (i : Int) : D.plain n (.int i) = true := by cases n <;> rfl
theorem plain_bl (n : Nat) (b : Bool) : D.plain n (.bl b) = true := by cases n <;> rfl
theorem plain_tup (n : Nat) (xs : List D) : D.plain (n + 1) (.tup xs) = D.plains n xs := rfl
theorem plains_nil (n : Nat) : D.plains n [] = true := by cases n <;> rfl
theorem plains_cons (n : Nat) (x : D) (xs : List D) : D.plains n (x :: xs) = (D.plain n x && D.plains n xs) := by cases n <;> rfl
theorem eqb_nn : D.eqb .non .non = true := rfl
theorem eqb_nb (y : Bool) : D.eqb .non (.bl y) = false := rfl
theorem eqb_ni (y : Int) : D.eqb .non (.int y) = false := rfl
theorem eqb_ns (y : Txt) : D.eqb .non (.str y) = false := rfl
theorem eqb_nt (y : List D) : D.eqb .non (.tup y) = false := rfl
theorem eqb_nl (y : List D) : D.eqb .non (.lst y) = false := rfl
theorem eqb_nd (y : List (D × D)) : D.eqb .non (.dic y) = false := rfl
theorem eqb_bn (x : Bool) : D.eqb (.bl x) .non = false := rfl
theorem eqb_bi (x : Bool) (y : Int) : D.eqb (.bl x) (.int y) = ((if x then (1 : Int) else 0) == y) := rfl
theorem eqb_bs (x : Bool) (y : Txt) : D.eqb (.bl x) (.str y) = false := rfl
theorem eqb_bt (x : Bool) (y : List D) : D.eqb (.bl x) (.tup y) = false := rfl
theorem eqb_b_l (x : Bool) (y : List D) : D.eqb (.bl x) (.lst y) = false := rfl
theorem eqb_bd (x : Bool) (y : List (D × D)) : D.eqb (.bl x) (.dic y) = false := rfl
theorem eqb_in (x : Int) : D.eqb (.int x) .non = false := rfl
theorem eqb_ib (x : Int) (y : Bool) : D.eqb (.int x) (.bl y) = (x == (if y then (1 : Int) else 0)) := rfl
theorem eqb_is (x : Int) (y : Txt) : D.eqb (.int x) (.str y) = false := rfl
theorem eqb_it (x : Int) (y : List D) : D.eqb (.int x) (.tup y) = false := rfl
theorem eqb_il (x : Int) (y : List D) : D.eqb (.int x) (.lst y) = false := rfl
theorem eqb_id (x : Int) (y : List (D × D)) : D.eqb (.int x) (.dic y) = false := rfl
theorem eqb_sn (x : Txt) : D.eqb (.str x) .non = false := rfl
theorem eqb_sb (x : Txt) (y : Bool) : D.eqb (.str x) (.bl y) = false := rfl
theorem eqb_si (x : Txt) (y : Int) : D.eqb (.str x) (.int y) = false := rfl
theorem eqb_sl (x : Txt) (y : List D) : D.eqb (.str x) (.lst y) = false := rfl
theorem eqb_sd (x : Txt) (y : List (D × D)) : D.eqb (.str x) (.dic y) = false := rfl
theorem eqb_tn (x : List D) : D.eqb (.tup x) .non = false := rfl
theorem eqb_tb (x : List D) (y : Bool) : D.eqb (.tup x) (.bl y) = false := rfl
theorem eqb_ti (x : List D) (y : Int) : D.eqb (.tup x) (.int y) = false := rfl
theorem eqb_tl (x : List D) (y : List D) : D.eqb (.tup x) (.lst y) = false := rfl
theorem eqb_td (x : List D) (y : List (D × D)) : D.eqb (.tup x) (.dic y) = false := rfl
theorem eqb_ln (x : List D) : D.eqb (.lst x) .non = false := rfl
theorem eqb_lb (x : List D) (y : Bool) : D.eqb (.lst x) (.bl y) = false := rfl
theorem eqb_li (x : List D) (y : Int) : D.eqb (.lst x) (.int y) = false := rfl
theorem eqb_ls (x : List D) (y : Txt) : D.eqb (.lst x) (.str y) = false := rfl
theorem eqb_lt (x : List D) (y : List D) : D.eqb (.lst x) (.tup y) = false := rfl
theorem eqb_ll (x : List D) (y : List D) : D.eqb (.lst x) (.lst y) = D.eqbs x y := rfl
theorem eqb_ld (x : List D) (y : List (D × D)) : D.eqb (.lst x) (.dic y) = false := rfl
theorem eqb_dn (x : List (D × D)) : D.eqb (.dic x) .non = false := rfl
theorem eqb_db (x : List (D × D)) (y : Bool) : D.eqb (.dic x) (.bl y) = false := rfl
theorem eqb_di (x : List (D × D)) (y : Int) : D.eqb (.dic x) (.int y) = false := rfl
theorem eqb_ds (x : List (D × D)) (y : Txt) : D.eqb (.dic x) (.str y) = false := rfl
theorem eqb_dt (x : List (D × D)) (y : List D) : D.eqb (.dic x) (.tup y) = false := rfl
theorem eqb_dl (x : List (D × D)) (y : List D) : D.eqb (.dic x) (.lst y) = false := rfl
theorem eqb_dd (x : List (D × D)) (y : List (D × D)) : D.eqb (.dic x) (.dic y) = false := rfl
theorem plain_non (n : Nat) : D.plain n .non = true := by cases n <;> rfl
theorem plain_lst (n : Nat) (xs : List D) : D.plain (n + 1) (.lst xs) = D.plains n xs := rfl
theorem plain_dic (n : Nat) (xs : List (D × D)) : D.plain n (.dic xs) = false := by cases n <;> rfl
theorem eqo_nn : eqo .non .non = if D.plain 60 .non && D.plain 60 .non then some (D.eqb .non .non) else none := rfl
theorem eqo_nb (y : Bool) : eqo .non (.bl y) = if D.plain 60 .non && D.plain 60 (.bl y) then some (D.eqb .non (.bl y)) else none := rfl
theorem eqo_ni (y : Int) : eqo .non (.int y) = if D.plain 60 .non && D.plain 60 (.int y) then some (D.eqb .non (.int y)) else none := rfl
theorem eqo_ns (y : Txt) : eqo .non (.str y) = if D.plain 60 .non && D.plain 60 (.str y) then some (D.eqb .non (.str y)) else none := rfl
theorem eqo_nt (y : List D) : eqo .non (.tup y) = if D.plain 60 .non && D.plain 60 (.tup y) then some (D.eqb .non (.tup y)) else none := rfl
theorem eqo_nl (y : List D) : eqo .non (.lst y) = if D.plain 60 .non && D.plain 60 (.lst y) then some (D.eqb .non (.lst y)) else none := rfl
theorem eqo_nd (y : List (D × D)) : eqo .non (.dic y) = if D.plain 60 .non && D.plain 60 (.dic y) then some (D.eqb .non (.dic y)) else none := rfl
theorem eqo_bn (x : Bool) : eqo (.bl x) .non = if D.plain 60 (.bl x) && D.plain 60 .non then some (D.eqb (.bl x) .non) else none := rfl
theorem eqo_bb (x : Bool) (y : Bool) : eqo (.bl x) (.bl y) = some (x == y) := rfl
theorem eqo_bi (x : Bool) (y : Int) : eqo (.bl x) (.int y) = if D.plain 60 (.bl x) && D.plain 60 (.int y) then some (D.eqb (.bl x) (.int y)) else none := rfl
theorem eqo_bs (x : Bool) (y : Txt) : eqo (.bl x) (.str y) = if D.plain 60 (.bl x) && D.plain 60 (.str y) then some (D.eqb (.bl x) (.str y)) else none := rfl
theorem eqo_bt (x : Bool) (y : List D) : eqo (.bl x) (.tup y) = if D.plain 60 (.bl x) && D.plain 60 (.tup y) then some (D.eqb (.bl x) (.tup y)) else none := rfl
theorem eqo_bl (x : Bool) (y : List D) : eqo (.bl x) (.lst y) = if D.plain 60 (.bl x) && D.plain 60 (.lst y) then some (D.eqb (.bl x) (.lst y)) else none := rfl
theorem eqo_bd (x : Bool) (y : List (D × D)) : eqo (.bl x) (.dic y) = if D.plain 60 (.bl x) && D.plain 60 (.dic y) then some (D.eqb (.bl x) (.dic y)) else none := rfl
theorem eqo_in (x : Int) : eqo (.int x) .non = if D.plain 60 (.int x) && D.plain 60 .non then some (D.eqb (.int x) .non) else none := rfl
theorem eqo_ib (x : Int) (y : Bool) : eqo (.int x) (.bl y) = if D.plain 60 (.int x) && D.plain 60 (.bl y) then some (D.eqb (.int x) (.bl y)) else none := rfl
theorem eqo_ii (x : Int) (y : Int) : eqo (.int x) (.int y) = some (x == y) := rfl
theorem eqo_is (x : Int) (y : Txt) : eqo (.int x) (.str y) = if D.plain 60 (.int x) && D.plain 60 (.str y) then some (D.eqb (.int x) (.str y)) else none := rfl
theorem eqo_it (x : Int) (y : List D) : eqo (.int x) (.tup y) = if D.plain 60 (.int x) && D.plain 60 (.tup y) then some (D.eqb (.int x) (.tup y)) else none := rfl
theorem eqo_il (x : Int) (y : List D) : eqo (.int x) (.lst y) = if D.plain 60 (.int x) && D.plain 60 (.lst y) then some (D.eqb (.int x) (.lst y)) else none := rfl
theorem eqo_id (x : Int) (y : List (D × D)) : eqo (.int x) (.dic y) = if D.plain 60 (.int x) && D.plain 60 (.dic y) then some (D.eqb (.int x) (.dic y)) else none := rfl
theorem eqo_sn (x : Txt) : eqo (.str x) .non = if D.plain 60 (.str x) && D.plain 60 .non then some (D.eqb (.str x) .non) else none := rfl
theorem eqo_sb (x : Txt) (y : Bool) : eqo (.str x) (.bl y) = if D.plain 60 (.str x) && D.plain 60 (.bl y) then some (D.eqb (.str x) (.bl y)) else none := rfl
theorem eqo_si (x : Txt) (y : Int) : eqo (.str x) (.int y) = if D.plain 60 (.str x) && D.plain 60 (.int y) then some (D.eqb (.str x) (.int y)) else none := rfl
theorem eqo_ss (x : Txt) (y : Txt) : eqo (.str x) (.str y) = some (x == y) := rfl
theorem eqo_st (x : Txt) (y : List D) : eqo (.str x) (.tup y) = if D.plain 60 (.str x) && D.plain 60 (.tup y) then some (D.eqb (.str x) (.tup y)) else none := rfl
theorem eqo_sl (x : Txt) (y : List D) : eqo (.str x) (.lst y) = if D.plain 60 (.str x) && D.plain 60 (.lst y) then some (D.eqb (.str x) (.lst y)) else none := rfl
theorem eqo_sd (x : Txt) (y : List (D × D)) : eqo (.str x) (.dic y) = if D.plain 60 (.str x) && D.plain 60 (.dic y) then some (D.eqb (.str x) (.dic y)) else none := rfl
theorem eqo_tn (x : List D) : eqo (.tup x) .non = if D.plain 60 (.tup x) && D.plain 60 .non then some (D.eqb (.tup x) .non) else none := rfl
theorem eqo_tb (x : List D) (y : Bool) : eqo (.tup x) (.bl y) = if D.plain 60 (.tup x) && D.plain 60 (.bl y) then some (D.eqb (.tup x) (.bl y)) else none := rfl
theorem eqo_ti (x : List D) (y : Int) : eqo (.tup x) (.int y) = if D.plain 60 (.tup x) && D.plain 60 (.int y) then some (D.eqb (.tup x) (.int y)) else none := rfl
theorem eqo_ts (x : List D) (y : Txt) : eqo (.tup x) (.str y) = if D.plain 60 (.tup x) && D.plain 60 (.str y) then some (D.eqb (.tup x) (.str y)) else none := rfl
theorem eqo_te (x : List D) : eqo (.tup x) (.tup []) = some x.isEmpty := rfl
theorem eqo_tt (x : List D) (z : D) (y : List D) : eqo (.tup x) (.tup (z :: y)) = if D.plain 60 (.tup x) && D.plain 60 (.tup (z :: y)) then some (D.eqb (.tup x) (.tup (z :: y))) else none := rfl
theorem eqo_tl (x : List D) (y : List D) : eqo (.tup x) (.lst y) = if D.plain 60 (.tup x) && D.plain 60 (.lst y) then some (D.eqb (.tup x) (.lst y)) else none := rfl
theorem eqo_td (x : List D) (y : List (D × D)) : eqo (.tup x) (.dic y) = if D.plain 60 (.tup x) && D.plain 60 (.dic y) then some (D.eqb (.tup x) (.dic y)) else none := rfl
theorem eqo_ln (x : List D) : eqo (.lst x) .non = if D.plain 60 (.lst x) && D.plain 60 .non then some (D.eqb (.lst x) .non) else none := rfl
theorem eqo_lb (x : List D) (y : Bool) : eqo (.lst x) (.bl y) = if D.plain 60 (.lst x) && D.plain 60 (.bl y) then some (D.eqb (.lst x) (.bl y)) else none := rfl
theorem eqo_li (x : List D) (y : Int) : eqo (.lst x) (.int y) = if D.plain 60 (.lst x) && D.plain 60 (.int y) then some (D.eqb (.lst x) (.int y)) else none := rfl
theorem eqo_ls (x : List D) (y : Txt) : eqo (.lst x) (.str y) = if D.plain 60 (.lst x) && D.plain 60 (.str y) then some (D.eqb (.lst x) (.str y)) else none := rfl
theorem eqo_lt (x : List D) (y : List D) : eqo (.lst x) (.tup y) = if D.plain 60 (.lst x) && D.plain 60 (.tup y) then some (D.eqb (.lst x) (.tup y)) else none := rfl
theorem eqo_ll (x : List D) (y : List D) : eqo (.lst x) (.lst y) = if D.plain 60 (.lst x) && D.plain 60 (.lst y) then some (D.eqb (.lst x) (.lst y)) else none := rfl
theorem eqo_ld (x : List D) (y : List (D × D)) : eqo (.lst x) (.dic y) = if D.plain 60 (.lst x) && D.plain 60 (.dic y) then some (D.eqb (.lst x) (.dic y)) else none := rfl
theorem eqo_dn (x : List (D × D)) : eqo (.dic x) .non = if D.plain 60 (.dic x) && D.plain 60 .non then some (D.eqb (.dic x) .non) else none := rfl
theorem eqo_db (x : List (D × D)) (y : Bool) : eqo (.dic x) (.bl y) = if D.plain 60 (.dic x) && D.plain 60 (.bl y) then some (D.eqb (.dic x) (.bl y)) else none := rfl
theorem eqo_di (x : List (D × D)) (y : Int) : eqo (.dic x) (.int y) = if D.plain 60 (.dic x) && D.plain 60 (.int y) then some (D.eqb (.dic x) (.int y)) else none := rfl
theorem eqo_ds (x : List (D × D)) (y : Txt) : eqo (.dic x) (.str y) = if D.plain 60 (.dic x) && D.plain 60 (.str y) then some (D.eqb (.dic x) (.str y)) else none := rfl
theorem eqo_dt (x : List (D × D)) (y : List D) : eqo (.dic x) (.tup y) = if D.plain 60 (.dic x) && D.plain 60 (.tup y) then some (D.eqb (.dic x) (.tup y)) else none := rfl
theorem eqo_dl (x : List (D × D)) (y : List D) : eqo (.dic x) (.lst y) = if D.plain 60 (.dic x) && D.plain 60 (.lst y) then some (D.eqb (.dic x) (.lst y)) else none := rfl
theorem eqo_dd (x : List (D × D)) (y : List (D × D)) : eqo (.dic x) (.dic y) = if D.plain 60 (.dic x) && D.plain 60 (.dic y) then some (D.eqb (.dic x) (.dic y)) else none := rfl
theorem bop_ai (i j : Int) : bop .add (.int i) (.int j) = some (.int (i + j)) := rfl
theorem bop_as (x y : Txt) : bop .add (.str x) (.str y) = if x.length + y.length ≤ 16777216 then some (.str (x ++ y)) else none := rfl
theorem bop_at (xs ys : List D) : bop .add (.tup xs) (.tup ys) = if xs.length ≤ 16777216 ∧ ys.length ≤ 16777216 ∧ xs.length + ys.length ≤ 16777216 then some (.tup (xs ++ ys)) else none := rfl
theorem bop_al (xs ys : List D) : bop .add (.lst xs) (.lst ys) = if xs.length + ys.length ≤ 16777216 then some (.lst (xs ++ ys)) else none := rfl
theorem bop_si (i j : Int) : bop .sub (.int i) (.int j) = some (.int (i - j)) := rfl
theorem bop_mi (i j : Int) : bop .mul (.int i) (.int j) = if (-big64 < i ∧ i < big64) ∨ (-big64 < j ∧ j < big64) then some (.int (i * j)) else none := rfl
theorem bop_ml (xs : List D) (k : Int) : bop .mul (.lst xs) (.int k) = if -(2 ^ 63) ≤ k ∧ k < 2 ^ 63 ∧ xs.length * k.toNat ≤ 16777216 then some (.lst (reps xs k.toNat)) else none := rfl
theorem bop_mt (xs : List D) (k : Int) : bop .mul (.tup xs) (.int k) = if xs ≠ [] ∧ 1 ≤ k ∧ k ≤ 1000 ∧ xs.length ≤ 1000 then some (.tup (reps xs k.toNat)) else none := rfl
theorem bop_ms (x : Txt) (k : Int) : bop .mul (.str x) (.int k) = if x ≠ [] ∧ 2 ≤ k ∧ k ≤ 1000 ∧ x.length ≤ 1000 then some (.str (reps x k.toNat)) else none := rfl
theorem bop_mo (i j : Int) : bop .mod (.int i) (.int j) = if 0 < j then some (.int (i % j)) else none := rfl
theorem bop_fd (i j : Int) : bop .fdv (.int i) (.int j) = if 0 < j ∧ j < 1073741824 then some (.int (i / j)) else none := rfl
theorem bop_pw (i j : Int) : bop .pow (.int i) (.int j) = if 0 ≤ j ∧ j ≤ 1000000 ∧ i.natAbs < 2 ^ 64 then some (.int (i ^ j.toNat)) else none := rfl
theorem isn_n : D.isNon .non = true := rfl
theorem isn_b (x : Bool) : D.isNon (.bl x) = false := rfl
theorem isn_i (x : Int) : D.isNon (.int x) = false := rfl
theorem isn_s (x : Txt) : D.isNon (.str x) = false := rfl
theorem isn_t (x : List D) : D.isNon (.tup x) = false := rfl
theorem isn_l (x : List D) : D.isNon (.lst x) = false := rfl
theorem isn_d (x : List (D × D)) : D.isNon (.dic x) = false := rfl
theorem isn_r (x : Nat) : D.isNon (.ref x) = false := rfl
inductive Form where | any | num | text | deed (a b : Form) | box (a : Form) deriving DecidableEq
namespace Form
def enc : Form → D
  | any => .str [97,110,121] | num => .str [110,117,109] | text => .str [116,101,120,116]
  | deed a b => .tup [.str [100,101,101,100], enc a, enc b]
  | box a => .tup [.str [98,111,120], enc a]
def hgt : Form → Nat
  | any => 0 | num => 0 | text => 0 | deed a b => 1 + max (hgt a) (hgt b) | box a => 1 + hgt a
end Form
open Form
theorem isn_enc (f : Form) : D.isNon (enc f) = false := by cases f <;> rfl
theorem call_step {T : Tb} {n : Nat} {fd : FD} [i : Fn T n fd] (k : Nat) (ds : List D) (S : Sto) : callT T (k + 1) n ds S = runD (T.prm (callT T k)) fd ds S := by
  show (match T.fn n with | none => _ | some fd => _) = _
  rw [i.e]
theorem pp_call {T : Tb} (k n : Nat) (ds : List D) (ρ : Env) (S : Sto) : mCall (T.prm (callT T k)) n ds ρ S = match callT T k n ds S with | .ok d S' => .ok d ρ S' | .okl xs S' => .ok (.lst xs) ρ S' | .exc x S' => .exc x ρ S' | .bad => .bad := rfl
namespace Form
def near : Form → Form → Bool
  | any, _ => true
  | _, any => true
  | num, num => true
  | text, text => true
  | deed a b, deed c d => near a c && near b d
  | box a, box c => near a c
  | _, _ => false
def loose : Form → Form → Bool
  | any, _ => true
  | num, num => true
  | text, text => true
  | deed a b, deed c d => loose a c && loose b d
  | box a, box c => loose a c
  | _, _ => false
end Form
open Form
end Ev
set_option Elab.async false
set_option linter.all false
set_option autoImplicit false
set_option maxRecDepth 100000
set_option maxHeartbeats 4000000
local macro_rules | `(tactic| simp! [$ls,*]) => `(tactic| simp (decide := true) [Ev.runD, Ev.xEqE, Ev.sRetL, Ev.xCallF, Ev.mCallF, Ev.mCalkF, Ev.Form.enc, Ev.sSeq, Ev.sIf, Ev.sRet, Ev.sNx, Ev.sAsg, Ev.sEx, Ev.sRai, ↓Ev.mb, Ev.Res.bind, Ev.mp, Ev.M.of, Ev.mT, Ev.xIsi, Ev.mBor, Ev.mVar, Ev.isTy, Ev.mTruth, Ev.truth, Ev.mOr, Ev.mAnd, Ev.mIte, Ev.mNot, Ev.xCmp, Ev.cop, Ev.eqo_nn, Ev.eqo_nb, Ev.eqo_ni, Ev.eqo_ns, Ev.eqo_nt, Ev.eqo_nl, Ev.eqo_nd, Ev.eqo_bn, Ev.eqo_bb, Ev.eqo_bi, Ev.eqo_bs, Ev.eqo_bt, Ev.eqo_bl, Ev.eqo_bd, Ev.eqo_in, Ev.eqo_ib, Ev.eqo_ii, Ev.eqo_is, Ev.eqo_it, Ev.eqo_il, Ev.eqo_id, Ev.eqo_sn, Ev.eqo_sb, Ev.eqo_si, Ev.eqo_ss, Ev.eqo_st, Ev.eqo_sl, Ev.eqo_sd, Ev.eqo_tn, Ev.eqo_tb, Ev.eqo_ti, Ev.eqo_ts, Ev.eqo_te, Ev.eqo_tt, Ev.eqo_tl, Ev.eqo_td, Ev.eqo_ln, Ev.eqo_lb, Ev.eqo_li, Ev.eqo_ls, Ev.eqo_lt, Ev.eqo_ll, Ev.eqo_ld, Ev.eqo_dn, Ev.eqo_db, Ev.eqo_di, Ev.eqo_ds, Ev.eqo_dt, Ev.eqo_dl, Ev.eqo_dd, Ev.inOk, Ev.D.flat, Ev.xTup, Ev.aNil, Ev.aCons, Ev.mSet, Ev.plain_str, Ev.plain_tup, Ev.plain_int, Ev.plain_bl, Ev.plains_nil, Ev.plains_cons, Ev.eqb_str, Ev.eqb_int, Ev.eqb_bl, Ev.eqb_tup, Ev.eqbs_nil, Ev.eqbs_cn, Ev.eqbs_nc, Ev.eqbs_cc, Ev.eqb_nn, Ev.eqb_nb, Ev.eqb_ni, Ev.eqb_ns, Ev.eqb_nt, Ev.eqb_nl, Ev.eqb_nd, Ev.eqb_bn, Ev.eqb_bi, Ev.eqb_bs, Ev.eqb_bt, Ev.eqb_b_l, Ev.eqb_bd, Ev.eqb_in, Ev.eqb_ib, Ev.eqb_is, Ev.eqb_it, Ev.eqb_il, Ev.eqb_id, Ev.eqb_sn, Ev.eqb_sb, Ev.eqb_si, Ev.eqb_sl, Ev.eqb_sd, Ev.eqb_tn, Ev.eqb_tb, Ev.eqb_ti, Ev.eqb_tl, Ev.eqb_td, Ev.eqb_ln, Ev.eqb_lb, Ev.eqb_li, Ev.eqb_ls, Ev.eqb_lt, Ev.eqb_ll, Ev.eqb_ld, Ev.eqb_dn, Ev.eqb_db, Ev.eqb_di, Ev.eqb_ds, Ev.eqb_dt, Ev.eqb_dl, Ev.eqb_dd, Ev.plain_non, Ev.plain_lst, Ev.plain_dic, Ev.eqb_st, Ev.eqb_ts, Ev.xLen, Ev.bip, Ev.xIdx, Ev.mIdx, Ev.index, Ev.mItems, Ev.mList, Ev.xCall, Ev.pp_call, Ev.xBin, Ev.bop_ai, Ev.bop_as, Ev.bop_at, Ev.bop_al, Ev.bop_si, Ev.bop_mi, Ev.bop_ml, Ev.bop_mt, Ev.bop_ms, Ev.bop_mo, Ev.bop_fd, Ev.bop_pw, Ev.SZ, Ev.mSlc, Ev.mPart, Ev.slice, Ev.gUnp, Ev.gCon, Ev.gEnd, Ev.mLst, Ev.gUnpT, Ev.fListT, Ev.mSt, Ev.M.bad, Ev.mChn, Ev.sFor, Ev.loopM, Ev.xBi, Ev.xFz, Ev.fLst, Ev.mCalk, Ev.srcOf, Ev.isn_n, Ev.isn_b, Ev.isn_i, Ev.isn_s, Ev.isn_t, Ev.isn_l, Ev.isn_d, Ev.isn_r, Ev.isn_enc, Ev.fAdd, Ev.fMul, Ev.fList, Ev.asLst, Ev.sOwn, Ev.mOwn, Ev.sApp, Ev.mOwnHere, Ev.mApp, Ev.gStar, Ev.dget, Ev.atI, Ev.fComp, Ev.noX, Ev.Res.noX, Ev.mWipe, Ev.cmpR, Ev.wipeE, Ev.blsOf, Ev.intsOf, Ev.txtsOf, Ev.cut, Ev.sIx, Ev.mZs, Ev.zsOf, Ev.zipD, Ev.mZip, Ev.zipOf, Ev.mRng1, Ev.mRng2, Ev.rngD, Ev.mCount, Ev.mIndexL, Ev.mMt, Ev.tyIs, Ev.mtp, Ev.findD, Ev.sTryAs, Ev.mIsE, Ev.noEx, Ev.sPar, Ev.sPar3, Ev.xRev, Ev.revD, Ev.sTry, Ev.reps, Ev.xNeg, Ev.negD, Ev.xDix, Ev.xDgt, Ev.mPop, Ev.mPopAt, Ev.mExt, Ev.sExt, Ev.xMth, Ev.mMth, Ev.xMak, Ev.mMak, Ev.xFld, Ev.mFld, Ev.insOf, Ev.fget, Ev.fput, Ev.sFst, Ev.mFpt, Ev.sFag, $ls,*])
local macro_rules | `(tactic| simp_all! [$ls,*]) => `(tactic| simp (decide := true) [Ev.runD, Ev.xEqE, Ev.sRetL, Ev.xCallF, Ev.mCallF, Ev.mCalkF, Ev.Form.enc, Ev.sSeq, Ev.sIf, Ev.sRet, Ev.sNx, Ev.sAsg, Ev.sEx, Ev.sRai, ↓Ev.mb, Ev.Res.bind, Ev.mp, Ev.M.of, Ev.mT, Ev.xIsi, Ev.mBor, Ev.mVar, Ev.isTy, Ev.mTruth, Ev.truth, Ev.mOr, Ev.mAnd, Ev.mIte, Ev.mNot, Ev.xCmp, Ev.cop, Ev.eqo_nn, Ev.eqo_nb, Ev.eqo_ni, Ev.eqo_ns, Ev.eqo_nt, Ev.eqo_nl, Ev.eqo_nd, Ev.eqo_bn, Ev.eqo_bb, Ev.eqo_bi, Ev.eqo_bs, Ev.eqo_bt, Ev.eqo_bl, Ev.eqo_bd, Ev.eqo_in, Ev.eqo_ib, Ev.eqo_ii, Ev.eqo_is, Ev.eqo_it, Ev.eqo_il, Ev.eqo_id, Ev.eqo_sn, Ev.eqo_sb, Ev.eqo_si, Ev.eqo_ss, Ev.eqo_st, Ev.eqo_sl, Ev.eqo_sd, Ev.eqo_tn, Ev.eqo_tb, Ev.eqo_ti, Ev.eqo_ts, Ev.eqo_te, Ev.eqo_tt, Ev.eqo_tl, Ev.eqo_td, Ev.eqo_ln, Ev.eqo_lb, Ev.eqo_li, Ev.eqo_ls, Ev.eqo_lt, Ev.eqo_ll, Ev.eqo_ld, Ev.eqo_dn, Ev.eqo_db, Ev.eqo_di, Ev.eqo_ds, Ev.eqo_dt, Ev.eqo_dl, Ev.eqo_dd, Ev.inOk, Ev.D.flat, Ev.xTup, Ev.aNil, Ev.aCons, Ev.mSet, Ev.plain_str, Ev.plain_tup, Ev.plain_int, Ev.plain_bl, Ev.plains_nil, Ev.plains_cons, Ev.eqb_str, Ev.eqb_int, Ev.eqb_bl, Ev.eqb_tup, Ev.eqbs_nil, Ev.eqbs_cn, Ev.eqbs_nc, Ev.eqbs_cc, Ev.eqb_nn, Ev.eqb_nb, Ev.eqb_ni, Ev.eqb_ns, Ev.eqb_nt, Ev.eqb_nl, Ev.eqb_nd, Ev.eqb_bn, Ev.eqb_bi, Ev.eqb_bs, Ev.eqb_bt, Ev.eqb_b_l, Ev.eqb_bd, Ev.eqb_in, Ev.eqb_ib, Ev.eqb_is, Ev.eqb_it, Ev.eqb_il, Ev.eqb_id, Ev.eqb_sn, Ev.eqb_sb, Ev.eqb_si, Ev.eqb_sl, Ev.eqb_sd, Ev.eqb_tn, Ev.eqb_tb, Ev.eqb_ti, Ev.eqb_tl, Ev.eqb_td, Ev.eqb_ln, Ev.eqb_lb, Ev.eqb_li, Ev.eqb_ls, Ev.eqb_lt, Ev.eqb_ll, Ev.eqb_ld, Ev.eqb_dn, Ev.eqb_db, Ev.eqb_di, Ev.eqb_ds, Ev.eqb_dt, Ev.eqb_dl, Ev.eqb_dd, Ev.plain_non, Ev.plain_lst, Ev.plain_dic, Ev.eqb_st, Ev.eqb_ts, Ev.xLen, Ev.bip, Ev.xIdx, Ev.mIdx, Ev.index, Ev.mItems, Ev.mList, Ev.xCall, Ev.pp_call, Ev.xBin, Ev.bop_ai, Ev.bop_as, Ev.bop_at, Ev.bop_al, Ev.bop_si, Ev.bop_mi, Ev.bop_ml, Ev.bop_mt, Ev.bop_ms, Ev.bop_mo, Ev.bop_fd, Ev.bop_pw, Ev.SZ, Ev.mSlc, Ev.mPart, Ev.slice, Ev.gUnp, Ev.gCon, Ev.gEnd, Ev.mLst, Ev.gUnpT, Ev.fListT, Ev.mSt, Ev.M.bad, Ev.mChn, Ev.sFor, Ev.loopM, Ev.xBi, Ev.xFz, Ev.fLst, Ev.mCalk, Ev.srcOf, Ev.isn_n, Ev.isn_b, Ev.isn_i, Ev.isn_s, Ev.isn_t, Ev.isn_l, Ev.isn_d, Ev.isn_r, Ev.isn_enc, $ls,*])
namespace Ev
open PySem
namespace Form
end Form
open Form
end Ev
set_option Elab.async false
set_option linter.all false
set_option autoImplicit false
set_option maxRecDepth 100000
set_option maxHeartbeats 4000000
namespace Ev
open PySem
/-- how long a thing's repr is -/
def W (d : D) : Nat := (PyData.shown (toPy d)).length
theorem textFrom_le : ∀ (ts : List Str) (k : Nat) (acc : Str), (textFrom k acc ts).length ≤ acc.length + piled ts
  | [], k, acc => by simp [textFrom, piled]
  | t :: ts, k, acc => by
    have ih := textFrom_le ts (k + 1) (acc ++ (if k > 0 then ", " else "" : String) ++ t)
    rw [strLen_append, strLen_append] at ih
    have e : (((if k > 0 then ", " else "" : String) : Str)).length ≤ 2 := by split <;> decide
    rw [piled_cons]
    show (textFrom (k + 1) _ ts).length ≤ _
    omega
theorem W_str (x : Txt) (h : ∀ c ∈ x, c < 16 ^ 8) : W (.str x) ≤ 10 * x.length + 2 := by
  have := PySem.StrLaws.reprText_len (toStr x) (by simpa [toStr] using h)
  have e : (toStr x).length = x.length := by simp [toStr, Str.length]
  rw [e] at this
  exact this
def Sb (d : D) : Bool := PyData.showable (toPy d)
theorem shown_some {d : D} (h1 : D.plain 60 d = true) (h2 : Sb d = true) (h3 : W d ≤ 16777216) : ∃ t, shownD d = some t := by
  unfold shownD
  have h2 : PyData.showable (toPy d) = true := h2
  have h3 : (PyData.shown (toPy d)).length ≤ SZ := h3
  rw [(plain_q 60 d h1).1, (plain_q 60 d h1).2, h2]
  simp [h3]
open Form
end Ev
set_option Elab.async false
set_option linter.all false
set_option autoImplicit false
set_option maxRecDepth 100000
set_option maxHeartbeats 4000000
namespace Ev
open PySem
open Form
/-- a pot's cell -/
def Pot (S : Sto) (n : Nat) : Prop := ∃ a b : Int, S[n]? = some (.lst [.int a, .int b]) ∧ 0 ≤ a
theorem pot_set {S : Sto} {n : Nat} (h : n < S.length) {a b : Int} (ha : 0 ≤ a) : Pot (S.set n (.lst [.int a, .int b])) n := ⟨a, b, by simp [h], ha⟩
theorem potRun (z : Int) (i : Nat) (hi : i ≤ 100) (S : Sto) (ρ : Env) (k : Nat) (r0 r1 : Option SV) :
    ∃ a b : Int, 0 ≤ a ∧ xCel (aCons (xBi .max2 (aCons (M.pure (.int 0)) (aCons (xBin .sub (xBi .abs (aCons (mVar 2) aNil)) (xBin .pow (M.pure (.int 10)) (M.pure (.int 18)))) aNil))) (aCons (xBin .add (xBin .mod (xBin .pow (xBin .add (xBin .add (xBin .mod (xBi .abs (aCons (mVar 2) aNil)) (M.pure (.int 2147483477))) (xBin .mul (M.pure (.int 101)) (mVar 1))) (M.pure (.int 3))) (M.pure (.int 2))) (M.pure (.int 2147483399))) (M.pure (.int 1))) aNil)) [r0, some (.fz (.int i)), some (.fz (.int z))] S =
      .ok (.ref S.length) [r0, some (.fz (.int i)), some (.fz (.int z))] (S ++ [.lst [.int a, .int b]]) := by
  generalize hA : (if z < 0 then -z else z) = A
  have hA0 : 0 ≤ A := by rw [← hA]; split <;> omega
  generalize hr : A % 2147483477 = r
  have r0' : 0 ≤ r := by rw [← hr]; exact Int.emod_nonneg _ (by decide)
  have r1' : r < 2147483477 := by rw [← hr]; exact Int.emod_lt_of_pos _ (by decide)
  have hb : (r + 101 * (i : Int) + 3).natAbs < 18446744073709551616 := by omega
  refine ⟨if A - 10 ^ 18 > 0 then A - 10 ^ 18 else 0, (r + 101 * (i : Int) + 3) ^ 2 % 2147483399 + 1, by split <;> omega, ?_⟩
  simp (decide := true) [xCel, mCell, runD, xEqE, sRetL, xCallF, mCallF, mCalkF, Form.enc, sSeq, sIf, sRet, sNx, sAsg, sEx, sRai, ↓mb, Res.bind, mp, M.of, mT, xIsi, mBor, mVar, isTy, mTruth, truth, mOr, mAnd, mIte, mNot, xCmp, cop, eqo_nn, eqo_nb, eqo_ni, eqo_ns, eqo_nt, eqo_nl, eqo_nd, eqo_bn, eqo_bb, eqo_bi, eqo_bs, eqo_bt, eqo_bl, eqo_bd, eqo_in, eqo_ib, eqo_ii, eqo_is, eqo_it, eqo_il, eqo_id, eqo_sn, eqo_sb, eqo_si, eqo_ss, eqo_st, eqo_sl, eqo_sd, eqo_tn, eqo_tb, eqo_ti, eqo_ts, eqo_te, eqo_tt, eqo_tl, eqo_td, eqo_ln, eqo_lb, eqo_li, eqo_ls, eqo_lt, eqo_ll, eqo_ld, eqo_dn, eqo_db, eqo_di, eqo_ds, eqo_dt, eqo_dl, eqo_dd, inOk, D.flat, xTup, aNil, aCons, mSet, plain_str, plain_tup, plain_int, plain_bl, plains_nil, plains_cons, eqb_str, eqb_int, eqb_bl, eqb_tup, eqbs_nil, eqbs_cn, eqbs_nc, eqbs_cc, eqb_nn, eqb_nb, eqb_ni, eqb_ns, eqb_nt, eqb_nl, eqb_nd, eqb_bn, eqb_bi, eqb_bs, eqb_bt, eqb_b_l, eqb_bd, eqb_in, eqb_ib, eqb_is, eqb_it, eqb_il, eqb_id, eqb_sn, eqb_sb, eqb_si, eqb_sl, eqb_sd, eqb_tn, eqb_tb, eqb_ti, eqb_tl, eqb_td, eqb_ln, eqb_lb, eqb_li, eqb_ls, eqb_lt, eqb_ll, eqb_ld, eqb_dn, eqb_db, eqb_di, eqb_ds, eqb_dt, eqb_dl, eqb_dd, plain_non, plain_lst, plain_dic, eqb_st, eqb_ts, xLen, bip, xIdx, mIdx, index, mItems, mList, xCall, pp_call, xBin, bop_ai, bop_as, bop_at, bop_al, bop_si, bop_mi, bop_ml, bop_mt, bop_ms, bop_mo, bop_fd, bop_pw, SZ, mSlc, mPart, slice, gUnp, gCon, gEnd, mLst, gUnpT, fListT, mSt, M.bad, mChn, sFor, loopM, xBi, xFz, fLst, mCalk, srcOf, isn_n, isn_b, isn_i, isn_s, isn_t, isn_l, isn_d, isn_r, isn_enc, xBi, big64, hA, hr, hb]
end Ev
set_option Elab.async false
set_option linter.all false
set_option autoImplicit false
set_option maxRecDepth 100000
set_option maxHeartbeats 4000000
namespace Ev
open PySem
open Form
theorem three {d : Nat} (h : d < 3) : d = 0 ∨ d = 1 ∨ d = 2 := by omega
end Ev
set_option Elab.async false
set_option linter.all false
set_option autoImplicit false
set_option maxRecDepth 100000
set_option maxHeartbeats 4000000
namespace Ev
open PySem
open Form
def Sm (k n : Nat) (d : D) : Prop := D.plain k d = true ∧ Sb d = true ∧ W d ≤ n
theorem Sm.up {k j n : Nat} {d : D} (h : Sm k n d) (hp : D.plain j d = true) : Sm j n d := ⟨hp, h.2⟩
theorem Sm.le {k n m : Nat} {d : D} (h : Sm k n d) (hn : n ≤ m) : Sm k m d := ⟨h.1, h.2.1, Nat.le_trans h.2.2 hn⟩
theorem Sm.shown {n : Nat} {d : D} (h : Sm 60 n d) (hn : n ≤ 16777216) : ∃ t, shownD d = some t := shown_some h.1 h.2.1 (Nat.le_trans h.2.2 hn)
end Ev
set_option Elab.async false
set_option linter.all false
set_option autoImplicit false
set_option maxRecDepth 100000
set_option maxHeartbeats 4000000
namespace Ev
open PySem
open Form
theorem bind_ok {α β : Type} {m : M α} {f : α → M β} {a : α} {ρ ρ1 : Env} {S S1 : Sto} (h : m ρ S = .ok a ρ1 S1) : M.bind m f ρ S = f a ρ1 S1 := by
  unfold M.bind Res.bind
  rw [h]
theorem loop_step {asg : D → M Unit} {body : M Flow} {d : D} {r : List D} {ρ ρ1 : Env} {S S1 : Sto} (e1 : (M.bind (asg d) fun _ => body) ρ S = .ok .nx ρ1 S1) : loopM asg body (d :: r) ρ S = loopM asg body r ρ1 S1 := by
  have q : loopM asg body (d :: r) = M.bind (M.bind (asg d) fun _ => body) fun f => match f with
    | .nx => loopM asg body r
    | .ct => loopM asg body r
    | .br => M.pure .nx
    | f => M.pure f := (M.assoc _ _ _).symm
  rw [q, bind_ok e1]
theorem mem_rngD : ∀ (n : Nat) (lo : Int) (d : D), d ∈ rngD lo n → ∃ i : Nat, i < n ∧ d = .int (lo + i)
  | 0, _, _, h => by cases h
  | n + 1, lo, d, h => by
    rcases List.mem_cons.mp h with rfl | h
    · exact ⟨0, by omega, by simp⟩
    · obtain ⟨i, hi, e⟩ := mem_rngD n (lo + 1) d h
      exact ⟨i + 1, by omega, by rw [e]; congr 1; omega⟩
theorem rngD_len : ∀ (n : Nat) (lo : Int), (rngD lo n).length = n
  | 0, _ => rfl
  | n + 1, lo => by simp [rngD, rngD_len n]
theorem rng1_at (ms : M (List D)) (ρ : Env) (S : Sto) (n : Nat) (h : n ≤ 1000) (e : ms ρ S = .ok [.int (n : Int)] ρ S) : mRng1 ms ρ S = .ok (rngD 0 n) ρ S := by
  unfold mRng1
  unfold M.bind Res.bind
  rw [e]
  show (if -(2 ^ 62) ≤ (n : Int) ∧ (n : Int) < 2 ^ 62 then M.pure (rngD 0 (n : Int).toNat) else M.bad) ρ S = _
  rw [if_pos ⟨by omega, by omega⟩]
  rfl
theorem law_rng (N : Int) (h1 : 1 ≤ N) (h2 : N ≤ 100) (ns : List Int) (rs : Env) (S : Sto) : ∃ m : Nat, m ≤ 100 ∧ mRng1 (aCons (xBi .max2 (aCons (M.pure (.int 1)) (aCons (xBi .min2 (aCons (M.pure (.int N)) (aCons (xLen (mBor 0)) aNil))) aNil))) aNil) (some (.fz (.scr ns)) :: rs) S = .ok (rngD 0 m) (some (.fz (.scr ns)) :: rs) S := by
  refine ⟨max 1 (min N.toNat ns.length), by omega, rng1_at _ _ _ _ (by omega) ?_⟩
  generalize hL : ns.length = L
  have e0 : ((max 1 (min N.toNat L) : Nat) : Int) = if (if (L : Int) < N then (L : Int) else N) > 1 then (if (L : Int) < N then (L : Int) else N) else 1 := by
    by_cases h6 : (L : Int) < N
    · simp only [h6, if_true]; split <;> omega
    · simp only [h6, if_false]; split <;> omega
  rw [e0]
  simp [runD, xEqE, sRetL, xCallF, mCallF, mCalkF, Form.enc, sSeq, sIf, sRet, sNx, sAsg, sEx, sRai, ↓mb, Res.bind, mp, M.of, mT, xIsi, mBor, mVar, isTy, mTruth, truth, mOr, mAnd, mIte, mNot, xCmp, cop, eqo_nn, eqo_nb, eqo_ni, eqo_ns, eqo_nt, eqo_nl, eqo_nd, eqo_bn, eqo_bb, eqo_bi, eqo_bs, eqo_bt, eqo_bl, eqo_bd, eqo_in, eqo_ib, eqo_ii, eqo_is, eqo_it, eqo_il, eqo_id, eqo_sn, eqo_sb, eqo_si, eqo_ss, eqo_st, eqo_sl, eqo_sd, eqo_tn, eqo_tb, eqo_ti, eqo_ts, eqo_te, eqo_tt, eqo_tl, eqo_td, eqo_ln, eqo_lb, eqo_li, eqo_ls, eqo_lt, eqo_ll, eqo_ld, eqo_dn, eqo_db, eqo_di, eqo_ds, eqo_dt, eqo_dl, eqo_dd, inOk, D.flat, xTup, aNil, aCons, mSet, plain_str, plain_tup, plain_int, plain_bl, plains_nil, plains_cons, eqb_str, eqb_int, eqb_bl, eqb_tup, eqbs_nil, eqbs_cn, eqbs_nc, eqbs_cc, eqb_nn, eqb_nb, eqb_ni, eqb_ns, eqb_nt, eqb_nl, eqb_nd, eqb_bn, eqb_bi, eqb_bs, eqb_bt, eqb_b_l, eqb_bd, eqb_in, eqb_ib, eqb_is, eqb_it, eqb_il, eqb_id, eqb_sn, eqb_sb, eqb_si, eqb_sl, eqb_sd, eqb_tn, eqb_tb, eqb_ti, eqb_tl, eqb_td, eqb_ln, eqb_lb, eqb_li, eqb_ls, eqb_lt, eqb_ll, eqb_ld, eqb_dn, eqb_db, eqb_di, eqb_ds, eqb_dt, eqb_dl, eqb_dd, plain_non, plain_lst, plain_dic, eqb_st, eqb_ts, xLen, bip, xIdx, mIdx, index, mItems, mList, xCall, pp_call, xBin, bop_ai, bop_as, bop_at, bop_al, bop_si, bop_mi, bop_ml, bop_mt, bop_ms, bop_mo, bop_fd, bop_pw, SZ, mSlc, mPart, slice, gUnp, gCon, gEnd, mLst, gUnpT, fListT, mSt, M.bad, mChn, sFor, loopM, xBi, xFz, fLst, mCalk, srcOf, isn_n, isn_b, isn_i, isn_s, isn_t, isn_l, isn_d, isn_r, isn_enc, hL]
inductive F2 {α β : Type} (Q : α → β → Prop) : List α → List β → Prop where
  | nil : F2 Q [] []
  | cons {a : α} {b : β} {as : List α} {bs : List β} : Q a b → F2 Q as bs → F2 Q (a :: as) (b :: bs)
theorem comp_inv {own : List Nat} {f : D → M Unit} {e : M D} {ρ : Env} (J : Sto → Prop) (Q : D → D → Prop) : ∀ (ds acc : List D), (∀ d ∈ ds, ∀ S, J S → ∃ v S', Q d v ∧ J S' ∧ (M.bind (f d) fun _ => M.bind e fun v => M.bind (mWipe own) fun _ => M.pure v) ρ S = .ok v ρ S') → acc.length + ds.length ≤ SZ →
    ∀ S, J S → ∃ vs S', F2 Q ds vs ∧ J S' ∧ cmpR own f (M.pure true) e acc ds ρ S = .ok (acc ++ vs) ρ S'
  | [], acc, _, _, S, h => ⟨[], S, .nil, h, by simp [cmpR, M.pure]⟩
  | d :: r, acc, hs, hl, S, h => by
    obtain ⟨v, S1, q, h1, e1⟩ := hs d (by simp) S h
    simp only [List.length_cons] at hl
    obtain ⟨vs, S2, qs, h2, e2⟩ := comp_inv J Q r (acc ++ [v]) (fun x hx => hs x (by simp [hx])) (by simp; omega) S1 h1
    refine ⟨v :: vs, S2, .cons q qs, h2, ?_⟩
    have ea : acc ++ v :: vs = acc ++ [v] ++ vs := by simp
    rw [ea, ← e2]
    have q : cmpR own f (M.pure true) e acc (d :: r) = M.bind (M.bind (f d) fun _ => M.bind e fun v => M.bind (mWipe own) fun _ => M.pure v) fun v => if acc.length < SZ then cmpR own f (M.pure true) e (acc ++ [v]) r else M.bad := by
      simp only [cmpR, M.assoc, M.pure_bind, if_true]
    rw [q, bind_ok e1, if_pos (show acc.length < SZ by omega)]
theorem all_true : ∀ (ds vs : List D), F2 (fun _ v => v = D.bl true) ds vs → (blsOf vs).map (fun bs => bs.all id) = some true
  | _, _, .nil => rfl
  | _, _, @F2.cons _ _ _ _ _ ds vs h t => by
    subst h
    have ih := all_true ds vs t
    simp only [blsOf]
    cases q : blsOf vs with
    | none => rw [q] at ih; cases ih
    | some bs => rw [q] at ih; simpa using ih
theorem run1 {T : Tb} {n : Nat} {fd : FD} [Fn T n fd] (k : Nat) (d v : D) (S S' : Sto) (ρ' : Env) (hnp : fd.np = 1) (e : fd.body (T.prm (callT T k)) (some (.fz d) :: List.replicate (fd.ns - 1) none) S = .ok (.rt v) ρ' S') : callT T (k + 1) n [d] S = .ok v S' := by
  rw [call_step]
  unfold runD
  rw [if_pos (show ([d] : List D).length = fd.np by rw [hnp]; rfl)]
  show (match fd.body (T.prm (callT T k)) (some (.fz d) :: List.replicate (fd.ns - 1) none) S with | .ok .nx _ S' => CR.ok .non S' | .ok (.rt d) _ S' => .ok d S' | .ok (.rl xs) _ S' => .okl xs S' | .ok _ _ _ => .bad | .exc x _ S' => .exc x S' | .bad => .bad) = _
  rw [e]
theorem rng_lit (n : Nat) (h : n ≤ 1000) (ρ : Env) (S : Sto) : mRng1 ((M.pure (.int (n : Int))).bind fun d => (M.pure []).bind fun ds => M.pure (d :: ds)) ρ S = .ok (rngD 0 n) ρ S := rng1_at _ _ _ n h rfl
end Ev
set_option Elab.async false
set_option linter.all false
set_option autoImplicit false
set_option maxRecDepth 100000
set_option maxHeartbeats 4000000
namespace Ev
open PySem
open Form
/-- the form that begins at a place, and the place behind it -/
def pf (t : Txt) : Nat → Nat → Option (Form × Nat)
  | h, p => if (t.drop p).take 3 = [97,110,121] then some (any, p + 3) else if (t.drop p).take 3 = [110,117,109] then some (num, p + 3) else if (t.drop p).take 4 = [116,101,120,116] then some (text, p + 4)
    else match h with
    | 0 => none
    | h + 1 =>
      if (t.drop p).take 1 = [91] then (match pf t h (p + 1) with
        | some (f, e) => if (t.drop e).take 1 = [93] then some (box f, e + 1) else none
        | none => none)
      else if (t.drop p).take 1 = [40] then (match pf t h (p + 1) with
        | some (f, e) => if (t.drop e).take 1 = [62] then (match pf t h (e + 1) with
            | some (g, e2) => if (t.drop e2).take 1 = [41] then some (deed f g, e2 + 1) else none
            | none => none) else none
        | none => none)
      else none
/-- what is read of a text -/
def rd (t : Txt) : Option Form := match pf t 5 0 with
  | some (f, e) => if e = t.length then some f else none
  | none => none
end Ev
set_option Elab.async false
set_option linter.all false
set_option autoImplicit false
set_option maxRecDepth 100000
set_option maxHeartbeats 4000000
namespace Ev
open PySem
open Form
theorem cut_len (t : Txt) (lo hi : Option Int) : (cut t lo hi).length ≤ t.length := by
  unfold cut
  rw [List.length_take, List.length_drop]
  omega
end Ev
set_option Elab.async false
set_option linter.all false
set_option autoImplicit false
set_option maxRecDepth 100000
set_option maxHeartbeats 4000000
namespace Ev
open PySem
open Form
theorem F2_map {g : D → D} : ∀ (ds vs : List D), F2 (fun d v => v = g d) ds vs → vs = ds.map g
  | _, _, .nil => rfl
  | _, _, @F2.cons _ _ _ _ _ ds vs h t => by rw [h, F2_map ds vs t]; rfl
theorem comp_map {own : List Nat} {f : D → M Unit} {e : M D} {ρ : Env} {S : Sto} (g : D → D) (ds acc : List D) (h : ∀ d ∈ ds, (M.bind (f d) fun _ => M.bind e fun v => M.bind (mWipe own) fun _ => M.pure v) ρ S = .ok (g d) ρ S) (hl : acc.length + ds.length ≤ SZ) :
    cmpR own f (M.pure true) e acc ds ρ S = .ok (acc ++ ds.map g) ρ S := by
  obtain ⟨vs, S', q, rfl, e1⟩ := comp_inv (fun S' => S' = S) (fun d v => v = g d) ds acc (fun d hd S' hS => by subst hS; exact ⟨g d, S', rfl, rfl, h d hd⟩) hl S rfl
  rw [e1, F2_map ds vs q]
theorem blsOf_map {α : Type} (p : α → Bool) : ∀ l : List α, blsOf (l.map fun c => D.bl (p c)) = some (l.map p)
  | [] => rfl
  | c :: l => by simp [blsOf, blsOf_map p l]
theorem all_map_id {α : Type} (p : α → Bool) (l : List α) : (l.map p).all id = l.all p := by rw [List.all_map]; rfl
def markSigns : Txt := [97,98,99,100,101,102,103,104,105,106,107,108,109,110,111,112,113,114,115,116,117,118,119,120,121,122,48,49,50,51,52,53,54,55,56,57,46]
def letters : Txt := [97,98,99,100,101,102,103,104,105,106,107,108,109,110,111,112,113,114,115,116,117,118,119,120,121,122]
/-- all([sign in signs for sign in x]) -/
theorem signs_comp (signs x : Txt) (i j : Nat) (ρ : Env) (S : Sto) (hij : i ≠ j) (hx : x.length ≤ 16777216) (h0 : ρ[i]? = some (some (.fz (.str x)))) (hj : ρ[j]? = some none) :
    (xBi .all (aCons (xFz (fComp (mItems (mVar i)) [j] (mSet j) (M.pure true) (xCmp .in_ (mBor j) (M.pure (.str signs))))) aNil)) ρ S = .ok (.bl (x.all fun c => decide (c ∈ signs))) ρ S := by
  have hjl : j < ρ.length := (List.getElem?_eq_some_iff.mp hj).1
  have hset : ρ.set j none = ρ := by
    apply List.ext_getElem?
    intro n
    by_cases z : j = n
    · subst z; rw [List.getElem?_set_self hjl, hj]
    · rw [List.getElem?_set_ne z]
  have hc := comp_map (own := [j]) (f := mSet j) (e := xCmp .in_ (mBor j) (M.pure (.str signs))) (ρ := ρ) (S := S) (fun d => match d with | .str [c] => .bl (decide (c ∈ signs)) | _ => .non) (x.map fun c => .str [c]) [] (fun d hd => by
    obtain ⟨c, _, rfl⟩ := List.mem_map.mp hd
    have g1 : (ρ.set j (some (.fz (.str [c]))))[j]? = some (some (.fz (.str [c]))) := List.getElem?_set_self hjl
    have g2 : wipeE (ρ.set j (some (.fz (.str [c])))) [j] = ρ := by
      show (ρ.set j (some (.fz (.str [c])))).set j none = ρ
      rw [List.set_set, hset]
    simp [↓mb, Res.bind, mSet, hjl, xCmp, mBor, g1, mp, M.of, cop, mWipe, g2]) (by simp [SZ]; exact hx)
  have hm : ((x.map fun c => D.str [c]).map fun d => match d with | .str [c] => D.bl (decide (c ∈ signs)) | _ => .non) = x.map fun c => .bl (decide (c ∈ signs)) := by rw [List.map_map]; rfl
  rw [hm] at hc
  simp only [List.nil_append] at hc
  have hw : mWipe [j] ρ S = .ok () ρ S := by
    show Res.ok () (wipeE ρ [j]) S = _
    show Res.ok () (ρ.set j none) S = _
    rw [hset]
  simp [xBi, aCons, aNil, xFz, fComp, ↓mb, Res.bind, mItems, mVar, h0, mList, SZ, hx, mp, noX, Res.noX, hw, hc, M.of, bip, blsOf_map, all_map_id]
def okMark (m : Txt) : Bool := decide (1 ≤ m.length) && decide (m.length ≤ 14) && m.all fun c => decide (c ∈ markSigns)
def okName (m : Txt) : Bool := decide (1 ≤ m.length) && decide (m.length ≤ 8) && m.all fun c => decide (c ∈ letters)
inductive Hd where | num | text | deed | box deriving DecidableEq
abbrev Ck := Option (Txt × Bool)
/-- a seal: its check's mark and side; its core -/
inductive Seal where
  | stay | num (c : Ck) | text (c : Ck) | deed (c : Ck) (s t : Seal) | box (c : Ck) (s t : Seal) | broken (c : Ck) (h : Hd) (m : Txt) (b : Bool)
  deriving DecidableEq
namespace Seal
def hgt : Seal → Nat
  | deed _ s t => 1 + max (hgt s) (hgt t) | box _ s t => 1 + max (hgt s) (hgt t) | _ => 0
def okC : Ck → Bool
  | none => true | some (m, _) => okMark m
/-- all marks are marks -/
def ok : Seal → Bool
  | stay => true | num c => okC c | text c => okC c | deed c s t => okC c && ok s && ok t | box c s t => okC c && ok s && ok t | broken c _ m _ => okC c && okMark m
end Seal
end Ev
set_option Elab.async false
set_option linter.all false
set_option autoImplicit false
set_option maxRecDepth 100000
set_option maxHeartbeats 4000000
namespace Ev
open PySem
namespace Seal
def head : Seal → Option Hd
  | stay => none | num _ => some .num | text _ => some .text | deed _ _ _ => some .deed | box _ _ _ => some .box | broken _ h _ _ => some h
def ck : Seal → Ck
  | stay => none | num c => c | text c => c | deed c _ _ => c | box c _ _ => c | broken c _ _ _ => c
end Seal
end Ev
set_option Elab.async false
set_option linter.all false
set_option autoImplicit false
set_option maxRecDepth 100000
set_option maxHeartbeats 4000000
namespace Ev
open PySem
open Form
/-- from any to a form (toward), or back -/
def ud (m : Txt) : Form → Bool → Bool → Seal
  | any, _, _ => .stay
  | num, w, b => .num (if w then some (m, b) else none)
  | text, w, b => .text (if w then some (m, b) else none)
  | deed c d, w, b => .deed (if w then some (m, b) else none) (ud m c (!w) (!b)) (ud m d w b)
  | box c, w, b => .box (if w then some (m, b) else none) (ud m c (!w) (!b)) (ud m c w b)
def sf (m : Txt) : Form → Form → Bool → Seal
  | any, g, b => ud m g true b
  | f, any, b => ud m f false b
  | num, num, _ => .num none
  | text, text, _ => .text none
  | deed a b, deed c d, s => .deed none (sf m c a (!s)) (sf m b d s)
  | box a, box c, s => .box none (sf m c a (!s)) (sf m a c s)
  | _, _, _ => .stay
  termination_by f g => sizeOf f + sizeOf g
theorem sf_any_l (m : Txt) (g : Form) (b : Bool) : sf m any g b = ud m g true b := by rw [sf]
theorem sf_any_r (m : Txt) (f : Form) (b : Bool) : sf m f any b = ud m f false b := by
  cases f <;> rw [sf] <;> first | rfl | simp [ud]
theorem sf_deed (m : Txt) (a b c d : Form) (s : Bool) : sf m (deed a b) (deed c d) s = .deed none (sf m c a (!s)) (sf m b d s) := by rw [sf]
theorem sf_box (m : Txt) (a c : Form) (s : Bool) : sf m (box a) (box c) s = .box none (sf m c a (!s)) (sf m a c s) := by rw [sf]
end Ev
set_option Elab.async false
set_option linter.all false
set_option autoImplicit false
set_option maxRecDepth 100000
set_option maxHeartbeats 4000000
namespace Ev
open PySem
open Form
/-- what two cores of one head come to -/
def joinS (both : Seal → Seal → Option Seal) (s t : Seal) : Option Seal := match s, t with
  | _, .broken _ h m b => some (.broken s.ck h m b)
  | .num c, _ => some (.num c)
  | .text c, _ => some (.text c)
  | .deed c a b, .deed _ x y => (match both x a with | none => none | some p => (match both b y with | none => none | some q => some (.deed c p q)))
  | .box c a b, .box _ x y => (match both x a with | none => none | some p => (match both b y with | none => none | some q => some (.box c p q)))
  | _, _ => none
/-- merged, to a depth -/
def bothN : Nat → Seal → Seal → Option Seal
  | 0, _, _ => none
  | n + 1, s, t => match s.head, t.head with
    | none, _ => some t
    | _, none => some s
    | some h, some g => match s with
      | .broken _ _ _ _ => some s
      | _ => if h = g then joinS (bothN n) s t else (match t.ck with | some (m, b) => some (.broken s.ck h m b) | none => none)
def both (s t : Seal) : Option Seal := bothN (max s.hgt t.hgt + 1) s t
theorem joinS_up {f g : Seal → Seal → Option Seal} {s t : Seal} (h : ∀ x a, x.hgt < max s.hgt t.hgt → a.hgt < max s.hgt t.hgt → f x a = g x a) : joinS f s t = joinS g s t := by
  cases s <;> cases t <;> first | rfl | skip
  · rename_i c a b c' x y
    simp only [Seal.hgt] at h
    simp only [joinS]
    rw [h x a (by omega) (by omega), h b y (by omega) (by omega)]
  · rename_i c a b c' x y
    simp only [Seal.hgt] at h
    simp only [joinS]
    rw [h x a (by omega) (by omega), h b y (by omega) (by omega)]
theorem bothN_up : ∀ (n m : Nat) (s t : Seal), max s.hgt t.hgt < n → max s.hgt t.hgt < m → bothN n s t = bothN m s t
  | 0, _, _, _, h, _ => by omega
  | _, 0, _, _, _, h => by omega
  | n + 1, m + 1, s, t, h1, h2 => by
    have j : joinS (bothN n) s t = joinS (bothN m) s t := joinS_up fun x a hx ha => bothN_up n m x a (by omega) (by omega)
    unfold bothN
    rw [j]
theorem both_at (n : Nat) (s t : Seal) (h : max s.hgt t.hgt < n) : bothN n s t = both s t := bothN_up _ _ s t h (by omega)
/-- the rows of merging -/
theorem both_stay_l (t : Seal) : both .stay t = some t := by unfold both bothN; cases t.head <;> rfl
theorem both_stay_r (s : Seal) : both s .stay = some s := by unfold both bothN; cases s <;> rfl
theorem both_eq (s t : Seal) (h g : Hd) (hs : s.head = some h) (ht : t.head = some g) (hb : ∀ c x m b, s ≠ .broken c x m b) : both s t = if h = g then joinS both s t else (match t.ck with | some (m, b) => some (.broken s.ck h m b) | none => none) := by
  have j : joinS (bothN (max s.hgt t.hgt)) s t = joinS both s t := joinS_up fun x a hx ha => both_at _ x a (by omega)
  rw [show both s t = bothN (max s.hgt t.hgt + 1) s t from rfl]
  unfold bothN
  rw [hs, ht, j]
  cases s <;> first | rfl | exact absurd rfl (hb _ _ _ _)
theorem both_broken (c : Ck) (h : Hd) (m : Txt) (b : Bool) (t : Seal) : both (.broken c h m b) t = some (.broken c h m b) := by
  unfold both bothN
  cases t <;> rfl
end Ev
set_option Elab.async false
set_option linter.all false
set_option autoImplicit false
set_option maxRecDepth 100000
set_option maxHeartbeats 4000000
namespace Ev
open PySem
open Form
theorem Seal.eq_stay {s : Seal} (h : s.head = none) : s = .stay := by cases s <;> first | rfl | cases h
end Ev
set_option Elab.async false
set_option linter.all false
set_option autoImplicit false
set_option maxRecDepth 100000
set_option maxHeartbeats 4000000
namespace Ev
open PySem
open Form
def hdF : Form → Option Hd
  | any => none | num => some .num | text => some .text | deed _ _ => some .deed | box _ => some .box
def srcOk (c : Ck) (h : Hd) (f : Form) : Prop := (f = any ∧ c ≠ none) ∨ hdF f = some h
def tgtOk (h : Hd) (g : Form) : Prop := g = any ∨ hdF g = some h
def pt : Form → Form × Form
  | deed a b => (a, b) | box a => (a, a) | _ => (any, any)
def leads : Seal → Form → Form → Prop
  | .stay, f, g => f = any ∧ g = any
  | .broken c h _ _, f, _ => srcOk c h f
  | .num c, f, g => srcOk c .num f ∧ tgtOk .num g
  | .text c, f, g => srcOk c .text f ∧ tgtOk .text g
  | .deed c a b, f, g => srcOk c .deed f ∧ tgtOk .deed g ∧ leads a (pt g).1 (pt f).1 ∧ leads b (pt f).2 (pt g).2
  | .box c a b, f, g => srcOk c .box f ∧ tgtOk .box g ∧ leads a (pt g).1 (pt f).1 ∧ leads b (pt f).2 (pt g).2
theorem leads_ud (m : Txt) : ∀ (f : Form) (b : Bool), leads (ud m f true b) any f ∧ leads (ud m f false b) f any
  | any, b => ⟨⟨rfl, rfl⟩, ⟨rfl, rfl⟩⟩
  | num, b => ⟨⟨.inl ⟨rfl, by simp⟩, .inr rfl⟩, ⟨.inr rfl, .inl rfl⟩⟩
  | text, b => ⟨⟨.inl ⟨rfl, by simp⟩, .inr rfl⟩, ⟨.inr rfl, .inl rfl⟩⟩
  | deed c d, b => ⟨⟨.inl ⟨rfl, by simp⟩, .inr rfl, (leads_ud m c (!b)).2, (leads_ud m d b).1⟩, ⟨.inr rfl, .inl rfl, (leads_ud m c (!b)).1, (leads_ud m d b).2⟩⟩
  | box c, b => ⟨⟨.inl ⟨rfl, by simp⟩, .inr rfl, (leads_ud m c (!b)).2, (leads_ud m c b).1⟩, ⟨.inr rfl, .inl rfl, (leads_ud m c (!b)).1, (leads_ud m c b).2⟩⟩
theorem near_comm' (f : Form) : ∀ g, near f g = near g f := by
  induction f with
  | any => intro g; cases g <;> rfl
  | num => intro g; cases g <;> rfl
  | text => intro g; cases g <;> rfl
  | deed a b iha ihb => intro g; cases g <;> simp [near, iha, ihb]
  | box a ih => intro g; cases g <;> simp [near, ih]
theorem leads_sf (m : Txt) : ∀ (n : Nat) (f g : Form) (b : Bool), hgt f ≤ n → hgt g ≤ n → near f g = true → leads (sf m f g b) f g := by
  intro n
  induction n with
  | zero =>
    intro f g b hf hg hn
    cases f with
    | any => rw [sf_any_l]; exact (leads_ud m g b).1
    | deed c d => simp [hgt] at hf
    | box c => simp [hgt] at hf
    | num =>
      cases g with
      | any => rw [sf_any_r]; exact (leads_ud m _ b).2
      | num => rw [sf]; exact ⟨.inr rfl, .inr rfl⟩
      | _ => simp [near] at hn
    | text =>
      cases g with
      | any => rw [sf_any_r]; exact (leads_ud m _ b).2
      | text => rw [sf]; exact ⟨.inr rfl, .inr rfl⟩
      | _ => simp [near] at hn
  | succ n ih =>
    intro f g b hf hg hn
    cases f with
    | any => rw [sf_any_l]; exact (leads_ud m g b).1
    | num =>
      cases g with
      | any => rw [sf_any_r]; exact (leads_ud m _ b).2
      | num => rw [sf]; exact ⟨.inr rfl, .inr rfl⟩
      | _ => simp [near] at hn
    | text =>
      cases g with
      | any => rw [sf_any_r]; exact (leads_ud m _ b).2
      | text => rw [sf]; exact ⟨.inr rfl, .inr rfl⟩
      | _ => simp [near] at hn
    | deed c d =>
      cases g with
      | any => rw [sf_any_r]; exact (leads_ud m _ b).2
      | deed x y =>
        simp only [hgt] at hf hg
        simp only [near, Bool.and_eq_true] at hn
        rw [sf_deed]
        exact ⟨.inr rfl, .inr rfl, ih x c (!b) (by omega) (by omega) (by rw [near_comm']; exact hn.1), ih d y b (by omega) (by omega) hn.2⟩
      | _ => simp [near] at hn
    | box c =>
      cases g with
      | any => rw [sf_any_r]; exact (leads_ud m _ b).2
      | box x =>
        simp only [hgt] at hf hg
        simp only [near] at hn
        rw [sf_box]
        exact ⟨.inr rfl, .inr rfl, ih x c (!b) (by omega) (by omega) (by rw [near_comm']; exact hn), ih c x b (by omega) (by omega) hn⟩
      | _ => simp [near] at hn
theorem leads_src {s : Seal} {f g : Form} {h : Hd} (hs : s.head = some h) (l : leads s f g) : srcOk s.ck h f := by
  cases s with
  | stay => cases hs
  | num c => cases hs; exact l.1
  | text c => cases hs; exact l.1
  | deed c a b => cases hs; exact l.1
  | box c a b => cases hs; exact l.1
  | broken c x m b => cases hs; exact l
theorem leads_tgt {s : Seal} {f g : Form} {h : Hd} (hs : s.head = some h) (hb : ∀ c x m b, s ≠ .broken c x m b) (l : leads s f g) : tgtOk h g := by
  cases s with
  | stay => cases hs
  | num c => cases hs; exact l.2
  | text c => cases hs; exact l.2
  | deed c a b => cases hs; exact l.2.1
  | box c a b => cases hs; exact l.2.1
  | broken c x m b => exact absurd rfl (hb _ _ _ _)
theorem leads_both : ∀ (n : Nat) (s t : Seal) (f g k : Form), max s.hgt t.hgt < n → leads s f g → leads t g k → ∃ r, both s t = some r ∧ leads r f k
  | 0, _, _, _, _, _, h, _, _ => by omega
  | n + 1, s, t, f, g, k, hn, l1, l2 => by
    by_cases h1 : s.head = none
    · have := Seal.eq_stay h1
      subst this
      obtain ⟨rfl, rfl⟩ := l1
      exact ⟨t, both_stay_l t, l2⟩
    by_cases h2 : t.head = none
    · have := Seal.eq_stay h2
      subst this
      obtain ⟨rfl, rfl⟩ := l2
      exact ⟨s, both_stay_r s, l1⟩
    obtain ⟨h, h1⟩ := Option.ne_none_iff_exists'.mp h1
    obtain ⟨i, h2⟩ := Option.ne_none_iff_exists'.mp h2
    by_cases hb : ∀ c x m b, s ≠ .broken c x m b
    · rw [both_eq s t h i h1 h2 hb]
      have s1 := leads_src h1 l1
      have s2 := leads_src h2 l2
      have t1 := leads_tgt h1 hb l1
      by_cases hi : h = i
      · subst hi
        rw [if_pos rfl]
        cases t with
        | stay => cases h2
        | broken c x m b =>
          cases h2
          exact ⟨.broken s.ck h m b, (by cases s <;> first | rfl | cases h1), s1⟩
        | num c' =>
          cases h2
          cases s with
          | num c => exact ⟨_, rfl, l1.1, l2.2⟩
          | broken c x m b => exact absurd rfl (hb _ _ _ _)
          | _ => cases h1
        | text c' =>
          cases h2
          cases s with
          | text c => exact ⟨_, rfl, l1.1, l2.2⟩
          | broken c x m b => exact absurd rfl (hb _ _ _ _)
          | _ => cases h1
        | deed c' x y =>
          cases h2
          cases s with
          | deed c a b =>
            obtain ⟨_, _, l13, l14⟩ := l1
            obtain ⟨_, l22, l23, l24⟩ := l2
            simp only [Seal.hgt] at hn
            obtain ⟨p, e1, q1⟩ := leads_both n x a _ _ _ (by omega) l23 l13
            obtain ⟨q, e2, q2⟩ := leads_both n b y _ _ _ (by omega) l14 l24
            exact ⟨.deed c p q, by simp only [joinS, e1, e2], s1, l22, q1, q2⟩
          | broken c x m b => exact absurd rfl (hb _ _ _ _)
          | _ => cases h1
        | box c' x y =>
          cases h2
          cases s with
          | box c a b =>
            obtain ⟨_, _, l13, l14⟩ := l1
            obtain ⟨_, l22, l23, l24⟩ := l2
            simp only [Seal.hgt] at hn
            obtain ⟨p, e1, q1⟩ := leads_both n x a _ _ _ (by omega) l23 l13
            obtain ⟨q, e2, q2⟩ := leads_both n b y _ _ _ (by omega) l14 l24
            exact ⟨.box c p q, by simp only [joinS, e1, e2], s1, l22, q1, q2⟩
          | broken c x m b => exact absurd rfl (hb _ _ _ _)
          | _ => cases h1
      · rw [if_neg hi]
        have hx : t.ck ≠ none := by
          rcases s2 with ⟨_, hc⟩ | hg
          · exact hc
          · rcases t1 with rfl | hg2
            · cases hg
            · rw [hg] at hg2; exact absurd (Option.some.inj hg2).symm hi
        obtain ⟨⟨m, b⟩, hc⟩ := Option.ne_none_iff_exists'.mp hx
        rw [hc]
        exact ⟨_, rfl, s1⟩
    · have : ∃ c x m b, s = .broken c x m b := by
        cases s with
        | broken c x m b => exact ⟨c, x, m, b, rfl⟩
        | _ => exact absurd (fun c x m b => by simp) hb
      obtain ⟨c, x, m, b, rfl⟩ := this
      exact ⟨_, both_broken _ _ _ _ _, l1⟩
end Ev
set_option Elab.async false
set_option linter.all false
set_option autoImplicit false
set_option maxRecDepth 100000
set_option maxHeartbeats 4000000
set_option Elab.async false
set_option linter.all false
set_option autoImplicit false
set_option maxRecDepth 100000
set_option maxHeartbeats 4000000
namespace Ev
open PySem
open Form
/-- a row of seals, merged onto one -/
def rowM : Seal → List Seal → Option Seal
  | acc, [] => some acc
  | acc, s :: ss => match both acc s with | none => none | some r => rowM r ss
end Ev
set_option Elab.async false
set_option linter.all false
set_option autoImplicit false
set_option maxRecDepth 100000
set_option maxHeartbeats 4000000
set_option Elab.async false
set_option linter.all false
set_option autoImplicit false
set_option maxRecDepth 100000
set_option maxHeartbeats 4000000
namespace Ev
open PySem
open Form
theorem runN {T : Tb} {n : Nat} {fd : FD} [Fn T n fd] (k : Nat) (ds : List D) (v : D) (S S' : Sto) (ρ' : Env) (hnp : ds.length = fd.np) (e : fd.body (T.prm (callT T k)) ((ds.map fun d => some (.fz d)) ++ List.replicate (fd.ns - ds.length) none) S = .ok (.rt v) ρ' S') : callT T (k + 1) n ds S = .ok v S' := by
  rw [call_step]
  unfold runD
  rw [if_pos hnp, e]
end Ev
set_option Elab.async false
set_option linter.all false
set_option autoImplicit false
set_option maxRecDepth 100000
set_option maxHeartbeats 4000000
set_option Elab.async false
set_option linter.all false
set_option autoImplicit false
set_option maxRecDepth 100000
set_option maxHeartbeats 4000000
set_option Elab.async false
set_option linter.all false
set_option autoImplicit false
set_option maxRecDepth 100000
set_option maxHeartbeats 4000000
namespace Ev
open PySem
open Form
def brk : Seal → Bool | .broken _ _ _ _ => true | _ => false
/-- leads, or stays -/
def Ld (s : Seal) (f g : Form) : Prop := (s = .stay ∧ f = g) ∨ leads s f g
theorem Ld_both {s t : Seal} {f g h : Form} (l1 : Ld s f g) (l2 : Ld t g h) : ∃ r, both s t = some r ∧ Ld r f h := by
  rcases l1 with ⟨rfl, rfl⟩ | l1
  · exact ⟨t, both_stay_l t, l2⟩
  · rcases l2 with ⟨rfl, rfl⟩ | l2
    · exact ⟨s, both_stay_r s, .inr l1⟩
    · obtain ⟨r, e, l⟩ := leads_both _ s t f g h (Nat.lt_succ_self _) l1 l2
      exact ⟨r, e, .inr l⟩
inductive Row : Form → List Seal → Form → Prop where
  | nil (f : Form) : Row f [] f
  | cons {f g h : Form} {s : Seal} {ss : List Seal} (l : Ld s f g) (r : Row g ss h) : Row f (s :: ss) h
theorem Row.app {f g h : Form} {xs ys : List Seal} (a : Row f xs g) (b : Row g ys h) : Row f (xs ++ ys) h := by
  induction a with
  | nil f => exact b
  | cons l r ih => exact .cons l (ih b)
theorem Row.some : ∀ {ss : List Seal} {acc : Seal} {e f g : Form}, Ld acc e f → Row f ss g → ∃ r, rowM acc ss = some r ∧ Ld r e g
  | [], acc, e, f, g, l, r => by cases r; exact ⟨acc, rfl, l⟩
  | s :: ss, acc, e, f, g, l, r => by
    cases r with
    | cons l2 r =>
      obtain ⟨a, h1, h2⟩ := Ld_both l l2
      obtain ⟨b, h3, h4⟩ := Row.some h2 r
      exact ⟨b, by simp only [rowM, h1]; exact h3, h4⟩
end Ev
set_option Elab.async false
set_option linter.all false
set_option autoImplicit false
set_option maxRecDepth 100000
set_option maxHeartbeats 4000000
namespace Ev
open PySem
open Form
theorem cut_take {α : Type} (xs : List α) (i : Nat) : cut xs none (some (i : Int)) = xs.take i := by
  unfold cut sIx
  simp only []
  rw [if_neg (by omega)]
  simp only [List.drop_zero, Nat.sub_zero, Int.toNat_natCast]
  by_cases h : i ≤ xs.length
  · rw [Nat.min_eq_left h]
  · rw [Nat.min_eq_right (by omega), List.take_of_length_le (Nat.le_refl _), List.take_of_length_le (by omega)]
theorem cut_drop {α : Type} (xs : List α) (i : Nat) : cut xs (some (i : Int)) none = xs.drop i := by
  unfold cut sIx
  simp only []
  rw [if_neg (by omega)]
  simp only [Int.toNat_natCast]
  by_cases h : i ≤ xs.length
  · rw [Nat.min_eq_left h, List.take_of_length_le (by simp)]
  · rw [Nat.min_eq_right (by omega), List.drop_of_length_le (Nat.le_refl _), List.drop_of_length_le (by omega)]
    simp
end Ev
set_option Elab.async false
set_option linter.all false
set_option autoImplicit false
set_option maxRecDepth 100000
set_option maxHeartbeats 4000000
namespace Ev
open PySem
open Form
theorem F2.len {α β : Type} {Q : α → β → Prop} {as : List α} {bs : List β} (h : F2 Q as bs) : bs.length = as.length := by
  induction h with
  | nil => rfl
  | cons _ _ ih => simp [ih]
abbrev Wl : Type := Txt × Form × Form
/-- a good wall, so high at most -/
def Wl.good (h : Nat) (w : Wl) : Prop := okMark w.1 = true ∧ hgt w.2.1 ≤ h ∧ hgt w.2.2 ≤ h ∧ near w.2.1 w.2.2 = true
inductive WRow : Form → List Wl → Form → Prop where
  | nil (f : Form) : WRow f [] f
  | cons {f g h : Form} {m : Txt} {ws : List Wl} (r : WRow g ws h) : WRow f ((m, f, g) :: ws) h
/-- the seals of a row of walls, sides told -/
inductive SRow : List Wl → List Seal → Prop where
  | nil : SRow [] []
  | cons {w : Wl} {ws : List Wl} {ss : List Seal} (b : Bool) (r : SRow ws ss) : SRow (w :: ws) (sf w.1 w.2.1 w.2.2 b :: ss)
theorem SRow.row {h : Nat} {ws : List Wl} {ss : List Seal} (r : SRow ws ss) : ∀ {f g : Form}, (∀ w ∈ ws, Wl.good h w) → WRow f ws g → Row f ss g := by
  induction r with
  | nil => intro f g _ w; cases w; exact .nil f
  | cons b r ih =>
    rename_i w ws ss
    intro f g hw w
    cases w with
    | cons w =>
      have h0 := hw _ (List.mem_cons_self ..)
      exact .cons (.inr (leads_sf _ h _ _ b h0.2.1 h0.2.2.1 h0.2.2.2)) (ih (fun x hx => hw x (List.mem_cons_of_mem _ hx)) w)
theorem SRow.len {ws : List Wl} {ss : List Seal} (r : SRow ws ss) : ss.length = ws.length := by
  induction r with
  | nil => rfl
  | cons b r ih => simp [ih]
end Ev
set_option Elab.async false
set_option linter.all false
set_option autoImplicit false
set_option maxRecDepth 100000
set_option maxHeartbeats 4000000
namespace Ev
open PySem
open Form
inductive Th where
  | fault (m : Txt) (b : Bool)
  | num (i : Int)
  | text (x : Txt)
  | held (h : Hd) (v : Int) (f : Form) (ls : List (Seal × Seal))
namespace Th
def hd : Th → Option Hd
  | fault _ _ => none | num _ => some .num | text _ => some .text | held h _ _ _ => some h
def add : Th → Seal × Seal → Th
  | held h v f ls, l => held h v f (ls ++ [l])
  | t, _ => t
def ins (ls : List (Seal × Seal)) : List Seal := ls.reverse.map (·.1)
def outs (ls : List (Seal × Seal)) : List Seal := ls.map (·.2)
/-- what is of a form -/
def Ty : Th → Form → Prop
  | fault _ _, _ => True
  | num _, f => tgtOk .num f
  | text _, f => tgtOk .text f
  | held h _ g ls, f => (h = .deed ∨ h = .box) ∧ tgtOk h f ∧ hdF g = some h ∧ Row (pt f).1 (ins ls) (pt g).1 ∧ Row (pt g).2 (outs ls) (pt f).2
def Alike : Th → Th → Prop
  | held h v g ls, held h' v' g' ls' => h = h' ∧ v = v' ∧ g = g' ∧ rowM .stay (ins ls) = rowM .stay (ins ls') ∧ rowM .stay (outs ls) = rowM .stay (outs ls')
  | held _ _ _ _, _ => False
  | _, held _ _ _ _ => False
  | t, t' => t = t'
def Eqv (f : Form) (t t' : Th) : Prop := Ty t f ∧ Ty t' f ∧ Alike t t'
theorem alike_refl (t : Th) : Alike t t := by cases t <;> simp [Alike]
theorem alike_trans {a b c : Th} (h1 : Alike a b) (h2 : Alike b c) : Alike a c := by
  cases a <;> cases b <;> cases c <;> simp_all [Alike]
theorem alike_symm {a b : Th} (h : Alike a b) : Alike b a := by
  cases a <;> cases b <;> simp_all [Alike]
theorem Eqv.refl {f : Form} {t : Th} (h : Ty t f) : Eqv f t t := ⟨h, h, alike_refl t⟩
theorem Eqv.trans {f : Form} {a b c : Th} (h1 : Eqv f a b) (h2 : Eqv f b c) : Eqv f a c := ⟨h1.1, h2.2.1, alike_trans h1.2.2 h2.2.2⟩
theorem Eqv.symm {f : Form} {a b : Th} (h1 : Eqv f a b) : Eqv f b a := ⟨h1.2.1, h1.1, alike_symm h1.2.2⟩
theorem ty_hd {t : Th} {f : Form} {h g : Hd} (ht : Ty t f) (e : t.hd = some h) (hf : hdF f = some g) : h = g := by
  cases t with
  | fault => cases e
  | num i => cases e; rcases ht with rfl | q <;> simp_all [hdF]
  | text i => cases e; rcases ht with rfl | q <;> simp_all [hdF]
  | held h v g ls => cases e; obtain ⟨_, q, _⟩ := ht; rcases q with rfl | q <;> simp_all [hdF]
/-- the head is told, or asked for -/
def Fits (t : Th) (s : Seal) : Prop := ∀ h g, t.hd = some h → s.head = some g → s.ck = none → h = g
theorem fits {t : Th} {s : Seal} {f g : Form} (ht : Ty t f) (l : Ld s f g) : Fits t s := by
  intro h k e1 e2 e3
  rcases l with ⟨rfl, _⟩ | l
  · cases e2
  · have q := leads_src e2 l
    rw [e3] at q
    rcases q with ⟨_, q⟩ | q
    · exact absurd rfl q
    · exact ty_hd ht e1 q
theorem Ty.stay {t : Th} {f g : Form} (ht : Ty t f) (l : Ld .stay f g) : Ty t g := by
  rcases l with ⟨_, rfl⟩ | ⟨rfl, rfl⟩ <;> exact ht
end Th
end Ev
set_option Elab.async false
set_option linter.all false
set_option autoImplicit false
set_option maxRecDepth 100000
set_option maxHeartbeats 4000000
namespace Ev
open PySem
open Form
mutual
def dok : Nat → D → Bool
  | _, .non => true
  | _, .bl _ => true
  | _, .int i => decide (0 ≤ i) && decide (i < 10)
  | _, .str x => x.all fun k => decide (k < 128)
  | _, .dic [] => true
  | n + 1, .tup xs => doks n xs
  | n + 1, .lst xs => doks n xs
  | _, _ => false
def doks : Nat → List D → Bool
  | _, [] => true
  | n, x :: xs => dok n x && doks n xs
end
mutual
/-- how much at most a repr is -/
def siz : D → Nat
  | .str x => 10 * x.length + 2
  | .tup xs => sizs xs + 3
  | .lst xs => sizs xs + 2
  | _ => 5
def sizs : List D → Nat
  | [] => 0
  | x :: xs => siz x + 2 + sizs xs
end
theorem dok_tup (n : Nat) (xs : List D) : dok (n + 1) (.tup xs) = doks n xs := by rw [dok]
theorem dok_lst (n : Nat) (xs : List D) : dok (n + 1) (.lst xs) = doks n xs := by rw [dok]
theorem doks_cons (n : Nat) (x : D) (xs : List D) : doks n (x :: xs) = (dok n x && doks n xs) := by rw [doks]
theorem doks_nil (n : Nat) : doks n [] = true := by rw [doks]
theorem siz_tup (xs : List D) : siz (.tup xs) = sizs xs + 3 := by rw [siz]
theorem siz_lst (xs : List D) : siz (.lst xs) = sizs xs + 2 := by rw [siz]
theorem sizs_cons (x : D) (xs : List D) : sizs (x :: xs) = siz x + 2 + sizs xs := by rw [sizs]
mutual
theorem dok_up : ∀ (n m : Nat) (d : D), dok n d = true → n ≤ m → dok m d = true := fun n m d h e => by
  cases d with
  | tup xs =>
    cases n with
    | zero => simp [dok] at h
    | succ n =>
      obtain ⟨m, rfl⟩ : ∃ j, m = j + 1 := ⟨m - 1, by omega⟩
      rw [dok_tup] at h ⊢
      exact doks_up n m xs h (by omega)
  | lst xs =>
    cases n with
    | zero => simp [dok] at h
    | succ n =>
      obtain ⟨m, rfl⟩ : ∃ j, m = j + 1 := ⟨m - 1, by omega⟩
      rw [dok_lst] at h ⊢
      exact doks_up n m xs h (by omega)
  | dic kvs => cases kvs with
    | nil => simp [dok]
    | cons => simp [dok] at h
  | ref _ => simp [dok] at h
  | scr _ => simp [dok] at h
  | _ => simpa [dok] using h
  termination_by n m d => sizeOf d
theorem doks_up : ∀ (n m : Nat) (ds : List D), doks n ds = true → n ≤ m → doks m ds = true
  | n, m, [], _, _ => doks_nil m
  | n, m, d :: ds, h, e => by
    rw [doks_cons, Bool.and_eq_true] at h ⊢
    exact ⟨dok_up n m d h.1 e, doks_up n m ds h.2 e⟩
  termination_by n m ds => sizeOf ds
end
theorem int_small {i : Int} (h : 0 ≤ i ∧ i < 10) : PyData.showable (.int i) = true ∧ (PyData.shown (.int i)).length ≤ 5 := by
  obtain ⟨h0, h1⟩ := h
  have : i = 0 ∨ i = 1 ∨ i = 2 ∨ i = 3 ∨ i = 4 ∨ i = 5 ∨ i = 6 ∨ i = 7 ∨ i = 8 ∨ i = 9 := by omega
  rcases this with rfl | rfl | rfl | rfl | rfl | rfl | rfl | rfl | rfl | rfl <;> exact ⟨by decide +kernel, by decide +kernel⟩
mutual
theorem dok_shown : ∀ (n : Nat) (d : D), dok n d = true → D.plainq n d = true ∧ PyData.showable (toPyq d) = true ∧ (PyData.shown (toPyq d)).length ≤ siz d := fun n d h => by
  cases d with
  | non => exact ⟨by simp [D.plainq], rfl, by decide +kernel⟩
  | bl b => exact ⟨by simp [D.plainq], rfl, by cases b <;> decide +kernel⟩
  | int i =>
    have h : 0 ≤ i ∧ i < 10 := by simpa [dok] using h
    exact ⟨by simp [D.plainq], (int_small h).1, (int_small h).2⟩
  | str x =>
    have h : ∀ c ∈ x, c < 128 := by simpa [dok] using h
    have := W_str x fun c hc => Nat.lt_of_lt_of_le (h c hc) (by decide)
    refine ⟨?_, rfl, by rw [siz]; exact this⟩
    simp only [D.plainq, List.all_eq_true, decide_eq_true_eq]
    intro c hc
    have := h c hc
    omega
  | dic kvs => cases kvs with
    | nil => exact ⟨by simp [D.plainq], rfl, by decide +kernel⟩
    | cons => simp [dok] at h
  | ref _ => simp [dok] at h
  | scr _ => simp [dok] at h
  | tup xs =>
    cases n with
    | zero => simp [dok] at h
    | succ n =>
      rw [dok_tup] at h
      obtain ⟨h1, h2, h3⟩ := doks_shown n xs h
      refine ⟨by simp only [D.plainq]; exact h1, h2, ?_⟩
      show (tupleText (PyData.shownAll (toPyqs xs))).length ≤ _
      rw [siz_tup]
      unfold tupleText
      rw [strLen_append, strLen_append]
      have e1 : (("(" : Str)).length = 1 := rfl
      have e3 : (((if (PyData.shownAll (toPyqs xs)).length == 1 then ",)" else ")" : String) : Str)).length ≤ 2 := by split <;> decide
      rw [e1]
      by_cases h : PyData.shownAll (toPyqs xs) = []
      · rw [h]
        have : (Str.join ", " []).length = 0 := rfl
        rw [h] at e3
        omega
      · have := join_length_add _ h
        omega
  | lst xs =>
    cases n with
    | zero => simp [dok] at h
    | succ n =>
      rw [dok_lst] at h
      obtain ⟨h1, h2, h3⟩ := doks_shown n xs h
      refine ⟨by simp only [D.plainq]; exact h1, h2, ?_⟩
      have h := textFrom_le (PyData.shownAll (toPyqs xs)) 0 "["
      show (textFrom 0 "[" (PyData.shownAll (toPyqs xs)) ++ ("]" : Str)).length ≤ _
      rw [strLen_append, siz_lst]
      have e1 : (("[" : Str)).length = 1 := rfl
      have e2 : (("]" : Str)).length = 1 := rfl
      omega
  termination_by n d => sizeOf d
theorem doks_shown : ∀ (n : Nat) (ds : List D), doks n ds = true → D.plainqs n ds = true ∧ PyData.showableAll (toPyqs ds) = true ∧ piled (PyData.shownAll (toPyqs ds)) ≤ sizs ds
  | n, [], _ => ⟨by simp [D.plainqs], rfl, Nat.le_refl _⟩
  | n, d :: ds, h => by
    rw [doks_cons, Bool.and_eq_true] at h
    obtain ⟨h1, h2, h3⟩ := dok_shown n d h.1
    obtain ⟨q1, q2, q3⟩ := doks_shown n ds h.2
    refine ⟨by simp only [D.plainqs, h1, q1, Bool.and_self], ?_, ?_⟩
    · simp only [toPyqs, PyData.showableAll, h2, q2, Bool.and_self]
    · simp only [toPyqs, PyData.shownAll, piled_cons]
      rw [sizs_cons]
      omega
  termination_by n ds => sizeOf ds
end
theorem dok_repr {n : Nat} {d : D} (h : dok n d = true) (hn : n ≤ 60) (hs : siz d ≤ 16777216) : ∃ t, shownD d = some t := by
  obtain ⟨h1, h2, h3⟩ := dok_shown 60 d (dok_up n 60 d h hn)
  unfold shownD
  have h3 : (PyData.shown (toPyq d)).length ≤ SZ := Nat.le_trans h3 hs
  rw [h1, h2]
  simp [h3]
end Ev
set_option Elab.async false
set_option linter.all false
set_option autoImplicit false
set_option maxRecDepth 100000
set_option maxHeartbeats 4000000
namespace Ev
open PySem
open Form
def dec : Nat → D → Option Form
  | _, .str x => if x = [97,110,121] then some any else if x = [110,117,109] then some num else if x = [116,101,120,116] then some text else none
  | n + 1, .tup [.str w, a] => if w = [98,111,120] then (match dec n a with | some f => some (box f) | none => none) else none
  | n + 1, .tup [.str w, a, b] => if w = [100,101,101,100] then (match dec n a, dec n b with | some f, some g => some (deed f g) | _, _ => none) else none
  | _, _ => none
theorem dec_some : ∀ (n : Nat) (x : D) (f : Form), dec n x = some f → x = enc f ∧ hgt f ≤ n
  | n, .str x, f, h => by
    rw [dec] at h
    split at h
    · rename_i e; cases h; subst e; exact ⟨rfl, Nat.zero_le _⟩
    · split at h
      · rename_i e; cases h; subst e; exact ⟨rfl, Nat.zero_le _⟩
      · split at h
        · rename_i e; cases h; subst e; exact ⟨rfl, Nat.zero_le _⟩
        · cases h
  | n + 1, .tup [.str w, a], f, h => by
    rw [dec] at h
    split at h
    · rename_i e
      split at h
      · rename_i g hg
        cases h
        obtain ⟨e1, e2⟩ := dec_some n a g hg
        subst e e1
        exact ⟨rfl, by simp only [hgt]; omega⟩
      · cases h
    · cases h
  | n + 1, .tup [.str w, a, b], f, h => by
    rw [dec] at h
    split at h
    · rename_i e
      split at h
      · rename_i g g' hg hg'
        cases h
        obtain ⟨e1, e2⟩ := dec_some n a g hg
        obtain ⟨e3, e4⟩ := dec_some n b g' hg'
        subst e e1 e3
        exact ⟨rfl, by simp only [hgt]; omega⟩
      · cases h
    · cases h
  | 0, .tup _, f, h => by simp [dec] at h
  | 0, .non, f, h => by simp [dec] at h
  | n + 1, .non, f, h => by simp [dec] at h
  | n, .bl _, f, h => by cases n <;> simp [dec] at h
  | n, .int _, f, h => by cases n <;> simp [dec] at h
  | n, .lst _, f, h => by cases n <;> simp [dec] at h
  | n, .dic _, f, h => by cases n <;> simp [dec] at h
  | n, .ref _, f, h => by cases n <;> simp [dec] at h
  | n, .scr _, f, h => by cases n <;> simp [dec] at h
  | n + 1, .tup [], f, h => by simp [dec] at h
  | n + 1, .tup [_], f, h => by simp [dec] at h
  | n + 1, .tup (x :: y :: z :: w :: r), f, h => by simp [dec] at h
  | n + 1, .tup [.non, _], f, h => by simp [dec] at h
  | n + 1, .tup [.bl _, _], f, h => by simp [dec] at h
  | n + 1, .tup [.int _, _], f, h => by simp [dec] at h
  | n + 1, .tup [.tup _, _], f, h => by simp [dec] at h
  | n + 1, .tup [.lst _, _], f, h => by simp [dec] at h
  | n + 1, .tup [.dic _, _], f, h => by simp [dec] at h
  | n + 1, .tup [.ref _, _], f, h => by simp [dec] at h
  | n + 1, .tup [.scr _, _], f, h => by simp [dec] at h
  | n + 1, .tup [.non, _, _], f, h => by simp [dec] at h
  | n + 1, .tup [.bl _, _, _], f, h => by simp [dec] at h
  | n + 1, .tup [.int _, _, _], f, h => by simp [dec] at h
  | n + 1, .tup [.tup _, _, _], f, h => by simp [dec] at h
  | n + 1, .tup [.lst _, _, _], f, h => by simp [dec] at h
  | n + 1, .tup [.dic _, _, _], f, h => by simp [dec] at h
  | n + 1, .tup [.ref _, _, _], f, h => by simp [dec] at h
  | n + 1, .tup [.scr _, _, _], f, h => by simp [dec] at h
theorem dec_enc (f : Form) : ∀ n, hgt f ≤ n → dec n (enc f) = some f := by
  induction f with
  | any => intro n _; cases n <;> simp [enc, dec]
  | num => intro n _; cases n <;> simp [enc, dec]
  | text => intro n _; cases n <;> simp [enc, dec]
  | deed a b iha ihb =>
    intro n h
    simp only [hgt] at h
    obtain ⟨n, rfl⟩ : ∃ j, n = j + 1 := ⟨n - 1, by omega⟩
    simp [enc, dec, iha n (by omega), ihb n (by omega)]
  | box a iha =>
    intro n h
    simp only [hgt] at h
    obtain ⟨n, rfl⟩ : ∃ j, n = j + 1 := ⟨n - 1, by omega⟩
    simp [enc, dec, iha n (by omega)]
end Ev
set_option Elab.async false
set_option linter.all false
set_option autoImplicit false
set_option maxRecDepth 100000
set_option maxHeartbeats 4000000
namespace Ev
open PySem
open Form
def Seal.cnt : Seal → Nat
  | .deed c a b => (if c.isSome then 2 else 1) + (Seal.cnt a + Seal.cnt b)
  | .box c a b => (if c.isSome then 2 else 1) + (Seal.cnt a + Seal.cnt b)
  | .stay => 1
  | .num c => if c.isSome then 2 else 1
  | .text c => if c.isSome then 2 else 1
  | .broken c _ _ _ => if c.isSome then 2 else 1
def Seal.ins : Seal → List Seal
  | .deed _ a b => [a, b]
  | .box _ a b => [a, b]
  | _ => []
theorem pow_max (a b : Nat) : 2 ^ (a + 2) + 2 ^ (b + 2) ≤ 2 ^ (1 + max a b + 2) := by
  have h1 : 2 ^ (a + 2) ≤ 2 ^ (max a b + 2) := Nat.pow_le_pow_right (by omega) (by omega)
  have h2 : 2 ^ (b + 2) ≤ 2 ^ (max a b + 2) := Nat.pow_le_pow_right (by omega) (by omega)
  have h3 : 2 ^ (1 + max a b + 2) = 2 * 2 ^ (max a b + 2) := by rw [← Nat.pow_succ']; congr 1; omega
  omega
end Ev
set_option Elab.async false
set_option linter.all false
set_option autoImplicit false
set_option maxRecDepth 100000
set_option maxHeartbeats 4000000
namespace Ev
open PySem
open Form
theorem parted_at {α : Type} {xs : List α} {d : Nat} (h : d < xs.length) : ∃ T1 y T2, xs = T1 ++ y :: T2 ∧ T1.length = d :=
  ⟨xs.take d, xs[d], xs.drop (d + 1), by rw [← List.drop_eq_getElem_cons h, List.take_append_drop], by rw [List.length_take]; omega⟩
theorem cut_l {α : Type} (T1 r : List α) : cut (T1 ++ r) none (some (T1.length : Int)) = T1 := by rw [cut_take, List.take_left' rfl]
theorem cut_r {α : Type} (T1 r : List α) : cut (T1 ++ r) (some (T1.length : Int)) none = r := by rw [cut_drop, List.drop_left' rfl]
theorem cut_r1 {α : Type} (T1 : List α) (y : α) (T2 : List α) : cut (T1 ++ y :: T2) (some ((T1.length : Int) + 1)) none = T2 := by
  have q := cut_drop (T1 ++ y :: T2) (T1.length + 1)
  have e : ((T1.length + 1 : Nat) : Int) = (T1.length : Int) + 1 := by omega
  rw [e] at q
  rw [q, ← List.drop_drop, List.drop_left' rfl, List.drop_succ_cons, List.drop_zero]
theorem at_mid {α : Type} (T1 : List α) (y : α) (T2 : List α) : atI (T1 ++ y :: T2) (T1.length : Int) = some y := by
  unfold atI
  rw [if_pos (by omega)]
  simp
end Ev
set_option Elab.async false
set_option linter.all false
set_option autoImplicit false
set_option maxRecDepth 100000
set_option maxHeartbeats 4000000
set_option Elab.async false
set_option linter.all false
set_option autoImplicit false
set_option maxRecDepth 100000
set_option maxHeartbeats 4000000
namespace Ev
open PySem
open Form
/-- the seal that asks nothing, of a form -/
def pl : Form → Seal
  | any => .stay
  | num => .num none
  | text => .text none
  | deed a c => .deed none (pl a) (pl c)
  | box a => .box none (pl a) (pl a)
end Ev
set_option Elab.async false
set_option linter.all false
set_option autoImplicit false
set_option maxRecDepth 100000
set_option maxHeartbeats 4000000
namespace Ev
open PySem
open Form
theorem cnt_le : ∀ s : Seal, s.cnt + 2 ≤ 2 ^ (s.hgt + 2)
  | .stay => by decide
  | .num c => by simp only [Seal.cnt, Seal.hgt]; split <;> decide
  | .text c => by simp only [Seal.cnt, Seal.hgt]; split <;> decide
  | .broken c _ _ _ => by simp only [Seal.cnt, Seal.hgt]; split <;> decide
  | .deed c a b => by
    have := cnt_le a
    have := cnt_le b
    have := pow_max a.hgt b.hgt
    simp only [Seal.cnt, Seal.hgt]
    split <;> omega
  | .box c a b => by
    have := cnt_le a
    have := cnt_le b
    have := pow_max a.hgt b.hgt
    simp only [Seal.cnt, Seal.hgt]
    split <;> omega
end Ev
set_option Elab.async false
set_option linter.all false
set_option autoImplicit false
set_option maxRecDepth 100000
set_option maxHeartbeats 4000000
set_option Elab.async false
set_option linter.all false
set_option autoImplicit false
set_option maxRecDepth 100000
set_option maxHeartbeats 4000000
set_option Elab.async false
set_option linter.all false
set_option autoImplicit false
set_option maxRecDepth 100000
set_option maxHeartbeats 4000000
set_option Elab.async false
set_option linter.all false
set_option autoImplicit false
set_option maxRecDepth 100000
set_option maxHeartbeats 4000000
set_option Elab.async false
set_option linter.all false
set_option autoImplicit false
set_option maxRecDepth 100000
set_option maxHeartbeats 4000000
set_option Elab.async false
set_option linter.all false
set_option autoImplicit false
set_option maxRecDepth 100000
set_option maxHeartbeats 4000000
namespace Ev
open PySem
open Form
/-- up to here it's read, and this stands behind -/
def Rd (t : Txt) (i : Nat) (s : Txt) : Prop := ∃ p, t = p ++ s ∧ i = p.length
theorem Rd.sw {t : Txt} {i : Nat} {s : Txt} (h : Rd t i s) (w : Txt) : swB t w i = w.isPrefixOf s := by
  obtain ⟨p, rfl, rfl⟩ := h
  unfold swB
  rw [List.drop_left' rfl, List.length_append]
  have : decide (p.length ≤ p.length + s.length) = true := by simp
  rw [this]; rfl
theorem Rd.le {t : Txt} {i : Nat} {s : Txt} (h : Rd t i s) : i + s.length = t.length := by
  obtain ⟨p, rfl, rfl⟩ := h
  simp
end Ev
set_option Elab.async false
set_option linter.all false
set_option autoImplicit false
set_option maxRecDepth 100000
set_option maxHeartbeats 4000000
set_option Elab.async false
set_option linter.all false
set_option autoImplicit false
set_option maxRecDepth 100000
set_option maxHeartbeats 4000000
namespace Ev
open PySem
open Form
theorem rs1 (T : Tb) [Fn T 158 fd_158] [Fn T 159 fd_159] [Fn T 160 fd_160] [Fn T 161 fd_161] [Fn T 162 fd_162] [Fn T 163 fd_163] [Fn T 164 fd_164] [Fn T 237 fd_237] [Fn T 703 fd_703] [Fn T 704 fd_704] [Fn T 705 fd_705] [Fn T 706 fd_706] [Fn T 707 fd_707] [Fn T 708 fd_708] [Fn T 709 fd_709] [Fn T 710 fd_710] [Fn T 711 fd_711] (t : Txt) (k : Nat) (S S1 : Sto) (e : callT T k 703 [.ref S.length, .str t] (S ++ [.ins 702 []]) = .ok .non S1) : (sAsg (xMak (T.prm (callT T k)) 702 703 2 (aCons (mVar 0) aNil)) (mSet 1)) [some (.fz (.str t)), none, none] S = .ok .nx [some (.fz (.str t)), some (.fz (.ref S.length)), none] S1 := by
  have e : (T.prm (callT T k)).call 703 [.ref S.length, .str t] (S ++ [.ins 702 []]) = .ok .non S1 := e
  simp! [e]
end Ev
set_option Elab.async false
set_option linter.all false
set_option autoImplicit false
set_option maxRecDepth 100000
set_option maxHeartbeats 4000000
set_option Elab.async false
set_option linter.all false
set_option autoImplicit false
set_option maxRecDepth 100000
set_option maxHeartbeats 4000000
namespace Ev
open PySem
open Form
mutual
def dkb : Nat → D → Bool
  | _, .non => true
  | _, .bl _ => true
  | _, .int i => decide (-10000000000000000000000000000000 < i) && decide (i < 10000000000000000000000000000000)
  | _, .str x => x.all fun k => decide (k < 128)
  | _, .dic [] => true
  | n + 1, .tup xs => dkbs n xs
  | n + 1, .lst xs => dkbs n xs
  | _, _ => false
def dkbs : Nat → List D → Bool
  | _, [] => true
  | n, x :: xs => dkb n x && dkbs n xs
end
mutual
/-- how much at most a repr is -/
def szb : D → Nat
  | .str x => 10 * x.length + 2
  | .tup xs => szbs xs + 3
  | .lst xs => szbs xs + 2
  | .int _ => 40
  | _ => 5
def szbs : List D → Nat
  | [] => 0
  | x :: xs => szb x + 2 + szbs xs
end
theorem dkb_tup (n : Nat) (xs : List D) : dkb (n + 1) (.tup xs) = dkbs n xs := by rw [dkb]
theorem dkb_lst (n : Nat) (xs : List D) : dkb (n + 1) (.lst xs) = dkbs n xs := by rw [dkb]
theorem dkbs_cons (n : Nat) (x : D) (xs : List D) : dkbs n (x :: xs) = (dkb n x && dkbs n xs) := by rw [dkbs]
theorem dkbs_nil (n : Nat) : dkbs n [] = true := by rw [dkbs]
theorem szb_tup (xs : List D) : szb (.tup xs) = szbs xs + 3 := by rw [szb]
theorem szb_lst (xs : List D) : szb (.lst xs) = szbs xs + 2 := by rw [szb]
theorem szbs_cons (x : D) (xs : List D) : szbs (x :: xs) = szb x + 2 + szbs xs := by rw [szbs]
theorem szbs_app : ∀ (xs ys : List D), szbs (xs ++ ys) = szbs xs + szbs ys
  | [], ys => by simp [szbs]
  | x :: xs, ys => by rw [List.cons_append, szbs_cons, szbs_cons, szbs_app xs ys]; omega
theorem dkbs_app (n : Nat) : ∀ (xs ys : List D), dkbs n (xs ++ ys) = (dkbs n xs && dkbs n ys)
  | [], ys => by simp [dkbs]
  | x :: xs, ys => by rw [List.cons_append, dkbs_cons, dkbs_cons, dkbs_app n xs ys, Bool.and_assoc]
theorem szbs_len : ∀ xs : List D, 2 * xs.length ≤ szbs xs
  | [] => Nat.le_refl _
  | x :: xs => by rw [szbs_cons]; have := szbs_len xs; simp only [List.length_cons]; omega
theorem szbs_mem : ∀ (xs : List D) {x : D}, x ∈ xs → szb x + 2 ≤ szbs xs
  | y :: xs, x, h => by
    rw [szbs_cons]
    rcases List.mem_cons.mp h with rfl | h
    · omega
    · have := szbs_mem xs h; omega
theorem dkbs_mem {n : Nat} : ∀ (xs : List D) {x : D}, dkbs n xs = true → x ∈ xs → dkb n x = true
  | y :: xs, x, h, m => by
    rw [dkbs_cons, Bool.and_eq_true] at h
    rcases List.mem_cons.mp m with rfl | m
    · exact h.1
    · exact dkbs_mem xs h.2 m
mutual
theorem dkb_up : ∀ (n m : Nat) (d : D), dkb n d = true → n ≤ m → dkb m d = true := fun n m d h e => by
  cases d with
  | tup xs =>
    cases n with
    | zero => simp [dkb] at h
    | succ n =>
      obtain ⟨m, rfl⟩ : ∃ j, m = j + 1 := ⟨m - 1, by omega⟩
      rw [dkb_tup] at h ⊢
      exact dkbs_up n m xs h (by omega)
  | lst xs =>
    cases n with
    | zero => simp [dkb] at h
    | succ n =>
      obtain ⟨m, rfl⟩ : ∃ j, m = j + 1 := ⟨m - 1, by omega⟩
      rw [dkb_lst] at h ⊢
      exact dkbs_up n m xs h (by omega)
  | dic kvs => cases kvs with
    | nil => simp [dkb]
    | cons => simp [dkb] at h
  | ref _ => simp [dkb] at h
  | scr _ => simp [dkb] at h
  | _ => simpa [dkb] using h
  termination_by n m d => sizeOf d
theorem dkbs_up : ∀ (n m : Nat) (ds : List D), dkbs n ds = true → n ≤ m → dkbs m ds = true
  | n, m, [], _, _ => dkbs_nil m
  | n, m, d :: ds, h, e => by
    rw [dkbs_cons, Bool.and_eq_true] at h ⊢
    exact ⟨dkb_up n m d h.1 e, dkbs_up n m ds h.2 e⟩
  termination_by n m ds => sizeOf ds
end
theorem txt_nat {n : Nat} (h : n < 10 ^ 31) : (Str.ofString (toString ((n : Nat) : Int))).length ≤ 31 := by
  have e : toString ((n : Nat) : Int) = String.ofList (Nat.toDigits 10 n) := rfl
  rw [e, PyProof.Rows.ofString_len, String.length_ofList]
  exact PyProof.Rows.digits10_le (by omega) h
theorem intb_small {i : Int} (h : -10000000000000000000000000000000 < i ∧ i < 10000000000000000000000000000000) : PyData.showable (.int i) = true ∧ (PyData.shown (.int i)).length ≤ 40 := by
  obtain ⟨h0, h1⟩ := h
  constructor
  · simp only [PyData.showable, decide_eq_true_eq]
    refine PySem.Spec.log2_small (Nat.lt_of_lt_of_le (m := 2 ^ 104) ?_ (Nat.pow_le_pow_right (by decide) (by decide)))
    have e : (2 : Nat) ^ 104 = 20282409603651670423947251286016 := by decide
    rw [e]
    omega
  · show (Str.ofString (toString i)).length ≤ 40
    by_cases hi : i < 0
    · rw [PyProof.Rows.len_text_neg hi]
      obtain ⟨n, hn⟩ : ∃ n : Nat, 0 - i = (n : Int) := ⟨(0 - i).toNat, by omega⟩
      rw [hn]
      have := txt_nat (n := n) (by have e : (10 : Nat) ^ 31 = 10000000000000000000000000000000 := by decide
                                   rw [e]; omega)
      omega
    · obtain ⟨n, hn⟩ : ∃ n : Nat, i = (n : Int) := ⟨i.toNat, by omega⟩
      rw [hn]
      have := txt_nat (n := n) (by have e : (10 : Nat) ^ 31 = 10000000000000000000000000000000 := by decide
                                   rw [e]; omega)
      omega
mutual
theorem dkb_shown : ∀ (n : Nat) (d : D), dkb n d = true → D.plainq n d = true ∧ PyData.showable (toPyq d) = true ∧ (PyData.shown (toPyq d)).length ≤ szb d := fun n d h => by
  cases d with
  | non => exact ⟨by simp [D.plainq], rfl, by decide +kernel⟩
  | bl b => exact ⟨by simp [D.plainq], rfl, by cases b <;> decide +kernel⟩
  | int i =>
    have h : -10000000000000000000000000000000 < i ∧ i < 10000000000000000000000000000000 := by simpa [dkb] using h
    exact ⟨by simp [D.plainq], (intb_small h).1, (intb_small h).2⟩
  | str x =>
    have h : ∀ c ∈ x, c < 128 := by simpa [dkb] using h
    have := W_str x fun c hc => Nat.lt_of_lt_of_le (h c hc) (by decide)
    refine ⟨?_, rfl, by rw [szb]; exact this⟩
    simp only [D.plainq, List.all_eq_true, decide_eq_true_eq]
    intro c hc
    have := h c hc
    omega
  | dic kvs => cases kvs with
    | nil => exact ⟨by simp [D.plainq], rfl, by decide +kernel⟩
    | cons => simp [dkb] at h
  | ref _ => simp [dkb] at h
  | scr _ => simp [dkb] at h
  | tup xs =>
    cases n with
    | zero => simp [dkb] at h
    | succ n =>
      rw [dkb_tup] at h
      obtain ⟨h1, h2, h3⟩ := dkbs_shown n xs h
      refine ⟨by simp only [D.plainq]; exact h1, h2, ?_⟩
      show (tupleText (PyData.shownAll (toPyqs xs))).length ≤ _
      rw [szb_tup]
      unfold tupleText
      rw [strLen_append, strLen_append]
      have e1 : (("(" : Str)).length = 1 := rfl
      have e3 : (((if (PyData.shownAll (toPyqs xs)).length == 1 then ",)" else ")" : String) : Str)).length ≤ 2 := by split <;> decide
      rw [e1]
      by_cases h : PyData.shownAll (toPyqs xs) = []
      · rw [h]
        have : (Str.join ", " []).length = 0 := rfl
        rw [h] at e3
        omega
      · have := join_length_add _ h
        omega
  | lst xs =>
    cases n with
    | zero => simp [dkb] at h
    | succ n =>
      rw [dkb_lst] at h
      obtain ⟨h1, h2, h3⟩ := dkbs_shown n xs h
      refine ⟨by simp only [D.plainq]; exact h1, h2, ?_⟩
      have h := textFrom_le (PyData.shownAll (toPyqs xs)) 0 "["
      show (textFrom 0 "[" (PyData.shownAll (toPyqs xs)) ++ ("]" : Str)).length ≤ _
      rw [strLen_append, szb_lst]
      have e1 : (("[" : Str)).length = 1 := rfl
      have e2 : (("]" : Str)).length = 1 := rfl
      omega
  termination_by n d => sizeOf d
theorem dkbs_shown : ∀ (n : Nat) (ds : List D), dkbs n ds = true → D.plainqs n ds = true ∧ PyData.showableAll (toPyqs ds) = true ∧ piled (PyData.shownAll (toPyqs ds)) ≤ szbs ds
  | n, [], _ => ⟨by simp [D.plainqs], rfl, Nat.le_refl _⟩
  | n, d :: ds, h => by
    rw [dkbs_cons, Bool.and_eq_true] at h
    obtain ⟨h1, h2, h3⟩ := dkb_shown n d h.1
    obtain ⟨q1, q2, q3⟩ := dkbs_shown n ds h.2
    refine ⟨by simp only [D.plainqs, h1, q1, Bool.and_self], ?_, ?_⟩
    · simp only [toPyqs, PyData.showableAll, h2, q2, Bool.and_self]
    · simp only [toPyqs, PyData.shownAll, piled_cons]
      rw [szbs_cons]
      omega
  termination_by n ds => sizeOf ds
end
theorem dkb_repr {n : Nat} {d : D} (h : dkb n d = true) (hn : n ≤ 60) (hs : szb d ≤ 16777216) : ∃ t, shownD d = some t := by
  obtain ⟨h1, h2, h3⟩ := dkb_shown 60 d (dkb_up n 60 d h hn)
  unfold shownD
  have h3 : (PyData.shown (toPyq d)).length ≤ SZ := Nat.le_trans h3 hs
  rw [h1, h2]
  simp [h3]
/-- forms.is_form_to of any data -/
theorem form_anyb (T : Tb) [Fn T 101 fd_101] : ∀ (n m : Nat) (x : D), dkb m x = true → szb x ≤ 16777216 → ∀ (k : Nat) (S : Sto), n < k → callT T k 101 [x, .int n] S = .ok (.bl (dec n x).isSome) S := by
  intro n
  induction n with
  | zero =>
    intro m x hx hs k S hk
    obtain ⟨k, rfl⟩ : ∃ j, k = j + 1 := ⟨k - 1, by omega⟩
    rw [call_step]
    cases x with
    | str w =>
      by_cases h1 : w = [97,110,121]
      · subst h1; simp! [b_101, dec]
      by_cases h2 : w = [110,117,109]
      · subst h2; simp! [b_101, dec]
      by_cases h3 : w = [116,101,120,116]
      · subst h3; simp! [b_101, dec]
      have g1 : ¬ [97,110,121] = w := fun e => h1 e.symm
      have g2 : ¬ [110,117,109] = w := fun e => h2 e.symm
      have g3 : ¬ [116,101,120,116] = w := fun e => h3 e.symm
      simp! [b_101, dec, h1, h2, h3, g1, g2, g3]
    | tup xs =>
      cases xs with
      | nil => simp! [b_101, dec]
      | cons w ps => simp! [b_101, dec, eqo]
    | dic kvs => cases kvs with
      | nil => simp! [b_101, dec]
      | cons => simp [dkb] at hx
    | ref _ => simp [dkb] at hx
    | scr _ => simp [dkb] at hx
    | _ => simp! [b_101, dec]
  | succ n ih =>
    intro m x hx hs k S hk
    obtain ⟨k, rfl⟩ : ∃ j, k = j + 1 := ⟨k - 1, by omega⟩
    rw [call_step]
    have hz : ¬ ((n : Int) + 1 = 0) := by omega
    have e1 : (n : Int) + 1 - 1 = (n : Int) := by omega
    cases x with
    | str w =>
      by_cases h1 : w = [97,110,121]
      · subst h1; simp! [b_101, dec]
      by_cases h2 : w = [110,117,109]
      · subst h2; simp! [b_101, dec]
      by_cases h3 : w = [116,101,120,116]
      · subst h3; simp! [b_101, dec]
      have g1 : ¬ [97,110,121] = w := fun e => h1 e.symm
      have g2 : ¬ [110,117,109] = w := fun e => h2 e.symm
      have g3 : ¬ [116,101,120,116] = w := fun e => h3 e.symm
      simp! [b_101, dec, h1, h2, h3, g1, g2, g3]
    | tup xs =>
      obtain ⟨m, rfl⟩ : ∃ j, m = j + 1 := by cases m with | zero => simp [dkb] at hx | succ m => exact ⟨m, rfl⟩
      rw [dkb_tup] at hx
      rw [szb_tup] at hs
      have hl := szbs_len xs
      cases xs with
      | nil => simp! [b_101, dec]
      | cons w ps =>
        rw [dkbs_cons, Bool.and_eq_true] at hx
        rw [szbs_cons] at hs
        have hl := szbs_len ps
        have l1 : ps.length ≤ 16777215 := by omega
        cases w with
        | str w =>
          by_cases h1 : w = [100,101,101,100]
          · subst h1
            match ps, hx.2, hs, l1 with
            | [], _, _, _ => simp! [b_101, dec, hz]
            | [a], _, _, _ => simp! [b_101, dec, hz]
            | [a, b], hx, hs, _ =>
              rw [dkbs_cons, dkbs_cons, Bool.and_eq_true, Bool.and_eq_true] at hx
              rw [szbs_cons, szbs_cons] at hs
              have ea := ih m a hx.1 (by omega) k S (by omega)
              have eb := ih m b hx.2.1 (by omega) k S (by omega)
              simp! [b_101, hz, e1, ea, eb]
              rw [dec]
              simp only [if_true]
              cases dec n a <;> cases dec n b <;> rfl
            | a :: b :: c :: r, _, _, l1 =>
              simp only [List.length_cons] at l1
              have q : ¬ ((r.length : Int) + 1 + 1 + 1 + 1 = 3) := by omega
              have l2 : r.length + 1 + 1 + 1 + 1 ≤ 16777216 := by omega
              have l3 : r.length + 1 + 1 + 1 ≤ 16777216 := by omega
              simp! [b_101, dec, hz, q, l2, l3]
          by_cases h2 : w = [98,111,120]
          · subst h2
            match ps, hx.2, hs, l1 with
            | [], _, _, _ => simp! [b_101, dec, hz]
            | [a, b], _, _, _ => simp! [b_101, dec, hz]
            | [a], hx, hs, _ =>
              rw [dkbs_cons, Bool.and_eq_true] at hx
              rw [szbs_cons] at hs
              have ea := ih m a hx.1 (by omega) k S (by omega)
              simp! [b_101, hz, e1, ea]
              rw [dec]
              simp only [if_true]
              cases dec n a <;> rfl
            | a :: b :: c :: r, _, _, l1 =>
              simp only [List.length_cons] at l1
              have q : ¬ ((r.length : Int) + 1 + 1 + 1 + 1 = 2) := by omega
              have l2 : r.length + 1 + 1 + 1 + 1 ≤ 16777216 := by omega
              have l3 : r.length + 1 + 1 + 1 ≤ 16777216 := by omega
              simp! [b_101, dec, hz, q, l2, l3]
          have d0 : dec (n + 1) (.tup (.str w :: ps)) = none := by
            match ps with
            | [] => simp [dec]
            | [a] => simp [dec, h2]
            | [a, b] => simp [dec, h1]
            | a :: b :: c :: r => simp [dec]
          have g1 : ¬ [100,101,101,100] = w := fun e => h1 e.symm
          have g2 : ¬ [98,111,120] = w := fun e => h2 e.symm
          have l2 : ps.length ≤ 16777216 := by omega
          simp! [b_101, d0, hz, g1, g2, h1, h2, l2]
        | ref _ => simp [dkb] at hx
        | scr _ => simp [dkb] at hx
        | _ =>
          have d0 : ∀ y : D, (∀ w, y ≠ .str w) → dec (n + 1) (.tup (y :: ps)) = none := fun y hy => by
            cases hq : dec (n + 1) (.tup (y :: ps)) with
            | none => rfl
            | some f =>
              obtain ⟨e, _⟩ := dec_some _ _ _ hq
              cases f <;> cases e <;> exact absurd rfl (hy _)
          have l2 : ps.length ≤ 16777216 := by omega
          rw [d0 _ (fun w e => by cases e)]
          simp! [b_101, hz, l2]
    | dic kvs => cases kvs with
      | nil => simp! [b_101, dec]
      | cons => simp [dkb] at hx
    | ref _ => simp [dkb] at hx
    | scr _ => simp [dkb] at hx
    | _ => simp! [b_101, dec]
theorem is_form_anyb (T : Tb) [Fn T 101 fd_101] [Fn T 102 fd_102] (m : Nat) (x : D) (hx : dkb m x = true) (hs : szb x ≤ 16777216) (k : Nat) (S : Sto) (hk : 6 < k) : callT T k 102 [x] S = .ok (.bl (dec 5 x).isSome) S := by
  obtain ⟨k, rfl⟩ : ∃ j, k = j + 1 := ⟨k - 1, by omega⟩
  rw [call_step]
  have e := form_anyb T 5 m x hx hs k S (by omega)
  have e : callT T k 101 [x, .int 5] S = .ok (.bl (dec 5 x).isSome) S := e
  simp_all! [b_102, e]
/-- the law's own look -/
theorem law_form_anyb (T : Tb) [Fn T 244 fd_244] : ∀ (n m : Nat) (x : D), dkb m x = true → szb x ≤ 16777216 → ∀ (k : Nat) (S : Sto), n < k → callT T k 244 [x, .int n] S = .ok (.bl (dec n x).isSome) S := by
  intro n
  induction n with
  | zero =>
    intro m x hx hs k S hk
    obtain ⟨k, rfl⟩ : ∃ j, k = j + 1 := ⟨k - 1, by omega⟩
    rw [call_step]
    cases x with
    | str w =>
      by_cases h1 : w = [97,110,121]
      · subst h1; simp! [b_244, dec]
      by_cases h2 : w = [110,117,109]
      · subst h2; simp! [b_244, dec]
      by_cases h3 : w = [116,101,120,116]
      · subst h3; simp! [b_244, dec]
      have g1 : ¬ [97,110,121] = w := fun e => h1 e.symm
      have g2 : ¬ [110,117,109] = w := fun e => h2 e.symm
      have g3 : ¬ [116,101,120,116] = w := fun e => h3 e.symm
      simp! [b_244, dec, h1, h2, h3, g1, g2, g3]
    | tup xs => simp! [b_244, dec]
    | dic kvs => cases kvs with
      | nil => simp! [b_244, dec]
      | cons => simp [dkb] at hx
    | ref _ => simp [dkb] at hx
    | scr _ => simp [dkb] at hx
    | _ => simp! [b_244, dec]
  | succ n ih =>
    intro m x hx hs k S hk
    obtain ⟨k, rfl⟩ : ∃ j, k = j + 1 := ⟨k - 1, by omega⟩
    rw [call_step]
    have hz : ¬ ((n : Int) + 1 = 0) := by omega
    have e1 : (n : Int) + 1 - 1 = (n : Int) := by omega
    cases x with
    | str w =>
      by_cases h1 : w = [97,110,121]
      · subst h1; simp! [b_244, dec]
      by_cases h2 : w = [110,117,109]
      · subst h2; simp! [b_244, dec]
      by_cases h3 : w = [116,101,120,116]
      · subst h3; simp! [b_244, dec]
      have g1 : ¬ [97,110,121] = w := fun e => h1 e.symm
      have g2 : ¬ [110,117,109] = w := fun e => h2 e.symm
      have g3 : ¬ [116,101,120,116] = w := fun e => h3 e.symm
      simp! [b_244, dec, h1, h2, h3, g1, g2, g3]
    | tup xs =>
      obtain ⟨m, rfl⟩ : ∃ j, m = j + 1 := by cases m with | zero => simp [dkb] at hx | succ m => exact ⟨m, rfl⟩
      rw [dkb_tup] at hx
      rw [szb_tup] at hs
      cases xs with
      | nil => simp! [b_244, dec, hz]
      | cons w ps =>
        rw [dkbs_cons, Bool.and_eq_true] at hx
        rw [szbs_cons] at hs
        have hl := szbs_len ps
        have l1 : ps.length ≤ 16777215 := by omega
        cases w with
        | str w =>
          by_cases h1 : w = [100,101,101,100]
          · subst h1
            match ps, hx.2, hs, l1 with
            | [], _, _, _ => simp! [b_244, dec, hz]
            | [a], _, _, _ => simp! [b_244, dec, hz]
            | [a, b], hx, hs, _ =>
              rw [dkbs_cons, dkbs_cons, Bool.and_eq_true, Bool.and_eq_true] at hx
              rw [szbs_cons, szbs_cons] at hs
              have ea := ih m a hx.1 (by omega) k S (by omega)
              have eb := ih m b hx.2.1 (by omega) k S (by omega)
              simp! [b_244, hz, e1, ea, eb]
              rw [dec]
              simp only [if_true]
              cases dec n a <;> cases dec n b <;> rfl
            | a :: b :: c :: r, _, _, l1 =>
              simp only [List.length_cons] at l1
              have q : ¬ ((r.length : Int) + 1 + 1 + 1 + 1 = 3) := by omega
              have l2 : r.length + 1 + 1 + 1 + 1 ≤ 16777216 := by omega
              have l3 : r.length + 1 + 1 + 1 ≤ 16777216 := by omega
              simp! [b_244, dec, hz, q, l2, l3]
          by_cases h2 : w = [98,111,120]
          · subst h2
            match ps, hx.2, hs, l1 with
            | [], _, _, _ => simp! [b_244, dec, hz]
            | [a, b], _, _, _ => simp! [b_244, dec, hz]
            | [a], hx, hs, _ =>
              rw [dkbs_cons, Bool.and_eq_true] at hx
              rw [szbs_cons] at hs
              have ea := ih m a hx.1 (by omega) k S (by omega)
              simp! [b_244, hz, e1, ea]
              rw [dec]
              simp only [if_true]
              cases dec n a <;> rfl
            | a :: b :: c :: r, _, _, l1 =>
              simp only [List.length_cons] at l1
              have q : ¬ ((r.length : Int) + 1 + 1 + 1 + 1 = 2) := by omega
              have l2 : r.length + 1 + 1 + 1 + 1 ≤ 16777216 := by omega
              have l3 : r.length + 1 + 1 + 1 ≤ 16777216 := by omega
              simp! [b_244, dec, hz, q, l2, l3]
          have d0 : dec (n + 1) (.tup (.str w :: ps)) = none := by
            match ps with
            | [] => simp [dec]
            | [a] => simp [dec, h2]
            | [a, b] => simp [dec, h1]
            | a :: b :: c :: r => simp [dec]
          have g1 : ¬ [100,101,101,100] = w := fun e => h1 e.symm
          have g2 : ¬ [98,111,120] = w := fun e => h2 e.symm
          have l2 : ps.length ≤ 16777216 := by omega
          have l3 : ps.length + 1 ≤ 16777216 := by omega
          have q : ¬ ((ps.length : Int) + 1 = 0) := by omega
          simp! [b_244, d0, hz, g1, g2, h1, h2, l2, l3, q]
        | ref _ => simp [dkb] at hx
        | scr _ => simp [dkb] at hx
        | _ =>
          have d0 : ∀ y : D, (∀ w, y ≠ .str w) → dec (n + 1) (.tup (y :: ps)) = none := fun y hy => by
            cases hq : dec (n + 1) (.tup (y :: ps)) with
            | none => rfl
            | some f =>
              obtain ⟨e, _⟩ := dec_some _ _ _ hq
              cases f <;> cases e <;> exact absurd rfl (hy _)
          have l2 : ps.length ≤ 16777216 := by omega
          rw [d0 _ (fun w e => by cases e)]
          simp! [b_244, hz, l2]
    | dic kvs => cases kvs with
      | nil => simp! [b_244, dec]
      | cons => simp [dkb] at hx
    | ref _ => simp [dkb] at hx
    | scr _ => simp [dkb] at hx
    | _ => simp! [b_244, dec]
end Ev
set_option Elab.async false
set_option linter.all false
set_option autoImplicit false
set_option maxRecDepth 100000
set_option maxHeartbeats 4000000
namespace Ev
open PySem
open Form
def SHT : List (Txt × Txt) := [([110,117,109,98,101,114], [119]), ([116,101,120,116], [108]), ([110,97,109,101], [120]), ([100,101,101,100], [120,65,101]), ([99,97,108,108], [101,101]), ([108,101,116], [120,101,101]), ([116,101,108,108], [65,101]), ([105,102], [101,101,101]), ([97,100,100], [101,101]), ([115,117,98], [101,101]), ([115,105,122,101], [101]), ([98,111,120], [65,101]), ([114,101,97,100], [101]), ([119,114,105,116,101], [101,101]), ([115,97,109,101], [101,101]), ([100,111], [101,101])]
def look (w : Txt) : List (Txt × Txt) → Option Txt
  | [] => none
  | (j, s) :: r => if j = w then some s else look w r
/-- what stands behind a word -/
def shp (w : Txt) : Option Txt := look w SHT
def SHD : List (D × D) := [(.str [110,117,109,98,101,114], .str [119]), (.str [116,101,120,116], .str [108]), (.str [110,97,109,101], .str [120]), (.str [100,101,101,100], .str [120,65,101]), (.str [99,97,108,108], .str [101,101]), (.str [108,101,116], .str [120,101,101]), (.str [116,101,108,108], .str [65,101]), (.str [105,102], .str [101,101,101]), (.str [97,100,100], .str [101,101]), (.str [115,117,98], .str [101,101]), (.str [115,105,122,101], .str [101]), (.str [98,111,120], .str [65,101]), (.str [114,101,97,100], .str [101]), (.str [119,114,105,116,101], .str [101,101]), (.str [115,97,109,101], .str [101,101]), (.str [100,111], .str [101,101])]
theorem dget_look (w : Txt) : ∀ l : List (Txt × Txt), dget (.str w) (l.map fun p => (D.str p.1, D.str p.2)) = (look w l).map D.str
  | [] => rfl
  | (j, s) :: r => by
    simp only [List.map_cons, dget, look]
    by_cases e : j = w
    · subst e; rw [if_pos rfl, if_pos (by simp [D.eqb])]; rfl
    · rw [if_neg e, if_neg (by simp [D.eqb, e])]; exact dget_look w r
theorem dget_SHD (w : Txt) : dget (.str w) SHD = (shp w).map D.str := dget_look w SHT
def sorts : Txt := [119,108,120,65,101]
theorem look_ok {w s : Txt} : ∀ {l : List (Txt × Txt)}, (l.all fun p => decide (1 ≤ p.2.length) && (decide (p.2.length ≤ 3) && p.2.all fun c => decide (c ∈ sorts))) = true → look w l = some s → 1 ≤ s.length ∧ s.length ≤ 3 ∧ ∀ c ∈ s, c ∈ sorts
  | (j, t) :: r, h, e => by
    rw [List.all_cons, Bool.and_eq_true] at h
    simp only [look] at e
    by_cases q : j = w
    · rw [if_pos q] at e
      cases e
      have h := h.1
      simp only [Bool.and_eq_true, decide_eq_true_eq, List.all_eq_true] at h
      exact ⟨h.1, h.2.1, h.2.2⟩
    · rw [if_neg q] at e; exact look_ok h.2 e
theorem shp_ok {w s : Txt} (h : shp w = some s) : 1 ≤ s.length ∧ s.length ≤ 3 ∧ ∀ c ∈ s, c ∈ sorts := look_ok (l := SHT) (by decide) h
theorem idxS (w : Txt) : index (.dic SHD) (.str w) = dget (.str w) SHD := rfl
theorem copS (w : Txt) : cop .nin (.str w) (.dic SHD) = some (!(dget (.str w) SHD).isSome) := by
  cases w with
  | nil => rfl
  | cons a r => cases r <;> rfl
theorem copE (x y : D) : cop .eq x y = eqo x y := rfl
theorem idx0 (y : D) (ps : List D) : index (.tup (y :: ps)) (.int 0) = some y := rfl
def isW : D → Bool
  | .int _ => true
  | _ => false
def wordB (least : Nat) (m : Txt) : Bool := decide (least ≤ m.length) && decide (m.length ≤ 8) && m.all fun c => decide (c ∈ letters)
def isL (least : Nat) : D → Bool
  | .str m => wordB least m
  | _ => false
def fitB (tb : D → Bool) (c : Nat) (x : D) : Bool := if c = 119 then isW x else if c = 108 then isL 0 x else if c = 120 then isL 1 x else if c = 65 then (dec 5 x).isSome else tb x
def termB : Nat → D → Bool
  | n + 1, .tup (.str w :: xs) => match shp w with
    | some sh => decide (xs.length = sh.length) && ((sh.zip xs).all fun p => fitB (termB n) p.1 p.2)
    | none => false
  | _, _ => false
theorem is_whole_any (T : Tb) [Fn T 261 fd_261] (m : Nat) (x : D) (hx : dkb m x = true) (k : Nat) (S : Sto) (hk : 0 < k) : callT T k 261 [x] S = .ok (.bl (isW x)) S := by
  obtain ⟨k, rfl⟩ : ∃ j, k = j + 1 := ⟨k - 1, by omega⟩
  rw [call_step]
  cases x with
  | dic kvs => cases kvs with
    | nil => simp_all! [b_261, isW]
    | cons => simp [dkb] at hx
  | ref _ => simp [dkb] at hx
  | scr _ => simp [dkb] at hx
  | _ => simp_all! [b_261, isW]
theorem is_written_any (T : Tb) [Fn T 262 fd_262] (m : Nat) (x : D) (hx : dkb m x = true) (hs : szb x ≤ 16777216) (k : Nat) (S : Sto) (hk : 0 < k) : callT T k 262 [x] S = .ok (.bl (isL 0 x)) S := by
  obtain ⟨k, rfl⟩ : ∃ j, k = j + 1 := ⟨k - 1, by omega⟩
  rw [call_step]
  cases x with
  | str w =>
    rw [szb] at hs
    have hm : w.length ≤ 16777216 := by omega
    have hc := signs_comp letters w 0 1 [some (.fz (.str w)), none] S (by decide) hm rfl rfl
    unfold letters at hc
    unfold isL wordB letters
    have e8 : (xCmp .le (xLen (mBor 0)) (M.pure (.int 8))) [some (.fz (.str w)), none] S = .ok (.bl (decide (w.length ≤ 8))) [some (.fz (.str w)), none] S := by
      by_cases h2 : w.length ≤ 8
      · have i2 : ((w.length : Nat) : Int) ≤ 8 := by omega
        simp [runD, xEqE, sRetL, xCallF, mCallF, mCalkF, Form.enc, sSeq, sIf, sRet, sNx, sAsg, sEx, sRai, ↓mb, Res.bind, mp, M.of, mT, xIsi, mBor, mVar, isTy, mTruth, truth, mOr, mAnd, mIte, mNot, xCmp, cop, eqo_nn, eqo_nb, eqo_ni, eqo_ns, eqo_nt, eqo_nl, eqo_nd, eqo_bn, eqo_bb, eqo_bi, eqo_bs, eqo_bt, eqo_bl, eqo_bd, eqo_in, eqo_ib, eqo_ii, eqo_is, eqo_it, eqo_il, eqo_id, eqo_sn, eqo_sb, eqo_si, eqo_ss, eqo_st, eqo_sl, eqo_sd, eqo_tn, eqo_tb, eqo_ti, eqo_ts, eqo_te, eqo_tt, eqo_tl, eqo_td, eqo_ln, eqo_lb, eqo_li, eqo_ls, eqo_lt, eqo_ll, eqo_ld, eqo_dn, eqo_db, eqo_di, eqo_ds, eqo_dt, eqo_dl, eqo_dd, inOk, D.flat, xTup, aNil, aCons, mSet, plain_str, plain_tup, plain_int, plain_bl, plains_nil, plains_cons, eqb_str, eqb_int, eqb_bl, eqb_tup, eqbs_nil, eqbs_cn, eqbs_nc, eqbs_cc, eqb_nn, eqb_nb, eqb_ni, eqb_ns, eqb_nt, eqb_nl, eqb_nd, eqb_bn, eqb_bi, eqb_bs, eqb_bt, eqb_b_l, eqb_bd, eqb_in, eqb_ib, eqb_is, eqb_it, eqb_il, eqb_id, eqb_sn, eqb_sb, eqb_si, eqb_sl, eqb_sd, eqb_tn, eqb_tb, eqb_ti, eqb_tl, eqb_td, eqb_ln, eqb_lb, eqb_li, eqb_ls, eqb_lt, eqb_ll, eqb_ld, eqb_dn, eqb_db, eqb_di, eqb_ds, eqb_dt, eqb_dl, eqb_dd, plain_non, plain_lst, plain_dic, eqb_st, eqb_ts, xLen, bip, xIdx, mIdx, index, mItems, mList, xCall, pp_call, xBin, bop_ai, bop_as, bop_at, bop_al, bop_si, bop_mi, bop_ml, bop_mt, bop_ms, bop_mo, bop_fd, bop_pw, SZ, mSlc, mPart, slice, gUnp, gCon, gEnd, mLst, gUnpT, fListT, mSt, M.bad, mChn, sFor, loopM, xBi, xFz, fLst, mCalk, srcOf, isn_n, isn_b, isn_i, isn_s, isn_t, isn_l, isn_d, isn_r, isn_enc, hm, i2, h2]
      · have i2 : ¬ ((w.length : Nat) : Int) ≤ 8 := by omega
        simp [runD, xEqE, sRetL, xCallF, mCallF, mCalkF, Form.enc, sSeq, sIf, sRet, sNx, sAsg, sEx, sRai, ↓mb, Res.bind, mp, M.of, mT, xIsi, mBor, mVar, isTy, mTruth, truth, mOr, mAnd, mIte, mNot, xCmp, cop, eqo_nn, eqo_nb, eqo_ni, eqo_ns, eqo_nt, eqo_nl, eqo_nd, eqo_bn, eqo_bb, eqo_bi, eqo_bs, eqo_bt, eqo_bl, eqo_bd, eqo_in, eqo_ib, eqo_ii, eqo_is, eqo_it, eqo_il, eqo_id, eqo_sn, eqo_sb, eqo_si, eqo_ss, eqo_st, eqo_sl, eqo_sd, eqo_tn, eqo_tb, eqo_ti, eqo_ts, eqo_te, eqo_tt, eqo_tl, eqo_td, eqo_ln, eqo_lb, eqo_li, eqo_ls, eqo_lt, eqo_ll, eqo_ld, eqo_dn, eqo_db, eqo_di, eqo_ds, eqo_dt, eqo_dl, eqo_dd, inOk, D.flat, xTup, aNil, aCons, mSet, plain_str, plain_tup, plain_int, plain_bl, plains_nil, plains_cons, eqb_str, eqb_int, eqb_bl, eqb_tup, eqbs_nil, eqbs_cn, eqbs_nc, eqbs_cc, eqb_nn, eqb_nb, eqb_ni, eqb_ns, eqb_nt, eqb_nl, eqb_nd, eqb_bn, eqb_bi, eqb_bs, eqb_bt, eqb_b_l, eqb_bd, eqb_in, eqb_ib, eqb_is, eqb_it, eqb_il, eqb_id, eqb_sn, eqb_sb, eqb_si, eqb_sl, eqb_sd, eqb_tn, eqb_tb, eqb_ti, eqb_tl, eqb_td, eqb_ln, eqb_lb, eqb_li, eqb_ls, eqb_lt, eqb_ll, eqb_ld, eqb_dn, eqb_db, eqb_di, eqb_ds, eqb_dt, eqb_dl, eqb_dd, plain_non, plain_lst, plain_dic, eqb_st, eqb_ts, xLen, bip, xIdx, mIdx, index, mItems, mList, xCall, pp_call, xBin, bop_ai, bop_as, bop_at, bop_al, bop_si, bop_mi, bop_ml, bop_mt, bop_ms, bop_mo, bop_fd, bop_pw, SZ, mSlc, mPart, slice, gUnp, gCon, gEnd, mLst, gUnpT, fListT, mSt, M.bad, mChn, sFor, loopM, xBi, xFz, fLst, mCalk, srcOf, isn_n, isn_b, isn_i, isn_s, isn_t, isn_l, isn_d, isn_r, isn_enc, hm, i2, h2]
    by_cases h2 : w.length ≤ 8
    · simp only [h2, decide_true] at e8
      simp (decide := true) [runD, b_262, sRet, ↓mb, Res.bind, mAnd, xIsi, mBor, M.of, isTy, mp, mTruth, truth, e8, h2, hc]
    · simp only [h2, decide_false] at e8
      simp (decide := true) [runD, b_262, sRet, ↓mb, Res.bind, mAnd, xIsi, mBor, M.of, isTy, mp, mTruth, truth, e8, h2]
  | dic kvs => cases kvs with
    | nil => simp_all! [b_262, isL]
    | cons => simp [dkb] at hx
  | ref _ => simp [dkb] at hx
  | scr _ => simp [dkb] at hx
  | _ => simp_all! [b_262, isL]
theorem is_name_anyb (T : Tb) [Fn T 149 fd_149] (m : Nat) (x : D) (hx : dkb m x = true) (hs : szb x ≤ 16777216) (k : Nat) (S : Sto) (hk : 0 < k) : callT T k 149 [x] S = .ok (.bl (isL 1 x)) S := by
  obtain ⟨k, rfl⟩ : ∃ j, k = j + 1 := ⟨k - 1, by omega⟩
  rw [call_step]
  cases x with
  | str m =>
    rw [szb] at hs
    have hm : m.length ≤ 16777216 := by omega
    have hc := signs_comp letters m 0 1 [some (.fz (.str m)), none] S (by decide) hm rfl rfl
    unfold letters at hc
    unfold isL wordB letters
    by_cases h1 : 1 ≤ m.length
    · by_cases h2 : m.length ≤ 8
      · have i1 : (1 : Int) ≤ (m.length : Nat) := by omega
        have i2 : ((m.length : Nat) : Int) ≤ 8 := by omega
        simp (decide := true) [runD, b_149, sSeq, sIf, sRet, sNx, ↓mb, Res.bind, mT, mNot, mOr, xIsi, mBor, M.of, isTy, mp, mTruth, truth, mChn, xLen, bip, SZ, cop, hm, i1, i2, h1, h2, hc]
      · have i1 : (1 : Int) ≤ (m.length : Nat) := by omega
        have i2 : ¬ ((m.length : Nat) : Int) ≤ 8 := by omega
        simp (decide := true) [runD, b_149, sSeq, sIf, sRet, sNx, ↓mb, Res.bind, mT, mNot, mOr, xIsi, mBor, M.of, isTy, mp, mTruth, truth, mChn, xLen, bip, SZ, cop, hm, i1, i2, h1, h2]
    · have i1 : ¬ (1 : Int) ≤ (m.length : Nat) := by omega
      simp (decide := true) [runD, b_149, sSeq, sIf, sRet, sNx, ↓mb, Res.bind, mT, mNot, mOr, xIsi, mBor, M.of, isTy, mp, mTruth, truth, mChn, xLen, bip, SZ, cop, hm, i1, h1]
  | dic kvs => cases kvs with
    | nil => simp_all! [b_149, isL]
    | cons => simp [dkb] at hx
  | ref _ => simp [dkb] at hx
  | scr _ => simp [dkb] at hx
  | _ => simp_all! [b_149, isL]
theorem fits_any (T : Tb) [Fn T 101 fd_101] [Fn T 102 fd_102] [Fn T 149 fd_149] [Fn T 261 fd_261] [Fn T 262 fd_262] [Fn T 263 fd_263] [Fn T 264 fd_264] (c : Nat) (hc : c ∈ sorts) (m : Nat) (x : D) (hx : dkb m x = true) (hs : szb x ≤ 16777216) (tb : D → Bool) (k : Nat) (S : Sto) (hk : 8 < k) (ih : callT T k 263 [x] S = .ok (.bl (tb x)) S) : callT T (k + 1) 264 [.str [c], x] S = .ok (.bl (fitB tb c x)) S := by
  rw [call_step]
  have e1 := is_whole_any T m x hx k S (by omega)
  have e2 := is_written_any T m x hx hs k S (by omega)
  have e3 := is_name_anyb T m x hx hs k S (by omega)
  have e4 := is_form_anyb T m x hx hs k S (by omega)
  simp only [sorts, List.mem_cons, List.not_mem_nil, or_false] at hc
  rcases hc with rfl | rfl | rfl | rfl | rfl
  · simp_all! [b_264, fitB, e1]
  · simp_all! [b_264, fitB, e2]
  · simp_all! [b_264, fitB, e3]
  · simp_all! [b_264, fitB, e4]
  · simp_all! [b_264, fitB, ih]
theorem zip_signs : ∀ (sh : Txt) (xs : List D), zipD (signsD sh) xs = (sh.zip xs).map fun p => .tup [.str [p.1], p.2]
  | [], xs => by simp [signsD, zipD]
  | c :: sh, [] => by simp [signsD, zipD]
  | c :: sh, x :: xs => by
    have := zip_signs sh xs
    simp only [signsD, List.map_cons, zipD, List.zip_cons_cons] at this ⊢
    rw [this]
theorem fits_comp (T : Tb) [Fn T 101 fd_101] [Fn T 102 fd_102] [Fn T 149 fd_149] [Fn T 261 fd_261] [Fn T 262 fd_262] [Fn T 263 fd_263] [Fn T 264 fd_264] (sh : Txt) (xs : List D) (k : Nat) (S : Sto) (tb : D → Bool) (a b : Option SV) (hl : sh.length ≤ 1000) (hf : ∀ p ∈ sh.zip xs, callT T k 264 [.str [p.1], p.2] S = .ok (.bl (fitB tb p.1 p.2)) S) :
    (xBi .all (aCons (xFz (fComp (mZipS (aCons (mVar 3) (aCons (mVar 2) aNil))) [4, 5] (gUnp 2 (gCon (mSet 4) (gCon (mSet 5) gEnd))) (M.pure true) (xCall (T.prm (callT T k)) 264 2 (aCons (mVar 4) (aCons (mVar 5) aNil))))) aNil)) [a, b, some (.fz (.lst xs)), some (.fz (.str sh)), none, none] S
      = .ok (.bl ((sh.zip xs).all fun p => fitB tb p.1 p.2)) [a, b, some (.fz (.lst xs)), some (.fz (.str sh)), none, none] S := by
  have hc := comp_map (own := [4, 5]) (f := gUnp 2 (gCon (mSet 4) (gCon (mSet 5) gEnd))) (e := xCall (T.prm (callT T k)) 264 2 (aCons (mVar 4) (aCons (mVar 5) aNil))) (ρ := [a, b, some (.fz (.lst xs)), some (.fz (.str sh)), none, none]) (S := S)
    (fun d => match d with | .tup [.str [c], x] => .bl (fitB tb c x) | _ => .non) ((sh.zip xs).map fun p => .tup [.str [p.1], p.2]) [] (fun d hd => by
      obtain ⟨p, hp, rfl⟩ := List.mem_map.mp hd
      have e := hf p hp
      simp_all! [mWipe, wipeE, e]) (by simp [SZ]; omega)
  have hm : (((sh.zip xs).map fun p => D.tup [.str [p.1], p.2]).map fun d => match d with | .tup [.str [c], x] => D.bl (fitB tb c x) | _ => .non) = (sh.zip xs).map fun p => .bl (fitB tb p.1 p.2) := by rw [List.map_map]; rfl
  rw [hm] at hc
  simp only [List.nil_append] at hc
  have hw : mWipe [4, 5] [a, b, some (.fz (.lst xs)), some (.fz (.str sh)), none, none] S = .ok () [a, b, some (.fz (.lst xs)), some (.fz (.str sh)), none, none] S := rfl
  have hz : (mZipS (aCons (mVar 3) (aCons (mVar 2) aNil))) [a, b, some (.fz (.lst xs)), some (.fz (.str sh)), none, none] S = .ok ((sh.zip xs).map fun p => .tup [.str [p.1], p.2]) [a, b, some (.fz (.lst xs)), some (.fz (.str sh)), none, none] S := by
    rw [← zip_signs]; rfl
  have ec : fComp (mZipS (aCons (mVar 3) (aCons (mVar 2) aNil))) [4, 5] (gUnp 2 (gCon (mSet 4) (gCon (mSet 5) gEnd))) (M.pure true) (xCall (T.prm (callT T k)) 264 2 (aCons (mVar 4) (aCons (mVar 5) aNil))) [a, b, some (.fz (.lst xs)), some (.fz (.str sh)), none, none] S = .ok ((sh.zip xs).map fun p => .bl (fitB tb p.1 p.2)) [a, b, some (.fz (.lst xs)), some (.fz (.str sh)), none, none] S := by
    refine (bind_ok hz).trans ?_
    show Res.noX (M.bind (mWipe [4, 5]) (fun _ => cmpR [4, 5] (gUnp 2 (gCon (mSet 4) (gCon (mSet 5) gEnd))) (M.pure true) (xCall (T.prm (callT T k)) 264 2 (aCons (mVar 4) (aCons (mVar 5) aNil))) [] ((sh.zip xs).map fun p => .tup [.str [p.1], p.2])) [a, b, some (.fz (.lst xs)), some (.fz (.str sh)), none, none] S) = _
    rw [bind_ok hw, hc]
    rfl
  have ex := bind_ok (f := fun ds => M.pure (D.lst ds)) ec
  refine (bind_ok ((bind_ok (show xFz _ _ S = .ok (.lst ((sh.zip xs).map fun p => .bl (fitB tb p.1 p.2))) [a, b, some (.fz (.lst xs)), some (.fz (.str sh)), none, none] S from bind_ok ec)).trans (bind_ok (show aNil [a, b, some (.fz (.lst xs)), some (.fz (.str sh)), none, none] S = .ok [] [a, b, some (.fz (.lst xs)), some (.fz (.str sh)), none, none] S from rfl)))).trans ?_
  show M.of (bip shownD .all [.lst ((sh.zip xs).map fun p => .bl (fitB tb p.1 p.2))]) _ S = _
  simp [M.of, bip, blsOf_map, all_map_id]
theorem b263_eq (P : Prm) : b_263 P = (sSeq (sIf (mT (mOr (mNot (xIsi (mBor 0) .tuple)) (mOr (xCmp .eq (mVar 0) (xTup aNil)) (mOr (mNot (xIsi (xIdx (mBor 0) (M.pure (.int 0))) .str)) (xCmp .nin (xIdx (mBor 0) (M.pure (.int 0))) (M.pure (.dic SHD))))))) (sRet (M.pure (.bl false))) sNx) (sSeq (sAsg (mVar 0) (gStar (mSet 1) (mSet 2))) (sSeq (sAsg (xIdx (M.pure (.dic SHD)) (mVar 1)) (mSet 3)) (sRet (mAnd (xCmp .eq (xLen (mBor 2)) (xLen (mBor 3))) (xBi .all (aCons (xFz (fComp (mZipS (aCons (mVar 3) (aCons (mVar 2) aNil))) [4, 5] (gUnp 2 (gCon (mSet 4) (gCon (mSet 5) gEnd))) (M.pure true) (xCall P 264 2 (aCons (mVar 4) (aCons (mVar 5) aNil))))) aNil))))))) := rfl
theorem is_term_any (T : Tb) [Fn T 101 fd_101] [Fn T 102 fd_102] [Fn T 149 fd_149] [Fn T 261 fd_261] [Fn T 262 fd_262] [Fn T 263 fd_263] [Fn T 264 fd_264] : ∀ (m : Nat) (x : D), dkb m x = true → szb x ≤ 16777216 → ∀ (k : Nat) (S : Sto), 2 * m + 10 < k → callT T k 263 [x] S = .ok (.bl (termB m x)) S := by
  intro m
  induction m with
  | zero =>
    intro x hx hs k S hk
    have z : termB 0 x = false := by simp [termB]
    rw [z]
    obtain ⟨k, rfl⟩ : ∃ j, k = j + 1 := ⟨k - 1, by omega⟩
    rw [call_step]
    cases x with
    | tup xs => simp [dkb] at hx
    | lst xs => simp [dkb] at hx
    | dic kvs => cases kvs with
      | nil => simp_all! [b263_eq]
      | cons => simp [dkb] at hx
    | ref _ => simp [dkb] at hx
    | scr _ => simp [dkb] at hx
    | _ => simp_all! [b263_eq]
  | succ m ih =>
    intro x hx hs k S hk
    obtain ⟨k, rfl⟩ : ∃ j, k = j + 1 := ⟨k - 1, by omega⟩
    cases x with
    | tup xs =>
      rw [dkb_tup] at hx
      rw [szb_tup] at hs
      cases xs with
      | nil =>
        have z : termB (m + 1) (.tup []) = false := by simp [termB]
        rw [z]
        rw [call_step]
        simp! [b263_eq]
      | cons y ps =>
        rw [dkbs_cons, Bool.and_eq_true] at hx
        rw [szbs_cons] at hs
        have hl := szbs_len ps
        have l1 : ps.length ≤ 16777215 := by omega
        have l2 : ps.length + 1 ≤ 16777216 := by omega
        cases y with
        | str w =>
          have dg := dget_SHD w
          cases hsh : shp w with
          | none =>
            rw [hsh] at dg
            have z : termB (m + 1) (.tup (.str w :: ps)) = false := by simp [termB, hsh]
            rw [z]
            rw [call_step]
            simp (decide := true) [runD, xEqE, sRetL, xCallF, mCallF, mCalkF, Form.enc, sSeq, sIf, sRet, sNx, sAsg, sEx, sRai, ↓mb, Res.bind, mp, M.of, mT, xIsi, mBor, mVar, isTy, mTruth, truth, mOr, mAnd, mIte, mNot, xCmp, eqo_nn, eqo_nb, eqo_ni, eqo_ns, eqo_nt, eqo_nl, eqo_nd, eqo_bn, eqo_bb, eqo_bi, eqo_bs, eqo_bt, eqo_bl, eqo_bd, eqo_in, eqo_ib, eqo_ii, eqo_is, eqo_it, eqo_il, eqo_id, eqo_sn, eqo_sb, eqo_si, eqo_ss, eqo_st, eqo_sl, eqo_sd, eqo_tn, eqo_tb, eqo_ti, eqo_ts, eqo_te, eqo_tt, eqo_tl, eqo_td, eqo_ln, eqo_lb, eqo_li, eqo_ls, eqo_lt, eqo_ll, eqo_ld, eqo_dn, eqo_db, eqo_di, eqo_ds, eqo_dt, eqo_dl, eqo_dd, inOk, D.flat, xTup, aNil, aCons, mSet, plain_str, plain_tup, plain_int, plain_bl, plains_nil, plains_cons, eqb_str, eqb_int, eqb_bl, eqb_tup, eqbs_nil, eqbs_cn, eqbs_nc, eqbs_cc, eqb_nn, eqb_nb, eqb_ni, eqb_ns, eqb_nt, eqb_nl, eqb_nd, eqb_bn, eqb_bi, eqb_bs, eqb_bt, eqb_b_l, eqb_bd, eqb_in, eqb_ib, eqb_is, eqb_it, eqb_il, eqb_id, eqb_sn, eqb_sb, eqb_si, eqb_sl, eqb_sd, eqb_tn, eqb_tb, eqb_ti, eqb_tl, eqb_td, eqb_ln, eqb_lb, eqb_li, eqb_ls, eqb_lt, eqb_ll, eqb_ld, eqb_dn, eqb_db, eqb_di, eqb_ds, eqb_dt, eqb_dl, eqb_dd, plain_non, plain_lst, plain_dic, eqb_st, eqb_ts, xLen, bip, xIdx, mIdx, mItems, mList, xCall, pp_call, xBin, bop_ai, bop_as, bop_at, bop_al, bop_si, bop_mi, bop_ml, bop_mt, bop_ms, bop_mo, bop_fd, bop_pw, SZ, mSlc, mPart, slice, gUnp, gCon, gEnd, mLst, gUnpT, fListT, mSt, M.bad, mChn, sFor, loopM, xBi, xFz, fLst, mCalk, srcOf, isn_n, isn_b, isn_i, isn_s, isn_t, isn_l, isn_d, isn_r, isn_enc, b263_eq, copS, copE, idx0, dg, l1, l2]
          | some sh =>
            rw [hsh] at dg
            have dg : dget (.str w) SHD = some (.str sh) := dg
            obtain ⟨q1, q2, q3⟩ := shp_ok hsh
            have z : termB (m + 1) (.tup (.str w :: ps)) = (decide (ps.length = sh.length) && ((sh.zip ps).all fun p => fitB (termB m) p.1 p.2)) := by simp [termB, hsh]
            rw [z]
            have hc := fits_comp T sh ps k S (termB m) (some (.fz (.tup (.str w :: ps)))) (some (.fz (.str w))) (by omega) (fun p hp => by
              have p1 := (List.of_mem_zip hp).1
              have p2 := (List.of_mem_zip hp).2
              have sp := szbs_mem ps p2
              obtain ⟨k, rfl⟩ : ∃ j, k = j + 1 := ⟨k - 1, by omega⟩
              exact fits_any T p.1 (q3 _ p1) m p.2 (dkbs_mem ps hx.2 p2) (by omega) (termB m) k S (by omega) (ih p.2 (dkbs_mem ps hx.2 p2) (by omega) k S (by omega)))
            refine runN k [.tup (.str w :: ps)] _ S S [some (.fz (.tup (.str w :: ps))), some (.fz (.str w)), some (.fz (.lst ps)), some (.fz (.str sh)), none, none] rfl ?_
            show b_263 (T.prm (callT T k)) [some (.fz (.tup (.str w :: ps))), none, none, none, none, none] S = _
            rw [b263_eq]
            refine (bind_ok (show (sIf (mT (mOr (mNot (xIsi (mBor 0) .tuple)) (mOr (xCmp .eq (mVar 0) (xTup aNil)) (mOr (mNot (xIsi (xIdx (mBor 0) (M.pure (.int 0))) .str)) (xCmp .nin (xIdx (mBor 0) (M.pure (.int 0))) (M.pure (.dic SHD))))))) (sRet (M.pure (.bl false))) sNx) _ S = .ok .nx [some (.fz (.tup (.str w :: ps))), none, none, none, none, none] S by
              simp (decide := true) [runD, xEqE, sRetL, xCallF, mCallF, mCalkF, Form.enc, sSeq, sIf, sRet, sNx, sAsg, sEx, sRai, ↓mb, Res.bind, mp, M.of, mT, xIsi, mBor, mVar, isTy, mTruth, truth, mOr, mAnd, mIte, mNot, xCmp, eqo_nn, eqo_nb, eqo_ni, eqo_ns, eqo_nt, eqo_nl, eqo_nd, eqo_bn, eqo_bb, eqo_bi, eqo_bs, eqo_bt, eqo_bl, eqo_bd, eqo_in, eqo_ib, eqo_ii, eqo_is, eqo_it, eqo_il, eqo_id, eqo_sn, eqo_sb, eqo_si, eqo_ss, eqo_st, eqo_sl, eqo_sd, eqo_tn, eqo_tb, eqo_ti, eqo_ts, eqo_te, eqo_tt, eqo_tl, eqo_td, eqo_ln, eqo_lb, eqo_li, eqo_ls, eqo_lt, eqo_ll, eqo_ld, eqo_dn, eqo_db, eqo_di, eqo_ds, eqo_dt, eqo_dl, eqo_dd, inOk, D.flat, xTup, aNil, aCons, mSet, plain_str, plain_tup, plain_int, plain_bl, plains_nil, plains_cons, eqb_str, eqb_int, eqb_bl, eqb_tup, eqbs_nil, eqbs_cn, eqbs_nc, eqbs_cc, eqb_nn, eqb_nb, eqb_ni, eqb_ns, eqb_nt, eqb_nl, eqb_nd, eqb_bn, eqb_bi, eqb_bs, eqb_bt, eqb_b_l, eqb_bd, eqb_in, eqb_ib, eqb_is, eqb_it, eqb_il, eqb_id, eqb_sn, eqb_sb, eqb_si, eqb_sl, eqb_sd, eqb_tn, eqb_tb, eqb_ti, eqb_tl, eqb_td, eqb_ln, eqb_lb, eqb_li, eqb_ls, eqb_lt, eqb_ll, eqb_ld, eqb_dn, eqb_db, eqb_di, eqb_ds, eqb_dt, eqb_dl, eqb_dd, plain_non, plain_lst, plain_dic, eqb_st, eqb_ts, xLen, bip, xIdx, mIdx, mItems, mList, xCall, pp_call, xBin, bop_ai, bop_as, bop_at, bop_al, bop_si, bop_mi, bop_ml, bop_mt, bop_ms, bop_mo, bop_fd, bop_pw, SZ, mSlc, mPart, slice, gUnp, gCon, gEnd, mLst, gUnpT, fListT, mSt, M.bad, mChn, sFor, loopM, xBi, xFz, fLst, mCalk, srcOf, isn_n, isn_b, isn_i, isn_s, isn_t, isn_l, isn_d, isn_r, isn_enc, copS, copE, idx0, dg, l1, l2])).trans ?_
            refine (bind_ok (show (sAsg (mVar 0) (gStar (mSet 1) (mSet 2))) _ S = .ok .nx [some (.fz (.tup (.str w :: ps))), some (.fz (.str w)), some (.fz (.lst ps)), none, none, none] S by
              simp! [l1, l2])).trans ?_
            refine (bind_ok (show (sAsg (xIdx (M.pure (.dic SHD)) (mVar 1)) (mSet 3)) _ S = .ok .nx [some (.fz (.tup (.str w :: ps))), some (.fz (.str w)), some (.fz (.lst ps)), some (.fz (.str sh)), none, none] S by
              simp (decide := true) [runD, xEqE, sRetL, xCallF, mCallF, mCalkF, Form.enc, sSeq, sIf, sRet, sNx, sAsg, sEx, sRai, ↓mb, Res.bind, mp, M.of, mT, xIsi, mBor, mVar, isTy, mTruth, truth, mOr, mAnd, mIte, mNot, xCmp, eqo_nn, eqo_nb, eqo_ni, eqo_ns, eqo_nt, eqo_nl, eqo_nd, eqo_bn, eqo_bb, eqo_bi, eqo_bs, eqo_bt, eqo_bl, eqo_bd, eqo_in, eqo_ib, eqo_ii, eqo_is, eqo_it, eqo_il, eqo_id, eqo_sn, eqo_sb, eqo_si, eqo_ss, eqo_st, eqo_sl, eqo_sd, eqo_tn, eqo_tb, eqo_ti, eqo_ts, eqo_te, eqo_tt, eqo_tl, eqo_td, eqo_ln, eqo_lb, eqo_li, eqo_ls, eqo_lt, eqo_ll, eqo_ld, eqo_dn, eqo_db, eqo_di, eqo_ds, eqo_dt, eqo_dl, eqo_dd, inOk, D.flat, xTup, aNil, aCons, mSet, plain_str, plain_tup, plain_int, plain_bl, plains_nil, plains_cons, eqb_str, eqb_int, eqb_bl, eqb_tup, eqbs_nil, eqbs_cn, eqbs_nc, eqbs_cc, eqb_nn, eqb_nb, eqb_ni, eqb_ns, eqb_nt, eqb_nl, eqb_nd, eqb_bn, eqb_bi, eqb_bs, eqb_bt, eqb_b_l, eqb_bd, eqb_in, eqb_ib, eqb_is, eqb_it, eqb_il, eqb_id, eqb_sn, eqb_sb, eqb_si, eqb_sl, eqb_sd, eqb_tn, eqb_tb, eqb_ti, eqb_tl, eqb_td, eqb_ln, eqb_lb, eqb_li, eqb_ls, eqb_lt, eqb_ll, eqb_ld, eqb_dn, eqb_db, eqb_di, eqb_ds, eqb_dt, eqb_dl, eqb_dd, plain_non, plain_lst, plain_dic, eqb_st, eqb_ts, xLen, bip, xIdx, mIdx, mItems, mList, xCall, pp_call, xBin, bop_ai, bop_as, bop_at, bop_al, bop_si, bop_mi, bop_ml, bop_mt, bop_ms, bop_mo, bop_fd, bop_pw, SZ, mSlc, mPart, slice, gUnp, gCon, gEnd, mLst, gUnpT, fListT, mSt, M.bad, mChn, sFor, loopM, xBi, xFz, fLst, mCalk, srcOf, isn_n, isn_b, isn_i, isn_s, isn_t, isn_l, isn_d, isn_r, isn_enc, idxS, dg])).trans ?_
            refine bind_ok ?_
            have lc : (xCmp .eq (xLen (mBor 2)) (xLen (mBor 3))) [some (.fz (.tup (.str w :: ps))), some (.fz (.str w)), some (.fz (.lst ps)), some (.fz (.str sh)), none, none] S = .ok (.bl (decide (ps.length = sh.length))) [some (.fz (.tup (.str w :: ps))), some (.fz (.str w)), some (.fz (.lst ps)), some (.fz (.str sh)), none, none] S := by
              have l3 : ps.length ≤ 16777216 := by omega
              have l4 : sh.length ≤ 16777216 := by omega
              have e : ((ps.length : Int) == (sh.length : Int)) = decide (ps.length = sh.length) := by
                by_cases q : ps.length = sh.length
                · simp [q]
                · have q' : ¬ ((ps.length : Int) = (sh.length : Int)) := by omega
                  simp [q, q']
              simp [runD, xEqE, sRetL, xCallF, mCallF, mCalkF, Form.enc, sSeq, sIf, sRet, sNx, sAsg, sEx, sRai, ↓mb, Res.bind, mp, M.of, mT, xIsi, mBor, mVar, isTy, mTruth, truth, mOr, mAnd, mIte, mNot, xCmp, cop, eqo_nn, eqo_nb, eqo_ni, eqo_ns, eqo_nt, eqo_nl, eqo_nd, eqo_bn, eqo_bb, eqo_bi, eqo_bs, eqo_bt, eqo_bl, eqo_bd, eqo_in, eqo_ib, eqo_ii, eqo_is, eqo_it, eqo_il, eqo_id, eqo_sn, eqo_sb, eqo_si, eqo_ss, eqo_st, eqo_sl, eqo_sd, eqo_tn, eqo_tb, eqo_ti, eqo_ts, eqo_te, eqo_tt, eqo_tl, eqo_td, eqo_ln, eqo_lb, eqo_li, eqo_ls, eqo_lt, eqo_ll, eqo_ld, eqo_dn, eqo_db, eqo_di, eqo_ds, eqo_dt, eqo_dl, eqo_dd, inOk, D.flat, xTup, aNil, aCons, mSet, plain_str, plain_tup, plain_int, plain_bl, plains_nil, plains_cons, eqb_str, eqb_int, eqb_bl, eqb_tup, eqbs_nil, eqbs_cn, eqbs_nc, eqbs_cc, eqb_nn, eqb_nb, eqb_ni, eqb_ns, eqb_nt, eqb_nl, eqb_nd, eqb_bn, eqb_bi, eqb_bs, eqb_bt, eqb_b_l, eqb_bd, eqb_in, eqb_ib, eqb_is, eqb_it, eqb_il, eqb_id, eqb_sn, eqb_sb, eqb_si, eqb_sl, eqb_sd, eqb_tn, eqb_tb, eqb_ti, eqb_tl, eqb_td, eqb_ln, eqb_lb, eqb_li, eqb_ls, eqb_lt, eqb_ll, eqb_ld, eqb_dn, eqb_db, eqb_di, eqb_ds, eqb_dt, eqb_dl, eqb_dd, plain_non, plain_lst, plain_dic, eqb_st, eqb_ts, xLen, bip, xIdx, mIdx, index, mItems, mList, xCall, pp_call, xBin, bop_ai, bop_as, bop_at, bop_al, bop_si, bop_mi, bop_ml, bop_mt, bop_ms, bop_mo, bop_fd, bop_pw, SZ, mSlc, mPart, slice, gUnp, gCon, gEnd, mLst, gUnpT, fListT, mSt, M.bad, mChn, sFor, loopM, xBi, xFz, fLst, mCalk, srcOf, isn_n, isn_b, isn_i, isn_s, isn_t, isn_l, isn_d, isn_r, isn_enc, l3, l4, e]
            unfold mAnd
            refine (bind_ok lc).trans ?_
            by_cases q : ps.length = sh.length
            · simp only [q, decide_true, Bool.true_and]
              exact hc
            · simp only [q, decide_false, Bool.false_and]
              rfl
        | dic kvs => cases kvs with
          | nil =>
            have z : termB (m + 1) (.tup (.dic [] :: ps)) = false := by simp [termB]
            rw [z]
            rw [call_step]
            simp! [b263_eq, l1, l2]
          | cons => simp [dkb] at hx
        | ref _ => simp [dkb] at hx
        | scr _ => simp [dkb] at hx
        | _ =>
          have z : ∀ y : D, (∀ w, y ≠ .str w) → termB (m + 1) (.tup (y :: ps)) = false := fun y hy => by
            cases y <;> first | exact absurd rfl (hy _) | simp [termB]
          rw [z _ (fun w e => by cases e)]
          rw [call_step]
          simp! [b263_eq, l1, l2]
    | dic kvs => cases kvs with
      | nil =>
        have z : termB (m + 1) (.dic []) = false := by simp [termB]
        rw [z]
        rw [call_step]
        simp_all! [b263_eq]
      | cons => simp [dkb] at hx
    | ref _ => simp [dkb] at hx
    | scr _ => simp [dkb] at hx
    | _ =>
      have z : ∀ y : D, (∀ xs, y ≠ .tup xs) → termB (m + 1) y = false := fun y hy => by
        cases y <;> first | exact absurd rfl (hy _) | simp [termB]
      rw [z _ (fun w e => by cases e)]
      rw [call_step]
      simp_all! [b263_eq]
end Ev
set_option Elab.async false
set_option linter.all false
set_option autoImplicit false
set_option maxRecDepth 100000
set_option maxHeartbeats 4000000
namespace Ev
open PySem
open Form
def SA1 : List (D × D) := [(.str [110,117,109,98,101,114], .str [119]), (.str [116,101,120,116], .str [108]), (.str [110,97,109,101], .str [120]), (.str [100,101,101,100], .str [120,65,101]), (.str [99,97,108,108], .str [101,101]), (.str [108,101,116], .str [120,101,101]), (.str [116,101,108,108], .str [65,101])]
def SA2 : List (D × D) := [(.str [105,102], .str [101,101,101]), (.str [97,100,100], .str [101,101]), (.str [115,117,98], .str [101,101]), (.str [115,105,122,101], .str [101]), (.str [98,111,120], .str [65,101]), (.str [114,101,97,100], .str [101]), (.str [119,114,105,116,101], .str [101,101])]
def SA3 : List (D × D) := [(.str [115,97,109,101], .str [101,101]), (.str [100,111], .str [101,101])]
def SAB : List (D × D) := dmerge SA1 SA2
theorem sab_shd : dmerge SAB SA3 = SHD := by kernel_rfl
/-- the store has only grown -/
def Gr (S S' : Sto) : Prop := ∃ J, S' = S ++ J ∧ J.all flatC = true
theorem Gr.refl {S : Sto} : Gr S S := ⟨[], by simp, rfl⟩
theorem Gr.trans {S S1 S2 : Sto} : Gr S S1 → Gr S1 S2 → Gr S S2 := fun ⟨J, e, f⟩ ⟨K, e2, f2⟩ => ⟨J ++ K, by rw [e2, e, List.append_assoc], by rw [List.all_append, f, f2]; rfl⟩
theorem Gr.pot {S S' : Sto} {n : Nat} (h : Gr S S') (p : Pot S n) : Pot S' n := by
  obtain ⟨J, rfl, _⟩ := h
  obtain ⟨a, b, hS, ha⟩ := p
  refine ⟨a, b, ?_, ha⟩
  rw [List.getElem?_append_left (List.getElem?_eq_some_iff.mp hS).1]
  exact hS
theorem updC_ok {mo me : M D} {ρ : Env} {S S1 : Sto} {n j : Nat} {kv0 kvs more : List (D × D)} (h1 : mo ρ S = .ok (.ref n) ρ S) (hS : S[n]? = some (.dct kv0)) (h2 : me ρ S = .ok (.ref j) ρ S1) (h3 : S1[n]? = some (.dct kvs)) (h4 : S1[j]? = some (.dct more)) (h5 : n ≠ j) (h6 : kvs.length + more.length ≤ SZ) :
    xUpdC mo me ρ S = .ok .non ρ (S1.set n (.dct (dmerge kvs more))) := by
  unfold xUpdC
  have hd : mDct (.ref n) ρ S = .ok () ρ S := by unfold mDct; simp only [hS]
  refine (bind_ok h1).trans ((bind_ok hd).trans ((bind_ok h2).trans ?_))
  unfold mDctUpd
  simp only [h3, h4]
  rw [if_pos ⟨h5, h6⟩]
theorem at_n (S : Sto) (a : Cell) (r : List Cell) : (S ++ a :: r)[S.length]? = some a := by rw [List.getElem?_append_right (Nat.le_refl _)]; simp
theorem set_n (S : Sto) (a b : Cell) (r : List Cell) : (S ++ a :: r).set S.length b = S ++ b :: r := by
  rw [List.set_append]
  simp
theorem shape_of (T : Tb) [Fn T 477 fd_477] (w : Txt) (k : Nat) (S : Sto) (hk : 0 < k) : callT T k 477 [.str w] S = .ok (.str ((shp w).getD [])) (S ++ [.dct SHD, .dct SA2, .dct SA3]) := by
  obtain ⟨k, rfl⟩ : ∃ j, k = j + 1 := ⟨k - 1, by omega⟩
  have n1 : (S ++ [Cell.dct SA1]).length = S.length + 1 := by simp
  refine runN k [.str w] _ S _ [some (.fz (.str w)), some (.fz (.ref S.length)), some (.fz (.ref (S.length + 1)))] rfl ?_
  show b_477 (T.prm (callT T k)) [some (.fz (.str w)), none, none] S = _
  have h0 : (sAsg (xMkD SA1) (mSet 1)) [some (.fz (.str w)), none, none] S = .ok .nx [some (.fz (.str w)), some (.fz (.ref S.length)), none] (S ++ [.dct SA1]) := rfl
  have h1 : (sAsg (xMkD SA2) (mSet 2)) [some (.fz (.str w)), some (.fz (.ref S.length)), none] (S ++ [.dct SA1]) = .ok .nx [some (.fz (.str w)), some (.fz (.ref S.length)), some (.fz (.ref (S.length + 1)))] (S ++ [.dct SA1, .dct SA2]) := by
    have e : (sAsg (xMkD SA2) (mSet 2)) [some (.fz (.str w)), some (.fz (.ref S.length)), none] (S ++ [.dct SA1]) = .ok .nx [some (.fz (.str w)), some (.fz (.ref S.length)), some (.fz (.ref (S ++ [Cell.dct SA1]).length))] ((S ++ [.dct SA1]) ++ [.dct SA2]) := rfl
    rw [e, n1, List.append_assoc]; rfl
  have h2 : (sEx (xUpdC (mVar 1) (mVar 2))) [some (.fz (.str w)), some (.fz (.ref S.length)), some (.fz (.ref (S.length + 1)))] (S ++ [.dct SA1, .dct SA2]) = .ok .nx [some (.fz (.str w)), some (.fz (.ref S.length)), some (.fz (.ref (S.length + 1)))] (S ++ [.dct SAB, .dct SA2]) := by
    have u := updC_ok (mo := mVar 1) (me := mVar 2) (ρ := [some (.fz (.str w)), some (.fz (.ref S.length)), some (.fz (.ref (S.length + 1)))]) (S := S ++ [.dct SA1, .dct SA2]) (S1 := S ++ [.dct SA1, .dct SA2]) (n := S.length) (j := S.length + 1) rfl (at_n S _ _) rfl (at_n S _ _)
      (by have := at_n (S ++ [.dct SA1]) (.dct SA2) []; rw [n1, List.append_assoc] at this; exact this) (by omega) (by decide)
    rw [set_n] at u
    exact (bind_ok u).trans rfl
  have h3 : (sEx (xUpdC (mVar 1) (xMkD SA3))) [some (.fz (.str w)), some (.fz (.ref S.length)), some (.fz (.ref (S.length + 1)))] (S ++ [.dct SAB, .dct SA2]) = .ok .nx [some (.fz (.str w)), some (.fz (.ref S.length)), some (.fz (.ref (S.length + 1)))] (S ++ [.dct SHD, .dct SA2, .dct SA3]) := by
    have n2 : (S ++ [Cell.dct SAB, .dct SA2]).length = S.length + 2 := by simp
    have u := updC_ok (mo := mVar 1) (me := xMkD SA3) (ρ := [some (.fz (.str w)), some (.fz (.ref S.length)), some (.fz (.ref (S.length + 1)))]) (S := S ++ [.dct SAB, .dct SA2]) (S1 := S ++ [.dct SAB, .dct SA2, .dct SA3]) (n := S.length) (j := S.length + 2) rfl (at_n S _ _)
      (by
        show Res.ok (D.ref (S ++ [Cell.dct SAB, .dct SA2]).length) _ ((S ++ [.dct SAB, .dct SA2]) ++ [.dct SA3]) = _
        rw [n2, List.append_assoc]; rfl)
      (at_n S _ _) (by have := at_n (S ++ [.dct SAB, .dct SA2]) (.dct SA3) []; rw [n2, List.append_assoc] at this; exact this) (by omega) (by decide)
    rw [set_n, sab_shd] at u
    exact (bind_ok u).trans rfl
  have h4 : (sRet (xGetC (mVar 1) (mVar 0) (M.pure (.str [])))) [some (.fz (.str w)), some (.fz (.ref S.length)), some (.fz (.ref (S.length + 1)))] (S ++ [.dct SHD, .dct SA2, .dct SA3]) = .ok (.rt (.str ((shp w).getD []))) [some (.fz (.str w)), some (.fz (.ref S.length)), some (.fz (.ref (S.length + 1)))] (S ++ [.dct SHD, .dct SA2, .dct SA3]) := by
    have hd : mDct (.ref S.length) [some (.fz (.str w)), some (.fz (.ref S.length)), some (.fz (.ref (S.length + 1)))] (S ++ [.dct SHD, .dct SA2, .dct SA3]) = .ok () [some (.fz (.str w)), some (.fz (.ref S.length)), some (.fz (.ref (S.length + 1)))] (S ++ [.dct SHD, .dct SA2, .dct SA3]) := by unfold mDct; simp only [at_n]
    refine bind_ok ?_
    unfold xGetC
    refine (bind_ok (show mVar 1 _ _ = .ok (.ref S.length) _ _ from rfl)).trans ((bind_ok hd).trans ((bind_ok (show mVar 0 _ _ = .ok (.str w) _ _ from rfl)).trans ((bind_ok (show M.pure (D.str []) _ _ = .ok (.str []) _ _ from rfl)).trans ?_)))
    unfold mDctGet
    simp only [at_n, keyOf, dget_SHD]
    cases shp w <;> rfl
  unfold b_477
  refine (bind_ok h0).trans ?_
  refine (bind_ok h1).trans ?_
  refine (bind_ok h2).trans ?_
  refine (bind_ok h3).trans ?_
  exact h4
end Ev
set_option Elab.async false
set_option linter.all false
set_option autoImplicit false
set_option maxRecDepth 100000
set_option maxHeartbeats 4000000
namespace Ev
open PySem
open Form
/-- a pot's cell; all cells are flat -/
def PotF (S : Sto) (n : Nat) : Prop := Pot S n ∧ S.all flatC = true
theorem flat_set {S : Sto} {n : Nat} {x : Cell} (h : S.all flatC = true) (hx : flatC x = true) : (S.set n x).all flatC = true := by
  rw [List.all_eq_true] at h ⊢
  intro y hy
  rcases List.mem_or_eq_of_mem_set hy with hy | rfl
  · exact h y hy
  · exact hx
theorem Gr.potF {S S' : Sto} {n : Nat} {J : List Cell} (e : S' = S ++ J) (hJ : J.all flatC = true) (p : PotF S n) : PotF S' n :=
  ⟨Gr.pot ⟨J, e, hJ⟩ p.1, by rw [e, List.all_append, p.2, hJ]; rfl⟩
theorem Gr.toF {S S' : Sto} {n : Nat} (h : Gr S S') (p : PotF S n) : PotF S' n := by
  obtain ⟨J, e, hJ⟩ := h
  exact Gr.potF e hJ p
theorem digitF (T : Tb) [Fn T 113 fd_113] {S : Sto} {n : Nat} (hF : PotF S n) (m : Nat) (hm : 0 < m) (hm2 : m ≤ 2 ^ 100) (k : Nat) (hk : 0 < k) :
    ∃ (d : Nat) (S' : Sto), callT T k 113 [.ref n, .int m] S = .ok (.int d) S' ∧ d < m ∧ PotF S' n ∧ S'.length = S.length := by
  obtain ⟨⟨a, b, hS, ha⟩, hfl⟩ := hF
  have hn : n < S.length := (List.getElem?_eq_some_iff.mp hS).1
  obtain ⟨k, rfl⟩ : ∃ j, k = j + 1 := ⟨k - 1, by omega⟩
  rw [call_step]
  have hm0 : (0 : Int) < m := by omega
  have hset : ∀ x : Cell, (S.set n x)[n]? = some x := fun x => by rw [List.getElem?_set_self hn]
  by_cases hp : 0 < a
  · refine ⟨(a % m).toNat, S.set n (.lst [.int (a / m), .int b]), ?_, ?_, ⟨pot_set hn (Int.ediv_nonneg ha (by omega)), flat_set hfl rfl⟩, by simp⟩
    · have e : (((a % m).toNat : Nat) : Int) = a % m := Int.toNat_of_nonneg (Int.emod_nonneg _ (by omega))
      have l2 : m.log2 < 9000 := by
        have h1 : m.log2 < 101 := (Nat.log2_lt (by omega)).mpr (Nat.lt_of_le_of_lt hm2 (by decide))
        omega
      have l : (m : Int).natAbs.log2 < 9000 := by
        have : (m : Int).natAbs = m := by simp
        rw [this]
        exact l2
      rw [e]
      simp_all! [b_113, hS, hp, hm0, hm, l, l2, xBi, gPut, mPut, atI, hset]
    · have := Int.emod_lt_of_pos a hm0
      have := Int.emod_nonneg a (show (m : Int) ≠ 0 by omega)
      omega
  · have ha0 : a = 0 := by omega
    subst ha0
    generalize hb : (b * 48271 + 10037) % 2147483587 = b1
    have b1l : 0 ≤ b1 := by rw [← hb]; exact Int.emod_nonneg _ (by decide)
    have b1u : b1 < 2147483587 := by rw [← hb]; exact Int.emod_lt_of_pos _ (by decide)
    refine ⟨(b1 * b1 % 2147483563 / 5 % m).toNat, S.set n (.lst [.int 0, .int b1]), ?_, ?_, ⟨pot_set hn (by decide), flat_set hfl rfl⟩, by simp⟩
    · have e : (((b1 * b1 % 2147483563 / 5 % m).toNat : Nat) : Int) = b1 * b1 % 2147483563 / 5 % m := Int.toNat_of_nonneg (Int.emod_nonneg _ (by omega))
      have q1 : -18446744073709551616 < b1 := by omega
      have q2 : b1 < 18446744073709551616 := by omega
      rw [e]
      simp_all! [b_113, hS, hm0, hm, big64, gPut, mPut, atI, hset, hb, q1, q2]
    · have := Int.emod_lt_of_pos (b1 * b1 % 2147483563 / 5) hm0
      have := Int.emod_nonneg (b1 * b1 % 2147483563 / 5) (show (m : Int) ≠ 0 by omega)
      omega
end Ev
set_option Elab.async false
set_option linter.all false
set_option autoImplicit false
set_option maxRecDepth 100000
set_option maxHeartbeats 4000000
namespace Ev
open PySem
open Form
theorem form_drawnF (T : Tb) [Fn T 113 fd_113] [Fn T 114 fd_114] (h : Nat) : ∀ (S : Sto) (n k : Nat), PotF S n → h + 1 < k → ∃ (f : Form) (S' : Sto), callT T k 114 [.ref n, .int h] S = .ok (enc f) S' ∧ hgt f ≤ h ∧ PotF S' n ∧ S'.length = S.length := by
  have low : ∀ (h : Nat) (S : Sto) (n k : Nat) (d : Nat) (S1 : Sto), callT T k 113 [.ref n, .int 6] S = .ok (.int d) S1 → (h = 0 ∨ (d : Int) < 3) → PotF S1 n → 0 < k →
      ∃ (f : Form) (S' : Sto), runD (T.prm (callT T k)) fd_114 [.ref n, .int h] S = .ok (enc f) S' ∧ hgt f ≤ h ∧ PotF S' n ∧ S'.length = S1.length := by
    intro h S n k d S1 e1 hd p1 hk
    obtain ⟨d2, S2, e2, hd2, p2, l2⟩ := digitF T p1 3 (by omega) (by omega) k hk
    have e2 : callT T k 113 [.ref n, .int 3] S1 = .ok (.int d2) S2 := e2
    have hz : ((h : Int) = 0) ↔ h = 0 := by omega
    by_cases h0 : h = 0
    · subst h0
      rcases three hd2 with rfl | rfl | rfl
      · exact ⟨any, S2, by simp_all! [b_114, e1, e2, atI], by simp [hgt], p2, l2⟩
      · exact ⟨num, S2, by simp_all! [b_114, e1, e2, atI], by simp [hgt], p2, l2⟩
      · exact ⟨text, S2, by simp_all! [b_114, e1, e2, atI], by simp [hgt], p2, l2⟩
    · have h3 : (d : Int) < 3 := by omega
      rcases three hd2 with rfl | rfl | rfl
      · exact ⟨any, S2, by simp_all! [b_114, e1, e2, atI, h0, h3], by simp [hgt], p2, l2⟩
      · exact ⟨num, S2, by simp_all! [b_114, e1, e2, atI, h0, h3], by simp [hgt], p2, l2⟩
      · exact ⟨text, S2, by simp_all! [b_114, e1, e2, atI, h0, h3], by simp [hgt], p2, l2⟩
  induction h with
  | zero =>
    intro S n k hp hk
    obtain ⟨k, rfl⟩ : ∃ j, k = j + 1 := ⟨k - 1, by omega⟩
    rw [call_step]
    obtain ⟨d, S1, e1, hd, p1, l1⟩ := digitF T hp 6 (by omega) (by omega) k (by omega)
    obtain ⟨f, S2, q⟩ := low 0 S n k d S1 e1 (.inl rfl) p1 (by omega)
    exact ⟨f, S2, q.1, q.2.1, q.2.2.1, q.2.2.2.trans l1⟩
  | succ h ih =>
    intro S n k hp hk
    obtain ⟨k, rfl⟩ : ∃ j, k = j + 1 := ⟨k - 1, by omega⟩
    rw [call_step]
    obtain ⟨d, S1, e1, hd, p1, l1⟩ := digitF T hp 6 (by omega) (by omega) k (by omega)
    by_cases h3 : (d : Int) < 3
    · obtain ⟨f, S2, q⟩ := low (h + 1) S n k d S1 e1 (.inr h3) p1 (by omega)
      exact ⟨f, S2, q.1, q.2.1, q.2.2.1, q.2.2.2.trans l1⟩
    · have e1 : callT T k 113 [.ref n, .int 6] S = .ok (.int d) S1 := e1
      have hz : ¬ ((h : Int) + 1 = 0) := by omega
      have hh : (h : Int) + 1 - 1 = h := by omega
      by_cases h5 : (d : Int) < 5
      · obtain ⟨f, S2, e2, hf, p2, l2⟩ := ih S1 n k p1 (by omega)
        obtain ⟨g, S3, e3, hg, p3, l3⟩ := ih S2 n k p2 (by omega)
        exact ⟨deed f g, S3, by simp_all! [b_114, e1, e2, e3, hz, hh, h3, h5], by simp only [hgt]; omega, p3, l3.trans (l2.trans l1)⟩
      · obtain ⟨f, S2, e2, hf, p2, l2⟩ := ih S1 n k p1 (by omega)
        exact ⟨box f, S2, by simp_all! [b_114, e1, e2, hz, hh, h3, h5], by simp only [hgt]; omega, p2, l2.trans l1⟩
end Ev
set_option Elab.async false
set_option linter.all false
set_option autoImplicit false
set_option maxRecDepth 100000
set_option maxHeartbeats 4000000
namespace Ev
open PySem
def wp {α : Type} (r : Res α) (Q : α → Env → Sto → Prop) (E : Exn → Env → Sto → Prop) : Prop := match r with
  | .ok a ρ S => Q a ρ S
  | .exc x ρ S => E x ρ S
  | .bad => False
def noE : Exn → Env → Sto → Prop := fun _ _ _ => False
theorem wp_ok {α : Type} (a : α) (ρ : Env) (S : Sto) (Q : α → Env → Sto → Prop) (E : Exn → Env → Sto → Prop) : wp (.ok a ρ S) Q E = Q a ρ S := rfl
theorem wp_of {α : Type} {r : Res α} {a : α} {ρ : Env} {S : Sto} {Q : α → Env → Sto → Prop} {E : Exn → Env → Sto → Prop} (e : r = .ok a ρ S) (h : Q a ρ S) : wp r Q E := by rw [e]; exact h
theorem wp_to {α : Type} {r : Res α} {Q : α → Env → Sto → Prop} (h : wp r Q noE) : ∃ a ρ S, r = .ok a ρ S ∧ Q a ρ S := by
  cases r with
  | ok a ρ S => exact ⟨a, ρ, S, rfl, h⟩
  | exc x ρ S => exact h.elim
  | bad => exact h.elim
theorem wp_imp {α : Type} {r : Res α} {Q Q' : α → Env → Sto → Prop} {E E' : Exn → Env → Sto → Prop} (h : wp r Q E) (f : ∀ a ρ S, Q a ρ S → Q' a ρ S) (g : ∀ x ρ S, E x ρ S → E' x ρ S) : wp r Q' E' := by
  cases r with
  | ok a ρ S => exact f _ _ _ h
  | exc x ρ S => exact g _ _ _ h
  | bad => exact h.elim
/-- what is done behind -/
def kb {α β : Type} (f : α → M β) (Q : β → Env → Sto → Prop) (E : Exn → Env → Sto → Prop) : α → Env → Sto → Prop := fun a ρ S => wp (f a ρ S) Q E
theorem wp_bind {α β : Type} {m : M α} {f : α → M β} {ρ : Env} {S : Sto} {Q : β → Env → Sto → Prop} {E : Exn → Env → Sto → Prop} (h : wp (m ρ S) (kb f Q E) E) : wp (M.bind m f ρ S) Q E := by
  unfold M.bind Res.bind
  cases e : m ρ S with
  | ok a ρ S => rw [e] at h; exact h
  | exc x ρ S => rw [e] at h; exact h
  | bad => rw [e] at h; exact h
theorem kb_i {α β : Type} {f : α → M β} {a : α} {ρ : Env} {S : Sto} {Q : β → Env → Sto → Prop} {E : Exn → Env → Sto → Prop} (h : wp (f a ρ S) Q E) : kb f Q E a ρ S := h
theorem wp_shut {α : Type} {r : Res α} {Q : α → Env → Sto → Prop} {E : Exn → Env → Sto → Prop} (h : ∀ K : α → Env → Sto → Prop, K = Q → wp r K E) : wp r Q E := h _ rfl
def ks (b : M Flow) (Q : Flow → Env → Sto → Prop) (E : Exn → Env → Sto → Prop) : Flow → Env → Sto → Prop := fun f ρ S => match f with
  | .nx => wp (b ρ S) Q E
  | f => Q f ρ S
theorem wp_seq {a b : M Flow} {ρ : Env} {S : Sto} {Q : Flow → Env → Sto → Prop} {E : Exn → Env → Sto → Prop} (h : wp (a ρ S) (ks b Q E) E) : wp (sSeq a b ρ S) Q E := by
  refine wp_bind (wp_imp h (fun f ρ S h => ?_) fun _ _ _ h => h)
  cases f <;> exact h
theorem wp_seq_i {a b : M Flow} {ρ : Env} {S : Sto} {Q : Flow → Env → Sto → Prop} {E : Exn → Env → Sto → Prop} (h : ∀ K : Flow → Env → Sto → Prop, K = ks b Q E → wp (a ρ S) K E) : wp (sSeq a b ρ S) Q E := wp_seq (h _ rfl)
theorem ks_nx {b : M Flow} {ρ : Env} {S : Sto} {Q : Flow → Env → Sto → Prop} {E : Exn → Env → Sto → Prop} (h : wp (b ρ S) Q E) : ks b Q E .nx ρ S := h
/-- a call's end -/
def retK (P : D → Sto → Prop) : Flow → Env → Sto → Prop := fun f _ S => match f with
  | .nx => P .non S
  | .rt d => P d S
  | _ => False
theorem retK_rt (P : D → Sto → Prop) (d : D) (ρ : Env) (S : Sto) : retK P (.rt d) ρ S = P d S := rfl
theorem runW {T : Tb} {n : Nat} {fd : FD} [Fn T n fd] {k : Nat} {ds : List D} {S : Sto} {P : D → Sto → Prop} (hnp : ds.length = fd.np) (h : wp (fd.body (T.prm (callT T k)) ((ds.map fun d => some (.fz d)) ++ List.replicate (fd.ns - ds.length) none) S) (retK P) noE) : ∃ v S', callT T (k + 1) n ds S = .ok v S' ∧ P v S' := by
  rw [call_step]
  unfold runD
  rw [if_pos hnp]
  obtain ⟨f, ρ', S', e, q⟩ := wp_to h
  rw [e]
  cases f with
  | nx => exact ⟨_, _, rfl, q⟩
  | rt d => exact ⟨_, _, rfl, q⟩
  | _ => exact q.elim
def kl (I : List D → Env → Sto → Prop) (r : List D) (Q : Flow → Env → Sto → Prop) : Flow → Env → Sto → Prop := fun f ρ S => match f with
  | .nx => I r ρ S
  | .ct => I r ρ S
  | .br => Q .nx ρ S
  | f => Q f ρ S
theorem wp_loop {f : D → M Unit} {body : M Flow} {Q : Flow → Env → Sto → Prop} {E : Exn → Env → Sto → Prop} (I : List D → Env → Sto → Prop) (hs : ∀ d r ρ S, I (d :: r) ρ S → wp (M.bind (f d) (fun _ => body) ρ S) (kl I r Q) E) (he : ∀ ρ S, I [] ρ S → Q .nx ρ S) : ∀ (ds : List D) (ρ : Env) (S : Sto), I ds ρ S → wp (loopM f body ds ρ S) Q E
  | [], ρ, S, h => he ρ S h
  | d :: r, ρ, S, h => by
    have q : loopM f body (d :: r) = M.bind (M.bind (f d) fun _ => body) fun f' => match f' with
      | .nx => loopM f body r
      | .ct => loopM f body r
      | .br => M.pure .nx
      | f => M.pure f := (M.assoc _ _ _).symm
    rw [q]
    refine wp_bind (wp_imp (hs d r ρ S h) (fun f' ρ S h => ?_) fun _ _ _ h => h)
    cases f' with
    | nx => exact wp_loop I hs he r ρ S h
    | ct => exact wp_loop I hs he r ρ S h
    | _ => exact h
theorem wp_for {mi : M (List D)} {f : D → M Unit} {b : M Flow} {ρ : Env} {S : Sto} {Q : Flow → Env → Sto → Prop} {E : Exn → Env → Sto → Prop} (h : wp (mi ρ S) (fun ds ρ S => wp (loopM f b ds ρ S) Q E) E) : wp (sFor mi f b ρ S) Q E := wp_bind h
theorem wp_fcomp {mi : M (List D)} {own : List Nat} {f : D → M Unit} {t : M Bool} {e : M D} {ρ : Env} {S : Sto} {Q : List D → Env → Sto → Prop} {E : Exn → Env → Sto → Prop} (h : wp (mi ρ S) (fun ds ρ S => wp (cmpR own f t e [] ds (wipeE ρ own) S) Q noE) E) : wp (fComp mi own f t e ρ S) Q E := by
  refine wp_bind (wp_imp h (fun ds ρ S h => ?_) fun _ _ _ h => h)
  obtain ⟨a, ρ', S', e, q⟩ := wp_to h
  show wp (Res.noX (cmpR own f t _ [] ds (wipeE ρ own) S)) Q E
  rw [e]
  exact q
/-- each thing of a list gives one -/
theorem wp_comp {own : List Nat} {f : D → M Unit} {e : M D} {ρ : Env} {S : Sto} {ds : List D} {Q : List D → Env → Sto → Prop} {E : Exn → Env → Sto → Prop} (J : Sto → Prop) (R : D → D → Prop) (hJ : J S) (hl : ds.length ≤ SZ)
    (hs : ∀ d ∈ ds, ∀ S, J S → wp ((M.bind (f d) fun _ => M.bind e fun v => M.bind (mWipe own) fun _ => M.pure v) ρ S) (fun v ρ' S' => ρ' = ρ ∧ R d v ∧ J S') noE) (he : ∀ vs S, F2 R ds vs → J S → Q vs ρ S) : wp (cmpR own f (M.pure true) e [] ds ρ S) Q E := by
  obtain ⟨vs, S', q, hJ', e'⟩ := comp_inv (own := own) (f := f) (e := e) (ρ := ρ) J R ds [] (fun d hd S h => by
    obtain ⟨v, ρ', S', e, hρ, r, j⟩ := wp_to (hs d hd S h)
    subst hρ
    exact ⟨v, S', r, j, e⟩) (by simpa using hl) S hJ
  rw [e', List.nil_append]
  exact he vs S' q hJ'
/-- some are kept -/
theorem wp_filt {own : List Nat} {f : D → M Unit} {t : M Bool} {e : M D} {ρ : Env} {Q : List D → Env → Sto → Prop} {E : Exn → Env → Sto → Prop} (I : List D → List D → Sto → Prop)
    (hs : ∀ acc d r S, I acc (d :: r) S → wp ((M.bind (f d) fun _ => M.bind t fun k => if k then M.bind e fun v => M.bind (mWipe own) fun _ => M.pure (some v) else M.bind (mWipe own) fun _ => M.pure none) ρ S) (fun o ρ' S' => ρ' = ρ ∧ I (acc ++ o.toList) r S') noE) (he : ∀ acc S, I acc [] S → Q acc ρ S) :
    ∀ (ds acc : List D) (S : Sto), I acc ds S → acc.length + ds.length ≤ SZ → wp (cmpR own f t e acc ds ρ S) Q E
  | [], acc, S, h, _ => he acc S h
  | d :: r, acc, S, h, hl => by
    obtain ⟨o, ρ', S', e1, hρ, h1⟩ := wp_to (hs acc d r S h)
    subst hρ
    simp only [List.length_cons] at hl
    have ih := wp_filt (Q := Q) (E := E) I hs he r (acc ++ o.toList) S' h1 (by cases o <;> simp <;> omega)
    unfold cmpR
    simp only [mb, Res.bind] at e1 ⊢
    cases h1 : f d ρ' S with
    | bad => simp only [h1] at e1; cases e1
    | exc _ _ _ => simp only [h1] at e1; cases e1
    | ok u ρ1 S1 =>
      simp only [h1] at e1 ⊢
      cases h2 : t ρ1 S1 with
      | bad => simp only [h2] at e1; cases e1
      | exc _ _ _ => simp only [h2] at e1; cases e1
      | ok b ρ2 S2 =>
        simp only [h2] at e1 ⊢
        cases b with
        | true =>
          simp only [if_true, mb, Res.bind] at e1 ⊢
          cases h3 : e ρ2 S2 with
          | bad => simp only [h3] at e1; cases e1
          | exc _ _ _ => simp only [h3] at e1; cases e1
          | ok v ρ3 S3 =>
            simp only [h3] at e1 ⊢
            cases h4 : mWipe own ρ3 S3 with
            | bad => simp only [h4] at e1; cases e1
            | exc _ _ _ => simp only [h4] at e1; cases e1
            | ok u ρ4 S4 =>
              simp only [h4] at e1 ⊢
              have e1 : Res.ok (some v) ρ4 S4 = Res.ok o ρ' S' := e1
              cases e1
              rw [if_pos (show acc.length < SZ by omega)]
              exact ih
        | false =>
          simp only [Bool.false_eq_true, if_false, mb, Res.bind] at e1 ⊢
          cases h4 : mWipe own ρ2 S2 with
          | bad => simp only [h4] at e1; cases e1
          | exc _ _ _ => simp only [h4] at e1; cases e1
          | ok u ρ4 S4 =>
            simp only [h4] at e1 ⊢
            have e1 : Res.ok (none : Option D) ρ4 S4 = Res.ok o ρ' S' := e1
            cases e1
            simpa using ih
theorem F2.imp {α β : Type} {Q R : α → β → Prop} (f : ∀ a b, Q a b → R a b) : ∀ {as : List α} {bs : List β}, F2 Q as bs → F2 R as bs
  | _, _, .nil => .nil
  | _, _, .cons h t => .cons (f _ _ h) (t.imp f)
theorem F2.eqmap {α β : Type} (g : α → β) : ∀ {as : List α} {bs : List β}, F2 (fun a b => b = g a) as bs → bs = as.map g
  | _, _, .nil => rfl
  | _, _, .cons h t => by rw [h, t.eqmap]; rfl
end Ev
set_option Elab.async false
set_option linter.all false
set_option autoImplicit false
set_option maxRecDepth 100000
set_option maxHeartbeats 4000000
namespace Ev
open PySem
set_option maxHeartbeats 4000000
open Form
theorem number (T : Tb) [Fn T 113 fd_113] [Fn T 270 fd_270] (S : Sto) (n k : Nat) (hp : PotF S n) (hk : 1 < k) : ∃ (i : Int) (S' : Sto), callT T k 270 [.ref n] S = .ok (.int i) S' ∧ -10000000000000000000000000000000 < i ∧ i < 10000000000000000000000000000000 ∧ PotF S' n := by
  obtain ⟨k, rfl⟩ : ∃ j, k = j + 1 := ⟨k - 1, by omega⟩
  obtain ⟨d1, S1, e1, h1, p1, l1⟩ := digitF T hp 40 (by omega) (by omega) k (by omega)
  have e1 : callT T k 113 [.ref n, .int 40] S = .ok (.int d1) S1 := e1
  obtain ⟨d2, S2, e2, h2, p2, l2⟩ := digitF T p1 6 (by omega) (by omega) k (by omega)
  have e2 : callT T k 113 [.ref n, .int 6] S1 = .ok (.int d2) S2 := e2
  have hpw : bop .pow (.int 10) (.int 30) = some (.int 1000000000000000000000000000000) := by kernel_rfl
  have hi : ∃ i : Int, [D.int 0, D.int 1, D.int (-1), D.int ((d1 : Int) - 20), D.int 999999999999999999999999999999, D.int (-999999999999999999999999999999)][d2]? = some (.int i) ∧ -10000000000000000000000000000000 < i ∧ i < 10000000000000000000000000000000 := by
    rcases (show d2 = 0 ∨ d2 = 1 ∨ d2 = 2 ∨ d2 = 3 ∨ d2 = 4 ∨ d2 = 5 by omega) with rfl | rfl | rfl | rfl | rfl | rfl
    · exact ⟨_, rfl, by omega, by omega⟩
    · exact ⟨_, rfl, by omega, by omega⟩
    · exact ⟨_, rfl, by omega, by omega⟩
    · exact ⟨_, rfl, by omega, by omega⟩
    · exact ⟨_, rfl, by omega, by omega⟩
    · exact ⟨_, rfl, by omega, by omega⟩
  obtain ⟨i, hi, i1, i2⟩ := hi
  refine ⟨i, S2, ?_, i1, i2, p2⟩
  rw [call_step]
  simp! [b_270, e1, e2, hpw, hi]
theorem names_txt : ∀ (ds vs : List D), F2 (fun _ v => ∃ c, c ∈ letters ∧ v = D.str [c]) ds vs → ∃ (m : Txt) (bs : List Txt), m.length = ds.length ∧ (∀ c ∈ m, c ∈ letters) ∧ txtsOf vs = some bs ∧ joinT [] bs = m ∧ joinLen 0 bs = ds.length
  | _, _, .nil => ⟨[], [], rfl, by simp, rfl, rfl, rfl⟩
  | _, _, @F2.cons _ _ _ d _ ds vs h t => by
    obtain ⟨c, hc, rfl⟩ := h
    obtain ⟨m, bs, hl, hm, e, ej, el⟩ := names_txt ds vs t
    refine ⟨c :: m, [c] :: bs, by simp [hl], fun x hx => ?_, by simp only [txtsOf, e]; rfl, ?_, by simp [joinLen, el]; omega⟩
    · rcases List.mem_cons.mp hx with rfl | hx
      · exact hc
      · exact hm x hx
    · cases bs with
      | nil => simp only [joinT] at ej; subst ej; rfl
      | cons b bs => rw [show joinT [] ([c] :: b :: bs) = [c] ++ [] ++ joinT [] (b :: bs) from rfl, ej]; rfl
theorem let_at (d : Nat) (hd : d < 26) : ∃ c, c ∈ letters ∧ letters[d]? = some c := by
  have hl : d < letters.length := hd
  refine ⟨letters[d], List.getElem_mem _, ?_⟩
  exact List.getElem?_eq_getElem hl
theorem let_comp (T : Tb) [Fn T 113 fd_113] (n : Nat) (j : Nat) (hj : j ≤ 14) (k : Nat) (hk : 0 < k) (S : Sto) (hp : PotF S n) :
    ∃ (m : Txt) (S' : Sto), (mJoinT (M.pure (.str [])) (aCons (xFz (fComp (mRng1 (aCons (mVar 1) aNil)) [2] (mSet 2) (M.pure true) (xIdx (M.pure (.str letters)) (xCall (T.prm (callT T k)) 113 2 (aCons (mVar 0) (aCons (M.pure (.int 26)) aNil)))))) aNil)) [some (.fz (.ref n)), some (.fz (.int j)), none] S = .ok (.str m) [some (.fz (.ref n)), some (.fz (.int j)), none] S' ∧ m.length = j ∧ (∀ c ∈ m, c ∈ letters) ∧ PotF S' n ∧ S'.length = S.length := by
  obtain ⟨vs, S', q, ⟨hp', hl'⟩, e1⟩ := comp_inv (own := [2]) (f := mSet 2) (e := xIdx (M.pure (.str letters)) (xCall (T.prm (callT T k)) 113 2 (aCons (mVar 0) (aCons (M.pure (.int 26)) aNil)))) (ρ := [some (.fz (.ref n)), some (.fz (.int j)), none]) (fun S' => PotF S' n ∧ S'.length = S.length) (fun _ v => ∃ c, c ∈ letters ∧ v = D.str [c]) (rngD 0 j) [] (fun d hd S1 ⟨h1, hl⟩ => by
    obtain ⟨d2, S2, e2, hd2, p2, l2⟩ := digitF T h1 26 (by omega) (by omega) k hk
    have e2 : callT T k 113 [.ref n, .int 26] S1 = .ok (.int d2) S2 := e2
    obtain ⟨c, hc, ha⟩ := let_at d2 hd2
    refine ⟨.str [c], S2, ⟨c, hc, rfl⟩, ⟨p2, by omega⟩, ?_⟩
    have hlen : letters.length ≤ 16777216 := by decide
    generalize letters = ms at *
    simp! [e2, ha, hlen]) (by rw [rngD_len]; simp [SZ]; omega) S ⟨hp, rfl⟩
  obtain ⟨m, bs, hm, hs, eb, ej, el⟩ := names_txt _ _ q
  rw [rngD_len] at hm el
  refine ⟨m, S', ?_, hm, hs, hp', hl'⟩
  have er := rng1_at (aCons (mVar 1) aNil) [some (.fz (.ref n)), some (.fz (.int j)), none] S j (by omega) rfl
  have ew : mWipe [2] [some (.fz (.ref n)), some (.fz (.int j)), none] S = .ok () [some (.fz (.ref n)), some (.fz (.int j)), none] S := rfl
  simp only [List.nil_append] at e1
  have hmt : mtp .join (.str []) [.lst vs] = some (.str m) := by
    simp only [mtp, eb, Option.bind_some, List.length_nil, el, ej, SZ]
    rw [if_pos (by omega)]
  generalize letters = ms at *
  generalize xIdx (M.pure (.str ms)) (xCall (T.prm (callT T k)) 113 2 (aCons (mVar 0) (aCons (M.pure (.int 26)) aNil))) = eE at *
  generalize mRng1 (aCons (mVar 1) aNil) = mr at *
  generalize hρ : [some (SV.fz (.ref n)), some (SV.fz (.int j)), none] = ρ at *
  have ec : fComp mr [2] (mSet 2) (M.pure true) eE ρ S = .ok vs ρ S' := by
    refine (bind_ok er).trans ?_
    show Res.noX (M.bind (mWipe [2]) (fun _ => cmpR [2] (mSet 2) (M.pure true) eE [] (rngD 0 j)) ρ S) = _
    rw [bind_ok ew, e1]
    rfl
  generalize fComp mr [2] (mSet 2) (M.pure true) eE = fc at *
  clear er ew e1 q
  have ex : xFz fc ρ S = .ok (.lst vs) ρ S' := bind_ok ec
  have ea : aCons (xFz fc) aNil ρ S = .ok [.lst vs] ρ S' := (bind_ok ex).trans (bind_ok (show aNil ρ S' = .ok [] ρ S' from rfl))
  generalize aCons (xFz fc) aNil = args at *
  generalize hd : D.lst vs = dl at *
  have h0 : (M.pure (D.str [])) ρ S = .ok (.str []) ρ S := rfl
  unfold mJoinT mMt
  refine (bind_ok h0).trans ?_
  rw [if_pos (show tyIs .str (.str []) = true from rfl), bind_ok ea, hmt]
  rfl
theorem letters_drawn (T : Tb) [Fn T 113 fd_113] [Fn T 271 fd_271] (S : Sto) (n k : Nat) (hp : PotF S n) (hk : 1 < k) : ∃ (m : Txt) (S' : Sto), callT T k 271 [.ref n] S = .ok (.str m) S' ∧ wordB 0 m = true ∧ PotF S' n := by
  obtain ⟨k, rfl⟩ : ∃ j, k = j + 1 := ⟨k - 1, by omega⟩
  obtain ⟨d1, S1, e1, h1, p1, l1⟩ := digitF T hp 4 (by omega) (by omega) k (by omega)
  have e1 : callT T k 113 [.ref n, .int 4] S = .ok (.int d1) S1 := e1
  have hj : ∃ j : Nat, j ≤ 8 ∧ [D.int 0, D.int 1, D.int 3, D.int 8][d1]? = some (.int j) := by
    rcases (show d1 = 0 ∨ d1 = 1 ∨ d1 = 2 ∨ d1 = 3 by omega) with rfl | rfl | rfl | rfl
    · exact ⟨0, by omega, rfl⟩
    · exact ⟨1, by omega, rfl⟩
    · exact ⟨3, by omega, rfl⟩
    · exact ⟨8, by omega, rfl⟩
  obtain ⟨j, hj2, hj⟩ := hj
  obtain ⟨m, S3, e3, hl, hs, p3, l3⟩ := let_comp T n j (by omega) k (by omega) S1 p1
  refine ⟨m, S3, ?_, ?_, p3⟩
  · refine runN k [.ref n] _ S S3 [some (.fz (.ref n)), some (.fz (.int j)), none] rfl ?_
    show b_271 (T.prm (callT T k)) [some (.fz (.ref n)), none, none] S = _
    unfold b_271
    refine (bind_ok (show (sAsg (xIdx (xFz (fLst (aCons (M.pure (.int 0)) (aCons (M.pure (.int 1)) (aCons (M.pure (.int 3)) (aCons (M.pure (.int 8)) aNil)))))) (xCall (T.prm (callT T k)) 113 2 (aCons (mVar 0) (aCons (M.pure (.int 4)) aNil)))) (mSet 1)) _ S = .ok .nx [some (.fz (.ref n)), some (.fz (.int j)), none] S1 by simp! [e1, hj])).trans ?_
    exact bind_ok e3
  · unfold wordB
    simp only [Bool.and_eq_true, decide_eq_true_eq, List.all_eq_true]
    exact ⟨⟨by omega, by omega⟩, fun c hc => hs c hc⟩
theorem sub_len {α : Type} [DecidableEq α] : ∀ (l u : List α), l.Nodup → (∀ x ∈ l, x ∈ u) → l.length ≤ u.length
  | [], _, _, _ => Nat.zero_le _
  | x :: l, u, nd, h => by
    rw [List.nodup_cons] at nd
    have hx := h x List.mem_cons_self
    have := sub_len l (u.erase x) nd.2 fun y hy => (List.mem_erase_of_ne (fun e => nd.1 (by rw [← e]; exact hy))).mpr (h y (List.mem_cons_of_mem _ hy))
    rw [List.length_erase_of_mem hx] at this
    have := List.length_pos_of_mem hx
    simp only [List.length_cons]
    omega
def some80 : List Txt := (List.range 80).map fun k => [97 + k / 26, 97 + k % 26, 113]
theorem some80_ok : (some80.all fun w => okName w) = true := by decide +kernel
theorem some80_free (us : List Txt) (h : us.length ≤ 70) : ∃ w r, (some80.filter fun x => !us.contains x) = w :: r ∧ okName w = true := by
  cases e : some80.filter fun x => !us.contains x with
  | nil =>
    exfalso
    have q : ∀ x ∈ some80, x ∈ us := fun x hx => by
      by_cases hu : x ∈ us
      · exact hu
      · have : x ∈ some80.filter fun x => !us.contains x := List.mem_filter.mpr ⟨hx, by simpa using hu⟩
        rw [e] at this; cases this
    have nd : some80.Nodup := by decide +kernel
    have := sub_len some80 us nd q
    have hl : some80.length = 80 := by decide +kernel
    omega
  | cons w r =>
    refine ⟨w, r, rfl, ?_⟩
    have hm : w ∈ some80.filter fun x => !us.contains x := by rw [e]; exact List.mem_cons_self
    exact List.all_eq_true.mp some80_ok w (List.mem_filter.mp hm).1
theorem comp_filter {own : List Nat} {f : D → M Unit} {t : M Bool} {e : M D} {ρ : Env} {S : Sto} (p : D → Bool) : ∀ (ds acc : List D), (∀ d ∈ ds, (M.bind (f d) fun _ => M.bind t fun k => if k then M.bind e fun v => M.bind (mWipe own) fun _ => M.pure (some v) else M.bind (mWipe own) fun _ => M.pure none) ρ S = .ok (if p d = true then some d else none) ρ S) → acc.length + ds.length ≤ SZ →
    cmpR own f t e acc ds ρ S = .ok (acc ++ ds.filter p) ρ S
  | [], acc, _, _ => by simp [cmpR, M.pure]
  | d :: r, acc, h, hl => by
    have hd := h d List.mem_cons_self
    have ih := fun acc' hl' => comp_filter p r acc' (fun x hx => h x (List.mem_cons_of_mem _ hx)) hl'
    simp only [List.length_cons] at hl
    unfold cmpR
    simp only [mb, Res.bind] at hd ⊢
    cases h1 : f d ρ S with
    | bad => simp only [h1] at hd; cases hd
    | exc _ _ _ => simp only [h1] at hd; cases hd
    | ok u ρ1 S1 =>
      simp only [h1] at hd ⊢
      cases h2 : t ρ1 S1 with
      | bad => simp only [h2] at hd; cases hd
      | exc _ _ _ => simp only [h2] at hd; cases hd
      | ok b ρ2 S2 =>
        simp only [h2] at hd ⊢
        cases b with
        | true =>
          simp only [if_true, mb, Res.bind] at hd ⊢
          cases h3 : e ρ2 S2 with
          | bad => simp only [h3] at hd; cases hd
          | exc _ _ _ => simp only [h3] at hd; cases hd
          | ok v ρ3 S3 =>
            simp only [h3] at hd ⊢
            cases h4 : mWipe own ρ3 S3 with
            | bad => simp only [h4] at hd; cases hd
            | exc _ _ _ => simp only [h4] at hd; cases hd
            | ok u ρ4 S4 =>
              simp only [h4] at hd ⊢
              have hd : Res.ok (some v) ρ4 S4 = Res.ok (if p d = true then some d else none) ρ S := hd
              by_cases q : p d = true
              · rw [if_pos q] at hd
                cases hd
                rw [if_pos (show acc.length < SZ by omega), ih (acc ++ [d]) (by simp; omega), List.filter_cons, if_pos q]
                simp
              · rw [if_neg q] at hd; cases hd
        | false =>
          simp only [Bool.false_eq_true, if_false, mb, Res.bind] at hd ⊢
          cases h4 : mWipe own ρ2 S2 with
          | bad => simp only [h4] at hd; cases hd
          | exc _ _ _ => simp only [h4] at hd; cases hd
          | ok u ρ4 S4 =>
            simp only [h4] at hd ⊢
            have hd : Res.ok (none : Option D) ρ4 S4 = Res.ok (if p d = true then some d else none) ρ S := hd
            by_cases q : p d = true
            · rw [if_pos q] at hd; cases hd
            · rw [if_neg q] at hd
              cases hd
              rw [ih acc (by omega), List.filter_cons, if_neg q]
theorem name_comp (T : Tb) [Fn T 113 fd_113] (ul : List D) (n : Nat) (j : Nat) (hj : j ≤ 14) (k : Nat) (hk : 0 < k) (S : Sto) (hp : PotF S n) :
    ∃ (m : Txt) (S' : Sto), (mJoinT (M.pure (.str [])) (aCons (xFz (fComp (mRng1 (aCons (mVar 3) aNil)) [7] (mSet 7) (M.pure true) (xIdx (mVar 2) (xCall (T.prm (callT T k)) 113 2 (aCons (mVar 0) (aCons (M.pure (.int 26)) aNil)))))) aNil)) [some (.fz (.ref n)), some (.fz (.lst ul)), some (.fz (.str letters)), some (.fz (.int j)), none, none, none, none, none] S = .ok (.str m) [some (.fz (.ref n)), some (.fz (.lst ul)), some (.fz (.str letters)), some (.fz (.int j)), none, none, none, none, none] S' ∧ m.length = j ∧ (∀ c ∈ m, c ∈ letters) ∧ PotF S' n ∧ S'.length = S.length := by
  obtain ⟨vs, S', q, ⟨hp', hl'⟩, e1⟩ := comp_inv (own := [7]) (f := mSet 7) (e := xIdx (mVar 2) (xCall (T.prm (callT T k)) 113 2 (aCons (mVar 0) (aCons (M.pure (.int 26)) aNil)))) (ρ := [some (.fz (.ref n)), some (.fz (.lst ul)), some (.fz (.str letters)), some (.fz (.int j)), none, none, none, none, none]) (fun S' => PotF S' n ∧ S'.length = S.length) (fun _ v => ∃ c, c ∈ letters ∧ v = D.str [c]) (rngD 0 j) [] (fun d hd S1 ⟨h1, hl⟩ => by
    obtain ⟨d2, S2, e2, hd2, p2, l2⟩ := digitF T h1 26 (by omega) (by omega) k hk
    have e2 : callT T k 113 [.ref n, .int 26] S1 = .ok (.int d2) S2 := e2
    obtain ⟨c, hc, ha⟩ := let_at d2 hd2
    refine ⟨.str [c], S2, ⟨c, hc, rfl⟩, ⟨p2, by omega⟩, ?_⟩
    have hlen : letters.length ≤ 16777216 := by decide
    generalize letters = ms at *
    simp! [e2, ha, hlen]) (by rw [rngD_len]; simp [SZ]; omega) S ⟨hp, rfl⟩
  obtain ⟨m, bs, hm, hs, eb, ej, el⟩ := names_txt _ _ q
  rw [rngD_len] at hm el
  refine ⟨m, S', ?_, hm, hs, hp', hl'⟩
  have er := rng1_at (aCons (mVar 3) aNil) [some (.fz (.ref n)), some (.fz (.lst ul)), some (.fz (.str letters)), some (.fz (.int j)), none, none, none, none, none] S j (by omega) rfl
  have ew : mWipe [7] [some (.fz (.ref n)), some (.fz (.lst ul)), some (.fz (.str letters)), some (.fz (.int j)), none, none, none, none, none] S = .ok () [some (.fz (.ref n)), some (.fz (.lst ul)), some (.fz (.str letters)), some (.fz (.int j)), none, none, none, none, none] S := rfl
  simp only [List.nil_append] at e1
  have hmt : mtp .join (.str []) [.lst vs] = some (.str m) := by
    simp only [mtp, eb, Option.bind_some, List.length_nil, el, ej, SZ]
    rw [if_pos (by omega)]
  generalize letters = ms at *
  generalize xIdx (mVar 2) (xCall (T.prm (callT T k)) 113 2 (aCons (mVar 0) (aCons (M.pure (.int 26)) aNil))) = eE at *
  generalize mRng1 (aCons (mVar 3) aNil) = mr at *
  generalize hρ : [some (SV.fz (.ref n)), some (SV.fz (.lst ul)), some (SV.fz (.str ms)), some (SV.fz (.int j)), none, none, none, none, none] = ρ at *
  have ec : fComp mr [7] (mSet 7) (M.pure true) eE ρ S = .ok vs ρ S' := by
    refine (bind_ok er).trans ?_
    show Res.noX (M.bind (mWipe [7]) (fun _ => cmpR [7] (mSet 7) (M.pure true) eE [] (rngD 0 j)) ρ S) = _
    rw [bind_ok ew, e1]
    rfl
  generalize fComp mr [7] (mSet 7) (M.pure true) eE = fc at *
  clear er ew e1 q
  have ex : xFz fc ρ S = .ok (.lst vs) ρ S' := bind_ok ec
  have ea : aCons (xFz fc) aNil ρ S = .ok [.lst vs] ρ S' := (bind_ok ex).trans (bind_ok (show aNil ρ S' = .ok [] ρ S' from rfl))
  generalize aCons (xFz fc) aNil = args at *
  generalize hd : D.lst vs = dl at *
  have h0 : (M.pure (D.str [])) ρ S = .ok (.str []) ρ S := rfl
  unfold mJoinT mMt
  refine (bind_ok h0).trans ?_
  rw [if_pos (show tyIs .str (.str []) = true from rfl), bind_ok ea, hmt]
  rfl
theorem near_run (T : Tb) [Fn T 113 fd_113] [Fn T 193 fd_193] (n k j d2 d3 : Nat) (w near ls : Txt) (ul : List D) (L : Nat) (S S1 S2 S3 : Sto) (e1 : callT T k 113 [.ref n, .int 5] S = .ok (.int 0) S1) (hL : ul.length = L) (hL2 : L ≤ 1000) (hne : eqo (.lst ul) (.lst []) = some false) (e2 : callT T k 113 [.ref n, .int L] S1 = .ok (.int d2) S2) (hat : ul[d2]? = some (.str near)) (hn : near.length ≤ 1000) (hw : w.length ≤ 1000)
    (e3 : callT T k 113 [.ref n, .int near.length] S2 = .ok (.int d3) S3) : (sIf (mT (mAnd (xCmp .ne (mBor 1) (M.pure (.lst []))) (xCmp .eq (xCall (T.prm (callT T k)) 113 2 (aCons (mVar 0) (aCons (M.pure (.int 5)) aNil))) (M.pure (.int 0))))) (sSeq (sAsg (xIdx (mVar 1) (xCall (T.prm (callT T k)) 113 2 (aCons (mVar 0) (aCons (xLen (mBor 1)) aNil)))) (mSet 5)) (sAsg (xBin .add (mSlc (mVar 5) (M.pure none) (mPart (xCall (T.prm (callT T k)) 113 2 (aCons (mVar 0) (aCons (xLen (mBor 5)) aNil))))) (mSlc (mBor 4) (M.pure none) (mPart (M.pure (.int 1))))) (mSet 4))) sNx) [some (.fz (.ref n)), some (.fz (.lst ul)), some (.fz (.str ls)), some (.fz (.int j)), some (.fz (.str w)), none, none, none, none] S = .ok .nx [some (.fz (.ref n)), some (.fz (.lst ul)), some (.fz (.str ls)), some (.fz (.int j)), some (.fz (.str (cut near none (some (d3 : Int)) ++ cut w none (some 1)))), some (.fz (.str near)), none, none, none] S3 := by
  have z1 : (cut near none (some (d3 : Int))).length ≤ 1000 := by rw [cut_take, List.length_take]; omega
  have z2 : (cut w none (some 1)).length ≤ 1000 := Nat.le_trans (cut_len _ _ _) hw
  have z3 : (cut near none (some (d3 : Int))).length + (cut w none (some 1)).length ≤ 16777216 := by omega
  have l1 : near.length ≤ 16777216 := by omega
  have l2 : w.length ≤ 16777216 := by omega
  have l3 : L ≤ 16777216 := by omega
  have ha : atI ul (d2 : Int) = some (.str near) := by unfold atI; rw [if_pos (by omega)]; simpa using hat
  simp (decide := true) [runD, xEqE, sRetL, xCallF, mCallF, mCalkF, Form.enc, sSeq, sIf, sRet, sNx, sAsg, sEx, sRai, ↓mb, Res.bind, mp, M.of, mT, xIsi, mBor, mVar, isTy, mTruth, truth, mOr, mAnd, mIte, mNot, xCmp, cop, eqo_nn, eqo_nb, eqo_ni, eqo_ns, eqo_nt, eqo_nl, eqo_nd, eqo_bn, eqo_bb, eqo_bi, eqo_bs, eqo_bt, eqo_bl, eqo_bd, eqo_in, eqo_ib, eqo_ii, eqo_is, eqo_it, eqo_il, eqo_id, eqo_sn, eqo_sb, eqo_si, eqo_ss, eqo_st, eqo_sl, eqo_sd, eqo_tn, eqo_tb, eqo_ti, eqo_ts, eqo_te, eqo_tt, eqo_tl, eqo_td, eqo_ln, eqo_lb, eqo_li, eqo_ls, eqo_lt, eqo_ll, eqo_ld, eqo_dn, eqo_db, eqo_di, eqo_ds, eqo_dt, eqo_dl, eqo_dd, inOk, D.flat, xTup, aNil, aCons, mSet, plain_str, plain_tup, plain_int, plain_bl, plains_nil, plains_cons, eqb_str, eqb_int, eqb_bl, eqb_tup, eqbs_nil, eqbs_cn, eqbs_nc, eqbs_cc, eqb_nn, eqb_nb, eqb_ni, eqb_ns, eqb_nt, eqb_nl, eqb_nd, eqb_bn, eqb_bi, eqb_bs, eqb_bt, eqb_b_l, eqb_bd, eqb_in, eqb_ib, eqb_is, eqb_it, eqb_il, eqb_id, eqb_sn, eqb_sb, eqb_si, eqb_sl, eqb_sd, eqb_tn, eqb_tb, eqb_ti, eqb_tl, eqb_td, eqb_ln, eqb_lb, eqb_li, eqb_ls, eqb_lt, eqb_ll, eqb_ld, eqb_dn, eqb_db, eqb_di, eqb_ds, eqb_dt, eqb_dl, eqb_dd, plain_non, plain_lst, plain_dic, eqb_st, eqb_ts, xLen, bip, xIdx, mIdx, index, mItems, mList, xCall, pp_call, xBin, bop_ai, bop_as, bop_at, bop_al, bop_si, bop_mi, bop_ml, bop_mt, bop_ms, bop_mo, bop_fd, bop_pw, SZ, mSlc, mPart, slice, gUnp, gCon, gEnd, mLst, gUnpT, fListT, mSt, M.bad, mChn, sFor, loopM, xBi, xFz, fLst, mCalk, srcOf, isn_n, isn_b, isn_i, isn_s, isn_t, isn_l, isn_d, isn_r, isn_enc, fAdd, fMul, fList, asLst, sOwn, mOwn, sApp, mOwnHere, mApp, gStar, dget, fComp, noX, Res.noX, mWipe, cmpR, wipeE, blsOf, intsOf, txtsOf, mZs, zsOf, zipD, mZip, zipOf, mRng1, mRng2, rngD, mCount, mIndexL, mMt, tyIs, mtp, findD, sTryAs, mIsE, noEx, sPar, sPar3, xRev, revD, sTry, reps, xNeg, negD, xDix, xDgt, mPop, mPopAt, mExt, sExt, xMth, mMth, xMak, mMak, xFld, mFld, insOf, fget, fput, sFst, mFpt, sFag, hne, e1, e2, e3, ha, hL, l1, l2, l3, z3]
end Ev
set_option Elab.async false
set_option linter.all false
set_option autoImplicit false
set_option maxRecDepth 100000
set_option maxHeartbeats 4000000
namespace Ev
open PySem
set_option maxHeartbeats 4000000
open Form
theorem copIn (w : Txt) (ys : List D) : cop .in_ (.str w) (.lst ys) = if inOk (.str w) ys then some (ys.any fun y => D.eqb y (.str w)) else none := by
  cases w with
  | nil => rfl
  | cons a r => cases r <;> rfl
theorem copNin (w : Txt) (ys : List D) : cop .nin (.str w) (.lst ys) = if inOk (.str w) ys then some (!ys.any fun y => D.eqb y (.str w)) else none := by
  cases w with
  | nil => rfl
  | cons a r => cases r <;> rfl
theorem flat_strs : ∀ us : List Txt, ((us.map D.str).all D.flat) = true
  | [] => rfl
  | u :: us => by rw [List.map_cons, List.all_cons, flat_strs us]; rfl
theorem inOk_strs (w : Txt) (us : List Txt) : inOk (.str w) (us.map D.str) = true := by
  unfold inOk
  rw [flat_strs]; rfl
theorem any_strs (x : Txt) : ∀ us : List Txt, ((us.map D.str).any fun y => D.eqb y (.str x)) = us.contains x
  | [] => rfl
  | u :: us => by
    rw [List.map_cons, List.any_cons, any_strs x us, List.contains_cons]
    congr 1
    show (u == x) = (x == u)
    by_cases e : u = x
    · subst e; rfl
    · have e' : ¬ x = u := fun z => e z.symm
      rw [beq_eq_false_iff_ne.mpr e, beq_eq_false_iff_ne.mpr e']
theorem s80 (T : Tb) [Fn T 113 fd_113] [Fn T 193 fd_193] (k n j : Nat) (ul : List D) (w ls : Txt) (x5 : Option SV) (S : Sto) : (sAsg (xFz (fComp (mRng1 (aCons (M.pure (.int 80)) aNil)) [7] (mSet 7) (M.pure true) (xBin .add (xBin .add (xIdx (mVar 2) (xBin .fdv (mVar 7) (M.pure (.int 26)))) (xIdx (mVar 2) (xBin .mod (mVar 7) (M.pure (.int 26))))) (M.pure (.str [113]))))) (mSet 6)) [some (.fz (.ref n)), some (.fz (.lst ul)), some (.fz (.str letters)), some (.fz (.int j)), some (.fz (.str w)), x5, none, none, none] S = .ok .nx [some (.fz (.ref n)), some (.fz (.lst ul)), some (.fz (.str letters)), some (.fz (.int j)), some (.fz (.str w)), x5, some (.fz (.lst (some80.map D.str))), none, none] S := by
  kernel_rfl
theorem free_run (T : Tb) [Fn T 113 fd_113] [Fn T 193 fd_193] (k n j : Nat) (us : List Txt) (hu : us.length ≤ 70) (w : Txt) (x5 : Option SV) (S : Sto) : ∃ w', okName w' = true ∧ (sAsg (xIdx (xFz (fComp (mItems (mVar 6)) [8] (mSet 8) (mT (xCmp .nin (mVar 8) (mBor 1))) (mVar 8))) (M.pure (.int 0))) (mSet 4)) [some (.fz (.ref n)), some (.fz (.lst (us.map D.str))), some (.fz (.str letters)), some (.fz (.int j)), some (.fz (.str w)), x5, some (.fz (.lst (some80.map D.str))), none, none] S = .ok .nx [some (.fz (.ref n)), some (.fz (.lst (us.map D.str))), some (.fz (.str letters)), some (.fz (.int j)), some (.fz (.str w')), x5, some (.fz (.lst (some80.map D.str))), none, none] S := by
  obtain ⟨w', r, e, ok⟩ := some80_free us hu
  refine ⟨w', ok, ?_⟩
  have hl : (some80.map D.str).length = 80 := by decide +kernel
  have hc := comp_filter (own := [8]) (f := mSet 8) (t := mT (xCmp .nin (mVar 8) (mBor 1))) (e := mVar 8) (ρ := [some (.fz (.ref n)), some (.fz (.lst (us.map D.str))), some (.fz (.str letters)), some (.fz (.int j)), some (.fz (.str w)), x5, some (.fz (.lst (some80.map D.str))), none, none]) (S := S)
    (fun d => match d with | .str x => !us.contains x | _ => false) (some80.map D.str) [] (fun d hd => by
      obtain ⟨x, hx, rfl⟩ := List.mem_map.mp hd
      have cn := copNin x (us.map D.str)
      rw [inOk_strs, if_pos rfl, any_strs] at cn
      generalize us.map D.str = ul at *
      generalize some80.map D.str = sl at *
      generalize letters = ls at *
      cases hb : us.contains x with
      | true =>
        have hm : x ∈ us := by simpa using hb
        rw [hb] at cn
        simp (decide := true) [runD, xEqE, sRetL, xCallF, mCallF, mCalkF, Form.enc, sSeq, sIf, sRet, sNx, sAsg, sEx, sRai, ↓mb, Res.bind, mp, M.of, mT, xIsi, mBor, mVar, isTy, mTruth, truth, mOr, mAnd, mIte, mNot, xCmp, eqo_nn, eqo_nb, eqo_ni, eqo_ns, eqo_nt, eqo_nl, eqo_nd, eqo_bn, eqo_bb, eqo_bi, eqo_bs, eqo_bt, eqo_bl, eqo_bd, eqo_in, eqo_ib, eqo_ii, eqo_is, eqo_it, eqo_il, eqo_id, eqo_sn, eqo_sb, eqo_si, eqo_ss, eqo_st, eqo_sl, eqo_sd, eqo_tn, eqo_tb, eqo_ti, eqo_ts, eqo_te, eqo_tt, eqo_tl, eqo_td, eqo_ln, eqo_lb, eqo_li, eqo_ls, eqo_lt, eqo_ll, eqo_ld, eqo_dn, eqo_db, eqo_di, eqo_ds, eqo_dt, eqo_dl, eqo_dd, inOk, D.flat, xTup, aNil, aCons, mSet, plain_str, plain_tup, plain_int, plain_bl, plains_nil, plains_cons, eqb_str, eqb_int, eqb_bl, eqb_tup, eqbs_nil, eqbs_cn, eqbs_nc, eqbs_cc, eqb_nn, eqb_nb, eqb_ni, eqb_ns, eqb_nt, eqb_nl, eqb_nd, eqb_bn, eqb_bi, eqb_bs, eqb_bt, eqb_b_l, eqb_bd, eqb_in, eqb_ib, eqb_is, eqb_it, eqb_il, eqb_id, eqb_sn, eqb_sb, eqb_si, eqb_sl, eqb_sd, eqb_tn, eqb_tb, eqb_ti, eqb_tl, eqb_td, eqb_ln, eqb_lb, eqb_li, eqb_ls, eqb_lt, eqb_ll, eqb_ld, eqb_dn, eqb_db, eqb_di, eqb_ds, eqb_dt, eqb_dl, eqb_dd, plain_non, plain_lst, plain_dic, eqb_st, eqb_ts, xLen, bip, xIdx, mIdx, index, mItems, mList, xCall, pp_call, xBin, bop_ai, bop_as, bop_at, bop_al, bop_si, bop_mi, bop_ml, bop_mt, bop_ms, bop_mo, bop_fd, bop_pw, SZ, mSlc, mPart, slice, gUnp, gCon, gEnd, mLst, gUnpT, fListT, mSt, M.bad, mChn, sFor, loopM, xBi, xFz, fLst, mCalk, srcOf, isn_n, isn_b, isn_i, isn_s, isn_t, isn_l, isn_d, isn_r, isn_enc, mWipe, wipeE, cn, hm]
      | false =>
        have hm : ¬ x ∈ us := by simpa using hb
        rw [hb] at cn
        simp (decide := true) [runD, xEqE, sRetL, xCallF, mCallF, mCalkF, Form.enc, sSeq, sIf, sRet, sNx, sAsg, sEx, sRai, ↓mb, Res.bind, mp, M.of, mT, xIsi, mBor, mVar, isTy, mTruth, truth, mOr, mAnd, mIte, mNot, xCmp, eqo_nn, eqo_nb, eqo_ni, eqo_ns, eqo_nt, eqo_nl, eqo_nd, eqo_bn, eqo_bb, eqo_bi, eqo_bs, eqo_bt, eqo_bl, eqo_bd, eqo_in, eqo_ib, eqo_ii, eqo_is, eqo_it, eqo_il, eqo_id, eqo_sn, eqo_sb, eqo_si, eqo_ss, eqo_st, eqo_sl, eqo_sd, eqo_tn, eqo_tb, eqo_ti, eqo_ts, eqo_te, eqo_tt, eqo_tl, eqo_td, eqo_ln, eqo_lb, eqo_li, eqo_ls, eqo_lt, eqo_ll, eqo_ld, eqo_dn, eqo_db, eqo_di, eqo_ds, eqo_dt, eqo_dl, eqo_dd, inOk, D.flat, xTup, aNil, aCons, mSet, plain_str, plain_tup, plain_int, plain_bl, plains_nil, plains_cons, eqb_str, eqb_int, eqb_bl, eqb_tup, eqbs_nil, eqbs_cn, eqbs_nc, eqbs_cc, eqb_nn, eqb_nb, eqb_ni, eqb_ns, eqb_nt, eqb_nl, eqb_nd, eqb_bn, eqb_bi, eqb_bs, eqb_bt, eqb_b_l, eqb_bd, eqb_in, eqb_ib, eqb_is, eqb_it, eqb_il, eqb_id, eqb_sn, eqb_sb, eqb_si, eqb_sl, eqb_sd, eqb_tn, eqb_tb, eqb_ti, eqb_tl, eqb_td, eqb_ln, eqb_lb, eqb_li, eqb_ls, eqb_lt, eqb_ll, eqb_ld, eqb_dn, eqb_db, eqb_di, eqb_ds, eqb_dt, eqb_dl, eqb_dd, plain_non, plain_lst, plain_dic, eqb_st, eqb_ts, xLen, bip, xIdx, mIdx, index, mItems, mList, xCall, pp_call, xBin, bop_ai, bop_as, bop_at, bop_al, bop_si, bop_mi, bop_ml, bop_mt, bop_ms, bop_mo, bop_fd, bop_pw, SZ, mSlc, mPart, slice, gUnp, gCon, gEnd, mLst, gUnpT, fListT, mSt, M.bad, mChn, sFor, loopM, xBi, xFz, fLst, mCalk, srcOf, isn_n, isn_b, isn_i, isn_s, isn_t, isn_l, isn_d, isn_r, isn_enc, mWipe, wipeE, cn, hm]) (by rw [hl]; decide)
  have hf : (some80.map D.str).filter (fun d => match d with | .str x => !us.contains x | _ => false) = (some80.filter fun x => !us.contains x).map D.str := by
    rw [List.filter_map]; rfl
  rw [hf, e] at hc
  simp only [List.nil_append, List.map_cons] at hc
  have hw : mWipe [8] [some (.fz (.ref n)), some (.fz (.lst (us.map D.str))), some (.fz (.str letters)), some (.fz (.int j)), some (.fz (.str w)), x5, some (.fz (.lst (some80.map D.str))), none, none] S = .ok () [some (.fz (.ref n)), some (.fz (.lst (us.map D.str))), some (.fz (.str letters)), some (.fz (.int j)), some (.fz (.str w)), x5, some (.fz (.lst (some80.map D.str))), none, none] S := rfl
  have l8 : (some80.map D.str).length ≤ SZ := by rw [hl]; decide
  have hi : mItems (mVar 6) [some (.fz (.ref n)), some (.fz (.lst (us.map D.str))), some (.fz (.str letters)), some (.fz (.int j)), some (.fz (.str w)), x5, some (.fz (.lst (some80.map D.str))), none, none] S = .ok (some80.map D.str) [some (.fz (.ref n)), some (.fz (.lst (us.map D.str))), some (.fz (.str letters)), some (.fz (.int j)), some (.fz (.str w)), x5, some (.fz (.lst (some80.map D.str))), none, none] S := rfl
  generalize us.map D.str = ul at *
  generalize some80.map D.str = sl at *
  generalize letters = ls at *
  have ec : fComp (mItems (mVar 6)) [8] (mSet 8) (mT (xCmp .nin (mVar 8) (mBor 1))) (mVar 8) [some (.fz (.ref n)), some (.fz (.lst ul)), some (.fz (.str ls)), some (.fz (.int j)), some (.fz (.str w)), x5, some (.fz (.lst sl)), none, none] S = .ok (.str w' :: r.map D.str) [some (.fz (.ref n)), some (.fz (.lst ul)), some (.fz (.str ls)), some (.fz (.int j)), some (.fz (.str w)), x5, some (.fz (.lst sl)), none, none] S := by
    refine (bind_ok hi).trans ?_
    show Res.noX (M.bind (mWipe [8]) (fun _ => cmpR [8] (mSet 8) (mT (xCmp .nin (mVar 8) (mBor 1))) (mVar 8) [] sl) _ S) = _
    rw [bind_ok hw, hc]
    rfl
  have ex : xFz (fComp (mItems (mVar 6)) [8] (mSet 8) (mT (xCmp .nin (mVar 8) (mBor 1))) (mVar 8)) [some (.fz (.ref n)), some (.fz (.lst ul)), some (.fz (.str ls)), some (.fz (.int j)), some (.fz (.str w)), x5, some (.fz (.lst sl)), none, none] S = .ok (.lst (.str w' :: r.map D.str)) [some (.fz (.ref n)), some (.fz (.lst ul)), some (.fz (.str ls)), some (.fz (.int j)), some (.fz (.str w)), x5, some (.fz (.lst sl)), none, none] S := bind_ok ec
  have ei : xIdx (xFz (fComp (mItems (mVar 6)) [8] (mSet 8) (mT (xCmp .nin (mVar 8) (mBor 1))) (mVar 8))) (M.pure (.int 0)) [some (.fz (.ref n)), some (.fz (.lst ul)), some (.fz (.str ls)), some (.fz (.int j)), some (.fz (.str w)), x5, some (.fz (.lst sl)), none, none] S = .ok (.str w') [some (.fz (.ref n)), some (.fz (.lst ul)), some (.fz (.str ls)), some (.fz (.int j)), some (.fz (.str w)), x5, some (.fz (.lst sl)), none, none] S := (bind_ok ex).trans rfl
  exact (bind_ok ei).trans rfl
theorem okName_parts {m : Txt} (h : okName m = true) : 1 ≤ m.length ∧ m.length ≤ 8 ∧ ∀ c ∈ m, c ∈ letters := by
  unfold okName at h
  simp only [Bool.and_eq_true, decide_eq_true_eq, List.all_eq_true] at h
  exact ⟨h.1.1, h.1.2, h.2⟩
theorem okName_of {m : Txt} (h1 : 1 ≤ m.length) (h2 : m.length ≤ 8) (h3 : ∀ c ∈ m, c ∈ letters) : okName m = true := by
  unfold okName
  simp only [Bool.and_eq_true, decide_eq_true_eq, List.all_eq_true]
  exact ⟨⟨h1, h2⟩, h3⟩
theorem near_ok {near w : Txt} {d : Nat} (h : okName near = true) (hw : okName w = true) (hd : d < near.length) : okName (cut near none (some (d : Int)) ++ cut w none (some 1)) = true := by
  obtain ⟨a1, a2, a3⟩ := okName_parts h
  obtain ⟨b1, b2, b3⟩ := okName_parts hw
  have e1 : cut near none (some (d : Int)) = near.take d := cut_take _ d
  have e2 : cut w none (some 1) = w.take 1 := cut_take _ 1
  rw [e1, e2]
  refine okName_of (by rw [List.length_append, List.length_take, List.length_take]; omega) (by rw [List.length_append, List.length_take, List.length_take]; omega) fun c hc => ?_
  rcases List.mem_append.mp hc with hc | hc
  · exact a3 c (List.mem_of_mem_take hc)
  · exact b3 c (List.mem_of_mem_take hc)
theorem near_step (T : Tb) [Fn T 113 fd_113] [Fn T 193 fd_193] (us : List Txt) (hu : us.length ≤ 70) (ok : ∀ u ∈ us, okName u = true) (n k j : Nat) (hk : 0 < k) (w : Txt) (hw : okName w = true) (S : Sto) (hp : PotF S n) :
    ∃ w' x5 S', okName w' = true ∧ PotF S' n ∧ (sIf (mT (mAnd (xCmp .ne (mBor 1) (M.pure (.lst []))) (xCmp .eq (xCall (T.prm (callT T k)) 113 2 (aCons (mVar 0) (aCons (M.pure (.int 5)) aNil))) (M.pure (.int 0))))) (sSeq (sAsg (xIdx (mVar 1) (xCall (T.prm (callT T k)) 113 2 (aCons (mVar 0) (aCons (xLen (mBor 1)) aNil)))) (mSet 5)) (sAsg (xBin .add (mSlc (mVar 5) (M.pure none) (mPart (xCall (T.prm (callT T k)) 113 2 (aCons (mVar 0) (aCons (xLen (mBor 5)) aNil))))) (mSlc (mBor 4) (M.pure none) (mPart (M.pure (.int 1))))) (mSet 4))) sNx) [some (.fz (.ref n)), some (.fz (.lst (us.map D.str))), some (.fz (.str letters)), some (.fz (.int j)), some (.fz (.str w)), none, none, none, none] S = .ok .nx [some (.fz (.ref n)), some (.fz (.lst (us.map D.str))), some (.fz (.str letters)), some (.fz (.int j)), some (.fz (.str w')), x5, none, none, none] S' := by
  cases us with
  | nil =>
    refine ⟨w, none, S, hw, hp, ?_⟩
    generalize letters = ls
    simp! []
  | cons u r =>
    have hne : eqo (.lst ((u :: r).map D.str)) (.lst []) = some false := by
      have pl : D.plain 60 (.lst ((u :: r).map D.str)) = true := by
        rw [plain_lst]
        generalize u :: r = l at ok
        clear hu
        induction l with
        | nil => rfl
        | cons a l ih =>
          have ha : (a.all fun k => decide (k < 1114112)) = true := by
            rw [List.all_eq_true]
            intro c hc
            have := (okName_parts (ok a List.mem_cons_self)).2.2 c hc
            have q : ∀ x ∈ letters, x < 1114112 := by decide
            simpa using q c this
          rw [List.map_cons, plains_cons, ih (fun u hu => ok u (List.mem_cons_of_mem _ hu)), plain_str, ha]; rfl
      simp only [List.map_cons] at pl ⊢
      simp [eqo_ll, pl, plain_lst, plains_nil, eqb_ll, eqbs_cn, eqbs_nc, D.eqbs]
    have hL : ((u :: r).map D.str).length = (u :: r).length := by simp
    obtain ⟨d1, S1, e1, h1, p1, l1⟩ := digitF T hp 5 (by omega) (by omega) k (by omega)
    have e1 : callT T k 113 [.ref n, .int 5] S = .ok (.int d1) S1 := e1
    by_cases hz : d1 = 0
    · subst hz
      obtain ⟨d2, S2, e2, h2, p2, l2⟩ := digitF T p1 (u :: r).length (by simp) (Nat.le_trans hu (by decide)) k hk
      obtain ⟨near, hat⟩ : ∃ near, (u :: r)[d2]? = some near := ⟨_, List.getElem?_eq_getElem h2⟩
      have on := ok near (List.mem_of_getElem? hat)
      obtain ⟨a1, a2, _⟩ := okName_parts on
      obtain ⟨_, b2, _⟩ := okName_parts hw
      obtain ⟨d3, S3, e3, h3, p3, l3⟩ := digitF T p2 near.length a1 (Nat.le_trans a2 (by decide)) k hk
      refine ⟨cut near none (some (d3 : Int)) ++ cut w none (some 1), some (.fz (.str near)), S3, near_ok on hw h3, p3, ?_⟩
      exact near_run T n k j d2 d3 w near letters ((u :: r).map D.str) (u :: r).length S S1 S2 S3 e1 hL (by omega) hne e2 (by rw [List.getElem?_map, hat]; rfl) (by omega) (by omega) e3
    · have hq : ¬ ((d1 : Int) = 0) := by omega
      refine ⟨w, none, S1, hw, p1, ?_⟩
      generalize (u :: r).map D.str = ul at *
      generalize letters = ls at *
      simp (decide := true) [runD, xEqE, sRetL, xCallF, mCallF, mCalkF, Form.enc, sSeq, sIf, sRet, sNx, sAsg, sEx, sRai, ↓mb, Res.bind, mp, M.of, mT, xIsi, mBor, mVar, isTy, mTruth, truth, mOr, mAnd, mIte, mNot, xCmp, cop, eqo_nn, eqo_nb, eqo_ni, eqo_ns, eqo_nt, eqo_nl, eqo_nd, eqo_bn, eqo_bb, eqo_bi, eqo_bs, eqo_bt, eqo_bl, eqo_bd, eqo_in, eqo_ib, eqo_ii, eqo_is, eqo_it, eqo_il, eqo_id, eqo_sn, eqo_sb, eqo_si, eqo_ss, eqo_st, eqo_sl, eqo_sd, eqo_tn, eqo_tb, eqo_ti, eqo_ts, eqo_te, eqo_tt, eqo_tl, eqo_td, eqo_ln, eqo_lb, eqo_li, eqo_ls, eqo_lt, eqo_ll, eqo_ld, eqo_dn, eqo_db, eqo_di, eqo_ds, eqo_dt, eqo_dl, eqo_dd, inOk, D.flat, xTup, aNil, aCons, mSet, plain_str, plain_tup, plain_int, plain_bl, plains_nil, plains_cons, eqb_str, eqb_int, eqb_bl, eqb_tup, eqbs_nil, eqbs_cn, eqbs_nc, eqbs_cc, eqb_nn, eqb_nb, eqb_ni, eqb_ns, eqb_nt, eqb_nl, eqb_nd, eqb_bn, eqb_bi, eqb_bs, eqb_bt, eqb_b_l, eqb_bd, eqb_in, eqb_ib, eqb_is, eqb_it, eqb_il, eqb_id, eqb_sn, eqb_sb, eqb_si, eqb_sl, eqb_sd, eqb_tn, eqb_tb, eqb_ti, eqb_tl, eqb_td, eqb_ln, eqb_lb, eqb_li, eqb_ls, eqb_lt, eqb_ll, eqb_ld, eqb_dn, eqb_db, eqb_di, eqb_ds, eqb_dt, eqb_dl, eqb_dd, plain_non, plain_lst, plain_dic, eqb_st, eqb_ts, xLen, bip, xIdx, mIdx, index, mItems, mList, xCall, pp_call, xBin, bop_ai, bop_as, bop_at, bop_al, bop_si, bop_mi, bop_ml, bop_mt, bop_ms, bop_mo, bop_fd, bop_pw, SZ, mSlc, mPart, slice, gUnp, gCon, gEnd, mLst, gUnpT, fListT, mSt, M.bad, mChn, sFor, loopM, xBi, xFz, fLst, mCalk, srcOf, isn_n, isn_b, isn_i, isn_s, isn_t, isn_l, isn_d, isn_r, isn_enc, fAdd, fMul, fList, asLst, sOwn, mOwn, sApp, mOwnHere, mApp, gStar, dget, fComp, noX, Res.noX, mWipe, cmpR, wipeE, blsOf, intsOf, txtsOf, mZs, zsOf, zipD, mZip, zipOf, mRng1, mRng2, rngD, mCount, mIndexL, mMt, tyIs, mtp, findD, sTryAs, mIsE, noEx, sPar, sPar3, xRev, revD, sTry, reps, xNeg, negD, xDix, xDgt, mPop, mPopAt, mExt, sExt, xMth, mMth, xMak, mMak, xFld, mFld, insOf, fget, fput, sFst, mFpt, sFag, hne, e1, hz, hq]
theorem if_true_run {c : M Bool} {A B : M Flow} {ρ : Env} {S : Sto} {r : Res Flow} (h : c ρ S = .ok true ρ S) (hA : A ρ S = r) : sIf c A B ρ S = r := (bind_ok h).trans hA
theorem seq_run {A B : M Flow} {ρ ρ1 : Env} {S S1 : Sto} {r : Res Flow} (h1 : A ρ S = .ok .nx ρ1 S1) (h2 : B ρ1 S1 = r) : sSeq A B ρ S = r := (bind_ok h1).trans h2
theorem used_step (T : Tb) [Fn T 113 fd_113] [Fn T 193 fd_193] (us : List Txt) (hu : us.length ≤ 70) (n k j : Nat) (w : Txt) (hw : okName w = true) (x5 : Option SV) (S : Sto) :
    ∃ w' x6, okName w' = true ∧ (sIf (mT (xCmp .in_ (mVar 4) (mBor 1))) (sSeq (sAsg (xFz (fComp (mRng1 (aCons (M.pure (.int 80)) aNil)) [7] (mSet 7) (M.pure true) (xBin .add (xBin .add (xIdx (mVar 2) (xBin .fdv (mVar 7) (M.pure (.int 26)))) (xIdx (mVar 2) (xBin .mod (mVar 7) (M.pure (.int 26))))) (M.pure (.str [113]))))) (mSet 6)) (sAsg (xIdx (xFz (fComp (mItems (mVar 6)) [8] (mSet 8) (mT (xCmp .nin (mVar 8) (mBor 1))) (mVar 8))) (M.pure (.int 0))) (mSet 4))) sNx) [some (.fz (.ref n)), some (.fz (.lst (us.map D.str))), some (.fz (.str letters)), some (.fz (.int j)), some (.fz (.str w)), x5, none, none, none] S = .ok .nx [some (.fz (.ref n)), some (.fz (.lst (us.map D.str))), some (.fz (.str letters)), some (.fz (.int j)), some (.fz (.str w')), x5, x6, none, none] S := by
  have ci := copIn w (us.map D.str)
  rw [inOk_strs, if_pos rfl, any_strs] at ci
  cases hb : us.contains w with
  | false =>
    rw [hb] at ci
    refine ⟨w, none, hw, ?_⟩
    generalize us.map D.str = ul at *
    generalize letters = ls at *
    simp (decide := true) [runD, xEqE, sRetL, xCallF, mCallF, mCalkF, Form.enc, sSeq, sIf, sRet, sNx, sAsg, sEx, sRai, ↓mb, Res.bind, mp, M.of, mT, xIsi, mBor, mVar, isTy, mTruth, truth, mOr, mAnd, mIte, mNot, xCmp, eqo_nn, eqo_nb, eqo_ni, eqo_ns, eqo_nt, eqo_nl, eqo_nd, eqo_bn, eqo_bb, eqo_bi, eqo_bs, eqo_bt, eqo_bl, eqo_bd, eqo_in, eqo_ib, eqo_ii, eqo_is, eqo_it, eqo_il, eqo_id, eqo_sn, eqo_sb, eqo_si, eqo_ss, eqo_st, eqo_sl, eqo_sd, eqo_tn, eqo_tb, eqo_ti, eqo_ts, eqo_te, eqo_tt, eqo_tl, eqo_td, eqo_ln, eqo_lb, eqo_li, eqo_ls, eqo_lt, eqo_ll, eqo_ld, eqo_dn, eqo_db, eqo_di, eqo_ds, eqo_dt, eqo_dl, eqo_dd, inOk, D.flat, xTup, aNil, aCons, mSet, plain_str, plain_tup, plain_int, plain_bl, plains_nil, plains_cons, eqb_str, eqb_int, eqb_bl, eqb_tup, eqbs_nil, eqbs_cn, eqbs_nc, eqbs_cc, eqb_nn, eqb_nb, eqb_ni, eqb_ns, eqb_nt, eqb_nl, eqb_nd, eqb_bn, eqb_bi, eqb_bs, eqb_bt, eqb_b_l, eqb_bd, eqb_in, eqb_ib, eqb_is, eqb_it, eqb_il, eqb_id, eqb_sn, eqb_sb, eqb_si, eqb_sl, eqb_sd, eqb_tn, eqb_tb, eqb_ti, eqb_tl, eqb_td, eqb_ln, eqb_lb, eqb_li, eqb_ls, eqb_lt, eqb_ll, eqb_ld, eqb_dn, eqb_db, eqb_di, eqb_ds, eqb_dt, eqb_dl, eqb_dd, plain_non, plain_lst, plain_dic, eqb_st, eqb_ts, xLen, bip, xIdx, mIdx, index, mItems, mList, xCall, pp_call, xBin, bop_ai, bop_as, bop_at, bop_al, bop_si, bop_mi, bop_ml, bop_mt, bop_ms, bop_mo, bop_fd, bop_pw, SZ, mSlc, mPart, slice, gUnp, gCon, gEnd, mLst, gUnpT, fListT, mSt, M.bad, mChn, sFor, loopM, xBi, xFz, fLst, mCalk, srcOf, isn_n, isn_b, isn_i, isn_s, isn_t, isn_l, isn_d, isn_r, isn_enc, ci]
  | true =>
    rw [hb] at ci
    obtain ⟨w', ok', ef⟩ := free_run T k n j us hu w x5 S
    have es := s80 T k n j (us.map D.str) w w x5 S
    refine ⟨w', some (.fz (.lst (some80.map D.str))), ok', ?_⟩
    clear hb
    have ec : (mT (xCmp .in_ (mVar 4) (mBor 1))) [some (.fz (.ref n)), some (.fz (.lst (us.map D.str))), some (.fz (.str letters)), some (.fz (.int j)), some (.fz (.str w)), x5, none, none, none] S = .ok true [some (.fz (.ref n)), some (.fz (.lst (us.map D.str))), some (.fz (.str letters)), some (.fz (.int j)), some (.fz (.str w)), x5, none, none, none] S := by
      generalize us.map D.str = ul at *
      generalize letters = ls at *
      simp (decide := true) [runD, xEqE, sRetL, xCallF, mCallF, mCalkF, Form.enc, sSeq, sIf, sRet, sNx, sAsg, sEx, sRai, ↓mb, Res.bind, mp, M.of, mT, xIsi, mBor, mVar, isTy, mTruth, truth, mOr, mAnd, mIte, mNot, xCmp, eqo_nn, eqo_nb, eqo_ni, eqo_ns, eqo_nt, eqo_nl, eqo_nd, eqo_bn, eqo_bb, eqo_bi, eqo_bs, eqo_bt, eqo_bl, eqo_bd, eqo_in, eqo_ib, eqo_ii, eqo_is, eqo_it, eqo_il, eqo_id, eqo_sn, eqo_sb, eqo_si, eqo_ss, eqo_st, eqo_sl, eqo_sd, eqo_tn, eqo_tb, eqo_ti, eqo_ts, eqo_te, eqo_tt, eqo_tl, eqo_td, eqo_ln, eqo_lb, eqo_li, eqo_ls, eqo_lt, eqo_ll, eqo_ld, eqo_dn, eqo_db, eqo_di, eqo_ds, eqo_dt, eqo_dl, eqo_dd, inOk, D.flat, xTup, aNil, aCons, mSet, plain_str, plain_tup, plain_int, plain_bl, plains_nil, plains_cons, eqb_str, eqb_int, eqb_bl, eqb_tup, eqbs_nil, eqbs_cn, eqbs_nc, eqbs_cc, eqb_nn, eqb_nb, eqb_ni, eqb_ns, eqb_nt, eqb_nl, eqb_nd, eqb_bn, eqb_bi, eqb_bs, eqb_bt, eqb_b_l, eqb_bd, eqb_in, eqb_ib, eqb_is, eqb_it, eqb_il, eqb_id, eqb_sn, eqb_sb, eqb_si, eqb_sl, eqb_sd, eqb_tn, eqb_tb, eqb_ti, eqb_tl, eqb_td, eqb_ln, eqb_lb, eqb_li, eqb_ls, eqb_lt, eqb_ll, eqb_ld, eqb_dn, eqb_db, eqb_di, eqb_ds, eqb_dt, eqb_dl, eqb_dd, plain_non, plain_lst, plain_dic, eqb_st, eqb_ts, xLen, bip, xIdx, mIdx, index, mItems, mList, xCall, pp_call, xBin, bop_ai, bop_as, bop_at, bop_al, bop_si, bop_mi, bop_ml, bop_mt, bop_ms, bop_mo, bop_fd, bop_pw, SZ, mSlc, mPart, slice, gUnp, gCon, gEnd, mLst, gUnpT, fListT, mSt, M.bad, mChn, sFor, loopM, xBi, xFz, fLst, mCalk, srcOf, isn_n, isn_b, isn_i, isn_s, isn_t, isn_l, isn_d, isn_r, isn_enc, ci]
    exact if_true_run ec (seq_run es ef)
theorem name_used (T : Tb) [Fn T 113 fd_113] [Fn T 193 fd_193] (us : List Txt) (hu : us.length ≤ 70) (ok : ∀ u ∈ us, okName u = true) (S : Sto) (n k : Nat) (hp : PotF S n) (hk : 1 < k) : ∃ (w : Txt) (S' : Sto), callT T k 193 [.ref n, .lst (us.map D.str)] S = .ok (.str w) S' ∧ okName w = true ∧ PotF S' n := by
  obtain ⟨k, rfl⟩ : ∃ j, k = j + 1 := ⟨k - 1, by omega⟩
  obtain ⟨d1, S1, e1, h1, p1, l1⟩ := digitF T hp 8 (by omega) (by omega) k (by omega)
  have e1 : callT T k 113 [.ref n, .int 8] S = .ok (.int d1) S1 := e1
  obtain ⟨d2, S2, e2, h2, p2, l2⟩ := digitF T p1 6 (by omega) (by omega) k (by omega)
  have e2 : callT T k 113 [.ref n, .int 6] S1 = .ok (.int d2) S2 := e2
  have hj : ∃ j : Nat, 1 ≤ j ∧ j ≤ 8 ∧ [D.int 1, D.int 1, D.int 2, D.int 3, D.int 8, D.int (1 + d1)][d2]? = some (.int j) := by
    rcases (show d2 = 0 ∨ d2 = 1 ∨ d2 = 2 ∨ d2 = 3 ∨ d2 = 4 ∨ d2 = 5 by omega) with rfl | rfl | rfl | rfl | rfl | rfl
    · exact ⟨1, by omega, by omega, rfl⟩
    · exact ⟨1, by omega, by omega, rfl⟩
    · exact ⟨2, by omega, by omega, rfl⟩
    · exact ⟨3, by omega, by omega, rfl⟩
    · exact ⟨8, by omega, by omega, rfl⟩
    · exact ⟨1 + d1, by omega, by omega, by simp⟩
  obtain ⟨j, hj1, hj2, hj⟩ := hj
  obtain ⟨m, S3, e3, hl, hs, p3, l3⟩ := name_comp T (us.map D.str) n j (by omega) k (by omega) S2 p2
  have om : okName m = true := okName_of (by omega) (by omega) fun c hc => hs c hc
  obtain ⟨d4, S4, e4, h4, p4, l4⟩ := digitF T p3 8 (by omega) (by omega) k (by omega)
  have e4 : callT T k 113 [.ref n, .int 8] S3 = .ok (.int d4) S4 := e4
  have a3 : ∃ (w : Txt) (S5 : Sto), okName w = true ∧ PotF S5 n ∧ (sIf (mT (xCmp .eq (xCall (T.prm (callT T k)) 113 2 (aCons (mVar 0) (aCons (M.pure (.int 8)) aNil))) (M.pure (.int 0)))) (sAsg (xIdx (xFz (fLst (aCons (M.pure (.str [99,97,108,108])) (aCons (M.pure (.str [100,101,101,100])) (aCons (M.pure (.str [97,110,121])) (aCons (M.pure (.str [110,117,109])) (aCons (M.pure (.str [116,101,120,116])) (aCons (M.pure (.str [98,111,120])) (aCons (M.pure (.str [108,101,116])) (aCons (M.pure (.str [109,97,105,110])) aNil)))))))))) (xCall (T.prm (callT T k)) 113 2 (aCons (mVar 0) (aCons (M.pure (.int 8)) aNil)))) (mSet 4)) sNx) [some (.fz (.ref n)), some (.fz (.lst (us.map D.str))), some (.fz (.str letters)), some (.fz (.int j)), some (.fz (.str m)), none, none, none, none] S3 = .ok .nx [some (.fz (.ref n)), some (.fz (.lst (us.map D.str))), some (.fz (.str letters)), some (.fz (.int j)), some (.fz (.str w)), none, none, none, none] S5 := by
    generalize us.map D.str = ul
    generalize letters = ls
    by_cases hz : d4 = 0
    · subst hz
      obtain ⟨d5, S5, e5, h5, p5, l5⟩ := digitF T p4 8 (by omega) (by omega) k (by omega)
      have e5 : callT T k 113 [.ref n, .int 8] S4 = .ok (.int d5) S5 := e5
      have hw : ∃ w, [D.str [99,97,108,108], .str [100,101,101,100], .str [97,110,121], .str [110,117,109], .str [116,101,120,116], .str [98,111,120], .str [108,101,116], .str [109,97,105,110]][d5]? = some (.str w) ∧ okName w = true := by
        rcases (show d5 = 0 ∨ d5 = 1 ∨ d5 = 2 ∨ d5 = 3 ∨ d5 = 4 ∨ d5 = 5 ∨ d5 = 6 ∨ d5 = 7 by omega) with rfl | rfl | rfl | rfl | rfl | rfl | rfl | rfl <;> exact ⟨_, rfl, by decide⟩
      obtain ⟨w, hw, ow⟩ := hw
      exact ⟨w, S5, ow, p5, by simp! [e4, e5, hw]⟩
    · have hq : ¬ ((d4 : Int) = 0) := by omega
      exact ⟨m, S4, om, p4, by simp! [e4, hz, hq]⟩
  obtain ⟨w, S5, ow, p5, a3⟩ := a3
  obtain ⟨w1, x5, S6, ow1, p6, a4⟩ := near_step T us hu ok n k j (by omega) w ow S5 p5
  obtain ⟨w2, x6, ow2, a5⟩ := used_step T us hu n k j w1 ow1 x5 S6
  refine ⟨w2, S6, ?_, ow2, p6⟩
  refine runN k [.ref n, .lst (us.map D.str)] (.str w2) S S6 [some (.fz (.ref n)), some (.fz (.lst (us.map D.str))), some (.fz (.str letters)), some (.fz (.int j)), some (.fz (.str w2)), x5, x6, none, none] rfl ?_
  show b_193 (T.prm (callT T k)) [some (.fz (.ref n)), some (.fz (.lst (us.map D.str))), none, none, none, none, none, none, none] S = _
  unfold b_193
  refine (bind_ok (show (sAsg (M.pure (.str letters)) (mSet 2)) [some (.fz (.ref n)), some (.fz (.lst (us.map D.str))), none, none, none, none, none, none, none] S = .ok .nx [some (.fz (.ref n)), some (.fz (.lst (us.map D.str))), some (.fz (.str letters)), none, none, none, none, none, none] S from rfl)).trans ?_
  have a1 : (sAsg (xIdx (xFz (fLst (aCons (M.pure (.int 1)) (aCons (M.pure (.int 1)) (aCons (M.pure (.int 2)) (aCons (M.pure (.int 3)) (aCons (M.pure (.int 8)) (aCons (xBin .add (M.pure (.int 1)) (xCall (T.prm (callT T k)) 113 2 (aCons (mVar 0) (aCons (M.pure (.int 8)) aNil)))) aNil)))))))) (xCall (T.prm (callT T k)) 113 2 (aCons (mVar 0) (aCons (M.pure (.int 6)) aNil)))) (mSet 3)) [some (.fz (.ref n)), some (.fz (.lst (us.map D.str))), some (.fz (.str letters)), none, none, none, none, none, none] S = .ok .nx [some (.fz (.ref n)), some (.fz (.lst (us.map D.str))), some (.fz (.str letters)), some (.fz (.int j)), none, none, none, none, none] S2 := by
    generalize us.map D.str = ul
    generalize letters = ls
    simp! [e1, e2, hj]
  refine (bind_ok a1).trans ?_
  have a2 : (sAsg (mJoinT (M.pure (.str [])) (aCons (xFz (fComp (mRng1 (aCons (mVar 3) aNil)) [7] (mSet 7) (M.pure true) (xIdx (mVar 2) (xCall (T.prm (callT T k)) 113 2 (aCons (mVar 0) (aCons (M.pure (.int 26)) aNil)))))) aNil)) (mSet 4)) [some (.fz (.ref n)), some (.fz (.lst (us.map D.str))), some (.fz (.str letters)), some (.fz (.int j)), none, none, none, none, none] S2 = .ok .nx [some (.fz (.ref n)), some (.fz (.lst (us.map D.str))), some (.fz (.str letters)), some (.fz (.int j)), some (.fz (.str m)), none, none, none, none] S3 := (bind_ok e3).trans rfl
  refine (bind_ok a2).trans ?_
  refine (bind_ok a3).trans ?_
  refine (bind_ok a4).trans ?_
  refine (bind_ok a5).trans ?_
  generalize us.map D.str = ul
  generalize letters = ls
  simp! []
theorem pool_loop (T : Tb) [Fn T 113 fd_113] [Fn T 193 fd_193] [Fn T 269 fd_269] (n k : Nat) (hk : 1 < k) : ∀ (ds : List D) (us : List Txt) (x2 : Option SV) (S : Sto), us.length + ds.length ≤ 70 → (∀ u ∈ us, okName u = true) → PotF S n →
    ∃ (vs : List Txt) (x2' : Option SV) (S' : Sto), loopM (mSet 2) (sApp 1 (mLend (T.prm (callT T k)) 193 0 1)) ds [some (.fz (.ref n)), some (.ow (us.map D.str)), x2] S = .ok .nx [some (.fz (.ref n)), some (.ow (vs.map D.str)), x2'] S' ∧ vs.length = us.length + ds.length ∧ (∀ v ∈ vs, okName v = true) ∧ PotF S' n
  | [], us, x2, S, _, ok, hp => ⟨us, x2, S, rfl, rfl, ok, hp⟩
  | d :: ds, us, x2, S, hl, ok, hp => by
    simp only [List.length_cons] at hl
    obtain ⟨w, S1, e1, ow, p1⟩ := name_used T us (by omega) ok S n k hp hk
    have hm : (us ++ [w]).map D.str = us.map D.str ++ [.str w] := by simp
    have l1 : (us.map D.str).length < 16777216 := by rw [List.length_map]; omega
    have st : (M.bind (mSet 2 d) fun _ => sApp 1 (mLend (T.prm (callT T k)) 193 0 1)) [some (.fz (.ref n)), some (.ow (us.map D.str)), x2] S = .ok .nx [some (.fz (.ref n)), some (.ow ((us ++ [w]).map D.str)), some (.fz d)] S1 := by
      rw [hm]
      generalize us.map D.str = ul at *
      have fl := p1.2
      have pc : (T.prm (callT T k)).call = callT T k := rfl
      have ld : mLend (T.prm (callT T k)) 193 0 1 [some (.fz (.ref n)), some (.ow ul), some (.fz d)] S = .ok (.str w) [some (.fz (.ref n)), some (.ow ul), some (.fz d)] S1 := by
        have ci : (D.flat (.str w) && S1.all flatC) = true := by rw [fl]; rfl
        unfold mLend
        simp only [List.getElem?_cons_zero, List.getElem?_cons_succ, pc, e1, ci, if_true]
      simp! [ld, l1]
    obtain ⟨vs, x2', S', e2, hv, ok', p'⟩ := pool_loop T n k hk ds (us ++ [w]) (some (.fz d)) S1 (by simp; omega) (fun u hu => by
      rcases List.mem_append.mp hu with hu | hu
      · exact ok u hu
      · rw [List.mem_singleton.mp hu]; exact ow) p1
    refine ⟨vs, x2', S', ?_, by rw [hv]; simp; omega, ok', p'⟩
    rw [loop_step st]
    exact e2
theorem pool (T : Tb) [Fn T 113 fd_113] [Fn T 193 fd_193] [Fn T 269 fd_269] (S : Sto) (n k : Nat) (hp : PotF S n) (hk : 2 < k) : ∃ (us : List Txt) (S' : Sto), callT T k 269 [.ref n] S = .ok (.lst (us.map D.str)) S' ∧ 1 ≤ us.length ∧ us.length ≤ 4 ∧ (∀ u ∈ us, okName u = true) ∧ PotF S' n := by
  obtain ⟨k, rfl⟩ : ∃ j, k = j + 1 := ⟨k - 1, by omega⟩
  obtain ⟨d1, S1, e1, h1, p1, l1⟩ := digitF T hp 4 (by omega) (by omega) k (by omega)
  have e1 : callT T k 113 [.ref n, .int 4] S = .ok (.int d1) S1 := e1
  obtain ⟨vs, x2, S2, e2, hv, ok, p2⟩ := pool_loop T n k (by omega) (rngD 0 (1 + d1)) [] none S1 (by rw [rngD_len]; simp; omega) (fun u hu => by cases hu) p1
  rw [rngD_len] at hv
  simp only [List.length_nil, Nat.zero_add] at hv
  refine ⟨vs, S2, ?_, by omega, by omega, ok, p2⟩
  refine runN k [.ref n] _ S S2 [some (.fz (.ref n)), some (.fz (.lst (vs.map D.str))), x2] rfl ?_
  show b_269 (T.prm (callT T k)) [some (.fz (.ref n)), none, none] S = _
  unfold b_269
  have a0 : (sOwn 1 (fLst aNil)) [some (.fz (.ref n)), none, none] S = .ok .nx [some (.fz (.ref n)), some (.ow []), none] S := rfl
  refine seq_run a0 ?_
  have er : (mRng1 (aCons (xBin .add (M.pure (.int 1)) (xCall (T.prm (callT T k)) 113 2 (aCons (mVar 0) (aCons (M.pure (.int 4)) aNil)))) aNil)) [some (.fz (.ref n)), some (.ow []), none] S = .ok (rngD 0 (1 + d1)) [some (.fz (.ref n)), some (.ow []), none] S1 := by
    have ex : (aCons (xBin .add (M.pure (.int 1)) (xCall (T.prm (callT T k)) 113 2 (aCons (mVar 0) (aCons (M.pure (.int 4)) aNil)))) aNil) [some (.fz (.ref n)), some (.ow []), none] S = .ok [.int ((1 + d1 : Nat) : Int)] [some (.fz (.ref n)), some (.ow []), none] S1 := by
      have : ((1 + d1 : Nat) : Int) = 1 + (d1 : Int) := by omega
      rw [this]
      simp! [e1]
    unfold mRng1
    refine (bind_ok ex).trans ?_
    show (if -(2 ^ 62) ≤ ((1 + d1 : Nat) : Int) ∧ ((1 + d1 : Nat) : Int) < 2 ^ 62 then M.pure (rngD 0 ((1 + d1 : Nat) : Int).toNat) else M.bad) _ S1 = _
    rw [if_pos ⟨by omega, by omega⟩]
    rfl
  refine seq_run ((bind_ok er).trans e2) ?_
  generalize vs.map D.str = ul
  simp! []
end Ev
set_option Elab.async false
set_option linter.all false
set_option autoImplicit false
set_option maxRecDepth 100000
set_option maxHeartbeats 4000000
local macro_rules | `(tactic| dsimp! [$ls,*]) => `(tactic| (refine Ev.wp_seq_i fun K hK => ?_; simp (decide := true) [Ev.runD, Ev.xEqE, Ev.sRetL, Ev.xCallF, Ev.mCallF, Ev.mCalkF, Ev.Form.enc, Ev.sSeq, Ev.sIf, Ev.sRet, Ev.sNx, Ev.sAsg, Ev.sEx, Ev.sRai, ↓Ev.mb, Ev.Res.bind, Ev.mp, Ev.M.of, Ev.mT, Ev.xIsi, Ev.mBor, Ev.mVar, Ev.isTy, Ev.mTruth, Ev.truth, Ev.mOr, Ev.mAnd, Ev.mIte, Ev.mNot, Ev.xCmp, Ev.cop, Ev.eqo_nn, Ev.eqo_nb, Ev.eqo_ni, Ev.eqo_ns, Ev.eqo_nt, Ev.eqo_nl, Ev.eqo_nd, Ev.eqo_bn, Ev.eqo_bb, Ev.eqo_bi, Ev.eqo_bs, Ev.eqo_bt, Ev.eqo_bl, Ev.eqo_bd, Ev.eqo_in, Ev.eqo_ib, Ev.eqo_ii, Ev.eqo_is, Ev.eqo_it, Ev.eqo_il, Ev.eqo_id, Ev.eqo_sn, Ev.eqo_sb, Ev.eqo_si, Ev.eqo_ss, Ev.eqo_st, Ev.eqo_sl, Ev.eqo_sd, Ev.eqo_tn, Ev.eqo_tb, Ev.eqo_ti, Ev.eqo_ts, Ev.eqo_te, Ev.eqo_tt, Ev.eqo_tl, Ev.eqo_td, Ev.eqo_ln, Ev.eqo_lb, Ev.eqo_li, Ev.eqo_ls, Ev.eqo_lt, Ev.eqo_ll, Ev.eqo_ld, Ev.eqo_dn, Ev.eqo_db, Ev.eqo_di, Ev.eqo_ds, Ev.eqo_dt, Ev.eqo_dl, Ev.eqo_dd, Ev.inOk, Ev.D.flat, Ev.xTup, Ev.aNil, Ev.aCons, Ev.mSet, Ev.plain_str, Ev.plain_tup, Ev.plain_int, Ev.plain_bl, Ev.plains_nil, Ev.plains_cons, Ev.eqb_str, Ev.eqb_int, Ev.eqb_bl, Ev.eqb_tup, Ev.eqbs_nil, Ev.eqbs_cn, Ev.eqbs_nc, Ev.eqbs_cc, Ev.eqb_nn, Ev.eqb_nb, Ev.eqb_ni, Ev.eqb_ns, Ev.eqb_nt, Ev.eqb_nl, Ev.eqb_nd, Ev.eqb_bn, Ev.eqb_bi, Ev.eqb_bs, Ev.eqb_bt, Ev.eqb_b_l, Ev.eqb_bd, Ev.eqb_in, Ev.eqb_ib, Ev.eqb_is, Ev.eqb_it, Ev.eqb_il, Ev.eqb_id, Ev.eqb_sn, Ev.eqb_sb, Ev.eqb_si, Ev.eqb_sl, Ev.eqb_sd, Ev.eqb_tn, Ev.eqb_tb, Ev.eqb_ti, Ev.eqb_tl, Ev.eqb_td, Ev.eqb_ln, Ev.eqb_lb, Ev.eqb_li, Ev.eqb_ls, Ev.eqb_lt, Ev.eqb_ll, Ev.eqb_ld, Ev.eqb_dn, Ev.eqb_db, Ev.eqb_di, Ev.eqb_ds, Ev.eqb_dt, Ev.eqb_dl, Ev.eqb_dd, Ev.plain_non, Ev.plain_lst, Ev.plain_dic, Ev.eqb_st, Ev.eqb_ts, Ev.xLen, Ev.bip, Ev.xIdx, Ev.mIdx, Ev.index, Ev.mItems, Ev.mList, Ev.xCall, Ev.pp_call, Ev.xBin, Ev.bop_ai, Ev.bop_as, Ev.bop_at, Ev.bop_al, Ev.bop_si, Ev.bop_mi, Ev.bop_ml, Ev.bop_mt, Ev.bop_ms, Ev.bop_mo, Ev.bop_fd, Ev.bop_pw, Ev.SZ, Ev.mSlc, Ev.mPart, Ev.slice, Ev.gUnp, Ev.gCon, Ev.gEnd, Ev.mLst, Ev.gUnpT, Ev.fListT, Ev.mSt, Ev.M.bad, Ev.mChn, Ev.sFor, Ev.loopM, Ev.xBi, Ev.xFz, Ev.fLst, Ev.mCalk, Ev.srcOf, Ev.isn_n, Ev.isn_b, Ev.isn_i, Ev.isn_s, Ev.isn_t, Ev.isn_l, Ev.isn_d, Ev.isn_r, Ev.isn_enc, Ev.fAdd, Ev.fMul, Ev.fList, Ev.asLst, Ev.sOwn, Ev.mOwn, Ev.sApp, Ev.mOwnHere, Ev.mApp, Ev.gStar, Ev.dget, Ev.atI, Ev.fComp, Ev.noX, Ev.Res.noX, Ev.mWipe, Ev.cmpR, Ev.wipeE, Ev.blsOf, Ev.intsOf, Ev.txtsOf, Ev.cut, Ev.sIx, Ev.mZs, Ev.zsOf, Ev.zipD, Ev.mZip, Ev.zipOf, Ev.mRng1, Ev.mRng2, Ev.rngD, Ev.mCount, Ev.mIndexL, Ev.mMt, Ev.tyIs, Ev.mtp, Ev.findD, Ev.sTryAs, Ev.mIsE, Ev.noEx, Ev.sPar, Ev.sPar3, Ev.xRev, Ev.revD, Ev.sTry, Ev.reps, Ev.xNeg, Ev.negD, Ev.xDix, Ev.xDgt, Ev.mPop, Ev.mPopAt, Ev.mExt, Ev.sExt, Ev.xMth, Ev.mMth, Ev.xMak, Ev.mMak, Ev.xFld, Ev.mFld, Ev.insOf, Ev.fget, Ev.fput, Ev.sFst, Ev.mFpt, Ev.sFag, Ev.wp_ok, $ls,*]; subst hK; refine Ev.ks_nx ?_))
local macro_rules | `(tactic| dsimp! only [$ls,*]) => `(tactic| (refine Ev.wp_shut fun K hK => ?_; simp (decide := true) [Ev.runD, Ev.xEqE, Ev.sRetL, Ev.xCallF, Ev.mCallF, Ev.mCalkF, Ev.Form.enc, Ev.sSeq, Ev.sIf, Ev.sRet, Ev.sNx, Ev.sAsg, Ev.sEx, Ev.sRai, ↓Ev.mb, Ev.Res.bind, Ev.mp, Ev.M.of, Ev.mT, Ev.xIsi, Ev.mBor, Ev.mVar, Ev.isTy, Ev.mTruth, Ev.truth, Ev.mOr, Ev.mAnd, Ev.mIte, Ev.mNot, Ev.xCmp, Ev.cop, Ev.eqo_nn, Ev.eqo_nb, Ev.eqo_ni, Ev.eqo_ns, Ev.eqo_nt, Ev.eqo_nl, Ev.eqo_nd, Ev.eqo_bn, Ev.eqo_bb, Ev.eqo_bi, Ev.eqo_bs, Ev.eqo_bt, Ev.eqo_bl, Ev.eqo_bd, Ev.eqo_in, Ev.eqo_ib, Ev.eqo_ii, Ev.eqo_is, Ev.eqo_it, Ev.eqo_il, Ev.eqo_id, Ev.eqo_sn, Ev.eqo_sb, Ev.eqo_si, Ev.eqo_ss, Ev.eqo_st, Ev.eqo_sl, Ev.eqo_sd, Ev.eqo_tn, Ev.eqo_tb, Ev.eqo_ti, Ev.eqo_ts, Ev.eqo_te, Ev.eqo_tt, Ev.eqo_tl, Ev.eqo_td, Ev.eqo_ln, Ev.eqo_lb, Ev.eqo_li, Ev.eqo_ls, Ev.eqo_lt, Ev.eqo_ll, Ev.eqo_ld, Ev.eqo_dn, Ev.eqo_db, Ev.eqo_di, Ev.eqo_ds, Ev.eqo_dt, Ev.eqo_dl, Ev.eqo_dd, Ev.inOk, Ev.D.flat, Ev.xTup, Ev.aNil, Ev.aCons, Ev.mSet, Ev.plain_str, Ev.plain_tup, Ev.plain_int, Ev.plain_bl, Ev.plains_nil, Ev.plains_cons, Ev.eqb_str, Ev.eqb_int, Ev.eqb_bl, Ev.eqb_tup, Ev.eqbs_nil, Ev.eqbs_cn, Ev.eqbs_nc, Ev.eqbs_cc, Ev.eqb_nn, Ev.eqb_nb, Ev.eqb_ni, Ev.eqb_ns, Ev.eqb_nt, Ev.eqb_nl, Ev.eqb_nd, Ev.eqb_bn, Ev.eqb_bi, Ev.eqb_bs, Ev.eqb_bt, Ev.eqb_b_l, Ev.eqb_bd, Ev.eqb_in, Ev.eqb_ib, Ev.eqb_is, Ev.eqb_it, Ev.eqb_il, Ev.eqb_id, Ev.eqb_sn, Ev.eqb_sb, Ev.eqb_si, Ev.eqb_sl, Ev.eqb_sd, Ev.eqb_tn, Ev.eqb_tb, Ev.eqb_ti, Ev.eqb_tl, Ev.eqb_td, Ev.eqb_ln, Ev.eqb_lb, Ev.eqb_li, Ev.eqb_ls, Ev.eqb_lt, Ev.eqb_ll, Ev.eqb_ld, Ev.eqb_dn, Ev.eqb_db, Ev.eqb_di, Ev.eqb_ds, Ev.eqb_dt, Ev.eqb_dl, Ev.eqb_dd, Ev.plain_non, Ev.plain_lst, Ev.plain_dic, Ev.eqb_st, Ev.eqb_ts, Ev.xLen, Ev.bip, Ev.xIdx, Ev.mIdx, Ev.index, Ev.mItems, Ev.mList, Ev.xCall, Ev.pp_call, Ev.xBin, Ev.bop_ai, Ev.bop_as, Ev.bop_at, Ev.bop_al, Ev.bop_si, Ev.bop_mi, Ev.bop_ml, Ev.bop_mt, Ev.bop_ms, Ev.bop_mo, Ev.bop_fd, Ev.bop_pw, Ev.SZ, Ev.mSlc, Ev.mPart, Ev.slice, Ev.gUnp, Ev.gCon, Ev.gEnd, Ev.mLst, Ev.gUnpT, Ev.fListT, Ev.mSt, Ev.M.bad, Ev.mChn, Ev.sFor, Ev.loopM, Ev.xBi, Ev.xFz, Ev.fLst, Ev.mCalk, Ev.srcOf, Ev.isn_n, Ev.isn_b, Ev.isn_i, Ev.isn_s, Ev.isn_t, Ev.isn_l, Ev.isn_d, Ev.isn_r, Ev.isn_enc, Ev.fAdd, Ev.fMul, Ev.fList, Ev.asLst, Ev.sOwn, Ev.mOwn, Ev.sApp, Ev.mOwnHere, Ev.mApp, Ev.gStar, Ev.dget, Ev.atI, Ev.fComp, Ev.noX, Ev.Res.noX, Ev.mWipe, Ev.cmpR, Ev.wipeE, Ev.blsOf, Ev.intsOf, Ev.txtsOf, Ev.cut, Ev.sIx, Ev.mZs, Ev.zsOf, Ev.zipD, Ev.mZip, Ev.zipOf, Ev.mRng1, Ev.mRng2, Ev.rngD, Ev.mCount, Ev.mIndexL, Ev.mMt, Ev.tyIs, Ev.mtp, Ev.findD, Ev.sTryAs, Ev.mIsE, Ev.noEx, Ev.sPar, Ev.sPar3, Ev.xRev, Ev.revD, Ev.sTry, Ev.reps, Ev.xNeg, Ev.negD, Ev.xDix, Ev.xDgt, Ev.mPop, Ev.mPopAt, Ev.mExt, Ev.sExt, Ev.xMth, Ev.mMth, Ev.xMak, Ev.mMak, Ev.xFld, Ev.mFld, Ev.insOf, Ev.fget, Ev.fput, Ev.sFst, Ev.mFpt, Ev.sFag, Ev.wp_ok, $ls,*]; subst hK))
namespace Ev
open PySem
open Form
theorem szb_enc (f : Form) : ∀ h : Nat, hgt f ≤ h → szb (enc f) + 51 ≤ 93 * 2 ^ h := by
  induction f with
  | deed a b iha ihb =>
    intro h hh
    simp only [hgt] at hh
    obtain ⟨h, rfl⟩ : ∃ j, h = j + 1 := ⟨h - 1, by omega⟩
    have ea := iha h (by omega)
    have eb := ihb h (by omega)
    simp only [enc, szb, szbs, List.length_cons, List.length_nil]
    rw [Nat.pow_succ]
    omega
  | box a iha =>
    intro h hh
    simp only [hgt] at hh
    obtain ⟨h, rfl⟩ : ∃ j, h = j + 1 := ⟨h - 1, by omega⟩
    have ea := iha h (by omega)
    simp only [enc, szb, szbs, List.length_cons, List.length_nil]
    rw [Nat.pow_succ]
    have : 1 ≤ 2 ^ h := Nat.one_le_two_pow
    omega
  | _ =>
    intro h hh
    have : 1 ≤ 2 ^ h := Nat.one_le_two_pow
    simp only [enc, szb, List.length_cons, List.length_nil]
    omega
theorem szb_enc5 (f : Form) (h : hgt f ≤ 5) : szb (enc f) ≤ 2950 := by
  have := szb_enc f 5 h
  omega
theorem dkb_enc (f : Form) : ∀ n : Nat, hgt f ≤ n → dkb n (enc f) = true := by
  induction f with
  | deed a b iha ihb =>
    intro h hh
    simp only [hgt] at hh
    obtain ⟨h, rfl⟩ : ∃ j, h = j + 1 := ⟨h - 1, by omega⟩
    have ea := iha h (by omega)
    have eb := ihb h (by omega)
    simp only [enc]
    rw [dkb_tup, dkbs_cons, dkbs_cons, dkbs_cons, dkbs_nil, ea, eb]
    simp [dkb]
  | box a iha =>
    intro h hh
    simp only [hgt] at hh
    obtain ⟨h, rfl⟩ : ∃ j, h = j + 1 := ⟨h - 1, by omega⟩
    have ea := iha h (by omega)
    simp only [enc]
    rw [dkb_tup, dkbs_cons, dkbs_cons, dkbs_nil, ea]
    simp [dkb]
  | _ => intro h hh; simp [enc, dkb]
theorem dkb_word {m : Txt} (h : ∀ c ∈ m, c ∈ letters) (n : Nat) : dkb n (.str m) = true := by
  have q : ∀ c ∈ letters, c < 128 := by decide
  simp only [dkb, List.all_eq_true, decide_eq_true_eq]
  exact fun c hc => q c (h c hc)
theorem wordB_parts {l : Nat} {m : Txt} (h : wordB l m = true) : l ≤ m.length ∧ m.length ≤ 8 ∧ ∀ c ∈ m, c ∈ letters := by
  unfold wordB at h
  simp only [Bool.and_eq_true, decide_eq_true_eq, List.all_eq_true] at h
  exact ⟨h.1.1, h.1.2, h.2⟩
theorem okName_word (m : Txt) : okName m = wordB 1 m := by
  cases h : okName m with
  | true =>
    obtain ⟨h1, h2, h3⟩ := okName_parts h
    unfold wordB
    symm
    simp only [Bool.and_eq_true, decide_eq_true_eq, List.all_eq_true]
    exact ⟨⟨h1, h2⟩, h3⟩
  | false =>
    cases q : wordB 1 m with
    | false => rfl
    | true =>
      obtain ⟨h1, h2, h3⟩ := wordB_parts q
      rw [okName_of h1 h2 h3] at h; cases h
def bnd : Nat → Nat | 0 => 3000 | d + 1 => 3 * bnd d + 3300
theorem bnd_low : ∀ d : Nat, 3000 ≤ bnd d
  | 0 => Nat.le_refl _
  | d + 1 => by have := bnd_low d; simp only [bnd]; omega
structure TermOk (d : Nat) (t : D) : Prop where
  ok : termB (d + 1) t = true
  dk : dkb (d + 8) t = true
  sz : szb t ≤ bnd d
def partB (d c : Nat) : Nat := if c = 65 then 2950 else if c = 101 then bnd (d - 1) else 100
structure PartOk (d c : Nat) (v : D) : Prop where
  ok : fitB (termB d) c v = true
  dk : dkb (d + 7) v = true
  sz : szb v ≤ partB d c
theorem part_drawn (T : Tb) [Fn T 113 fd_113] [Fn T 114 fd_114] [Fn T 270 fd_270] [Fn T 271 fd_271] [Fn T 272 fd_272] [Fn T 273 fd_273] [Fn T 477 fd_477] (d n : Nat) (us : List Txt) (hu : 1 ≤ us.length) (hu2 : us.length ≤ 1000) (ok : ∀ u ∈ us, okName u = true) (k : Nat) (hk : 8 < k) (c : Nat) (hc : c ∈ sorts) (hd : c = 65 ∨ c = 101 → 0 < d) (S : Sto) (hp : PotF S n)
    (ih : 0 < d → ∀ S, PotF S n → ∃ t S', callT T k 272 [.ref n, .lst (us.map D.str), .int ((d : Int) - 1)] S = .ok t S' ∧ TermOk (d - 1) t ∧ PotF S' n) :
    ∃ v S', callT T (k + 1) 273 [.ref n, .str [c], .lst (us.map D.str), .int d] S = .ok v S' ∧ PartOk d c v ∧ PotF S' n := by
  simp only [sorts, List.mem_cons, List.not_mem_nil, or_false] at hc
  have hl : (us.map D.str).length = us.length := List.length_map _
  rcases hc with rfl | rfl | rfl | rfl | rfl
  · obtain ⟨i, S1, e1, i1, i2, p1⟩ := number T S n k hp (by omega)
    refine ⟨.int i, S1, ?_, ⟨rfl, ?_, ?_⟩, p1⟩
    · rw [call_step]
      generalize us.map D.str = ul at *
      simp! [b_273, e1]
    · simp [dkb, i1, i2]
    · simp [szb, partB]
  · obtain ⟨m, S1, e1, hm, p1⟩ := letters_drawn T S n k hp (by omega)
    obtain ⟨a1, a2, a3⟩ := wordB_parts hm
    refine ⟨.str m, S1, ?_, ⟨hm, dkb_word a3 _, ?_⟩, p1⟩
    · rw [call_step]
      generalize us.map D.str = ul at *
      simp! [b_273, e1]
    · simp [szb, partB]; omega
  · obtain ⟨j, S1, e1, hj, p1, l1⟩ := digitF T hp us.length (by omega) (Nat.le_trans hu2 (by decide)) k (by omega)
    have e1 : callT T k 113 [.ref n, .int us.length] S = .ok (.int j) S1 := e1
    have hg : us[j]? = some us[j] := List.getElem?_eq_getElem hj
    have ho := ok us[j] (List.getElem_mem hj)
    obtain ⟨a1, a2, a3⟩ := okName_parts ho
    generalize us[j] = u at *
    have ha : atI (us.map D.str) (j : Int) = some (.str u) := by
      unfold atI
      rw [if_pos (by omega)]
      simp [hg]
    refine ⟨.str u, S1, ?_, ⟨?_, dkb_word a3 _, ?_⟩, p1⟩
    · rw [call_step]
      generalize us.map D.str = ul at *
      have l2 : us.length ≤ 16777216 := by omega
      simp (decide := true) [runD, xEqE, sRetL, xCallF, mCallF, mCalkF, Form.enc, sSeq, sIf, sRet, sNx, sAsg, sEx, sRai, ↓mb, Res.bind, mp, M.of, mT, xIsi, mBor, mVar, isTy, mTruth, truth, mOr, mAnd, mIte, mNot, xCmp, cop, eqo_nn, eqo_nb, eqo_ni, eqo_ns, eqo_nt, eqo_nl, eqo_nd, eqo_bn, eqo_bb, eqo_bi, eqo_bs, eqo_bt, eqo_bl, eqo_bd, eqo_in, eqo_ib, eqo_ii, eqo_is, eqo_it, eqo_il, eqo_id, eqo_sn, eqo_sb, eqo_si, eqo_ss, eqo_st, eqo_sl, eqo_sd, eqo_tn, eqo_tb, eqo_ti, eqo_ts, eqo_te, eqo_tt, eqo_tl, eqo_td, eqo_ln, eqo_lb, eqo_li, eqo_ls, eqo_lt, eqo_ll, eqo_ld, eqo_dn, eqo_db, eqo_di, eqo_ds, eqo_dt, eqo_dl, eqo_dd, inOk, D.flat, xTup, aNil, aCons, mSet, plain_str, plain_tup, plain_int, plain_bl, plains_nil, plains_cons, eqb_str, eqb_int, eqb_bl, eqb_tup, eqbs_nil, eqbs_cn, eqbs_nc, eqbs_cc, eqb_nn, eqb_nb, eqb_ni, eqb_ns, eqb_nt, eqb_nl, eqb_nd, eqb_bn, eqb_bi, eqb_bs, eqb_bt, eqb_b_l, eqb_bd, eqb_in, eqb_ib, eqb_is, eqb_it, eqb_il, eqb_id, eqb_sn, eqb_sb, eqb_si, eqb_sl, eqb_sd, eqb_tn, eqb_tb, eqb_ti, eqb_tl, eqb_td, eqb_ln, eqb_lb, eqb_li, eqb_ls, eqb_lt, eqb_ll, eqb_ld, eqb_dn, eqb_db, eqb_di, eqb_ds, eqb_dt, eqb_dl, eqb_dd, plain_non, plain_lst, plain_dic, eqb_st, eqb_ts, xLen, bip, xIdx, mIdx, index, mItems, mList, xCall, pp_call, xBin, bop_ai, bop_as, bop_at, bop_al, bop_si, bop_mi, bop_ml, bop_mt, bop_ms, bop_mo, bop_fd, bop_pw, SZ, mSlc, mPart, slice, gUnp, gCon, gEnd, mLst, gUnpT, fListT, mSt, M.bad, mChn, sFor, loopM, xBi, xFz, fLst, mCalk, srcOf, isn_n, isn_b, isn_i, isn_s, isn_t, isn_l, isn_d, isn_r, isn_enc, fAdd, fMul, fList, asLst, sOwn, mOwn, sApp, mOwnHere, mApp, gStar, dget, fComp, noX, Res.noX, mWipe, cmpR, wipeE, blsOf, intsOf, txtsOf, mZs, zsOf, zipD, mZip, zipOf, mRng1, mRng2, rngD, mCount, mIndexL, mMt, tyIs, mtp, findD, sTryAs, mIsE, noEx, sPar, sPar3, xRev, revD, sTry, reps, xNeg, negD, xDix, xDgt, mPop, mPopAt, mExt, sExt, xMth, mMth, xMak, mMak, xFld, mFld, insOf, fget, fput, sFst, mFpt, sFag, b_273, e1, ha, hl, l2]
    · show wordB 1 u = true
      rw [← okName_word]; exact ho
    · simp [szb, partB]; omega
  · obtain ⟨d, rfl⟩ : ∃ j, d = j + 1 := ⟨d - 1, by have := hd (.inl rfl); omega⟩
    obtain ⟨j, S1, e1, hj, p1, l1⟩ := digitF T hp 4 (by omega) (by omega) k (by omega)
    have e1 : callT T k 113 [.ref n, .int 4] S = .ok (.int j) S1 := e1
    have hh : ∃ h : Nat, h ≤ 5 ∧ [D.int 0, D.int 1, D.int 2, if 3 < ((d + 1 : Nat) : Int) then D.int 5 else D.int 2][j]? = some (.int h) := by
      rcases (show j = 0 ∨ j = 1 ∨ j = 2 ∨ j = 3 by omega) with rfl | rfl | rfl | rfl
      · exact ⟨0, by omega, rfl⟩
      · exact ⟨1, by omega, rfl⟩
      · exact ⟨2, by omega, rfl⟩
      · by_cases q : 3 < ((d + 1 : Nat) : Int)
        · exact ⟨5, by omega, by rw [if_pos q]; rfl⟩
        · exact ⟨2, by omega, by rw [if_neg q]; rfl⟩
    obtain ⟨h, h5, hh⟩ := hh
    obtain ⟨f, S2, e2, hf, p2, l2⟩ := form_drawnF T h S1 n k p1 (by omega)
    refine ⟨enc f, S2, ?_, ⟨?_, dkb_enc f _ (by omega), ?_⟩, p2⟩
    · rw [call_step]
      generalize us.map D.str = ul at *
      generalize enc f = fe at *
      by_cases q : (3 : Int) < ((d + 1 : Nat) : Int)
      · rw [if_pos q] at hh
        have q' : (3 : Int) < (d : Int) + 1 := by omega
        simp! [b_273, e1, e2, hh, q']
      · rw [if_neg q] at hh
        have q' : ¬ (3 : Int) < (d : Int) + 1 := by omega
        simp! [b_273, e1, e2, hh, q']
    · show (dec 5 (enc f)).isSome = true
      rw [dec_enc f 5 (by omega)]; rfl
    · show szb (enc f) ≤ partB (d + 1) 65
      have := szb_enc5 f (by omega)
      simp only [partB, if_true]
      omega
  · obtain ⟨d, rfl⟩ : ∃ j, d = j + 1 := ⟨d - 1, by have := hd (.inr rfl); omega⟩
    obtain ⟨t, S1, e1, ht, p1⟩ := ih (by omega) S hp
    refine ⟨t, S1, ?_, ⟨?_, ?_, ?_⟩, p1⟩
    · rw [call_step]
      generalize us.map D.str = ul at *
      generalize ((d + 1 : Nat) : Int) = di at *
      simp! [b_273, e1]
    · show termB (d + 1) t = true
      exact ht.ok
    · exact ht.dk
    · exact ht.sz
def WL : List Txt := [[110,97,109,101], [110,117,109,98,101,114], [116,101,120,116], [100,101,101,100], [108,101,116], [100,101,101,100], [108,101,116], [99,97,108,108], [116,101,108,108], [105,102], [97,100,100], [115,117,98], [115,105,122,101], [98,111,120], [114,101,97,100], [119,114,105,116,101], [115,97,109,101], [100,111]]
def wlB (d : Nat) : Bool := match WL[d]? with
  | none => false
  | some w => match shp w with
    | none => false
    | some sh => (decide (w.length ≤ 8) && w.all fun c => decide (c < 128)) && (decide (3 ≤ d) || sh.all fun c => !decide (c = 65) && !decide (c = 101))
theorem wl_all : (List.range 18).all wlB = true := by decide +kernel
theorem wl_at (d : Nat) (hd : d < 18) : ∃ w sh, WL[d]? = some w ∧ shp w = some sh ∧ w.length ≤ 8 ∧ (∀ c ∈ w, c < 128) ∧ (d < 3 → ∀ c ∈ sh, ¬ c = 65 ∧ ¬ c = 101) := by
  have h := List.all_eq_true.mp wl_all d (List.mem_range.mpr hd)
  unfold wlB at h
  cases e : WL[d]? with
  | none => rw [e] at h; cases h
  | some w =>
    rw [e] at h
    simp only at h
    cases q : shp w with
    | none => rw [q] at h; cases h
    | some sh =>
      rw [q] at h
      simp only [Bool.and_eq_true, Bool.or_eq_true, decide_eq_true_eq, List.all_eq_true, Bool.not_eq_true', decide_eq_false_iff_not] at h
      refine ⟨w, sh, rfl, q, h.1.1, h.1.2, fun h3 c hc => ?_⟩
      rcases h.2 with h4 | h4
      · omega
      · exact h4 c hc
theorem parts_all {d : Nat} : ∀ (sh : Txt) (vs : List D), F2 (fun x v => ∃ c, x = D.str [c] ∧ PartOk d c v) (signsD sh) vs → vs.length = sh.length ∧ ((sh.zip vs).all fun p => fitB (termB d) p.1 p.2) = true ∧ dkbs (d + 7) vs = true ∧ szbs vs ≤ (sh.map fun c => partB d c + 2).sum
  | [], _, .nil => ⟨rfl, rfl, dkbs_nil _, Nat.le_refl _⟩
  | c :: sh, _, @F2.cons _ _ _ _ _ _ vs h t => by
    obtain ⟨c', e, h⟩ := h
    cases e
    obtain ⟨a1, a2, a3, a4⟩ := parts_all sh vs t
    refine ⟨by simp [a1], ?_, ?_, ?_⟩
    · rw [List.zip_cons_cons, List.all_cons, a2, h.ok]; rfl
    · rw [dkbs_cons, h.dk, a3]; rfl
    · rw [szbs_cons, List.map_cons, List.sum_cons]
      have := h.sz
      omega
theorem sum_le (B : Nat) (f : Nat → Nat) : ∀ sh : Txt, (∀ c ∈ sh, f c ≤ B) → (sh.map f).sum ≤ sh.length * B
  | [], _ => by simp
  | c :: sh, h => by
    have := sum_le B f sh fun c hc => h c (List.mem_cons_of_mem _ hc)
    have := h c List.mem_cons_self
    rw [List.map_cons, List.sum_cons, List.length_cons, Nat.add_mul]
    omega
theorem part_low (d : Nat) (c : Nat) (hc : c = 65 ∨ c = 101 → 0 < d) : partB d c + 2 ≤ bnd (d - 1) + 2 := by
  have := bnd_low (d - 1)
  unfold partB
  split
  · omega
  · split <;> omega
theorem term_tail (T : Tb) [Fn T 113 fd_113] [Fn T 114 fd_114] [Fn T 270 fd_270] [Fn T 271 fd_271] [Fn T 272 fd_272] [Fn T 273 fd_273] [Fn T 477 fd_477] (us : List Txt) (hu : 1 ≤ us.length) (hu2 : us.length ≤ 1000) (ok : ∀ u ∈ us, okName u = true) (n d k : Nat) (hk : 9 < k) (w sh : Txt) (hsh : shp w = some sh) (hw : w.length ≤ 8) (hw2 : ∀ c ∈ w, c < 128) (hlow : ∀ c ∈ sh, c = 65 ∨ c = 101 → 0 < d) (x3 : Option SV) (S : Sto) (hp : PotF S n)
    (ih : 0 < d → ∀ S, PotF S n → ∃ t S', callT T k 272 [.ref n, .lst (us.map D.str), .int ((d : Int) - 1)] S = .ok t S' ∧ TermOk (d - 1) t ∧ PotF S' n) :
    wp ((sRet (xBi .tuple (aCons (xBin .add (xFz (fLst (aCons (mVar 4) aNil))) (xFz (fComp (mItems (xCall (T.prm (callT T (k + 1))) 477 1 (aCons (mVar 4) aNil))) [5] (mSet 5) (M.pure true) (xCall (T.prm (callT T (k + 1))) 273 4 (aCons (mVar 0) (aCons (mVar 5) (aCons (mVar 1) (aCons (mVar 2) aNil)))))))) aNil))) [some (.fz (.ref n)), some (.fz (.lst (us.map D.str))), some (.fz (.int d)), x3, some (.fz (.str w)), none] S) (retK fun t S' => TermOk d t ∧ PotF S' n) noE := by
  obtain ⟨q1, q2, q3⟩ := shp_ok hsh
  have es := shape_of T w (k + 1) S (by omega)
  rw [hsh] at es
  have es : callT T (k + 1) 477 [.str w] S = .ok (.str sh) (S ++ [.dct SHD, .dct SA2, .dct SA3]) := es
  have p2 : PotF (S ++ [.dct SHD, .dct SA2, .dct SA3]) n := Gr.potF rfl (by decide +kernel) hp
  generalize S ++ [Cell.dct SHD, .dct SA2, .dct SA3] = S2 at *
  have l3 : sh.length ≤ 16777216 := by omega
  refine wp_bind (wp_bind (wp_bind (wp_bind ?_)))
  dsimp! only []
  refine kb_i (wp_bind (wp_bind (wp_fcomp ?_)))
  dsimp! only [es, l3]
  show wp (cmpR _ _ _ _ [] (signsD sh) _ S2) _ _
  refine wp_comp (fun S' => PotF S' n) (fun x v => ∃ c, x = D.str [c] ∧ PartOk d c v) p2 (by simp [signsD, SZ]; omega) (fun x hx S3 p3 => ?_) (fun vs S4 q p4 => ?_)
  · obtain ⟨c, hc, rfl⟩ := List.mem_map.mp hx
    obtain ⟨v, S5, e5, hv, p5⟩ := part_drawn T d n us hu hu2 ok k (by omega) c (q3 c hc) (hlow c hc) S3 p3 ih
    generalize us.map D.str = ul at *
    dsimp! only [e5, mWipe, wipeE]
    exact ⟨rfl, ⟨c, rfl, hv⟩, p5⟩
  · obtain ⟨a1, a2, a3, a4⟩ := parts_all sh vs q
    have l4 : vs.length ≤ 16777215 := by omega
    have l5 : vs.length + 1 ≤ 16777216 := by omega
    have l6 : 1 + vs.length ≤ 16777216 := by omega
    have hdone : TermOk d (.tup (.str w :: vs)) := by
      refine ⟨?_, ?_, ?_⟩
      · simp only [termB, hsh, a1, decide_true, Bool.true_and]
        exact a2
      · rw [dkb_tup, dkbs_cons, a3]
        simp only [dkb, Bool.and_true, List.all_eq_true, decide_eq_true_eq]
        exact hw2
      · rw [szb_tup, szbs_cons]
        simp only [szb]
        cases d with
        | zero =>
          have := sum_le 102 (fun c => partB 0 c + 2) sh (fun c hc => by
            have := hlow c hc
            have h1 : ¬ c = 65 := fun e => by have := this (.inl e); omega
            have h2 : ¬ c = 101 := fun e => by have := this (.inr e); omega
            simp [partB, h1, h2])
          have : sh.length * 102 ≤ 3 * 102 := Nat.mul_le_mul_right _ q2
          simp only [bnd]
          omega
        | succ d =>
          have h1 := sum_le (bnd d + 2) (fun c => partB (d + 1) c + 2) sh (fun c hc => part_low (d + 1) c (hlow c hc))
          have h2 : sh.length * (bnd d + 2) ≤ 3 * (bnd d + 2) := Nat.mul_le_mul_right _ q2
          simp only [bnd]
          omega
    generalize us.map D.str = ul at *
    simp! [kb, wp_ok, retK_rt, l4, l5, l6, wipeE]
    exact ⟨hdone, p4⟩
theorem term_step (T : Tb) [Fn T 113 fd_113] [Fn T 114 fd_114] [Fn T 270 fd_270] [Fn T 271 fd_271] [Fn T 272 fd_272] [Fn T 273 fd_273] [Fn T 477 fd_477] (us : List Txt) (hu : 1 ≤ us.length) (hu2 : us.length ≤ 1000) (ok : ∀ u ∈ us, okName u = true) (n d k : Nat) (hk : 9 < k) (S : Sto) (hp : PotF S n)
    (ih : 0 < d → ∀ S, PotF S n → ∃ t S', callT T k 272 [.ref n, .lst (us.map D.str), .int ((d : Int) - 1)] S = .ok t S' ∧ TermOk (d - 1) t ∧ PotF S' n) :
    ∃ t S', callT T (k + 2) 272 [.ref n, .lst (us.map D.str), .int d] S = .ok t S' ∧ TermOk d t ∧ PotF S' n := by
  refine runW rfl ?_
  show wp (b_272 (T.prm (callT T (k + 1))) [some (.fz (.ref n)), some (.fz (.lst (us.map D.str))), some (.fz (.int d)), none, none, none] S) _ _
  by_cases h0 : 0 < d
  · obtain ⟨j, S1, e1, hj, p1, l1⟩ := digitF T hp 18 (by omega) (by omega) (k + 1) (by omega)
    have e1 : callT T (k + 1) 113 [.ref n, .int 18] S = .ok (.int j) S1 := e1
    obtain ⟨w, sh, b1, b2, b3, b4, b5⟩ := wl_at j hj
    have tl := term_tail T us hu hu2 ok n d k hk w sh b2 b3 b4 (fun _ _ _ => h0) (some (.fz (.lst (WL.map D.str)))) S1 p1 ih
    have ha : atI (WL.map D.str) (j : Int) = some (.str w) := by unfold atI; rw [if_pos (by omega)]; simp [b1]
    have hW : WL.map D.str = [.str [110,97,109,101], .str [110,117,109,98,101,114], .str [116,101,120,116], .str [100,101,101,100], .str [108,101,116], .str [100,101,101,100], .str [108,101,116], .str [99,97,108,108], .str [116,101,108,108], .str [105,102], .str [97,100,100], .str [115,117,98], .str [115,105,122,101], .str [98,111,120], .str [114,101,97,100], .str [119,114,105,116,101], .str [115,97,109,101], .str [100,111]] := rfl
    have i0 : (0 : Int) < (d : Int) := by omega
    generalize us.map D.str = ul at *
    unfold b_272
    dsimp! []
    dsimp! []
    rw [← hW]
    generalize WL.map D.str = wl at *
    refine wp_seq_i fun K hK => ?_
    simp (decide := true) [runD, xEqE, sRetL, xCallF, mCallF, mCalkF, Form.enc, sSeq, sIf, sRet, sNx, sAsg, sEx, sRai, ↓mb, Res.bind, mp, M.of, mT, xIsi, mBor, mVar, isTy, mTruth, truth, mOr, mAnd, mIte, mNot, xCmp, cop, eqo_nn, eqo_nb, eqo_ni, eqo_ns, eqo_nt, eqo_nl, eqo_nd, eqo_bn, eqo_bb, eqo_bi, eqo_bs, eqo_bt, eqo_bl, eqo_bd, eqo_in, eqo_ib, eqo_ii, eqo_is, eqo_it, eqo_il, eqo_id, eqo_sn, eqo_sb, eqo_si, eqo_ss, eqo_st, eqo_sl, eqo_sd, eqo_tn, eqo_tb, eqo_ti, eqo_ts, eqo_te, eqo_tt, eqo_tl, eqo_td, eqo_ln, eqo_lb, eqo_li, eqo_ls, eqo_lt, eqo_ll, eqo_ld, eqo_dn, eqo_db, eqo_di, eqo_ds, eqo_dt, eqo_dl, eqo_dd, inOk, D.flat, xTup, aNil, aCons, mSet, plain_str, plain_tup, plain_int, plain_bl, plains_nil, plains_cons, eqb_str, eqb_int, eqb_bl, eqb_tup, eqbs_nil, eqbs_cn, eqbs_nc, eqbs_cc, eqb_nn, eqb_nb, eqb_ni, eqb_ns, eqb_nt, eqb_nl, eqb_nd, eqb_bn, eqb_bi, eqb_bs, eqb_bt, eqb_b_l, eqb_bd, eqb_in, eqb_ib, eqb_is, eqb_it, eqb_il, eqb_id, eqb_sn, eqb_sb, eqb_si, eqb_sl, eqb_sd, eqb_tn, eqb_tb, eqb_ti, eqb_tl, eqb_td, eqb_ln, eqb_lb, eqb_li, eqb_ls, eqb_lt, eqb_ll, eqb_ld, eqb_dn, eqb_db, eqb_di, eqb_ds, eqb_dt, eqb_dl, eqb_dd, plain_non, plain_lst, plain_dic, eqb_st, eqb_ts, xLen, bip, xIdx, mIdx, index, mItems, mList, xCall, pp_call, xBin, bop_ai, bop_as, bop_at, bop_al, bop_si, bop_mi, bop_ml, bop_mt, bop_ms, bop_mo, bop_fd, bop_pw, SZ, mSlc, mPart, slice, gUnp, gCon, gEnd, mLst, gUnpT, fListT, mSt, M.bad, mChn, sFor, loopM, xBi, xFz, fLst, mCalk, srcOf, isn_n, isn_b, isn_i, isn_s, isn_t, isn_l, isn_d, isn_r, isn_enc, fAdd, fMul, fList, asLst, sOwn, mOwn, sApp, mOwnHere, mApp, gStar, dget, fComp, noX, Res.noX, mWipe, cmpR, wipeE, blsOf, intsOf, txtsOf, mZs, zsOf, zipD, mZip, zipOf, mRng1, mRng2, rngD, mCount, mIndexL, mMt, tyIs, mtp, findD, sTryAs, mIsE, noEx, sPar, sPar3, xRev, revD, sTry, reps, xNeg, negD, xDix, xDgt, mPop, mPopAt, mExt, sExt, xMth, mMth, xMak, mMak, xFld, mFld, insOf, fget, fput, sFst, mFpt, sFag, wp_ok, e1, h0, ha]
    subst hK
    exact tl
  · have hd0 : d = 0 := by omega
    subst hd0
    obtain ⟨j, S1, e1, hj, p1, l1⟩ := digitF T hp 3 (by omega) (by omega) (k + 1) (by omega)
    have e1 : callT T (k + 1) 113 [.ref n, .int 3] S = .ok (.int j) S1 := e1
    obtain ⟨w, sh, b1, b2, b3, b4, b5⟩ := wl_at j (by omega)
    have tl := term_tail T us hu hu2 ok n 0 k hk w sh b2 b3 b4 (fun c hc q => by have := b5 hj c hc; rcases q with rfl | rfl <;> simp at this) (some (.fz (.lst (WL.map D.str)))) S1 p1 ih
    have ha : atI (WL.map D.str) (j : Int) = some (.str w) := by unfold atI; rw [if_pos (by omega)]; simp [b1]
    have hW : WL.map D.str = [.str [110,97,109,101], .str [110,117,109,98,101,114], .str [116,101,120,116], .str [100,101,101,100], .str [108,101,116], .str [100,101,101,100], .str [108,101,116], .str [99,97,108,108], .str [116,101,108,108], .str [105,102], .str [97,100,100], .str [115,117,98], .str [115,105,122,101], .str [98,111,120], .str [114,101,97,100], .str [119,114,105,116,101], .str [115,97,109,101], .str [100,111]] := rfl
    generalize us.map D.str = ul at *
    unfold b_272
    dsimp! []
    dsimp! []
    rw [← hW]
    generalize WL.map D.str = wl at *
    refine wp_seq_i fun K hK => ?_
    simp (decide := true) [runD, xEqE, sRetL, xCallF, mCallF, mCalkF, Form.enc, sSeq, sIf, sRet, sNx, sAsg, sEx, sRai, ↓mb, Res.bind, mp, M.of, mT, xIsi, mBor, mVar, isTy, mTruth, truth, mOr, mAnd, mIte, mNot, xCmp, cop, eqo_nn, eqo_nb, eqo_ni, eqo_ns, eqo_nt, eqo_nl, eqo_nd, eqo_bn, eqo_bb, eqo_bi, eqo_bs, eqo_bt, eqo_bl, eqo_bd, eqo_in, eqo_ib, eqo_ii, eqo_is, eqo_it, eqo_il, eqo_id, eqo_sn, eqo_sb, eqo_si, eqo_ss, eqo_st, eqo_sl, eqo_sd, eqo_tn, eqo_tb, eqo_ti, eqo_ts, eqo_te, eqo_tt, eqo_tl, eqo_td, eqo_ln, eqo_lb, eqo_li, eqo_ls, eqo_lt, eqo_ll, eqo_ld, eqo_dn, eqo_db, eqo_di, eqo_ds, eqo_dt, eqo_dl, eqo_dd, inOk, D.flat, xTup, aNil, aCons, mSet, plain_str, plain_tup, plain_int, plain_bl, plains_nil, plains_cons, eqb_str, eqb_int, eqb_bl, eqb_tup, eqbs_nil, eqbs_cn, eqbs_nc, eqbs_cc, eqb_nn, eqb_nb, eqb_ni, eqb_ns, eqb_nt, eqb_nl, eqb_nd, eqb_bn, eqb_bi, eqb_bs, eqb_bt, eqb_b_l, eqb_bd, eqb_in, eqb_ib, eqb_is, eqb_it, eqb_il, eqb_id, eqb_sn, eqb_sb, eqb_si, eqb_sl, eqb_sd, eqb_tn, eqb_tb, eqb_ti, eqb_tl, eqb_td, eqb_ln, eqb_lb, eqb_li, eqb_ls, eqb_lt, eqb_ll, eqb_ld, eqb_dn, eqb_db, eqb_di, eqb_ds, eqb_dt, eqb_dl, eqb_dd, plain_non, plain_lst, plain_dic, eqb_st, eqb_ts, xLen, bip, xIdx, mIdx, index, mItems, mList, xCall, pp_call, xBin, bop_ai, bop_as, bop_at, bop_al, bop_si, bop_mi, bop_ml, bop_mt, bop_ms, bop_mo, bop_fd, bop_pw, SZ, mSlc, mPart, slice, gUnp, gCon, gEnd, mLst, gUnpT, fListT, mSt, M.bad, mChn, sFor, loopM, xBi, xFz, fLst, mCalk, srcOf, isn_n, isn_b, isn_i, isn_s, isn_t, isn_l, isn_d, isn_r, isn_enc, fAdd, fMul, fList, asLst, sOwn, mOwn, sApp, mOwnHere, mApp, gStar, dget, fComp, noX, Res.noX, mWipe, cmpR, wipeE, blsOf, intsOf, txtsOf, mZs, zsOf, zipD, mZip, zipOf, mRng1, mRng2, rngD, mCount, mIndexL, mMt, tyIs, mtp, findD, sTryAs, mIsE, noEx, sPar, sPar3, xRev, revD, sTry, reps, xNeg, negD, xDix, xDgt, mPop, mPopAt, mExt, sExt, xMth, mMth, xMak, mMak, xFld, mFld, insOf, fget, fput, sFst, mFpt, sFag, wp_ok, e1, ha]
    subst hK
    exact tl
theorem term_drawn (T : Tb) [Fn T 113 fd_113] [Fn T 114 fd_114] [Fn T 270 fd_270] [Fn T 271 fd_271] [Fn T 272 fd_272] [Fn T 273 fd_273] [Fn T 477 fd_477] (us : List Txt) (hu : 1 ≤ us.length) (hu2 : us.length ≤ 1000) (ok : ∀ u ∈ us, okName u = true) (n : Nat) : ∀ (d : Nat) (k : Nat) (S : Sto), PotF S n → 2 * d + 12 < k → ∃ t S', callT T k 272 [.ref n, .lst (us.map D.str), .int d] S = .ok t S' ∧ TermOk d t ∧ PotF S' n := by
  intro d
  induction d with
  | zero =>
    intro k S hp hk
    obtain ⟨k, rfl⟩ : ∃ j, k = j + 2 := ⟨k - 2, by omega⟩
    exact term_step T us hu hu2 ok n 0 k (by omega) S hp (fun h => absurd h (by omega))
  | succ d ih =>
    intro k S hp hk
    obtain ⟨k, rfl⟩ : ∃ j, k = j + 2 := ⟨k - 2, by omega⟩
    refine term_step T us hu hu2 ok n (d + 1) k (by omega) S hp (fun _ S hp => ?_)
    have e : ((d + 1 : Nat) : Int) - 1 = (d : Int) := by omega
    rw [e]
    exact ih k S hp (by omega)
end Ev
set_option Elab.async false
set_option linter.all false
set_option autoImplicit false
set_option maxRecDepth 100000
set_option maxHeartbeats 4000000
namespace Ev
open PySem
open Form
theorem pot_app (T : Tb) [Fn T 112 fd_112] (ns : List Int) (i : Nat) (hi : i ≤ 100) (k : Nat) (S : Sto) (hk : 0 < k) : ∃ a b : Int, callT T k 112 [.scr ns, .int i] S = .ok (.ref S.length) (S ++ [.lst [.int a, .int b]]) ∧ 0 ≤ a := by
  obtain ⟨k, rfl⟩ : ∃ j, k = j + 1 := ⟨k - 1, by omega⟩
  rw [call_step]
  by_cases h : (i : Int) < (ns.length : Int)
  · have hi2 : i < ns.length := by omega
    have ha : atI ns (i : Int) = some ns[i] := by
      unfold atI
      rw [if_pos (by omega)]
      simp [hi2]
    obtain ⟨a, b, p, e⟩ := potRun ns[i] i hi S [] k (some (.fz (.scr ns))) none
    refine ⟨a, b, ?_, p⟩
    have e1 : (mIte (xCmp .lt (mVar 1) (xLen (mBor 0))) (xIdx (mBor 0) (mVar 1)) (M.pure (.int 0))) [some (.fz (.scr ns)), some (.fz (.int i)), none] S = .ok (.int ns[i]) [some (.fz (.scr ns)), some (.fz (.int i)), none] S := by
      simp_all! [mIte, h, hi2, ha]
    simp only [runD, b_112, sSeq, sAsg, sRet, sNx, mb, e1, rb_ok, mSet, mp, List.map, List.length, List.replicate, List.append, List.set, List.cons_append, List.nil_append]
    simp [mb, mp, e]
  · have hi2 : ¬ i < ns.length := by omega
    obtain ⟨a, b, p, e⟩ := potRun 0 i hi S [] k (some (.fz (.scr ns))) none
    refine ⟨a, b, ?_, p⟩
    have e1 : (mIte (xCmp .lt (mVar 1) (xLen (mBor 0))) (xIdx (mBor 0) (mVar 1)) (M.pure (.int 0))) [some (.fz (.scr ns)), some (.fz (.int i)), none] S = .ok (.int 0) [some (.fz (.scr ns)), some (.fz (.int i)), none] S := by
      simp_all! [mIte, h, hi2]
    simp only [runD, b_112, sSeq, sAsg, sRet, sNx, mb, e1, rb_ok, mSet, mp, List.map, List.length, List.replicate, List.append, List.set, List.cons_append, List.nil_append]
    simp [mb, mp, e]
theorem potF (T : Tb) [Fn T 112 fd_112] (ns : List Int) (i : Nat) (hi : i ≤ 100) (k : Nat) (S : Sto) (hk : 0 < k) (hS : S.all flatC = true) : ∃ S', callT T k 112 [.scr ns, .int i] S = .ok (.ref S.length) S' ∧ PotF S' S.length := by
  obtain ⟨a, b, e, h⟩ := pot_app T ns i hi k S hk
  refine ⟨_, e, ⟨a, b, by simp, h⟩, ?_⟩
  rw [List.all_append, hS]; rfl
/-- all([e for k in range(..)]), with what holds of the store -/
theorem law_allJ {mr : M (List D)} {e : M D} (J : Sto → Prop) (ns : List Int) (S : Sto) (hJ : J S)
    (hr : ∃ m : Nat, m ≤ 100 ∧ mr [some (.fz (.scr ns)), none] S = .ok (rngD 0 m) [some (.fz (.scr ns)), none] S)
    (ht : ∀ (i : Nat) (S : Sto), i ≤ 100 → J S → ∃ S', e [some (.fz (.scr ns)), some (.fz (.int i))] S = .ok (.bl true) [some (.fz (.scr ns)), some (.fz (.int i))] S' ∧ J S') :
    ∃ S', (sRet (xBi .all (aCons (xFz (fComp mr [1] (mSet 1) (M.pure true) e)) aNil))) [some (.fz (.scr ns)), none] S = .ok (.rt (.bl true)) [some (.fz (.scr ns)), none] S' ∧ J S' := by
  obtain ⟨m, hm, er⟩ := hr
  have w : wp ((sRet (xBi .all (aCons (xFz (fComp mr [1] (mSet 1) (M.pure true) e)) aNil))) [some (.fz (.scr ns)), none] S) (fun f ρ S' => f = .rt (.bl true) ∧ ρ = [some (.fz (.scr ns)), none] ∧ J S') noE := by
    refine wp_bind (wp_bind (wp_bind (wp_bind (wp_fcomp (wp_of er ?_)))))
    show wp (cmpR _ _ _ _ [] _ [some (.fz (.scr ns)), none] S) _ _
    refine wp_comp J (fun _ v => v = .bl true) hJ (by rw [rngD_len]; simp [SZ]; omega) (fun d hd S1 h1 => ?_) (fun vs S1 q h1 => ?_)
    · obtain ⟨i, hi, rfl⟩ := mem_rngD m 0 d hd
      have : (0 : Int) + (i : Int) = i := by omega
      rw [this]
      obtain ⟨S2, e2, h2⟩ := ht i S1 (by omega) h1
      refine wp_bind (wp_of (show mSet 1 _ _ _ = .ok () [some (.fz (.scr ns)), some (.fz (.int i))] S1 from rfl) (kb_i (wp_bind (wp_of e2 (kb_i ?_)))))
      exact ⟨rfl, rfl, h2⟩
    · have ha := all_true _ _ q
      have hb : (blsOf vs).map (fun bs => D.bl (bs.all id)) = some (.bl true) := by
        cases q2 : blsOf vs with
        | none => rw [q2] at ha; cases ha
        | some bs => rw [q2] at ha; simp at ha ⊢; exact ha
      simp! [kb, wp_ok, hb]
      exact h1
  obtain ⟨f, ρ, S', e', rfl, rfl, h'⟩ := wp_to w
  exact ⟨S', e', h'⟩
end Ev
set_option Elab.async false
set_option linter.all false
set_option autoImplicit false
set_option maxRecDepth 100000
set_option maxHeartbeats 4000000
namespace Ev
open PySem
open Form
def below (sh : Txt) (xs : List D) : List D := ((sh.zip xs).filter fun p => p.1 == 101).map (·.2)
def belowD : List D → List D
  | [] => []
  | .tup [.str [c], x] :: r => if c = 101 then x :: belowD r else belowD r
  | _ :: r => belowD r
theorem belowD_zip : ∀ (sh : Txt) (xs : List D), belowD (zipD (signsD sh) xs) = below sh xs
  | [], xs => by simp [signsD, zipD, below, belowD]
  | c :: sh, [] => by simp [signsD, zipD, below, belowD]
  | c :: sh, x :: xs => by
    have ih := belowD_zip sh xs
    unfold below at ih ⊢
    simp only [signsD, List.map_cons, zipD, List.zip_cons_cons, belowD, List.filter_cons] at ih ⊢
    by_cases h : c = 101
    · subst h; simp [ih]
    · simp [h, ih]
def pairD (d : D) : Prop := ∃ (c : Nat) (x : D), d = .tup [.str [c], x]
theorem pairs_zip : ∀ (sh : Txt) (xs : List D), ∀ d ∈ zipD (signsD sh) xs, pairD d
  | [], xs, d, h => by simp [signsD, zipD] at h
  | c :: sh, [], d, h => by simp [signsD, zipD] at h
  | c :: sh, x :: xs, d, h => by
    simp only [signsD, List.map_cons, zipD] at h
    rcases List.mem_cons.mp h with rfl | h
    · exact ⟨c, x, rfl⟩
    · exact pairs_zip sh xs d h
theorem szip_len : ∀ (sh : Txt) (xs : List D), (zipD (signsD sh) xs).length ≤ sh.length
  | [], xs => by simp [signsD, zipD]
  | c :: sh, [] => by simp [signsD, zipD]
  | c :: sh, x :: xs => by
    have := szip_len sh xs
    simp only [signsD, List.map_cons, zipD, List.length_cons] at this ⊢
    omega
def cntB : Nat → D → Nat
  | m + 1, .tup (.str w :: xs) => match shp w with
    | some sh => 1 + ((below sh xs).map (cntB m)).sum
    | none => 0
  | _, _ => 0
theorem termB_elim {m : Nat} {x : D} (h : termB m x = true) : ∃ j w sh xs, m = j + 1 ∧ x = .tup (.str w :: xs) ∧ shp w = some sh ∧ xs.length = sh.length ∧ ∀ p ∈ sh.zip xs, fitB (termB j) p.1 p.2 = true := by
  unfold termB at h
  split at h
  · rename_i j w xs
    cases hs : shp w with
    | none => rw [hs] at h; cases h
    | some sh =>
      rw [hs] at h
      simp only [Bool.and_eq_true, decide_eq_true_eq, List.all_eq_true] at h
      exact ⟨j, w, sh, xs, rfl, rfl, hs, h.1, h.2⟩
  · cases h
theorem below_term {j : Nat} {sh : Txt} {xs : List D} (h : ∀ p ∈ sh.zip xs, fitB (termB j) p.1 p.2 = true) : ∀ y ∈ below sh xs, termB j y = true := fun y hy => by
  unfold below at hy
  obtain ⟨p, hp, rfl⟩ := List.mem_map.mp hy
  obtain ⟨h1, h2⟩ := List.mem_filter.mp hp
  have := h p h1
  have e : p.1 = 101 := by simpa using h2
  rw [e] at this
  exact this
theorem below_len (sh : Txt) (xs : List D) : (below sh xs).length ≤ sh.length := by
  unfold below
  rw [List.length_map]
  refine Nat.le_trans (List.length_filter_le _ _) ?_
  rw [List.length_zip]
  omega
theorem terms_in (T : Tb) [Fn T 266 fd_266] (w sh : Txt) (xs : List D) (hsh : shp w = some sh) (hl : xs.length = sh.length) (k : Nat) (S : Sto) (hk : 0 < k) : callT T k 266 [.tup (.str w :: xs)] S = .ok (.lst (below sh xs)) S := by
  obtain ⟨k, rfl⟩ : ∃ j, k = j + 1 := ⟨k - 1, by omega⟩
  obtain ⟨q1, q2, q3⟩ := shp_ok hsh
  have dg := dget_SHD w
  rw [hsh] at dg
  have dg : dget (.str w) SHD = some (.str sh) := dg
  have hh : sh.length = xs.length := hl.symm
  have w1 : ∃ v S', callT T (k + 1) 266 [.tup (.str w :: xs)] S = .ok v S' ∧ (v = .lst (below sh xs) ∧ S' = S) := by
    refine runW rfl ?_
    show wp (b_266 (T.prm (callT T k)) [some (.fz (.tup (.str w :: xs))), none, none, none, none] S) _ _
    unfold b_266
    refine wp_seq (wp_of (show _ = Res.ok _ [some (.fz (.tup (.str w :: xs))), some (.fz (.str w)), some (.fz (.lst xs)), none, none] S from rfl) (ks_nx ?_))
    refine wp_bind (wp_bind (wp_fcomp ?_))
    refine wp_of (show _ = Res.ok (zipD (signsD sh) xs) [some (.fz (.tup (.str w :: xs))), some (.fz (.str w)), some (.fz (.lst xs)), none, none] S from ?_) ?_
    · show (mZv (aCons (xIdx (M.pure (.dic SHD)) (mVar 1)) (aCons (mVar 2) aNil))) _ S = _
      unfold mZv
      refine (bind_ok (show (aCons (xIdx (M.pure (.dic SHD)) (mVar 1)) (aCons (mVar 2) aNil)) _ S = .ok [.str sh, .lst xs] [some (.fz (.tup (.str w :: xs))), some (.fz (.str w)), some (.fz (.lst xs)), none, none] S by
        simp [aCons, aNil, ↓mb, Res.bind, xIdx, mVar, mp, M.of, mIdx, idxS, dg])).trans ?_
      show (if sh.length = xs.length then M.pure (zipD (signsD sh) xs) else M.bad) _ S = _
      rw [if_pos hh]; rfl
    · show wp (cmpR _ _ _ _ [] _ [some (.fz (.tup (.str w :: xs))), some (.fz (.str w)), some (.fz (.lst xs)), none, none] S) _ _
      refine wp_filt (fun acc rest S' => S' = S ∧ acc ++ belowD rest = belowD (zipD (signsD sh) xs) ∧ ∀ d ∈ rest, pairD d) (fun acc d r S1 ⟨h1, h2, h3⟩ => ?_) (fun acc S1 ⟨h1, h2, h3⟩ => ?_) _ _ _ ⟨rfl, rfl, pairs_zip sh xs⟩ (by have := szip_len sh xs; simp [SZ]; omega)
      · obtain ⟨c, x, rfl⟩ := h3 d List.mem_cons_self
        subst h1
        by_cases hc : c = 101
        · subst hc
          dsimp! only [mWipe, wipeE]
          refine ⟨rfl, rfl, ?_, fun d hd => h3 d (List.mem_cons_of_mem _ hd)⟩
          simpa [belowD] using h2
        · dsimp! only [mWipe, wipeE, hc]
          refine ⟨rfl, rfl, ?_, fun d hd => h3 d (List.mem_cons_of_mem _ hd)⟩
          simpa [belowD, hc] using h2
      · subst h1
        rw [belowD_zip] at h2
        simp only [belowD, List.append_nil] at h2
        subst h2
        exact ⟨rfl, rfl⟩
  obtain ⟨v, S', e, rfl, rfl⟩ := w1
  exact e
theorem ints_nat (f : D → Nat) : ∀ ds : List D, intsOf (ds.map fun d => D.int (f d)) = some (ds.map fun d => (f d : Int))
  | [] => rfl
  | d :: ds => by simp only [List.map_cons, intsOf, ints_nat f ds, Option.map_some]
theorem sum_nat (f : D → Nat) : ∀ ds : List D, (ds.map fun d => (f d : Int)).sum = ((ds.map f).sum : Nat)
  | [] => rfl
  | d :: ds => by simp only [List.map_cons, List.sum_cons, sum_nat f ds]; omega
theorem many_in (T : Tb) [Fn T 266 fd_266] [Fn T 267 fd_267] : ∀ (m : Nat) (x : D), termB m x = true → ∀ (k : Nat) (S : Sto), m + 1 < k → callT T k 267 [x] S = .ok (.int (cntB m x)) S := by
  intro m
  induction m with
  | zero => intro x h; simp [termB] at h
  | succ m ih =>
    intro x h k S hk
    obtain ⟨j, w, sh, xs, rfl0, rfl, hsh, hl, hf⟩ := termB_elim h
    obtain rfl : m = j := by omega
    obtain ⟨k, rfl⟩ : ∃ j, k = j + 1 := ⟨k - 1, by omega⟩
    obtain ⟨q1, q2, q3⟩ := shp_ok hsh
    have et := terms_in T w sh xs hsh hl k S (by omega)
    have hb := below_term hf
    have hbl := below_len sh xs
    have hz : cntB (m + 1) (.tup (.str w :: xs)) = 1 + ((below sh xs).map (cntB m)).sum := by simp [cntB, hsh]
    rw [hz]
    generalize D.tup (.str w :: xs) = x at *
    generalize below sh xs = bs at *
    have w1 : ∃ v S', callT T (k + 1) 267 [x] S = .ok v S' ∧ (v = .int ((1 + (bs.map (cntB m)).sum : Nat) : Int) ∧ S' = S) := by
      refine runW rfl ?_
      show wp (b_267 (T.prm (callT T k)) [some (.fz x), none] S) _ _
      unfold b_267
      refine wp_bind (wp_bind (wp_of (show _ = Res.ok (D.int 1) [some (.fz x), none] S from rfl) (kb_i (wp_bind (wp_bind (wp_bind (wp_bind (wp_fcomp ?_))))))))
      dsimp! only [et]
      show wp (cmpR _ _ _ _ [] bs [some (.fz x), none] S) _ _
      refine wp_comp (fun S' => S' = S) (fun d v => v = .int (cntB m d)) rfl (by simp [SZ]; omega) (fun d hd S1 h1 => ?_) (fun vs S1 q h1 => ?_)
      · subst h1
        have e := ih d (hb d hd) k S1 (by omega)
        dsimp! only [e, mWipe, wipeE]
        exact ⟨rfl, rfl, rfl⟩
      · subst h1
        have := F2.eqmap (fun d => D.int (cntB m d)) q
        subst this
        have hi := ints_nat (cntB m) bs
        have hs := sum_nat (cntB m) bs
        have hb2 : ((1 + (bs.map (cntB m)).sum : Nat) : Int) = 1 + ((bs.map (cntB m)).sum : Int) := by omega
        rw [hb2]
        generalize (bs.map (cntB m)).sum = sm at *
        generalize bs.map (fun d => D.int (cntB m d)) = ds at *
        simp! [kb, wp_ok, retK_rt, hi, hs]
    obtain ⟨v, S', e, rfl, rfl⟩ := w1
    exact e
theorem want_term (T : Tb) [Fn T 101 fd_101] [Fn T 102 fd_102] [Fn T 149 fd_149] [Fn T 261 fd_261] [Fn T 262 fd_262] [Fn T 263 fd_263] [Fn T 264 fd_264] [Fn T 265 fd_265] (m : Nat) (x : D) (h : termB m x = true) (hx : dkb m x = true) (hs : szb x ≤ 16777216) (k : Nat) (S : Sto) (hk : 2 * m + 11 < k) : callT T k 265 [x] S = .ok .non S := by
  obtain ⟨k, rfl⟩ : ∃ j, k = j + 1 := ⟨k - 1, by omega⟩
  have e := is_term_any T m x hx hs k S (by omega)
  rw [h] at e
  rw [call_step]
  simp! [b_265, e]
theorem parts_in (T : Tb) [Fn T 101 fd_101] [Fn T 102 fd_102] [Fn T 149 fd_149] [Fn T 261 fd_261] [Fn T 262 fd_262] [Fn T 263 fd_263] [Fn T 264 fd_264] [Fn T 265 fd_265] [Fn T 266 fd_266] [Fn T 267 fd_267] [Fn T 268 fd_268] (m : Nat) (x : D) (h : termB m x = true) (hx : dkb m x = true) (hs : szb x ≤ 16777216) (k : Nat) (S : Sto) (hk : 2 * m + 12 < k) : callT T k 268 [x] S = .ok (.int (cntB m x)) S := by
  obtain ⟨k, rfl⟩ : ∃ j, k = j + 1 := ⟨k - 1, by omega⟩
  have e1 := want_term T m x h hx hs k S (by omega)
  have e2 := many_in T m x h k S (by omega)
  rw [call_step]
  simp! [b_268, e1, e2]
theorem termB_up : ∀ (n : Nat) (x : D), termB n x = true → ∀ m, n ≤ m → termB m x = true := by
  intro n
  induction n with
  | zero => intro x h; simp [termB] at h
  | succ n ih =>
    intro x h m hm
    obtain ⟨j, w, sh, xs, rfl0, rfl, hsh, hl, hf⟩ := termB_elim h
    obtain rfl : n = j := by omega
    obtain ⟨m, rfl⟩ : ∃ j, m = j + 1 := ⟨m - 1, by omega⟩
    simp only [termB, hsh, hl, decide_true, Bool.true_and, List.all_eq_true]
    intro p hp
    have := hf p hp
    unfold fitB at this ⊢
    split
    · rename_i q; rw [if_pos q] at this; exact this
    · rename_i q
      rw [if_neg q] at this
      split
      · rename_i q; rw [if_pos q] at this; exact this
      · rename_i q
        rw [if_neg q] at this
        split
        · rename_i q; rw [if_pos q] at this; exact this
        · rename_i q
          rw [if_neg q] at this
          split
          · rename_i q; rw [if_pos q] at this; exact this
          · rename_i q
            rw [if_neg q] at this
            exact ih p.2 this m (by omega)
end Ev
set_option Elab.async false
set_option linter.all false
set_option autoImplicit false
set_option maxRecDepth 100000
set_option maxHeartbeats 4000000
namespace Ev
open PySem
namespace k41
open Form
theorem law_word (m : Nat) (x : D) (hx : dkb m x = true) (hs : szb x ≤ 16777216) (l : Nat) (k : Nat) (S : Sto) (hk : 0 < k) : callT TT k 274 [x, .int l] S = .ok (.bl (isL l x)) S := by
  obtain ⟨k, rfl⟩ : ∃ j, k = j + 1 := ⟨k - 1, by omega⟩
  rw [call_step]
  cases x with
  | str m =>
    rw [szb] at hs
    have hm : m.length ≤ 16777216 := by omega
    have hc := signs_comp letters m 0 2 [some (.fz (.str m)), some (.fz (.int l)), none] S (by decide) hm rfl rfl
    unfold letters at hc
    unfold isL wordB letters
    by_cases h1 : l ≤ m.length
    · by_cases h2 : m.length ≤ 8
      · have i1 : (l : Int) ≤ (m.length : Nat) := by omega
        have i2 : ((m.length : Nat) : Int) ≤ 8 := by omega
        simp (decide := true) [runD, b_274, sSeq, sIf, sRet, sNx, ↓mb, Res.bind, mT, mNot, mOr, xIsi, mBor, mVar, M.of, isTy, mp, mTruth, truth, mChn, xLen, bip, SZ, cop, hm, i1, i2, h1, h2, hc]
      · have i1 : (l : Int) ≤ (m.length : Nat) := by omega
        have i2 : ¬ ((m.length : Nat) : Int) ≤ 8 := by omega
        simp (decide := true) [runD, b_274, sSeq, sIf, sRet, sNx, ↓mb, Res.bind, mT, mNot, mOr, xIsi, mBor, mVar, M.of, isTy, mp, mTruth, truth, mChn, xLen, bip, SZ, cop, hm, i1, i2, h1, h2]
    · have i1 : ¬ (l : Int) ≤ (m.length : Nat) := by omega
      simp (decide := true) [runD, b_274, sSeq, sIf, sRet, sNx, ↓mb, Res.bind, mT, mNot, mOr, xIsi, mBor, mVar, M.of, isTy, mp, mTruth, truth, mChn, xLen, bip, SZ, cop, hm, i1, h1]
  | dic kvs => cases kvs with
    | nil => simp_all! [b_274, isL]
    | cons => simp [dkb] at hx
  | ref _ => simp [dkb] at hx
  | scr _ => simp [dkb] at hx
  | _ => simp_all! [b_274, isL]
theorem law_fits (c : Nat) (hc : c ∈ sorts) (m : Nat) (x : D) (hx : dkb m x = true) (hs : szb x ≤ 16777216) (tb : D → Bool) (k : Nat) (S : Sto) (hk : 8 < k) (ih : ∃ S', callT TT k 275 [x] S = .ok (.bl (tb x)) S' ∧ Gr S S') :
    ∃ S', callT TT (k + 1) 276 [.str [c], x] S = .ok (.bl (fitB tb c x)) S' ∧ Gr S S' := by
  obtain ⟨S1, e5, g5⟩ := ih
  have e2 := law_word m x hx hs 0 k S (by omega)
  have e3 := law_word m x hx hs 1 k S (by omega)
  have e2 : callT TT k 274 [x, .int 0] S = .ok (.bl (isL 0 x)) S := e2
  have e3 : callT TT k 274 [x, .int 1] S = .ok (.bl (isL 1 x)) S := e3
  have e4 := law_form_anyb TT 5 m x hx hs k S (by omega)
  have e4 : callT TT k 244 [x, .int 5] S = .ok (.bl (dec 5 x).isSome) S := e4
  simp only [sorts, List.mem_cons, List.not_mem_nil, or_false] at hc
  rcases hc with rfl | rfl | rfl | rfl | rfl
  · refine ⟨S, ?_, .refl⟩
    rw [call_step]
    clear e2 e3 e4 e5
    cases x with
    | dic kvs => cases kvs with
      | nil => simp_all! [b_276, fitB, isW]
      | cons => simp [dkb] at hx
    | ref _ => simp [dkb] at hx
    | scr _ => simp [dkb] at hx
    | _ => simp_all! [b_276, fitB, isW]
  · refine ⟨S, ?_, .refl⟩
    rw [call_step]
    simp_all! [b_276, fitB, e2]
  · refine ⟨S, ?_, .refl⟩
    rw [call_step]
    simp_all! [b_276, fitB, e3]
  · refine ⟨S, ?_, .refl⟩
    rw [call_step]
    simp_all! [b_276, fitB, e4]
  · refine ⟨S1, ?_, g5⟩
    rw [call_step]
    simp_all! [b_276, fitB, e5]
theorem law_comp (sh : Txt) (x : D) (xs : List D) (k : Nat) (tb : D → Bool) (w : D) (hl : sh.length ≤ 1000) (hx : x = .tup (w :: xs)) (hn : xs.length + 1 ≤ 16777216) (S0 S : Sto) (h0 : Gr S0 S) (hf : ∀ p ∈ sh.zip xs, ∀ S, ∃ S', callT TT k 276 [.str [p.1], p.2] S = .ok (.bl (fitB tb p.1 p.2)) S' ∧ Gr S S') :
    ∃ S', (sRet (xBi .all (aCons (xFz (fComp (mZipS (aCons (mVar 1) (aCons (mSlc (mBor 0) (mPart (M.pure (.int 1))) (M.pure none)) aNil))) [2, 3] (gUnp 2 (gCon (mSet 2) (gCon (mSet 3) gEnd))) (M.pure true) (xCall (TT.prm (callT TT k)) 276 2 (aCons (mVar 2) (aCons (mVar 3) aNil))))) aNil))) [some (.fz x), some (.fz (.str sh)), none, none] S = .ok (.rt (.bl ((sh.zip xs).all fun p => fitB tb p.1 p.2))) [some (.fz x), some (.fz (.str sh)), none, none] S' ∧ Gr S0 S' := by
  subst hx
  obtain ⟨vs, S', q, hg, hc⟩ := comp_inv (own := [2, 3]) (f := gUnp 2 (gCon (mSet 2) (gCon (mSet 3) gEnd))) (e := xCall (TT.prm (callT TT k)) 276 2 (aCons (mVar 2) (aCons (mVar 3) aNil))) (ρ := [some (.fz (.tup (w :: xs))), some (.fz (.str sh)), none, none]) (fun S' => Gr S0 S')
    (fun d v => v = match d with | .tup [.str [c], x] => .bl (fitB tb c x) | _ => .non) ((sh.zip xs).map fun p => .tup [.str [p.1], p.2]) [] (fun d hd S1 h1 => by
      obtain ⟨p, hp, rfl⟩ := List.mem_map.mp hd
      obtain ⟨S2, e, g2⟩ := hf p hp S1
      refine ⟨.bl (fitB tb p.1 p.2), S2, rfl, h1.trans g2, ?_⟩
      simp_all! [mWipe, wipeE, e]) (by simp [SZ]; omega) S h0
  have hv := F2_map _ _ q
  have hm : (((sh.zip xs).map fun p => D.tup [.str [p.1], p.2]).map fun d => match d with | .tup [.str [c], x] => D.bl (fitB tb c x) | _ => .non) = (sh.zip xs).map fun p => .bl (fitB tb p.1 p.2) := by rw [List.map_map]; rfl
  rw [hm] at hv
  subst hv
  simp only [List.nil_append] at hc
  refine ⟨S', ?_, hg⟩
  have hw : mWipe [2, 3] [some (.fz (.tup (w :: xs))), some (.fz (.str sh)), none, none] S = .ok () [some (.fz (.tup (w :: xs))), some (.fz (.str sh)), none, none] S := rfl
  have hz : (mZipS (aCons (mVar 1) (aCons (mSlc (mBor 0) (mPart (M.pure (.int 1))) (M.pure none)) aNil))) [some (.fz (.tup (w :: xs))), some (.fz (.str sh)), none, none] S = .ok ((sh.zip xs).map fun p => .tup [.str [p.1], p.2]) [some (.fz (.tup (w :: xs))), some (.fz (.str sh)), none, none] S := by
    rw [← zip_signs]
    have c1 : cut (w :: xs) (some 1) none = xs := by
      have := cut_drop (w :: xs) 1
      simpa using this
    have hs : slice (.tup (w :: xs)) (some 1) none = some (.tup xs) := by show some (D.tup (cut (w :: xs) (some 1) none)) = _; rw [c1]
    unfold mZipS
    refine (bind_ok (show (aCons (mVar 1) (aCons (mSlc (mBor 0) (mPart (M.pure (.int 1))) (M.pure none)) aNil)) _ S = .ok [.str sh, .tup xs] [some (.fz (.tup (w :: xs))), some (.fz (.str sh)), none, none] S by
      simp [aCons, aNil, ↓mb, Res.bind, mVar, mSlc, mBor, mPart, mp, M.of, hs])).trans ?_
    rfl
  have ec : fComp (mZipS (aCons (mVar 1) (aCons (mSlc (mBor 0) (mPart (M.pure (.int 1))) (M.pure none)) aNil))) [2, 3] (gUnp 2 (gCon (mSet 2) (gCon (mSet 3) gEnd))) (M.pure true) (xCall (TT.prm (callT TT k)) 276 2 (aCons (mVar 2) (aCons (mVar 3) aNil))) [some (.fz (.tup (w :: xs))), some (.fz (.str sh)), none, none] S = .ok ((sh.zip xs).map fun p => .bl (fitB tb p.1 p.2)) [some (.fz (.tup (w :: xs))), some (.fz (.str sh)), none, none] S' := by
    refine (bind_ok hz).trans ?_
    show Res.noX (M.bind (mWipe [2, 3]) (fun _ => cmpR [2, 3] (gUnp 2 (gCon (mSet 2) (gCon (mSet 3) gEnd))) (M.pure true) (xCall (TT.prm (callT TT k)) 276 2 (aCons (mVar 2) (aCons (mVar 3) aNil))) [] ((sh.zip xs).map fun p => .tup [.str [p.1], p.2])) [some (.fz (.tup (w :: xs))), some (.fz (.str sh)), none, none] S) = _
    rw [bind_ok hw, hc]
    rfl
  refine bind_ok ?_
  refine (bind_ok ((bind_ok (show xFz _ _ S = .ok (.lst ((sh.zip xs).map fun p => .bl (fitB tb p.1 p.2))) [some (.fz (.tup (w :: xs))), some (.fz (.str sh)), none, none] S' from bind_ok ec)).trans (bind_ok (show aNil [some (.fz (.tup (w :: xs))), some (.fz (.str sh)), none, none] S' = .ok [] [some (.fz (.tup (w :: xs))), some (.fz (.str sh)), none, none] S' from rfl)))).trans ?_
  show M.of (bip shownD .all [.lst ((sh.zip xs).map fun p => .bl (fitB tb p.1 p.2))]) _ S' = _
  simp [M.of, bip, blsOf_map, all_map_id]
end k41
end Ev
set_option Elab.async false
set_option linter.all false
set_option autoImplicit false
set_option maxRecDepth 100000
set_option maxHeartbeats 4000000
namespace Ev
open PySem
namespace k41
open Form
theorem termB_not (m : Nat) (y : D) (h : ∀ w ps, y ≠ .tup (.str w :: ps)) : termB m y = false := by
  cases m with
  | zero => simp [termB]
  | succ m =>
    cases y with
    | tup xs =>
      cases xs with
      | nil => simp [termB]
      | cons y ps => cases y <;> first | exact absurd rfl (h _ _) | simp [termB]
    | _ => simp [termB]
theorem law_term : ∀ (m : Nat) (x : D), dkb m x = true → szb x ≤ 16777216 → ∀ (k : Nat) (S : Sto), 2 * m + 10 < k → ∃ S', callT TT k 275 [x] S = .ok (.bl (termB m x)) S' ∧ Gr S S' := by
  intro m
  induction m with
  | zero =>
    intro x hx hs k S hk
    have z : termB 0 x = false := by simp [termB]
    rw [z]
    refine ⟨S, ?_, .refl⟩
    obtain ⟨k, rfl⟩ : ∃ j, k = j + 1 := ⟨k - 1, by omega⟩
    rw [call_step]
    cases x with
    | tup xs => simp [dkb] at hx
    | lst xs => simp [dkb] at hx
    | dic kvs => cases kvs with
      | nil => simp_all! [b_275]
      | cons => simp [dkb] at hx
    | ref _ => simp [dkb] at hx
    | scr _ => simp [dkb] at hx
    | _ => simp_all! [b_275]
  | succ m ih =>
    intro x hx hs k S hk
    obtain ⟨k, rfl⟩ : ∃ j, k = j + 1 := ⟨k - 1, by omega⟩
    cases x with
    | tup xs =>
      rw [dkb_tup] at hx
      rw [szb_tup] at hs
      cases xs with
      | nil =>
        rw [termB_not _ _ (fun _ _ e => by cases e)]
        exact ⟨S, by rw [call_step]; simp! [b_275], .refl⟩
      | cons y ps =>
        rw [dkbs_cons, Bool.and_eq_true] at hx
        rw [szbs_cons] at hs
        have hl := szbs_len ps
        have l1 : ps.length ≤ 16777215 := by omega
        have l2 : ps.length + 1 ≤ 16777216 := by omega
        cases y with
        | str w =>
          have es := shape_of TT w k S (by omega)
          generalize hJ : S ++ [Cell.dct SHD, .dct SA2, .dct SA3] = S1 at es
          have gj : Gr S S1 := ⟨_, hJ.symm, by decide +kernel⟩
          cases hsh : shp w with
          | none =>
            rw [hsh] at es
            have es : callT TT k 477 [.str w] S = .ok (.str []) S1 := es
            have z : termB (m + 1) (.tup (.str w :: ps)) = false := by simp [termB, hsh]
            rw [z]
            refine ⟨S1, ?_, gj⟩
            rw [call_step]
            simp! [b_275, es, l1, l2]
          | some sh =>
            rw [hsh] at es
            have es : callT TT k 477 [.str w] S = .ok (.str sh) S1 := es
            obtain ⟨q1, q2, q3⟩ := shp_ok hsh
            have z : termB (m + 1) (.tup (.str w :: ps)) = (decide (ps.length = sh.length) && ((sh.zip ps).all fun p => fitB (termB m) p.1 p.2)) := by simp [termB, hsh]
            rw [z]
            have hne : ¬ sh = [] := fun e => by rw [e] at q1; simp at q1
            have l3 : sh.length ≤ 16777216 := by omega
            obtain ⟨S2, ec, g2⟩ := law_comp sh (.tup (.str w :: ps)) ps k (termB m) (.str w) (by omega) rfl l2 S S1 gj (fun p hp S => by
              have p1 := (List.of_mem_zip hp).1
              have p2 := (List.of_mem_zip hp).2
              have sp := szbs_mem ps p2
              obtain ⟨k, rfl⟩ : ∃ j, k = j + 1 := ⟨k - 1, by omega⟩
              exact law_fits p.1 (q3 _ p1) m p.2 (dkbs_mem ps hx.2 p2) (by omega) (termB m) k S (by omega) (ih p.2 (dkbs_mem ps hx.2 p2) (by omega) k S (by omega)))
            have a0 : (sIf (mT (mOr (mNot (xIsi (mBor 0) .tuple)) (mOr (xCmp .eq (mVar 0) (xTup aNil)) (mNot (xIsi (xIdx (mBor 0) (M.pure (.int 0))) .str))))) (sRet (M.pure (.bl false))) sNx) [some (.fz (.tup (.str w :: ps))), none, none, none] S = .ok .nx [some (.fz (.tup (.str w :: ps))), none, none, none] S := by
              simp! [l1, l2]
            have a1 : (sAsg (xCall (TT.prm (callT TT k)) 477 1 (aCons (xIdx (mBor 0) (M.pure (.int 0))) aNil)) (mSet 1)) [some (.fz (.tup (.str w :: ps))), none, none, none] S = .ok .nx [some (.fz (.tup (.str w :: ps))), some (.fz (.str sh)), none, none] S1 := by
              simp! [es, l1, l2]
            by_cases q : ps.length = sh.length
            · have a2 : (sIf (mT (mOr (xCmp .eq (mBor 1) (M.pure (.str []))) (xCmp .ne (xLen (mBor 1)) (xBin .sub (xLen (mBor 0)) (M.pure (.int 1)))))) (sRet (M.pure (.bl false))) sNx) [some (.fz (.tup (.str w :: ps))), some (.fz (.str sh)), none, none] S1 = .ok .nx [some (.fz (.tup (.str w :: ps))), some (.fz (.str sh)), none, none] S1 := by
                have e : ((ps.length : Int) + 1 - 1) = (sh.length : Int) := by omega
                simp! [l1, l2, l3, hne, e]
              refine ⟨S2, ?_, g2⟩
              refine runN k [.tup (.str w :: ps)] _ S S2 [some (.fz (.tup (.str w :: ps))), some (.fz (.str sh)), none, none] rfl ?_
              show b_275 (TT.prm (callT TT k)) [some (.fz (.tup (.str w :: ps))), none, none, none] S = _
              unfold b_275
              refine (bind_ok a0).trans ?_
              refine (bind_ok a1).trans ?_
              refine (bind_ok a2).trans ?_
              simp only [q, decide_true, Bool.true_and]
              exact ec
            · have a2 : (sIf (mT (mOr (xCmp .eq (mBor 1) (M.pure (.str []))) (xCmp .ne (xLen (mBor 1)) (xBin .sub (xLen (mBor 0)) (M.pure (.int 1)))))) (sRet (M.pure (.bl false))) sNx) [some (.fz (.tup (.str w :: ps))), some (.fz (.str sh)), none, none] S1 = .ok (.rt (.bl false)) [some (.fz (.tup (.str w :: ps))), some (.fz (.str sh)), none, none] S1 := by
                have e : ¬ ((sh.length : Int) = (ps.length : Int) + 1 - 1) := by omega
                have e2 : ¬ ((sh.length : Int) = (ps.length : Int)) := by omega
                simp! [l1, l2, l3, hne, e, e2]
              refine ⟨S1, ?_, gj⟩
              refine runN k [.tup (.str w :: ps)] _ S S1 [some (.fz (.tup (.str w :: ps))), some (.fz (.str sh)), none, none] rfl ?_
              show b_275 (TT.prm (callT TT k)) [some (.fz (.tup (.str w :: ps))), none, none, none] S = _
              unfold b_275
              refine (bind_ok a0).trans ?_
              refine (bind_ok a1).trans ?_
              refine (bind_ok a2).trans ?_
              simp only [q, decide_false, Bool.false_and]
              rfl
        | dic kvs => cases kvs with
          | nil =>
            rw [termB_not _ _ (fun _ _ e => by cases e)]
            exact ⟨S, by rw [call_step]; simp! [b_275, l1, l2], .refl⟩
          | cons => simp [dkb] at hx
        | ref _ => simp [dkb] at hx
        | scr _ => simp [dkb] at hx
        | _ =>
          rw [termB_not _ _ (fun _ _ e => by cases e)]
          exact ⟨S, by rw [call_step]; simp! [b_275, l1, l2], .refl⟩
    | dic kvs => cases kvs with
      | nil =>
        rw [termB_not _ _ (fun _ _ e => by cases e)]
        exact ⟨S, by rw [call_step]; simp_all! [b_275], .refl⟩
      | cons => simp [dkb] at hx
    | ref _ => simp [dkb] at hx
    | scr _ => simp [dkb] at hx
    | _ =>
      rw [termB_not _ _ (fun _ _ e => by cases e)]
      exact ⟨S, by rw [call_step]; simp_all! [b_275], .refl⟩
end k41
end Ev
set_option Elab.async false
set_option linter.all false
set_option autoImplicit false
set_option maxRecDepth 100000
set_option maxHeartbeats 4000000
namespace Ev
open PySem
namespace k41
open Form
theorem told (m : Nat) (x : D) (hx : dkb m x = true) (hm : m ≤ 40) (hs : szb x ≤ 16777216) (k : Nat) (S : Sto) (hk : 100 < k) : ∃ S', callT TT k 481 [x] S = .ok (.bl true) S' ∧ Gr S S' := by
  obtain ⟨k, rfl⟩ : ∃ j, k = j + 1 := ⟨k - 1, by omega⟩
  obtain ⟨t, ht⟩ := dkb_repr hx (by omega) hs
  have e1 := is_term_any TT m x hx hs k S (by omega)
  obtain ⟨S1, e2, g1⟩ := law_term m x hx hs k S (by omega)
  refine ⟨S1, ?_, g1⟩
  have r : ∃ r, shownD (.lst [.bl (termB m x), .bl (termB m x), .bl (termB m x)]) = some r := by
    generalize termB m x = b
    exact dok_repr (n := 1) (d := .lst [.bl b, .bl b, .bl b]) (by simp [dok, doks]) (by decide) (by simp [siz, sizs])
  obtain ⟨r, hr⟩ := r
  rw [call_step]
  generalize termB m x = b at *
  simp! [b_481, ht, e1, e2, hr]
def six : D := .tup [.str [98,111,120], .tup [.str [98,111,120], .tup [.str [98,111,120], .tup [.str [98,111,120], .tup [.str [98,111,120], .tup [.str [98,111,120], .str [110,117,109]]]]]]]
def odds : List D := [.non, .bl true, .bl false, .int 0, .int 7, .str [], .str [65], .str [97,98,99,100,101,102,103,104,105], .str [97,110,121], .str [110,117,109], .str [100,101,101,100], .str [120], .str [119,97,108,108], .tup [], .lst [], .dic [], .tup [.str [110,117,109]], .lst [.str [110,117,109]], .tup [.str [98,111,120]], .tup [.str [100,101,101,100], .str [110,117,109]], six, .tup [.str [110,117,109,98,101,114], .bl true], .tup [.str [116,101,120,116], .str [97,66,99]], .tup [.str [110,97,109,101], .str []], .str [97,32,98], .tup [.str [116,101,120,116], .str [97,98,99,100,101,102,103,104,105]], .tup [.str [110,117,109,98,101,114], .str [49]], .tup [.str [119,97,108,108], .str [119], .str [110,117,109], .str [97,110,121], .tup [.str [110,117,109,98,101,114], .int 1]], .tup [.str [97,100,100]]]
theorem odds_ok : (odds.all fun d => dkb 7 d && decide (szb d ≤ 300)) = true := by kernel_rfl
theorem odd_b (n k : Nat) (d1 : Nat) (S S1 : Sto) (v : D) (e1 : callT TT k 113 [.ref n, .int 29] S = .ok (.int d1) S1) (od : List D) (hl : od.length = 29) (hv : od[d1]? = some v) (sx : D) :
    (sRet (xIdx (mVar 3) (xCall (TT.prm (callT TT k)) 113 2 (aCons (mVar 0) (aCons (xLen (mBor 3)) aNil))))) [some (.fz (.ref n)), some (.fz sx), some (.fz (.int 5)), some (.fz (.lst od))] S = .ok (.rt v) [some (.fz (.ref n)), some (.fz sx), some (.fz (.int 5)), some (.fz (.lst od))] S1 := by
  simp! [hl, e1, hv]
theorem odd_a (n k : Nat) (S : Sto) : fd_478.body (TT.prm (callT TT k)) (some (.fz (.ref n)) :: List.replicate (fd_478.ns - 1) none) S = (sRet (xIdx (mVar 3) (xCall (TT.prm (callT TT k)) 113 2 (aCons (mVar 0) (aCons (xLen (mBor 3)) aNil))))) [some (.fz (.ref n)), some (.fz six), some (.fz (.int 5)), some (.fz (.lst odds))] S := by
  kernel_rfl
theorem odd (n k : Nat) (hk : 1 < k) (S : Sto) (hp : PotF S n) : ∃ v S', callT TT k 478 [.ref n] S = .ok v S' ∧ PotF S' n ∧ dkb 7 v = true ∧ szb v ≤ 300 := by
  obtain ⟨k, rfl⟩ : ∃ j, k = j + 1 := ⟨k - 1, by omega⟩
  obtain ⟨d1, S1, e1, h1, p1, l1⟩ := digitF TT hp 29 (by omega) (by omega) k (by omega)
  have e1 : callT TT k 113 [.ref n, .int 29] S = .ok (.int d1) S1 := e1
  have hl : odds.length = 29 := by kernel_rfl
  obtain ⟨v, hv⟩ : ∃ v, odds[d1]? = some v := ⟨odds[d1]'(by rw [hl]; omega), List.getElem?_eq_getElem _⟩
  have ok := List.all_eq_true.mp odds_ok v (List.mem_of_getElem? hv)
  simp only [Bool.and_eq_true, decide_eq_true_eq] at ok
  refine ⟨v, S1, ?_, p1, ok.1, ok.2⟩
  refine run1 k _ _ S S1 [some (.fz (.ref n)), some (.fz six), some (.fz (.int 5)), some (.fz (.lst odds))] rfl ?_
  refine (odd_a n k S).trans ?_
  exact odd_b n k d1 S S1 v e1 odds hl hv six
def D.isTy' : D → Bool
  | .tup _ => false | .ref _ => false | .scr _ => false | .dic (_ :: _) => false | _ => true
theorem other_flat (n m : Nat) (x : D) (k : Nat) (S : Sto) (hp : PotF S n) (hk : 2 < k) (h : D.isTy' x = true ∨ x = .tup []) : ∃ v S', callT TT k 479 [.ref n, x] S = .ok v S' ∧ PotF S' n ∧ dkb (m + 7) v = true ∧ szb v ≤ 2 * szb x + 300 := by
  obtain ⟨k, rfl⟩ : ∃ j, k = j + 1 := ⟨k - 1, by omega⟩
  rw [call_step]
  obtain ⟨v, S1, e1, p1, o1, z1⟩ := odd n k (by omega) S hp
  refine ⟨v, S1, ?_, p1, dkb_up _ _ _ o1 (by omega), by omega⟩
  rcases h with h | rfl
  · cases x <;> first | (simp [D.isTy'] at h; done) | simp (decide := true) [runD, xEqE, sRetL, xCallF, mCallF, mCalkF, Form.enc, sSeq, sIf, sRet, sNx, sAsg, sEx, sRai, ↓mb, Res.bind, mp, M.of, mT, xIsi, mBor, mVar, isTy, mTruth, truth, mOr, mAnd, mIte, mNot, xCmp, cop, eqo_nn, eqo_nb, eqo_ni, eqo_ns, eqo_nt, eqo_nl, eqo_nd, eqo_bn, eqo_bb, eqo_bi, eqo_bs, eqo_bt, eqo_bl, eqo_bd, eqo_in, eqo_ib, eqo_ii, eqo_is, eqo_it, eqo_il, eqo_id, eqo_sn, eqo_sb, eqo_si, eqo_ss, eqo_st, eqo_sl, eqo_sd, eqo_tn, eqo_tb, eqo_ti, eqo_ts, eqo_te, eqo_tt, eqo_tl, eqo_td, eqo_ln, eqo_lb, eqo_li, eqo_ls, eqo_lt, eqo_ll, eqo_ld, eqo_dn, eqo_db, eqo_di, eqo_ds, eqo_dt, eqo_dl, eqo_dd, inOk, D.flat, xTup, aNil, aCons, mSet, plain_str, plain_tup, plain_int, plain_bl, plains_nil, plains_cons, eqb_str, eqb_int, eqb_bl, eqb_tup, eqbs_nil, eqbs_cn, eqbs_nc, eqbs_cc, eqb_nn, eqb_nb, eqb_ni, eqb_ns, eqb_nt, eqb_nl, eqb_nd, eqb_bn, eqb_bi, eqb_bs, eqb_bt, eqb_b_l, eqb_bd, eqb_in, eqb_ib, eqb_is, eqb_it, eqb_il, eqb_id, eqb_sn, eqb_sb, eqb_si, eqb_sl, eqb_sd, eqb_tn, eqb_tb, eqb_ti, eqb_tl, eqb_td, eqb_ln, eqb_lb, eqb_li, eqb_ls, eqb_lt, eqb_ll, eqb_ld, eqb_dn, eqb_db, eqb_di, eqb_ds, eqb_dt, eqb_dl, eqb_dd, plain_non, plain_lst, plain_dic, eqb_st, eqb_ts, xLen, bip, xIdx, mIdx, index, mItems, mList, xCall, pp_call, xBin, bop_ai, bop_as, bop_at, bop_al, bop_si, bop_mi, bop_ml, bop_mt, bop_ms, bop_mo, bop_fd, bop_pw, SZ, mSlc, mPart, slice, gUnp, gCon, gEnd, mLst, gUnpT, fListT, mSt, M.bad, mChn, sFor, loopM, xBi, xFz, fLst, mCalk, srcOf, isn_n, isn_b, isn_i, isn_s, isn_t, isn_l, isn_d, isn_r, isn_enc, fAdd, fMul, fList, asLst, sOwn, mOwn, sApp, mOwnHere, mApp, gStar, dget, fComp, noX, Res.noX, mWipe, cmpR, wipeE, blsOf, intsOf, txtsOf, mZs, zsOf, zipD, mZip, zipOf, mRng1, mRng2, rngD, mCount, mIndexL, mMt, tyIs, mtp, findD, sTryAs, mIsE, noEx, sPar, sPar3, xRev, revD, sTry, reps, xNeg, negD, xDix, xDgt, mPop, mPopAt, mExt, sExt, xMth, mMth, xMak, mMak, xFld, mFld, insOf, fget, fput, sFst, mFpt, sFag, b_479, e1]
  · simp (decide := true) [runD, xEqE, sRetL, xCallF, mCallF, mCalkF, Form.enc, sSeq, sIf, sRet, sNx, sAsg, sEx, sRai, ↓mb, Res.bind, mp, M.of, mT, xIsi, mBor, mVar, isTy, mTruth, truth, mOr, mAnd, mIte, mNot, xCmp, cop, eqo_nn, eqo_nb, eqo_ni, eqo_ns, eqo_nt, eqo_nl, eqo_nd, eqo_bn, eqo_bb, eqo_bi, eqo_bs, eqo_bt, eqo_bl, eqo_bd, eqo_in, eqo_ib, eqo_ii, eqo_is, eqo_it, eqo_il, eqo_id, eqo_sn, eqo_sb, eqo_si, eqo_ss, eqo_st, eqo_sl, eqo_sd, eqo_tn, eqo_tb, eqo_ti, eqo_ts, eqo_te, eqo_tt, eqo_tl, eqo_td, eqo_ln, eqo_lb, eqo_li, eqo_ls, eqo_lt, eqo_ll, eqo_ld, eqo_dn, eqo_db, eqo_di, eqo_ds, eqo_dt, eqo_dl, eqo_dd, inOk, D.flat, xTup, aNil, aCons, mSet, plain_str, plain_tup, plain_int, plain_bl, plains_nil, plains_cons, eqb_str, eqb_int, eqb_bl, eqb_tup, eqbs_nil, eqbs_cn, eqbs_nc, eqbs_cc, eqb_nn, eqb_nb, eqb_ni, eqb_ns, eqb_nt, eqb_nl, eqb_nd, eqb_bn, eqb_bi, eqb_bs, eqb_bt, eqb_b_l, eqb_bd, eqb_in, eqb_ib, eqb_is, eqb_it, eqb_il, eqb_id, eqb_sn, eqb_sb, eqb_si, eqb_sl, eqb_sd, eqb_tn, eqb_tb, eqb_ti, eqb_tl, eqb_td, eqb_ln, eqb_lb, eqb_li, eqb_ls, eqb_lt, eqb_ll, eqb_ld, eqb_dn, eqb_db, eqb_di, eqb_ds, eqb_dt, eqb_dl, eqb_dd, plain_non, plain_lst, plain_dic, eqb_st, eqb_ts, xLen, bip, xIdx, mIdx, index, mItems, mList, xCall, pp_call, xBin, bop_ai, bop_as, bop_at, bop_al, bop_si, bop_mi, bop_ml, bop_mt, bop_ms, bop_mo, bop_fd, bop_pw, SZ, mSlc, mPart, slice, gUnp, gCon, gEnd, mLst, gUnpT, fListT, mSt, M.bad, mChn, sFor, loopM, xBi, xFz, fLst, mCalk, srcOf, isn_n, isn_b, isn_i, isn_s, isn_t, isn_l, isn_d, isn_r, isn_enc, fAdd, fMul, fList, asLst, sOwn, mOwn, sApp, mOwnHere, mApp, gStar, dget, fComp, noX, Res.noX, mWipe, cmpR, wipeE, blsOf, intsOf, txtsOf, mZs, zsOf, zipD, mZip, zipOf, mRng1, mRng2, rngD, mCount, mIndexL, mMt, tyIs, mtp, findD, sTryAs, mIsE, noEx, sPar, sPar3, xRev, revD, sTry, reps, xNeg, negD, xDix, xDgt, mPop, mPopAt, mExt, sExt, xMth, mMth, xMak, mMak, xFld, mFld, insOf, fget, fput, sFst, mFpt, sFag, b_479, e1]
theorem otherwise (n : Nat) (m : Nat) : ∀ (x : D) (k : Nat) (S : Sto), dkb m x = true → szb x ≤ 4000000 → PotF S n → m + 2 < k → ∃ v S', callT TT k 479 [.ref n, x] S = .ok v S' ∧ PotF S' n ∧ dkb (m + 7) v = true ∧ szb v ≤ 2 * szb x + 300 := by
  induction m with
  | zero =>
    intro x k S hx hs hp hk
    cases x with
    | tup xs => simp [dkb] at hx
    | lst xs => simp [dkb] at hx
    | dic kvs => cases kvs with
      | nil => exact other_flat n 0 _ k S hp (by omega) (.inl rfl)
      | cons => simp [dkb] at hx
    | ref _ => simp [dkb] at hx
    | scr _ => simp [dkb] at hx
    | _ => exact other_flat n 0 _ k S hp (by omega) (.inl rfl)
  | succ m ih =>
    intro x k S hx hs hp hk
    cases x with
    | tup xs =>
      by_cases hne : xs = []
      · exact other_flat n (m + 1) _ k S hp (by omega) (.inr (by rw [hne]))
      obtain ⟨k, rfl⟩ : ∃ j, k = j + 1 := ⟨k - 1, by omega⟩
      rw [call_step]
      have hlen := List.length_pos_iff.mpr hne
      have hl2 := szbs_len xs
      rw [szb_tup] at hs
      rw [dkb_tup] at hx
      have hemp : xs.isEmpty = false := by cases xs with | nil => exact absurd rfl hne | cons => rfl
      obtain ⟨d1, S1, e1, h1, p1, l1⟩ := digitF TT hp xs.length hlen (Nat.le_trans (show xs.length ≤ 4000000 by omega) (by decide)) k (by omega)
      obtain ⟨d2, S2, e2, h2, p2, l2⟩ := digitF TT p1 12 (by omega) (by omega) k (by omega)
      have e2 : callT TT k 113 [.ref n, .int 12] S1 = .ok (.int d2) S2 := e2
      obtain ⟨T1, y, T2, rfl, rfl⟩ := parted_at h1
      rw [dkbs_app, dkbs_cons, Bool.and_eq_true, Bool.and_eq_true] at hx
      obtain ⟨x1, x2, x3⟩ := hx
      rw [szbs_app, szbs_cons] at hs
      have lt1 := szbs_len T1
      have lt2 := szbs_len T2
      have z1 := cut_l T1 (y :: T2)
      have z2 := cut_r T1 (y :: T2)
      have z3 := cut_r1 T1 y T2
      have z4 := at_mid T1 y T2
      have b1 : T1.length ≤ 16777216 := by omega
      have b2 : T2.length ≤ 16777216 := by omega
      have b3 : T1.length + 1 ≤ 16777216 := by omega
      have b4 : T1.length + 1 + T2.length ≤ 16777216 := by omega
      have b5 : T1.length + T2.length ≤ 16777216 := by omega
      have b6 : T2.length + 1 ≤ 16777216 := by omega
      have b7 : T1.length + 1 + (T2.length + 1) ≤ 16777216 := by omega
      have u1 := dkbs_up m (m + 7) T1 x1 (by omega)
      have u2 := dkb_up m (m + 7) y x2 (by omega)
      have u3 := dkbs_up m (m + 7) T2 x3 (by omega)
      have el : ((T1 ++ y :: T2).length : Int) = ((T1 ++ y :: T2).length : Nat) := rfl
      generalize hL : (T1 ++ y :: T2).length = L at *
      by_cases w1 : (d2 : Int) < 8
      · obtain ⟨v, S3, e3, p3, o3, s3⟩ := ih y k S2 x2 (by omega) p2 (by omega)
        refine ⟨.tup (T1 ++ v :: T2), S3, ?_, p3, ?_, ?_⟩
        · generalize hX : T1 ++ y :: T2 = X at *
          simp (decide := true) [runD, xEqE, sRetL, xCallF, mCallF, mCalkF, Form.enc, sSeq, sIf, sRet, sNx, sAsg, sEx, sRai, ↓mb, Res.bind, mp, M.of, mT, xIsi, mBor, mVar, isTy, mTruth, truth, mOr, mAnd, mIte, mNot, xCmp, cop, eqo_nn, eqo_nb, eqo_ni, eqo_ns, eqo_nt, eqo_nl, eqo_nd, eqo_bn, eqo_bb, eqo_bi, eqo_bs, eqo_bt, eqo_bl, eqo_bd, eqo_in, eqo_ib, eqo_ii, eqo_is, eqo_it, eqo_il, eqo_id, eqo_sn, eqo_sb, eqo_si, eqo_ss, eqo_st, eqo_sl, eqo_sd, eqo_tn, eqo_tb, eqo_ti, eqo_ts, eqo_te, eqo_tt, eqo_tl, eqo_td, eqo_ln, eqo_lb, eqo_li, eqo_ls, eqo_lt, eqo_ll, eqo_ld, eqo_dn, eqo_db, eqo_di, eqo_ds, eqo_dt, eqo_dl, eqo_dd, inOk, D.flat, xTup, aNil, aCons, mSet, plain_str, plain_tup, plain_int, plain_bl, plains_nil, plains_cons, eqb_str, eqb_int, eqb_bl, eqb_tup, eqbs_nil, eqbs_cn, eqbs_nc, eqbs_cc, eqb_nn, eqb_nb, eqb_ni, eqb_ns, eqb_nt, eqb_nl, eqb_nd, eqb_bn, eqb_bi, eqb_bs, eqb_bt, eqb_b_l, eqb_bd, eqb_in, eqb_ib, eqb_is, eqb_it, eqb_il, eqb_id, eqb_sn, eqb_sb, eqb_si, eqb_sl, eqb_sd, eqb_tn, eqb_tb, eqb_ti, eqb_tl, eqb_td, eqb_ln, eqb_lb, eqb_li, eqb_ls, eqb_lt, eqb_ll, eqb_ld, eqb_dn, eqb_db, eqb_di, eqb_ds, eqb_dt, eqb_dl, eqb_dd, plain_non, plain_lst, plain_dic, eqb_st, eqb_ts, xLen, bip, xIdx, mIdx, index, mItems, mList, xCall, pp_call, xBin, bop_ai, bop_as, bop_at, bop_al, bop_si, bop_mi, bop_ml, bop_mt, bop_ms, bop_mo, bop_fd, bop_pw, SZ, mSlc, mPart, slice, gUnp, gCon, gEnd, mLst, gUnpT, fListT, mSt, M.bad, mChn, sFor, loopM, xBi, xFz, fLst, mCalk, srcOf, isn_n, isn_b, isn_i, isn_s, isn_t, isn_l, isn_d, isn_r, isn_enc, fAdd, fMul, fList, asLst, sOwn, mOwn, sApp, mOwnHere, mApp, gStar, dget, fComp, noX, Res.noX, mWipe, cmpR, wipeE, blsOf, intsOf, txtsOf, mZs, zsOf, zipD, mZip, zipOf, mRng1, mRng2, rngD, mCount, mIndexL, mMt, tyIs, mtp, findD, sTryAs, mIsE, noEx, sPar, sPar3, xRev, revD, sTry, reps, xNeg, negD, xDix, xDgt, mPop, mPopAt, mExt, sExt, xMth, mMth, xMak, mMak, xFld, mFld, insOf, fget, fput, sFst, mFpt, sFag, b_479, hemp, hL, e1, e2, w1, z1, z2, z3, z4, e3, b1, b2, b3, b4]
        · rw [show m + 1 + 7 = m + 7 + 1 by omega, dkb_tup, dkbs_app, dkbs_cons, u1, o3, u3]; rfl
        · rw [szb_tup, szb_tup, szbs_app, szbs_app, szbs_cons, szbs_cons]; omega
      · by_cases w2 : d2 = 8
        · subst w2
          refine ⟨.tup (T1 ++ T2), S2, ?_, p2, ?_, ?_⟩
          · generalize hX : T1 ++ y :: T2 = X at *
            simp (decide := true) [runD, xEqE, sRetL, xCallF, mCallF, mCalkF, Form.enc, sSeq, sIf, sRet, sNx, sAsg, sEx, sRai, ↓mb, Res.bind, mp, M.of, mT, xIsi, mBor, mVar, isTy, mTruth, truth, mOr, mAnd, mIte, mNot, xCmp, cop, eqo_nn, eqo_nb, eqo_ni, eqo_ns, eqo_nt, eqo_nl, eqo_nd, eqo_bn, eqo_bb, eqo_bi, eqo_bs, eqo_bt, eqo_bl, eqo_bd, eqo_in, eqo_ib, eqo_ii, eqo_is, eqo_it, eqo_il, eqo_id, eqo_sn, eqo_sb, eqo_si, eqo_ss, eqo_st, eqo_sl, eqo_sd, eqo_tn, eqo_tb, eqo_ti, eqo_ts, eqo_te, eqo_tt, eqo_tl, eqo_td, eqo_ln, eqo_lb, eqo_li, eqo_ls, eqo_lt, eqo_ll, eqo_ld, eqo_dn, eqo_db, eqo_di, eqo_ds, eqo_dt, eqo_dl, eqo_dd, inOk, D.flat, xTup, aNil, aCons, mSet, plain_str, plain_tup, plain_int, plain_bl, plains_nil, plains_cons, eqb_str, eqb_int, eqb_bl, eqb_tup, eqbs_nil, eqbs_cn, eqbs_nc, eqbs_cc, eqb_nn, eqb_nb, eqb_ni, eqb_ns, eqb_nt, eqb_nl, eqb_nd, eqb_bn, eqb_bi, eqb_bs, eqb_bt, eqb_b_l, eqb_bd, eqb_in, eqb_ib, eqb_is, eqb_it, eqb_il, eqb_id, eqb_sn, eqb_sb, eqb_si, eqb_sl, eqb_sd, eqb_tn, eqb_tb, eqb_ti, eqb_tl, eqb_td, eqb_ln, eqb_lb, eqb_li, eqb_ls, eqb_lt, eqb_ll, eqb_ld, eqb_dn, eqb_db, eqb_di, eqb_ds, eqb_dt, eqb_dl, eqb_dd, plain_non, plain_lst, plain_dic, eqb_st, eqb_ts, xLen, bip, xIdx, mIdx, index, mItems, mList, xCall, pp_call, xBin, bop_ai, bop_as, bop_at, bop_al, bop_si, bop_mi, bop_ml, bop_mt, bop_ms, bop_mo, bop_fd, bop_pw, SZ, mSlc, mPart, slice, gUnp, gCon, gEnd, mLst, gUnpT, fListT, mSt, M.bad, mChn, sFor, loopM, xBi, xFz, fLst, mCalk, srcOf, isn_n, isn_b, isn_i, isn_s, isn_t, isn_l, isn_d, isn_r, isn_enc, fAdd, fMul, fList, asLst, sOwn, mOwn, sApp, mOwnHere, mApp, gStar, dget, fComp, noX, Res.noX, mWipe, cmpR, wipeE, blsOf, intsOf, txtsOf, mZs, zsOf, zipD, mZip, zipOf, mRng1, mRng2, rngD, mCount, mIndexL, mMt, tyIs, mtp, findD, sTryAs, mIsE, noEx, sPar, sPar3, xRev, revD, sTry, reps, xNeg, negD, xDix, xDgt, mPop, mPopAt, mExt, sExt, xMth, mMth, xMak, mMak, xFld, mFld, insOf, fget, fput, sFst, mFpt, sFag, b_479, hemp, hL, e1, e2, z1, z2, z3, z4, b1, b2, b5]
          · rw [show m + 1 + 7 = m + 7 + 1 by omega, dkb_tup, dkbs_app, u1, u3]; rfl
          · rw [szb_tup, szb_tup, szbs_app, szbs_app, szbs_cons]; omega
        · by_cases w3 : d2 = 9
          · subst w3
            refine ⟨.tup (T1 ++ y :: y :: T2), S2, ?_, p2, ?_, ?_⟩
            · generalize hX : T1 ++ y :: T2 = X at *
              simp (decide := true) [runD, xEqE, sRetL, xCallF, mCallF, mCalkF, Form.enc, sSeq, sIf, sRet, sNx, sAsg, sEx, sRai, ↓mb, Res.bind, mp, M.of, mT, xIsi, mBor, mVar, isTy, mTruth, truth, mOr, mAnd, mIte, mNot, xCmp, cop, eqo_nn, eqo_nb, eqo_ni, eqo_ns, eqo_nt, eqo_nl, eqo_nd, eqo_bn, eqo_bb, eqo_bi, eqo_bs, eqo_bt, eqo_bl, eqo_bd, eqo_in, eqo_ib, eqo_ii, eqo_is, eqo_it, eqo_il, eqo_id, eqo_sn, eqo_sb, eqo_si, eqo_ss, eqo_st, eqo_sl, eqo_sd, eqo_tn, eqo_tb, eqo_ti, eqo_ts, eqo_te, eqo_tt, eqo_tl, eqo_td, eqo_ln, eqo_lb, eqo_li, eqo_ls, eqo_lt, eqo_ll, eqo_ld, eqo_dn, eqo_db, eqo_di, eqo_ds, eqo_dt, eqo_dl, eqo_dd, inOk, D.flat, xTup, aNil, aCons, mSet, plain_str, plain_tup, plain_int, plain_bl, plains_nil, plains_cons, eqb_str, eqb_int, eqb_bl, eqb_tup, eqbs_nil, eqbs_cn, eqbs_nc, eqbs_cc, eqb_nn, eqb_nb, eqb_ni, eqb_ns, eqb_nt, eqb_nl, eqb_nd, eqb_bn, eqb_bi, eqb_bs, eqb_bt, eqb_b_l, eqb_bd, eqb_in, eqb_ib, eqb_is, eqb_it, eqb_il, eqb_id, eqb_sn, eqb_sb, eqb_si, eqb_sl, eqb_sd, eqb_tn, eqb_tb, eqb_ti, eqb_tl, eqb_td, eqb_ln, eqb_lb, eqb_li, eqb_ls, eqb_lt, eqb_ll, eqb_ld, eqb_dn, eqb_db, eqb_di, eqb_ds, eqb_dt, eqb_dl, eqb_dd, plain_non, plain_lst, plain_dic, eqb_st, eqb_ts, xLen, bip, xIdx, mIdx, index, mItems, mList, xCall, pp_call, xBin, bop_ai, bop_as, bop_at, bop_al, bop_si, bop_mi, bop_ml, bop_mt, bop_ms, bop_mo, bop_fd, bop_pw, SZ, mSlc, mPart, slice, gUnp, gCon, gEnd, mLst, gUnpT, fListT, mSt, M.bad, mChn, sFor, loopM, xBi, xFz, fLst, mCalk, srcOf, isn_n, isn_b, isn_i, isn_s, isn_t, isn_l, isn_d, isn_r, isn_enc, fAdd, fMul, fList, asLst, sOwn, mOwn, sApp, mOwnHere, mApp, gStar, dget, fComp, noX, Res.noX, mWipe, cmpR, wipeE, blsOf, intsOf, txtsOf, mZs, zsOf, zipD, mZip, zipOf, mRng1, mRng2, rngD, mCount, mIndexL, mMt, tyIs, mtp, findD, sTryAs, mIsE, noEx, sPar, sPar3, xRev, revD, sTry, reps, xNeg, negD, xDix, xDgt, mPop, mPopAt, mExt, sExt, xMth, mMth, xMak, mMak, xFld, mFld, insOf, fget, fput, sFst, mFpt, sFag, b_479, hemp, hL, e1, e2, z1, z2, z3, z4, b1, b2, b3, b6, b7]
            · rw [show m + 1 + 7 = m + 7 + 1 by omega, dkb_tup, dkbs_app, dkbs_cons, dkbs_cons, u1, u2, u3]; rfl
            · rw [szb_tup, szb_tup, szbs_app, szbs_app, szbs_cons, szbs_cons]; omega
          · by_cases w4 : d2 = 10
            · subst w4
              refine ⟨.lst (T1 ++ y :: T2), S2, ?_, p2, ?_, ?_⟩
              · generalize hX : T1 ++ y :: T2 = X at *
                simp (decide := true) [runD, xEqE, sRetL, xCallF, mCallF, mCalkF, Form.enc, sSeq, sIf, sRet, sNx, sAsg, sEx, sRai, ↓mb, Res.bind, mp, M.of, mT, xIsi, mBor, mVar, isTy, mTruth, truth, mOr, mAnd, mIte, mNot, xCmp, cop, eqo_nn, eqo_nb, eqo_ni, eqo_ns, eqo_nt, eqo_nl, eqo_nd, eqo_bn, eqo_bb, eqo_bi, eqo_bs, eqo_bt, eqo_bl, eqo_bd, eqo_in, eqo_ib, eqo_ii, eqo_is, eqo_it, eqo_il, eqo_id, eqo_sn, eqo_sb, eqo_si, eqo_ss, eqo_st, eqo_sl, eqo_sd, eqo_tn, eqo_tb, eqo_ti, eqo_ts, eqo_te, eqo_tt, eqo_tl, eqo_td, eqo_ln, eqo_lb, eqo_li, eqo_ls, eqo_lt, eqo_ll, eqo_ld, eqo_dn, eqo_db, eqo_di, eqo_ds, eqo_dt, eqo_dl, eqo_dd, inOk, D.flat, xTup, aNil, aCons, mSet, plain_str, plain_tup, plain_int, plain_bl, plains_nil, plains_cons, eqb_str, eqb_int, eqb_bl, eqb_tup, eqbs_nil, eqbs_cn, eqbs_nc, eqbs_cc, eqb_nn, eqb_nb, eqb_ni, eqb_ns, eqb_nt, eqb_nl, eqb_nd, eqb_bn, eqb_bi, eqb_bs, eqb_bt, eqb_b_l, eqb_bd, eqb_in, eqb_ib, eqb_is, eqb_it, eqb_il, eqb_id, eqb_sn, eqb_sb, eqb_si, eqb_sl, eqb_sd, eqb_tn, eqb_tb, eqb_ti, eqb_tl, eqb_td, eqb_ln, eqb_lb, eqb_li, eqb_ls, eqb_lt, eqb_ll, eqb_ld, eqb_dn, eqb_db, eqb_di, eqb_ds, eqb_dt, eqb_dl, eqb_dd, plain_non, plain_lst, plain_dic, eqb_st, eqb_ts, xLen, bip, xIdx, mIdx, index, mItems, mList, xCall, pp_call, xBin, bop_ai, bop_as, bop_at, bop_al, bop_si, bop_mi, bop_ml, bop_mt, bop_ms, bop_mo, bop_fd, bop_pw, SZ, mSlc, mPart, slice, gUnp, gCon, gEnd, mLst, gUnpT, fListT, mSt, M.bad, mChn, sFor, loopM, xBi, xFz, fLst, mCalk, srcOf, isn_n, isn_b, isn_i, isn_s, isn_t, isn_l, isn_d, isn_r, isn_enc, fAdd, fMul, fList, asLst, sOwn, mOwn, sApp, mOwnHere, mApp, gStar, dget, fComp, noX, Res.noX, mWipe, cmpR, wipeE, blsOf, intsOf, txtsOf, mZs, zsOf, zipD, mZip, zipOf, mRng1, mRng2, rngD, mCount, mIndexL, mMt, tyIs, mtp, findD, sTryAs, mIsE, noEx, sPar, sPar3, xRev, revD, sTry, reps, xNeg, negD, xDix, xDgt, mPop, mPopAt, mExt, sExt, xMth, mMth, xMak, mMak, xFld, mFld, insOf, fget, fput, sFst, mFpt, sFag, b_479, hemp, hL, e1, e2]
              · rw [show m + 1 + 7 = m + 7 + 1 by omega, dkb_lst, dkbs_app, dkbs_cons, u1, u2, u3]; rfl
              · rw [szb_lst, szb_tup]; omega
            · have w5 : d2 = 11 := by omega
              subst w5
              obtain ⟨v, S3, e3, p3, o3, s3⟩ := odd n k (by omega) S2 p2
              refine ⟨v, S3, ?_, p3, dkb_up _ _ _ o3 (by omega), by omega⟩
              generalize hX : T1 ++ y :: T2 = X at *
              simp (decide := true) [runD, xEqE, sRetL, xCallF, mCallF, mCalkF, Form.enc, sSeq, sIf, sRet, sNx, sAsg, sEx, sRai, ↓mb, Res.bind, mp, M.of, mT, xIsi, mBor, mVar, isTy, mTruth, truth, mOr, mAnd, mIte, mNot, xCmp, cop, eqo_nn, eqo_nb, eqo_ni, eqo_ns, eqo_nt, eqo_nl, eqo_nd, eqo_bn, eqo_bb, eqo_bi, eqo_bs, eqo_bt, eqo_bl, eqo_bd, eqo_in, eqo_ib, eqo_ii, eqo_is, eqo_it, eqo_il, eqo_id, eqo_sn, eqo_sb, eqo_si, eqo_ss, eqo_st, eqo_sl, eqo_sd, eqo_tn, eqo_tb, eqo_ti, eqo_ts, eqo_te, eqo_tt, eqo_tl, eqo_td, eqo_ln, eqo_lb, eqo_li, eqo_ls, eqo_lt, eqo_ll, eqo_ld, eqo_dn, eqo_db, eqo_di, eqo_ds, eqo_dt, eqo_dl, eqo_dd, inOk, D.flat, xTup, aNil, aCons, mSet, plain_str, plain_tup, plain_int, plain_bl, plains_nil, plains_cons, eqb_str, eqb_int, eqb_bl, eqb_tup, eqbs_nil, eqbs_cn, eqbs_nc, eqbs_cc, eqb_nn, eqb_nb, eqb_ni, eqb_ns, eqb_nt, eqb_nl, eqb_nd, eqb_bn, eqb_bi, eqb_bs, eqb_bt, eqb_b_l, eqb_bd, eqb_in, eqb_ib, eqb_is, eqb_it, eqb_il, eqb_id, eqb_sn, eqb_sb, eqb_si, eqb_sl, eqb_sd, eqb_tn, eqb_tb, eqb_ti, eqb_tl, eqb_td, eqb_ln, eqb_lb, eqb_li, eqb_ls, eqb_lt, eqb_ll, eqb_ld, eqb_dn, eqb_db, eqb_di, eqb_ds, eqb_dt, eqb_dl, eqb_dd, plain_non, plain_lst, plain_dic, eqb_st, eqb_ts, xLen, bip, xIdx, mIdx, index, mItems, mList, xCall, pp_call, xBin, bop_ai, bop_as, bop_at, bop_al, bop_si, bop_mi, bop_ml, bop_mt, bop_ms, bop_mo, bop_fd, bop_pw, SZ, mSlc, mPart, slice, gUnp, gCon, gEnd, mLst, gUnpT, fListT, mSt, M.bad, mChn, sFor, loopM, xBi, xFz, fLst, mCalk, srcOf, isn_n, isn_b, isn_i, isn_s, isn_t, isn_l, isn_d, isn_r, isn_enc, fAdd, fMul, fList, asLst, sOwn, mOwn, sApp, mOwnHere, mApp, gStar, dget, fComp, noX, Res.noX, mWipe, cmpR, wipeE, blsOf, intsOf, txtsOf, mZs, zsOf, zipD, mZip, zipOf, mRng1, mRng2, rngD, mCount, mIndexL, mMt, tyIs, mtp, findD, sTryAs, mIsE, noEx, sPar, sPar3, xRev, revD, sTry, reps, xNeg, negD, xDix, xDgt, mPop, mPopAt, mExt, sExt, xMth, mMth, xMak, mMak, xFld, mFld, insOf, fget, fput, sFst, mFpt, sFag, b_479, hemp, hL, e1, e2, e3]
    | dic kvs => cases kvs with
      | nil => exact other_flat n (m + 1) _ k S hp (by omega) (.inl rfl)
      | cons => simp [dkb] at hx
    | ref _ => simp [dkb] at hx
    | scr _ => simp [dkb] at hx
    | _ => exact other_flat n (m + 1) _ k S hp (by omega) (.inl rfl)
end k41
end Ev
set_option Elab.async false
set_option linter.all false
set_option autoImplicit false
set_option maxRecDepth 100000
set_option maxHeartbeats 4000000
namespace Ev
open PySem
namespace k41
open Form
theorem zip_at (w : D) (xs : List D) (sh : Txt) (k : Nat) (S S2 : Sto) (hn : xs.length + 1 ≤ 16777216) (es : callT TT k 477 [w] S = .ok (.str sh) S2) :
    (mZipS (aCons (xCall (TT.prm (callT TT k)) 477 1 (aCons (xIdx (mBor 0) (M.pure (.int 0))) aNil)) (aCons (mSlc (mBor 0) (mPart (M.pure (.int 1))) (M.pure none)) aNil))) [some (.fz (.tup (w :: xs))), none, none, none] S = .ok (zipD (signsD sh) xs) [some (.fz (.tup (w :: xs))), none, none, none] S2 := by
  have c1 : cut (w :: xs) (some 1) none = xs := by
    have := cut_drop (w :: xs) 1
    simpa using this
  have hs : slice (.tup (w :: xs)) (some 1) none = some (.tup xs) := by show some (D.tup (cut (w :: xs) (some 1) none)) = _; rw [c1]
  unfold mZipS
  refine (bind_ok (show (aCons (xCall (TT.prm (callT TT k)) 477 1 (aCons (xIdx (mBor 0) (M.pure (.int 0))) aNil)) (aCons (mSlc (mBor 0) (mPart (M.pure (.int 1))) (M.pure none)) aNil)) _ S = .ok [.str sh, .tup xs] [some (.fz (.tup (w :: xs))), none, none, none] S2 by
    simp (decide := true) [runD, xEqE, sRetL, xCallF, mCallF, mCalkF, Form.enc, sSeq, sIf, sRet, sNx, sAsg, sEx, sRai, ↓mb, Res.bind, mp, M.of, mT, xIsi, mBor, mVar, isTy, mTruth, truth, mOr, mAnd, mIte, mNot, xCmp, eqo_nn, eqo_nb, eqo_ni, eqo_ns, eqo_nt, eqo_nl, eqo_nd, eqo_bn, eqo_bb, eqo_bi, eqo_bs, eqo_bt, eqo_bl, eqo_bd, eqo_in, eqo_ib, eqo_ii, eqo_is, eqo_it, eqo_il, eqo_id, eqo_sn, eqo_sb, eqo_si, eqo_ss, eqo_st, eqo_sl, eqo_sd, eqo_tn, eqo_tb, eqo_ti, eqo_ts, eqo_te, eqo_tt, eqo_tl, eqo_td, eqo_ln, eqo_lb, eqo_li, eqo_ls, eqo_lt, eqo_ll, eqo_ld, eqo_dn, eqo_db, eqo_di, eqo_ds, eqo_dt, eqo_dl, eqo_dd, inOk, D.flat, xTup, aNil, aCons, mSet, plain_str, plain_tup, plain_int, plain_bl, plains_nil, plains_cons, eqb_str, eqb_int, eqb_bl, eqb_tup, eqbs_nil, eqbs_cn, eqbs_nc, eqbs_cc, eqb_nn, eqb_nb, eqb_ni, eqb_ns, eqb_nt, eqb_nl, eqb_nd, eqb_bn, eqb_bi, eqb_bs, eqb_bt, eqb_b_l, eqb_bd, eqb_in, eqb_ib, eqb_is, eqb_it, eqb_il, eqb_id, eqb_sn, eqb_sb, eqb_si, eqb_sl, eqb_sd, eqb_tn, eqb_tb, eqb_ti, eqb_tl, eqb_td, eqb_ln, eqb_lb, eqb_li, eqb_ls, eqb_lt, eqb_ll, eqb_ld, eqb_dn, eqb_db, eqb_di, eqb_ds, eqb_dt, eqb_dl, eqb_dd, plain_non, plain_lst, plain_dic, eqb_st, eqb_ts, xLen, bip, xIdx, mIdx, mItems, mList, xCall, pp_call, xBin, bop_ai, bop_as, bop_at, bop_al, bop_si, bop_mi, bop_ml, bop_mt, bop_ms, bop_mo, bop_fd, bop_pw, SZ, mSlc, mPart, slice, gUnp, gCon, gEnd, mLst, gUnpT, fListT, mSt, M.bad, mChn, sFor, loopM, xBi, xFz, fLst, mCalk, srcOf, isn_n, isn_b, isn_i, isn_s, isn_t, isn_l, isn_d, isn_r, isn_enc, idx0, es, c1, hn])).trans ?_
  rfl
theorem many : ∀ (m : Nat) (x : D), termB m x = true → szb x ≤ 16000000 → ∀ (k : Nat) (S : Sto), m + 1 < k → ∃ S', callT TT k 480 [x] S = .ok (.int (cntB m x)) S' ∧ Gr S S' := by
  intro m
  induction m with
  | zero => intro x h; simp [termB] at h
  | succ m ih =>
    intro x h hs k S hk
    obtain ⟨j, w, sh, xs, rfl0, rfl, hsh, hl, hf⟩ := termB_elim h
    obtain rfl : m = j := by omega
    obtain ⟨k, rfl⟩ : ∃ j, k = j + 1 := ⟨k - 1, by omega⟩
    obtain ⟨q1, q2, q3⟩ := shp_ok hsh
    have es := shape_of TT w k S (by omega)
    generalize hJ : S ++ [Cell.dct SHD, .dct SA2, .dct SA3] = S1 at es
    have gj : Gr S S1 := ⟨_, hJ.symm, by decide +kernel⟩
    rw [hsh] at es
    have es : callT TT k 477 [.str w] S = .ok (.str sh) S1 := es
    have hb := below_term hf
    have hbl := below_len sh xs
    have hz : cntB (m + 1) (.tup (.str w :: xs)) = 1 + ((below sh xs).map (cntB m)).sum := by simp [cntB, hsh]
    rw [hz]
    rw [szb_tup, szbs_cons] at hs
    have hsz : ∀ y ∈ below sh xs, szb y ≤ 16000000 := fun y hy => by
      unfold below at hy
      obtain ⟨p, hp, rfl⟩ := List.mem_map.mp hy
      have := szbs_mem xs (List.of_mem_zip (List.mem_filter.mp hp).1).2
      omega
    have ez := zip_at (.str w) xs sh k S S1 (by omega) es
    generalize D.tup (.str w :: xs) = x at *
    generalize hbs : below sh xs = bs at *
    suffices w : ∃ v S', callT TT (k + 1) 480 [x] S = .ok v S' ∧ (v = D.int ((1 + (bs.map (cntB m)).sum : Nat) : Int) ∧ Gr S S') by
      obtain ⟨v, S', e, hv, g⟩ := w
      exact ⟨S', by rw [e, hv], g⟩
    refine runW rfl ?_
    show wp (b_480 (TT.prm (callT TT k)) [some (.fz x), none, none, none] S) _ _
    unfold b_480
    refine wp_seq (wp_bind (wp_bind (wp_fcomp (wp_of ez ?_))))
    show wp (cmpR _ _ _ _ [] _ [some (.fz x), none, none, none] S1) _ _
    refine wp_filt (fun acc rest S' => S' = S1 ∧ acc ++ belowD rest = belowD (zipD (signsD sh) xs) ∧ ∀ d ∈ rest, pairD d) (fun acc d r S2 ⟨h1, h2, h3⟩ => ?_) (fun acc S2 ⟨h1, h2, h3⟩ => ?_) _ _ _ ⟨rfl, rfl, pairs_zip sh xs⟩ (by have := szip_len sh xs; simp [SZ]; omega)
    · obtain ⟨c, y, rfl⟩ := h3 d List.mem_cons_self
      subst h1
      by_cases hc : c = 101
      · subst hc
        dsimp! only [mWipe, wipeE]
        refine ⟨rfl, rfl, ?_, fun d hd => h3 d (List.mem_cons_of_mem _ hd)⟩
        simpa [belowD] using h2
      · dsimp! only [mWipe, wipeE, hc]
        refine ⟨rfl, rfl, ?_, fun d hd => h3 d (List.mem_cons_of_mem _ hd)⟩
        simpa [belowD, hc] using h2
    · subst h1
      rw [belowD_zip] at h2
      simp only [belowD, List.append_nil] at h2
      subst h2
      rw [hbs]
      refine kb_i ?_
      dsimp! only []
      refine kb_i ?_
      dsimp! only []
      refine ks_nx ?_
      refine wp_bind (wp_bind (wp_of (show _ = Res.ok (D.int 1) [some (.fz x), some (.fz (.lst bs)), none, none] S2 from rfl) (kb_i (wp_bind (wp_bind (wp_bind (wp_bind (wp_fcomp ?_))))))))
      dsimp! only []
      show wp (cmpR _ _ _ _ [] bs [some (.fz x), some (.fz (.lst bs)), none, none] S2) _ _
      refine wp_comp (fun S' => Gr S S') (fun d v => v = .int (cntB m d)) gj (by simp [SZ]; omega) (fun d hd S3 h1 => ?_) (fun vs S3 q h1 => ?_)
      · obtain ⟨S4, e, g⟩ := ih d (hb d hd) (hsz d hd) k S3 (by omega)
        dsimp! only [e, mWipe, wipeE]
        exact ⟨rfl, rfl, h1.trans g⟩
      · have := F2.eqmap (fun d => D.int (cntB m d)) q
        subst this
        have hi := ints_nat (cntB m) bs
        have hs := sum_nat (cntB m) bs
        have hb2 : ((1 + (bs.map (cntB m)).sum : Nat) : Int) = 1 + ((bs.map (cntB m)).sum : Int) := by omega
        rw [hb2]
        generalize (bs.map (cntB m)).sum = sm at *
        generalize bs.map (fun d => D.int (cntB m d)) = ds at *
        simp! [kb, wp_ok, retK_rt, hi, hs]
        exact h1
end k41
end Ev
set_option Elab.async false
set_option linter.all false
set_option autoImplicit false
set_option maxRecDepth 100000
set_option maxHeartbeats 4000000
namespace Ev
open PySem
namespace k41
open Form
theorem cnt_le : ∀ (m : Nat) (x : D), cntB m x ≤ szb x + 1 := by
  intro m
  induction m with
  | zero => intro x; simp [cntB]
  | succ m ih =>
    intro x
    cases x with
    | tup xs =>
      cases xs with
      | nil => simp [cntB]
      | cons y xs =>
        cases y with
        | str w =>
          cases hsh : shp w with
          | none => simp [cntB, hsh]
          | some sh =>
            have hz : cntB (m + 1) (.tup (.str w :: xs)) = 1 + ((below sh xs).map (cntB m)).sum := by simp [cntB, hsh]
            rw [hz, szb_tup, szbs_cons]
            have q : ∀ (sh : Txt) (xs : List D), ((below sh xs).map (cntB m)).sum ≤ szbs xs := by
              intro sh
              induction sh with
              | nil => intro xs; simp [below]
              | cons c sh ihs =>
                intro xs
                cases xs with
                | nil => simp [below]
                | cons x xs =>
                  have h1 := ihs xs
                  have h2 := ih x
                  unfold below at h1 ⊢
                  rw [szbs_cons, List.zip_cons_cons, List.filter_cons]
                  split
                  · simp only [List.map_cons, List.sum_cons]; omega
                  · omega
            have := q sh xs
            omega
        | _ => simp [cntB]
    | _ => simp [cntB]
theorem right (S : Sto) (n k : Nat) (hk : 101 < k) (hp : PotF S n) : ∃ S', callT TT (k + 1) 482 [.ref n] S = .ok (.bl true) S' ∧ PotF S' n := by
  obtain ⟨us, S1, e1, u1, u2, u3, p1⟩ := pool TT S n k hp (by omega)
  obtain ⟨t, S2, e2, ht, p2⟩ := term_drawn TT us u1 (by omega) u3 n 4 k S1 p1 (by omega)
  have e2 : callT TT k 272 [.ref n, .lst (us.map D.str), .int 4] S1 = .ok t S2 := e2
  have hok := termB_up 5 t ht.ok 12 (by omega)
  have hdk : dkb 12 t = true := ht.dk
  have hsz : szb t ≤ 400000 := Nat.le_trans ht.sz (by decide)
  obtain ⟨S3, e3, g3⟩ := law_term 12 t hdk (by omega) k S2 (by omega)
  rw [hok] at e3
  obtain ⟨S4, e4, g4⟩ := told 12 t hdk (by omega) (by omega) k S3 (by omega)
  have e5 := fun S => parts_in TT 12 t hok hdk (by omega) k S (by omega)
  obtain ⟨S6, e6, g6⟩ := many 12 t hok (by omega) k S4 (by omega)
  have hc := cnt_le 12 t
  generalize cntB 12 t = c at *
  obtain ⟨r, hr⟩ := dkb_repr (n := 1) (d := .lst [.int c, .int c]) (by
    simp only [dkb, dkbs, Bool.and_true, Bool.and_eq_true, decide_eq_true_eq]; omega) (by omega) (by simp [szb, szbs])
  have p6 : PotF S6 n := g6.toF (g4.toF (g3.toF p2))
  suffices w : ∃ v S', callT TT (k + 1) 482 [.ref n] S = .ok v S' ∧ (v = .bl true ∧ PotF S' n) by
    obtain ⟨v, S', e, hv, g⟩ := w
    exact ⟨S', by rw [e, hv], g⟩
  refine runW rfl ?_
  show wp (b_482 (TT.prm (callT TT k)) [some (.fz (.ref n)), none, none, none] S) _ _
  unfold b_482
  generalize us.map D.str = ul at *
  dsimp! [e1, e2]
  dsimp! [e3, e4]
  dsimp! [e5, e6, hr]
  refine wp_seq (wp_for (wp_of (rng_lit 5 (by omega) _ _) ?_))
  refine wp_loop (fun rest ρ S => (∃ x2 x3, ρ = [some (.fz (.ref n)), some (.fz t), x2, x3]) ∧ PotF S n ∧ ∀ d ∈ rest, ∃ j : Nat, d = .int j) (fun d r ρ S ⟨⟨x2, x3, hρ⟩, hp, hd⟩ => ?_) (fun ρ S ⟨⟨x2, x3, hρ⟩, hp, hd⟩ => ?_) _ _ _ ⟨⟨none, none, rfl⟩, p6, fun d hd => by
    obtain ⟨j, hj, rfl⟩ := mem_rngD 5 0 d hd
    exact ⟨j, by simp⟩⟩
  · subst hρ
    obtain ⟨j, rfl⟩ := hd d List.mem_cons_self
    have hd' := fun x hx => hd x (List.mem_cons_of_mem _ hx)
    obtain ⟨v, S7, e7, p7, o7, z7⟩ := otherwise n 12 t k S hdk (by omega) hp (by omega)
    by_cases h2 : 2 < j
    · obtain ⟨v2, S8, e8, p8, o8, z8⟩ := otherwise n 19 v k S7 o7 (by omega) p7 (by omega)
      obtain ⟨S9, e9, g9⟩ := told 26 v2 o8 (by omega) (by omega) k S8 (by omega)
      have h2' : (2 : Int) < (j : Int) := by omega
      dsimp! only [e7, e8, e9, h2, h2']
      exact ⟨⟨_, _, rfl⟩, g9.toF p8, hd'⟩
    · obtain ⟨S9, e9, g9⟩ := told 19 v o7 (by omega) (by omega) k S7 (by omega)
      have h2' : ¬ (2 : Int) < (j : Int) := by omega
      dsimp! only [e7, e9, h2, h2']
      exact ⟨⟨_, _, rfl⟩, g9.toF p7, hd'⟩
  · subst hρ
    obtain ⟨v, S7, e7, p7, o7, z7⟩ := odd n k (by omega) S hp
    obtain ⟨S8, e8, g8⟩ := told 7 v o7 (by omega) (by omega) k S7 (by omega)
    obtain ⟨S9, e9, g9⟩ := told 12 t hdk (by omega) (by omega) k S8 (by omega)
    refine ks_nx ?_
    dsimp! only [e7, e8, e9]
    exact ⟨rfl, g9.toF (g8.toF p7)⟩
def depth : Nat := 110
theorem answersD (ns : List Int) (k : Nat) (hk : 102 < k) : ∃ S', callT TT (k + 1) 126 [.scr ns] [] = .ok (.bl true) S' := by
  obtain ⟨S', e, _⟩ := law_allJ (e := xCall (TT.prm (callT TT k)) 482 1 (aCons (xCall (TT.prm (callT TT k)) 112 2 (aCons (mVar 0) (aCons (mVar 1) aNil))) aNil)) (fun S => S.all flatC = true) ns [] rfl (law_rng 6 (by decide) (by decide) ns [none] []) (fun i S hi hS => by
    obtain ⟨S1, e1, p1⟩ := potF TT ns i hi k S (by omega) hS
    obtain ⟨k, rfl⟩ : ∃ j, k = j + 1 := ⟨k - 1, by omega⟩
    obtain ⟨S2, e2, p2⟩ := right S1 S.length k (by omega) p1
    exact ⟨S2, by simp! [e1, e2], p2.2⟩)
  exact ⟨S', run1 k _ _ _ _ _ rfl e⟩
theorem answers (ns : List Int) (h1 : ns.length ≤ 63) (h2 : ∀ z ∈ ns, PySem.Builtin.Int.intBits z ≤ 1048576) : ∃ S', callT TT depth 126 [.scr ns] [] = .ok (.bl true) S' := answersD ns 109 (by omega)
end k41
end Ev
set_option maxHeartbeats 0
namespace Ev
namespace k41
open PySem PySem.Spec PyProof.Rows L2
def nms : List PySem.Str := (["WallError", "NoTerm", "PLAIN", "MOST_HEIGHT", "LETTERS_forms", "MOST_LETTERS", "WIDTHS", "is_name", "is_form_to", "is_form", "LETTERS_terms", "MOST_SIGNS", "SHAPES", "is_whole", "is_written", "fits", "is_term", "want_term", "terms_in", "many_in", "parts_in", "_law_pot", "_law_digit", "_law_name", "_law_form", "_law_pool", "_law_number", "_law_letters", "_law_shape", "_law_part"] : List PySem.Str) ++ (["_law_any_term", "_law_is_form", "_law_is_word", "_law_fits", "_law_is_term", "_law_odd", "_law_otherwise", "_law_many", "_law_told", "_law_right"] : List PySem.Str)
theorem run (w : World) : HandSHeadRun.RunEq Rw (PySem.W.view Rw.prog [44]) hkx obx 6000 nms w := by
  refine PySem.W.byRow2 "special-get-raises" (P := fun w => HandSHeadRun.RunEq Rw (PySem.W.view Rw.prog [44]) hkx obx 6000 nms w) (fun w => ?_) (fun w => ?_) w
  · intro os
    kernel_rfl
  · intro os
    kernel_rfl
end k41
end Ev
open PySem PySem.W PySem.Calls PyProof.Rows
theorem PySem.Challenge.cw_wallseal_k41_what_is_a_term_holds : PySem.Challenge.rw_wallseal_k41_what_is_a_term.Holds := by
  w_on; o_law
  refine HandSHeadRun.head_any (r := OpenLaw.row PySem.Challenge.rw_wallseal_k41_what_is_a_term) (q := view (OpenLaw.row PySem.Challenge.rw_wallseal_k41_what_is_a_term).prog [44]) (H := Ev.k41.hkx) (ob := Ev.k41.obx) (M := 6000) (loose := Ev.k41.nms) (d := HandSHeadRun.topDef (OpenLaw.row PySem.Challenge.rw_wallseal_k41_what_is_a_term).prog 44) (kwd := []) Ev.k41.obx_eq
    (by kernel_rfl) (fun s => by kernel_rfl) Ev.k41.run (by kernel_rfl) (by kernel_rfl) (by kernel_rfl) (by rfl) (by first | assumption | decide +kernel) (by decide +kernel) ⟨rfl, rfl, rfl, rfl, rfl, by decide +kernel⟩ ?hw ?hc
  case hw => w_witness2
  case hc =>
    refine Ev.endG (l := PySem.Challenge.rw_wallseal_k41_what_is_a_term) (n := 63) (k := Ev.k41.depth) (x := "_law_script") rfl (by decide) (by kernel_rfl) ⟨rfl, by decide, by decide⟩ ?F
    intro w mg fa h Y G hmg0
    obtain ⟨K, KX, c⟩ := Y
    have hmg : mg ("law" : PySem.Str) = some (.ref fa) := by
      have e : (HandSHeadRun.topDef (OpenLaw.row PySem.Challenge.rw_wallseal_k41_what_is_a_term).prog 44).name = ("law" : PySem.Str) := by kernel_rfl
      rw [← e]
      exact hmg0
    obtain ⟨fd, sp, hb, hs, hF⟩ := Ev.k41.facts (P := (PySem.Challenge.rw_wallseal_k41_what_is_a_term).prog) (w := w) Ev.k41.depth Ev.k41.answers KX G hmg c
    exact ⟨K, fd, sp, KX, hb, hs, hF⟩
