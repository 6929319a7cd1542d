import PyProof.Rows.All
import Wide.All
import OpenK.AllK
import Wide.FinOn
import HandS.ForMost
import HandS.ForExc
import HandS.More
import HandS.Flow
import HandS.IsInst
import HandS.CallSlots
import HandS.Style
import HandS.Strs
import HandS.Wide
import HandS.WideBits
import HandS.Defaults
import HandS.TupAny
import HandS.TupMul
import HandS.Deep
import HandS.RaiseMore
import HandS.FStr
import HandS.NoneIn
import HandS.Exc
import HandS.Zip
import PyProof.CollectIter
import PyProof.TupleIter
import KE.GoesEnumKw
import HandS.Zip0
import HandS.TryOnly
import HandS.ExcOwn
import HandS.HotCalls
import HandS.HeadHook1
import HandS.HeadHook2
import HandS.HeadHook3
import HandS.Ends
import HandS.EndBits
import HandS.Head0
import HandS.Head1
import HandS.Head2
import HandS.HeadEnd
import KE.KStateDown
import HandS.ExcIs
import HandS.ExcInitHot
import HandS.Text
import HandS.Dict
import HandS.SortKw
import KE.DataMinMax
import PyProof.SumAny
import HandS.TupSets
import HandS.SetTxt0
import KE.SortData
import HandS.Flt
import KE.KUnpack
import PyProof.StrWalks
import PyProof.ListStr
import HandS.Replace
import PyProof.Rows.StrNews2
import PyProof.EqKinds
import PyProof.FactsAll.dict
import KE.GoesMore
import KE.GoesZip
import PyProof.Rows.TmSorted
import PyProof.Rows.StrMeet
import HandS.MapObj
import KE.KDictZip
import PyProof.ListNew
import HandS.DictComp
import HandS.StrMore
import HandS.ForDict
import HandS.Iter
import HandS.ReplaceLit
import HandS.ReplaceDef
import PyProof.StrLawsRepr
import PyProof.Rows.StrDigitsNeg
import PyProof.Rows.StrIntSpec
import PyProof.ReprRoom
import PySem.Challenge.RW_wallseal_k16_form_texts
set_option Elab.async false
set_option autoImplicit false
set_option linter.all false
namespace Ev
abbrev Txt := List Nat
abbrev SZ : Nat := 16777216
inductive D where
  | non | bl (b : Bool) | int (i : Int) | str (x : Txt)
  | tup (xs : List D) | lst (xs : List D) | dic (kvs : List (D × D))
  | ref (n : Nat)
  /-- the law's own argument -/
  | scr (ns : List Int)
  deriving Inhabited
/-- an exception: the class's number, its fields -/
structure Exn where
  c : Nat
  fs : List (Txt × D)
/-- a slot: a thing that stays, or a list that is the slot's own, or a caught exception -/
inductive SV where
  | fz (d : D) | ow (xs : List D) | ex (x : Exn)
abbrev Env := List (Option SV)
/-- what others may change: a list, a dict, an instance (its class's number, its fields) -/
inductive Cell where
  | lst (xs : List D) | dct (kvs : List (D × D)) | ins (cl : Nat) (fs : List (Txt × D))
abbrev Sto := List Cell
inductive Res (α : Type) where
  | ok (a : α) (ρ : Env) (S : Sto)
  | exc (x : Exn) (ρ : Env) (S : Sto)
  | bad
def M (α : Type) : Type := Env → Sto → Res α
/-- a call's end -/
inductive CR where
  | ok (d : D) (S : Sto)
  | okl (xs : List D) (S : Sto)
  | exc (x : Exn) (S : Sto)
  | bad
abbrev Call := Nat → List D → Sto → CR
def Res.bind {α β : Type} (r : Res α) (f : α → M β) : Res β :=
  match r with
  | .ok a ρ S => f a ρ S
  | .exc x ρ S => .exc x ρ S
  | .bad => .bad
def M.bind {α β : Type} (m : M α) (f : α → M β) : M β := fun ρ S => (m ρ S).bind f
def M.pure {α : Type} (a : α) : M α := fun ρ S => .ok a ρ S
def M.bad {α : Type} : M α := fun _ _ => .bad
def M.of {α : Type} (o : Option α) : M α := fun ρ S => match o with | some a => .ok a ρ S | none => .bad
mutual
def D.eqb : D → D → Bool
  | .non, .non => true
  | .bl a, .bl b => a == b
  | .bl a, .int j => (if a then 1 else 0) == j
  | .int i, .bl b => i == (if b then 1 else 0)
  | .int i, .int j => i == j
  | .str x, .str y => x == y
  | .lst xs, .lst ys => D.eqbs xs ys
  | .tup xs, .tup ys => D.eqbs xs ys
  | _, _ => false
def D.eqbs : List D → List D → Bool
  | [], [] => true
  | x :: xs, y :: ys => D.eqb x y && D.eqbs xs ys
  | _, _ => false
end
mutual
/-- None, truths, numbers, texts, lists and tuples of such, to so many deep -/
def D.plain : Nat → D → Bool
  | _, .non => true
  | _, .bl _ => true
  | _, .int _ => true
  | _, .str x => x.all fun k => decide (k < 1114112)
  | n + 1, .tup xs => D.plains n xs
  | n + 1, .lst xs => D.plains n xs
  | _, _ => false
def D.plains : Nat → List D → Bool
  | _, [] => true
  | n, x :: xs => D.plain n x && D.plains n xs
end
/-- neither a tuple nor a list nor a dict -/
def D.flat : D → Bool
  | .non => true | .bl _ => true | .int _ => true | .str _ => true | _ => false
def D.isNon : D → Bool
  | .non => true | _ => false
inductive Bop where | add | sub | mul | mod | fdv | pow | shl
inductive Cop where | eq | ne | lt | le | gt | ge | is_ | nis | in_ | nin
def big64 : Int := 18446744073709551616
def reps {α : Type} (xs : List α) (n : Nat) : List α := (List.replicate n xs).flatten
def bop : Bop → D → D → Option D
  | .add, .int i, .int j => some (.int (i + j))
  | .add, .str x, .str y => if x.length + y.length ≤ SZ then some (.str (x ++ y)) else none
  | .add, .tup xs, .tup ys => if xs.length ≤ SZ ∧ ys.length ≤ SZ ∧ xs.length + ys.length ≤ SZ then some (.tup (xs ++ ys)) else none
  | .add, .lst xs, .lst ys => if xs.length + ys.length ≤ SZ then some (.lst (xs ++ ys)) else none
  | .sub, .int i, .int j => some (.int (i - j))
  | .mul, .int i, .int j => if (-big64 < i ∧ i < big64) ∨ (-big64 < j ∧ j < big64) then some (.int (i * j)) else none
  | .mul, .lst xs, .int k => if -(2 ^ 63) ≤ k ∧ k < 2 ^ 63 ∧ xs.length * k.toNat ≤ SZ then some (.lst (reps xs k.toNat)) else none
  | .mul, .tup xs, .int k => if xs ≠ [] ∧ 1 ≤ k ∧ k ≤ 1000 ∧ xs.length ≤ 1000 then some (.tup (reps xs k.toNat)) else none
  | .mod, .int i, .int j => if 0 < j then some (.int (i % j)) else none
  | .fdv, .int i, .int j => if 0 < j ∧ j < 1073741824 then some (.int (i / j)) else none
  | .pow, .int i, .int j => if 0 ≤ j ∧ j ≤ 1000000 ∧ i.natAbs < 2 ^ 64 then some (.int (i ^ j.toNat)) else none
  | .shl, .int i, .int j => if 0 ≤ j ∧ j ≤ 1000000 ∧ i.natAbs < 2 ^ 64 then some (.int (i * 2 ^ j.toNat)) else none
  | .mul, .str x, .int k => if x ≠ [] ∧ 2 ≤ k ∧ k ≤ 1000 ∧ x.length ≤ 1000 then some (.str (reps x k.toNat)) else none
  | _, _, _ => none
def dget (k : D) : List (D × D) → Option D
  | [] => none
  | (j, v) :: r => if D.eqb j k then some v else dget k r
/-- x == y, where both are plain -/
def eqo : D → D → Option Bool
  | .str x, .str y => some (x == y)
  | .int i, .int j => some (i == j)
  | .bl a, .bl b => some (a == b)
  | .tup xs, .tup [] => some xs.isEmpty
  | x, y => if D.plain 60 x && D.plain 60 y then some (D.eqb x y) else none
def inOk (x : D) (ys : List D) : Bool := (D.flat x && ys.all D.flat) || (D.plain 60 x && D.plains 60 ys)
def cop : Cop → D → D → Option Bool
  | .eq, x, y => eqo x y
  | .ne, x, y => (eqo x y).map (!·)
  | .lt, .int i, .int j => some (decide (i < j))
  | .lt, .str x, .str y => some (decide (x < y))
  | .le, .int i, .int j => some (decide (i ≤ j))
  | .gt, .int i, .int j => some (decide (j < i))
  | .ge, .int i, .int j => some (decide (j ≤ i))
  | .is_, x, .non => some (D.isNon x)
  | .nis, x, .non => some (!D.isNon x)
  | .is_, .bl a, .bl b => some (a == b)
  | .nis, .bl a, .bl b => some (!(a == b))
  | .in_, .str [k], .str y => some (decide (k ∈ y))
  | .nin, .str [k], .str y => some (!decide (k ∈ y))
  | .in_, x, .tup ys => if inOk x ys then some (ys.any fun y => D.eqb y x) else none
  | .nin, x, .tup ys => if inOk x ys then some (!ys.any fun y => D.eqb y x) else none
  | .in_, x, .lst ys => if inOk x ys then some (ys.any fun y => D.eqb y x) else none
  | .nin, x, .lst ys => if inOk x ys then some (!ys.any fun y => D.eqb y x) else none
  | .in_, .str x, .dic (p :: kvs) => some (dget (.str x) (p :: kvs)).isSome
  | .nin, .str x, .dic (p :: kvs) => some (!(dget (.str x) (p :: kvs)).isSome)
  | _, _, _ => none
def truth : D → Option Bool
  | .non => some false
  | .bl b => some b
  | .int i => some (decide (i ≠ 0))
  | .str x => if x.length ≤ SZ then some (!x.isEmpty) else none
  | .tup xs => some (!xs.isEmpty)
  | .lst xs => some (!xs.isEmpty)
  | .dic _ => none
  | .ref _ => none
  | .scr _ => none
/-- the item at a place of either sign -/
def atI {α : Type} (xs : List α) (i : Int) : Option α := if 0 ≤ i then xs[i.toNat]? else if 0 ≤ i + xs.length then xs[(i + xs.length).toNat]? else none
/-- a slice's end, within a length -/
def sIx (n d : Nat) : Option Int → Nat
  | none => d
  | some v => if v < 0 then (v + (n : Int)).toNat else min v.toNat n
def cut {α : Type} (xs : List α) (lo hi : Option Int) : List α := (xs.drop (sIx xs.length 0 lo)).take (sIx xs.length xs.length hi - sIx xs.length 0 lo)
def index : D → D → Option D
  | .scr ns, .int i => (atI ns i).map D.int
  | .tup xs, .int i => atI xs i
  | .lst xs, .int i => atI xs i
  | .str x, .int i => if x.length ≤ SZ then (atI x i).map fun c => .str [c] else none
  | .dic (p :: kvs), .str k => dget (.str k) (p :: kvs)
  | _, _ => none
def slice : D → Option Int → Option Int → Option D
  | .tup xs, lo, hi => some (.tup (cut xs lo hi))
  | .lst xs, lo, hi => some (.lst (cut xs lo hi))
  | .str x, lo, hi => if x.length ≤ SZ then some (.str (cut x lo hi)) else none
  | _, _, _ => none
def blsOf : List D → Option (List Bool)
  | [] => some []
  | .bl b :: r => (blsOf r).map (b :: ·)
  | _ :: _ => none
def intsOf : List D → Option (List Int)
  | [] => some []
  | .int b :: r => (intsOf r).map (b :: ·)
  | _ :: _ => none
def txtsOf : List D → Option (List Txt)
  | [] => some []
  | .str b :: r => (txtsOf r).map (b :: ·)
  | _ :: _ => none
def intTxt (i : Int) : Txt := (toString i).toList.map Char.toNat
def joinT (sep : Txt) : List Txt → Txt
  | [] => []
  | [x] => x
  | x :: y :: r => x ++ sep ++ joinT sep (y :: r)
def joinLen (n : Nat) : List Txt → Nat
  | [] => 0
  | x :: r => x.length + n + joinLen n r
/-- the first place -/
def findD (x : D) : List D → Nat → Option Nat
  | [], _ => none
  | y :: r, k => if D.eqb y x then some k else findD x r (k + 1)
inductive Bi where
  | len | abs | max2 | min2 | max1 | all | any | tuple | str | int | divmod | sum | repr | list
/-- built-ins that make no list -/
def bip (shown : D → Option Txt) : Bi → List D → Option D
  | .len, [.str x] => if x.length ≤ SZ then some (.int x.length) else none
  | .len, [.tup xs] => some (.int xs.length)
  | .len, [.lst xs] => some (.int xs.length)
  | .len, [.scr ns] => some (.int ns.length)
  | .abs, [.int i] => some (.int (if i < 0 then -i else i))
  | .max2, [.int i, .int j] => some (.int (if j > i then j else i))
  | .min2, [.int i, .int j] => some (.int (if j < i then j else i))
  | .max1, [.lst xs] => (intsOf xs).bind fun | [] => none | i :: r => some (.int (r.foldl max i))
  | .all, [.lst xs] => (blsOf xs).map fun bs => .bl (bs.all id)
  | .any, [.lst xs] => (blsOf xs).map fun bs => .bl (bs.any id)
  | .tuple, [.tup xs] => some (.tup xs)
  | .tuple, [.lst xs] => some (.tup xs)
  | .str, [.int i] => if i.natAbs.log2 < 1920 then some (.str (intTxt i)) else none
  | .str, [.str x] => some (.str x)
  | .int, [.int i] => some (.int i)
  | .int, [.bl b] => some (.int (if b then 1 else 0))
  | .divmod, [.int i, .int j] => if 0 < j ∧ j.natAbs.log2 < 9000 then some (.tup [.int (i / j), .int (i % j)]) else none
  | .sum, [.lst xs] => (intsOf xs).map fun is => .int is.sum
  | .repr, [x] => (shown x).map .str
  | _, _ => none
inductive Mt where
  | join | index | count | replace
def mtp : Mt → D → List D → Option D
  | .join, .str sep, [.lst xs] => (txtsOf xs).bind fun (ts : List Txt) => if joinLen sep.length ts ≤ SZ then some (.str (joinT sep ts)) else none
  | .index, .lst xs, [x] => if D.flat x && xs.all D.flat then (findD x xs 0).map (fun (k : Nat) => D.int (k : Int)) else none
  | .index, .tup xs, [.str x] => (txtsOf xs).bind fun _ => (findD (.str x) xs 0).map (fun (k : Nat) => D.int (k : Int))
  | .count, .lst xs, [x] => if D.plain 60 x && D.plain 60 (.lst xs) then some (.int (xs.countP fun y => D.eqb y x)) else none
  | _, _, _ => none
/-- the built-in types that isinstance is asked of -/
inductive Ty where | str | tuple | list | int | bool | dict
def isTy : Ty → D → Option Bool
  | _, .ref _ => none
  | _, .scr _ => none
  | .str, .str _ => some true
  | .tuple, .tup _ => some true
  | .list, .lst _ => some true
  | .int, .int _ => some true
  | .int, .bl _ => some true
  | .bool, .bl _ => some true
  | .dict, .dic _ => some true
  | _, _ => some false
mutual
inductive IE where
  | var (i : Nat)
  | cst (d : D)
  /-- a module's constant: its name in the text, its value -/
  | glo (nm : Txt) (d : D)
  | tup (es : IL) | lst (es : IL) | dct0
  /-- a list that others may change: a cell -/
  | cel (es : IL)
  | bin (o : Bop) (a b : IE) | neg (a : IE)
  | cmp (o : Cop) (a b : IE) | chn (o p : Cop) (a b c : IE)
  | andS (es : IL) | orS (es : IL) | notE (a : IE)
  | ite (t a b : IE)
  | idx (a i : IE) | slc (a : IE) (lo hi : Option IE) | revT (a : IE)
  | call (f : Nat) (es : IL)
  /-- a call by names: positional values, named values; of each parameter: the place of its value, or a default -/
  | calk (f : Nat) (es ks : IL) (src : List (Sum Nat D))
  | bi (b : Bi) (es : IL)
  | mt (m : Mt) (o : IE) (es : IL)
  | isi (a : IE) (ts : List Ty)
  /-- isinstance of a caught exception's name, against classes of one's own, or a built-in one -/
  | isx (i : Nat) (cs : List Nat)
  | comp (own : List Nat) (elt : IE) (tg : IT) (it : II) (cs : IL)
  | fstr (es : IL)
inductive IL where
  | nil | cons (e : IE) (es : IL)
/-- targets -/
inductive IT where
  | nm (i : Nat) | tp (ts : ITs) | ix (o i : IE)
inductive ITs where
  | nil | cons (t : IT) (ts : ITs) | star (i : Nat) (ts : ITs)
/-- what is walked -/
inductive II where
  | sq (e : IE) | rng (e : IE) | rng2 (a b : IE) | zip (strict : Bool) (a b : IE) | enum (e : IE)
end
mutual
inductive IS where
  | asg (t : IT) (e : IE)
  /-- name = a new list, the slot's own from then on -/
  | own (i : Nat) (e : IE)
  | app (i : Nat) (e : IE)
  | aug (i : Nat) (o : Bop) (e : IE)
  | ex (e : IE)
  | ret (e : IE) | retN
  | ifS (t : IE) (a b : ISs)
  | forS (t : IT) (it : II) (b : ISs)
  | whl (t : IE) (b : ISs)
  | brk | cnt | pas
  | rai (c : Nat) (es : IL)
  | tri (b : ISs) (hs : IHs)
inductive ISs where
  | nil | cons (s : IS) (r : ISs)
inductive IHs where
  | nil | cons (cs : List Nat) (nm : Option Nat) (b : ISs) (r : IHs)
end
inductive Flow where
  | nx | br | ct | rt (d : D) | rl (xs : List D)
/-- what stands around: calls by number; repr; which class is (under) which; the most turns of a while -/
structure Prm where
  call : Call
  shown : D → Option Txt
  sub : Nat → Nat → Bool
  flds : Nat → List Txt
  fuel : Nat
def mVar (i : Nat) : M D := fun ρ S => match ρ[i]? with
  | some (some (.fz d)) => .ok d ρ S
  | some (some (.ow xs)) => .ok (.lst xs) (ρ.set i (some (.fz (.lst xs)))) S
  | _ => .bad
/-- a name looked at only -/
def mBor (i : Nat) : M D := fun ρ S => match ρ[i]? with
  | some (some (.fz d)) => .ok d ρ S
  | some (some (.ow xs)) => .ok (.lst xs) ρ S
  | _ => .bad
def mSet (i : Nat) (d : D) : M Unit := fun ρ S => if i < ρ.length then .ok () (ρ.set i (some (.fz d))) S else .bad
def mOwn (i : Nat) (xs : List D) : M Unit := fun ρ S => if i < ρ.length then .ok () (ρ.set i (some (.ow xs))) S else .bad
def mCall (P : Prm) (f : Nat) (ds : List D) : M D := fun ρ S => match P.call f ds S with
  | .ok d S' => .ok d ρ S'
  | .okl xs S' => .ok (.lst xs) ρ S'
  | .exc x S' => .exc x ρ S'
  | .bad => .bad
def mCell (ds : List D) : M D := fun ρ S => .ok (.ref S.length) ρ (S ++ [.lst ds])
def mTruth (d : D) : M Bool := M.of (truth d)
def mIdx (x i : D) : M D := fun ρ S => match x with
  | .ref n => (match S[n]?, i with
    | some (.lst xs), .int k => (match atI xs k with | some d => .ok d ρ S | none => .bad)
    | _, _ => .bad)
  | _ => M.of (index x i) ρ S
def mPut (x i v : D) : M Unit := fun ρ S => match x, i with
  | .ref n, .int k => (match S[n]? with
    | some (.lst xs) => if 0 ≤ k ∧ k.toNat < xs.length then .ok () ρ (S.set n (.lst (xs.set k.toNat v))) else .bad
    | _ => .bad)
  | _, _ => .bad
def mApp (i : Nat) (d : D) : M Unit := fun ρ S => match ρ[i]? with
  | some (some (.ow xs)) => if xs.length < SZ then .ok () (ρ.set i (some (.ow (xs ++ [d])))) S else .bad
  | _ => .bad
def mIsx (P : Prm) (i : Nat) (cs : List Nat) : M D := fun ρ S => match ρ[i]? with
  | some (some (.ex x)) => .ok (.bl (cs.any (P.sub x.c))) ρ S
  | _ => .bad
def mList (d : D) : M (List D) := match d with
  | .tup xs => M.pure xs
  | .lst xs => M.pure xs
  | .str x => if x.length ≤ SZ then M.pure (x.map fun c => .str [c]) else M.bad
  | _ => M.bad
def srcOf (vs : List D) : List (Sum Nat D) → Option (List D)
  | [] => some []
  | .inl i :: r => match vs[i]?, srcOf vs r with | some v, some l => some (v :: l) | _, _ => none
  | .inr d :: r => match srcOf vs r with | some l => some (d :: l) | none => none
def isTys (ts : List Ty) (d : D) : Option Bool := match ts with
  | [] => some false
  | t :: r => match isTy t d, isTys r d with | some a, some b => some (a || b) | _, _ => none
def zipD : List D → List D → List D
  | x :: xs, y :: ys => .tup [x, y] :: zipD xs ys
  | _, _ => []
def enumD (k : Nat) : List D → List D
  | [] => []
  | x :: xs => .tup [.int k, x] :: enumD (k + 1) xs
def rngD (lo : Int) : Nat → List D
  | 0 => []
  | n + 1 => .int lo :: rngD (lo + 1) n
/-- the pieces of an f-string -/
def pieces : List D → Option Txt
  | [] => some []
  | .str x :: r => (pieces r).map (x ++ ·)
  | .int i :: r => if i.natAbs.log2 < 1920 then (pieces r).map (intTxt i ++ ·) else none
  | _ :: _ => none
/-- a loop: what a turn binds, the body -/
def loopM (asg : D → M Unit) (body : M Flow) : List D → M Flow
  | [] => M.pure .nx
  | d :: r => M.bind (asg d) fun _ => M.bind body fun f => match f with
    | .nx => loopM asg body r
    | .ct => loopM asg body r
    | .br => M.pure .nx
    | f => M.pure f
def compM (asg : D → M Unit) (cond : M Bool) (elt : M D) : List D → M (List D)
  | [] => M.pure []
  | d :: r => M.bind (asg d) fun _ => M.bind cond fun b => if b then M.bind elt fun v => M.bind (compM asg cond elt r) fun vs => M.pure (v :: vs) else compM asg cond elt r
def wipeE (ρ : Env) : List Nat → Env
  | [] => ρ
  | v :: vs => (wipeE ρ vs).set v none
/-- behind a block: its own names are what they were, where that stays -/
def backE (ρ₀ ρ : Env) : List Nat → Env
  | [] => ρ
  | v :: vs => (backE ρ₀ ρ vs).set v (match ρ₀[v]? with | some (some (.fz d)) => some (.fz d) | _ => none)
/-- a block with names of its own, which no exception leaves -/
def blockM {α : Type} (own : List Nat) (m : M α) : M α := fun ρ S => match m (wipeE ρ own) S with
  | .ok a ρ' S' => .ok a (backE ρ ρ' own) S'
  | _ => .bad
def isSimple : IE → Bool
  | .var _ => true
  | .cst _ => true
  | .neg (.cst _) => true
  | _ => false
def isSimpleO : Option IE → Bool
  | none => true
  | some e => isSimple e
def isGlo : IE → Bool
  | .glo _ _ => true
  | _ => false
/-- whose method it is -/
def recvOk : Mt → Bool → D → Bool
  | .join, _, .str _ => true
  | .replace, _, .str _ => true
  | .index, false, .lst _ => true
  | .index, true, .tup _ => true
  | .count, false, .lst _ => true
  | _, _, _ => false
/-- what is evaluated without a look at names -/
def isStat : IE → Bool
  | .cst _ => true
  | .glo _ _ => true
  | .lst .nil => true
  | .dct0 => true
  | _ => false
section
variable (P : Prm)
mutual
def ev : IE → M D
  | .var i => mVar i
  | .cst d => M.pure d
  | .glo _ d => M.pure d
  | .tup es => M.bind (evs es) fun ds => if ds.length ≤ SZ then M.pure (.tup ds) else M.bad
  | .lst es => M.bind (evs es) fun ds => if ds.length ≤ SZ then M.pure (.lst ds) else M.bad
  | .dct0 => M.pure (.dic [])
  | .cel es => M.bind (evs es) fun ds => if ds.length ≤ SZ then mCell ds else M.bad
  | .bin o a b => M.bind (ev a) fun x => M.bind (ev b) fun y => M.of (bop o x y)
  | .neg a => M.bind (ev a) fun x => match x with | .int i => M.pure (.int (-i)) | _ => M.bad
  | .cmp o a b => M.bind (if isStat b then evB a else ev a) fun x => M.bind (evB b) fun y => M.bind (M.of (cop o x y)) fun c => M.pure (.bl c)
  | .chn o p a b c => M.bind (ev a) fun x => M.bind (ev b) fun y => M.bind (M.of (cop o x y)) fun k => if k then M.bind (ev c) fun z => M.bind (M.of (cop p y z)) fun l => M.pure (.bl l) else M.pure (.bl false)
  | .andS es => evAnd es
  | .orS es => evOr es
  | .notE a => M.bind (ev a) fun x => M.bind (mTruth x) fun c => M.pure (.bl (!c))
  | .ite t a b => M.bind (ev t) fun x => M.bind (mTruth x) fun c => if c then ev a else ev b
  | .idx a i => M.bind (if isSimple i then evB a else ev a) fun x => M.bind (ev i) fun k => mIdx x k
  | .slc a lo hi => M.bind (if isSimpleO lo && isSimpleO hi then evB a else ev a) fun x => M.bind (evO lo) fun l => M.bind (evO hi) fun h => M.of (slice x l h)
  | .revT a => M.bind (ev a) fun x => match x with | .tup xs => M.pure (.tup xs.reverse) | .lst xs => M.pure (.lst xs.reverse) | _ => M.bad
  | .call f es => M.bind (evs es) fun ds => mCall P f ds
  | .calk f es ks src => M.bind (evs es) fun ds => M.bind (evs ks) fun ks => M.bind (M.of (srcOf (ds ++ ks) src)) fun l => mCall P f l
  | .bi b es => (match b, es with
    | .len, .cons e .nil => M.bind (evB e) fun x => M.of (bip P.shown .len [x])
    | .list, es => M.bind (evs es) fun ds => (match ds with | [d] => M.bind (mList d) fun xs => M.pure (.lst xs) | _ => M.bad)
    | b, es => M.bind (evs es) fun ds => M.of (bip P.shown b ds))
  | .mt m o es => M.bind (ev o) fun x => if recvOk m (isGlo o) x then M.bind (evs es) fun ds => M.of (mtp m x ds) else M.bad
  | .isi a ts => M.bind (evB a) fun x => M.bind (M.of (isTys ts x)) fun c => M.pure (.bl c)
  | .isx i cs => mIsx P i cs
  | .comp own elt tg it cs => M.bind (evI it) fun ds => blockM own (M.bind (compM (evT tg) (evC cs) (ev elt) ds) fun vs => if vs.length ≤ SZ then M.pure (.lst vs) else M.bad)
  | .fstr es => M.bind (evs es) fun ds => M.of ((pieces ds).bind fun x => if x.length ≤ SZ then some (.str x) else none)
/-- looked at only, where it's a name -/
def evB : IE → M D
  | .var i => mBor i
  | e => ev e
def evs : IL → M (List D)
  | .nil => M.pure []
  | .cons e es => M.bind (ev e) fun d => M.bind (evs es) fun ds => M.pure (d :: ds)
def evAnd : IL → M D
  | .nil => M.bad
  | .cons e .nil => ev e
  | .cons e es => M.bind (ev e) fun x => M.bind (mTruth x) fun c => if c then evAnd es else M.pure x
def evOr : IL → M D
  | .nil => M.bad
  | .cons e .nil => ev e
  | .cons e es => M.bind (ev e) fun x => M.bind (mTruth x) fun c => if c then M.pure x else evOr es
def evO : Option IE → M (Option Int)
  | none => M.pure none
  | some e => M.bind (ev e) fun d => match d with | .int i => M.pure (some i) | _ => M.bad
/-- the tests of a comprehension -/
def evC : IL → M Bool
  | .nil => M.pure true
  | .cons e es => M.bind (ev e) fun x => M.bind (mTruth x) fun c => if c then evC es else M.pure false
def evT : IT → D → M Unit
  | .nm i, d => mSet i d
  | .tp ts, d => (match d with | .tup xs => evTs ts xs | .lst xs => evTs ts xs | _ => M.bad)
  | .ix o i, d => M.bind (ev o) fun x => M.bind (ev i) fun k => mPut x k d
def evTs : ITs → List D → M Unit
  | .nil, xs => (match xs with | [] => M.pure () | _ :: _ => M.bad)
  | .cons t ts, xs => (match xs with | [] => M.bad | x :: r => M.bind (evT t x) fun _ => evTs ts r)
  | .star i ts, xs => M.bind (mSet i (.lst xs)) fun _ => evTs ts []
def evI : II → M (List D)
  | .sq e => M.bind (ev e) fun d => mList d
  | .rng e => M.bind (ev e) fun d => (match d with | .int n => if -(2 ^ 62) ≤ n ∧ n < 2 ^ 62 then M.pure (rngD 0 n.toNat) else M.bad | _ => M.bad)
  | .rng2 a b => M.bind (ev a) fun d => M.bind (ev b) fun e => (match d, e with | .int m, .int n => if -(2 ^ 62) ≤ m ∧ m < 2 ^ 62 ∧ -(2 ^ 62) ≤ n ∧ n < 2 ^ 62 then M.pure (rngD m (n - m).toNat) else M.bad | _, _ => M.bad)
  | .zip s a b => M.bind (ev a) fun d => M.bind (ev b) fun e => M.bind (mList d) fun xs => M.bind (mList e) fun ys => if xs.length = ys.length ∨ s = false then M.pure (zipD xs ys) else M.bad
  | .enum a => M.bind (ev a) fun d => M.bind (mList d) fun xs => M.pure (enumD 0 xs)
end
def mLst (d : D) : M (List D) := match d with | .tup xs => M.pure xs | .lst xs => M.pure xs | _ => M.bad
def asLst (d : D) : M (List D) := match d with | .lst xs => M.pure xs | _ => M.bad
end
/-- a def: how many parameters, how many slots, the body -/
structure FDef where
  np : Nat
  ns : Nat
  body : ISs
/-- the program: defs by number; what is as in Prm -/
structure Tab where
  fn : Nat → Option FDef
  shown : D → Option Txt
  sub : Nat → Nat → Bool
  flds : Nat → List Txt
  fuel : Nat
def Tab.prm (T : Tab) (c : Call) : Prm := { call := c, shown := T.shown, sub := T.sub, flds := T.flds, fuel := T.fuel }
end Ev
set_option Elab.async false
set_option linter.all false
set_option autoImplicit false
set_option maxRecDepth 100000
namespace Ev
open PySem PySem.Spec PyProof.Rows L2
abbrev St := L2.St
def toStr (x : Txt) : Str := ⟨x.toArray⟩
/-- what stays through the law: the written part, the world, the classes' addresses -/
structure Kx where
  K : PySem.W.Frag
  w : World
  ca : Nat → Option Addr
def FlatV : D → V → Prop
  | .non, v => v = .non
  | .bl b, v => v = .bl b
  | .int i, v => v = .int i
  | .str x, v => v = .str (toStr x)
  | _, _ => False
/-- a written dict with texts as keys -/
def WDict (c : Kx) (kvs : List (D × D)) (a : Addr) : Prop :=
  (∃ es n, L2.KDict c.K c.w a es n) ∧ ∀ z : Txt, ∃ r, PySem.W.nsIn c.K a (toStr z) = some r ∧ (match dget (.str z) kvs with | none => r = none | some d => ∃ u v0, r = some u ∧ RelV v0 u ∧ FlatV d v0)
section
variable (c : Kx) (F : Hp) (m : List Addr)
mutual
def Rep : D → V → Prop
  | .non, v => v = .non
  | .bl b, v => v = .bl b
  | .int i, v => v = .int i
  | .str x, v => v = .str (toStr x)
  | .tup xs, v => ∃ a vs, v = .ref a ∧ SqT c.K F a vs ∧ RepL xs vs
  | .lst xs, v => ∃ a vs, v = .ref a ∧ F a = some (.lst vs) ∧ RepL xs vs
  | .dic kvs, v => ∃ a, v = .ref a ∧ ((kvs = [] ∧ F a = some (.dK [])) ∨ (kvs ≠ [] ∧ WDict c kvs a))
  | .ref n, v => ∃ a, m[n]? = some a ∧ v = .ref a
  | .scr ns, v => ∃ a, v = .ref a ∧ SqL c.K F a (ns.map V.int)
def RepL : List D → List V → Prop
  | [], vs => vs = []
  | x :: xs, vs => ∃ v r, vs = v :: r ∧ Rep x v ∧ RepL xs r
end
end
/-- more is tracked, more cells there are -/
structure Ext (F : Hp) (m : List Addr) (F' : Hp) (m' : List Addr) : Prop where
  f : ∀ a o, F a = some o → F' a = some o
  m : ∃ r, m' = m ++ r
theorem Ext.refl {F : Hp} {m : List Addr} : Ext F m F m := ⟨fun _ _ h => h, [], by simp⟩
theorem Ext.trans {F F1 F2 : Hp} {m m1 m2 : List Addr} (a : Ext F m F1 m1) (b : Ext F1 m1 F2 m2) : Ext F m F2 m2 := by
  refine ⟨fun x o h => b.f x o (a.f x o h), ?_⟩
  obtain ⟨r, rfl⟩ := a.m
  obtain ⟨s, rfl⟩ := b.m
  exact ⟨r ++ s, by simp⟩
theorem Ext.at_ {F F' : Hp} {m m' : List Addr} (e : Ext F m F' m') {n : Nat} {a : Addr} (h : m[n]? = some a) : m'[n]? = some a := by
  obtain ⟨r, rfl⟩ := e.m
  have hn : n < m.length := (List.getElem?_eq_some_iff.mp h).1
  rw [List.getElem?_append_left hn]
  exact h
theorem Ext.sqT {K : PySem.W.Frag} {F F' : Hp} {m m' : List Addr} (e : Ext F m F' m') {a : Addr} {vs : List V} (h : SqT K F a vs) : SqT K F' a vs := by
  rcases h with (h | ⟨o, h⟩) | h
  · exact .inl (.inl (e.f _ _ h))
  · exact .inl (.inr ⟨o, e.f _ _ h⟩)
  · exact .inr h
theorem Ext.sqL {K : PySem.W.Frag} {F F' : Hp} {m m' : List Addr} (e : Ext F m F' m') {a : Addr} {vs : List V} (h : SqL K F a vs) : SqL K F' a vs := by
  rcases h with (h | ⟨o, h⟩) | h
  · exact .inl (.inl (e.f _ _ h))
  · exact .inl (.inr ⟨o, e.f _ _ h⟩)
  · exact .inr h
section
variable {c : Kx} {F F' : Hp} {m m' : List Addr}
mutual
theorem Rep.ext (e : Ext F m F' m') : ∀ {d : D} {v : V}, Rep c F m d v → Rep c F' m' d v
  | .non, _, h => by simpa [Rep] using h
  | .bl _, _, h => by simpa [Rep] using h
  | .int _, _, h => by simpa [Rep] using h
  | .str _, _, h => by simpa [Rep] using h
  | .tup xs, v, h => by
    obtain ⟨a, vs, e1, h1, h2⟩ := (show ∃ a vs, v = .ref a ∧ SqT c.K F a vs ∧ RepL c F m xs vs by simpa [Rep] using h)
    have q := RepL.ext e h2
    simp only [Rep]
    exact ⟨a, vs, e1, e.sqT h1, q⟩
  | .lst xs, v, h => by
    obtain ⟨a, vs, e1, h1, h2⟩ := (show ∃ a vs, v = .ref a ∧ F a = some (.lst vs) ∧ RepL c F m xs vs by simpa [Rep] using h)
    have q := RepL.ext e h2
    simp only [Rep]
    exact ⟨a, vs, e1, e.f _ _ h1, q⟩
  | .dic kvs, v, h => by
    simp only [Rep] at h ⊢
    obtain ⟨a, e1, h1⟩ := h
    refine ⟨a, e1, ?_⟩
    rcases h1 with ⟨h1, h2⟩ | h1
    · exact .inl ⟨h1, e.f _ _ h2⟩
    · exact .inr h1
  | .ref n, v, h => by
    simp only [Rep] at h ⊢
    obtain ⟨a, h1, h2⟩ := h
    exact ⟨a, e.at_ h1, h2⟩
  | .scr ns, v, h => by
    simp only [Rep] at h ⊢
    obtain ⟨a, h1, h2⟩ := h
    exact ⟨a, h1, e.sqL h2⟩
theorem RepL.ext (e : Ext F m F' m') : ∀ {xs : List D} {vs : List V}, RepL c F m xs vs → RepL c F' m' xs vs
  | [], _, h => by simpa [RepL] using h
  | x :: xs, vs, h => by
    obtain ⟨v, r, e1, h1, h2⟩ := (show ∃ v r, vs = v :: r ∧ Rep c F m x v ∧ RepL c F m xs r by simpa [RepL] using h)
    have q1 := Rep.ext e h1
    have q2 := RepL.ext e h2
    simp only [RepL]
    exact ⟨v, r, e1, q1, q2⟩
end
end
/-- the ghost: what is protected, what stays, the cells' addresses, the slots, the cells -/
structure Gs where
  G : Hp
  F : Hp
  m : List Addr
  ρ : Env
  S : Sto
def keyOf : D → Option L2.Key
  | .str x => some (.inr (toStr x))
  | .int i => some (.inl i)
  | _ => none
def RepKv (c : Kx) (F : Hp) (m : List Addr) : List (D × D) → List (L2.Key × V) → Prop
  | [], kk => kk = []
  | (k, d) :: r, kk => ∃ key v t, keyOf k = some key ∧ kk = (key, v) :: t ∧ Rep c F m d v ∧ RepKv c F m r t
def RepFs (c : Kx) (F : Hp) (m : List Addr) : List (Txt × D) → List (Str × V) → Prop
  | [], fs => fs = []
  | (f, d) :: r, fs => ∃ v t, fs = (toStr f, v) :: t ∧ Rep c F m d v ∧ RepFs c F m r t
def CellR (c : Kx) (F : Hp) (m : List Addr) : Cell → Option HO → Prop
  | .lst xs, o => ∃ vs, o = some (.lst vs) ∧ RepL c F m xs vs
  | .dct kvs, o => ∃ kk, o = some (.dK kk) ∧ RepKv c F m kvs kk
  | .ins cl fs, o => (∃ C dx vs, cl ≠ 0 ∧ c.ca cl = some C ∧ o = some (.ins C dx vs) ∧ RepFs c F m fs vs) ∨ (cl = 0 ∧ ∃ u, o = some u)
section
variable {c : Kx} {F F' : Hp} {m m' : List Addr}
theorem RepKv.ext (e : Ext F m F' m') : ∀ {kvs : List (D × D)} {kk : List (L2.Key × V)}, RepKv c F m kvs kk → RepKv c F' m' kvs kk
  | [], _, h => h
  | (k, d) :: r, kk, ⟨key, v, t, h1, h2, h3, h4⟩ => ⟨key, v, t, h1, h2, h3.ext e, RepKv.ext e h4⟩
theorem RepFs.ext (e : Ext F m F' m') : ∀ {fs : List (Txt × D)} {vs : List (Str × V)}, RepFs c F m fs vs → RepFs c F' m' fs vs
  | [], _, h => h
  | (f, d) :: r, vs, ⟨v, t, h2, h3, h4⟩ => ⟨v, t, h2, h3.ext e, RepFs.ext e h4⟩
theorem CellR.ext (e : Ext F m F' m') {x : Cell} {o : Option HO} (h : CellR c F m x o) : CellR c F' m' x o := by
  cases x with
  | lst xs => obtain ⟨vs, h1, h2⟩ := h; exact ⟨vs, h1, h2.ext e⟩
  | dct kvs => obtain ⟨kk, h1, h2⟩ := h; exact ⟨kk, h1, h2.ext e⟩
  | ins cl fs =>
    rcases h with ⟨C, dx, vs, h1, h2, h3, h4⟩ | h
    · exact .inl ⟨C, dx, vs, h1, h2, h3, h4.ext e⟩
    · exact .inr h
theorem CellR.some_ {x : Cell} {o : Option HO} (h : CellR c F m x o) : ∃ u, o = some u := by
  cases x with
  | lst xs => obtain ⟨vs, h1, _⟩ := h; exact ⟨_, h1⟩
  | dct kvs => obtain ⟨kk, h1, _⟩ := h; exact ⟨_, h1⟩
  | ins cl fs =>
    rcases h with ⟨C, dx, vs, _, _, h3, _⟩ | ⟨_, h⟩
    · exact ⟨_, h3⟩
    · exact h
end
/-- what may be protected at a cell's address: a thing that is locked for a while (the cell is told as one of class 0) -/
def GOk (o : Option HO) (x : Cell) : Prop := o = none ∨ ((∃ fs, x = .ins 0 fs) ∧ ∃ od u, o = some (.frz od u))
theorem GOk.none_ {o : Option HO} {x : Cell} (h : GOk o x) (hx : ∀ fs, x ≠ .ins 0 fs) : o = none := h.resolve_right fun ⟨⟨fs, e⟩, _⟩ => hx fs e
theorem GOk.no {o : Option HO} {x : Cell} {u : HO} (h : GOk o x) (e : o = some u) (hu : ∀ od v, u ≠ .frz od v) : False := by
  rcases h with h | ⟨_, od, v, h⟩
  · rw [e] at h; cases h
  · rw [e] at h; cases h; exact hu _ _ rfl
structure RelB (c : Kx) (G F : Hp) (m : List Addr) (S : Sto) (H : Hp) : Prop where
  fh : ∀ a o, F a = some o → H a = some o
  gh : ∀ a o, G a = some o → H a = some o
  fg : ∀ a o, F a = some o → G a = none
  ml : m.length = S.length
  md : m.Nodup
  cl : ∀ (n : Nat) (x : Cell) (a : Addr), S[n]? = some x → m[n]? = some a → F a = none ∧ GOk (G a) x ∧ CellR c F m x (H a)
structure Rel (c : Kx) (g : Gs) (σ : St) (H : Hp) : Prop where
  b : RelB c g.G g.F g.m g.S H
  ln : g.ρ.length = σ.length
  sf : ∀ (i : Nat) (d : D), g.ρ[i]? = some (some (.fz d)) → ∃ v, σ[i]? = some (some v) ∧ Rep c g.F g.m d v
  so : ∀ (i : Nat) (xs : List D), g.ρ[i]? = some (some (.ow xs)) → ∃ a vs, σ[i]? = some (some (.ref a)) ∧ H a = some (.lst vs) ∧ RepL c g.F g.m xs vs ∧ g.F a = none ∧ g.G a = none ∧ a ∉ g.m
  sd : ∀ (i j : Nat) (xs ys : List D) (a : Addr), i ≠ j → g.ρ[i]? = some (some (.ow xs)) → g.ρ[j]? = some (some (.ow ys)) → σ[i]? = some (some (.ref a)) → σ[j]? ≠ some (some (.ref a))
  /-- a caught exception: it stands at the address that the context tells under 0 -/
  sx : ∀ (i : Nat) (x : Exn), g.ρ[i]? = some (some (.ex x)) → ∃ a, c.ca 0 = some a ∧ σ[i]? = some (some (.ref a))
structure GExt (g g' : Gs) : Prop where
  e : Ext g.F g.m g'.F g'.m
  pr : g'.G = g.G
theorem GExt.refl {g : Gs} : GExt g g := ⟨.refl, rfl⟩
theorem GExt.trans {g g1 g2 : Gs} (a : GExt g g1) (b : GExt g1 g2) : GExt g g2 := ⟨a.e.trans b.e, b.pr.trans a.pr⟩
section
variable {c : Kx} {g : Gs} {σ : St} {H H' : Hp}
/-- an address that is not tracked at all -/
theorem Rel.fresh (R : Rel c g σ H) {a : Addr} (h : H a = none) : g.F a = none ∧ g.G a = none ∧ a ∉ g.m := by
  refine ⟨?_, ?_, fun hm => ?_⟩
  · cases q : g.F a with
    | none => rfl
    | some o => have := R.b.fh _ _ q; rw [h] at this; cases this
  · cases q : g.G a with
    | none => rfl
    | some o => have := R.b.gh _ _ q; rw [h] at this; cases this
  · obtain ⟨n, hn, e⟩ := List.getElem_of_mem hm
    have hs : n < g.S.length := by rw [← R.b.ml]; exact hn
    obtain ⟨_, _, q⟩ := R.b.cl n g.S[n] a (by simp [hs]) (by rw [List.getElem?_eq_getElem hn, e])
    obtain ⟨u, z⟩ := q.some_
    rw [h] at z; cases z
/-- an own list's address is tracked -/
theorem Rel.ownAt (R : Rel c g σ H) {i : Nat} {xs : List D} {a : Addr} (h : g.ρ[i]? = some (some (.ow xs))) (e : σ[i]? = some (some (.ref a))) : ∃ vs, H a = some (.lst vs) ∧ RepL c g.F g.m xs vs ∧ g.F a = none ∧ g.G a = none ∧ a ∉ g.m := by
  obtain ⟨b, vs, e1, h1, h2, h3, h4, h5⟩ := R.so i xs h
  rw [e] at e1; cases e1
  exact ⟨vs, h1, h2, h3, h4, h5⟩
/-- the heap has grown by an object that nothing here speaks of, or that stays from now on -/
theorem Rel.grow (R : Rel c g σ H) {p : Addr} {o : HO} (hp : H p = none) : Rel c { g with F := upd g.F p o } σ (upd H p o) ∧ GExt g { g with F := upd g.F p o } := by
  obtain ⟨f1, f2, f3⟩ := R.fresh hp
  have ne : ∀ {a : Addr} {u : HO}, H a = some u → a ≠ p := fun h z => by subst z; rw [hp] at h; cases h
  have ext : Ext g.F g.m (upd g.F p o) g.m := ⟨fun a u h => by rw [upd_ne (ne (R.b.fh _ _ h))]; exact h, [], by simp⟩
  refine ⟨⟨⟨fun a u h => ?_, fun a u h => ?_, fun a u h => ?_, R.b.ml, R.b.md, fun n x a h1 h2 => ?_⟩, R.ln, fun i d h => ?_, fun i xs h => ?_, R.sd, R.sx⟩, ext, rfl⟩
  · have h : upd g.F p o a = some u := h
    by_cases z : a = p
    · subst z; rw [upd_same] at h ⊢; exact h
    · rw [upd_ne z] at h ⊢; exact R.b.fh _ _ h
  · rw [upd_ne (ne (R.b.gh _ _ h))]; exact R.b.gh _ _ h
  · by_cases z : a = p
    · subst z; exact f2
    · have h : upd g.F p o a = some u := h
      rw [upd_ne z] at h; exact R.b.fg _ _ h
  · have hm : a ∈ g.m := List.mem_of_getElem? h2
    have z : a ≠ p := fun z => f3 (z ▸ hm)
    obtain ⟨q1, q2, q3⟩ := R.b.cl n x a h1 h2
    refine ⟨by show upd g.F p o a = none; rw [upd_ne z]; exact q1, q2, ?_⟩
    rw [upd_ne z]
    exact q3.ext ext
  · obtain ⟨v, e, r⟩ := R.sf i d h
    exact ⟨v, e, r.ext ext⟩
  · obtain ⟨a, vs, e, h1, r, h2, h3, h4⟩ := R.so i xs h
    have z := ne h1
    exact ⟨a, vs, e, by rw [upd_ne z]; exact h1, r.ext ext, by show upd g.F p o a = none; rw [upd_ne z]; exact h2, h3, h4⟩
/-- .. by one that is nobody's yet -/
theorem Rel.grow0 (R : Rel c g σ H) {p : Addr} {o : HO} (hp : H p = none) : Rel c g σ (upd H p o) := by
  have ne : ∀ {a : Addr} {u : HO}, H a = some u → a ≠ p := fun h z => by subst z; rw [hp] at h; cases h
  obtain ⟨f1, f2, f3⟩ := R.fresh hp
  refine ⟨⟨fun a u h => ?_, fun a u h => ?_, R.b.fg, R.b.ml, R.b.md, fun n x a h1 h2 => ?_⟩, R.ln, R.sf, fun i xs h => ?_, R.sd, R.sx⟩
  · rw [upd_ne (ne (R.b.fh _ _ h))]; exact R.b.fh _ _ h
  · rw [upd_ne (ne (R.b.gh _ _ h))]; exact R.b.gh _ _ h
  · have z : a ≠ p := fun z => f3 (z ▸ List.mem_of_getElem? h2)
    obtain ⟨q1, q2, q3⟩ := R.b.cl n x a h1 h2
    exact ⟨q1, q2, by rw [upd_ne z]; exact q3⟩
  · obtain ⟨a, vs, e, h1, r, h2, h3, h4⟩ := R.so i xs h
    exact ⟨a, vs, e, by rw [upd_ne (ne h1)]; exact h1, r, h2, h3, h4⟩
/-- a list that is nobody's: in the heap, not among what stays, nor a cell, nor a slot's own -/
structure Loose (c : Kx) (g : Gs) (σ : St) (H : Hp) (xs : List D) (a : Addr) : Prop where
  ex : ∃ vs, H a = some (.lst vs) ∧ RepL c g.F g.m xs vs
  f : g.F a = none
  gn : g.G a = none
  mn : a ∉ g.m
  s : ∀ (i : Nat) (ys : List D), g.ρ[i]? = some (some (.ow ys)) → σ[i]? ≠ some (some (.ref a))
theorem Rel.loose (R : Rel c g σ H) {p : Addr} {vs : List V} {xs : List D} (hp : H p = none) (r : RepL c g.F g.m xs vs) : Loose c g σ (upd H p (.lst vs)) xs p := by
  obtain ⟨f1, f2, f3⟩ := R.fresh hp
  refine ⟨⟨vs, upd_same, r⟩, f1, f2, f3, fun i ys h e => ?_⟩
  obtain ⟨a, vs', e', h1, _⟩ := R.so i ys h
  rw [e] at e'; cases e'
  rw [hp] at h1; cases h1
/-- it stays from now on -/
theorem Rel.freeze (R : Rel c g σ H) {a : Addr} {xs : List D} (L : Loose c g σ H xs a) : ∃ F', Rel c { g with F := F' } σ H ∧ GExt g { g with F := F' } ∧ Rep c F' g.m (.lst xs) (.ref a) := by
  obtain ⟨vs, hv, r⟩ := L.ex
  have ext : Ext g.F g.m (upd g.F a (.lst vs)) g.m := ⟨fun b u h => by rw [upd_ne (fun z => by subst z; rw [L.f] at h; cases h)]; exact h, [], by simp⟩
  refine ⟨upd g.F a (.lst vs), ⟨⟨fun b u h => ?_, R.b.gh, fun b u h => ?_, R.b.ml, R.b.md, fun n x b h1 h2 => ?_⟩, R.ln, fun i d h => ?_, fun i ys h => ?_, R.sd, R.sx⟩, ⟨ext, rfl⟩, ?_⟩
  · by_cases z : b = a
    · subst z; have h : upd g.F b (.lst vs) b = some u := h; rw [upd_same] at h; cases h; exact hv
    · have h : upd g.F a (.lst vs) b = some u := h; rw [upd_ne z] at h; exact R.b.fh _ _ h
  · by_cases z : b = a
    · subst z; exact L.gn
    · have h : upd g.F a (.lst vs) b = some u := h; rw [upd_ne z] at h; exact R.b.fg _ _ h
  · have z : b ≠ a := fun z => L.mn (z ▸ List.mem_of_getElem? h2)
    obtain ⟨q1, q2, q3⟩ := R.b.cl n x b h1 h2
    refine ⟨by show upd g.F a (.lst vs) b = none; rw [upd_ne z]; exact q1, q2, ?_⟩
    exact q3.ext ext
  · obtain ⟨v, e, r⟩ := R.sf i d h
    exact ⟨v, e, r.ext ext⟩
  · obtain ⟨b, ws, e, h1, r, h2, h3, h4⟩ := R.so i ys h
    have z : b ≠ a := fun z => L.s i ys h (z ▸ e)
    exact ⟨b, ws, e, h1, r.ext ext, by show upd g.F a (.lst vs) b = none; rw [upd_ne z]; exact h2, h3, h4⟩
  · simp only [Rep]
    exact ⟨a, vs, rfl, upd_same, r.ext ext⟩
/-- a name is bound -/
theorem Rel.set (R : Rel c g σ H) {i : Nat} {d : D} {v : V} (r : Rep c g.F g.m d v) : Rel c { g with ρ := g.ρ.set i (some (.fz d)) } (σ.set i (some v)) H := by
  refine ⟨R.b, by simp [R.ln], fun j e h => ?_, fun j xs h => ?_, fun j k xs ys a ne h1 h2 h3 => ?_, fun j x h => ?_⟩
  · by_cases z : j = i
    · subst z
      have hl : j < g.ρ.length := by
        have := (List.getElem?_eq_some_iff.mp h).1
        simpa using this
      have h : (g.ρ.set j (some (.fz d)))[j]? = some (some (.fz e)) := h
      rw [List.getElem?_set_self hl] at h
      cases h
      exact ⟨v, by rw [List.getElem?_set_self (by rw [← R.ln]; exact hl)], r⟩
    · have h : (g.ρ.set i (some (.fz d)))[j]? = some (some (.fz e)) := h
      rw [List.getElem?_set_ne (Ne.symm z)] at h
      obtain ⟨w, e1, r1⟩ := R.sf j e h
      exact ⟨w, by rw [List.getElem?_set_ne (Ne.symm z)]; exact e1, r1⟩
  · have z : j ≠ i := fun z => by
      subst z
      have hl : j < g.ρ.length := by
        have := (List.getElem?_eq_some_iff.mp h).1
        simpa using this
      have h : (g.ρ.set j (some (.fz d)))[j]? = some (some (.ow xs)) := h
      rw [List.getElem?_set_self hl] at h
      cases h
    have h : (g.ρ.set i (some (.fz d)))[j]? = some (some (.ow xs)) := h
    rw [List.getElem?_set_ne (Ne.symm z)] at h
    obtain ⟨a, vs, e1, q⟩ := R.so j xs h
    exact ⟨a, vs, by rw [List.getElem?_set_ne (Ne.symm z)]; exact e1, q⟩
  · have zz : ∀ {j : Nat} {xs : List D}, (g.ρ.set i (some (.fz d)))[j]? = some (some (.ow xs)) → j ≠ i := fun {j xs} h z => by
      subst z
      have hl : j < g.ρ.length := by
        have := (List.getElem?_eq_some_iff.mp h).1
        simpa using this
      rw [List.getElem?_set_self hl] at h
      cases h
    have h1 : (g.ρ.set i (some (.fz d)))[j]? = some (some (.ow xs)) := h1
    have h2 : (g.ρ.set i (some (.fz d)))[k]? = some (some (.ow ys)) := h2
    have z1 := zz h1
    have z2 := zz h2
    rw [List.getElem?_set_ne (Ne.symm z1)] at h1 h3
    rw [List.getElem?_set_ne (Ne.symm z2)] at h2 ⊢
    exact R.sd j k xs ys a ne h1 h2 h3
  · have z : j ≠ i := fun z => by
      subst z
      have hl : j < g.ρ.length := by
        have := (List.getElem?_eq_some_iff.mp h).1
        simpa using this
      have h : (g.ρ.set j (some (.fz d)))[j]? = some (some (.ex x)) := h
      rw [List.getElem?_set_self hl] at h
      cases h
    have h : (g.ρ.set i (some (.fz d)))[j]? = some (some (.ex x)) := h
    rw [List.getElem?_set_ne (Ne.symm z)] at h
    obtain ⟨a, e1, e2⟩ := R.sx j x h
    exact ⟨a, e1, by rw [List.getElem?_set_ne (Ne.symm z)]; exact e2⟩
end
end Ev
set_option Elab.async false
set_option linter.all false
set_option autoImplicit false
set_option maxRecDepth 100000
namespace Ev
open PySem PySem.Spec PyProof.Rows L2
/-- an exception of ours, by class -/
def ExnR (c : Kx) (x : Exn) (cls : Value) (d : Option Addr) (H : Hp) : Prop := x.fs = [] ∧ d = none ∧ x.c ≠ 0 ∧ ∃ C, c.ca x.c = some C ∧ cls = .ref C
section
variable (c : Kx) (W : WX)
/-- what a result says: ok of the state behind it, or the exception is wished for -/
def After {α : Type} (g : Gs) (σ : St) (r : Res α) (ok : α → Gs → Hp → Prop) : Prop :=
  match r with
  | .ok a ρ S => ∀ g' H', g'.ρ = ρ → g'.S = S → GExt g g' → Rel c g' σ H' → ok a g' H'
  | .exc x ρ S => ∀ g' H' cls d, g'.ρ = ρ → g'.S = S → GExt g g' → Rel c g' σ H' → ExnR c x cls d H' → W cls d σ H'
  | .bad => False
/-- the reading of an expression with the meaning m -/
def tM (m : M D) : TE := fun σ H Q => ∃ g, Rel c g σ H ∧ After c W g σ (m g.ρ g.S) fun d g' H' => ∀ v, Rep c g'.F g'.m d v → Q v H'
/-- .. of a test -/
def tB (m : M Bool) : TT := fun σ H Q => ∃ g, Rel c g σ H ∧ After c W g σ (m g.ρ g.S) fun b g' H' => Q b H'
/-- .. of an argument list -/
def tA (m : M (List D)) : TA := fun σ H Q => ∃ g, Rel c g σ H ∧ After c W g σ (m g.ρ g.S) fun ds g' H' => ∀ vs, RepL c g'.F g'.m ds vs → Q vs H'
/-- .. of an expression whose list is a new one, nobody's yet -/
def tF (m : M (List D)) : TE := fun σ H Q => ∃ g, Rel c g σ H ∧ After c W g σ (m g.ρ g.S) fun xs g' H' => ∀ a H'', Rel c g' σ H'' → Loose c g' σ H'' xs a → Q (.ref a) H''
end
section
variable {c : Kx} {W : WX} {α β : Type} {g g1 : Gs} {σ : St} {H : Hp} {r : Res α} {ok ok' : α → Gs → Hp → Prop}
theorem After.shift (h : After c W g σ r ok) (e : GExt g g1) : After c W g1 σ r ok := by
  cases r with
  | ok a ρ S => exact fun g' H' e1 e2 e3 R => h g' H' e1 e2 (e.trans e3) R
  | exc x ρ S => exact fun g' H' cls d e1 e2 e3 R => h g' H' cls d e1 e2 (e.trans e3) R
  | bad => exact h
theorem After.imp (h : After c W g σ r ok) (f : ∀ a g' H', GExt g g' → Rel c g' σ H' → ok a g' H' → ok' a g' H') : After c W g σ r ok' := by
  cases r with
  | ok a ρ S => exact fun g' H' e1 e2 e3 R => f a g' H' e3 R (h g' H' e1 e2 e3 R)
  | exc x ρ S => exact h
  | bad => exact h
theorem After.bind {m : M α} {f : α → M β} {ok : β → Gs → Hp → Prop} (h : After c W g σ (M.bind m f g.ρ g.S) ok) : After c W g σ (m g.ρ g.S) fun a g1 H1 => After c W g1 σ (f a g1.ρ g1.S) ok := by
  unfold M.bind Res.bind at h
  cases e : m g.ρ g.S with
  | ok a ρ S =>
    rw [e] at h
    intro g' H' e1 e2 e3 R
    have h' : After c W g σ (f a ρ S) ok := h
    rw [e1, e2]
    exact h'.shift e3
  | exc x ρ S => rw [e] at h; exact h
  | bad => rw [e] at h; exact h
theorem After.pure {a : α} (h : After c W g σ (M.pure a g.ρ g.S) ok) (R : Rel c g σ H) : ok a g H := h g H rfl rfl .refl R
theorem After.of {o : Option α} (h : After c W g σ (M.of o g.ρ g.S) ok) : ∃ a, o = some a ∧ After c W g σ (.ok a g.ρ g.S) ok := by
  cases o with
  | some a => exact ⟨a, rfl, h⟩
  | none => exact h.elim
theorem After.app {a : α} {ρ : Env} {S : Sto} {g' : Gs} {H' : Hp} (h : After c W g σ (.ok a ρ S) ok) (R : Rel c g' σ H') (x : GExt g g') (e1 : g'.ρ = ρ) (e2 : g'.S = S) : ok a g' H' := h g' H' e1 e2 x R
theorem After.bad (h : After c W g σ (M.bad g.ρ g.S) ok) : False := h
end
section
variable {X : Cx} {e : Expr} {t t' : TE}
theorem PE.weak (h : PE X e t) (w : ∀ σ H Q, t' σ H Q → t σ H Q) : PE X e t' := ⟨fun pins s σ H Q I q => h.run pins s σ H Q I (w σ H Q q)⟩
theorem PE.any {ι : Type} {t : ι → TE} (h : ∀ i, PE X e (t i)) : PE X e (fun σ H Q => ∃ i, t i σ H Q) := ⟨fun pins s σ H Q I q => let ⟨i, q⟩ := q; (h i).run pins s σ H Q I q⟩
theorem PT.weak {t t' : TT} (h : PT X e t) (w : ∀ σ H Q, t' σ H Q → t σ H Q) : PT X e t' := ⟨fun pins s σ H Q I q => h.run pins s σ H Q I (w σ H Q q)⟩
theorem PW.weak {t t' : TT} (h : PW X e t) (w : ∀ σ H Q, t' σ H Q → t σ H Q) : PW X e t' := ⟨fun wh pins s σ H Q I q => h.run wh pins s σ H Q I (w σ H Q q)⟩
theorem PA.weak {es : List Expr} {t t' : TA} (h : PA X es t) (w : ∀ σ H Q, t' σ H Q → t σ H Q) : PA X es t' := ⟨fun p pins s σ H Q I q => h.run p pins s σ H Q I (w σ H Q q)⟩
end
section
variable {c : Kx} {g : Gs} {σ : St} {H : Hp}
/-- a slot is forgotten -/
theorem Rel.drop (R : Rel c g σ H) (i : Nat) : Rel c { g with ρ := g.ρ.set i none } σ H := by
  have zz : ∀ {j : Nat} {s : SV}, (g.ρ.set i none)[j]? = some (some s) → g.ρ[j]? = some (some s) ∧ j ≠ i := fun {j s} h => by
    by_cases z : j = i
    · subst z
      have hl : j < g.ρ.length := by
        have := (List.getElem?_eq_some_iff.mp h).1
        simpa using this
      rw [List.getElem?_set_self hl] at h
      cases h
    · rw [List.getElem?_set_ne (Ne.symm z)] at h
      exact ⟨h, z⟩
  exact ⟨R.b, by simp [R.ln], fun j d h => R.sf j d (zz h).1, fun j xs h => R.so j xs (zz h).1, fun j k xs ys a ne h1 h2 => R.sd j k xs ys a ne (zz h1).1 (zz h2).1, fun j x h => R.sx j x (zz h).1⟩
/-- a slot's own list stays from now on -/
theorem Rel.freezeSlot (R : Rel c g σ H) {i : Nat} {xs : List D} (h : g.ρ[i]? = some (some (.ow xs))) :
    ∃ a F', σ[i]? = some (some (.ref a)) ∧ Rel c { g with F := F', ρ := g.ρ.set i (some (.fz (.lst xs))) } σ H ∧ GExt g { g with F := F', ρ := g.ρ.set i (some (.fz (.lst xs))) } ∧ Rep c F' g.m (.lst xs) (.ref a) := by
  obtain ⟨a, vs, e1, h1, r, h2, h3, h4⟩ := R.so i xs h
  have R1 := R.drop i
  have L : Loose c { g with ρ := g.ρ.set i none } σ H xs a := by
    refine ⟨⟨vs, h1, r⟩, h2, h3, h4, fun j ys hj => ?_⟩
    have hj : (g.ρ.set i none)[j]? = some (some (.ow ys)) := hj
    by_cases z : j = i
    · subst z
      have hl : j < g.ρ.length := by
        have := (List.getElem?_eq_some_iff.mp h).1
        simpa using this
      rw [List.getElem?_set_self hl] at hj
      cases hj
    · rw [List.getElem?_set_ne (Ne.symm z)] at hj
      exact R.sd i j xs ys a (Ne.symm z) h hj e1
  obtain ⟨F', R2, e2, r2⟩ := R1.freeze L
  have R3 := R2.set (i := i) (d := .lst xs) (v := .ref a) r2
  have hi : i < σ.length := (List.getElem?_eq_some_iff.mp e1).1
  have es : σ.set i (some (.ref a)) = σ := by
    apply List.ext_getElem?
    intro j
    by_cases z : i = j
    · subst z; rw [List.getElem?_set_self hi, e1]
    · rw [List.getElem?_set_ne z]
  rw [es] at R3
  have er : (g.ρ.set i none).set i (some (SV.fz (.lst xs))) = g.ρ.set i (some (.fz (.lst xs))) := by rw [List.set_set]
  refine ⟨a, F', e1, ?_, ⟨e2.e, rfl⟩, r2⟩
  have R3 : Rel c { g with F := F', ρ := (g.ρ.set i none).set i (some (SV.fz (.lst xs))) } σ H := R3
  rw [er] at R3
  exact R3
end
section
variable {X : Cx} {c : Kx} {W : WX} {pos : Pos}
theorem ok_var {i : Nat} {x : Str} (hN : X.N[i]? = some x) (hv : Vis X.env.scope x) (hd : (x == ("__debug__" : Str)) = false) (hcd : (x == ("__classdict__" : Str)) = false) : PE X (.Name x pos) (tM c W (mVar i)) := by
  refine PE.weak (pe_var hN hv hd hcd) fun σ H Q ⟨g, R, h⟩ => ?_
  unfold mVar at h
  cases e : g.ρ[i]? with
  | none => rw [e] at h; exact h.elim
  | some o =>
    cases o with
    | none => rw [e] at h; exact h.elim
    | some s =>
      cases s with
      | fz d =>
        rw [e] at h
        obtain ⟨v, e1, r⟩ := R.sf i d e
        exact ⟨v, e1, h g H rfl rfl .refl R v r⟩
      | ow xs =>
        rw [e] at h
        obtain ⟨a, F', e1, R', ex, r⟩ := R.freezeSlot e
        exact ⟨.ref a, e1, After.app h R' ex rfl rfl _ r⟩
      | ex x => rw [e] at h; exact h.elim
theorem ok_cst {e : Expr} {v : V} {d : D} (h : PE X e (tC v)) (r : ∀ F m, Rep c F m d v) : PE X e (tM c W (M.pure d)) :=
  PE.weak h fun σ H Q ⟨g, R, q⟩ => q g H rfl rfl .refl R v (r _ _)
theorem ok_non {j pos'} : PE X (.Constant .none j pos') (tM c W (M.pure .non)) := ok_cst pe_non fun _ _ => by simp [Rep]
theorem ok_bl {b j pos'} : PE X (.Constant (.bool b) j pos') (tM c W (M.pure (.bl b))) := ok_cst pe_bl fun _ _ => by simp [Rep]
theorem ok_int {i j pos'} : PE X (.Constant (.int i) j pos') (tM c W (M.pure (.int i))) := ok_cst pe_int fun _ _ => by simp [Rep]
theorem ok_str {x : Str} {j pos'} : PE X (.Constant (.str x) j pos') (tM c W (M.pure (.str x.cps.toList))) := ok_cst pe_str fun _ _ => by simp [Rep, toStr]
end
section
variable {X : Cx} {c : Kx} {W : WX} {pos : Pos} {e : Expr} {es : List Expr} {m : M D} {ms : M (List D)}
theorem ok_nil : PA X [] (tA c W (M.pure [])) := PA.weak pa_nil fun σ H Q ⟨g, R, h⟩ => h g H rfl rfl .refl R [] (by simp [RepL])
theorem RepL.cons_ {F : Hp} {m : List Addr} {d : D} {ds : List D} {v : V} {vs : List V} (h : Rep c F m d v) (h' : RepL c F m ds vs) : RepL c F m (d :: ds) (v :: vs) := by
  simp only [RepL]
  exact ⟨v, vs, rfl, h, h'⟩
theorem ok_cons (ha : PE X e (tM c W m)) (hr : PA X es (tA c W ms)) (hs : starEach (e :: es) X.env = (false, eval e X.env) :: starEach es X.env) :
    PA X (e :: es) (tA c W (M.bind m fun d => M.bind ms fun ds => M.pure (d :: ds))) := by
  refine PA.weak (pa_cons ha hr hs) fun σ H Q ⟨g, R, h⟩ => ⟨g, R, (After.bind h).imp fun d g1 H1 x1 R1 h1 v r => ⟨g1, R1, (After.bind h1).imp fun ds g2 H2 x2 R2 h2 vs rs => ?_⟩⟩
  exact After.pure h2 R2 (v :: vs) (RepL.cons_ (r.ext x2.e) rs)
theorem repL_length {F : Hp} {m : List Addr} : ∀ {ds : List D} {vs : List V}, RepL c F m ds vs → vs.length = ds.length
  | [], _, h => by simp [RepL] at h; subst h; rfl
  | d :: ds, vs, h => by
    simp only [RepL] at h
    obtain ⟨v, r, rfl, _, h⟩ := h
    simp [repL_length h]
theorem ok_tup {k : Nat} (h : PA X es (tA c W ms)) : PE X (.Tuple es k pos) (tM c W (M.bind ms fun ds => if ds.length ≤ SZ then M.pure (.tup ds) else M.bad)) := by
  refine PE.weak (pe_tup h) fun σ H Q ⟨g, R, h⟩ => ⟨g, R, (After.bind h).imp fun ds g1 H1 x1 R1 h1 vs rs => ?_⟩
  have hl := repL_length rs
  by_cases z : ds.length ≤ SZ
  · rw [if_pos z] at h1
    refine ⟨by rw [sizeLine_eq, hl]; exact z, fun p hp => ?_⟩
    obtain ⟨R2, x2⟩ := R1.grow (o := .tup vs) hp
    refine After.app h1 R2 x2 rfl rfl (.ref p) ?_
    simp only [Rep]
    exact ⟨p, vs, rfl, SqT.of upd_same, rs.ext x2.e⟩
  · rw [if_neg z] at h1; exact h1.elim
/-- a new list that is nobody's -/
theorem okF_lst (h : PA X es (tA c W ms)) : PE X (.List es pos) (tF c W (M.bind ms fun ds => if ds.length ≤ SZ then M.pure ds else M.bad)) := by
  refine PE.weak (pe_lst h) fun σ H Q ⟨g, R, h⟩ => ⟨g, R, (After.bind h).imp fun ds g1 H1 x1 R1 h1 vs rs => ?_⟩
  have hl := repL_length rs
  by_cases z : ds.length ≤ SZ
  · rw [if_pos z] at h1
    refine ⟨by rw [sizeLine_eq, hl]; exact z, fun p hp => ?_⟩
    exact h1 g1 H1 rfl rfl .refl R1 p _ (R1.grow0 hp) (R1.loose hp rs)
  · rw [if_neg z] at h1; exact h1.elim
/-- it is made to stay -/
theorem ok_ofF {ms : M (List D)} (h : PE X e (tF c W ms)) : PE X e (tM c W (M.bind ms fun xs => M.pure (.lst xs))) := by
  refine PE.weak h fun σ H Q ⟨g, R, h⟩ => ⟨g, R, (After.bind h).imp fun xs g1 H1 x1 R1 h1 a H2 R2 L => ?_⟩
  obtain ⟨F', R3, x3, r⟩ := R2.freeze L
  exact After.app h1 R3 x3 rfl rfl _ r
end
end Ev
set_option Elab.async false
set_option linter.all false
set_option autoImplicit false
set_option maxRecDepth 100000
namespace Ev
open PySem PySem.Spec PyProof.Rows L2
theorem toStr_app (x y : Txt) : toStr x ++ toStr y = toStr (x ++ y) := by
  show Str.append (toStr x) (toStr y) = toStr (x ++ y)
  simp [Str.append, toStr]
theorem toStr_len (x : Txt) : (toStr x).length = x.length := by simp [Str.length, toStr]
theorem toStr_inj {x y : Txt} (h : toStr x = toStr y) : x = y := by
  simp [toStr] at h; exact h
section
variable {c : Kx} {W : WX} {g : Gs} {σ : St} {H : Hp} {d : D} {ds : List D} {v : V} {vs : List V} {Q : VK}
/-- what is wanted behind an operator that gives d -/
def AD (c : Kx) (W : WX) (g : Gs) (σ : St) (d : D) (Q : VK) : Prop := After c W g σ (.ok d g.ρ g.S) fun d g' H' => ∀ v, Rep c g'.F g'.m d v → Q v H'
theorem AD.here (h : AD c W g σ d Q) (R : Rel c g σ H) (r : Rep c g.F g.m d v) : Q v H := After.app h R .refl rfl rfl v r
theorem AD.tup (h : AD c W g σ (.tup ds) Q) (R : Rel c g σ H) (rs : RepL c g.F g.m ds vs) {p : Addr} (hp : H p = none) : Q (.ref p) (upd H p (.tup vs)) := by
  obtain ⟨R2, x2⟩ := R.grow (o := .tup vs) hp
  refine After.app h R2 x2 rfl rfl (.ref p) ?_
  simp only [Rep]
  exact ⟨p, vs, rfl, SqT.of upd_same, rs.ext x2.e⟩
theorem AD.lst (h : AD c W g σ (.lst ds) Q) (R : Rel c g σ H) (rs : RepL c g.F g.m ds vs) {p : Addr} (hp : H p = none) : Q (.ref p) (upd H p (.lst vs)) := by
  obtain ⟨R2, x2⟩ := R.grow (o := .lst vs) hp
  refine After.app h R2 x2 rfl rfl (.ref p) ?_
  simp only [Rep]
  exact ⟨p, vs, rfl, upd_same, rs.ext x2.e⟩
end
section
variable {c : Kx} {F : Hp} {m : List Addr}
theorem RepL.app : ∀ {xs ys : List D} {us vs : List V}, RepL c F m xs us → RepL c F m ys vs → RepL c F m (xs ++ ys) (us ++ vs)
  | [], _, us, _, h, h' => by simp only [RepL] at h; subst h; exact h'
  | x :: xs, ys, us, vs, h, h' => by
    simp only [RepL] at h
    obtain ⟨v, r, rfl, h1, h2⟩ := h
    exact RepL.cons_ h1 (RepL.app h2 h')
theorem RepL.drop_ : ∀ {xs : List D} {us : List V} (n : Nat), RepL c F m xs us → RepL c F m (xs.drop n) (us.drop n)
  | xs, us, 0, h => h
  | [], us, n + 1, h => by simp only [RepL] at h; subst h; simp [RepL]
  | x :: xs, us, n + 1, h => by
    simp only [RepL] at h
    obtain ⟨v, r, rfl, h1, h2⟩ := h
    exact RepL.drop_ n h2
theorem RepL.take_ : ∀ {xs : List D} {us : List V} (n : Nat), RepL c F m xs us → RepL c F m (xs.take n) (us.take n)
  | xs, us, 0, h => by simp [RepL]
  | [], us, n + 1, h => by simp only [RepL] at h; subst h; simp [RepL]
  | x :: xs, us, n + 1, h => by
    simp only [RepL] at h
    obtain ⟨v, r, rfl, h1, h2⟩ := h
    exact RepL.cons_ h1 (RepL.take_ n h2)
theorem RepL.get_ : ∀ {xs : List D} {us : List V} {n : Nat} {d : D}, RepL c F m xs us → xs[n]? = some d → ∃ v, us[n]? = some v ∧ Rep c F m d v
  | [], us, n, d, h, e => by simp at e
  | x :: xs, us, 0, d, h, e => by
    simp only [RepL] at h
    obtain ⟨v, r, rfl, h1, h2⟩ := h
    simp at e; subst e
    exact ⟨v, rfl, h1⟩
  | x :: xs, us, n + 1, d, h, e => by
    simp only [RepL] at h
    obtain ⟨v, r, rfl, h1, h2⟩ := h
    obtain ⟨w, e1, r1⟩ := RepL.get_ (n := n) h2 (by simpa using e)
    exact ⟨w, by simpa using e1, r1⟩
theorem RepL.rep_ : ∀ {xs : List D} {us : List V} (n : Nat), RepL c F m xs us → RepL c F m (reps xs n) (List.replicate n us).flatten
  | xs, us, 0, h => by simp [reps, RepL]
  | xs, us, n + 1, h => by
    have q := RepL.rep_ n h
    unfold reps at q ⊢
    rw [List.replicate_succ, List.replicate_succ, List.flatten_cons, List.flatten_cons]
    exact RepL.app h q
theorem RepL.nil_ {xs : List D} {us : List V} (h : RepL c F m xs us) : us = [] ↔ xs = [] := by
  have := repL_length h
  cases xs <;> cases us <;> simp_all
theorem RepL.ints : ∀ {xs : List D} {us : List V} {is : List Int}, RepL c F m xs us → intsOf xs = some is → us = is.map V.int
  | [], us, is, h, e => by simp [intsOf] at e; subst e; simpa [RepL] using h
  | x :: xs, us, is, h, e => by
    simp only [RepL] at h
    obtain ⟨v, r, rfl, h1, h2⟩ := h
    cases x <;> simp [intsOf] at e
    obtain ⟨t, e1, rfl⟩ := e
    rw [RepL.ints h2 e1]
    simp [Rep] at h1
    rw [h1]; rfl
theorem RepL.bls : ∀ {xs : List D} {us : List V} {is : List Bool}, RepL c F m xs us → blsOf xs = some is → us = is.map V.bl
  | [], us, is, h, e => by simp [blsOf] at e; subst e; simpa [RepL] using h
  | x :: xs, us, is, h, e => by
    simp only [RepL] at h
    obtain ⟨v, r, rfl, h1, h2⟩ := h
    cases x <;> simp [blsOf] at e
    obtain ⟨t, e1, rfl⟩ := e
    rw [RepL.bls h2 e1]
    simp [Rep] at h1
    rw [h1]; rfl
theorem RepL.txts : ∀ {xs : List D} {us : List V} {is : List Txt}, RepL c F m xs us → txtsOf xs = some is → us = is.map fun x => V.str (toStr x)
  | [], us, is, h, e => by simp [txtsOf] at e; subst e; simpa [RepL] using h
  | x :: xs, us, is, h, e => by
    simp only [RepL] at h
    obtain ⟨v, r, rfl, h1, h2⟩ := h
    cases x <;> simp [txtsOf] at e
    obtain ⟨t, e1, rfl⟩ := e
    rw [RepL.txts h2 e1]
    simp [Rep] at h1
    rw [h1]; rfl
end
theorem tup_mul_one (l : Addr) (items : Array Value) (n : Nat) (dd : Option Addr) (sl : Array (Option Value)) (u : Tok) :
    Meets (Builtin.«tuple.__mul__» ⟨[.ref l, .int 1 u], []⟩) (fun _ R s => s.heap.get? l = some { cls := .type "tuple", dict := dd, data := .seq items n, slots := sl } ∧ R (.ok (.ret (Value.ref l))) s) :=
  .of_wp fun prog w A R s h => by
    obtain ⟨hp, g, d, tk, os⟩ := s
    obtain ⟨hl, h⟩ := h
    have f1 := AutoSeq1.idx_int
    wp_walk using wpAny_loadPart' hl
    exact ⟨_, rfl, h⟩
def rTup1 (K : PySem.W.Frag) : R2 := fun x y H Q => ∃ l us, x = .ref l ∧ y = .int 1 ∧ SqT K H l us ∧ Q (.ref l) H
theorem op_tup1 {X : Cx} : OpR X (binaryOp .Mult) (rTup1 X.K) := by
  intro pins s σ H x y v u Q I rx ry ⟨l, us, e1, e2, hT, q⟩
  subst e1 e2
  cases rx
  obtain ⟨t, rfl⟩ := ry
  obtain ⟨its, r, ⟨ob, hob, hcl, n, hda⟩, _⟩ := I.tuple hT
  obtain ⟨oc, od, odt, osl⟩ := ob
  simp only at hcl hda
  subst hcl hda
  refine wpAny_binaryOp_repeat_ref (T := "tuple") (U := "int") (by decide) ⟨_, hob, rfl⟩ (fun s' => typeIs_int s' 1 t) noFill_tuple_mul F.fills_int_mul F.slot_int_rmul repeat_tuple F.slot_int_index.lookup ?_
  refine call_meets F.slot_int_rmul (typeIs_int s 1 t) F.entry_int_rmul (F.args_int_rmul_2 _ _) (int_rmul_tuple 1 t l its.toArray n od osl) ⟨hob, rfl, ⟨_, hob, rfl⟩, ?_⟩
  exact call_meets F.slot_tuple_mul ⟨_, hob, rfl⟩ F.entry_tuple_mul (F.args_tuple_mul_2 _ _) (tup_mul_one l its.toArray n od osl t) ⟨hob, .ref l, H, I, rfl, q⟩
def bopOf : Bop → Operator
  | .add => .Add | .sub => .Sub | .mul => .Mult | .mod => .Mod | .fdv => .FloorDiv | .pow => .Pow | .shl => .LShift
section
variable {X : Cx} {c : Kx} {W : WX}
def rBin (c : Kx) (W : WX) (f : D → D → Option D) : R2 := fun x y H Q => ∃ g σ' a b d, Rel c g σ' H ∧ Rep c g.F g.m a x ∧ Rep c g.F g.m b y ∧ f a b = some d ∧ AD c W g σ' d Q
theorem op_bop (o : Bop) (hK : X.K = c.K) : OpR X (binaryOp (bopOf o)) (rBin c W (bop o)) := by
  intro pins s σ H x y v u Q I rx ry ⟨g, σ', a, b, d, R, ra, rb, e, q⟩
  unfold bop at e
  split at e
  case h_1 i j =>
    simp [Rep] at ra rb; subst ra rb; cases e
    exact op_add pins s σ H _ _ v u Q I rx ry ⟨i, j, rfl, rfl, q.here R (by simp [Rep])⟩
  case h_2 i j =>
    simp [Rep] at ra rb; subst ra rb
    split at e
    case isTrue z =>
      cases e
      refine op_add_str pins s σ H _ _ v u Q I rx ry ⟨_, _, rfl, rfl, by rw [toStr_len, toStr_len, sizeLine_eq]; exact z, ?_⟩
      rw [toStr_app]
      exact q.here R (by simp [Rep])
    case isFalse z => cases e
  case h_3 xs ys =>
    simp only [Rep] at ra rb
    obtain ⟨p1, us, rfl, s1, r1⟩ := ra
    obtain ⟨p2, ws, rfl, s2, r2⟩ := rb
    have l1 := repL_length r1
    have l2 := repL_length r2
    have sq : ∀ {a : Addr} {vs : List V}, SqT c.K g.F a vs → SqT X.K H a vs := fun h => by
      rw [hK]; rcases h with (h | ⟨o, h⟩) | h
      · exact .inl (.inl (R.b.fh _ _ h))
      · exact .inl (.inr ⟨o, R.b.fh _ _ h⟩)
      · exact .inr h
    split at e
    case isTrue z =>
      cases e
      refine op_catA pins s σ H _ _ v u Q I rx ry ⟨p1, p2, us, ws, rfl, rfl, sq s1, sq s2, by rw [l1, l2, sizeLine_eq]; exact z.2.2, fun h => ?_, fun h h' => ?_, fun h h' p hp => ?_⟩
      · have : xs = [] := r1.nil_.mp h
        subst this
        exact q.here R (by simp only [Rep]; exact ⟨p2, ws, rfl, s2, by simpa using r2⟩)
      · have : ys = [] := r2.nil_.mp h'
        subst this
        exact q.here R (by simp only [Rep]; exact ⟨p1, us, rfl, s1, by simpa using r1⟩)
      · exact q.tup R (r1.app r2) hp
    case isFalse z => cases e
  case h_4 xs ys =>
    simp only [Rep] at ra rb
    obtain ⟨p1, us, rfl, s1, r1⟩ := ra
    obtain ⟨p2, ws, rfl, s2, r2⟩ := rb
    have l1 := repL_length r1
    have l2 := repL_length r2
    split at e
    case isTrue z =>
      cases e
      exact op_cat pins s σ H _ _ v u Q I rx ry ⟨p1, p2, us, ws, rfl, rfl, R.b.fh _ _ s1, R.b.fh _ _ s2, by rw [l1, l2, sizeLine_eq]; exact z, fun p hp => q.lst R (r1.app r2) hp⟩
    case isFalse z => cases e
  case h_5 i j =>
    simp [Rep] at ra rb; subst ra rb; cases e
    exact op_sub pins s σ H _ _ v u Q I rx ry ⟨i, j, rfl, rfl, q.here R (by simp [Rep])⟩
  case h_6 i j =>
    simp [Rep] at ra rb; subst ra rb
    split at e
    case isTrue z =>
      cases e
      exact op_mul pins s σ H _ _ v u Q I rx ry ⟨i, j, rfl, rfl, by unfold CMul; unfold big64 at z; simpa using z, q.here R (by simp [Rep])⟩
    case isFalse z => cases e
  case h_7 xs k =>
    simp only [Rep] at ra rb
    obtain ⟨p1, us, rfl, s1, r1⟩ := ra
    subst rb
    have l1 := repL_length r1
    split at e
    case isTrue z =>
      cases e
      exact op_rep pins s σ H _ _ v u Q I rx ry ⟨p1, k, us, rfl, rfl, R.b.fh _ _ s1, z.1, z.2.1, by rw [l1, sizeLine_eq]; exact z.2.2, fun p hp => q.lst R (r1.rep_ _) hp⟩
    case isFalse z => cases e
  case h_8 xs k =>
    simp only [Rep] at ra rb
    obtain ⟨p1, us, rfl, s1, r1⟩ := ra
    subst rb
    have l1 := repL_length r1
    have sq : SqT X.K H p1 us := by
      rw [hK]; rcases s1 with (h | ⟨o, h⟩) | h
      · exact .inl (.inl (R.b.fh _ _ h))
      · exact .inl (.inr ⟨o, R.b.fh _ _ h⟩)
      · exact .inr h
    split at e
    case isTrue z =>
      cases e
      by_cases k1 : k = 1
      · subst k1
        refine op_tup1 pins s σ H _ _ v u Q I rx ry ⟨p1, us, rfl, rfl, sq, q.here R ?_⟩
        simp only [Rep]
        refine ⟨p1, us, rfl, s1, ?_⟩
        have e : reps xs (Int.toNat 1) = xs := by simp [reps]
        rw [e]; exact r1
      · exact op_repT pins s σ H _ _ v u Q I rx ry ⟨p1, k, us, rfl, rfl, sq, fun h => z.1 (r1.nil_.mp h), by omega, z.2.2.1, by rw [l1]; exact z.2.2.2, fun p hp => q.tup R (r1.rep_ _) hp⟩
    case isFalse z => cases e
  case h_9 i j =>
    simp [Rep] at ra rb; subst ra rb
    split at e
    case isTrue z =>
      cases e
      exact op_mod pins s σ H _ _ v u Q I rx ry ⟨i, j, rfl, rfl, z, q.here R (by simp [Rep])⟩
    case isFalse z => cases e
  case h_10 i j =>
    simp [Rep] at ra rb; subst ra rb
    split at e
    case isTrue z =>
      cases e
      exact op_fdiv pins s σ H _ _ v u Q I rx ry ⟨i, j, rfl, rfl, z, q.here R (by simp [Rep])⟩
    case isFalse z => cases e
  case h_11 i j =>
    simp [Rep] at ra rb; subst ra rb
    split at e
    case isTrue z =>
      cases e
      exact op_pow pins s σ H _ _ v u Q I rx ry ⟨i, j, rfl, rfl, z, q.here R (by simp [Rep])⟩
    case isFalse z => cases e
  case h_12 i j =>
    simp [Rep] at ra rb; subst ra rb
    split at e
    case isTrue z =>
      cases e
      exact op_shl pins s σ H _ _ v u Q I rx ry ⟨i, j, rfl, rfl, z, q.here R (by simp [Rep])⟩
    case isFalse z => cases e
  case h_13 x k =>
    simp [Rep] at ra rb; subst ra rb
    split at e
    case isTrue z =>
      cases e
      obtain ⟨z1, z2, z3, z4⟩ := z
      obtain ⟨t, rfl⟩ := rx
      obtain ⟨u', rfl⟩ := ry
      have hk : 2 ≤ k.toNat := by omega
      have hk2 : k.toNat ≤ 1000 := by omega
      have hx : (toStr x).length = x.length := toStr_len x
      have hx0 : 0 < x.length := List.length_pos_iff.mpr z1
      have hm : x.length * k.toNat ≤ 1000 * 1000 := Nat.mul_le_mul z4 hk2
      have hno : ¬ (k == 1 || (toStr x).length == 0) = true := by
        intro w
        rw [Bool.or_eq_true] at w
        rcases w with w | w
        · have := eq_of_beq w; omega
        · have := eq_of_beq w; omega
      have he : (⟨(List.replicate k.toNat (toStr x).cps).foldl (· ++ ·) #[]⟩ : Str) = toStr (reps x k.toNat) := by
        have q : ∀ (n : Nat) (acc : Array Nat), (List.replicate n x.toArray).foldl (· ++ ·) acc = acc ++ (reps x n).toArray := fun n => by
          induction n with
          | zero => intro acc; simp [reps]
          | succ n ih =>
            intro acc
            rw [List.replicate_succ, List.foldl_cons, ih]
            simp [reps, List.replicate_succ]
        show (⟨(List.replicate k.toNat x.toArray).foldl (· ++ ·) #[]⟩ : Str) = _
        rw [q]
        simp [toStr]
      have hlen : (reps x k.toNat).length = k.toNat * x.length := by simp [reps]
      refine P.mul_str (by rw [decide_eq_false (show ¬ k < -(2 ^ 63 : Int) by omega), decide_eq_false (show ¬ k ≥ 2 ^ 63 by omega)]; rfl) (fun _ _ => ?_) (fun _ _ => ?_) ?_
      · rw [hx]
        have : (x.length : Int) * k ≤ 1000 * 1000 := by
          have h1 : ((x.length * k.toNat : Nat) : Int) ≤ 1000 * 1000 := by exact_mod_cast hm
          rw [Int.natCast_mul, Int.toNat_of_nonneg (by omega)] at h1
          exact h1
        intro h2
        have h3 : (2 ^ 63 - 1) / k < (x.length : Int) := h2
        have h4 := (Int.ediv_lt_iff_lt_mul (show 0 < k by omega)).mp h3
        omega
      · rw [hx]
        show decide (x.length * k.toNat > sizeLine) = false
        rw [sizeLine_eq]
        simp; omega
      · rw [if_neg (by omega), if_neg hno, he]
        exact ⟨by rw [toStr_len, hlen, Nat.mul_comm, sizeLine_eq]; omega, .str _, H, I.tok _, ⟨_, rfl⟩, q.here R (by simp [Rep])⟩
    case isFalse z => cases e
  case h_14 => cases e
end
end Ev
set_option Elab.async false
set_option linter.all false
set_option autoImplicit false
set_option maxRecDepth 100000
namespace Ev
open PySem PySem.Spec PyProof.Rows L2
mutual
def toPy : D → PyData
  | .non => .none | .bl b => .bool b | .int i => .int i | .str x => .str (toStr x)
  | .tup xs => .tuple (toPys xs) | .lst xs => .list (toPys xs)
  | .dic _ => .none | .ref _ => .none | .scr _ => .none
def toPys : List D → List PyData
  | [] => []
  | x :: xs => toPy x :: toPys xs
end
mutual
theorem toPy_eqv : ∀ (n k : Nat) (x y : D), D.plain n x = true → D.plain k y = true → PyData.eqv (toPy x) (toPy y) = D.eqb x y := fun n k x y hx hy => by
  cases x <;> cases y <;> first
    | rfl
    | (simp [D.plain] at hx; done)
    | (simp [D.plain] at hy; done)
    | (simp [toPy, PyData.eqv, D.eqb]; done)
    | skip
  · rename_i a b
    simp only [toPy, PyData.eqv, D.eqb]
    rw [Bool.eq_iff_iff]
    simp only [beq_iff_eq]
    exact ⟨toStr_inj, fun h => by rw [h]⟩
  · rename_i a b
    cases n with
    | zero => simp [D.plain] at hx
    | succ n =>
      cases k with
      | zero => simp [D.plain] at hy
      | succ k =>
        simp only [D.plain] at hx hy
        simp only [toPy, PyData.eqv, D.eqb]
        exact toPys_eqv n k a b hx hy
  · rename_i a b
    cases n with
    | zero => simp [D.plain] at hx
    | succ n =>
      cases k with
      | zero => simp [D.plain] at hy
      | succ k =>
        simp only [D.plain] at hx hy
        simp only [toPy, PyData.eqv, D.eqb]
        exact toPys_eqv n k a b hx hy
  termination_by n k x y => sizeOf x
theorem toPys_eqv : ∀ (n k : Nat) (xs ys : List D), D.plains n xs = true → D.plains k ys = true → PyData.eqvAll (toPys xs) (toPys ys) = D.eqbs xs ys
  | n, k, [], [], _, _ => rfl
  | n, k, [], y :: ys, _, _ => rfl
  | n, k, x :: xs, [], _, _ => rfl
  | n, k, x :: xs, y :: ys, hx, hy => by
    simp only [D.plains, Bool.and_eq_true] at hx hy
    simp only [toPys, PyData.eqvAll, D.eqbs]
    rw [toPy_eqv n k x y hx.1 hy.1, toPys_eqv n k xs ys hx.2 hy.2]
  termination_by n k xs => sizeOf xs
end
mutual
theorem plain_lay : ∀ (n : Nat) (x : D), D.plain n x = true → (toPy x).canLay0 = true ∧ (toPy x).depth ≤ n := fun n x hx => by
  cases x with
  | non => simp [toPy, PyData.canLay0, PyData.depth]
  | bl b => simp [toPy, PyData.canLay0, PyData.depth]
  | int i => simp [toPy, PyData.canLay0, PyData.depth]
  | str z =>
    simp only [D.plain] at hx
    simp [toPy, PyData.canLay0, PyData.depth, PyData.strOk, toStr]
    simpa using hx
  | tup xs =>
    cases n with
    | zero => simp [D.plain] at hx
    | succ n =>
      simp only [D.plain] at hx
      have q := plains_lay n xs hx
      simp only [toPy, PyData.canLay0, PyData.depth]
      exact ⟨q.1, by omega⟩
  | lst xs =>
    cases n with
    | zero => simp [D.plain] at hx
    | succ n =>
      simp only [D.plain] at hx
      have q := plains_lay n xs hx
      simp only [toPy, PyData.canLay0, PyData.depth]
      exact ⟨q.1, by omega⟩
  | dic _ => simp [D.plain] at hx
  | ref _ => simp [D.plain] at hx
  | scr _ => simp [D.plain] at hx
  termination_by n x => sizeOf x
theorem plains_lay : ∀ (n : Nat) (xs : List D), D.plains n xs = true → PyData.canLayAll0 (toPys xs) = true ∧ PyData.depthAll (toPys xs) ≤ n
  | n, [], _ => by simp [toPys, PyData.canLayAll0, PyData.depthAll]
  | n, x :: xs, h => by
    simp only [D.plains, Bool.and_eq_true] at h
    have q1 := plain_lay n x h.1
    have q2 := plains_lay n xs h.2
    simp only [toPys, PyData.canLayAll0, PyData.depthAll, Bool.and_eq_true]
    exact ⟨⟨q1.1, q2.1⟩, by omega⟩
  termination_by n xs => sizeOf xs
end
theorem plain_shaped {x : D} (h : D.plain 60 x = true) : SeqAt.shaped (toPy x) = true := by
  have q := plain_lay 60 x h
  unfold SeqAt.shaped
  simp only [Bool.and_eq_true, decide_eq_true_eq]
  exact ⟨q.1, by omega⟩
theorem toPys_any (x : D) (n : Nat) (hx : D.plain n x = true) : ∀ (k : Nat) (ys : List D), D.plains k ys = true → (toPys ys).any (fun z => PyData.eqv z (toPy x)) = ys.any fun y => D.eqb y x
  | _, [], _ => rfl
  | k, y :: ys, h => by
    simp only [D.plains, Bool.and_eq_true] at h
    simp only [toPys, List.any_cons]
    rw [toPy_eqv k n y x h.1 hx, toPys_any x n hx k ys h.2]
def Bor (c : Kx) (g : Gs) (H : Hp) (d : D) (v : V) : Prop := Rep c g.F g.m d v ∨ ∃ xs a vs, d = .lst xs ∧ v = .ref a ∧ H a = some (.lst vs) ∧ RepL c g.F g.m xs vs
section
variable {c : Kx} {F H : Hp} {m : List Addr}
theorem sqT_of {K : PySem.W.Frag} (fh : ∀ a o, F a = some o → H a = some o) {a : Addr} {vs : List V} (h : SqT K F a vs) : SqT K H a vs := by
  rcases h with (h | ⟨o, h⟩) | h
  · exact .inl (.inl (fh _ _ h))
  · exact .inl (.inr ⟨o, fh _ _ h⟩)
  · exact .inr h
theorem sqL_of {K : PySem.W.Frag} (fh : ∀ a o, F a = some o → H a = some o) {a : Addr} {vs : List V} (h : SqL K F a vs) : SqL K H a vs := by
  rcases h with (h | ⟨o, h⟩) | h
  · exact .inl (.inl (fh _ _ h))
  · exact .inl (.inr ⟨o, fh _ _ h⟩)
  · exact .inr h
mutual
theorem Rep.dp (fh : ∀ a o, F a = some o → H a = some o) : ∀ (n : Nat) (d : D) (v : V), D.plain n d = true → Rep c F m d v → Dp c.K H v (toPy d) := fun n d v hp h => by
  cases d with
  | non => simp [Rep] at h; subst h; exact .non
  | bl b => simp [Rep] at h; subst h; exact .bl b
  | int i => simp [Rep] at h; subst h; exact .int i
  | str x => simp [Rep] at h; subst h; exact .str _
  | tup xs =>
    cases n with
    | zero => simp [D.plain] at hp
    | succ n =>
      simp only [D.plain] at hp
      simp only [Rep] at h
      obtain ⟨a, vs, rfl, s, r⟩ := h
      simp only [toPy]
      exact .tup (sqT_of fh s) (RepL.dp fh n xs vs hp r)
  | lst xs =>
    cases n with
    | zero => simp [D.plain] at hp
    | succ n =>
      simp only [D.plain] at hp
      simp only [Rep] at h
      obtain ⟨a, vs, rfl, s, r⟩ := h
      simp only [toPy]
      exact .lst (SqL.of (fh _ _ s)) (RepL.dp fh n xs vs hp r)
  | dic _ => simp [D.plain] at hp
  | ref _ => simp [D.plain] at hp
  | scr _ => simp [D.plain] at hp
  termination_by n d => sizeOf d
theorem RepL.dp (fh : ∀ a o, F a = some o → H a = some o) : ∀ (n : Nat) (ds : List D) (vs : List V), D.plains n ds = true → RepL c F m ds vs → DpAll c.K H vs (toPys ds)
  | n, [], vs, _, h => by simp only [RepL] at h; subst h; exact .nil
  | n, d :: ds, vs, hp, h => by
    simp only [D.plains, Bool.and_eq_true] at hp
    simp only [RepL] at h
    obtain ⟨v, r, rfl, h1, h2⟩ := h
    simp only [toPys]
    exact .cons (Rep.dp fh n d v hp.1 h1) (RepL.dp fh n ds r hp.2 h2)
  termination_by n ds => sizeOf ds
end
end
section
variable {c : Kx} {g : Gs} {H : Hp} {σ : St}
theorem Bor.of {d : D} {v : V} (h : Rep c g.F g.m d v) : Bor c g H d v := .inl h
theorem Bor.dp (R : Rel c g σ H) {d : D} {v : V} (hp : D.plain 60 d = true) (h : Bor c g H d v) : Dp c.K H v (toPy d) := by
  rcases h with h | ⟨xs, a, vs, rfl, rfl, e, r⟩
  · exact Rep.dp R.b.fh 60 d v hp h
  · simp only [D.plain] at hp
    simp only [toPy]
    exact .lst (SqL.of e) (RepL.dp R.b.fh 59 xs vs hp r)
/-- a list or tuple looked at -/
theorem Bor.lst (R : Rel c g σ H) {xs : List D} {v : V} (h : Bor c g H (.lst xs) v) : ∃ a vs, v = .ref a ∧ H a = some (.lst vs) ∧ RepL c g.F g.m xs vs := by
  rcases h with h | ⟨ys, a, vs, e, rfl, e2, r⟩
  · simp only [Rep] at h
    obtain ⟨a, vs, rfl, s, r⟩ := h
    exact ⟨a, vs, rfl, R.b.fh _ _ s, r⟩
  · cases e; exact ⟨a, vs, rfl, e2, r⟩
theorem Bor.rep {d : D} {v : V} (h : Bor c g H d v) (n : ∀ xs, d ≠ .lst xs) : Rep c g.F g.m d v := by
  rcases h with h | ⟨xs, a, vs, e, _⟩
  · exact h
  · exact absurd e (n xs)
theorem Bor.tup (R : Rel c g σ H) {xs : List D} {v : V} (h : Bor c g H (.tup xs) v) : ∃ a vs, v = .ref a ∧ SqT c.K H a vs ∧ RepL c g.F g.m xs vs := by
  have h := h.rep (fun _ z => by cases z)
  simp only [Rep] at h
  obtain ⟨a, vs, rfl, s, r⟩ := h
  exact ⟨a, vs, rfl, sqT_of R.b.fh s, r⟩
end
theorem flat_rep {c : Kx} {F : Hp} {m : List Addr} {d : D} {v : V} (h : D.flat d = true) (r : Rep c F m d v) : flatV v = true := by
  cases d <;> simp [D.flat] at h <;> simp [Rep] at r <;> subst r <;> rfl
theorem flats_rep {c : Kx} {F : Hp} {m : List Addr} : ∀ {ds : List D} {vs : List V}, ds.all D.flat = true → RepL c F m ds vs → vs.all flatV = true
  | [], vs, _, h => by simp only [RepL] at h; subst h; rfl
  | d :: ds, vs, hf, h => by
    simp only [RepL] at h
    obtain ⟨v, r, rfl, h1, h2⟩ := h
    simp only [List.all_cons, Bool.and_eq_true] at hf ⊢
    exact ⟨flat_rep hf.1 h1, flats_rep hf.2 h2⟩
theorem str_beq (x y : Txt) : (toStr x == toStr y) = (x == y) := by
  rw [Bool.eq_iff_iff]; simp only [beq_iff_eq]; exact ⟨toStr_inj, fun h => by rw [h]⟩
theorem flat_eqV {c : Kx} {F : Hp} {m : List Addr} {d e : D} {v w : V} (h : D.flat d = true) (h' : D.flat e = true) (r : Rep c F m d v) (r' : Rep c F m e w) : eqV v w = D.eqb d e := by
  cases d <;> simp [D.flat] at h <;> cases e <;> simp [D.flat] at h' <;> simp [Rep] at r r' <;> subst r r' <;> first | rfl | (simp only [eqV, D.eqb]; exact str_beq _ _)
theorem flats_any {c : Kx} {F : Hp} {m : List Addr} {d : D} {v : V} (h : D.flat d = true) (r : Rep c F m d v) : ∀ {ds : List D} {vs : List V}, ds.all D.flat = true → RepL c F m ds vs → inV v vs = ds.any fun y => D.eqb y d
  | [], vs, _, h => by simp only [RepL] at h; subst h; rfl
  | e :: ds, vs, hf, h2 => by
    simp only [RepL] at h2
    obtain ⟨w, r', rfl, h1, h2⟩ := h2
    simp only [List.all_cons, Bool.and_eq_true] at hf
    have ih := flats_any h r hf.2 h2
    unfold inV at ih ⊢
    simp only [List.any_cons]
    rw [ih, flat_eqV hf.1 h h1 r]
def copOf : Cop → CmpOp
  | .eq => .Eq | .ne => .NotEq | .lt => .Lt | .le => .LtE | .gt => .Gt | .ge => .GtE | .is_ => .Is | .nis => .IsNot | .in_ => .In | .nin => .NotIn
section
variable {X : Cx} {c : Kx}
def rCop (c : Kx) (f : D → D → Option Bool) : R2 := fun x y H Q => ∃ g σ' a b k, Rel c g σ' H ∧ Bor c g H a x ∧ Bor c g H b y ∧ f a b = some k ∧ Q (.bl k) H
theorem eqo_cases {x y : D} {k : Bool} (h : eqo x y = some k) : (∃ a b, x = .str a ∧ y = .str b ∧ k = (a == b)) ∨ (∃ a b, x = .int a ∧ y = .int b ∧ k = (a == b)) ∨ (∃ a b, x = .bl a ∧ y = .bl b ∧ k = (a == b)) ∨
    (∃ xs, x = .tup xs ∧ y = .tup [] ∧ k = xs.isEmpty) ∨ (D.plain 60 x = true ∧ D.plain 60 y = true ∧ k = D.eqb x y) := by
  unfold eqo at h
  split at h
  · cases h; exact .inl ⟨_, _, rfl, rfl, rfl⟩
  · cases h; exact .inr (.inl ⟨_, _, rfl, rfl, rfl⟩)
  · cases h; exact .inr (.inr (.inl ⟨_, _, rfl, rfl, rfl⟩))
  · cases h; exact .inr (.inr (.inr (.inl ⟨_, rfl, rfl, rfl⟩)))
  · split at h
    · rename_i z
      simp only [Bool.and_eq_true] at z
      cases h
      exact .inr (.inr (.inr (.inr ⟨z.1, z.2, rfl⟩)))
    · cases h
theorem min0_all (n : Nat) (e : Nat → Bool) : ((List.range (min n (#[] : Array Value).size)).all e && n == (#[] : Array Value).size) = (n == 0) := by
  have : (#[] : Array Value).size = 0 := rfl
  rw [this, Nat.min_zero]
  simp
theorem op_eqo (hK : X.K = c.K) (hu : X.A.units + 64 < cLine) : OpR X (compareOp .Eq) (rCop c eqo) := by
  intro pins s σ H x y v u Q I rx ry ⟨g, σ', a, b, k, R, ra, rb, e, q⟩
  rcases eqo_cases e with ⟨i, j, rfl, rfl, rfl⟩ | ⟨i, j, rfl, rfl, rfl⟩ | ⟨i, j, rfl, rfl, rfl⟩ | ⟨xs, rfl, rfl, rfl⟩ | ⟨h1, h2, rfl⟩
  · have ra := ra.rep (fun _ z => by cases z)
    have rb := rb.rep (fun _ z => by cases z)
    simp [Rep] at ra rb; subst ra rb
    refine op_eq pins s σ H _ _ v u Q I rx ry ⟨rfl, ?_⟩
    rw [dec_str, str_beq]; exact q
  · have ra := ra.rep (fun _ z => by cases z)
    have rb := rb.rep (fun _ z => by cases z)
    simp [Rep] at ra rb; subst ra rb
    refine op_eq pins s σ H _ _ v u Q I rx ry ⟨rfl, ?_⟩
    rw [dec_int]; exact q
  · have ra := ra.rep (fun _ z => by cases z)
    have rb := rb.rep (fun _ z => by cases z)
    simp [Rep] at ra rb; subst ra rb
    refine op_eq pins s σ H _ _ v u Q I rx ry ⟨rfl, ?_⟩
    rw [dec_bl]; exact q
  · obtain ⟨l1, vs, rfl, t1, r1⟩ := ra.tup R
    obtain ⟨l2, ws, rfl, t2, r2⟩ := rb.tup R
    simp only [RepL] at r2
    subst r2
    cases rx
    cases ry
    obtain ⟨its1, v1, p1, _⟩ := I.tuple (by rw [hK]; exact t1)
    obtain ⟨its2, v2, p2, _⟩ := I.tuple (by rw [hK]; exact t2)
    cases v2
    refine SeqAt.RcAt.tuples (e := fun _ => true) p1 p2 (by omega) (fun j h1 h2 => absurd h2 (Nat.not_lt_zero _)) X.prog X.w X.xe _ ?_
    rw [min0_all]
    have : (its1.toArray.size == 0) = xs.isEmpty := by
      have h1 := v1.length
      have h2 := repL_length r1
      rw [List.size_toArray, ← h1, h2]
      cases xs <;> rfl
    rw [this]
    exact ⟨.bl _, H, I, rfl, q⟩
  · refine op_eqD hu pins s σ H _ _ v u Q I rx ry ⟨toPy a, toPy b, by rw [hK]; exact ra.dp R h1, by rw [hK]; exact rb.dp R h2, plain_shaped h1, plain_shaped h2, ?_⟩
    rw [toPy_eqv 60 60 a b h1 h2]; exact q
theorem op_neo (hK : X.K = c.K) (hu : X.A.units + 64 < cLine) : OpR X (compareOp .NotEq) (rCop c fun x y => (eqo x y).map (!·)) := by
  intro pins s σ H x y v u Q I rx ry ⟨g, σ', a, b, k, R, ra, rb, e, q⟩
  obtain ⟨k', e', rfl⟩ := Option.map_eq_some_iff.mp e
  rcases eqo_cases e' with ⟨i, j, rfl, rfl, rfl⟩ | ⟨i, j, rfl, rfl, rfl⟩ | ⟨i, j, rfl, rfl, rfl⟩ | ⟨xs, rfl, rfl, rfl⟩ | ⟨h1, h2, rfl⟩
  · have ra := ra.rep (fun _ z => by cases z)
    have rb := rb.rep (fun _ z => by cases z)
    simp [Rep] at ra rb; subst ra rb
    refine op_ne pins s σ H _ _ v u Q I rx ry ⟨rfl, ?_⟩
    rw [dec_str, str_beq]; exact q
  · have ra := ra.rep (fun _ z => by cases z)
    have rb := rb.rep (fun _ z => by cases z)
    simp [Rep] at ra rb; subst ra rb
    refine op_ne pins s σ H _ _ v u Q I rx ry ⟨rfl, ?_⟩
    rw [dec_int]; exact q
  · have ra := ra.rep (fun _ z => by cases z)
    have rb := rb.rep (fun _ z => by cases z)
    simp [Rep] at ra rb; subst ra rb
    refine op_ne pins s σ H _ _ v u Q I rx ry ⟨rfl, ?_⟩
    rw [dec_bl]; exact q
  · obtain ⟨l1, vs, rfl, t1, r1⟩ := ra.tup R
    obtain ⟨l2, ws, rfl, t2, r2⟩ := rb.tup R
    simp only [RepL] at r2
    subst r2
    cases rx
    cases ry
    obtain ⟨its1, v1, p1, _⟩ := I.tuple (by rw [hK]; exact t1)
    obtain ⟨its2, v2, p2, _⟩ := I.tuple (by rw [hK]; exact t2)
    cases v2
    refine SeqAt.RcNeAt.tuples (e := fun _ => true) p1 p2 (by omega) (fun j h1 h2 => absurd h2 (Nat.not_lt_zero _)) X.prog X.w X.xe _ ?_
    rw [min0_all]
    have : (its1.toArray.size == 0) = xs.isEmpty := by
      have h1 := v1.length
      have h2 := repL_length r1
      rw [List.size_toArray, ← h1, h2]
      cases xs <;> rfl
    rw [this]
    exact ⟨.bl _, H, I, rfl, q⟩
  · refine op_neD hu pins s σ H _ _ v u Q I rx ry ⟨toPy a, toPy b, by rw [hK]; exact ra.dp R h1, by rw [hK]; exact rb.dp R h2, plain_shaped h1, plain_shaped h2, ?_⟩
    rw [toPy_eqv 60 60 a b h1 h2]; exact q
theorem op_ino (neg : Bool) (hK : X.K = c.K) (hu : X.A.units + 65 < cLine) {x y : D} {ys : List D} (hy : y = .tup ys ∨ y = .lst ys) (ok : inOk x ys = true)
    {pins : List (Addr × Obj)} {s : Shared} {σ σ' : St} {H : Hp} {g : Gs} {v w : V} {u u' : Value} {Q : VK} (I : Inv X pins σ H s) (R : Rel c g σ' H) (ra : Bor c g H x v) (rb : Bor c g H y w) (rv : RelV v u) (rw' : RelV w u')
    (q : Q (.bl (if neg then !ys.any fun y => D.eqb y x else ys.any fun y => D.eqb y x)) H) : wpAny (model X.prog X.w) X.A (compareOp (if neg then .NotIn else .In) u u') (EP X pins σ Q) X.xe s := by
  unfold inOk at ok
  simp only [Bool.or_eq_true, Bool.and_eq_true] at ok
  obtain ⟨p, vs, e1, hs, r⟩ : ∃ p vs, w = .ref p ∧ (SqL X.K H p vs ∨ SqT X.K H p vs) ∧ RepL c g.F g.m ys vs := by
    rcases hy with rfl | rfl
    · obtain ⟨a, vs, e1, s1, r1⟩ := rb.tup R
      exact ⟨a, vs, e1, .inr (by rw [hK]; exact s1), r1⟩
    · obtain ⟨a, vs, e1, s1, r1⟩ := rb.lst R
      exact ⟨a, vs, e1, .inl (SqL.of s1), r1⟩
  subst e1
  rcases ok with ⟨f1, f2⟩ | ⟨f1, f2⟩
  · have ra := ra.rep (fun _ z => by rw [z] at f1; simp [D.flat] at f1)
    have e := flats_any f1 ra f2 r
    cases neg with
    | true => exact op_notIn_seq pins s σ H _ _ u u' Q I rv rw' ⟨p, vs, rfl, hs, flat_rep f1 ra, flats_rep f2 r, by simp only [if_true] at q ⊢; rw [e]; exact q⟩
    | false => exact op_in_seq pins s σ H _ _ u u' Q I rv rw' ⟨p, vs, rfl, hs, flat_rep f1 ra, flats_rep f2 r, by simp only [Bool.false_eq_true, if_false] at q ⊢; rw [e]; exact q⟩
  · obtain ⟨as, r1⟩ := Dp.reads I (toPy x) v u (by rw [hK]; exact ra.dp R f1) rv
    have l1 := plain_lay 60 x f1
    have l2 := plains_lay 60 ys f2
    have e := toPys_any x 60 f1 60 ys f2
    have hd := RepL.dp R.b.fh 60 ys vs f2 r
    have hu' : X.A.units + 1 + min (PyData.depthAll (toPys ys)) (toPy x).depth < cLine := by have := Nat.min_le_left (PyData.depthAll (toPys ys)) (toPy x).depth; omega
    rcases hs with hs | hs
    · obtain ⟨bs, r2⟩ := Dp.reads I (.list (toPys ys)) (.ref p) u' (.lst hs (by rw [hK]; exact hd)) rw'
      cases neg with
      | true => exact SeqAt.notIn_list_reads r2 r1 l2.1 l1.1 hu' ⟨.bl _, H, I, rfl, by rw [e]; exact q⟩
      | false => exact SeqAt.in_list_reads r2 r1 l2.1 l1.1 hu' ⟨.bl _, H, I, rfl, by rw [e]; exact q⟩
    · obtain ⟨bs, r2⟩ := Dp.reads I (.tuple (toPys ys)) (.ref p) u' (.tup hs (by rw [hK]; exact hd)) rw'
      cases neg with
      | true => exact SeqAt.notIn_tuple_reads r2 r1 l2.1 l1.1 hu' ⟨.bl _, H, I, rfl, by rw [e]; exact q⟩
      | false => exact SeqAt.in_tuple_reads r2 r1 l2.1 l1.1 hu' ⟨.bl _, H, I, rfl, by rw [e]; exact q⟩
theorem Rep.non_iff {F : Hp} {m : List Addr} {d : D} {v : V} (r : Rep c F m d v) : decide (v = .non) = D.isNon d := by
  cases d <;> simp only [Rep] at r
  case non => subst r; rfl
  case bl => subst r; rfl
  case int => subst r; rfl
  case str => subst r; rfl
  case tup => obtain ⟨a, vs, rfl, _⟩ := r; rfl
  case lst => obtain ⟨a, vs, rfl, _⟩ := r; rfl
  case dic => obtain ⟨a, rfl, _⟩ := r; rfl
  case ref => obtain ⟨a, _, rfl⟩ := r; rfl
  case scr => obtain ⟨a, rfl, _⟩ := r; rfl
theorem Bor.non_iff {g : Gs} {H : Hp} {d : D} {v : V} (r : Bor c g H d v) : decide (v = .non) = D.isNon d := by
  rcases r with r | ⟨xs, a, vs, rfl, rfl, _⟩
  · exact r.non_iff
  · rfl
theorem dec_any {p q : Prop} [Decidable p] [Decidable q] (h : p ↔ q) : decide p = decide q := decide_eq_decide.mpr h
theorem WDict.has {kvs : List (D × D)} {a : Addr} (h : WDict c kvs a) (z : Txt) : (∃ es n, L2.KDict c.K c.w a es n) ∧ ∃ r, PySem.W.nsIn c.K a (toStr z) = some r ∧ r.isSome = (dget (.str z) kvs).isSome := by
  refine ⟨h.1, ?_⟩
  obtain ⟨r, hr, hm⟩ := h.2 z
  refine ⟨r, hr, ?_⟩
  cases hg : dget (.str z) kvs with
  | none => rw [hg] at hm; subst hm; rfl
  | some w => rw [hg] at hm; obtain ⟨u, v0, rfl, _⟩ := hm; rfl
theorem Bor.wdict {g : Gs} {H : Hp} {p : D × D} {kvs : List (D × D)} {v : V} (r : Bor c g H (.dic (p :: kvs)) v) : ∃ a, v = .ref a ∧ WDict c (p :: kvs) a := by
  have r := r.rep (fun _ z => by cases z)
  simp only [Rep] at r
  obtain ⟨a, e, h | h⟩ := r
  · cases h.1
  · exact ⟨a, e, h.2⟩
theorem op_cop (o : Cop) (hK : X.K = c.K) (hw : X.w = c.w) (hu : X.A.units + 65 < cLine) : OpR X (compareOp (copOf o)) (rCop c (cop o)) := by
  intro pins s σ H x y v u Q I rx ry ⟨g, σ', a, b, k, R, ra, rb, e, q⟩
  unfold cop at e
  split at e
  case h_1 => exact op_eqo hK (by omega) pins s σ H x y v u Q I rx ry ⟨g, σ', a, b, k, R, ra, rb, e, q⟩
  case h_2 => exact op_neo hK (by omega) pins s σ H x y v u Q I rx ry ⟨g, σ', a, b, k, R, ra, rb, e, q⟩
  case h_3 i j =>
    have ra := ra.rep (fun _ z => by cases z)
    have rb := rb.rep (fun _ z => by cases z)
    simp [Rep] at ra rb; subst ra rb; cases e
    exact op_lt pins s σ H _ _ v u Q I rx ry ⟨_, _, rfl, rfl, q⟩
  case h_4 i j =>
    have ra := ra.rep (fun _ z => by cases z)
    have rb := rb.rep (fun _ z => by cases z)
    simp [Rep] at ra rb; subst ra rb; cases e
    exact op_lt_str pins s σ H _ _ v u Q I rx ry ⟨_, _, rfl, rfl, by rw [dec_any (q := i < j) (by simp [toStr])]; exact q⟩
  case h_5 i j =>
    have ra := ra.rep (fun _ z => by cases z)
    have rb := rb.rep (fun _ z => by cases z)
    simp [Rep] at ra rb; subst ra rb; cases e
    exact op_le pins s σ H _ _ v u Q I rx ry ⟨_, _, rfl, rfl, q⟩
  case h_6 i j =>
    have ra := ra.rep (fun _ z => by cases z)
    have rb := rb.rep (fun _ z => by cases z)
    simp [Rep] at ra rb; subst ra rb; cases e
    exact op_gt pins s σ H _ _ v u Q I rx ry ⟨_, _, rfl, rfl, q⟩
  case h_7 i j =>
    have ra := ra.rep (fun _ z => by cases z)
    have rb := rb.rep (fun _ z => by cases z)
    simp [Rep] at ra rb; subst ra rb; cases e
    exact op_ge pins s σ H _ _ v u Q I rx ry ⟨_, _, rfl, rfl, q⟩
  case h_8 =>
    have rb := rb.rep (fun _ z => by cases z)
    simp [Rep] at rb; subst rb; cases e
    exact op_isN pins s σ H _ _ v u Q I rx ry ⟨rfl, by rw [ra.non_iff]; exact q⟩
  case h_9 =>
    have rb := rb.rep (fun _ z => by cases z)
    simp [Rep] at rb; subst rb; cases e
    exact op_notN pins s σ H _ _ v u Q I rx ry ⟨rfl, by rw [ra.non_iff]; exact q⟩
  case h_10 i j =>
    have ra := ra.rep (fun _ z => by cases z)
    have rb := rb.rep (fun _ z => by cases z)
    simp [Rep] at ra rb; subst ra rb; cases e
    exact op_isBl pins s σ H _ _ v u Q I rx ry ⟨_, _, rfl, rfl, by rw [← Bool.beq_eq_decide_eq]; exact q⟩
  case h_11 i j =>
    have ra := ra.rep (fun _ z => by cases z)
    have rb := rb.rep (fun _ z => by cases z)
    simp [Rep] at ra rb; subst ra rb; cases e
    exact op_notBl pins s σ H _ _ v u Q I rx ry ⟨_, _, rfl, rfl, by rw [← Bool.beq_eq_decide_eq]; exact q⟩
  case h_12 i j =>
    have ra := ra.rep (fun _ z => by cases z)
    have rb := rb.rep (fun _ z => by cases z)
    simp [Rep] at ra rb; subst ra rb; cases e
    exact op_in_sign pins s σ H _ _ v u Q I rx ry ⟨i, toStr j, rfl, rfl, by rw [dec_any (q := i ∈ j) (by simp [toStr])]; exact q⟩
  case h_13 i j =>
    have ra := ra.rep (fun _ z => by cases z)
    have rb := rb.rep (fun _ z => by cases z)
    simp [Rep] at ra rb; subst ra rb; cases e
    exact op_notIn_sign pins s σ H _ _ v u Q I rx ry ⟨i, toStr j, rfl, rfl, by rw [dec_any (q := i ∈ j) (by simp [toStr])]; exact q⟩
  case h_14 ys =>
    split at e
    case isTrue z => cases e; exact op_ino false hK hu (.inl rfl) z I R ra rb rx ry q
    case isFalse z => cases e
  case h_15 ys =>
    split at e
    case isTrue z => cases e; exact op_ino true hK hu (.inl rfl) z I R ra rb rx ry q
    case isFalse z => cases e
  case h_16 ys =>
    split at e
    case isTrue z => cases e; exact op_ino false hK hu (.inr rfl) z I R ra rb rx ry q
    case isFalse z => cases e
  case h_17 ys =>
    split at e
    case isTrue z => cases e; exact op_ino true hK hu (.inr rfl) z I R ra rb rx ry q
    case isFalse z => cases e
  case h_18 z p kvs =>
    have ra := ra.rep (fun _ z => by cases z)
    simp only [Rep] at ra
    obtain ⟨d, rfl, hd⟩ := rb.wdict
    subst ra
    cases e
    obtain ⟨⟨es, n, D⟩, r, hr, hi⟩ := hd.has z
    exact op_in_kd (X := X) (by rw [hK, hw]; exact D) pins s σ H _ _ v u Q I rx ry ⟨_, r, rfl, rfl, by rw [hK]; exact hr, by rw [hi]; exact q⟩
  case h_19 z p kvs =>
    have ra := ra.rep (fun _ z => by cases z)
    simp only [Rep] at ra
    obtain ⟨d, rfl, hd⟩ := rb.wdict
    subst ra
    cases e
    obtain ⟨⟨es, n, D⟩, r, hr, hi⟩ := hd.has z
    exact op_notIn_kd (X := X) (by rw [hK, hw]; exact D) pins s σ H _ _ v u Q I rx ry ⟨_, r, rfl, rfl, by rw [hK]; exact hr, by rw [hi]; exact q⟩
  case h_20 => cases e
end
end Ev
set_option Elab.async false
set_option linter.all false
set_option autoImplicit false
set_option maxRecDepth 100000
namespace Ev
open PySem PySem.Spec PyProof.Rows L2
mutual
/-- as plain, empty dicts within -/
def D.plainq : Nat → D → Bool
  | _, .non => true
  | _, .bl _ => true
  | _, .int _ => true
  | _, .str x => x.all fun k => decide (k < 1114112)
  | _, .dic [] => true
  | n + 1, .tup xs => D.plainqs n xs
  | n + 1, .lst xs => D.plainqs n xs
  | _, _ => false
def D.plainqs : Nat → List D → Bool
  | _, [] => true
  | n, x :: xs => D.plainq n x && D.plainqs n xs
end
mutual
def toPyq : D → PyData
  | .non => .none | .bl b => .bool b | .int i => .int i | .str x => .str (toStr x)
  | .tup xs => .tuple (toPyqs xs) | .lst xs => .list (toPyqs xs)
  | .dic _ => .dict [] | .ref _ => .none | .scr _ => .none
def toPyqs : List D → List PyData
  | [] => []
  | x :: xs => toPyq x :: toPyqs xs
end
/-- repr, where the library tells it -/
def shownD (d : D) : Option Txt := if D.plainq 60 d && PyData.showable (toPyq d) && decide ((PyData.shown (toPyq d)).length ≤ SZ) then some (PyData.shown (toPyq d)).cps.toList else none
mutual
theorem plain_q : ∀ (n : Nat) (x : D), D.plain n x = true → D.plainq n x = true ∧ toPyq x = toPy x := fun n x h => by
  cases x with
  | non => exact ⟨by simp [D.plainq], rfl⟩
  | bl b => exact ⟨by simp [D.plainq], rfl⟩
  | int i => exact ⟨by simp [D.plainq], rfl⟩
  | str z => simp only [D.plain] at h; exact ⟨by simp only [D.plainq]; exact h, rfl⟩
  | tup xs =>
    cases n with
    | zero => simp [D.plain] at h
    | succ n =>
      simp only [D.plain] at h
      have q := plains_q n xs h
      exact ⟨by simp only [D.plainq]; exact q.1, by simp only [toPyq, toPy]; rw [q.2]⟩
  | lst xs =>
    cases n with
    | zero => simp [D.plain] at h
    | succ n =>
      simp only [D.plain] at h
      have q := plains_q n xs h
      exact ⟨by simp only [D.plainq]; exact q.1, by simp only [toPyq, toPy]; rw [q.2]⟩
  | dic _ => simp [D.plain] at h
  | ref _ => simp [D.plain] at h
  | scr _ => simp [D.plain] at h
  termination_by n x => sizeOf x
theorem plains_q : ∀ (n : Nat) (xs : List D), D.plains n xs = true → D.plainqs n xs = true ∧ toPyqs xs = toPys xs
  | n, [], _ => ⟨by simp [D.plainqs], rfl⟩
  | n, x :: xs, h => by
    simp only [D.plains, Bool.and_eq_true] at h
    have q1 := plain_q n x h.1
    have q2 := plains_q n xs h.2
    exact ⟨by simp only [D.plainqs, Bool.and_eq_true]; exact ⟨q1.1, q2.1⟩, by simp only [toPyqs, toPys]; rw [q1.2, q2.2]⟩
  termination_by n xs => sizeOf xs
end
mutual
theorem plainq_depth : ∀ (n : Nat) (x : D), D.plainq n x = true → (toPyq x).depth ≤ n + 1 := fun n x h => by
  cases x with
  | non => simp [toPyq, PyData.depth]
  | bl b => simp [toPyq, PyData.depth]
  | int i => simp [toPyq, PyData.depth]
  | str z => simp [toPyq, PyData.depth]
  | dic kvs => simp [toPyq, PyData.depth, PyData.depthKv]
  | tup xs =>
    cases n with
    | zero => simp [D.plainq] at h
    | succ n =>
      simp only [D.plainq] at h
      have q := plainqs_depth n xs h
      simp only [toPyq, PyData.depth]
      omega
  | lst xs =>
    cases n with
    | zero => simp [D.plainq] at h
    | succ n =>
      simp only [D.plainq] at h
      have q := plainqs_depth n xs h
      simp only [toPyq, PyData.depth]
      omega
  | ref _ => simp [toPyq, PyData.depth]
  | scr _ => simp [toPyq, PyData.depth]
  termination_by n x => sizeOf x
theorem plainqs_depth : ∀ (n : Nat) (xs : List D), D.plainqs n xs = true → PyData.depthAll (toPyqs xs) ≤ n + 1
  | n, [], _ => by simp [toPyqs, PyData.depthAll]
  | n, x :: xs, h => by
    simp only [D.plainqs, Bool.and_eq_true] at h
    have q1 := plainq_depth n x h.1
    have q2 := plainqs_depth n xs h.2
    simp only [toPyqs, PyData.depthAll]
    omega
  termination_by n xs => sizeOf xs
end
/-- where the modules' dict stands there is no list -/
def SmOk (K : PySem.W.Frag) : Prop := ∃ o, K.lookup sysModules = some o ∧ o.cls = .type "dict"
section
variable {X : Cx} {c : Kx} {F H : Hp} {m : List Addr} {pins : List (Addr × Obj)} {σ : St} {s : Shared}
mutual
theorem Rep.readsq (hK : X.K = c.K) (sm : SmOk c.K) (I : Inv X pins σ H s) (fh : ∀ a o, F a = some o → H a = some o) : ∀ (n : Nat) (d : D) (v : V) (u : Value), D.plainq n d = true → Rep c F m d v → RelV v u → ∃ as, Reads s.heap u (toPyq d) as ∧ sysModules ∉ as := fun n d v u hp h r => by
  cases d with
  | non => simp only [Rep] at h; subst h; cases r; exact ⟨[], .none, by simp⟩
  | bl b => simp only [Rep] at h; subst h; cases r; exact ⟨[], .bool b, by simp⟩
  | int i => simp only [Rep] at h; subst h; obtain ⟨t, rfl⟩ := r; exact ⟨[], .int i t, by simp⟩
  | str x => simp only [Rep] at h; subst h; obtain ⟨t, rfl⟩ := r; exact ⟨[], .str _ t, by simp⟩
  | tup xs =>
    cases n with
    | zero => simp [D.plainq] at hp
    | succ n =>
      simp only [D.plainq] at hp
      simp only [Rep] at h
      obtain ⟨a, vs, rfl, sq, rr⟩ := h
      cases r
      obtain ⟨its, rv, ⟨o, ho, hc, k, hd⟩, _⟩ := I.tuple (by rw [hK]; exact sqT_of fh sq)
      obtain ⟨as, q1, q2⟩ := RepL.readsq hK sm I fh n xs vs its hp rr rv
      exact ⟨as, Reads.tuple ho hc hd (by simpa using q1), q2⟩
  | lst xs =>
    cases n with
    | zero => simp [D.plainq] at hp
    | succ n =>
      simp only [D.plainq] at hp
      simp only [Rep] at h
      obtain ⟨a, vs, rfl, sq, rr⟩ := h
      cases r
      obtain ⟨its, rv, ⟨o, k, ho, hc, hx, hd⟩, _⟩ := I.list (SqL.of (K := X.K) (fh _ _ sq))
      obtain ⟨as, q1, q2⟩ := RepL.readsq hK sm I fh n xs vs its hp rr rv
      refine ⟨a :: as, Reads.list ho hc hd (by simpa using q1), fun hm => ?_⟩
      rcases List.mem_cons.mp hm with e | hm
      · obtain ⟨o', l, hc'⟩ := sm
        rw [← hK] at l
        have := I.kIn _ _ l
        rw [e, ho] at this
        cases this
        rw [hc] at hc'
        exact absurd hc' (by decide)
      · exact q2 hm
  | dic kvs =>
    cases kvs with
    | cons => simp [D.plainq] at hp
    | nil =>
      simp only [Rep] at h
      obtain ⟨a, rfl, h | h⟩ := h
      · cases r
        obtain ⟨z, hsm, vs, rel, o, es, ep, ho, hx, hd, hk, hpr, _⟩ := dk_of I.hok (fh _ _ h.2)
        have e0 : vs = [] := by
          have := rel.length
          simpa using this.symm
        subst e0
        have e1 : es.toList = [] := by
          cases q : es.toList with
          | nil => rfl
          | cons e r => rw [q] at hpr; cases hpr
        refine ⟨a :: [] ++ [], Reads.dict ho hx.1 hd (by rw [e1]; exact .nil) (by rw [e1]; exact .nil), fun hm => ?_⟩
        have : sysModules = a := by simpa using hm
        rw [← this] at hsm
        exact absurd hsm (by decide)
      · exact absurd rfl h.1
  | ref _ => simp [D.plainq] at hp
  | scr _ => simp [D.plainq] at hp
  termination_by n d => sizeOf d
theorem RepL.readsq (hK : X.K = c.K) (sm : SmOk c.K) (I : Inv X pins σ H s) (fh : ∀ a o, F a = some o → H a = some o) : ∀ (n : Nat) (ds : List D) (vs : List V) (us : List Value), D.plainqs n ds = true → RepL c F m ds vs → Vals vs us → ∃ as, ReadsAll s.heap us (toPyqs ds) as ∧ sysModules ∉ as
  | n, [], vs, us, _, h, r => by
    simp only [RepL] at h
    subst h
    cases r
    exact ⟨[], .nil, by simp⟩
  | n, d :: ds, vs, us, hp, h, r => by
    simp only [D.plainqs, Bool.and_eq_true] at hp
    simp only [RepL] at h
    obtain ⟨v, vr, rfl, h1, h2⟩ := h
    cases r with
    | cons r1 r2 =>
      obtain ⟨as, q1, q2⟩ := Rep.readsq hK sm I fh n d v _ hp.1 h1 r1
      obtain ⟨bs, q3, q4⟩ := RepL.readsq hK sm I fh n ds vr _ hp.2 h2 r2
      exact ⟨as ++ bs, .cons q1 q3, fun hm => (List.mem_append.mp hm).elim q2 q4⟩
  termination_by n ds => sizeOf ds
end
end
section
variable {X : Cx} {c : Kx} {g : Gs} {σ : St} {H : Hp}
theorem isEmpty_repL {F : Hp} {m : List Addr} {xs : List D} {vs : List V} (r : RepL c F m xs vs) : vs.isEmpty = xs.isEmpty := by
  have := repL_length r
  cases xs <;> cases vs <;> simp_all
theorem truth_ok (hK : X.K = c.K) (R : Rel c g σ H) {d : D} {v : V} {k : Bool} (b : Bor c g H d v) (h : truth d = some k) : TruV X.K v H k := by
  cases d with
  | non => have b := b.rep (fun _ z => by cases z); simp [Rep] at b; subst b; simp [truth] at h; subst h; rfl
  | bl x => have b := b.rep (fun _ z => by cases z); simp [Rep] at b; subst b; simp [truth] at h; subst h; rfl
  | int i =>
    have b := b.rep (fun _ z => by cases z); simp [Rep] at b; subst b; simp only [truth, Option.some.injEq] at h; subst h
    show decide (i ≠ 0) = (i != 0)
    by_cases z : i = 0
    · subst z; rfl
    · simp [z]
  | str x =>
    have b := b.rep (fun _ z => by cases z); simp [Rep] at b; subst b
    simp only [truth] at h
    split at h
    · rename_i z
      simp only [Option.some.injEq] at h; subst h
      refine ⟨by rw [toStr_len, sizeLine_eq]; exact z, ?_⟩
      rw [toStr_len]
      cases x with
      | nil => rfl
      | cons a r =>
        simp only [List.isEmpty_cons, Bool.not_false, List.length_cons]
        symm
        simp
        omega
    · cases h
  | tup xs =>
    obtain ⟨a, vs, rfl, s, r⟩ := b.tup R
    simp only [truth, Option.some.injEq] at h; subst h
    exact .inr (.inl ⟨vs, by rw [hK]; exact s, by rw [isEmpty_repL r]⟩)
  | lst xs =>
    obtain ⟨a, vs, rfl, s, r⟩ := b.lst R
    simp only [truth, Option.some.injEq] at h; subst h
    exact .inl ⟨vs, SqL.of s, by rw [isEmpty_repL r]⟩
  | dic kvs => simp [truth] at h
  | ref n => simp [truth] at h
  | scr ns => simp [truth] at h
theorem atI_eq {α : Type} {xs : List α} {i : Int} {d : α} (h : Ev.atI xs i = some d) : ∃ n, L2.ixN xs.length i = some n ∧ xs[n]? = some d := by
  unfold Ev.atI at h
  unfold L2.ixN
  by_cases h0 : 0 ≤ i
  · rw [if_pos h0] at h ⊢
    have hl := (List.getElem?_eq_some_iff.mp h).1
    exact ⟨i.toNat, by rw [if_pos (by omega)], h⟩
  · rw [if_neg h0] at h ⊢
    by_cases h1 : 0 ≤ i + xs.length
    · rw [if_pos h1] at h
      exact ⟨(i + xs.length).toNat, by rw [if_pos (by omega)], h⟩
    · rw [if_neg h1] at h; cases h
theorem atI_V {F : Hp} {m : List Addr} {xs : List D} {vs : List V} {i : Int} {d : D} (r : RepL c F m xs vs) (h : Ev.atI xs i = some d) : ∃ v, L2.atI vs i = some v ∧ Rep c F m d v := by
  obtain ⟨n, h1, h2⟩ := atI_eq h
  obtain ⟨v, e, rv⟩ := r.get_ h2
  refine ⟨v, ?_, rv⟩
  unfold L2.atI
  rw [repL_length r, h1]; exact e
def rIdx (c : Kx) (W : WX) : R2 := fun x y H Q => ∃ g σ' a b d, Rel c g σ' H ∧ Bor c g H a x ∧ Rep c g.F g.m b y ∧ index a b = some d ∧ AD c W g σ' d Q
theorem ix_idx {W : WX} (hK : X.K = c.K) (hw : X.w = c.w) : IxR X (rIdx c W) := by
  intro value sli pins s σ H x y v u Q I rx ry ⟨g, σ', a, b, d, R, ra, rb, e, q⟩ hs
  unfold index at e
  split at e
  case h_1 ns i =>
    have ra := ra.rep (fun _ z => by cases z)
    simp only [Rep] at ra rb; subst rb
    obtain ⟨p, rfl, sq⟩ := ra
    obtain ⟨n, e', rfl⟩ := Option.map_eq_some_iff.mp e
    obtain ⟨k, h1, h2⟩ := atI_eq e'
    refine ix_list value sli pins s σ H _ _ v u Q I rx ry ⟨p, _, i, .int n, rfl, rfl, by rw [hK]; exact sqL_of R.b.fh sq, ?_, q.here R (by simp [Rep])⟩ hs
    unfold L2.atI
    rw [List.length_map, h1]
    show (ns.map V.int)[k]? = _
    rw [List.getElem?_map, h2]; rfl
  case h_2 xs i =>
    simp only [Rep] at rb; subst rb
    obtain ⟨p, vs, rfl, s1, r1⟩ := ra.tup R
    obtain ⟨w, h1, h2⟩ := atI_V r1 e
    exact ix_tup value sli pins s σ H _ _ v u Q I rx ry ⟨p, vs, i, w, rfl, rfl, by rw [hK]; exact s1, h1, q.here R h2⟩ hs
  case h_3 xs i =>
    simp only [Rep] at rb; subst rb
    obtain ⟨p, vs, rfl, s1, r1⟩ := ra.lst R
    obtain ⟨w, h1, h2⟩ := atI_V r1 e
    exact ix_list value sli pins s σ H _ _ v u Q I rx ry ⟨p, vs, i, w, rfl, rfl, SqL.of s1, h1, q.here R h2⟩ hs
  case h_4 z i =>
    have ra := ra.rep (fun _ z => by cases z)
    simp only [Rep] at ra rb; subst ra rb
    split at e
    case isTrue hz =>
      obtain ⟨n, e', rfl⟩ := Option.map_eq_some_iff.mp e
      obtain ⟨k, h1, h2⟩ := atI_eq e'
      refine ix_str value sli pins s σ H _ _ v u Q I rx ry ⟨toStr z, i, n, rfl, rfl, by rw [toStr_len, sizeLine_eq]; exact hz, ?_, q.here R (by simp [Rep, toStr])⟩ hs
      unfold L2.atI
      show (L2.ixN z.length i).bind (fun j => z[j]?) = some n
      rw [h1]; exact h2
    case isFalse hz => cases e
  case h_5 p kvs k =>
    obtain ⟨a, rfl, ⟨es, n, KD⟩, hd⟩ := ra.wdict
    simp only [Rep] at rb; subst rb
    obtain ⟨r, hr, hm⟩ := hd k
    rw [e] at hm
    obtain ⟨u0, v0, rfl, rv, fl⟩ := hm
    refine ix_kdict value sli pins s σ H _ _ v u Q I rx ry ⟨a, toStr k, v0, rfl, rfl, ⟨es, n, u0, by rw [hK]; exact KD.at_, by rw [hw]; exact KD.lit, by rw [hK]; exact hr, rv⟩, q.here R ?_⟩ hs
    cases d <;> simp only [FlatV] at fl <;> simp only [Rep] <;> exact fl
  case h_6 => cases e
theorem cut_cutV {F : Hp} {m : List Addr} {xs : List D} {vs : List V} (r : RepL c F m xs vs) (lo hi : Option Int) : RepL c F m (cut xs lo hi) (cutV vs lo hi) := by
  unfold cut cutV
  rw [repL_length r]
  have e : ∀ n d o, HT.sIx n d o = Ev.sIx n d o := fun n d o => by cases o <;> rfl
  rw [e, e]
  exact (r.drop_ _).take_ _
def rSli (c : Kx) (W : WX) : V → Option Int → Option Int → Hp → VK → Prop := fun x lo hi H Q => ∃ g σ' a d, Rel c g σ' H ∧ Bor c g H a x ∧ slice a lo hi = some d ∧ AD c W g σ' d Q
theorem sl_sli {W : WX} (hK : X.K = c.K) : SlR X (rSli c W) := by
  intro pins s σ H x v vl vu lo hi sl Q I rx hs pl pu ⟨g, σ', a, d, R, ra, e, q⟩
  unfold slice at e
  split at e
  case h_1 xs =>
    obtain ⟨p, vs, rfl, s1, r1⟩ := ra.tup R
    cases e
    refine sl_tupA pins s σ H _ v vl vu lo hi sl Q I rx hs pl pu ⟨p, vs, rfl, by rw [hK]; exact s1, fun hh => ?_, fun _ p' hp => q.tup R (cut_cutV r1 lo hi) hp⟩
    have ra := ra.rep (fun _ z => by cases z)
    have e : cut xs lo hi = xs := by
      have l := repL_length r1
      have e : ∀ n d o, HT.sIx n d o = Ev.sIx n d o := fun n d o => by cases o <;> rfl
      rw [e, e, l] at hh
      unfold cut
      rw [hh.1, hh.2]; simp
    rw [e] at q
    exact q.here R ra
  case h_2 xs =>
    obtain ⟨p, vs, rfl, s1, r1⟩ := ra.lst R
    cases e
    exact sl_list pins s σ H _ v vl vu lo hi sl Q I rx hs pl pu ⟨p, vs, rfl, SqL.of s1, fun p' hp => q.lst R (cut_cutV r1 lo hi) hp⟩
  case h_3 z =>
    have ra := ra.rep (fun _ z => by cases z)
    simp only [Rep] at ra; subst ra
    split at e
    case isTrue hz =>
      cases e
      refine sl_str pins s σ H _ v vl vu lo hi sl Q I rx hs pl pu ⟨toStr z, rfl, by rw [toStr_len, sizeLine_eq]; exact hz, q.here R ?_⟩
      simp only [Rep, V.str.injEq]
      unfold cutS cut
      have e : ∀ n d o, HT.sIx n d o = Ev.sIx n d o := fun n d o => by cases o <;> rfl
      rw [e, e, toStr_len]
      rfl
    case isFalse hz => cases e
  case h_4 => cases e
end
end Ev
set_option Elab.async false
set_option linter.all false
set_option autoImplicit false
set_option maxRecDepth 100000
namespace Ev
open PySem PySem.Spec PyProof.Rows L2
def rBi (c : Kx) (W : WX) (b : Bi) : List V → Hp → VK → Prop := fun xs H Q => ∃ g σ' ds d, Rel c g σ' H ∧ RepL c g.F g.m ds xs ∧ bip shownD b ds = some d ∧ AD c W g σ' d Q
/-- len of a value looked at -/
def rLen (c : Kx) (W : WX) : List V → Hp → VK → Prop := fun xs H Q => ∃ g σ' a x d, xs = [x] ∧ Rel c g σ' H ∧ Bor c g H a x ∧ bip shownD .len [a] = some d ∧ AD c W g σ' d Q
def biVal : Bi → Value
  | .len => .builtin "len" | .abs => .builtin "abs" | .max2 => .builtin "max" | .min2 => .builtin "min" | .max1 => .builtin "max" | .all => .builtin "all" | .any => .builtin "any"
  | .tuple => .type "tuple" | .str => .type "str" | .int => .type "int" | .divmod => .builtin "divmod" | .sum => .builtin "sum" | .repr => .builtin "repr" | .list => .type "list"
section
variable {X : Cx} {c : Kx} {W : WX}
theorem repL_one {F : Hp} {m : List Addr} {d : D} {vs : List V} (r : RepL c F m [d] vs) : ∃ v, vs = [v] ∧ Rep c F m d v := by
  simp only [RepL] at r
  obtain ⟨v, r, rfl, h, rfl⟩ := r
  exact ⟨v, rfl, h⟩
theorem repL_two {F : Hp} {m : List Addr} {d e : D} {vs : List V} (r : RepL c F m [d, e] vs) : ∃ v w, vs = [v, w] ∧ Rep c F m d v ∧ Rep c F m e w := by
  simp only [RepL] at r
  obtain ⟨v, r, rfl, h, w, t, rfl, h', rfl⟩ := r
  exact ⟨v, w, rfl, h, h'⟩
theorem bi_len (hK : X.K = c.K) : CallR X (.builtin "len") (rLen c W) := by
  intro pins s σ H xs us Q I r ⟨g, σ', a, x, d, e1, R, b, e, q⟩
  subst e1
  cases a with
  | str z =>
    have b := b.rep (fun _ z => by cases z)
    simp only [Rep] at b; subst b
    simp only [bip] at e
    split at e
    case isTrue hz => cases e; exact call_len pins s σ H _ us Q I r ⟨_, z.length, rfl, ⟨by rw [toStr_len, sizeLine_eq]; exact hz, (toStr_len z).symm⟩, q.here R (by simp [Rep])⟩
    case isFalse hz => cases e
  | tup ys =>
    simp only [bip] at e; cases e
    obtain ⟨p, vs, rfl, s1, r1⟩ := b.tup R
    exact call_len pins s σ H _ us Q I r ⟨_, ys.length, rfl, .inr ⟨vs, by rw [hK]; exact s1, (repL_length r1).symm⟩, q.here R (by simp [Rep])⟩
  | lst ys =>
    simp only [bip] at e; cases e
    obtain ⟨p, vs, rfl, s1, r1⟩ := b.lst R
    exact call_len pins s σ H _ us Q I r ⟨_, ys.length, rfl, .inl ⟨vs, SqL.of s1, (repL_length r1).symm⟩, q.here R (by simp [Rep])⟩
  | scr ns =>
    simp only [bip] at e; cases e
    have b := b.rep (fun _ z => by cases z)
    simp only [Rep] at b
    obtain ⟨p, rfl, sq⟩ := b
    exact call_len pins s σ H _ us Q I r ⟨_, ns.length, rfl, .inl ⟨_, by rw [hK]; exact sqL_of R.b.fh sq, by simp⟩, q.here R (by simp [Rep])⟩
  | _ => simp [bip] at e
theorem str_int (i : Int) : (Str.ofString (toString i) : Str) = toStr (intTxt i) := by
  unfold toStr intTxt
  rw [Str.ofString_eq_toList]
theorem div_by {j : Int} (h : j.natAbs.log2 < 9000) (i : Int) : Builtin.divisionGoesByPylong i j = false := PyProof.noPylong_of_log2 h
theorem fold_max : ∀ (r : List Int) (i : Int), (r.foldl max i ∈ i :: r) ∧ ∀ y, y ∈ i :: r → y ≤ r.foldl max i
  | [], i => by simp
  | j :: r, i => by
    obtain ⟨h1, h2⟩ := fold_max r (max i j)
    simp only [List.foldl_cons]
    have h3 := h2 (max i j) (by simp)
    refine ⟨?_, fun y hy => ?_⟩
    · rcases List.mem_cons.mp h1 with e | e
      · rw [e]
        by_cases z : i ≤ j
        · rw [Int.max_eq_right z]; simp
        · rw [Int.max_eq_left (by omega)]; simp
      · simp [e]
    · rcases List.mem_cons.mp hy with e | e
      · subst e; omega
      · rcases List.mem_cons.mp e with e | e
        · subst e; omega
        · exact h2 y (by simp [e])
theorem shownD_some {d : D} {t : Txt} (h : shownD d = some t) : D.plainq 60 d = true ∧ PyData.showable (toPyq d) = true ∧ (PyData.shown (toPyq d)).length ≤ SZ ∧ t = (PyData.shown (toPyq d)).cps.toList := by
  unfold shownD at h
  split at h
  · rename_i z
    simp only [Bool.and_eq_true, decide_eq_true_eq] at z
    cases h
    exact ⟨z.1.1, z.1.2, z.2, rfl⟩
  · cases h
theorem bi_ok (b : Bi) (hK : X.K = c.K) (sm : SmOk c.K) (hc : X.calm = true) (hg : X.A.guards = some []) (hu : X.A.units + 65 < cLine) : CallR X (biVal b) (rBi c W b) := by
  intro pins s σ H xs us Q I r ⟨g, σ', ds, d, R, rs, e, q⟩
  have e0 := e
  unfold bip at e
  split at e
  case h_1 z =>
    obtain ⟨v, rfl, h⟩ := repL_one rs
    exact bi_len (W := W) hK pins s σ H _ us Q I r ⟨g, σ', _, v, d, rfl, R, .inl h, e0, q⟩
  case h_2 z =>
    obtain ⟨v, rfl, h⟩ := repL_one rs
    exact bi_len (W := W) hK pins s σ H _ us Q I r ⟨g, σ', _, v, d, rfl, R, .inl h, e0, q⟩
  case h_3 z =>
    obtain ⟨v, rfl, h⟩ := repL_one rs
    exact bi_len (W := W) hK pins s σ H _ us Q I r ⟨g, σ', _, v, d, rfl, R, .inl h, e0, q⟩
  case h_4 z =>
    obtain ⟨v, rfl, h⟩ := repL_one rs
    exact bi_len (W := W) hK pins s σ H _ us Q I r ⟨g, σ', _, v, d, rfl, R, .inl h, e0, q⟩
  case h_5 i =>
    obtain ⟨v, rfl, h⟩ := repL_one rs
    simp only [Rep] at h; subst h; cases e
    exact call_abs pins s σ H _ us Q I r ⟨i, rfl, q.here R (by simp [Rep])⟩
  case h_6 i j =>
    obtain ⟨v, w, rfl, h, h'⟩ := repL_two rs
    simp only [Rep] at h h'; subst h h'; cases e
    exact call_max2 hc pins s σ H _ us Q I r ⟨i, j, rfl, q.here R (by simp [Rep])⟩
  case h_7 i j =>
    obtain ⟨v, w, rfl, h, h'⟩ := repL_two rs
    simp only [Rep] at h h'; subst h h'; cases e
    exact call_min2 hc pins s σ H _ us Q I r ⟨i, j, rfl, q.here R (by simp [Rep])⟩
  case h_8 ys =>
    obtain ⟨v, rfl, h⟩ := repL_one rs
    simp only [Rep] at h
    obtain ⟨p, vs, rfl, s1, r1⟩ := h
    obtain ⟨is, e1, e2⟩ := Option.bind_eq_some_iff.mp e
    have := r1.ints e1; subst this
    cases is with
    | nil => cases e2
    | cons i t =>
      cases e2
      obtain ⟨f1, f2⟩ := fold_max t i
      refine cr_max hc pins s σ H _ us Q I r ⟨p, i :: t, rfl, SqL.of (R.b.fh _ _ s1), by simp, fun k hk hl => ?_⟩
      have e : k = t.foldl max i := by
        have a1 := hl _ f1
        have a2 := f2 k hk
        omega
      rw [e]
      exact q.here R (by simp [Rep])
  case h_9 ys =>
    obtain ⟨v, rfl, h⟩ := repL_one rs
    simp only [Rep] at h
    obtain ⟨p, vs, rfl, s1, r1⟩ := h
    obtain ⟨bs, e', rfl⟩ := Option.map_eq_some_iff.mp e
    have := r1.bls e'; subst this
    exact cr_all hc pins s σ H _ us Q I r ⟨p, bs, rfl, SqL.of (R.b.fh _ _ s1), q.here R (by simp [Rep])⟩
  case h_10 ys =>
    obtain ⟨v, rfl, h⟩ := repL_one rs
    simp only [Rep] at h
    obtain ⟨p, vs, rfl, s1, r1⟩ := h
    obtain ⟨bs, e', rfl⟩ := Option.map_eq_some_iff.mp e
    have := r1.bls e'; subst this
    exact cr_any hc pins s σ H _ us Q I r ⟨p, bs, rfl, SqL.of (R.b.fh _ _ s1), q.here R (by simp [Rep])⟩
  case h_11 ys =>
    obtain ⟨v, rfl, h⟩ := repL_one rs
    have h0 := h
    simp only [Rep] at h
    obtain ⟨p, vs, rfl, s1, r1⟩ := h
    cases e
    exact call_tupleT pins s σ H _ us Q I r ⟨p, vs, rfl, by rw [hK]; exact sqT_of R.b.fh s1, q.here R h0⟩
  case h_12 ys =>
    obtain ⟨v, rfl, h⟩ := repL_one rs
    simp only [Rep] at h
    obtain ⟨p, vs, rfl, s1, r1⟩ := h
    cases e
    exact call_tuple_of pins s σ H _ us Q I r ⟨p, vs, rfl, .inl ⟨SqL.of (R.b.fh _ _ s1), fun l hl => q.tup R r1 hl⟩⟩
  case h_13 i =>
    obtain ⟨v, rfl, h⟩ := repL_one rs
    simp only [Rep] at h; subst h
    split at e
    case isTrue z =>
      cases e
      refine call_str_int pins s σ H _ us Q I r ⟨i, rfl, z, ?_⟩
      rw [str_int]; exact q.here R (by simp [Rep])
    case isFalse z => cases e
  case h_14 x =>
    obtain ⟨v, rfl, h⟩ := repL_one rs
    simp only [Rep] at h; subst h; cases e
    exact SkE.call_str_str pins s σ H _ us Q I r ⟨_, rfl, q.here R (by simp [Rep])⟩
  case h_15 i =>
    obtain ⟨v, rfl, h⟩ := repL_one rs
    simp only [Rep] at h; subst h; cases e
    exact call_int1 pins s σ H _ us Q I r (.inl ⟨i, rfl, q.here R (by simp [Rep])⟩)
  case h_16 k =>
    obtain ⟨v, rfl, h⟩ := repL_one rs
    simp only [Rep] at h; subst h; cases e
    exact call_int1 pins s σ H _ us Q I r (.inr ⟨k, rfl, q.here R (by simp [Rep])⟩)
  case h_17 i j =>
    obtain ⟨v, w, rfl, h, h'⟩ := repL_two rs
    simp only [Rep] at h h'; subst h h'
    split at e
    case isTrue z =>
      cases e
      exact call_divmodW pins s σ H _ us Q I r ⟨i, j, rfl, ⟨z.1, div_by z.2 i⟩, fun p hp => q.tup R (RepL.cons_ (by simp [Rep]) (RepL.cons_ (by simp [Rep]) (by simp [RepL]))) hp⟩
    case isFalse z => cases e
  case h_18 ys =>
    obtain ⟨v, rfl, h⟩ := repL_one rs
    simp only [Rep] at h
    obtain ⟨p, vs, rfl, s1, r1⟩ := h
    obtain ⟨is, e', rfl⟩ := Option.map_eq_some_iff.mp e
    have := r1.ints e'; subst this
    exact cr_sum hc pins s σ H _ us Q I r ⟨p, is, rfl, SqL.of (R.b.fh _ _ s1), q.here R (by simp [Rep])⟩
  case h_19 x =>
    obtain ⟨v, rfl, h⟩ := repL_one rs
    obtain ⟨t, e', rfl⟩ := Option.map_eq_some_iff.mp e
    obtain ⟨hp, hs, hl, rfl⟩ := shownD_some e'
    have hsz : (PyData.shown (toPyq x)).length ≤ sizeLine := by rw [sizeLine_eq]; exact hl
    have fin : ∀ tk, EP X pins σ Q (.str (PyData.shown (toPyq x)) tk) { s with toks := s.toks + 1 } := fun tk => ⟨.str _, H, I.tok _, ⟨_, rfl⟩, q.here R (by simp [Rep, toStr])⟩
    obtain ⟨u, rfl, rv⟩ := vals1 r
    have hdep := plainq_depth 60 x hp
    have deep : ∀ a, u = .ref a → wpAny (model X.prog X.w) X.A (call (.builtin "repr") [u]) (EP X pins σ Q) X.xe s := fun a ea => by
      subst ea
      obtain ⟨as, hr, hsm⟩ := Rep.readsq hK sm I R.b.fh 60 x v (.ref a) hp h rv
      exact repr_of_reads' hr hs (fun _ => hsm) hg (by omega) (fun _ _ e => e) (fun h' u tk hk => ⟨.str _, H, I.kept (t' := tk) hk, ⟨_, rfl⟩, q.here R (by simp [Rep, toStr])⟩) hsz
    cases x with
    | non => simp only [Rep] at h; subst h; cases rv; exact P.repr_of_none (fin _)
    | bl b => simp only [Rep] at h; subst h; cases rv; exact P.repr_of_bool (fin _)
    | int i => simp only [Rep] at h; subst h; obtain ⟨t, rfl⟩ := rv; exact P.repr_of_int (by simpa [toPyq, PyData.showable] using hs) (fin _)
    | str z => simp only [Rep] at h; subst h; obtain ⟨t, rfl⟩ := rv; exact P.repr_of_str (fin _) hsz
    | tup ys => simp only [Rep] at h; obtain ⟨a, vs, rfl, _⟩ := h; exact deep a rv
    | lst ys => simp only [Rep] at h; obtain ⟨a, vs, rfl, _⟩ := h; exact deep a rv
    | dic _ => simp only [Rep] at h; obtain ⟨a, rfl, _⟩ := h; exact deep a rv
    | ref _ => simp [D.plainq] at hp
    | scr _ => simp [D.plainq] at hp
  case h_20 => cases e
end
end Ev
set_option Elab.async false
set_option linter.all false
set_option autoImplicit false
set_option maxRecDepth 100000
namespace Ev
open PySem PySem.Spec PyProof.Rows L2
def tyNm : Ty → String
  | .str => "str" | .tuple => "tuple" | .list => "list" | .int => "int" | .bool => "bool" | .dict => "dict"
def tyOf : D → String
  | .non => "NoneType" | .bl _ => "bool" | .int _ => "int" | .str _ => "str" | .tup _ => "tuple" | .lst _ => "list" | .dic _ => "dict" | .ref _ => "list" | .scr _ => "list"
theorem kit_all (t : Ty) (d : D) (b : Bool) (h : isTy t d = some b) : kitB (tyOf d) (tyNm t) = some b := by
  cases t <;> cases d <;> simp [isTy] at h <;> subst h <;> (simp only [tyOf, tyNm]; decide +kernel)
section
variable {X : Cx} {c : Kx} {W : WX}
theorem Bor.ty {g : Gs} {σ : St} {H : Hp} (hK : X.K = c.K) (R : Rel c g σ H) {d : D} {v : V} (b : Bor c g H d v) (n1 : ∀ n, d ≠ .ref n) (n2 : ∀ ns, d ≠ .scr ns) : TyX X.K H v (.type (tyOf d)) := by
  cases d with
  | non => have b := b.rep (fun _ z => by cases z); simp only [Rep] at b; subst b; exact .base .non
  | bl x => have b := b.rep (fun _ z => by cases z); simp only [Rep] at b; subst b; exact .base (.bl x)
  | int i => have b := b.rep (fun _ z => by cases z); simp only [Rep] at b; subst b; exact .base (.int i)
  | str z => have b := b.rep (fun _ z => by cases z); simp only [Rep] at b; subst b; exact .base (.str _)
  | tup xs =>
    obtain ⟨a, vs, rfl, s, r⟩ := b.tup R
    rw [← hK] at s
    rcases s with (h | ⟨o, h⟩) | ⟨o, its, n, h, hc, _⟩
    · exact .base (.tup h)
    · exact .fTuple h
    · exact .kTuple h hc
  | lst xs =>
    obtain ⟨a, vs, rfl, s, r⟩ := b.lst R
    exact .base (.lst s)
  | dic kvs =>
    have b := b.rep (fun _ z => by cases z)
    simp only [Rep] at b
    obtain ⟨a, rfl, b2⟩ := b
    rcases b2 with ⟨_, h⟩ | h
    · exact .base (.dK (R.b.fh _ _ h))
    · obtain ⟨_, ⟨es, n, KD⟩, _⟩ := h
      exact .kDict (by rw [hK]; exact KD.at_) rfl
  | ref n => exact absurd rfl (n1 n)
  | scr ns => exact absurd rfl (n2 ns)
/-- isinstance(x, T) by values: what is asked -/
def rIsi1 (c : Kx) (t : Ty) : List V → Hp → VK → Prop := fun xs H Q => ∃ g σ' a x k, xs = [x, .ty (tyNm t)] ∧ Rel c g σ' H ∧ Bor c g H a x ∧ isTy t a = some k ∧ Q (.bl k) H
theorem isi_ok (t : Ty) (hK : X.K = c.K) : CallR X (.builtin "isinstance") (rIsi1 c t) := by
  intro pins s σ H xs us Q I r ⟨g, σ', a, x, k, e1, R, b, e, q⟩
  subst e1
  refine call_isi pins s σ H _ us Q I r ⟨x, .ty (tyNm t), .type (tyOf a), .type (tyNm t), k, rfl, .ty _, b.ty hK R (fun n z => ?_) (fun ns z => ?_), kit_ty (kit_all t a k e), q⟩
  · subst z; simp [isTy] at e
  · subst z; simp [isTy] at e
theorem joinT_eq (sep : Txt) : ∀ ts : List Txt, Str.join (toStr sep) (ts.map toStr) = toStr (joinT sep ts)
  | [] => rfl
  | [x] => rfl
  | x :: y :: r => by
    have ih := joinT_eq sep (y :: r)
    show toStr x ++ toStr sep ++ Str.join (toStr sep) ((y :: r).map toStr) = _
    rw [ih, toStr_app, toStr_app]
    rfl
theorem joinLen_eq (n : Nat) : ∀ ts : List Txt, ((ts.map toStr).map (·.length)).sum + (ts.map toStr).length * n = joinLen n ts
  | [] => by simp [joinLen]
  | x :: r => by
    have ih := joinLen_eq n r
    simp only [List.map_cons, List.sum_cons, List.length_cons, joinLen]
    rw [toStr_len, ← ih, Nat.add_mul]
    omega
def rMt (c : Kx) (W : WX) (mt : Mt) (T : Ty) : V → List V → Hp → VK → Prop := fun x xs H Q => ∃ g σ' a ds d, Rel c g σ' H ∧ Rep c g.F g.m a x ∧ RepL c g.F g.m ds xs ∧ tyOf a = tyNm T ∧ mtp mt a ds = some d ∧ AD c W g σ' d Q
theorem mtp_one {mt : Mt} {a d : D} {ds : List D} (h : mtp mt a ds = some d) : ∃ x, ds = [x] := by
  cases ds with
  | nil => cases mt <;> cases a <;> simp [mtp] at h
  | cons x r =>
    cases r with
    | nil => exact ⟨x, rfl⟩
    | cons y t => cases mt <;> cases a <;> simp [mtp] at h
theorem mt_ok_join (hK : X.K = c.K) : MtR X "str.join" (rMt c W .join .str) := by
  intro pins s σ H x xs v us Q I rx rs ⟨g, σ', a, ds, d, R, ra, rds, ty, e, q⟩
  cases a <;> simp [tyOf, tyNm] at ty
  rename_i sep
  simp only [Rep] at ra; subst ra
  obtain ⟨y, rfl⟩ := mtp_one e
  obtain ⟨v', rfl, h⟩ := repL_one rds
  cases y <;> simp [mtp] at e
  rename_i ys
  simp only [Rep] at h
  obtain ⟨p, vs, rfl, s1, r1⟩ := h
  obtain ⟨ts, e1, e2⟩ := Option.bind_eq_some_iff.mp e
  have := r1.txts e1; subst this
  split at e2
  case isFalse z => cases e2
  case isTrue z =>
  cases e2
  refine mt_join pins s σ H _ _ v us Q I rx rs ⟨toStr sep, p, ts.map toStr, rfl, rfl, .inl (SqL.of (R.b.fh _ _ (by rw [List.map_map]; exact s1))), ?_, ?_⟩
  · rw [toStr_len, joinLen_eq]; exact z
  · rw [TL.join_eq, joinT_eq]; exact q.here R (by simp [Rep])
end
end Ev
set_option Elab.async false
set_option linter.all false
set_option autoImplicit false
set_option maxRecDepth 100000
namespace Ev
open PySem PySem.Spec PyProof.Rows L2
section
variable (c : Kx) (W : WX)
/-- .. of a thing looked at only -/
def tBo (m : M D) : TE := fun σ H Q => ∃ g, Rel c g σ H ∧ After c W g σ (m g.ρ g.S) fun d g' H' => ∀ v, Bor c g' H' d v → Q v H'
/-- .. of what leaves the heap's objects as they are -/
def tSi (m : M D) : TE := fun σ H Q => ∃ g, Rel c g σ H ∧ After c W g σ (m g.ρ g.S) fun d g' H' => (∀ a o, H a = some o → H' a = some o) → ∀ v, Rep c g'.F g'.m d v → Q v H'
end
section
variable {X : Cx} {c : Kx} {W : WX} {pos : Pos} {a b e : Expr} {ma mb m : M D} {g g' : Gs} {σ : St} {H H' : Hp}
theorem Bor.keep {d : D} {v : V} (h : Bor c g H d v) (x : GExt g g') (k : ∀ a o, H a = some o → H' a = some o) : Bor c g' H' d v := by
  rcases h with h | ⟨xs, a, vs, e1, e2, h1, h2⟩
  · exact .inl (h.ext x.e)
  · exact .inr ⟨xs, a, vs, e1, e2, k _ _ h1, h2.ext x.e⟩
theorem PE.toBo (h : PE X e (tM c W m)) : PE X e (tBo c W m) := PE.weak h fun σ H Q ⟨g, R, h⟩ => ⟨g, R, h.imp fun d g' H' x R' h v r => h v (.inl r)⟩
theorem PE.ofSi (h : PE X e (tSi c W m)) : PE X e (tM c W m) := by
  refine PE.weak h fun σ H Q ⟨g, R, h⟩ => ⟨g, R, h.imp fun d g' H' x R' h _ v r => h v r⟩
theorem ok_bvar {i : Nat} {x : Str} (hN : X.N[i]? = some x) (hv : Vis X.env.scope x) (hd : (x == ("__debug__" : Str)) = false) (hcd : (x == ("__classdict__" : Str)) = false) : PE X (.Name x pos) (tBo c W (mBor i)) := by
  refine PE.weak (pe_var hN hv hd hcd) fun σ H Q ⟨g, R, h⟩ => ?_
  unfold mBor at h
  cases e : g.ρ[i]? with
  | none => rw [e] at h; exact h.elim
  | some o =>
    cases o with
    | none => rw [e] at h; exact h.elim
    | some s =>
      cases s with
      | fz d =>
        rw [e] at h
        obtain ⟨v, e1, r⟩ := R.sf i d e
        exact ⟨v, e1, h g H rfl rfl .refl R v (.inl r)⟩
      | ow xs =>
        rw [e] at h
        obtain ⟨a, vs, e1, h1, r, _⟩ := R.so i xs e
        exact ⟨.ref a, e1, h g H rfl rfl .refl R _ (.inr ⟨xs, a, vs, rfl, rfl, h1, r⟩)⟩
      | ex x => rw [e] at h; exact h.elim
theorem ok_svar {i : Nat} {x : Str} (hN : X.N[i]? = some x) (hv : Vis X.env.scope x) (hd : (x == ("__debug__" : Str)) = false) (hcd : (x == ("__classdict__" : Str)) = false) : PE X (.Name x pos) (tSi c W (mVar i)) := by
  refine PE.weak (pe_var hN hv hd hcd) fun σ H Q ⟨g, R, h⟩ => ?_
  unfold mVar at h
  cases e : g.ρ[i]? with
  | none => rw [e] at h; exact h.elim
  | some o =>
    cases o with
    | none => rw [e] at h; exact h.elim
    | some s =>
      cases s with
      | fz d =>
        rw [e] at h
        obtain ⟨v, e1, r⟩ := R.sf i d e
        exact ⟨v, e1, h g H rfl rfl .refl R (fun _ _ z => z) v r⟩
      | ow xs =>
        rw [e] at h
        obtain ⟨a, F', e1, R', ex, r⟩ := R.freezeSlot e
        exact ⟨.ref a, e1, After.app h R' ex rfl rfl (fun _ _ z => z) _ r⟩
      | ex x => rw [e] at h; exact h.elim
theorem ok_scst {e : Expr} {v : V} {d : D} (h : PE X e (tC v)) (r : ∀ F m, Rep c F m d v) : PE X e (tSi c W (M.pure d)) :=
  PE.weak h fun σ H Q ⟨g, R, q⟩ => q g H rfl rfl .refl R (fun _ _ z => z) v (r _ _)
theorem ok_sdct (hc : X.calm = true) : PE X (.Dict [] [] pos) (tSi c W (M.pure (.dic []))) := by
  refine PE.weak pe_dnewK fun σ H Q ⟨g, R, h⟩ => fun p hp => ?_
  obtain ⟨R2, x2⟩ := R.grow (o := .dK []) hp
  refine After.app h R2 x2 rfl rfl (fun a o z => by rw [upd_ne (ne_of_none z hp)]; exact z) (.ref p) ?_
  show ∃ a, V.ref p = .ref a ∧ _
  exact ⟨p, rfl, .inl ⟨rfl, upd_same⟩⟩
theorem ok_bin {o : Bop} (hK : X.K = c.K) (ha : PE X a (tM c W ma)) (hb : PE X b (tM c W mb)) : PE X (.BinOp a (bopOf o) b pos) (tM c W (M.bind ma fun x => M.bind mb fun y => M.of (bop o x y))) := by
  refine PE.weak (pe_op (op_bop (c := c) (W := W) o hK) ha hb) fun σ H Q ⟨g, R, h⟩ => ⟨g, R, (After.bind h).imp fun x g1 H1 x1 R1 h1 v r => ⟨g1, R1, (After.bind h1).imp fun y g2 H2 x2 R2 h2 u r' => ?_⟩⟩
  obtain ⟨d, e, q⟩ := After.of h2
  exact ⟨g2, σ, x, y, d, R2, r.ext x2.e, r', e, q⟩
section
variable (hK : X.K = c.K) (hw : X.w = c.w) (hu : X.A.units + 65 < cLine)
include hK hw hu
theorem ok_cmp2 (o : Cop) (ha : PE X a (tBo c W ma)) (hb : PE X b (tSi c W mb)) (hm : behindInMarks (copOf o) b = false) : PE X (.Compare a [copOf o] [b] pos) (tM c W (M.bind ma fun x => M.bind mb fun y => M.bind (M.of (cop o x y)) fun l => M.pure (.bl l))) := by
  refine PE.weak (pe_cmpR (op_cop (c := c) o hK hw hu) ha hb hm) fun σ H Q ⟨g, R, h⟩ => ⟨g, R, (After.bind h).imp fun x g1 H1 x1 R1 h1 v r => ⟨g1, R1, (After.bind h1).imp fun y g2 H2 x2 R2 h2 kp u r' => ?_⟩⟩
  obtain ⟨l, e, q⟩ := After.of (After.bind h2)
  exact ⟨g2, σ, x, y, l, R2, r.keep x2 kp, .inl r', e, After.pure (After.app q R2 .refl rfl rfl) R2 _ (by simp [Rep])⟩
/-- .. as a test -/
theorem okT_cmp (o : Cop) (ha : PE X a (tM c W ma)) (hb : PE X b (tBo c W mb)) (hm : behindInMarks (copOf o) b = false) : PT X (.Compare a [copOf o] [b] pos) (tB c W (M.bind (M.bind ma fun x => M.bind mb fun y => M.bind (M.of (cop o x y)) fun l => M.pure (.bl l)) mTruth)) := by
  refine PT.weak (pt_cmpR (op_cop (c := c) o hK hw hu) ha hb hm) fun σ H Q ⟨g, R, h⟩ => ⟨g, R, (After.bind (After.bind h)).imp fun x g1 H1 x1 R1 h1 v r => ⟨g1, R1, (After.bind h1).imp fun y g2 H2 x2 R2 h2 u r' => ?_⟩⟩
  obtain ⟨l, e, q⟩ := After.of (After.bind h2)
  have q2 := After.pure (After.app q R2 .refl rfl rfl) R2
  exact ⟨g2, σ, x, y, l, R2, .inl (r.ext x2.e), r', e, l, rfl, q2 g2 H2 rfl rfl .refl R2⟩
theorem okT_cmp2 (o : Cop) (ha : PE X a (tBo c W ma)) (hb : PE X b (tSi c W mb)) (hm : behindInMarks (copOf o) b = false) : PT X (.Compare a [copOf o] [b] pos) (tB c W (M.bind (M.bind ma fun x => M.bind mb fun y => M.bind (M.of (cop o x y)) fun l => M.pure (.bl l)) mTruth)) := by
  refine PT.weak (pt_cmpR (op_cop (c := c) o hK hw hu) ha hb hm) fun σ H Q ⟨g, R, h⟩ => ⟨g, R, (After.bind (After.bind h)).imp fun x g1 H1 x1 R1 h1 v r => ⟨g1, R1, (After.bind h1).imp fun y g2 H2 x2 R2 h2 kp u r' => ?_⟩⟩
  obtain ⟨l, e, q⟩ := After.of (After.bind h2)
  have q2 := After.pure (After.app q R2 .refl rfl rfl) R2
  exact ⟨g2, σ, x, y, l, R2, r.keep x2 kp, .inl r', e, l, rfl, q2 g2 H2 rfl rfl .refl R2⟩
end
end
end Ev
set_option Elab.async false
set_option linter.all false
set_option autoImplicit false
set_option maxRecDepth 100000
namespace Ev
open PySem PySem.Spec PyProof.Rows L2
/-- a value's truth -/
def mT (m : M D) : M Bool := M.bind m mTruth
section
variable {α β γ : Type}
theorem M.assoc (m : M α) (f : α → M β) (k : β → M γ) : M.bind (M.bind m f) k = M.bind m fun a => M.bind (f a) k := by
  funext ρ S
  unfold M.bind Res.bind
  cases m ρ S <;> rfl
theorem M.pure_bind (a : α) (f : α → M β) : M.bind (M.pure a) f = f a := rfl
theorem M.bind_congr {m : M α} {f k : α → M β} (h : ∀ a, f a = k a) : M.bind m f = M.bind m k := by
  have : f = k := funext h
  rw [this]
end
def mNot (ma : M D) : M D := M.bind ma fun x => M.bind (mTruth x) fun k => M.pure (.bl (!k))
theorem mT_not (ma : M D) : mT (mNot ma) = M.bind (mT ma) fun k => M.pure (!k) := by
  unfold mT mNot
  rw [M.assoc, M.assoc]
  refine M.bind_congr fun x => ?_
  rw [M.assoc]
  rfl
def mAnd (ma mb : M D) : M D := M.bind ma fun x => M.bind (mTruth x) fun k => if k then mb else M.pure x
def mOr (ma mb : M D) : M D := M.bind ma fun x => M.bind (mTruth x) fun k => if k then M.pure x else mb
def mIte (mt ma mb : M D) : M D := M.bind mt fun x => M.bind (mTruth x) fun k => if k then ma else mb
theorem mT_and (ma mb : M D) : mT (mAnd ma mb) = M.bind (mT ma) fun k => if k then mT mb else M.pure false := by
  unfold mT mAnd
  rw [M.assoc, M.assoc]
  refine M.bind_congr fun x => ?_
  rw [M.assoc]
  funext ρ S
  unfold M.bind Res.bind mTruth M.of
  cases e : truth x with
  | none => rfl
  | some k =>
    cases k with
    | true => rfl
    | false => simp only [Bool.false_eq_true, if_false]; unfold M.pure; simp only [e]; rfl
theorem mT_or (ma mb : M D) : mT (mOr ma mb) = M.bind (mT ma) fun k => if k then M.pure true else mT mb := by
  unfold mT mOr
  rw [M.assoc, M.assoc]
  refine M.bind_congr fun x => ?_
  rw [M.assoc]
  funext ρ S
  unfold M.bind Res.bind mTruth M.of
  cases e : truth x with
  | none => rfl
  | some k =>
    cases k with
    | false => rfl
    | true => simp only [if_true]; unfold M.pure; simp only [e]; rfl
theorem mIte_eq (mt ma mb : M D) : mIte mt ma mb = M.bind (mT mt) fun k => if k then ma else mb := by
  unfold mT mIte
  rw [M.assoc]
section
variable {X : Cx} {c : Kx} {W : WX} {pos : Pos} {a b e t d : Expr} {es rest : List Expr} {ma mb mc m mt : M D} {ms : M (List D)} {g g' : Gs} {σ : St} {H H' : Hp}
theorem tr (hK : X.K = c.K) {d : D} {v : V} {ok : Bool → Gs → Hp → Prop} (R : Rel c g σ H) (r : Bor c g H d v) (h : After c W g σ (mTruth d g.ρ g.S) ok) : ∃ k, TruV X.K v H k ∧ truth d = some k ∧ ok k g H := by
  obtain ⟨k, e, q⟩ := After.of h
  exact ⟨k, truth_ok hK R r e, e, After.app q R .refl rfl rfl⟩
/-- a test by truth -/
theorem okT_truth (hK : X.K = c.K) (ha : PE X a (tM c W ma)) (he : ∀ whole, isTrue a X.env whole = (do let v ← whole; standAt a.pos; holding [v] (truthy v))) : PT X a (tB c W (mT ma)) := by
  refine PT.weak (pt_truth ha he) fun σ H Q ⟨g, R, h⟩ => ⟨g, R, (After.bind h).imp fun x g1 H1 x1 R1 h1 v r => ?_⟩
  obtain ⟨k, t, _, q⟩ := tr hK R1 (.inl r) h1
  exact ⟨k, t, q⟩
theorem okT_not (ha : PT X a (tB c W (mT ma))) : PT X (.UnaryOp .Not a pos) (tB c W (mT (mNot ma))) := by
  rw [mT_not]
  exact PT.weak (pt_not ha) fun σ H Q ⟨g, R, h⟩ => ⟨g, R, (After.bind h).imp fun k g1 H1 x1 R1 h1 => After.pure h1 R1⟩
theorem okW_one_and (ha : PT X a (tB c W (mT ma))) : PW X (.BoolOp .And [a] pos) (tB c W (mT ma)) := pw_and1 ha
theorem okW_one_or (ha : PT X a (tB c W (mT ma))) : PW X (.BoolOp .Or [a] pos) (tB c W (mT ma)) := pw_or1 ha
theorem okW_and (ha : PT X a (tB c W (mT ma))) (hb : PW X (.BoolOp .And (b :: rest) pos) (tB c W (mT mb))) : PW X (.BoolOp .And (a :: b :: rest) pos) (tB c W (mT (mAnd ma mb))) := by
  rw [mT_and]
  refine PW.weak (pw_and ha hb) fun σ H Q ⟨g, R, h⟩ => ⟨g, R, (After.bind h).imp fun k g1 H1 x1 R1 h1 => ?_⟩
  cases k with
  | true => exact ⟨g1, R1, h1⟩
  | false => exact After.pure h1 R1
theorem okW_or (ha : PT X a (tB c W (mT ma))) (hb : PW X (.BoolOp .Or (b :: rest) pos) (tB c W (mT mb))) : PW X (.BoolOp .Or (a :: b :: rest) pos) (tB c W (mT (mOr ma mb))) := by
  rw [mT_or]
  refine PW.weak (pw_or ha hb) fun σ H Q ⟨g, R, h⟩ => ⟨g, R, (After.bind h).imp fun k g1 H1 x1 R1 h1 => ?_⟩
  cases k with
  | true => exact After.pure h1 R1
  | false => exact ⟨g1, R1, h1⟩
theorem ok_ite (ht : PT X t (tB c W (mT mt))) (ha : PE X a (tM c W ma)) (hb : PE X b (tM c W mb)) : PE X (.IfExp t a b pos) (tM c W (mIte mt ma mb)) := by
  rw [mIte_eq]
  refine PE.weak (pe_ifExp ht ha hb) fun σ H Q ⟨g, R, h⟩ => ⟨g, R, (After.bind h).imp fun k g1 H1 x1 R1 h1 => ?_⟩
  cases k with
  | true => exact ⟨g1, R1, h1⟩
  | false => exact ⟨g1, R1, h1⟩
def mChn (o p : Cop) (ma mb mc : M D) : M D := M.bind ma fun x => M.bind mb fun y => M.bind (M.of (cop o x y)) fun k => if k then M.bind mc fun z => M.bind (M.of (cop p y z)) fun l => M.pure (.bl l) else M.pure (.bl false)
theorem mIdx_pure {x i : D} (h : ∀ n, x ≠ .ref n) (ρ : Env) (S : Sto) : mIdx x i ρ S = M.of (index x i) ρ S := by
  cases x <;> first | rfl | exact absurd rfl (h _)
/-- a cell's item -/
theorem cell_at (hK : X.K = c.K) (R : Rel c g σ H) {n : Nat} {v : V} {xs : List D} {k : Int} {d : D} (r : Rep c g.F g.m (.ref n) v) (hS : g.S[n]? = some (.lst xs)) (hd : atI xs k = some d) : ∃ a vs w, v = .ref a ∧ H a = some (.lst vs) ∧ L2.atI vs k = some w ∧ Rep c g.F g.m d w := by
  simp only [Rep] at r
  obtain ⟨a, h1, rfl⟩ := r
  obtain ⟨_, _, vs, h2, r2⟩ := R.b.cl n _ a hS h1
  obtain ⟨w, h3, h4⟩ := atI_V r2 hd
  exact ⟨a, vs, w, rfl, h2, h3, h4⟩
def rIdx2 (c : Kx) (W : WX) : R2 := fun x y H Q => ∃ g σ' a b, Rel c g σ' H ∧ Bor c g H a x ∧ Rep c g.F g.m b y ∧ After c W g σ' (mIdx a b g.ρ g.S) fun d g' H' => ∀ v, Rep c g'.F g'.m d v → Q v H'
theorem ix_idx2 (hK : X.K = c.K) (hw : X.w = c.w) : IxR X (rIdx2 c W) := by
  intro value sli pins s σ H x y v u Q I rx ry ⟨g, σ', a, b, R, ra, rb, q⟩ hs
  by_cases z : ∃ n, a = .ref n
  · obtain ⟨n, rfl⟩ := z
    have ra := ra.rep (fun _ z => by cases z)
    unfold mIdx at q
    simp only at q
    cases hS : g.S[n]? with
    | none => rw [hS] at q; exact q.elim
    | some cl =>
      cases cl with
      | dct _ => rw [hS] at q; exact q.elim
      | ins _ _ => rw [hS] at q; exact q.elim
      | lst xs =>
        rw [hS] at q
        cases b <;> try exact q.elim
        rename_i k
        simp only at q
        cases hd : atI xs k with
        | none => rw [hd] at q; exact q.elim
        | some d =>
          rw [hd] at q
          obtain ⟨p, vs, w, rfl, h1, h2, h3⟩ := cell_at hK R ra hS hd
          simp only [Rep] at rb; subst rb
          exact ix_list value sli pins s σ H _ _ v u Q I rx ry ⟨p, vs, k, w, rfl, rfl, SqL.of h1, h2, q g H rfl rfl .refl R w h3⟩ hs
  · rw [mIdx_pure (fun n e => z ⟨n, e⟩)] at q
    obtain ⟨d, e, q⟩ := After.of q
    exact ix_idx (W := W) hK hw value sli pins s σ H x y v u Q I rx ry ⟨g, σ', a, b, d, R, ra, rb, e, q⟩ hs
theorem ok_idx (hK : X.K = c.K) (hw : X.w = c.w) (ha : PE X a (tM c W ma)) (hb : PE X b (tM c W mb)) (hs : PlainIx b) : PE X (.Subscript a b pos) (tM c W (M.bind ma fun x => M.bind mb fun k => mIdx x k)) := by
  refine PE.weak (pe_ix (ix_idx2 (W := W) hK hw) ha hb hs) fun σ H Q ⟨g, R, h⟩ => ⟨g, R, (After.bind h).imp fun x g1 H1 x1 R1 h1 v r => ⟨g1, R1, (After.bind h1).imp fun y g2 H2 x2 R2 h2 u r' => ?_⟩⟩
  exact ⟨g2, σ, x, y, R2, .inl (r.ext x2.e), r', h2⟩
theorem ok_idx2 (hK : X.K = c.K) (hw : X.w = c.w) (ha : PE X a (tBo c W ma)) (hb : PE X b (tSi c W mb)) (hs : PlainIx b) : PE X (.Subscript a b pos) (tM c W (M.bind ma fun x => M.bind mb fun k => mIdx x k)) := by
  refine PE.weak (pe_ix (ix_idx2 (W := W) hK hw) ha hb hs) fun σ H Q ⟨g, R, h⟩ => ⟨g, R, (After.bind h).imp fun x g1 H1 x1 R1 h1 v r => ⟨g1, R1, (After.bind h1).imp fun y g2 H2 x2 R2 h2 kp u r' => ?_⟩⟩
  exact ⟨g2, σ, x, y, R2, r.keep x2 kp, r', h2⟩
end
end Ev
set_option Elab.async false
set_option linter.all false
set_option autoImplicit false
set_option maxRecDepth 100000
namespace Ev
open PySem PySem.Spec PyProof.Rows L2
section
variable (c : Kx) (W : WX)
def tO (m : M (Option Int)) : TO := fun σ H Q => ∃ g, Rel c g σ H ∧ After c W g σ (m g.ρ g.S) fun o g' H' => Q o H'
def tOs (m : M (Option Int)) : TO := fun σ H Q => ∃ g, Rel c g σ H ∧ After c W g σ (m g.ρ g.S) fun o g' H' => (∀ a o, H a = some o → H' a = some o) → Q o H'
end
section
variable {X : Cx} {c : Kx} {W : WX} {pos p2 apos cpos : Pos} {a b e t d o : Expr} {lo hi : Option Expr} {es rest : List Expr} {ma mb mc m mt : M D} {ml mh : M (Option Int)} {ms : M (List D)} {g g' : Gs} {σ : St} {H H' : Hp}
def mPart (m : M D) : M (Option Int) := M.bind m fun d => match d with | .int i => M.pure (some i) | _ => M.bad
theorem po_no : PO X none (tO c W (M.pure none)) := ⟨fun pins s σ H Q I ⟨g, R, h⟩ => po_none.run pins s σ H Q I (After.pure h R)⟩
theorem po_nos : PO X none (tOs c W (M.pure none)) := ⟨fun pins s σ H Q I ⟨g, R, h⟩ => po_none.run pins s σ H Q I (After.pure h R fun _ _ z => z)⟩
theorem po_yes (h : PE X e (tM c W m)) : PO X (some e) (tO c W (mPart m)) := by
  refine ⟨fun pins s σ H Q I ⟨g, R, q⟩ => (po_some h).run pins s σ H Q I ⟨g, R, (After.bind q).imp fun x g1 H1 x1 R1 h1 v r => ?_⟩⟩
  cases x with
  | int i => simp only [Rep] at r; exact ⟨i, r, After.pure h1 R1⟩
  | _ => exact h1.elim
theorem po_yess (h : PE X e (tSi c W m)) : PO X (some e) (tOs c W (mPart m)) := by
  refine ⟨fun pins s σ H Q I ⟨g, R, q⟩ => (po_some h).run pins s σ H Q I ⟨g, R, (After.bind q).imp fun x g1 H1 x1 R1 h1 kp v r => ?_⟩⟩
  cases x with
  | int i => simp only [Rep] at r; exact ⟨i, r, After.pure h1 R1 kp⟩
  | _ => exact h1.elim
def mSlc (ma : M D) (ml mh : M (Option Int)) : M D := M.bind ma fun x => M.bind ml fun l => M.bind mh fun h => M.of (slice x l h)
theorem ok_slc (hK : X.K = c.K) (ha : PE X a (tM c W ma)) (hl : PO X lo (tO c W ml)) (hh : PO X hi (tO c W mh)) : PE X (.Subscript a (.Slice lo hi none p2) pos) (tM c W (mSlc ma ml mh)) := by
  refine PE.weak (pe_slice (sl_sli (W := W) hK) ha hl hh) fun σ H Q ⟨g, R, h⟩ => ⟨g, R, (After.bind h).imp fun x g1 H1 x1 R1 h1 v r => ⟨g1, R1, (After.bind h1).imp fun l g2 H2 x2 R2 h2 => ⟨g2, R2, (After.bind h2).imp fun u g3 H3 x3 R3 h3 => ?_⟩⟩⟩
  obtain ⟨w, e, q⟩ := After.of h3
  exact ⟨g3, σ, x, w, R3, .inl ((r.ext x2.e).ext x3.e), e, q⟩
theorem ok_slc2 (hK : X.K = c.K) (ha : PE X a (tBo c W ma)) (hl : PO X lo (tOs c W ml)) (hh : PO X hi (tOs c W mh)) : PE X (.Subscript a (.Slice lo hi none p2) pos) (tM c W (mSlc ma ml mh)) := by
  refine PE.weak (pe_slice (sl_sli (W := W) hK) ha hl hh) fun σ H Q ⟨g, R, h⟩ => ⟨g, R, (After.bind h).imp fun x g1 H1 x1 R1 h1 v r => ⟨g1, R1, (After.bind h1).imp fun l g2 H2 x2 R2 h2 k2 => ⟨g2, R2, (After.bind h2).imp fun u g3 H3 x3 R3 h3 k3 => ?_⟩⟩⟩
  obtain ⟨w, e, q⟩ := After.of h3
  exact ⟨g3, σ, x, w, R3, (r.keep x2 k2).keep x3 k3, e, q⟩
theorem ok_bi (bi : Bi) {x : Str} {p : Pos} {id : String} (hv : biVal bi = .builtin id) (hK : X.K = c.K) (sm : SmOk c.K) (hc : X.calm = true) (hgd : X.A.guards = some []) (hu : X.A.units + 65 < cLine)
    (hg : Gl X x) (hm : X.mg x = none) (hb : bootBuiltins x = some (.builtin id)) (hn : x ≠ "__name__") (hdb : (x == ("__debug__" : Str)) = false) (ha : PA X (e :: es) (tA c W ms))
    (he : starEach (e :: es) X.env = (false, eval e X.env) :: starEach es X.env) (hpl : (backTo pos (starEach es X.env)).any (·.1) = false) :
    PE X (.Call (.Name x p) (e :: es) [] pos) (tM c W (M.bind ms fun ds => M.of (bip shownD bi ds))) := by
  have op := bi_ok (c := c) (W := W) bi hK sm hc hgd hu
  rw [hv] at op
  refine PE.weak (pe_callB op hg hm hb ha hn hdb he hpl) fun σ H Q ⟨g, R, h⟩ => ⟨g, R, (After.bind h).imp fun ds g1 H1 x1 R1 h1 vs rs => ?_⟩
  obtain ⟨d, e, q⟩ := After.of h1
  exact ⟨g1, σ, ds, d, R1, rs, e, q⟩
theorem ok_len {x : Str} {p : Pos} (hK : X.K = c.K) (hg : Gl X x) (hm : X.mg x = none) (hb : bootBuiltins x = some (.builtin "len")) (hn : x ≠ "__name__") (hdb : (x == ("__debug__" : Str)) = false) (ha : PE X e (tBo c W m))
    (he : starEach [e] X.env = (false, eval e X.env) :: starEach [] X.env) (hpl : (backTo pos (starEach [] X.env)).any (·.1) = false) :
    PE X (.Call (.Name x p) [e] [] pos) (tM c W (M.bind m fun x => M.of (bip shownD .len [x]))) := by
  refine PE.weak (pe_callB (bi_len (c := c) (W := W) hK) hg hm hb (pa_cons ha pa_nil he) hn hdb he hpl) fun σ H Q ⟨g, R, h⟩ => ⟨g, R, (After.bind h).imp fun d g1 H1 x1 R1 h1 v r => ?_⟩
  obtain ⟨w, e, q⟩ := After.of h1
  exact ⟨g1, σ, d, v, w, rfl, R1, r, e, q⟩
theorem ok_isi (T : Ty) {x y : Str} {p p3 : Pos} (hK : X.K = c.K) (hg : Gl X x) (hm : X.mg x = none) (hb : bootBuiltins x = some (.builtin "isinstance")) (hn : x ≠ "__name__") (hdb : (x == ("__debug__" : Str)) = false)
    (hg2 : Gl X y) (hm2 : X.mg y = none) (hb2 : bootBuiltins y = some (.type (tyNm T))) (hn2 : y ≠ "__name__") (hdb2 : (y == ("__debug__" : Str)) = false) (ha : PE X e (tBo c W m))
    (he : starEach [e, .Name y p3] X.env = (false, eval e X.env) :: starEach [.Name y p3] X.env) (hpl : (backTo pos (starEach [.Name y p3] X.env)).any (·.1) = false) :
    PE X (.Call (.Name x p) [e, .Name y p3] [] pos) (tM c W (M.bind m fun x => M.bind (M.of (isTy T x)) fun k => M.pure (.bl k))) := by
  refine PE.weak (pe_callB (isi_ok (c := c) T hK) hg hm hb (pa_cons ha (pa_cons (pe_bltn (v := .ty (tyNm T)) hg2 hm2 hb2 rfl hn2 hdb2) pa_nil) he) hn hdb he hpl) fun σ H Q ⟨g, R, h⟩ => ⟨g, R, (After.bind h).imp fun d g1 H1 x1 R1 h1 v r => ?_⟩
  obtain ⟨k, e, q⟩ := After.of (After.bind h1)
  exact ⟨g1, σ, d, v, k, rfl, R1, r, e, After.pure (After.app q R1 .refl rfl rfl) R1 _ (by simp [Rep])⟩
def tyIs : Ty → D → Bool
  | .str, .str _ => true
  | .list, .lst _ => true
  | _, _ => false
theorem tyV_of (hK : X.K = c.K) (R : Rel c g σ H) {T : Ty} {d : D} {v : V} (h : tyIs T d = true) (r : Rep c g.F g.m d v) : tyV X.K (tyNm T) v H := by
  cases T <;> cases d <;> simp [tyIs] at h
  · simp only [Rep] at r; subst r; rfl
  · simp only [Rep] at r
    obtain ⟨a, vs, rfl, s, _⟩ := r
    exact .inl ⟨rfl, vs, SqL.of (R.b.fh _ _ s)⟩
def mMt (mt : Mt) (f : D → Bool) (m : M D) (ms : M (List D)) : M D := M.bind m fun x => if f x then M.bind ms fun ds => M.of (mtp mt x ds) else M.bad
section
variable {name : Str} {id : String}
theorem ok_mt (mt : Mt) (T : Ty) (hK : X.K = c.K) (pa : PlainAttrs (tyNm T)) (slot : Slot (tyNm T) name id) (hty : typeOf (.builtin id) = pure (.type "method_descriptor")) (hm : MtR X id (rMt c W mt T)) (ho : PE X o (tM c W m)) (ha : PA X (e :: es) (tA c W ms))
    (hbase : attributeBase o name X.env (eval o X.env) = eval o X.env)
    (hfew : ((backTo cpos (starEach (e :: es) X.env)).all (fun x => !x.1) && (backToKw cpos (keywordEach [] X.env)).all (fun x => x.1.isSome) && decide ((e :: es).length + ([] : List Keyword).length + (if ([] : List Keyword).isEmpty then 0 else 1) < 30)) = true)
    (hline : (apos.endLine == cpos.line) = true) (hs : starEach (e :: es) X.env = (false, eval e X.env) :: starEach es X.env) (hplain : (backTo cpos (starEach es X.env)).any (·.1) = false) :
    PE X (.Call (.Attribute o name apos) (e :: es) [] cpos) (tM c W (mMt mt (tyIs T) m ms)) := by
  refine PE.weak (pe_bm pa slot hty hm ho ha hbase hfew hline hs hplain) fun σ H Q ⟨g, R, h⟩ => ⟨g, R, (After.bind h).imp fun x g1 H1 x1 R1 h1 v r => ?_⟩
  cases ht : tyIs T x with
  | false => rw [ht] at h1; exact h1.elim
  | true =>
    rw [ht] at h1
    refine ⟨tyV_of hK R1 ht r, g1, R1, (After.bind h1).imp fun ds g2 H2 x2 R2 h2 vs rs => ?_⟩
    obtain ⟨d, e, q⟩ := After.of h2
    refine ⟨g2, σ, x, ds, d, R2, r.ext x2.e, rs, ?_, e, q⟩
    cases T <;> cases x <;> simp [tyIs] at ht <;> rfl
end
/-- a piece as a text -/
def mFmt (m : M D) : M D := M.bind m fun d => match d with
  | .str x => if x.length ≤ SZ then M.pure (.str x) else M.bad
  | .int i => if i.natAbs.log2 < 1920 then M.pure (.str (intTxt i)) else M.bad
  | _ => M.bad
theorem ok_fmt (ha : PE X e (tM c W m)) : PE X (.FormattedValue e (-1) none pos) (tM c W (mFmt m)) := by
  refine PE.weak (pe_fmt ha) fun σ H Q ⟨g, R, h⟩ => ⟨g, R, (After.bind h).imp fun d g1 H1 x1 R1 h1 v r => ?_⟩
  cases d with
  | str x =>
    simp only [Rep] at r; subst r
    by_cases z : x.length ≤ SZ
    · simp only [if_pos z] at h1
      exact .inl ⟨_, rfl, by rw [toStr_len, sizeLine_eq]; exact z, After.pure h1 R1 _ (by simp [Rep])⟩
    · simp only [if_neg z] at h1; exact h1.elim
  | int i =>
    simp only [Rep] at r; subst r
    by_cases z : i.natAbs.log2 < 1920
    · simp only [if_pos z] at h1
      refine .inr ⟨i, rfl, z, ?_⟩
      rw [str_int]
      exact After.pure h1 R1 _ (by simp [Rep])
    · simp only [if_neg z] at h1; exact h1.elim
  | _ => exact h1.elim
/-- texts joined one behind the other -/
def mJoin : List (M D) → Txt → M D
  | [], acc => M.pure (.str acc)
  | m :: ms, acc => M.bind m fun d => match d with
    | .str x => if acc.length + x.length ≤ SZ then mJoin ms (acc ++ x) else M.bad
    | _ => M.bad
inductive PM (c : Kx) (W : WX) (X : Cx) : List Expr → List (M D) → Prop where
  | nil : PM c W X [] []
  | cons {e : Expr} {m : M D} {es : List Expr} {ms : List (M D)} (h : PE X e (tM c W m)) (r : PM c W X es ms) : PM c W X (e :: es) (m :: ms)
theorem PM.pj {es : List Expr} {ms : List (M D)} (h : PM c W X es ms) : PJ X es (ms.map (tM c W)) := by
  induction h with
  | nil => exact .nil
  | cons h r ih => exact .cons h ih
theorem pm_read : ∀ (ms : List (M D)) (acc : Txt) (σ : St) (H : Hp) (Q : VK) (g : Gs), Rel c g σ H → After c W g σ (mJoin ms acc g.ρ g.S) (fun d g' H' => ∀ v, Rep c g'.F g'.m d v → Q v H') → tJs (ms.map (tM c W)) (toStr acc) σ H fun out H1 => Q (.str out) H1
  | [], acc, σ, H, Q, g, R, h => After.pure h R _ (by simp [Rep])
  | m :: ms, acc, σ, H, Q, g, R, h => ⟨g, R, (After.bind h).imp fun d g1 H1 x1 R1 h1 v r => by
    cases d with
    | str x =>
      simp only [Rep] at r; subst r
      by_cases z : acc.length + x.length ≤ SZ
      · simp only [if_pos z] at h1
        refine ⟨_, rfl, by rw [toStr_app, toStr_len, sizeLine_eq, List.length_append]; exact z, ?_⟩
        rw [toStr_app]
        exact pm_read ms (acc ++ x) σ H1 Q g1 R1 h1
      · simp only [if_neg z] at h1; exact h1.elim
    | _ => exact h1.elim⟩
theorem ok_joined {v1 v2 : Expr} {ms : List (M D)} (h : PM c W X (v1 :: v2 :: rest) ms) : PE X (.JoinedStr (v1 :: v2 :: rest) pos) (tM c W (mJoin ms [])) :=
  PE.weak (pe_joined h.pj) fun σ H Q ⟨g, R, h⟩ => pm_read ms [] σ H Q g R h
end
end Ev
set_option Elab.async false
set_option linter.all false
set_option autoImplicit false
set_option maxRecDepth 100000
namespace Ev
open PySem PySem.Spec PyProof.Rows L2
/-- a def keeps a promise where no repr is under way; an exception may leave it -/
structure FnG (P : PySem.Program) (w : World) (K : PySem.W.Frag) (mg : Str → Option Value) (base : Heap) (k : Nat) (f : Addr) (fd : FuncData) (ps : List Str) (sp : Sp) : Prop where
  len : ∀ vs H Q E, sp vs H Q E → vs.length = ps.length
  run : ∀ (A : Around) (outer : List PySem.Env) (s : Shared) (H : Hp) (args : Args) (us : List Value) (vs : List V) (Q : VK) (E : XK), Room (2 * k) A → A.guards = some [] → Env0 P w K mg base A outer s H → BindsTo s fd args (ps.zip us) → Vals vs us → sp vs H Q E →
    codeAny (model P w) A (.call (.ref f) args) (L2.CR (L2.CX P w) outer P w H s Q E) s
/-- by its body -/
theorem fnG_of {P : PySem.Program} {w : World} {K : PySem.W.Frag} {mg : Str → Option Value} {base : Heap} {x qual : Str} {params : Arguments} {body : List Stmt} {scope : Scope} {dvs : List V} {kws : List (Str × V)} {f : Addr} {fd : FuncData} {N ps : List Str} {k : Nat} {sp : Sp}
    (F : FunD K x qual params body scope dvs kws f fd) (S : FnScope N ps scope) (len : ∀ vs H Q E, sp vs H Q E → vs.length = ps.length)
    (hbody : ∀ (cdv : Value) (A : Around) (outer : List PySem.Env) (s : Shared) (H : Hp) (vs : List V) (Q : VK) (E : XK), Room (2 * k + 1) (A.deeper (envOfC qual scope s.heap.objs.size f cdv)) → A.guards = some [] → sp vs H Q E →
      ∃ t, PSs (cxOf (L2.CX P w) P w K mg base N qual scope f cdv A outer s H E) body t ∧ t { nx := fun _ H' => Q .non H', rt := Q } (start N vs) H) : FnG P w K mg base (k + 1) f fd ps sp := by
  obtain ⟨oc, od, dV, kV, doc, pm, an, cdv, ct, osl, e0, lk, hcd, _, _⟩ := F.ex
  subst e0
  refine ⟨len, fun A outer s H args us vs Q E hroom hguard en hbind rv hsp => ?_⟩
  have hlen := len _ _ _ _ hsp
  have hK : K.In s.heap := en.mod.kin.keeps (fun b o z => (en.bs b o z).1)
  have hlim : s.heap.NoLimit := en.mod.nolimit.keeps (fun b o z => (en.bs b o z).1)
  have kinds : ∀ y ∈ ps.zip us, scope.names.lookup y.1 = some .local ∨ (scope.names.lookup y.1 = some .cell ∧ ((cellsFrom (s.heap.objs.size + 1) scope.names []).lookup y.1).isSome = true) := by
    intro y hy
    cases S.par y.1 (List.of_mem_zip hy).1 with
    | inl q => exact Or.inl q
    | inr q => exact Or.inr ⟨q, PySem.W.cellsFrom_some _ _ _ (Or.inl q)⟩
  refine codeAny_call_function hroom.depth (hK _ _ lk) rfl S.co S.gen rfl (PySem.W.codeRec_of hK hcd) (hbind _ _ _ _ ?_)
  refine wpAny_newFunctionEnv_cells S.kind kinds (fun env he s1 ic => ?_)
  subst he
  refine ⟨hlim.keeps ic.toInCall.keep, codeAny_func ?_⟩
  obtain ⟨t, ht, hq⟩ := hbody cdv A outer s H vs Q E ((hroom.mono (show 2 * k + 1 + 1 ≤ 2 * (k + 1) by omega)).deeper _) hguard hsp
  have hI := inv_start (CX := L2.CX P w) (P := P) (w := w) (K := K) (mg := mg) (base := base) (E := E) (H := H) (qual := qual) S hroom.hd en hlen rv ic
  refine wpAny_mono (ht.run [] s1 (start N vs) H _ hI hq) (fun fl s' hs => ?_) (fun e s' hs => hs)
  cases fl with
  | ret u => obtain ⟨v, σ', H', J, rv', q⟩ := hs; exact ⟨v, H', J.os, J.bare, J.base, J.hok, rv', q⟩
  | next => obtain ⟨σ', H', J, q⟩ := hs; exact ⟨V.non, H', J.os, J.bare, J.base, J.hok, rfl, q⟩
  | brk => obtain ⟨_, _, _, q⟩ := hs; exact q.elim
  | cont => obtain ⟨_, _, _, q⟩ := hs; exact q.elim
section
variable {X : Cx} {k : Nat} {f : Addr} {fd : FuncData} {ps ks : List Str} {sp : Sp} {x : Str} {p pos : Pos} {e : Expr} {es : List Expr} {t tk : TA} {W : WX}
/-- f(e, ..), every parameter given by place; what is raised is wished for at the slots -/
def tCallG (sp : Sp) (W : WX) (t : TA) : TE := fun σ H Q => t σ H fun vs H1 => sp vs H1 Q (fun cls d H' => W cls d σ H')
theorem passW (tk : Takes X W) {pins : List (Addr × Obj)} {σ : L2.St} {H : Hp} {s s' : Shared} {e : Value} (I : Inv X pins σ H s) (h : L2.CX X.prog X.w X.stack H s (fun cls d H' => W cls d σ H') e s') : X.xe e s' :=
  tk e s' (XE.of_call I (fun cls d H' z => z) h)
theorem run_G {pins : List (Addr × Obj)} {σ : L2.St} {H : Hp} {s : Shared} {Q : VK} {us ws : List Value} {vs : List V} {kw : List (Str × Value)} (F : FnG X.prog X.w X.K X.mg X.base k f fd ps sp) (hr : Room (2 * k) X.A) (hg : X.A.guards = some []) (tk : Takes X W) (I : Inv X pins σ H s)
    (hb : BindsTo s fd ⟨us, kw⟩ (ps.zip ws)) (r : Vals vs ws) (h : sp vs H Q (fun cls d H' => W cls d σ H')) : wpAny (model X.prog X.w) X.A (call (.ref f) us kw) (EP X pins σ Q) X.xe s := by
  refine wpAny_call (codeAny_mono (F.run X.A X.stack s H ⟨us, kw⟩ ws vs Q _ hr hg I.env0 hb r h) fun r s' hq => ?_)
  cases r with
  | error e => exact passW tk I hq
  | ok fl =>
    cases fl with
    | ret u => exact I.after hq
    | next => exact hq.elim
    | brk => exact hq.elim
    | cont => exact hq.elim
theorem pe_callG (F : FnG X.prog X.w X.K X.mg X.base k f fd ps sp) (hr : Room (2 * k) X.A) (hgd : X.A.guards = some []) (tk : Takes X W) (hg : Gl X x) (hm : X.mg x = some (.ref f)) (hk : PySem.W.keepIn X.K (.ref f) = true) (hb : Binds X.K fd ps [])
    (ha : PA X (e :: es) t) (hdb : (x == ("__debug__" : Str)) = false) (he : starEach (e :: es) X.env = (false, eval e X.env) :: starEach es X.env) (hpl : (backTo pos (starEach es X.env)).any (·.1) = false) : PE X (.Call (.Name x p) (e :: es) [] pos) (tCallG sp W t) := by
  refine ⟨fun pins s σ H Q I h => wpAny_Call_Name_kw (ld_glob I hg hm ?_ hdb)⟩
  refine PySem.W.callWith_K (h₀ := X.base) I.ok.mod.kin hk (thn (ha.run pos pins s σ H _ I h) fun us s1 ⟨vs, H1, I1, r, q⟩ => ⟨I1.kIn, ?_⟩) he hpl
  have hl : us.length = ps.length := by rw [← r.length]; exact F.len _ _ _ _ q
  have b := hb s1 us I1.kIn (by rw [List.append_nil]; exact hl)
  rw [List.append_nil] at b
  exact run_G F hr hgd tk I1 b r q
end
/-- what the meaning of a call says -/
def spF (c : Kx) (call : Call) (f np : Nat) : Sp := fun vs H Q E => ∃ (g : Gs) (ds : List D), g.ρ = [] ∧ RelB c g.G g.F g.m g.S H ∧ RepL c g.F g.m ds vs ∧ ds.length = np ∧
  match call f ds g.S with
  | .ok d S' => ∀ v H' F' m', RelB c g.G F' m' S' H' → Ext g.F g.m F' m' → Rep c F' m' d v → Q v H'
  | .okl xs S' => ∀ a vs H' F' m', RelB c g.G F' m' S' H' → Ext g.F g.m F' m' → H' a = some (.lst vs) → RepL c F' m' xs vs → F' a = none → g.G a = none → a ∉ m' → Q (.ref a) H'
  | .exc x S' => ∀ cls dd H' F' m', RelB c g.G F' m' S' H' → Ext g.F g.m F' m' → ExnR c x cls dd H' → E cls dd H'
  | .bad => False
open Classical in
/-- what a caller's slots hold by themselves is protected in a call -/
noncomputable def protect (g : Gs) (σ : St) (H : Hp) : Hp := fun a => if ∃ (i : Nat) (xs : List D), g.ρ[i]? = some (some (.ow xs)) ∧ σ[i]? = some (some (.ref a)) then H a else g.G a
theorem protect_own {g : Gs} {σ : St} {H : Hp} {a : Addr} (h : ∃ (i : Nat) (xs : List D), g.ρ[i]? = some (some (.ow xs)) ∧ σ[i]? = some (some (.ref a))) : protect g σ H a = H a := by unfold protect; rw [if_pos h]
theorem protect_else {g : Gs} {σ : St} {H : Hp} {a : Addr} (h : ¬ ∃ (i : Nat) (xs : List D), g.ρ[i]? = some (some (.ow xs)) ∧ σ[i]? = some (some (.ref a))) : protect g σ H a = g.G a := by unfold protect; rw [if_neg h]
section
variable {c : Kx} {g : Gs} {σ : St} {H : Hp}
theorem Rel.toCall (R : Rel c g σ H) : RelB c (protect g σ H) g.F g.m g.S H := by
  refine ⟨R.b.fh, fun a o h => ?_, fun a o h => ?_, R.b.ml, R.b.md, fun n x a h1 h2 => ?_⟩
  · by_cases z : ∃ (i : Nat) (xs : List D), g.ρ[i]? = some (some (.ow xs)) ∧ σ[i]? = some (some (.ref a))
    · rw [protect_own z] at h; exact h
    · rw [protect_else z] at h; exact R.b.gh a o h
  · by_cases z : ∃ (i : Nat) (xs : List D), g.ρ[i]? = some (some (.ow xs)) ∧ σ[i]? = some (some (.ref a))
    · obtain ⟨i, xs, e1, e2⟩ := z
      obtain ⟨vs, _, _, f, _⟩ := R.ownAt e1 e2
      rw [f] at h; cases h
    · rw [protect_else z]; exact R.b.fg a o h
  · obtain ⟨q1, q2, q3⟩ := R.b.cl n x a h1 h2
    refine ⟨q1, ?_, q3⟩
    rw [protect_else]
    · exact q2
    · rintro ⟨i, xs, e1, e2⟩
      obtain ⟨vs, _, _, _, _, hm⟩ := R.ownAt e1 e2
      exact hm (List.mem_of_getElem? h2)
/-- behind the call -/
theorem Rel.ofCall (R : Rel c g σ H) {F' : Hp} {m' : List Addr} {S' : Sto} {H' : Hp} (B : RelB c (protect g σ H) F' m' S' H') (x : Ext g.F g.m F' m') :
    Rel c { g with F := F', m := m', S := S' } σ H' ∧ GExt g { g with F := F', m := m', S := S' } := by
  have own : ∀ {i : Nat} {xs : List D} {a : Addr}, g.ρ[i]? = some (some (.ow xs)) → σ[i]? = some (some (.ref a)) → ∃ vs, H a = some (.lst vs) ∧ protect g σ H a = some (.lst vs) ∧ RepL c g.F g.m xs vs ∧ g.G a = none := fun {i xs a} e1 e2 => by
    obtain ⟨vs, h1, r, _, h2, _⟩ := R.ownAt e1 e2
    exact ⟨vs, h1, by rw [protect_own ⟨i, xs, e1, e2⟩]; exact h1, r, h2⟩
  refine ⟨⟨⟨B.fh, fun a o h => ?_, fun a o h => ?_, B.ml, B.md, fun n y a h1 h2 => ?_⟩, R.ln, fun i d h => ?_, fun i xs h => ?_, R.sd, R.sx⟩, x, rfl⟩
  · by_cases z : ∃ (i : Nat) (xs : List D), g.ρ[i]? = some (some (.ow xs)) ∧ σ[i]? = some (some (.ref a))
    · obtain ⟨i, xs, e1, e2⟩ := z
      obtain ⟨vs, _, _, _, q⟩ := own e1 e2
      have h : g.G a = some o := h
      rw [q] at h; cases h
    · exact B.gh a o (by rw [protect_else z]; exact h)
  · have q := B.fg a o h
    by_cases z : ∃ (i : Nat) (xs : List D), g.ρ[i]? = some (some (.ow xs)) ∧ σ[i]? = some (some (.ref a))
    · obtain ⟨i, xs, e1, e2⟩ := z
      obtain ⟨vs, _, _, _, q⟩ := own e1 e2
      exact q
    · rw [protect_else z] at q; exact q
  · obtain ⟨q1, q2, q3⟩ := B.cl n y a h1 h2
    refine ⟨q1, ?_, q3⟩
    by_cases z : ∃ (i : Nat) (xs : List D), g.ρ[i]? = some (some (.ow xs)) ∧ σ[i]? = some (some (.ref a))
    · obtain ⟨i, xs, e1, e2⟩ := z
      obtain ⟨vs, _, _, _, q⟩ := own e1 e2
      exact .inl q
    · rw [protect_else z] at q2; exact q2
  · obtain ⟨v, e1, r⟩ := R.sf i d h
    exact ⟨v, e1, r.ext x⟩
  · obtain ⟨a, vs, e1, h1, r, h2, h3, h4⟩ := R.so i xs h
    obtain ⟨vs', q1, q2, _, _⟩ := own h e1
    rw [h1] at q1; cases q1
    refine ⟨a, vs, e1, B.gh a _ q2, r.ext x, ?_, h3, fun hm => ?_⟩
    · show F' a = none
      cases q : F' a with
      | none => rfl
      | some o => have z := B.fg a o q; rw [q2] at z; cases z
    · obtain ⟨n, hn, e⟩ := List.getElem_of_mem hm
      have hs : n < S'.length := by rw [← B.ml]; exact hn
      obtain ⟨_, q, _⟩ := B.cl n S'[n] a (by simp [hs]) (by rw [List.getElem?_eq_getElem hn, e])
      exact q.no q2 fun _ _ h => nomatch h
end
section
variable {X : Cx} {c : Kx} {W : WX} {k : Nat} {f : Addr} {fd : FuncData} {ps : List Str} {x : Str} {p pos : Pos} {e : Expr} {es : List Expr} {ms : M (List D)} {P : Prm} {n np : Nat}
/-- what a call hands out is nobody's -/
theorem looseCall {g : Gs} {σ : St} {H H' : Hp} {F' : Hp} {m' : List Addr} {S' : Sto} {xs : List D} {a : Addr} {vs : List V} (R : Rel c g σ H) (h1 : H' a = some (.lst vs)) (r : RepL c F' m' xs vs) (h2 : F' a = none) (h3 : protect g σ H a = none) (h4 : a ∉ m') :
    Loose c { g with F := F', m := m', S := S' } σ H' xs a := by
  have hn : ∀ (i : Nat) (ys : List D), g.ρ[i]? = some (some (.ow ys)) → σ[i]? ≠ some (some (.ref a)) := fun i ys e1 e2 => by
    obtain ⟨us, q, _⟩ := R.ownAt e1 e2
    rw [protect_own ⟨i, ys, e1, e2⟩, q] at h3
    cases h3
  refine ⟨⟨vs, h1, r⟩, h2, ?_, h4, hn⟩
  show g.G a = none
  rw [protect_else (fun ⟨i, ys, e1, e2⟩ => hn i ys e1 e2)] at h3
  exact h3
/-- the meaning of a call is what the promise asks -/
theorem call_read {g : Gs} {σ : St} {H : Hp} {Q : VK} {ds : List D} {vs : List V} (R : Rel c g σ H) (rs : RepL c g.F g.m ds vs) (hl : ds.length = np) (h : After c W g σ (mCall P n ds g.ρ g.S) fun d g' H' => ∀ v, Rep c g'.F g'.m d v → Q v H') :
    spF c P.call n np vs H Q (fun cls d H' => W cls d σ H') := by
  refine ⟨{ g with G := protect g σ H, ρ := [] }, ds, rfl, R.toCall, rs, hl, ?_⟩
  unfold mCall at h
  show (match P.call n ds g.S with | .ok d S' => _ | .okl xs S' => _ | .exc x S' => _ | .bad => False)
  cases eq : P.call n ds g.S with
  | bad => rw [eq] at h; exact h
  | ok d S' =>
    rw [eq] at h
    intro v H' F' m' B x r
    obtain ⟨R', x'⟩ := R.ofCall B x
    exact After.app h R' x' rfl rfl v r
  | okl xs S' =>
    rw [eq] at h
    intro a vs H' F' m' B x h1 r h2 h3 h4
    obtain ⟨R', x'⟩ := R.ofCall B x
    obtain ⟨F'', R'', x'', r''⟩ := R'.freeze (looseCall R (S' := S') h1 r h2 h3 h4)
    exact After.app h R'' (x'.trans x'') rfl rfl _ r''
  | exc y S' =>
    rw [eq] at h
    intro cls dd H' F' m' B x r
    obtain ⟨R', x'⟩ := R.ofCall B x
    exact h { g with F := F', m := m', S := S' } H' cls dd rfl rfl x' R' r
end
end Ev
set_option Elab.async false
set_option linter.all false
set_option autoImplicit false
set_option maxRecDepth 100000
namespace Ev
open PySem PySem.Spec PyProof.Rows L2
section
variable (c : Kx) (W : WX)
/-- as After, where the slots may have changed -/
def After2 {α : Type} (g : Gs) (r : Res α) (ok : α → Gs → St → Hp → Prop) : Prop :=
  match r with
  | .ok a ρ S => ∀ g' σ' H', g'.ρ = ρ → g'.S = S → GExt g g' → Rel c g' σ' H' → ok a g' σ' H'
  | .exc x ρ S => ∀ g' σ' H' cls d, g'.ρ = ρ → g'.S = S → GExt g g' → Rel c g' σ' H' → ExnR c x cls d H' → W cls d σ' H'
  | .bad => False
def flowOk (D : Ends) : Flow → Gs → St → Hp → Prop
  | .nx, _, σ, H => D.nx σ H
  | .br, _, σ, H => D.bk σ H
  | .ct, _, σ, H => D.ct σ H
  | .rt d, g, _, H => ∀ v, Rep c g.F g.m d v → D.rt v H
  | .rl xs, g, σ, _ => ∀ a H'', Rel c g σ H'' → Loose c g σ H'' xs a → D.rt (.ref a) H''
/-- the reading of a statement with the meaning m -/
def tS (m : M Flow) : TS := fun D σ H => ∃ g, Rel c g σ H ∧ After2 c W g (m g.ρ g.S) (flowOk c D)
end
section
variable {c : Kx} {W : WX} {α β : Type} {g g1 : Gs} {σ : St} {H : Hp} {r : Res α} {ok ok' : α → Gs → St → Hp → Prop}
theorem After2.shift (h : After2 c W g r ok) (e : GExt g g1) : After2 c W g1 r ok := by
  cases r with
  | ok a ρ S => exact fun g' σ' H' e1 e2 e3 R => h g' σ' H' e1 e2 (e.trans e3) R
  | exc x ρ S => exact fun g' σ' H' cls d e1 e2 e3 R => h g' σ' H' cls d e1 e2 (e.trans e3) R
  | bad => exact h
theorem After2.imp (h : After2 c W g r ok) (f : ∀ a g' σ' H', GExt g g' → Rel c g' σ' H' → ok a g' σ' H' → ok' a g' σ' H') : After2 c W g r ok' := by
  cases r with
  | ok a ρ S => exact fun g' σ' H' e1 e2 e3 R => f a g' σ' H' e3 R (h g' σ' H' e1 e2 e3 R)
  | exc x ρ S => exact h
  | bad => exact h
theorem After2.bind {m : M α} {f : α → M β} {ok : β → Gs → St → Hp → Prop} (h : After2 c W g (M.bind m f g.ρ g.S) ok) : After2 c W g (m g.ρ g.S) fun a g1 _ _ => After2 c W g1 (f a g1.ρ g1.S) ok := by
  unfold M.bind Res.bind at h
  cases e : m g.ρ g.S with
  | ok a ρ S =>
    rw [e] at h
    intro g' σ' H' e1 e2 e3 R
    have h' : After2 c W g (f a ρ S) ok := h
    rw [e1, e2]
    exact h'.shift e3
  | exc x ρ S => rw [e] at h; exact h
  | bad => rw [e] at h; exact h
/-- an expression ahead -/
theorem After2.one (h : After2 c W g r ok) (σ : St) : After c W g σ r fun a g' H' => ok a g' σ H' := by
  cases r with
  | ok a ρ S => exact fun g' H' e1 e2 e3 R => h g' σ H' e1 e2 e3 R
  | exc x ρ S => exact fun g' H' cls d e1 e2 e3 R => h g' σ H' cls d e1 e2 e3 R
  | bad => exact h
theorem After2.pure {a : α} (h : After2 c W g (M.pure a g.ρ g.S) ok) (R : Rel c g σ H) : ok a g σ H := h g σ H rfl rfl .refl R
theorem After2.app {a : α} {ρ : Env} {S : Sto} {g' : Gs} {H' : Hp} (h : After2 c W g (.ok a ρ S) ok) (R : Rel c g' σ H') (x : GExt g g') (e1 : g'.ρ = ρ) (e2 : g'.S = S) : ok a g' σ H' := h g' σ H' e1 e2 x R
end
section
variable {X : Cx} {st : Stmt} {sts : List Stmt}
theorem PS.weak {t t' : TS} (h : PS X st t) (w : ∀ D σ H, t' D σ H → t D σ H) : PS X st t' := ⟨fun pins s σ H D I q => h.run pins s σ H D I (w D σ H q)⟩
theorem PSs.weak {t t' : TS} (h : PSs X sts t) (w : ∀ D σ H, t' D σ H → t D σ H) : PSs X sts t' := ⟨fun pins s σ H D I q => h.run pins s σ H D I (w D σ H q)⟩
end
def sNx : M Flow := M.pure .nx
def sSeq (a b : M Flow) : M Flow := M.bind a fun f => match f with | .nx => b | f => M.pure f
def sEx (m : M D) : M Flow := M.bind m fun _ => sNx
def sRet (m : M D) : M Flow := M.bind m fun d => M.pure (.rt d)
/-- a list that is nobody's is handed out -/
def sRetL (m : M (List D)) : M Flow := M.bind m fun xs => M.pure (.rl xs)
def sIf (t : M Bool) (a b : M Flow) : M Flow := M.bind t fun k => if k then a else b
def sAsg (m : M D) (f : D → M Unit) : M Flow := M.bind m fun d => M.bind (f d) fun _ => sNx
def sOwn (i : Nat) (m : M (List D)) : M Flow := M.bind m fun xs => M.bind (mOwn i xs) fun _ => sNx
section
variable {X : Cx} {c : Kx} {W : WX} {st : Stmt} {rest : List Stmt} {a b : M Flow} {e : Expr} {m : M D} {pos : Pos}
theorem os_nil : PSs X [] (tS c W sNx) := PSs.weak pss_nil fun D σ H ⟨g, R, h⟩ => After2.pure h R
theorem os_seq (h1 : PS X st (tS c W a)) (h2 : PSs X rest (tS c W b)) : PSs X (st :: rest) (tS c W (sSeq a b)) := by
  refine PSs.weak (pss_cons h1 h2) fun D σ H ⟨g, R, h⟩ => ⟨g, R, (After2.bind h).imp fun f g1 σ1 H1 x1 R1 q => ?_⟩
  cases f with
  | nx => exact ⟨g1, R1, q⟩
  | br => exact After2.pure (W := W) q R1
  | ct => exact After2.pure (W := W) q R1
  | rt d => exact After2.pure (W := W) q R1
  | rl d => exact After2.pure (W := W) q R1
theorem os_one (h1 : PS X st (tS c W a)) : PSs X [st] (tS c W a) := PSs.weak (pss_one h1) fun D σ H q => q
theorem os_ex (he : PE X e (tM c W m)) (hs : swapsWith e none pos.line X.env = pure false) : PS X (.Expr e pos) (tS c W (sEx m)) :=
  PS.weak (ps_expr he hs) fun D σ H ⟨g, R, h⟩ => ⟨g, R, ((After2.bind h).one σ).imp fun d g1 H1 x1 R1 q v _ => After2.pure q R1⟩
theorem os_ret (he : PE X e (tM c W m)) : PS X (.Return (some e) pos) (tS c W (sRet m)) :=
  PS.weak (ps_ret he) fun D σ H ⟨g, R, h⟩ => ⟨g, R, ((After2.bind h).one σ).imp fun d g1 H1 x1 R1 q v r => After2.pure q R1 v r⟩
theorem os_if {t : Expr} {sa sb : List Stmt} {mt : M Bool} (ht : PT X t (tB c W mt)) (ha : PSs X sa (tS c W a)) (hb : PSs X sb (tS c W b)) : PS X (.If t sa sb pos) (tS c W (sIf mt a b)) := by
  refine PS.weak (ps_if ht ha hb) fun D σ H ⟨g, R, h⟩ => ⟨g, R, ((After2.bind h).one σ).imp fun k g1 H1 x1 R1 q => ?_⟩
  cases k with
  | true => exact ⟨g1, R1, q⟩
  | false => exact ⟨g1, R1, q⟩
end
section
variable (c : Kx) (W : WX)
def tG (Z : St → St → Prop) (f : D → M Unit) : TG := fun v σ H Q => ∃ g d, Rel c g σ H ∧ Rep c g.F g.m d v ∧ After2 c W g (f d g.ρ g.S) fun _ _ σ' H' => Z σ σ' → Q σ' H'
def tGs (Z : St → St → Prop) (f : List D → M Unit) : TGs := fun vs σ H Q => ∃ g ds, Rel c g σ H ∧ RepL c g.F g.m ds vs ∧ After2 c W g (f ds g.ρ g.S) fun _ _ σ' H' => Z σ σ' → Q σ' H'
end
/-- what a target does to the slots -/
structure Zr (Z : St → St → Prop) : Prop where
  refl : ∀ σ, Z σ σ
  trans : ∀ a b d, Z a b → Z b d → Z a d
def zAny : St → St → Prop := fun _ _ => True
theorem zr_any : Zr zAny := ⟨fun _ => trivial, fun _ _ _ _ _ => trivial⟩
/-- no more things -/
def gEnd (ds : List D) : M Unit := match ds with | [] => M.pure () | _ :: _ => M.bad
def gCon (f : D → M Unit) (k : List D → M Unit) (ds : List D) : M Unit := match ds with | [] => M.bad | d :: r => M.bind (f d) fun _ => k r
/-- a, b, .. of a tuple or a list -/
def gUnp (n : Nat) (k : List D → M Unit) (d : D) : M Unit := M.bind (mLst d) fun ds => if ds.length = n then k ds else M.bad
section
variable {X : Cx} {c : Kx} {W : WX} {pos : Pos} {e tg : Expr} {es : List Expr} {m : M D} {f : D → M Unit} {k : List D → M Unit} {Z : St → St → Prop}
theorem PG.weak {t t' : TG} (h : PG X tg t) (w : ∀ v σ H Q, t' v σ H Q → t v σ H Q) : PG X tg t' := ⟨fun pins s σ H v u Q I r q => h.run pins s σ H v u Q I r (w v σ H Q q)⟩
theorem PGs.weak {t t' : TGs} (h : PGs X es t) (w : ∀ v σ H Q, t' v σ H Q → t v σ H Q) : PGs X es t' := ⟨fun pins s σ H v u Q I r q => h.run pins s σ H v u Q I r (w v σ H Q q)⟩
theorem og_name {i : Nat} {x : Str} (hN : X.N.Nodup) (hi : X.N[i]? = some x) (hx : Loc X.env.scope x) (hf : X.fn x = true ∨ X.env.scope.names.lookup x = some .local) (hz : ∀ σ v, Z σ (σ.set i (some v))) : PG X (.Name x pos) (tG c W Z (mSet i)) := by
  refine PG.weak (pg_name hN hi hx hf) fun v σ H Q ⟨g, d, R, r, h⟩ => ?_
  unfold mSet at h
  by_cases z : i < g.ρ.length
  · rw [if_pos z] at h
    exact After2.app h (R.set r) ⟨.refl, rfl⟩ rfl rfl (hz _ _)
  · rw [if_neg z] at h; exact h.elim
theorem ogs_nil (zr : Zr Z) : PGs X [] (tGs c W Z gEnd) := by
  refine PGs.weak pgs_nil fun vs σ H Q ⟨g, ds, R, r, h⟩ => ?_
  cases ds with
  | nil => simp only [RepL] at r; exact ⟨r, After2.pure h R (zr.refl _)⟩
  | cons d ds => exact h.elim
theorem ogs_cons (zr : Zr Z) (h1 : PG X e (tG c W Z f)) (h2 : PGs X es (tGs c W Z k)) (hs : (assignEach (e :: es) X.env).map (·.2) = assign e X.env :: (assignEach es X.env).map (·.2)) : PGs X (e :: es) (tGs c W Z (gCon f k)) := by
  refine PGs.weak (pgs_cons h1 h2 hs) fun vs σ H Q ⟨g, ds, R, r, h⟩ => ?_
  cases ds with
  | nil => exact h.elim
  | cons d ds =>
    simp only [RepL] at r
    obtain ⟨v, vr, rfl, r1, r2⟩ := r
    exact ⟨v, vr, rfl, g, d, R, r1, (After2.bind h).imp fun _ g1 σ1 H1 x1 R1 q z1 => ⟨g1, ds, R1, r2.ext x1.e, q.imp fun _ _ _ _ _ _ q z2 => q (zr.trans _ _ _ z1 z2)⟩⟩
theorem og_unp {k' n : Nat} (hK : X.K = c.K) (hc : X.calm = true) (h : PGs X es (tGs c W Z k)) (hn : (assignEach es X.env).length = n) (hst : (assignEach es X.env).findIdx? (·.1) = none) : PG X (.Tuple es k' pos) (tG c W Z (gUnp n k)) := by
  have p1 := pg_tup (k := k') (pos := pos) hc h hn hst
  have p2 := pg_unl (k := k') (pos := pos) hc h hn hst
  refine ⟨fun pins s σ H v u Q I r ⟨g, d, R, rr, hh⟩ => ?_⟩
  have h1 := After2.bind hh
  unfold mLst at h1
  cases d with
  | tup ds =>
    have h2 := After2.pure h1 R
    simp only [Rep] at rr
    obtain ⟨a, vs, rfl, hq, rs⟩ := rr
    by_cases z : ds.length = n
    · rw [if_pos z] at h2
      exact p1.run pins s σ H _ u Q I r ⟨a, vs, rfl, by rw [hK]; exact sqT_of R.b.fh hq, by rw [repL_length rs, z], g, ds, R, rs, h2⟩
    · rw [if_neg z] at h2; exact h2.elim
  | lst ds =>
    have h2 := After2.pure h1 R
    simp only [Rep] at rr
    obtain ⟨a, vs, rfl, hq, rs⟩ := rr
    by_cases z : ds.length = n
    · rw [if_pos z] at h2
      exact p2.run pins s σ H _ u Q I r ⟨a, vs, rfl, .of (R.b.fh _ _ hq), by rw [repL_length rs, z], g, ds, R, rs, h2⟩
    · rw [if_neg z] at h2; exact h2.elim
  | non => exact h1.elim
  | bl b => exact h1.elim
  | int b => exact h1.elim
  | str b => exact h1.elim
  | dic b => exact h1.elim
  | ref b => exact h1.elim
  | scr b => exact h1.elim
theorem os_asg (he : PE X e (tM c W m)) (hg : PG X tg (tG c W zAny f)) (hs : swapsWithSole [tg] e pos.line X.env = pure false) (hw : swappedStores [tg] e X.env = pure none)
    (h1 : (assignEach [tg] X.env).map (·.2) = [assign tg X.env]) : PS X (.Assign [tg] e pos) (tS c W (sAsg m f)) := by
  refine PS.weak (ps_asg he hg hs hw h1) fun D σ H ⟨g, R, h⟩ => ⟨g, R, ((After2.bind h).one σ).imp fun d g1 H1 x1 R1 q v r => ⟨g1, d, R1, r, (After2.bind q).imp fun _ g2 σ2 H2 x2 R2 q _ => ?_⟩⟩
  exact After2.pure q R2
end
end Ev
set_option Elab.async false
set_option linter.all false
set_option autoImplicit false
set_option maxRecDepth 100000
namespace Ev
open PySem PySem.Spec PyProof.Rows L2
section
variable {X : Cx} {c : Kx} {W : WX} {pos pos' : Pos} {e : Expr} {m : M D} {ms : M (List D)}
/-- x.append(e) -/
def mOwnHere (i : Nat) : M Unit := fun ρ S => match ρ[i]? with | some (some (.ow _)) => .ok () ρ S | _ => .bad
def sApp (i : Nat) (m : M D) : M Flow := M.bind (mOwnHere i) fun _ => M.bind m fun d => M.bind (mApp i d) fun _ => sNx
end
end Ev
set_option Elab.async false
set_option linter.all false
set_option autoImplicit false
set_option maxRecDepth 100000
namespace Ev
open PySem PySem.Spec PyProof.Rows L2
/-- an iterator tells the things ds, one by one -/
def ItR (c : Kx) (g0 : Gs) (J : It) (ds : List D) : Prop := ∀ g σ H, Ext g0.F g0.m g.F g.m → Rel c g σ H →
  (∀ i d, ds[i]? = some d → J.go i H ∧ ∀ x H', J.yld i H x H' → ∃ F', Rel c { g with F := F' } σ H' ∧ Ext g.F g.m F' g.m ∧ Rep c F' g.m d x) ∧ (∀ i, ds.length ≤ i → J.stop i H)
def tI (c : Kx) (W : WX) (m : M (List D)) : TI := fun σ H R => ∃ g, Rel c g σ H ∧ After c W g σ (m g.ρ g.S) fun ds g' H' => ∀ J, ItR c g' J ds → R J H'
section
variable {X : Cx} {c : Kx} {W : WX} {e tg : Expr} {m : M D} {ms : M (List D)} {pos : Pos}
theorem PI.weak {w w' : TI} (h : PI X tg e w) (k : ∀ σ H R, w' σ H R → w σ H R) : PI X tg e w' := ⟨fun pins s σ H R I q => h.run pins s σ H R I (k σ H R q)⟩
theorem repL_at {F : Hp} {m : List Addr} {d : D} : ∀ {ds : List D} {vs : List V} {i : Nat}, RepL c F m ds vs → ds[i]? = some d → ∃ v, vs[i]? = some v ∧ Rep c F m d v
  | [], _, _, _, e => by simp at e
  | x :: xs, vs, i, h, e => by
    simp only [RepL] at h
    obtain ⟨v, r, rfl, h1, h2⟩ := h
    cases i with
    | zero => simp at e; subst e; exact ⟨v, rfl, h1⟩
    | succ i => simpa using repL_at (i := i) h2 (by simpa using e)
def mItems (m : M D) : M (List D) := M.bind m mList
theorem itr_lst {g0 : Gs} {a : Addr} {vs : List V} {ds : List D} (hK : X.K = c.K) (h : g0.F a = some (.lst vs)) (r : RepL c g0.F g0.m ds vs) : ItR c g0 (Itl X.K a) ds := by
  intro g σ H x R
  have ha : H a = some (.lst vs) := R.b.fh _ _ (x.f _ _ h)
  have hl := repL_length r
  refine ⟨fun i d e => ?_, fun i hi => ⟨vs, .of ha, by rw [hl]; exact hi⟩⟩
  obtain ⟨v, e1, r1⟩ := repL_at r e
  refine ⟨⟨vs, v, .of ha, e1⟩, fun y H' ⟨e2, q⟩ => ⟨g.F, ?_, .refl, ?_⟩⟩
  · rw [e2]; exact R
  · have := q vs (.of ha)
    rw [e1] at this; cases this
    exact r1.ext x
theorem itr_tup {g0 : Gs} {a : Addr} {vs : List V} {ds : List D} (hK : X.K = c.K) (h : SqT c.K g0.F a vs) (r : RepL c g0.F g0.m ds vs) : ItR c g0 (Itt X.K a) ds := by
  intro g σ H x R
  have ha : SqT X.K H a vs := by rw [hK]; exact sqT_of R.b.fh (x.sqT h)
  have hl := repL_length r
  refine ⟨fun i d e => ?_, fun i hi => ⟨vs, ha, by rw [hl]; exact hi⟩⟩
  obtain ⟨v, e1, r1⟩ := repL_at r e
  refine ⟨⟨vs, v, ha, e1⟩, fun y H' ⟨e2, q⟩ => ⟨g.F, ?_, .refl, ?_⟩⟩
  · rw [e2]; exact R
  · have := q vs ha
    rw [e1] at this; cases this
    exact r1.ext x
theorem oi_sq (hK : X.K = c.K) (he : PE X e (tM c W m)) : PI X tg e (tI c W (mItems m)) := by
  refine ⟨fun pins s σ H Rr I ⟨g, R, h⟩ => ?_⟩
  have h1 := After.bind h
  cases eq : m g.ρ g.S with
  | bad => rw [eq] at h1; exact h1.elim
  | exc x ρ S =>
    refine (pi_list he).run pins s σ H Rr I ⟨g, R, ?_⟩
    rw [eq] at h1 ⊢; exact h1
  | ok d ρ S =>
    rw [eq] at h1
    have go : ∀ {ok' : D → Gs → Hp → Prop}, (∀ g' H', g'.ρ = ρ → g'.S = S → GExt g g' → Rel c g' σ H' → After c W g' σ (mList d g'.ρ g'.S) (fun ds g' H' => ∀ J, ItR c g' J ds → Rr J H') → ok' d g' H') → After c W g σ (m g.ρ g.S) ok' := fun {ok'} f => by
      rw [eq]
      intro g' H' e1 e2 x1 R1
      exact f g' H' e1 e2 x1 R1 (h1 g' H' e1 e2 x1 R1)
    have dead : ∀ {g' : Gs} {H' : Hp}, After c W g' σ (M.bad g'.ρ g'.S) (fun (ds : List D) g' H' => ∀ J, ItR c g' J ds → Rr J H') → False := fun q => q
    have nope : (∀ ρ S, mList d ρ S = .bad) → wpAny (model X.prog X.w) X.A (eval e X.env) (fun v s1 => wpAny (model X.prog X.w) X.A (pyIter v) (PIE X pins σ tg Rr) X.xe s1) X.xe s := fun z => by
      refine (pi_list he).run pins s σ H Rr I ⟨g, R, go fun g' H' e1 e2 x1 R1 q => ?_⟩
      rw [z] at q; exact q.elim
    cases d with
    | lst ds =>
      refine (pi_list he).run pins s σ H Rr I ⟨g, R, go fun g' H' e1 e2 x1 R1 q v r => ?_⟩
      have q1 := After.pure q R1
      simp only [Rep] at r
      obtain ⟨a, vs, rfl, ha, rs⟩ := r
      exact ⟨a, rfl, ⟨vs, .of (R1.b.fh _ _ ha)⟩, q1 _ (itr_lst hK ha rs)⟩
    | tup ds =>
      refine (pi_tup he).run pins s σ H Rr I ⟨g, R, go fun g' H' e1 e2 x1 R1 q v r => ?_⟩
      have q1 := After.pure q R1
      simp only [Rep] at r
      obtain ⟨a, vs, rfl, ha, rs⟩ := r
      exact ⟨a, rfl, ⟨vs, by rw [hK]; exact sqT_of R1.b.fh ha⟩, q1 _ (itr_tup hK ha rs)⟩
    | str x =>
      refine (pi_str he).run pins s σ H Rr I ⟨g, R, go fun g' H' e1 e2 x1 R1 q v r => ?_⟩
      simp only [Rep] at r
      subst r
      unfold mList at q
      by_cases z : x.length ≤ SZ
      · simp only [if_pos z] at q
        refine ⟨_, rfl, After.pure q R1 _ fun g2 σ2 H2 x2 R2 => ⟨fun i d ed => ?_, fun i hi => ?_⟩⟩
        · rw [List.getElem?_map] at ed
          cases ex : x[i]? with
          | none => rw [ex] at ed; cases ed
          | some k =>
            rw [ex] at ed
            have ed : D.str [k] = d := by simpa using ed
            subst ed
            have hi := (List.getElem?_eq_some_iff.mp ex).1
            have ec : (toStr x).cps[i]? = some k := by simp [toStr, ex]
            refine ⟨show i < (toStr x).cps.size by simpa [toStr] using hi, fun y H' ⟨e2, k', ek, ey⟩ => ⟨g2.F, by rw [e2]; exact R2, .refl, ?_⟩⟩
            rw [ec] at ek; cases ek
            simp only [Rep]
            exact ey
        · show (toStr x).cps.size ≤ i
          simpa [toStr] using hi
      · simp only [if_neg z] at q; exact q.elim
    | non => exact nope fun _ _ => rfl
    | bl b => exact nope fun _ _ => rfl
    | int b => exact nope fun _ _ => rfl
    | dic b => exact nope fun _ _ => rfl
    | ref b => exact nope fun _ _ => rfl
    | scr b => exact nope fun _ _ => rfl
theorem rng_at (lo : Int) : ∀ (n i : Nat), (rngD lo n)[i]? = if i < n then some (.int (lo + i)) else none := by
  intro n
  induction n generalizing lo with
  | zero => intro i; simp [rngD]
  | succ n ih =>
    intro i
    cases i with
    | zero => simp [rngD]
    | succ i =>
      simp only [rngD, List.getElem?_cons_succ, ih]
      have e : lo + 1 + (i : Int) = lo + ((i + 1 : Nat) : Int) := by omega
      rw [e]
      by_cases z : i < n
      · rw [if_pos z, if_pos (by omega)]
      · rw [if_neg z, if_neg (by omega)]
theorem rng_len (lo : Int) : ∀ n : Nat, (rngD lo n).length = n := by
  intro n
  induction n generalizing lo with
  | zero => rfl
  | succ n ih => simp [rngD, ih]
theorem itr_rng {g0 : Gs} {lo : Int} {n : Nat} : ItR c g0 (Itr lo n) (rngD lo n) := by
  intro g σ H x R
  refine ⟨fun i d e => ?_, fun i hi => by rw [rng_len] at hi; exact hi⟩
  rw [rng_at] at e
  by_cases z : i < n
  · rw [if_pos z] at e; cases e
    exact ⟨z, fun y H' ⟨e2, ey⟩ => ⟨g.F, by rw [e2]; exact R, .refl, by simp only [Rep]; exact ey⟩⟩
  · rw [if_neg z] at e; cases e
def mRng1 (ms : M (List D)) : M (List D) := M.bind ms fun ds => match ds with
  | [.int n] => if -(2 ^ 62) ≤ n ∧ n < 2 ^ 62 then M.pure (rngD 0 n.toNat) else M.bad
  | _ => M.bad
def mRng2 (ms : M (List D)) : M (List D) := M.bind ms fun ds => match ds with
  | [.int l, .int n] => if -(2 ^ 62) ≤ l ∧ l < 2 ^ 62 ∧ -(2 ^ 62) ≤ n ∧ n < 2 ^ 62 then M.pure (rngD l (n - l).toNat) else M.bad
  | _ => M.bad
theorem oi_rng1 {a : Expr} {p : Pos} (hg : Gl X "range") (hm : X.mg "range" = none) (ha : PA X [a] (tA c W ms)) (hs : starEach [a] X.env = [(false, eval a X.env)]) :
    PI X tg (.Call (.Name "range" p) [a] [] pos) (tI c W (mRng1 ms)) := by
  refine PI.weak (pi_range1 hg hm ha hs) fun σ H Q ⟨g, R, h⟩ => ⟨g, R, (After.bind h).imp fun ds g1 H1 x1 R1 q vs rs => ?_⟩
  split at q
  · rename_i n
    obtain ⟨v, rfl, r⟩ := repL_one rs
    simp only [Rep] at r
    subst r
    by_cases z : -(2 ^ 62) ≤ n ∧ n < 2 ^ 62
    · rw [if_pos z] at q
      exact ⟨n, rfl, z.1, z.2, After.pure q R1 _ itr_rng⟩
    · rw [if_neg z] at q; exact q.elim
  · exact q.elim
end
end Ev
set_option Elab.async false
set_option linter.all false
set_option autoImplicit false
set_option maxRecDepth 100000
namespace Ev
open PySem PySem.Spec PyProof.Rows L2
def sFor (mi : M (List D)) (f : D → M Unit) (b : M Flow) : M Flow := M.bind mi (loopM f b)
section
variable {c : Kx} {W : WX} {α : Type} {g g1 : Gs}
/-- what is known at g is known at g1, where the slots and the cells are the same -/
theorem After2.at_ {m : M α} {ok : α → Gs → St → Hp → Prop} (h : After2 c W g (m g.ρ g.S) ok) (x : GExt g g1) (e1 : g1.ρ = g.ρ) (e2 : g1.S = g.S) : After2 c W g1 (m g1.ρ g1.S) ok := by
  rw [e1, e2]; exact h.shift x
theorem After.at_ {σ : St} {m : M α} {ok : α → Gs → Hp → Prop} (h : After c W g σ (m g.ρ g.S) ok) (x : GExt g g1) (e1 : g1.ρ = g.ρ) (e2 : g1.S = g.S) : After c W g1 σ (m g1.ρ g1.S) ok := by
  rw [e1, e2]; exact h.shift x
theorem GExt.ofF {F' : Hp} (x : Ext g.F g.m F' g.m) : GExt g { g with F := F' } := ⟨x, rfl⟩
end
theorem drop_at {α : Type} {ds : List α} {i : Nat} {d : α} (h : ds[i]? = some d) : ds.drop i = d :: ds.drop (i + 1) := by
  obtain ⟨hl, e⟩ := List.getElem?_eq_some_iff.mp h
  rw [List.drop_eq_getElem_cons hl, e]
section
variable {X : Cx} {c : Kx} {W : WX} {e tg iter : Expr} {body : List Stmt} {m : M D} {mi : M (List D)} {f : D → M Unit} {b : M Flow} {pos : Pos}
theorem os_for (hp : PassesOwn (model X.prog X.w) X.A X.env X.xe) (hc : X.calm = true) (hi : PI X tg iter (tI c W mi)) (hg : PG X tg (tG c W zAny f)) (hb : PSs X body (tS c W b)) (hs : ∀ x, foldedSetIterable iter X.env x = pure x) :
    PS X (.For tg iter body [] pos) (tS c W (sFor mi f b)) := by
  refine PS.weak (ps_for hp hc hi hg hb hs) fun Dn σ H ⟨g, R, h⟩ => ⟨g, R, ((After2.bind h).one σ).imp fun ds g1 H1 x1 R1 q J hJ => ?_⟩
  refine ⟨fun i n σ H => ∃ g2, GExt g1 g2 ∧ Rel c g2 σ H ∧ n = ds.length - i ∧ i ≤ ds.length ∧ After2 c W g2 (loopM f b (ds.drop i) g2.ρ g2.S) (flowOk c Dn), ⟨_, g1, .refl, R1, rfl, Nat.zero_le _, q⟩, ?_⟩
  rintro i n σ2 H2 ⟨g2, x2, R2, en, hle, q2⟩
  obtain ⟨j1, j2⟩ := hJ g2 σ2 H2 x2.e R2
  cases ed : ds[i]? with
  | none =>
    have hl : ds.length ≤ i := List.getElem?_eq_none_iff.mp ed
    rw [List.drop_eq_nil_of_le hl] at q2
    exact .inl ⟨j2 i hl, After2.pure q2 R2⟩
  | some d =>
    have hlt : i < ds.length := (List.getElem?_eq_some_iff.mp ed).1
    obtain ⟨go, yl⟩ := j1 i d ed
    rw [drop_at ed] at q2
    refine .inr ⟨go, fun σ' H' => ∃ g3, GExt g1 g3 ∧ Rel c g3 σ' H' ∧ After2 c W g3 (loopM f b (ds.drop (i + 1)) g3.ρ g3.S) (flowOk c Dn), fun σ' H' ⟨g3, x3, R3, q3⟩ => ⟨ds.length - (i + 1), by omega, g3, x3, R3, rfl, hlt, q3⟩, fun y H' hy => ?_⟩
    obtain ⟨F', R3, x3, r3⟩ := yl y H' hy
    have q3 := After2.at_ q2 (GExt.ofF x3) rfl rfl
    refine ⟨_, d, R3, r3, (After2.bind q3).imp fun _ g4 σ4 H4 x4 R4 q4 _ => ⟨g4, R4, (After2.bind q4).imp fun fl g5 σ5 H5 x5 R5 q5 => ?_⟩⟩
    have x15 := ((x2.trans (GExt.ofF x3)).trans x4).trans x5
    cases fl with
    | nx => exact ⟨g5, x15, R5, q5⟩
    | ct => exact ⟨g5, x15, R5, q5⟩
    | br => exact After2.pure (W := W) q5 R5
    | rt v => exact After2.pure (W := W) q5 R5
    | rl v => exact After2.pure (W := W) q5 R5
/-- a new tuple of known things -/
theorem Rel.tup (c : Kx) {g : Gs} {σ : St} {H : Hp} (R : Rel c g σ H) {T : Addr} {ds : List D} {vs : List V} (hT : H T = none) (r : RepL c g.F g.m ds vs) :
    ∃ F', Rel c { g with F := F' } σ (upd H T (.tup vs)) ∧ Ext g.F g.m F' g.m ∧ Rep c F' g.m (.tup ds) (.ref T) := by
  obtain ⟨R2, x2⟩ := R.grow (o := .tup vs) hT
  refine ⟨_, R2, x2.e, ?_⟩
  simp only [Rep]
  exact ⟨T, vs, rfl, SqT.of upd_same, r.ext x2.e⟩
/-- both lists, or both tuples -/
def zipOf (ds : List D) : M (List D) := match ds with
  | [.lst xs, .lst ys] => M.pure (zipD xs ys)
  | [.tup xs, .tup ys] => M.pure (zipD xs ys)
  | _ => M.bad
def mZip (ms : M (List D)) : M (List D) := M.bind ms zipOf
end
end Ev
set_option Elab.async false
set_option linter.all false
set_option autoImplicit false
set_option maxRecDepth 100000
namespace Ev
open PySem PySem.Spec PyProof.Rows L2
def mWipe (own : List Nat) : M Unit := fun ρ S => .ok () (wipeE ρ own) S
def cmpR (own : List Nat) (f : D → M Unit) (t : M Bool) (e : M D) : List D → List D → M (List D)
  | acc, [] => M.pure acc
  | acc, d :: r => M.bind (f d) fun _ => M.bind t fun k => if k then M.bind e fun v => M.bind (mWipe own) fun _ => if acc.length < SZ then cmpR own f t e (acc ++ [v]) r else M.bad else M.bind (mWipe own) fun _ => cmpR own f t e acc r
def Res.noX {α : Type} : Res α → Res α
  | .ok a ρ S => .ok a ρ S
  | _ => .bad
def noX {α : Type} (m : M α) : M α := fun ρ S => (m ρ S).noX
/-- the new list of a comprehension -/
def fComp (mi : M (List D)) (own : List Nat) (f : D → M Unit) (t : M Bool) (e : M D) : M (List D) := M.bind mi fun ds => noX (M.bind (mWipe own) fun _ => cmpR own f t e [] ds)
/-- nothing is raised -/
def W0 : WX := fun _ _ _ _ => False
def zOwn (own : List Nat) : St → St → Prop := fun σ σ' => wipe σ' own = wipe σ own
theorem wipe_in {σ : St} {i : Nat} : ∀ {vs : List Nat}, i ∈ vs → i < σ.length → (wipe σ vs)[i]? = some none
  | v :: vs, h, hl => by
    unfold wipe
    by_cases e : v = i
    · subst e; rw [List.getElem?_set_self (by rw [wipe_length]; exact hl)]
    · rw [List.getElem?_set_ne e]
      exact wipe_in ((List.mem_cons.mp h).resolve_left (fun z => e z.symm)) hl
theorem wipe_ext {σ τ : St} {vs : List Nat} (hl : τ.length = σ.length) (h : ∀ i, i ∉ vs → τ[i]? = σ[i]?) : wipe τ vs = wipe σ vs := by
  apply List.ext_getElem?
  intro i
  by_cases hm : i ∈ vs
  · by_cases hi : i < σ.length
    · rw [wipe_in hm (by rw [hl]; exact hi), wipe_in hm hi]
    · rw [List.getElem?_eq_none (by rw [wipe_length, hl]; omega), List.getElem?_eq_none (by rw [wipe_length]; omega)]
  · rw [wipe_out hm, wipe_out hm]; exact h i hm
theorem wipe_wipe (σ : St) (vs : List Nat) : wipe (wipe σ vs) vs = wipe σ vs := wipe_ext (wipe_length σ vs) fun i h => wipe_out h
theorem zOwn_set {own : List Nat} {i : Nat} (h : i ∈ own) (σ : St) (v : V) : zOwn own σ (σ.set i (some v)) :=
  wipe_ext (by simp) fun j hj => by rw [List.getElem?_set_ne (fun z : i = j => hj (z ▸ h))]
section
variable {c : Kx} {g : Gs} {σ : St} {H : Hp} {W : WX}
/-- a slot is forgotten on both sides -/
theorem Rel.drop2 (R : Rel c g σ H) (i : Nat) : Rel c { g with ρ := g.ρ.set i none } (σ.set i none) H := by
  have zz : ∀ {j : Nat} {s : SV}, (g.ρ.set i none)[j]? = some (some s) → g.ρ[j]? = some (some s) ∧ j ≠ i := fun {j s} h => by
    by_cases z : j = i
    · subst z
      have hl : j < g.ρ.length := by
        have := (List.getElem?_eq_some_iff.mp h).1
        simpa using this
      rw [List.getElem?_set_self hl] at h
      cases h
    · rw [List.getElem?_set_ne (Ne.symm z)] at h
      exact ⟨h, z⟩
  refine ⟨R.b, by simp [R.ln], fun j d h => ?_, fun j xs h => ?_, fun j k xs ys a ne h1 h2 h3 => ?_, fun j x h => ?_⟩
  · obtain ⟨h, z⟩ := zz h
    obtain ⟨v, e1, r⟩ := R.sf j d h
    exact ⟨v, by rw [List.getElem?_set_ne (Ne.symm z)]; exact e1, r⟩
  · obtain ⟨h, z⟩ := zz h
    obtain ⟨a, vs, e1, q⟩ := R.so j xs h
    exact ⟨a, vs, by rw [List.getElem?_set_ne (Ne.symm z)]; exact e1, q⟩
  · obtain ⟨p1, z1⟩ := zz h1
    obtain ⟨p2, z2⟩ := zz h2
    rw [List.getElem?_set_ne (Ne.symm z1)] at h3
    rw [List.getElem?_set_ne (Ne.symm z2)]
    exact R.sd j k xs ys a ne p1 p2 h3
  · obtain ⟨h, z⟩ := zz h
    obtain ⟨a, e1, e2⟩ := R.sx j x h
    exact ⟨a, e1, by rw [List.getElem?_set_ne (Ne.symm z)]; exact e2⟩
theorem Rel.wipe_ : ∀ (vs : List Nat), Rel c g σ H → Rel c { g with ρ := wipeE g.ρ vs } (wipe σ vs) H
  | [], R => R
  | v :: vs, R => (Rel.wipe_ vs R).drop2 v
theorem Rel.unwipe {vs : List Nat} (R : Rel c g (wipe σ vs) H) : Rel c g σ H := by
  refine ⟨R.b, by rw [R.ln, wipe_length], fun j d h => ?_, fun j xs h => ?_, fun j k xs ys a ne h1 h2 h3 h4 => ?_, fun j x h => ?_⟩
  · obtain ⟨v, e1, r⟩ := R.sf j d h
    exact ⟨v, (wipe_some e1).1, r⟩
  · obtain ⟨a, vs, e1, q⟩ := R.so j xs h
    exact ⟨a, vs, (wipe_some e1).1, q⟩
  · obtain ⟨b1, _, e1, _⟩ := R.so j xs h1
    obtain ⟨b2, _, e2, _⟩ := R.so k ys h2
    have z1 := (wipe_some e1).1
    have z2 := (wipe_some e2).1
    rw [h3] at z1; rw [h4] at z2
    cases z1; cases z2
    exact R.sd j k xs ys a ne h1 h2 e1 e2
  · obtain ⟨a, e1, e2⟩ := R.sx j x h
    exact ⟨a, e1, (wipe_some e2).1⟩
/-- less is protected -/
theorem Rel.less (R : Rel c g σ H) {G0 : Hp} (s : ∀ a o, G0 a = some o → g.G a = some o) : Rel c { g with G := G0 } σ H := by
  have no : ∀ {a : Addr}, g.G a = none → G0 a = none := fun {a} h => by
    cases q : G0 a with
    | none => rfl
    | some o => have := s a o q; rw [h] at this; cases this
  refine ⟨⟨R.b.fh, fun a o h => R.b.gh a o (s a o h), fun a o h => no (R.b.fg a o h), R.b.ml, R.b.md, fun n x a h1 h2 => ?_⟩, R.ln, R.sf, fun i xs h => ?_, R.sd, R.sx⟩
  · obtain ⟨q1, q2, q3⟩ := R.b.cl n x a h1 h2
    refine ⟨q1, ?_, q3⟩
    rcases q2 with q2 | ⟨e, od, u, q2⟩
    · exact .inl (no q2)
    · cases q : G0 a with
      | none => exact .inl q
      | some o =>
        have w := s a o q
        rw [q2] at w
        cases w
        exact .inr ⟨e, od, u, q⟩
  · obtain ⟨a, vs, e1, h1, r, h2, h3, h4⟩ := R.so i xs h
    exact ⟨a, vs, e1, h1, r, h2, no h3, h4⟩
/-- something new is protected -/
theorem Rel.guard (R : Rel c g σ H) {a : Addr} {o : HO} (h : H a = none) : Rel c { g with G := upd g.G a o } σ (upd H a o) := by
  obtain ⟨f1, f2, f3⟩ := R.fresh h
  have R0 := R.grow0 (o := o) h
  have own : ∀ {b : Addr} {u : HO}, H b = some u → b ≠ a := fun q z => by subst z; rw [h] at q; cases q
  refine ⟨⟨R0.b.fh, fun b u q => ?_, fun b u q => ?_, R.b.ml, R.b.md, fun n x b h1 h2 => ?_⟩, R.ln, R.sf, fun i xs q => ?_, R.sd, R.sx⟩
  · have q : upd g.G a o b = some u := q
    by_cases z : b = a
    · subst z; rw [upd_same] at q ⊢; exact q
    · rw [upd_ne z] at q; exact R0.b.gh b u q
  · show upd g.G a o b = none
    have z : b ≠ a := fun z => by subst z; rw [f1] at q; cases q
    rw [upd_ne z]
    exact R.b.fg b u q
  · have z : b ≠ a := fun z => f3 (z ▸ List.mem_of_getElem? h2)
    obtain ⟨q1, q2, q3⟩ := R0.b.cl n x b h1 h2
    exact ⟨q1, by show GOk (upd g.G a o b) _; rw [upd_ne z]; exact q2, q3⟩
  · obtain ⟨b, vs, e1, h1, r, h2, h3, h4⟩ := R0.so i xs q
    obtain ⟨b', vs', e1', h1', _⟩ := R.so i xs q
    rw [e1] at e1'; cases e1'
    exact ⟨b, vs, e1, h1, r, h2, by show upd g.G a o b = none; rw [upd_ne (own h1')]; exact h3, h4⟩
/-- what is protected is written by its holder -/
theorem Rel.reguard (R : Rel c g σ H) {a : Addr} {u o : HO} (h : g.G a = some u) (hu : ∀ od v, u ≠ .frz od v := by intro od v h; cases h) : Rel c { g with G := upd g.G a o } σ (upd H a o) := by
  have fn : g.F a = none := by
    cases q : g.F a with
    | none => rfl
    | some x => have := R.b.fg a x q; rw [h] at this; cases this
  have own : ∀ {b : Addr}, g.G b = none → b ≠ a := fun q z => by subst z; rw [h] at q; cases q
  refine ⟨⟨fun b x q => ?_, fun b x q => ?_, fun b x q => ?_, R.b.ml, R.b.md, fun n x b h1 h2 => ?_⟩, R.ln, R.sf, fun i xs q => ?_, R.sd, R.sx⟩
  · have z : b ≠ a := fun z => by subst z; rw [fn] at q; cases q
    rw [upd_ne z]; exact R.b.fh b x q
  · have q : upd g.G a o b = some x := q
    by_cases z : b = a
    · subst z; rw [upd_same] at q ⊢; exact q
    · rw [upd_ne z] at q ⊢; exact R.b.gh b x q
  · have z : b ≠ a := fun z => by subst z; rw [fn] at q; cases q
    show upd g.G a o b = none
    rw [upd_ne z]; exact R.b.fg b x q
  · obtain ⟨q1, q2, q3⟩ := R.b.cl n x b h1 h2
    have z : b ≠ a := fun z => by subst z; exact q2.no h hu
    exact ⟨q1, by show GOk (upd g.G a o b) _; rw [upd_ne z]; exact q2, by rw [upd_ne z]; exact q3⟩
  · obtain ⟨b, vs, e1, h1, r, h2, h3, h4⟩ := R.so i xs q
    have z := own h3
    exact ⟨b, vs, e1, by rw [upd_ne z]; exact h1, r, h2, by show upd g.G a o b = none; rw [upd_ne z]; exact h3, h4⟩
/-- a step, where more is protected than is told behind it -/
theorem After2.step {α β : Type} {G0 : Hp} {m : M α} {f : α → M β} {ok : β → Gs → St → Hp → Prop} (h : After2 c W0 { g with G := G0 } (M.bind m f g.ρ g.S) ok) (s : ∀ a o, G0 a = some o → g.G a = some o) :
    After2 c W0 g (m g.ρ g.S) fun a g1 _ _ => After2 c W0 { g1 with G := G0 } (f a g1.ρ g1.S) ok := by
  unfold M.bind Res.bind at h
  cases e : m g.ρ g.S with
  | bad => rw [e] at h; exact h
  | ok a ρ S =>
    rw [e] at h
    intro g' σ' H' e1 e2 x R
    have h' : After2 c W0 { g with G := G0 } (f a ρ S) ok := h
    rw [e1, e2]
    exact h'.shift ⟨x.e, rfl⟩
  | exc y ρ S =>
    rw [e] at h
    intro g' σ' H' cls d e1 e2 x R q
    exact h { g' with G := G0 } σ' H' cls d e1 e2 ⟨x.e, rfl⟩ (R.less (by rw [x.pr]; exact s)) q
end
section
variable {X : Cx} {c : Kx} {W : WX} {elt tg iter : Expr} {ifs : List Expr} {scope : Scope} {own : List (Str × Nat)} {vs : List Nat} {pos : Pos} {mi : M (List D)} {f : D → M Unit} {mt : M Bool} {me : M D}
theorem ots_nil {X : Cx} : PTs X [] (tB c W (M.pure true)) := ⟨fun pins s σ H Q I ⟨g, R, h⟩ => pts_nil.run pins s σ H Q I (After.pure h R)⟩
theorem lc_read {σ : St} {H : Hp} {Q : VK} (h : tF c W (fComp mi vs f mt me) σ H Q) : tLc (tI c W mi) (tG c W0 (zOwn vs) f) (tB c W0 mt) (tM c W0 me) vs σ H Q := by
  obtain ⟨g, R, h⟩ := h
  refine ⟨g, R, (After.bind h).imp fun ds g1 H1 x1 R1 q J hJ Da hD => ?_⟩
  have R1w := R1.wipe_ vs
  -- what is pending, at the block's slots
  have q2 : After2 c W0 { g1 with ρ := wipeE g1.ρ vs } (cmpR vs f mt me [] ds (wipeE g1.ρ vs) g1.S) fun xs g' σ' H' => σ' = wipe σ vs → ∀ a H'', Rel c g' σ H'' → Loose c g' σ H'' xs a → Q (.ref a) H'' := by
    have q1 : After c W g1 σ (cmpR vs f mt me [] ds (wipeE g1.ρ vs) g1.S).noX fun xs g' H' => ∀ a H'', Rel c g' σ H'' → Loose c g' σ H'' xs a → Q (.ref a) H'' := q
    revert q1
    cases cmpR vs f mt me [] ds (wipeE g1.ρ vs) g1.S with
    | bad => exact fun z => z
    | exc x ρ S => exact fun z => z.elim
    | ok xs ρ S => exact fun z g' σ' H' e1 e2 x R' es => z g' H' e1 e2 ⟨x.e, x.pr⟩ (by subst es; exact R'.unwipe)
  refine ⟨fun i n H => ∃ g2 ads acc, GExt { g1 with ρ := wipeE g1.ρ vs } { g2 with G := g1.G } ∧ g2.G = upd g1.G Da (.lst acc) ∧ Rel c g2 (wipe σ vs) H ∧ RepL c g2.F g2.m ads acc ∧ n = ds.length - i ∧ i ≤ ds.length ∧
    After2 c W0 { g2 with G := g1.G } (cmpR vs f mt me ads (ds.drop i) g2.ρ g2.S) fun xs g' σ' H' => σ' = wipe σ vs → ∀ a H'', Rel c g' σ H'' → Loose c g' σ H'' xs a → Q (.ref a) H'',
    ⟨_, { g1 with ρ := wipeE g1.ρ vs, G := upd g1.G Da (.lst []) }, [], [], .refl, rfl, R1w.guard hD, by simp [RepL], rfl, Nat.zero_le _, q2⟩, ?_⟩
  rintro i n H2 ⟨g2, ads, acc, x2, eG, R2, rs, en, hle, q3⟩
  have sub : ∀ a o, g1.G a = some o → g2.G a = some o := fun a o e => by
    rw [eG, upd_ne (fun z => by subst z; rw [R1.b.gh _ _ e] at hD; cases hD)]; exact e
  have x2e : Ext g1.F g1.m g2.F g2.m := x2.e
  obtain ⟨j1, j2⟩ := hJ g2 _ H2 x2e R2
  cases ed : ds[i]? with
  | none =>
    have hl : ds.length ≤ i := List.getElem?_eq_none_iff.mp ed
    rw [List.drop_eq_nil_of_le hl] at q3
    have R3 := (R2.less sub)
    refine .inl ⟨j2 i hl, After2.pure q3 R3 rfl Da H2 R3.unwipe ⟨⟨acc, R2.b.gh _ _ (by rw [eG, upd_same]), rs⟩, ?_, ?_, ?_, ?_⟩⟩
    · cases z : g2.F Da with
      | none => rfl
      | some o => have := R2.b.fg _ _ z; rw [eG, upd_same] at this; cases this
    · cases z : g1.G Da with
      | none => rfl
      | some o => have := R1.b.gh _ _ z; rw [hD] at this; cases this
    · intro hm
      obtain ⟨k, hk, e⟩ := List.getElem_of_mem hm
      have hs : k < g2.S.length := by rw [← R2.b.ml]; exact hk
      obtain ⟨_, z, _⟩ := R2.b.cl k g2.S[k] Da (by simp [hs]) (by rw [List.getElem?_eq_getElem hk, e])
      rw [eG, upd_same] at z; exact z.no rfl fun _ _ h => nomatch h
    · intro k ys h1 h2
      obtain ⟨b, ws, e1, _, _, _, h3, _⟩ := R2.so k ys h1
      have e2 := (wipe_some e1).1
      rw [h2] at e2; cases e2
      rw [eG, upd_same] at h3; cases h3
  | some d =>
    have hlt : i < ds.length := (List.getElem?_eq_some_iff.mp ed).1
    obtain ⟨go, yl⟩ := j1 i d ed
    rw [drop_at ed] at q3
    refine .inr ⟨go, fun H' => ∃ g3 ads acc, GExt { g1 with ρ := wipeE g1.ρ vs } { g3 with G := g1.G } ∧ g3.G = upd g1.G Da (.lst acc) ∧ Rel c g3 (wipe σ vs) H' ∧ RepL c g3.F g3.m ads acc ∧
      After2 c W0 { g3 with G := g1.G } (cmpR vs f mt me ads (ds.drop (i + 1)) g3.ρ g3.S) fun xs g' σ' H' => σ' = wipe σ vs → ∀ a H'', Rel c g' σ H'' → Loose c g' σ H'' xs a → Q (.ref a) H'',
      fun H' ⟨g3, ads, acc, x3, eG, R3, rs, q⟩ => ⟨ds.length - (i + 1), by omega, g3, ads, acc, x3, eG, R3, rs, rfl, hlt, q⟩, fun y H' hy => ?_⟩
    obtain ⟨F', R3, x3, r3⟩ := yl y H' hy
    have q4 : After2 c W0 { { g2 with F := F' } with G := g1.G } (cmpR vs f mt me ads (d :: ds.drop (i + 1)) g2.ρ g2.S) _ := q3.shift ⟨x3, rfl⟩
    have subs : ∀ {g' : Gs}, GExt g2 g' → ∀ a o, g1.G a = some o → g'.G a = some o := fun {g'} x a o e => by rw [x.pr]; exact sub a o e
    have q5 := After2.step (g := { g2 with F := F' }) q4 sub
    refine ⟨_, d, R3, r3, q5.imp fun _ g4 σ4 H4 x4 R4 q6 zo => ?_⟩
    have es : wipe σ4 vs = wipe σ vs := by
      have z : wipe σ4 vs = wipe (wipe σ vs) vs := zo
      rw [z, wipe_wipe]
    have x24 : GExt g2 g4 := (GExt.ofF x3).trans x4
    refine ⟨es, g4, R4, ((After2.step q6 (subs x24)).one σ4).imp fun k g5 H5 x5 R5 q7 => ?_⟩
    have x25 : GExt g2 g5 := x24.trans x5
    cases k with
    | false =>
      have Rw : Rel c { g5 with ρ := wipeE g5.ρ vs } (wipe σ vs) H5 := by rw [← es]; exact R5.wipe_ vs
      have q8 : After2 c W0 { g5 with G := g1.G } (cmpR vs f mt me ads (ds.drop (i + 1)) (wipeE g5.ρ vs) g5.S) _ := q7
      exact ⟨{ g5 with ρ := wipeE g5.ρ vs }, ads, acc, ⟨x2e.trans x25.e, rfl⟩, x25.pr.trans eG, Rw, rs.ext x25.e, q8.shift ⟨.refl, rfl⟩⟩
    | true =>
      have q8 : After2 c W0 { g5 with G := g1.G } (M.bind me (fun v => M.bind (mWipe vs) fun _ => if ads.length < SZ then cmpR vs f mt me (ads ++ [v]) (ds.drop (i + 1)) else M.bad) g5.ρ g5.S) _ := q7
      refine ⟨g5, R5, ((After2.step q8 (subs x25)).one σ4).imp fun v g6 H6 x6 R6 q9 y r => ?_⟩
      have x26 : GExt g2 g6 := x25.trans x6
      have hG : g6.G Da = some (.lst acc) := by rw [x26.pr, eG, upd_same]
      have q10 : After2 c W0 { g6 with G := g1.G } ((if ads.length < SZ then cmpR vs f mt me (ads ++ [v]) (ds.drop (i + 1)) else M.bad) (wipeE g6.ρ vs) g6.S) _ := q9
      by_cases z : ads.length < SZ
      · rw [if_pos z] at q10
        have rs' := rs.ext x26.e
        have Rw : Rel c { g6 with ρ := wipeE g6.ρ vs } (wipe σ vs) H6 := by rw [← es]; exact R6.wipe_ vs
        have Rg := Rw.reguard (o := .lst (acc ++ [y])) hG
        refine ⟨acc, R6.b.gh _ _ hG, by rw [sizeLine_eq, repL_length rs]; exact z, { g6 with ρ := wipeE g6.ρ vs, G := upd g6.G Da (.lst (acc ++ [y])) }, ads ++ [v], acc ++ [y], ⟨x2e.trans x26.e, rfl⟩, ?_, Rg, ?_, q10.shift ⟨.refl, rfl⟩⟩
        · show upd g6.G Da (.lst (acc ++ [y])) = _
          rw [x26.pr, eG, upd_upd]
        · exact rs'.app (by simp only [RepL]; exact ⟨y, [], rfl, r, rfl⟩)
      · rw [if_neg z] at q10; exact q10.elim
theorem okF_comp (hc : X.calm = true) (hN : X.N.Nodup) (hi : PI X tg iter (tI c W mi)) (ok : BlkOk X.N X.env.scope scope own) (hvs : own.map (·.2) = vs)
    (hg : ∀ (s : Shared) (H : Hp) (C : Addr) (cl : List (Str × Addr)) (fp : List Addr), PG (X.blk s H scope (compEnvC scope cl C X.env) fp) tg (tG c W0 (zOwn vs) f))
    (ht : ∀ (s : Shared) (H : Hp) (C : Addr) (cl : List (Str × Addr)) (fp : List Addr), PTs (X.blk s H scope (compEnvC scope cl C X.env) fp) ifs (tB c W0 mt))
    (he : ∀ (s : Shared) (H : Hp) (C : Addr) (cl : List (Str × Addr)) (fp : List Addr), PE (X.blk s H scope (compEnvC scope cl C X.env) fp) elt (tM c W0 me)) (hs : ∀ x, foldedSetIterable iter X.env x = pure x) :
    PE X (.ListComp elt [⟨tg, iter, ifs, 0⟩] scope pos) (tF c W (fComp mi vs f mt me)) := by
  subst hvs
  exact PE.weak (pe_lc hc hN hi ok hg ht he hs) fun σ H Q h => lc_read h
/-- .. that stays -/
theorem os_asgLc {i : Nat} {y : Str} {py spos : Pos} (hc : X.calm = true) (hN : X.N.Nodup) (hy : X.N[i]? = some y) (hyl : X.env.scope.names.lookup y = some .local) (hsw : swapsWith (.ListComp elt [⟨tg, iter, ifs, 0⟩] scope pos) (some (.Name y py)) spos.line X.env = pure true)
    (hi : PI X tg iter (tI c W mi)) (ok : BlkOk X.N X.env.scope scope own) (hvs : own.map (·.2) = vs)
    (hg : ∀ (s : Shared) (H : Hp) (C : Addr) (cl : List (Str × Addr)) (fp : List Addr), PG (X.blk s H scope (compEnvC scope cl C X.env) fp) tg (tG c W0 (zOwn vs) f))
    (ht : ∀ (s : Shared) (H : Hp) (C : Addr) (cl : List (Str × Addr)) (fp : List Addr), PTs (X.blk s H scope (compEnvC scope cl C X.env) fp) ifs (tB c W0 mt))
    (he : ∀ (s : Shared) (H : Hp) (C : Addr) (cl : List (Str × Addr)) (fp : List Addr), PE (X.blk s H scope (compEnvC scope cl C X.env) fp) elt (tM c W0 me)) (hs : ∀ x, foldedSetIterable iter X.env x = pure x) :
    PS X (.Assign [.Name y py] (.ListComp elt [⟨tg, iter, ifs, 0⟩] scope pos) spos) (tS c W (sAsg (M.bind (fComp mi vs f mt me) fun xs => M.pure (.lst xs)) (mSet i))) := by
  subst hvs
  refine PS.weak (ps_setLc hc hN hy hyl hsw hi ok hg ht he hs) fun D σ H ⟨g, R, h⟩ => lc_read ⟨g, R, ?_⟩
  have h1 := After2.bind h
  have h2 := (After2.bind h1).one σ
  refine h2.imp fun xs g1 H1 x1 R1 q a H2 R2 L => ?_
  obtain ⟨F', R3, x3, r⟩ := R2.freeze L
  have q1 : After2 c W g1 (.ok (.lst xs) g1.ρ g1.S) fun d g2 _ _ => After2 c W g2 ((M.bind (mSet i d) fun _ => sNx) g2.ρ g2.S) (flowOk c D) := q
  have q2 := After2.bind (After2.app q1 R3 x3 rfl rfl)
  unfold mSet at q2
  by_cases z : i < g1.ρ.length
  · have z' : i < ({ g1 with F := F' } : Gs).ρ.length := z
    rw [if_pos z'] at q2
    have R4 := R3.set (i := i) r
    exact After2.pure (After2.app q2 R4 ⟨.refl, rfl⟩ rfl rfl) R4
  · have z' : ¬ i < ({ g1 with F := F' } : Gs).ρ.length := z
    rw [if_neg z'] at q2; exact q2.elim
end
end Ev
set_option Elab.async false
set_option linter.all false
set_option autoImplicit false
set_option maxRecDepth 100000
namespace Ev
open PySem PySem.Spec PyProof.Rows
section
variable {prog : Program} {w : World} {A : Around} {E : Value → Shared → Prop} {s : Shared}
theorem walksTup (hh : A.handled = none) {it t : Addr} (hne : t ≠ it) {items : Array Value} (k : Nat) :
    WalksS prog w A it [it, t] [it] (fun a b => a = b) (items.size - k) (fun i v => items[k + i]? = some v) (fun i s => IsTupIter s.heap it t (k + i) ∧ IsTup s.heap t items) where
  sub := fun b hb => by simp at hb; subst hb; simp
  grefl := fun _ => rfl
  gtrans := fun _ _ _ h1 h2 => h1.trans h2
  frame := fun i s (h' : Heap) tk ⟨⟨o, e, hc, hd⟩, ob, e2, r⟩ _ kk => ⟨⟨o, kk it (by simp) o e, hc, hd⟩, ob, kk t (by simp) ob e2, r⟩
  item := fun i s Q E hi ⟨hit, ht⟩ hQ => by
    have hlt : k + i < items.size := by omega
    refine next_tuple_item hit ht (x := items[k + i]) (by simp [hlt]) fun h₁ hit₁ hs₁ => hQ _ _ (by simp [hlt]) ⟨hit₁, ht.extBut hs₁.extBut hne⟩ ⟨fun b o hb e => (hs₁.2 b (by simpa using hb)).trans e, rfl, rfl, rfl, Nat.le_refl _⟩
  done := fun s Q E ⟨hit, ht⟩ hQ => by
    refine next_tuple_end hh hit ht (Array.getElem?_eq_none (by omega)) fun h₂ he₂ => hQ _ ⟨fun b o hb e => he₂ b o (by simpa using hb) e, rfl, rfl, rfl, Nat.le_refl _⟩
  self := fun i s Q E ⟨hit, _⟩ hQ => wpAny_pyIter_tupleiter hit hQ
theorem items_of {items : Array Value} {P : Nat → Value → Prop} {acc : Array Value} {n k : Nat} (h : ItemsOf (fun i v => items[k + i]? = some v) acc n) (hn : n = items.size - k) : acc.toList = items.toList.drop k := by
  obtain ⟨h1, h2⟩ := h
  apply List.ext_getElem?
  intro i
  rw [List.getElem?_drop]
  cases e : acc[i]? with
  | none =>
    have hl : acc.size ≤ i := Array.getElem?_eq_none_iff.mp e
    rw [List.getElem?_eq_none (by simpa using hl), List.getElem?_eq_none (by simp; omega)]
  | some v =>
    have := h2 i v e
    simp only [Array.getElem?_toList]
    rw [e, this]
/-- what is left in a tuple's iterator, taken out -/
theorem collectTup (hh : A.handled = none) {it t : Addr} (hne : t ≠ it) {items : Array Value} (k : Nat) (hit : IsTupIter s.heap it t k) (ht : IsTup s.heap t items) (hsz : items.size ≤ sizeLine) {Q : List Value → Shared → Prop}
    (hQ : ∀ (h' : Heap) (tk : Nat), (∀ b o, b ≠ it → s.heap.get? b = some o → h'.get? b = some o) → s.heap.objs.size ≤ h'.objs.size → Q (items.toList.drop k) { s with heap := h', toks := tk }) : wpAny (model prog w) A (collect (.ref it)) Q E s := by
  have hil : it < s.heap.objs.size := by obtain ⟨o, e, _⟩ := hit; exact Heap.lt_size e
  have htl : t < s.heap.objs.size := by obtain ⟨o, e, _⟩ := ht; exact Heap.lt_size e
  have W := walksTup (prog := prog) (w := w) (A := A.in1) (items := items) (show A.in1.handled = none from hh) hne k
  have notIn : s.heap.objs.size ∉ [it, t] := by
    intro hm
    have : s.heap.objs.size = it ∨ s.heap.objs.size = t := by simpa using hm
    rcases this with z | z
    · exact Nat.ne_of_gt hil z
    · exact Nat.ne_of_gt htl z
  have dif : s.heap.objs.size ≠ it := Nat.ne_of_gt hil
  unfold collect
  apply wpAny_bind
  apply wpAny_runValue
  refine codeAny_builtin F.entry_proto_collect ?_
  rw [F.plain_proto_collect |> (Around.under_plainId · _)]
  show wpAny _ A.in1 (newList [] >>= fun z => again (.builtin "list.__iadd__" ⟨[z, .ref it], []⟩)) _ _ s
  apply wpAny_bind
  refine wpAny_newObj_type ?_
  · apply wpAny_pure
    refine ⟨F.plain_list_iadd |> (plainId_quiet · _), codeAny_builtin F.entry_list_iadd ?_⟩
    rw [F.plain_list_iadd |> (Around.under_plainId · _)]
    have st := W.frame 0 s (s.heap.push { cls := .type "list", data := .seq ([] : List Value).toArray }) s.toks ⟨hit, ht⟩ (Nat.le_refl _) (fun b _ o e => s.heap.get?_push_of_some _ e)
    have new : (s.heap.push { cls := .type "list", data := .seq ([] : List Value).toArray }).get? s.heap.objs.size = some { cls := .type "list", data := .seq ([] : List Value).toArray } := Heap.get?_push_size _ rfl
    have ne2 : Builtin.List.listSameRef (.ref s.heap.objs.size) (.ref it) = false := by simpa [Builtin.List.listSameRef] using dif
    have ty : ∀ (h' : Heap) (tk : Nat), IsTupIter h' it t k → Shared.TypeIs { s with heap := h', toks := tk } (.ref it) "tuple_iterator" := fun h' tk ⟨o, e, hc, _⟩ => ⟨o, e, hc⟩
    show wpAny _ A.in1 (Builtin.List.listExtendWith (.ref s.heap.objs.size) (.ref it) (.ref s.heap.objs.size)) _ _ _
    unfold Builtin.List.listExtendWith
    apply wpAny_bind
    refine wpAny_typeOf (ty _ _ st.1) ?_
    rw [ne2 |> fun z => if_neg (by rw [z]; decide)]
    apply wpAny_bind
    refine W.self 0 _ _ _ st ?_
    apply wpAny_bind
    apply wpAny_holding
    unfold Builtin.List.listLengthHint
    apply wpAny_bind
    refine wpAny_specialOf (ty _ _ st.1) F.nolen_tu ?_
    show wpAny _ A.in1 (specialOf (.ref it) (Str.ofString "__length_hint__") >>= _) _ _ _
    apply wpAny_bind
    refine wpAny_specialOf (ty _ _ st.1) F.hint_tu ?_
    generalize hid : ("tuple_iterator.__length_hint__" : String) = nm
    wp_delta
    rw [show splitId nm = some ("tuple_iterator", "__length_hint__") from by subst hid; decide +kernel]
    subst hid
    apply wpAny_bind
    refine wpAny_isInstance (T := "tuple_iterator") (b := true) (ty _ _ st.1) (by rw [isSubtype_type]; kernel_rfl) ?_
    apply wpAny_pure
    rw [if_neg (by decide)]
    apply wpAny_pure
    refine ⟨F.plain_extend_loop |> (plainId_quiet · _), codeAny_extend_loopS W (by omega) _ notIn _ (items.size - k) 0 _ _ _ rfl (Nat.zero_le _) st new (ItemsOf.nil _) ?_⟩
    intro s' acc n mv there ac
    show wpAny _ A (load s.heap.objs.size >>= _) _ _ s'
    apply wpAny_bind
    refine wpAny_load there ?_
    apply wpAny_pure
    have ea := items_of (P := fun _ _ => True) ac rfl
    show Q acc.toList s'
    rw [ea]
    obtain ⟨hp, g, d, tk, os⟩ := s'
    obtain ⟨m1, m2, m3, m4, m5⟩ := mv
    have e2 : s.gens = g := m2
    have e3 : d = s.drawn := m3
    have e4 : os = s.os := m4
    subst e2 e3 e4
    have big := Heap.lt_size there
    refine hQ hp tk (fun b o hb e => ?_) (Nat.le_of_lt big)
    refine m1 b o ?_ (s.heap.get?_push_of_some _ e)
    have lt := Heap.lt_size e
    intro hm
    have : b = s.heap.objs.size ∨ b = it := by simpa using hm
    rcases this with z | z
    · exact Nat.ne_of_lt lt z
    · exact hb z
theorem unpackItems_star1 {t : Addr} {items : Array Value} {x : Value} {xs : List Value} {Q : List Value → Shared → Prop} (hh : A.handled = none) (ht : IsTup s.heap t items) (hi : items.toList = x :: xs) (hsz : items.size ≤ sizeLine)
    (hQ : ∀ (h' : Heap) (tk : Nat), (∀ b o, s.heap.get? b = some o → h'.get? b = some o) → s.heap.objs.size ≤ h'.objs.size → Q [x, .ref h'.objs.size] { s with heap := h'.push { cls := .type "list", data := .seq xs.toArray }, toks := tk }) :
    wpAny (model prog w) A (unpackItems (.ref t) 2 (some 1)) Q E s := by
  have hlt : t ≠ s.heap.objs.size := by obtain ⟨o, ho, _⟩ := ht; exact Nat.ne_of_lt (Heap.lt_size ho)
  have hsize : items.size = xs.length + 1 := by
    have := congrArg List.length hi
    simpa using this
  unfold unpackItems
  refine wpAny_bind ?_
  unfold notIterableAtAll
  refine wpAny_bind (wpAny_specialOf ht.typeIs slot_tuple_iter.lookup ?_)
  refine wpAny_pure ?_
  simp only [Bool.false_eq_true, if_false]
  refine wpAny_bind (wpAny_holding (iter_tuple ht ?_))
  refine wpAny_bind (wpAny_holding (draw_tuple hlt 1 0 _ _ ⟨_, Heap.get?_push_size _ rfl, rfl, rfl⟩ (ht.push _) (by omega) fun h₁ hit₁ hs₁ => ?_))
  have hall : List.take 1 (List.drop 0 items.toList) = [x] := by rw [hi]; rfl
  rw [hall]
  rw [if_neg (by simp)]
  have ht₁ : IsTup h₁ t items := (ht.push _).extBut hs₁.extBut hlt
  have hl1 : s.heap.objs.size < h₁.objs.size := by
    obtain ⟨o, e, _⟩ := hit₁
    exact Heap.lt_size e
  refine wpAny_bind (wpAny_holding (collectTup hh hlt 1 hit₁ ht₁ hsz fun hp tk m1 m2 => ?_))
  have ea : items.toList.drop 1 = xs := by rw [hi]; rfl
  rw [ea]
  simp only [Nat.sub_self, Nat.not_lt_zero, if_false, Nat.sub_zero, List.take_length, List.drop_length, List.append_nil]
  refine wpAny_bind (wpAny_newObj_type ?_ (by show xs.length ≤ sizeLine; omega))
  refine wpAny_pure ?_
  have hk : ∀ b o, s.heap.get? b = some o → hp.get? b = some o := fun b o e => by
    have hb : b ≠ s.heap.objs.size := Nat.ne_of_lt (Heap.lt_size e)
    exact m1 b o hb (hs₁.extBut b o hb (Heap.get?_push_of_some _ e))
  exact hQ hp tk hk (Nat.le_trans (Nat.le_of_lt hl1) m2)
theorem assign_star1 {env : PySem.Env} {elts : List Expr} {x1} {pos : Pos} {t : Addr} {items : Array Value} {x : Value} {xs : List Value} {Q : Unit → Shared → Prop} (hh : A.handled = none) (ht : IsTup s.heap t items) (hi : items.toList = x :: xs) (hsz : items.size ≤ sizeLine)
    (hn : (assignEach elts env).length = 2) (hstar : (assignEach elts env).findIdx? (·.1) = some 1)
    (h : ∀ (h' : Heap) (tk : Nat), (∀ b o, s.heap.get? b = some o → h'.get? b = some o) → s.heap.objs.size ≤ h'.objs.size → wpAny (model prog w) A (assignInOrder ((assignEach elts env).map (·.2)) [x, .ref h'.objs.size]) Q E { s with heap := h'.push { cls := .type "list", data := .seq xs.toArray }, toks := tk }) :
    wpAny (model prog w) A (assign (.Tuple elts x1 pos) env (.ref t)) Q E s := by
  rw [assign_Tuple]
  refine wpAny_bind (wpAny_standAt ?_)
  unfold unpack
  rw [hn, hstar]
  exact wpAny_bind (wpAny_holding (unpackItems_star1 hh ht hi hsz h))
end
end Ev
set_option Elab.async false
set_option linter.all false
set_option autoImplicit false
set_option maxRecDepth 100000
namespace Ev
open PySem PySem.Spec PyProof.Rows L2
def gStar (f k : D → M Unit) (d : D) : M Unit := match d with
  | .tup (x :: xs) => M.bind (f x) fun _ => k (.lst xs)
  | _ => M.bad
section
variable {X : Cx} {c : Kx} {W : WX} {pos p2 : Pos} {e1 e2 : Expr} {f k : D → M Unit} {Z : St → St → Prop}
theorem og_star {kk : Nat} (hK : X.K = c.K) (hc : X.calm = true) (zr : Zr Z) (h1 : PG X e1 (tG c W Z f)) (h2 : PG X e2 (tG c W Z k)) (hn : (assignEach [e1, .Starred e2 p2] X.env).length = 2) (hst : (assignEach [e1, .Starred e2 p2] X.env).findIdx? (·.1) = some 1)
    (hs : (assignEach [e1, .Starred e2 p2] X.env).map (·.2) = [assign e1 X.env, assign e2 X.env]) : PG X (.Tuple [e1, .Starred e2 p2] kk pos) (tG c W Z (gStar f k)) := by
  refine ⟨fun pins s σ H v u Q I r ⟨g, d, R, rr, hh⟩ => ?_⟩
  unfold gStar at hh
  split at hh
  · rename_i x xs
    simp only [Rep] at rr
    obtain ⟨a, vs, rfl, hq, rs⟩ := rr
    simp only [RepL] at rs
    obtain ⟨v1, vr, rfl, r1, rs⟩ := rs
    cases r
    have hq' : SqT X.K H a (v1 :: vr) := by rw [hK]; exact sqT_of R.b.fh hq
    obtain ⟨its, rv, ht, hz⟩ := I.tuple hq'
    cases rv with
    | cons ru rvr =>
      rename_i u1 ur
      have hz2 : (u1 :: ur).toArray.size ≤ sizeLine := by
        have e := rvr.length
        have hz' : vr.length + 1 ≤ sizeLine := by simpa using hz
        simp
        omega
      refine assign_star1 (x := u1) (xs := ur) (I.ok.hd hc) ht (by simp) hz2 hn hst fun h' tk hkeep hle => ?_
      rw [hs]
      have hl := rvr.length
      have hz' : vr.length + 1 ≤ sizeLine := by simpa using hz
      have hz2 : vr.length ≤ sizeLine := by
        omega
      have I1 : Inv X pins σ (upd H h'.objs.size (.lst vr)) { s with heap := h'.push { cls := .type "list", data := .seq ur.toArray }, toks := tk } :=
        I.laid (fun b o e => Heap.get?_push_of_some _ (hkeep b o e)) hle ⟨hz2, ur, 0, rvr, Heap.get?_push_size _ rfl⟩
      obtain ⟨R1, x1⟩ := R.grow (o := .lst vr) (I.hok.fresh hle)
      have h0 := hh.at_ x1 rfl rfl
      refine assignInOrder_cons (thn (h1.run pins _ σ _ v1 u1 (fun σ' H' => Z σ σ' ∧ ∃ g', GExt { g with F := upd g.F h'.objs.size (.lst vr) } g' ∧ Rel c g' σ' H' ∧ After2 c W g' (k (.lst xs) g'.ρ g'.S) fun _ _ σ'' H'' => Z σ σ'' → Q σ'' H'') I1 ru ⟨_, x, R1, r1.ext x1.e, (After2.bind h0).imp fun _ g2 σ2 H2 x2 R2 q z => ⟨z, g2, x2, R2, q⟩⟩) fun _ s2 hs2 => ?_)
      obtain ⟨σ2, H2, I2, z2, g2, x2, R2, q2⟩ := hs2
      refine assignInOrder_cons (thn (h2.run pins _ σ2 H2 (.ref h'.objs.size) _ Q I2 rfl ⟨g2, .lst xs, R2, ?_, q2.imp fun _ g3 σ3 H3 x3 R3 q z => q (zr.trans _ _ _ z2 z)⟩) fun _ s3 hs3 => assignInOrder_nil hs3)
      simp only [Rep]
      exact ⟨_, vr, rfl, x2.e.f _ _ (by simp [upd]), (rs.ext x1.e).ext x2.e⟩
  · exact hh.elim
theorem RepL.set_at {F : Hp} {m : List Addr} {d : D} {v : V} (r : Rep c F m d v) : ∀ {ds : List D} {vs : List V} (i : Nat), RepL c F m ds vs → RepL c F m (ds.set i d) (vs.set i v)
  | [], vs, i, h => by simp only [RepL] at h; subst h; simp [RepL]
  | x :: xs, vs, i, h => by
    simp only [RepL] at h
    obtain ⟨w, t, rfl, h1, h2⟩ := h
    cases i with
    | zero => exact RepL.cons_ r h2
    | succ i => exact RepL.cons_ h1 (RepL.set_at r i h2)
theorem Rel.put {g : Gs} {σ : St} {H : Hp} (R : Rel c g σ H) {n : Nat} {a : Addr} {xs ys : List D} {vs : List V} (hm : g.m[n]? = some a) (hS : g.S[n]? = some (.lst xs)) (r : RepL c g.F g.m ys vs) :
    Rel c { g with S := g.S.set n (.lst ys) } σ (upd H a (.lst vs)) := by
  obtain ⟨q1, q2, q3⟩ := R.b.cl n _ a hS hm
  have q2 := q2.none_ fun fs h => nomatch h
  have hn : n < g.S.length := (List.getElem?_eq_some_iff.mp hS).1
  refine ⟨⟨fun b o h => ?_, fun b o h => ?_, R.b.fg, by simp [R.b.ml], R.b.md, fun k x b h1 h2 => ?_⟩, R.ln, R.sf, fun i zs h => ?_, R.sd, R.sx⟩
  · rw [upd_ne (fun z => by subst z; rw [q1] at h; cases h)]; exact R.b.fh b o h
  · rw [upd_ne (fun z => by subst z; have h : g.G b = some o := h; rw [q2] at h; cases h)]; exact R.b.gh b o h
  · by_cases z : k = n
    · subst z
      have h2 : g.m[k]? = some b := h2
      rw [hm] at h2; cases h2
      have h1 : (g.S.set k (.lst ys))[k]? = some x := h1
      rw [List.getElem?_set_self hn] at h1
      cases h1
      exact ⟨q1, .inl q2, vs, upd_same, r⟩
    · have h1 : (g.S.set n (.lst ys))[k]? = some x := h1
      rw [List.getElem?_set_ne (Ne.symm z)] at h1
      have nb : b ≠ a := fun e => by
        subst e
        obtain ⟨l1, e1⟩ := List.getElem?_eq_some_iff.mp hm
        obtain ⟨l2, e2⟩ := List.getElem?_eq_some_iff.mp (show g.m[k]? = some b from h2)
        have e3 : g.m[k] = g.m[n] := e2.trans e1.symm
        have pw := List.pairwise_iff_getElem.mp R.b.md
        rcases Nat.lt_or_gt_of_ne z with q | q
        · exact pw k n l2 l1 q e3
        · exact pw n k l1 l2 q e3.symm
      obtain ⟨p1, p2, p3⟩ := R.b.cl k x b h1 h2
      exact ⟨p1, p2, by rw [upd_ne nb]; exact p3⟩
  · obtain ⟨b, ws, e1, h1, rs, h2, h3, h4⟩ := R.so i zs h
    have nb : b ≠ a := fun e => by subst e; exact h4 (List.mem_of_getElem? hm)
    exact ⟨b, ws, e1, by rw [upd_ne nb]; exact h1, rs, h2, h3, h4⟩
def gPut (mo mi : M D) (d : D) : M Unit := M.bind mo fun x => M.bind mi fun k => mPut x k d
theorem og_put {o i : Expr} {mo mi : M D} (hK : X.K = c.K) (ho : PE X o (tM c W mo)) (hi : PE X i (tM c W mi)) (zr : Zr Z)
    (ha : ∀ v, assign (.Subscript o i pos) X.env v = (do
      let ov ← holding [v] (eval o X.env)
      let iv ← holding [v, ov] (eval i X.env)
      standAt pos
      holding [v, ov, iv] (setItem ov iv v)
      release [v, ov, iv] [])) : PG X (.Subscript o i pos) (tG c W Z (gPut mo mi)) := by
  refine PG.weak (pg_sub ho hi set_list ha) fun v σ H Q ⟨g, d, R, r, h⟩ => ⟨g, R, ((After2.bind h).one σ).imp fun x g1 H1 x1 R1 q xv rx => ⟨g1, R1, ((After2.bind q).one σ).imp fun k g2 H2 x2 R2 q2 kv rk => ?_⟩⟩
  unfold mPut at q2
  cases x with
  | ref n =>
    cases k with
    | int k =>
      cases eS : g2.S[n]? with
      | none => simp only [eS] at q2; exact q2.elim
      | some cell =>
        cases cell with
        | dct _ => simp only [eS] at q2; exact q2.elim
        | ins _ _ => simp only [eS] at q2; exact q2.elim
        | lst xs =>
          simp only [eS] at q2
          by_cases z : 0 ≤ k ∧ k.toNat < xs.length
          · rw [if_pos z] at q2
            simp only [Rep] at rx rk
            obtain ⟨a, hm, rfl⟩ := rx
            subst rk
            have hm2 := x2.e.at_ hm
            obtain ⟨p1, p2, vs, hv, rs⟩ := R2.b.cl n _ a eS hm2
            have rd := (r.ext x1.e).ext x2.e
            have R3 := R2.put hm2 eS (RepL.set_at rd k.toNat rs)
            refine ⟨a, vs, k, k.toNat, rfl, rfl, hv, ?_, After2.app q2 R3 ⟨.refl, rfl⟩ rfl rfl (zr.refl _)⟩
            have hl := repL_length rs
            have z2 := z.2
            unfold ixN
            rw [if_pos z.1, if_pos (by omega)]
          · rw [if_neg z] at q2; exact q2.elim
    | non => exact q2.elim
    | bl b => exact q2.elim
    | str b => exact q2.elim
    | tup b => exact q2.elim
    | lst b => exact q2.elim
    | dic b => exact q2.elim
    | ref b => exact q2.elim
    | scr b => exact q2.elim
  | non => exact q2.elim
  | bl b => exact q2.elim
  | int b => exact q2.elim
  | str b => exact q2.elim
  | tup b => exact q2.elim
  | lst b => exact q2.elim
  | dic b => exact q2.elim
  | scr b => exact q2.elim
/-- a new cell -/
def xCel (ms : M (List D)) : M D := M.bind ms fun ds => if ds.length ≤ SZ then mCell ds else M.bad
theorem Rel.newCell {g : Gs} {σ : St} {H : Hp} (R : Rel c g σ H) {p : Addr} {ds : List D} {vs : List V} (hp : H p = none) (r : RepL c g.F g.m ds vs) :
    Rel c { g with m := g.m ++ [p], S := g.S ++ [.lst ds] } σ (upd H p (.lst vs)) ∧ GExt g { g with m := g.m ++ [p], S := g.S ++ [.lst ds] } := by
  obtain ⟨f1, f2, f3⟩ := R.fresh hp
  have R0 := R.grow0 (o := .lst vs) hp
  have ex : Ext g.F g.m g.F (g.m ++ [p]) := ⟨fun _ _ h => h, [p], rfl⟩
  refine ⟨⟨⟨R0.b.fh, R0.b.gh, R.b.fg, by simp [R.b.ml], ?_, fun n x a h1 h2 => ?_⟩, R.ln, fun i d h => ?_, fun i xs h => ?_, R.sd, R.sx⟩, ex, rfl⟩
  · rw [List.nodup_append]
    exact ⟨R.b.md, by simp, fun a ha b hb => by simp at hb; subst hb; exact fun z => f3 (z ▸ ha)⟩
  · have h1 : (g.S ++ [Cell.lst ds])[n]? = some x := h1
    have h2 : (g.m ++ [p])[n]? = some a := h2
    by_cases z : n < g.S.length
    · rw [List.getElem?_append_left z] at h1
      rw [List.getElem?_append_left (by rw [R.b.ml]; exact z)] at h2
      obtain ⟨q1, q2, q3⟩ := R0.b.cl n x a h1 h2
      refine ⟨q1, q2, ?_⟩
      exact q3.ext ex
    · rw [List.getElem?_append_right (by omega)] at h1
      rw [List.getElem?_append_right (by rw [R.b.ml]; omega)] at h2
      rw [R.b.ml] at h2
      cases hk : n - g.S.length with
      | zero =>
        rw [hk] at h1 h2
        simp at h1 h2
        subst h1 h2
        exact ⟨f1, .inl f2, vs, upd_same, r.ext ex⟩
      | succ k => rw [hk] at h1; simp at h1
  · obtain ⟨v, e1, r1⟩ := R.sf i d h
    exact ⟨v, e1, r1.ext ex⟩
  · obtain ⟨a, ws, e1, h1, r1, h2, h3, h4⟩ := R0.so i xs h
    refine ⟨a, ws, e1, h1, r1.ext ex, h2, h3, fun hm => ?_⟩
    have hm : a ∈ g.m ++ [p] := hm
    rcases List.mem_append.mp hm with z | z
    · exact h4 z
    · simp at z
      obtain ⟨b, us, e2, p1, _⟩ := R.so i xs h
      rw [e1] at e2; cases e2
      rw [z, hp] at p1; cases p1
theorem ok_cel {es : List Expr} {ms : M (List D)} (h : PA X es (tA c W ms)) : PE X (.List es pos) (tM c W (xCel ms)) := by
  refine PE.weak (pe_lst h) fun σ H Q ⟨g, R, h⟩ => ⟨g, R, (After.bind h).imp fun ds g1 H1 x1 R1 h1 vs rs => ?_⟩
  have hl := repL_length rs
  by_cases z : ds.length ≤ SZ
  · rw [if_pos z] at h1
    refine ⟨by rw [sizeLine_eq, hl]; exact z, fun p hp => ?_⟩
    obtain ⟨R2, x2⟩ := R1.newCell hp rs
    refine After.app h1 R2 x2 rfl rfl (.ref p) ?_
    simp only [Rep]
    exact ⟨p, by show (g1.m ++ [p])[g1.S.length]? = some p; rw [← R1.b.ml]; simp, rfl⟩
  · rw [if_neg z] at h1; exact h1.elim
end
end Ev
set_option Elab.async false
set_option linter.all false
set_option autoImplicit false
set_option maxRecDepth 100000
set_option maxHeartbeats 1000000
set_option Elab.async false
set_option linter.all false
set_option autoImplicit false
set_option maxRecDepth 100000
namespace Ev
open PySem PySem.Spec PyProof.Rows L2
def zsOf (ds : List D) : M (List D) := match ds with
  | [.tup xs, .tup ys] => if xs.length = ys.length then M.pure (zipD xs ys) else M.bad
  | _ => M.bad
def mZs (ms : M (List D)) : M (List D) := M.bind ms zsOf
end Ev
set_option Elab.async false
set_option linter.all false
set_option autoImplicit false
set_option maxRecDepth 100000
namespace Ev
open PySem PySem.Spec PyProof.Rows L2
def sRai (n : Nat) : M Flow := fun ρ S => .exc ⟨n, []⟩ ρ S
def sTry (b : M Flow) (sb : Nat → Bool) (h : M Flow) : M Flow := fun ρ S => match b ρ S with
  | .exc x ρ' S' => if sb x.c then noX h ρ' S' else .exc x ρ' S'
  | r => r
theorem After2.noX {α : Type} {c : Kx} {W : WX} {g : Gs} {m : M α} {ρ : Env} {S : Sto} {ok : α → Gs → St → Hp → Prop} (h : After2 c W g (Ev.noX m ρ S) ok) : After2 c W0 g (m ρ S) ok := by
  unfold Ev.noX at h
  cases e : m ρ S with
  | ok a ρ S => rw [e] at h; exact h
  | exc x ρ S => rw [e] at h; exact h.elim
  | bad => rw [e] at h; exact h
section
variable {X : Cx} {c : Kx} {W : WX} {pos : Pos}
theorem os_raise {C : Addr} {n : Nat} {e : Expr} (hc : X.calm = true) (tk : Takes X W) (n0 : n ≠ 0) (hca : c.ca n = some C) (h : PMk X e (fun _ H Q => Q (.ref C) none H)) : PS X (.Raise (some e) none pos) (tS c W (sRai n)) :=
  PS.weak (ps_raise hc tk h) fun D σ H ⟨g, R, h⟩ => h g σ H (.ref C) none rfl rfl .refl R ⟨rfl, rfl, n0, C, hca, rfl⟩
theorem os_try {x : Str} {cv : Value} {body suite : List Stmt} {b₀ : Stmt} {np pos' : Pos} {b h : M Flow} {sb : Nat → Bool} (hs : X.stack = X.env :: X.outer) (hf : X.env.frame = some X.env.locals) (hc : Names X x cv) (tk : Takes X W)
    (hx : ∀ n C, n ≠ 0 → c.ca n = some C → PySem.W.exmOne X.K (.ref C) cv = some (sb n))
    (hb : ∀ (W : WX) (pn : List (Addr × Obj)) (xe : Value → Shared → Prop), Takes (X.tr pn xe) W → PassesOwn (model X.prog X.w) X.A X.env xe → PSs (X.tr pn xe) body (tS c W b))
    (hsu : ∀ (a : Addr) (oe : Obj) (pn : List (Addr × Obj)), PSs (X.suite a ((a, oe) :: pn)) (b₀ :: suite) (tS c W0 h)) :
    PS X (.Try body [.ExceptHandler (some (.Name x np)) none (b₀ :: suite) pos'] [] [] pos) (tS c W (sTry b sb h)) := by
  refine PS.weak (ps_try_only (Wout := W) (tb := fun W => tS c W b) (ts := fun _ _ _ => tS c W0 h) hs hf hc tk hb fun a oe cls d pn _ _ => hsu a oe pn) fun D σ H ⟨g, R, h0⟩ => ⟨g, R, ?_⟩
  unfold sTry at h0
  revert h0
  cases e : b g.ρ g.S with
  | ok f ρ S => exact fun z => z
  | bad => exact fun z => z
  | exc x ρ S =>
    intro h0 g' σ' H' cls d e1 e2 x1 R1 r
    obtain ⟨z1, z2, z0, C, hC, z3⟩ := id r
    refine ⟨sb x.c, by rw [z3]; exact hx _ _ z0 hC, fun hb a _ => ?_, fun hb => ?_⟩
    · have h0 : After2 c W g (if sb x.c = true then noX h ρ S else .exc x ρ S) (flowOk c D) := h0
      rw [if_pos hb] at h0
      refine ⟨g', R1, ?_⟩
      rw [e1, e2]
      exact (After2.noX h0).shift x1
    · have h0 : After2 c W g (if sb x.c = true then noX h ρ S else .exc x ρ S) (flowOk c D) := h0
      rw [hb] at h0
      exact h0 g' σ' H' cls d e1 e2 x1 R1 r
def mCalk (P : Prm) (f n m : Nat) (ms mk : M (List D)) (src : List (Sum Nat D)) : M D := M.bind ms fun ds => M.bind mk fun es => if ds.length = n ∧ es.length = m then M.bind (M.of (srcOf (ds ++ es) src)) fun l => mCall P f l else M.bad
end
end Ev
set_option Elab.async false
set_option linter.all false
set_option autoImplicit false
set_option maxRecDepth 100000
namespace Ev
open PySem PySem.Spec PyProof.Rows L2
/-- a def: parameters, slots, what its body means -/
structure FD where
  np : Nat
  ns : Nat
  body : Prm → M Flow
def runD (P : Prm) (fd : FD) (ds : List D) (S : Sto) : CR :=
  if ds.length = fd.np then match fd.body P ((ds.map fun d => some (.fz d)) ++ List.replicate (fd.ns - ds.length) none) S with
    | .ok .nx _ S' => .ok .non S'
    | .ok (.rt d) _ S' => .ok d S'
    | .ok (.rl xs) _ S' => .okl xs S'
    | .ok _ _ _ => .bad
    | .exc x _ S' => .exc x S'
    | .bad => .bad
  else .bad
structure Tb where
  fn : Nat → Option FD
  shown : D → Option Txt
  fuel : Nat
def Tb.prm (T : Tb) (c : Call) : Prm := { call := c, shown := T.shown, sub := fun _ _ => false, flds := fun _ => [], fuel := T.fuel }
def callT (T : Tb) : Nat → Call
  | 0 => fun _ _ _ => .bad
  | k + 1 => fun f ds S => match T.fn f with
    | none => .bad
    | some fd => runD (T.prm (callT T k)) fd ds S
theorem start_rel {c : Kx} {g : Gs} {N : List Str} {ds : List D} {vs : List V} {H : Hp} (R : RelB c g.G g.F g.m g.S H) (rs : RepL c g.F g.m ds vs) :
    Rel c { g with ρ := (ds.map fun d => some (.fz d)) ++ List.replicate (N.length - ds.length) none } (start N vs) H := by
  have hl := repL_length rs
  have low : ∀ {i : Nat} {sv : SV}, ((ds.map fun d => some (SV.fz d)) ++ List.replicate (N.length - ds.length) none)[i]? = some (some sv) → ∃ d, ds[i]? = some d ∧ sv = .fz d := fun {i sv} h => by
    by_cases z : i < ds.length
    · rw [List.getElem?_append_left (by simpa using z), List.getElem?_map] at h
      cases e : ds[i]? with
      | none => rw [e] at h; cases h
      | some d => rw [e] at h; cases h; exact ⟨d, rfl, rfl⟩
    · rw [List.getElem?_append_right (by simpa using z), List.getElem?_replicate] at h
      split at h <;> cases h
  refine ⟨R, by simp [L2.start, hl], fun i d h => ?_, fun i xs h => ?_, fun i j xs ys a _ h => ?_, fun i x h => (low h).elim fun d q => by cases q.2⟩
  · obtain ⟨d', e, z⟩ := low h
    cases z
    obtain ⟨v, ev, r⟩ := repL_at rs e
    refine ⟨v, ?_, r⟩
    have hv : i < vs.length := (List.getElem?_eq_some_iff.mp ev).1
    unfold L2.start
    rw [List.getElem?_append_left (by simpa using hv), List.getElem?_map, ev]
    rfl
  · obtain ⟨_, _, z⟩ := low h
    cases z
  · obtain ⟨_, _, z⟩ := low h
    cases z
section
variable {P : PySem.Program} {w : World} {K : PySem.W.Frag} {mg : Str → Option Value} {base : Heap} {x qual : Str} {params : Arguments} {body : List Stmt} {scope : Scope} {dvs : List V} {kws : List (Str × V)} {f : Addr} {fd : FuncData} {N ps : List Str} {k : Nat}
/-- the body's reading gives the def's promise -/
theorem fn_of {c : Kx} {T : Tb} {nf : Nat} {d : FD} (F : FunD K x qual params body scope dvs kws f fd) (S : FnScope N ps scope) (hT : T.fn nf = some d) (hnp : d.np = ps.length) (hns : d.ns = N.length)
    (hb : ∀ (cdv : Value) (A : Around) (outer : List PySem.Env) (s : Shared) (H : Hp) (E : XK), Room (2 * k + 1) (A.deeper (envOfC qual scope s.heap.objs.size f cdv)) → (A.deeper (envOfC qual scope s.heap.objs.size f cdv)).guards = some [] →
      PSs (cxOf (L2.CX P w) P w K mg base N qual scope f cdv A outer s H E) body (tS c (fun cls d _ H => E cls d H) (d.body (T.prm (callT T k))))) : FnG P w K mg base (k + 1) f fd ps (spF c (callT T (k + 1)) nf ps.length) := by
  refine fnG_of F S (fun vs H Q E ⟨g, ds, _, _, rs, hl, _⟩ => (repL_length rs).trans hl) fun cdv A outer s H vs Q E hr hg hsp => ⟨_, hb cdv A outer s H E hr hg, ?_⟩
  obtain ⟨g, ds, _, R, rs, hl, h⟩ := hsp
  have h : (match (match T.fn nf with | none => CR.bad | some fd => runD (T.prm (callT T k)) fd ds g.S) with | .ok d S' => _ | .okl xs S' => _ | .exc x S' => _ | .bad => False) := h
  rw [hT] at h
  have h : (match runD (T.prm (callT T k)) d ds g.S with
    | .ok d S' => ∀ v H' F' m', RelB c g.G F' m' S' H' → Ext g.F g.m F' m' → Rep c F' m' d v → Q v H'
    | .okl xs S' => ∀ a vs H' F' m', RelB c g.G F' m' S' H' → Ext g.F g.m F' m' → H' a = some (.lst vs) → RepL c F' m' xs vs → F' a = none → g.G a = none → a ∉ m' → Q (.ref a) H'
    | .exc x S' => ∀ cls dd H' F' m', RelB c g.G F' m' S' H' → Ext g.F g.m F' m' → ExnR c x cls dd H' → E cls dd H'
    | .bad => False) := h
  unfold runD at h
  rw [if_pos (hl.trans hnp.symm), hns] at h
  refine ⟨{ g with ρ := (ds.map fun d => some (.fz d)) ++ List.replicate (N.length - ds.length) none }, start_rel R rs, ?_⟩
  revert h
  show _ → After2 c _ _ (d.body (T.prm (callT T k)) ((ds.map fun d => some (.fz d)) ++ List.replicate (N.length - ds.length) none) g.S) _
  cases d.body (T.prm (callT T k)) ((ds.map fun d => some (.fz d)) ++ List.replicate (N.length - ds.length) none) g.S with
  | bad => exact fun z => z.elim
  | exc y ρ S =>
    intro h g' σ' H' cls dd e1 e2 x1 R1 r
    have hG : g'.G = g.G := x1.pr
    refine h cls dd H' g'.F g'.m ?_ x1.e r
    rw [← hG, ← e2]; exact R1.b
  | ok fl ρ S =>
    cases fl with
    | nx =>
      intro h g' σ' H' e1 e2 x1 R1
      have hG : g'.G = g.G := x1.pr
      refine h .non H' g'.F g'.m ?_ x1.e (by simp [Rep])
      rw [← hG, ← e2]; exact R1.b
    | rt v =>
      intro h g' σ' H' e1 e2 x1 R1 u r
      have hG : g'.G = g.G := x1.pr
      refine h u H' g'.F g'.m ?_ x1.e r
      rw [← hG, ← e2]; exact R1.b
    | rl xs =>
      intro h g' σ' H' e1 e2 x1 R1 a H2 R2 L
      have hG : g'.G = g.G := x1.pr
      obtain ⟨vs, hv, rv⟩ := L.ex
      refine h a vs H2 g'.F g'.m ?_ x1.e hv rv L.f (by rw [← hG]; exact L.gn) L.mn
      rw [← hG, ← e2]; exact R2.b
    | br => exact fun z => z.elim
    | ct => exact fun z => z.elim
end
end Ev
set_option Elab.async false
set_option linter.all false
set_option autoImplicit false
set_option maxRecDepth 100000
namespace Ev
open PySem PySem.Spec PyProof.Rows L2
/-- the ground of a walk -/
structure Bg (X : Cx) (c : Kx) (W : WX) (k : Nat) (ht : Bool := false) : Prop where
  hK : X.K = c.K
  hw : X.w = c.w
  hr : ht = false → Room (2 * k + 1) X.A
  hh : L2H.RoomH (2 * k + 1) X.A
  hg : X.A.guards = some []
  hN : X.N.Nodup
  tk : Takes X W
  hc : ht = false → X.calm = true
  sm : SmOk c.K
theorem Bg.hu {X : Cx} {c : Kx} {W : WX} {k : Nat} {ht : Bool} (B : Bg X c W k ht) : X.A.units + 65 < cLine := by have := B.hh.un; omega
theorem takes_blk {X : Cx} : Takes X W0 := fun u s' x => by
  obtain ⟨_, _, _, _, _, _, _, _, _, _, _, _, _, _, _, _, z⟩ := x
  exact z.elim
theorem Bg.blk {X : Cx} {c : Kx} {W : WX} {k : Nat} {ht : Bool} (B : Bg X c W k ht) {s : Shared} {H : Hp} {scope : Scope} {cenv : PySem.Env} {fp : List Addr} : Bg (X.blk s H scope cenv fp) c W0 k ht :=
  ⟨B.hK, B.hw, B.hr, B.hh, B.hg, B.hN, takes_blk, B.hc, B.sm⟩
theorem Bg.tr {X : Cx} {c : Kx} {W W' : WX} {k : Nat} (B : Bg X c W k) {pn : List (Addr × Obj)} {xe : Value → Shared → Prop} (tk : Takes (X.tr pn xe) W') : Bg (X.tr pn xe) c W' k :=
  ⟨B.hK, B.hw, B.hr, B.hh, B.hg, B.hN, tk, B.hc, B.sm⟩
theorem bg_of {P : PySem.Program} {w : World} {K : PySem.W.Frag} {mg : Str → Option Value} {base : Heap} {N : List Str} {qual : Str} {scope : Scope} {f : Addr} {cdv : Value} {A : Around} {outer : List PySem.Env} {s : Shared} {H : Hp} {E : XK} {k : Nat} {ca : Nat → Option Addr}
    (hr : Room (2 * k + 1) (A.deeper (envOfC qual scope s.heap.objs.size f cdv))) (hg : (A.deeper (envOfC qual scope s.heap.objs.size f cdv)).guards = some []) (hN : N.Nodup) (sm : SmOk K) :
    Bg (cxOf (L2.CX P w) P w K mg base N qual scope f cdv A outer s H E) ⟨K, w, ca⟩ (fun cls d _ H => E cls d H) k :=
  ⟨rfl, rfl, fun _ => hr, L2H.roomH_of hr, hg, hN, takes_of rfl rfl rfl rfl, fun _ => rfl, sm⟩
def visB (sc : Scope) (x : Str) : Bool := (sc.names.lookup x == some .local || (sc.names.lookup x == some .cell || sc.names.lookup x == some .free)) && (!(x == ("__debug__" : Str)) && !(x == ("__classdict__" : Str)))
theorem nk_eq {a b : Option NameKind} (h : (a == b) = true) : a = b := by
  cases a <;> cases b <;> first | rfl | (rename_i p; cases p <;> cases h) | (rename_i p q; cases p <;> cases q <;> first | rfl | cases h)
theorem vis_of {sc : Scope} {x : Str} (h : visB sc x = true) : Vis sc x ∧ (x == ("__debug__" : Str)) = false ∧ (x == ("__classdict__" : Str)) = false := by
  unfold visB at h
  simp only [Bool.and_eq_true, Bool.or_eq_true, Bool.not_eq_true'] at h
  obtain ⟨h1, h2, h3⟩ := h
  refine ⟨?_, h2, h3⟩
  rcases h1 with h1 | h1 | h1
  · exact .inl (nk_eq h1)
  · exact .inr (.inl (nk_eq h1))
  · exact .inr (.inr (nk_eq h1))
def locB (sc : Scope) (x : Str) : Bool := sc.names.lookup x == some .local || sc.names.lookup x == some .cell
theorem loc_of {sc : Scope} {x : Str} (h : locB sc x = true) : Loc sc x := by
  unfold locB at h
  simp only [Bool.or_eq_true] at h
  rcases h with h | h
  · exact .inl (nk_eq h)
  · exact .inr (nk_eq h)
def fnB (X : Cx) (x : Str) : Bool := X.fn x || X.env.scope.names.lookup x == some .local
theorem fn_of_ {X : Cx} {x : Str} (h : fnB X x = true) : X.fn x = true ∨ X.env.scope.names.lookup x = some .local := by
  unfold fnB at h
  simp only [Bool.or_eq_true] at h
  rcases h with h | h
  · exact .inl h
  · exact .inr (nk_eq h)
def aNil : M (List D) := M.pure []
def aCons (m : M D) (ms : M (List D)) : M (List D) := M.bind m fun d => M.bind ms fun ds => M.pure (d :: ds)
def xTup (ms : M (List D)) : M D := M.bind ms fun ds => if ds.length ≤ SZ then M.pure (.tup ds) else M.bad
def fLst (ms : M (List D)) : M (List D) := M.bind ms fun ds => if ds.length ≤ SZ then M.pure ds else M.bad
def xFz (ms : M (List D)) : M D := M.bind ms fun xs => M.pure (.lst xs)
def xBin (o : Bop) (ma mb : M D) : M D := M.bind ma fun x => M.bind mb fun y => M.of (bop o x y)
def fAdd (ma mb : M D) : M (List D) := M.bind (xBin .add ma mb) asLst
def fMul (ma mb : M D) : M (List D) := M.bind (xBin .mul ma mb) asLst
def fList (m : M D) : M (List D) := M.bind m mLst
def negD (d : D) : M D := match d with | .int i => M.pure (.int (-i)) | _ => M.bad
def xNeg (ma : M D) : M D := M.bind ma fun x => match x with | .int i => M.pure (.int (-i)) | _ => M.bad
def xCmp (o : Cop) (ma mb : M D) : M D := M.bind ma fun x => M.bind mb fun y => M.bind (M.of (cop o x y)) fun l => M.pure (.bl l)
def xIdx (ma mb : M D) : M D := M.bind ma fun x => M.bind mb fun k => mIdx x k
def xBi (b : Bi) (ms : M (List D)) : M D := M.bind ms fun ds => M.of (bip shownD b ds)
def xLen (m : M D) : M D := M.bind m fun x => M.of (bip shownD .len [x])
def xIsi (m : M D) (T : Ty) : M D := M.bind m fun x => M.bind (M.of (isTy T x)) fun k => M.pure (.bl k)
def xCall (P : Prm) (n np : Nat) (ms : M (List D)) : M D := M.bind ms fun ds => if ds.length = np then mCall P n ds else M.bad
section
variable {X : Cx} {c : Kx} {W : WX} {k : Nat} {pos p : Pos} {a b d e : Expr} {es : List Expr} {ma mb mc md m : M D} {ms : M (List D)}
theorem k_var {ht : Bool} (B : Bg X c W k ht) (i : Nat) {x : Str} (hN : X.N[i]? = some x) (hv : visB X.env.scope x = true) : PE X (.Name x pos) (tM c W (mVar i)) := ok_var hN (vis_of hv).1 (vis_of hv).2.1 (vis_of hv).2.2
theorem k_bvar {ht : Bool} (B : Bg X c W k ht) (i : Nat) {x : Str} (hN : X.N[i]? = some x) (hv : visB X.env.scope x = true) : PE X (.Name x pos) (tBo c W (mBor i)) := ok_bvar hN (vis_of hv).1 (vis_of hv).2.1 (vis_of hv).2.2
theorem k_svar {ht : Bool} (B : Bg X c W k ht) (i : Nat) {x : Str} (hN : X.N[i]? = some x) (hv : visB X.env.scope x = true) : PE X (.Name x pos) (tSi c W (mVar i)) := ok_svar hN (vis_of hv).1 (vis_of hv).2.1 (vis_of hv).2.2
theorem k_str {x : Str} {j : Nat} (l : Txt) (h : x.cps.toList = l) : PE X (.Constant (.str x) j pos) (tM c W (M.pure (.str l))) := by subst h; exact ok_str
theorem k_sstr {x : Str} {j : Nat} (l : Txt) (h : x.cps.toList = l) : PE X (.Constant (.str x) j pos) (tSi c W (M.pure (.str l))) := by subst h; exact ok_scst pe_str fun _ _ => by simp [Rep, toStr]
theorem k_sint {i : Int} {j : Nat} : PE X (.Constant (.int i) j pos) (tSi c W (M.pure (.int i))) := ok_scst pe_int fun _ _ => by simp [Rep]
/-- a module's constant -/
structure Gc (mg : Str → Option Value) (c : Kx) (x : Str) (dv : D) : Prop where
  g : ∃ u v, mg x = some u ∧ RelV v u ∧ ∀ F m, Rep c F m dv v
theorem Gc.pe {x : Str} {dv : D} (G : Gc X.mg c x dv) (hg : Gl X x) (hd : (x == ("__debug__" : Str)) = false) : ∃ v, PE X (.Name x pos) (tC v) ∧ ∀ F m, Rep c F m dv v := by
  obtain ⟨u, v, h1, h2, h3⟩ := G.g
  exact ⟨v, ⟨fun pins s σ H Q I q => ld_glob I hg h1 ⟨v, H, I, h2, q⟩ hd⟩, h3⟩
theorem k_glo {x : Str} {dv : D} (G : Gc X.mg c x dv) (hg : Gl X x) (hd : (x == ("__debug__" : Str)) = false) : PE X (.Name x pos) (tM c W (M.pure dv)) := by
  obtain ⟨v, h, r⟩ := G.pe hg hd
  exact ok_cst h r
theorem k_sglo {x : Str} {dv : D} (G : Gc X.mg c x dv) (hg : Gl X x) (hd : (x == ("__debug__" : Str)) = false) : PE X (.Name x pos) (tSi c W (M.pure dv)) := by
  obtain ⟨v, h, r⟩ := G.pe hg hd
  exact ok_scst h r
theorem k_nil : PA X [] (tA c W aNil) := ok_nil
theorem k_cons (ha : PE X e (tM c W m)) (hr : PA X es (tA c W ms)) (hs : starEach (e :: es) X.env = (false, eval e X.env) :: starEach es X.env) : PA X (e :: es) (tA c W (aCons m ms)) := ok_cons ha hr hs
theorem k_tup {j : Nat} (h : PA X es (tA c W ms)) : PE X (.Tuple es j pos) (tM c W (xTup ms)) := ok_tup h
theorem kF_lst (h : PA X es (tA c W ms)) : PE X (.List es pos) (tF c W (fLst ms)) := okF_lst h
theorem k_fz (h : PE X e (tF c W ms)) : PE X e (tM c W (xFz ms)) := ok_ofF h
theorem k_bin {ht : Bool} (B : Bg X c W k ht) (o : Bop) (ha : PE X a (tM c W ma)) (hb : PE X b (tM c W mb)) : PE X (.BinOp a (bopOf o) b pos) (tM c W (xBin o ma mb)) := ok_bin B.hK ha hb
theorem k_cmp2 {ht : Bool} (B : Bg X c W k ht) (o : Cop) (ha : PE X a (tBo c W ma)) (hb : PE X b (tSi c W mb)) (hm : behindInMarks (copOf o) b = false) : PE X (.Compare a [copOf o] [b] pos) (tM c W (xCmp o ma mb)) := ok_cmp2 B.hK B.hw B.hu o ha hb hm
theorem kT_cmp {ht : Bool} (B : Bg X c W k ht) (o : Cop) (ha : PE X a (tM c W ma)) (hb : PE X b (tBo c W mb)) (hm : behindInMarks (copOf o) b = false) : PT X (.Compare a [copOf o] [b] pos) (tB c W (mT (xCmp o ma mb))) := okT_cmp B.hK B.hw B.hu o ha hb hm
theorem kT_cmp2 {ht : Bool} (B : Bg X c W k ht) (o : Cop) (ha : PE X a (tBo c W ma)) (hb : PE X b (tSi c W mb)) (hm : behindInMarks (copOf o) b = false) : PT X (.Compare a [copOf o] [b] pos) (tB c W (mT (xCmp o ma mb))) := okT_cmp2 B.hK B.hw B.hu o ha hb hm
theorem kT_of {ht : Bool} (B : Bg X c W k ht) (ha : PE X a (tM c W ma)) (he : ∀ whole, isTrue a X.env whole = (do let v ← whole; standAt a.pos; holding [v] (truthy v))) : PT X a (tB c W (mT ma)) := okT_truth B.hK ha he
theorem kT_not (ha : PT X a (tB c W (mT ma))) : PT X (.UnaryOp .Not a pos) (tB c W (mT (mNot ma))) := okT_not ha
theorem k_idx {ht : Bool} (B : Bg X c W k ht) (ha : PE X a (tM c W ma)) (hb : PE X b (tM c W mb)) (hs : PlainIx b) : PE X (.Subscript a b pos) (tM c W (xIdx ma mb)) := ok_idx B.hK B.hw ha hb hs
theorem k_idx2 {ht : Bool} (B : Bg X c W k ht) (ha : PE X a (tBo c W ma)) (hb : PE X b (tSi c W mb)) (hs : PlainIx b) : PE X (.Subscript a b pos) (tM c W (xIdx ma mb)) := ok_idx2 B.hK B.hw ha hb hs
theorem k_bi (B : Bg X c W k) (bi : Bi) {x : Str} {id : String} (hv : biVal bi = .builtin id) (hm : X.mg x = none) (hb : bootBuiltins x = some (.builtin id)) (ha : PA X (e :: es) (tA c W ms)) (hg : Gl X x) (hn : x ≠ "__name__") (hdb : (x == ("__debug__" : Str)) = false)
    (he : starEach (e :: es) X.env = (false, eval e X.env) :: starEach es X.env) (hpl : (backTo pos (starEach es X.env)).any (·.1) = false) : PE X (.Call (.Name x p) (e :: es) [] pos) (tM c W (xBi bi ms)) := ok_bi bi hv B.hK B.sm (B.hc rfl) B.hg B.hu hg hm hb hn hdb ha he hpl
theorem k_len {ht : Bool} (B : Bg X c W k ht) {x : Str} (hm : X.mg x = none) (hb : bootBuiltins x = some (.builtin "len")) (ha : PE X e (tBo c W m)) (hg : Gl X x) (hn : x ≠ "__name__") (hdb : (x == ("__debug__" : Str)) = false)
    (he : starEach [e] X.env = (false, eval e X.env) :: starEach [] X.env) (hpl : (backTo pos (starEach [] X.env)).any (·.1) = false) : PE X (.Call (.Name x p) [e] [] pos) (tM c W (xLen m)) := ok_len B.hK hg hm hb hn hdb ha he hpl
theorem k_isi {ht : Bool} (B : Bg X c W k ht) (T : Ty) {x y : Str} {p3 : Pos} (hm : X.mg x = none) (hb : bootBuiltins x = some (.builtin "isinstance")) (hm2 : X.mg y = none) (hb2 : bootBuiltins y = some (.type (tyNm T))) (ha : PE X e (tBo c W m)) (hg : Gl X x) (hg2 : Gl X y) (hn : x ≠ "__name__") (hn2 : y ≠ "__name__")
    (hdb : (x == ("__debug__" : Str)) = false) (hdb2 : (y == ("__debug__" : Str)) = false) (he : starEach [e, .Name y p3] X.env = (false, eval e X.env) :: starEach [.Name y p3] X.env) (hpl : (backTo pos (starEach [.Name y p3] X.env)).any (·.1) = false) :
    PE X (.Call (.Name x p) [e, .Name y p3] [] pos) (tM c W (xIsi m T)) := ok_isi T B.hK hg hm hb hn hdb hg2 hm2 hb2 hn2 hdb2 ha he hpl
end
end Ev
set_option Elab.async false
set_option linter.all false
set_option autoImplicit false
set_option maxRecDepth 100000
namespace Ev
open PySem PySem.Spec PyProof.Rows L2
/-- what is known of a def at a depth -/
structure Fe (P : PySem.Program) (w : World) (K : PySem.W.Frag) (mg : Str → Option Value) (base : Heap) (c : Kx) (call : Call) (k : Nat) (x : Str) (nf : Nat) (ps : List Str) (B : FuncData → Prop) : Prop where
  e : ∃ f fd, mg x = some (.ref f) ∧ PySem.W.keepIn K (.ref f) = true ∧ FnG P w K mg base k f fd ps (spF c call nf ps.length) ∧ B fd
section
variable {X : Cx} {c : Kx} {W : WX} {k : Nat} {pos p : Pos} {a b d e : Expr} {es : List Expr} {ma mb mc md m : M D} {ms mk : M (List D)} {P : Prm} {nf : Nat} {ps : List Str} {x : Str}
theorem k_call (B : Bg X c W k) (F : Fe X.prog X.w X.K X.mg X.base c P.call k x nf ps (fun fd => Binds X.K fd ps [])) (ha : PA X (e :: es) (tA c W ms)) (hg : Gl X x) (hdb : (x == ("__debug__" : Str)) = false)
    (he : starEach (e :: es) X.env = (false, eval e X.env) :: starEach es X.env) (hpl : (backTo pos (starEach es X.env)).any (·.1) = false) : PE X (.Call (.Name x p) (e :: es) [] pos) (tM c W (xCall P nf ps.length ms)) := by
  obtain ⟨f, fd, hm, hk, G, hb⟩ := F.e
  refine PE.weak (pe_callG G ((B.hr rfl).mono (Nat.le_succ _)) B.hg B.tk hg hm hk hb ha hdb he hpl) fun σ H Q ⟨g, R, h⟩ => ⟨g, R, (After.bind h).imp fun ds g1 H1 x1 R1 q vs rs => ?_⟩
  by_cases z : ds.length = ps.length
  · rw [if_pos z] at q
    exact call_read R1 rs z q
  · rw [if_neg z] at q; exact q.elim
def mJoinT (m : M D) (ms : M (List D)) : M D := mMt .join (tyIs .str) m ms
theorem k_join {ht : Bool} (B : Bg X c W k ht) {apos cpos : Pos} (ho : PE X a (tM c W m)) (ha : PA X (e :: es) (tA c W ms)) (hbase : attributeBase a "join" X.env (eval a X.env) = eval a X.env)
    (hfew : ((backTo cpos (starEach (e :: es) X.env)).all (fun x => !x.1) && (backToKw cpos (keywordEach [] X.env)).all (fun x => x.1.isSome) && decide ((e :: es).length + ([] : List Keyword).length + (if ([] : List Keyword).isEmpty then 0 else 1) < 30)) = true)
    (hline : (apos.endLine == cpos.line) = true) (hs : starEach (e :: es) X.env = (false, eval e X.env) :: starEach es X.env) (hplain : (backTo cpos (starEach es X.env)).any (·.1) = false) :
    PE X (.Call (.Attribute a "join" apos) (e :: es) [] cpos) (tM c W (mJoinT m ms)) :=
  ok_mt .join .str B.hK PySem.F.plainAttrs_str PySem.F.slot_str_join PySem.F.type_str_join (mt_ok_join B.hK) ho ha hbase hfew hline hs hplain
/-- a written tuple's index -/
structure Gt (mg : Str → Option Value) (K : PySem.W.Frag) (c : Kx) (x : Str) (xs : List D) : Prop where
  g : ∃ p, mg x = some (.ref p) ∧ (∃ ob, K.lookup p = some ob ∧ ob.cls = .type "tuple" ∧ ob.dict = none) ∧ ∀ F m, Rep c F m (.tup xs) (.ref p)
theorem k_slc {ht : Bool} (B : Bg X c W k ht) {lo hi : Option Expr} {ml mh : M (Option Int)} {p2 : Pos} (ha : PE X a (tM c W ma)) (hl : PO X lo (tO c W ml)) (hh : PO X hi (tO c W mh)) : PE X (.Subscript a (.Slice lo hi none p2) pos) (tM c W (mSlc ma ml mh)) := ok_slc B.hK ha hl hh
theorem k_slc2 {ht : Bool} (B : Bg X c W k ht) {lo hi : Option Expr} {ml mh : M (Option Int)} {p2 : Pos} (ha : PE X a (tBo c W ma)) (hl : PO X lo (tOs c W ml)) (hh : PO X hi (tOs c W mh)) : PE X (.Subscript a (.Slice lo hi none p2) pos) (tM c W (mSlc ma ml mh)) := ok_slc2 B.hK ha hl hh
/-- an own class: raised with a text -/
structure Ge (mg : Str → Option Value) (K : PySem.W.Frag) (c : Kx) (x : Str) (n : Nat) : Prop where
  n0 : n ≠ 0
  g : ∃ C, mg x = some (.ref C) ∧ c.ca n = some C ∧ PySem.W.excIn K C He.veBase "ValueError.__new__" = true ∧ PySem.W.keepIn K (.ref C) = true ∧ PySem.W.subIn K (.ref C) (.type "BaseException") = some true ∧ PySem.W.typeIn K (.ref C) = some (.type "type")
theorem k_raise (B : Bg X c W k) {n : Nat} {m : Str} {j : Nat} {p2 pos' : Pos} (G : Ge X.mg X.K c x n) (hg : Gl X x) (hdb : (x == ("__debug__" : Str)) = false) : PS X (.Raise (some (.Call (.Name x p) [.Constant (.str m) j p2] [] pos)) none pos') (tS c W (sRai n)) := by
  obtain ⟨C, h1, h2, h3, h4, h5, h6⟩ := G.g
  exact os_raise (B.hc rfl) B.tk G.n0 h2 (pmk_own PySem.F.excBase_ValueError h3 h1 h4 (raises_own h5 h6) hg hdb)
/-- a clause's class -/
structure Gh (mg : Str → Option Value) (K : PySem.W.Frag) (c : Kx) (x : Str) (sb : Nat → Bool) : Prop where
  g : ∃ C, mg x = some (.ref C) ∧ ∀ n C', n ≠ 0 → c.ca n = some C' → PySem.W.exmOne K (.ref C') (.ref C) = some (sb n)
theorem k_try (B : Bg X c W k) {body suite : List Stmt} {b₀ : Stmt} {np pos' : Pos} {b h : M Flow} (sb : Nat → Bool) (G : Gh X.mg X.K c x sb) (hg : Gl X x) (hdb : (x == ("__debug__" : Str)) = false) (hs : X.stack = X.env :: X.outer) (hf : X.env.frame = some X.env.locals)
    (hb : ∀ (W : WX) (pn : List (Addr × Obj)) (xe : Value → Shared → Prop), Bg (X.tr pn xe) c W k → PassesOwn (model X.prog X.w) (X.tr pn xe).A (X.tr pn xe).env (X.tr pn xe).xe → PSs (X.tr pn xe) body (tS c W b))
    (hsu : ∀ (a : Addr) (oe : Obj) (pn : List (Addr × Obj)), PSs (X.suite a ((a, oe) :: pn)) (b₀ :: suite) (tS c W0 h)) :
    PS X (.Try body [.ExceptHandler (some (.Name x np)) none (b₀ :: suite) pos'] [] [] pos) (tS c W (sTry b sb h)) := by
  obtain ⟨C, h1, h2⟩ := G.g
  exact os_try hs hf ⟨hg, hdb, .inl h1⟩ B.tk h2 (fun W pn xe tk hp => hb W pn xe (B.tr tk) hp) hsu
theorem k_for (B : Bg X c W k) (hp : PassesOwn (model X.prog X.w) X.A X.env X.xe) {tg iter : Expr} {body : List Stmt} {mi : M (List D)} {f : D → M Unit} {b : M Flow} (hi : PI X tg iter (tI c W mi)) (hg : PG X tg (tG c W zAny f)) (hb : PSs X body (tS c W b)) (hs : ∀ x, foldedSetIterable iter X.env x = pure x) :
    PS X (.For tg iter body [] pos) (tS c W (sFor mi f b)) := os_for hp (B.hc rfl) hi hg hb hs
theorem g_name {ht : Bool} (B : Bg X c W k ht) {Z : St → St → Prop} (i : Nat) (hi : X.N[i]? = some x) (hl : locB X.env.scope x = true) (hf : fnB X x = true) (hz : ∀ σ v, Z σ (σ.set i (some v))) : PG X (.Name x pos) (tG c W Z (mSet i)) := og_name B.hN hi (loc_of hl) (fn_of_ hf) hz
theorem zAny_set (i : Nat) : ∀ (σ : St) (v : V), zAny σ (σ.set i (some v)) := fun _ _ => trivial
theorem g_unp (B : Bg X c W k) {Z : St → St → Prop} {f : List D → M Unit} {k' n : Nat} (h : PGs X es (tGs c W Z f)) (hn : (assignEach es X.env).length = n) (hst : (assignEach es X.env).findIdx? (·.1) = none) : PG X (.Tuple es k' pos) (tG c W Z (gUnp n f)) := og_unp B.hK (B.hc rfl) h hn hst
theorem g_star (B : Bg X c W k) {Z : St → St → Prop} {f h : D → M Unit} {kk : Nat} {p2 : Pos} (zr : Zr Z) (h1 : PG X a (tG c W Z f)) (h2 : PG X b (tG c W Z h)) (hn : (assignEach [a, .Starred b p2] X.env).length = 2) (hst : (assignEach [a, .Starred b p2] X.env).findIdx? (·.1) = some 1)
    (hs : (assignEach [a, .Starred b p2] X.env).map (·.2) = [assign a X.env, assign b X.env]) : PG X (.Tuple [a, .Starred b p2] kk pos) (tG c W Z (gStar f h)) := og_star B.hK (B.hc rfl) zr h1 h2 hn hst hs
theorem g_put {ht : Bool} (B : Bg X c W k ht) {Z : St → St → Prop} {o i : Expr} {mo mi : M D} (zr : Zr Z) (ho : PE X o (tM c W mo)) (hi : PE X i (tM c W mi))
    (ha : ∀ v, assign (.Subscript o i pos) X.env v = (do
      let ov ← holding [v] (eval o X.env)
      let iv ← holding [v, ov] (eval i X.env)
      standAt pos
      holding [v, ov, iv] (setItem ov iv v)
      release [v, ov, iv] [])) : PG X (.Subscript o i pos) (tG c W Z (gPut mo mi)) := og_put B.hK ho hi zr ha
end
end Ev
set_option Elab.async false
set_option linter.all false
set_option autoImplicit false
set_option maxRecDepth 100000
namespace Ev
open PySem PySem.Spec PyProof.Rows L2
section
variable {X : Cx} {c : Kx} {W : WX} {k : Nat} {elt tg iter : Expr} {ifs : List Expr} {scope : Scope} {own : List (Str × Nat)} {vs : List Nat} {pos : Pos} {mi : M (List D)} {f : D → M Unit} {mt : M Bool} {me : M D}
theorem kF_comp (B : Bg X c W k) (hi : PI X tg iter (tI c W mi)) (ok : BlkOk X.N X.env.scope scope own) (hvs : own.map (·.2) = vs)
    (hg : ∀ (s : Shared) (H : Hp) (C : Addr) (cl : List (Str × Addr)) (fp : List Addr), Bg (X.blk s H scope (compEnvC scope cl C X.env) fp) c W0 k → PG (X.blk s H scope (compEnvC scope cl C X.env) fp) tg (tG c W0 (zOwn vs) f))
    (ht : ∀ (s : Shared) (H : Hp) (C : Addr) (cl : List (Str × Addr)) (fp : List Addr), Bg (X.blk s H scope (compEnvC scope cl C X.env) fp) c W0 k → PTs (X.blk s H scope (compEnvC scope cl C X.env) fp) ifs (tB c W0 mt))
    (he : ∀ (s : Shared) (H : Hp) (C : Addr) (cl : List (Str × Addr)) (fp : List Addr), Bg (X.blk s H scope (compEnvC scope cl C X.env) fp) c W0 k → PE (X.blk s H scope (compEnvC scope cl C X.env) fp) elt (tM c W0 me)) (hs : ∀ x, foldedSetIterable iter X.env x = pure x) :
    PE X (.ListComp elt [⟨tg, iter, ifs, 0⟩] scope pos) (tF c W (fComp mi vs f mt me)) :=
  okF_comp (B.hc rfl) B.hN hi ok hvs (fun s H C cl fp => hg s H C cl fp B.blk) (fun s H C cl fp => ht s H C cl fp B.blk) (fun s H C cl fp => he s H C cl fp B.blk) hs
theorem k_asgLc (B : Bg X c W k) (i : Nat) {y : Str} {py spos : Pos} (hy : X.N[i]? = some y) (hyl : X.env.scope.names.lookup y = some .local) (hsw : swapsWith (.ListComp elt [⟨tg, iter, ifs, 0⟩] scope pos) (some (.Name y py)) spos.line X.env = pure true)
    (hi : PI X tg iter (tI c W mi)) (ok : BlkOk X.N X.env.scope scope own) (hvs : own.map (·.2) = vs)
    (hg : ∀ (s : Shared) (H : Hp) (C : Addr) (cl : List (Str × Addr)) (fp : List Addr), Bg (X.blk s H scope (compEnvC scope cl C X.env) fp) c W0 k → PG (X.blk s H scope (compEnvC scope cl C X.env) fp) tg (tG c W0 (zOwn vs) f))
    (ht : ∀ (s : Shared) (H : Hp) (C : Addr) (cl : List (Str × Addr)) (fp : List Addr), Bg (X.blk s H scope (compEnvC scope cl C X.env) fp) c W0 k → PTs (X.blk s H scope (compEnvC scope cl C X.env) fp) ifs (tB c W0 mt))
    (he : ∀ (s : Shared) (H : Hp) (C : Addr) (cl : List (Str × Addr)) (fp : List Addr), Bg (X.blk s H scope (compEnvC scope cl C X.env) fp) c W0 k → PE (X.blk s H scope (compEnvC scope cl C X.env) fp) elt (tM c W0 me)) (hs : ∀ x, foldedSetIterable iter X.env x = pure x) :
    PS X (.Assign [.Name y py] (.ListComp elt [⟨tg, iter, ifs, 0⟩] scope pos) spos) (tS c W (sAsg (xFz (fComp mi vs f mt me)) (mSet i))) :=
  os_asgLc (B.hc rfl) B.hN hy hyl hsw hi ok hvs (fun s H C cl fp => hg s H C cl fp B.blk) (fun s H C cl fp => ht s H C cl fp B.blk) (fun s H C cl fp => he s H C cl fp B.blk) hs
end
end Ev
set_option Elab.async false
set_option linter.all false
set_option autoImplicit false
set_option maxRecDepth 100000
namespace Ev
open PySem PySem.Spec PyProof.Rows L2
section
variable {P : PySem.Program} {w : World} {K : PySem.W.Frag} {mg mb : Str → Option Value} {k : Nat} {fa a : Addr} {fd : FuncData} {x : Str} {sp : Sp} {t : Shared} {us : List Value} {ns : List Int}
theorem lawG (kx : K.In t.heap) (g1 : t.heap.Ns mainGlobals mg) (g2 : t.heap.Ns builtinsNs mb) (g3 : ∀ y : Str, y ≠ "__name__" → mb y = bootBuiltins y) (g4 : t.heap.NoLimit) (g5 : t.gens = #[])
    (obj : t.heap.get? a = some { cls := .type "list", data := .seq us.toArray }) (hin : IntsAre us ns) (small : ns.length ≤ sizeLine) (room : Room (2 * k) callerA)
    (F : ∀ b : Heap, K.In b → b.Ns mainGlobals mg → FnG P w K mg b k fa fd [x] sp) (bnd : ∀ (s : Shared) (u : Value), BindsTo s fd ⟨[u], []⟩ [(x, u)])
    (wish : ∀ H : Hp, Only H → SqL K H a (ns.map V.int) → sp [.ref a] H (fun v _ => v = .bl true) fun _ _ _ => False) :
    codeAny (model P w) callerA (.call (.ref fa) ⟨[.ref a], []⟩) (fun r s' => r = .ok (.ret (.bool true)) ∧ OldK t.heap s'.heap ∧ s'.os = t.os ∧ AllBare s'.gens) t := by
  have rv := vals_ints hin
  have inner : ∀ H : Hp, Only H → SqL K H a (ns.map V.int) → HOk P w H t.heap → (∀ b, H b ≠ none → b = a) → (H a ≠ none → K.lookup a = none) →
      codeAny (model P w) callerA (.call (.ref fa) ⟨[.ref a], []⟩) (fun r s' => r = .ok (.ret (.bool true)) ∧ OldK t.heap s'.heap ∧ s'.os = t.os ∧ AllBare s'.gens) t := by
    intro H only sq hok one out
    have untr : ∀ {b : Addr} {o : Obj}, t.heap.get? b = some o → (∀ es ep, o.data ≠ .seq es ep) → H b = none := fun {b o} e d => by
      cases q : H b with
      | none => rfl
      | some u =>
        have z := one b (by rw [q]; simp)
        rw [z, obj] at e
        cases e
        exact absurd rfl (d us.toArray _)
    have ns' : ∀ {b : Addr} {m : Str → Option Value}, t.heap.Ns b m → (hidT t.heap H).Ns b m := fun {b m} ⟨o, es, ep, e, d, r⟩ =>
      ⟨o, es, ep, hidT_get e (untr e fun _ _ z => by rw [d] at z; cases z), d, r⟩
    have kin : K.In (hidT t.heap H) := fun b o e => hidT_get (kx b o e) (by
      cases q : H b with
      | none => rfl
      | some u =>
        have z := one b (by rw [q]; simp)
        rw [z] at e q
        rw [out (by rw [q]; simp)] at e; cases e)
    have md : Mod K mg (hidT t.heap H) := ⟨kin, ns' g1, ⟨mb, ns' g2, g3⟩, let ⟨mc, q1, q2⟩ := g4; ⟨mc, ns' q1, q2⟩⟩
    have en : Env0 P w K mg (hidT t.heap H) callerA [] t H := ⟨rfl, md, fun b o e => of_hidT e, Nat.le_of_eq (hidT_size _ _), trivial, fun b hb => (List.not_mem_nil hb).elim, hok, .of_eq g5⟩
    refine codeAny_mono ((F _ kin (ns' g1)).run callerA [] t H ⟨[.ref a], []⟩ [.ref a] [.ref a] _ _ room rfl en (bnd t (.ref a)) (.cons rfl .nil) (wish H only sq)) fun r s' h => ?_
    cases r with
    | error e =>
      obtain ⟨_, _, _, _, _, _, _, _, _, _, _, _, z⟩ := h
      exact z.elim
    | ok fl =>
      cases fl with
      | next => exact h.elim
      | brk => exact h.elim
      | cont => exact h.elim
      | ret u =>
        obtain ⟨v, H', h1, h2, un, h3, h4, q⟩ := h
        have q : v = .bl true := q
        rw [q] at h4
        have e4 : u = Value.bool true := h4
        rw [e4]
        refine ⟨rfl, OldK.of_keep fun b o e => ?_, h1, h2⟩
        cases hb : H b with
        | none => exact un.keep b o e hb (fun z => (List.not_mem_nil z).elim) (fun z => (List.not_mem_nil z).elim)
        | some u =>
          rcases only b with z | ⟨ob, xs, z⟩
          · rw [hb] at z; cases z
          · have e1 := (hok b _ z).1
            have e2 := (h3 b _ (un.frzs b ob _ z)).1
            rw [e] at e1; cases e1
            exact e2
  cases hk : K.lookup a with
  | some o =>
    have e := kx a o hk
    rw [obj] at e
    cases e
    exact inner (fun _ => none) (fun _ => .inl rfl) (.inr ⟨_, us.toArray, _, hk, rfl, rfl, rfl, by rw [List.size_toArray, hin.length]; exact small, by simpa using rv⟩) (fun b u z => by cases z) (fun b z => (z rfl).elim) fun z => (z rfl).elim
  | none =>
    have at_ : ∀ b : Addr, b ≠ a → (if b = a then some (HO.frz { cls := .type "list", data := .seq us.toArray } (.lst (ns.map V.int))) else none) = none := fun b hb => if_neg hb
    refine inner (fun b => if b = a then some (.frz { cls := .type "list", data := .seq us.toArray } (.lst (ns.map V.int))) else none) (fun b => ?_) (.inl (.inr ⟨_, if_pos rfl⟩)) (fun b u z => ?_) (fun b z => ?_) fun _ => hk
    · by_cases hb : b = a
      · exact .inr ⟨_, _, if_pos hb⟩
      · exact .inl (at_ b hb)
    · by_cases hb : b = a
      · have z := (if_pos hb).symm.trans z
        cases z
        subst hb
        exact ⟨obj, by rw [List.length_map]; exact small, us, _, rv, obj⟩
      · have z := (at_ b hb).symm.trans z
        cases z
    · by_cases hb : b = a
      · exact hb
      · exact (z (at_ b hb)).elim
end
theorem endG {l : PySem.W.OpenLaw} {n k : Nat} {q : PySem.Program} {loose : List Str} {XP : (Str → Option Value) → Heap → Prop} {YP : World → Heap → Prop} {d : DefRec} {x : Str} (hn : l.most = some n) (hn2 : n ≤ sizeLine) (hdf : d.params.defaults = []) (room : Room (2 * k) callerA)
    (F : ∀ (w : World) (mg : Str → Option Value) (fa : Addr) (h : Heap), YP w h → h.Ns mainGlobals mg → mg d.name = some (.ref fa) →
      ∃ (K : PySem.W.Frag) (fd : FuncData) (sp : Sp), K.In h ∧ (∀ (s : Shared) (u : Value), BindsTo s fd ⟨[u], []⟩ [(x, u)]) ∧
        (∀ (H : Hp) (a : Addr) (ns : List Int), ns.length ≤ n → (∀ z ∈ ns, Builtin.Int.intBits z ≤ 1048576) → Only H → SqL K H a (ns.map V.int) → sp [.ref a] H (fun v _ => v = .bl true) fun _ _ _ => False) ∧
        ∀ base : Heap, K.In base → base.Ns mainGlobals mg → FnG l.prog w K mg base k fa fd [x] sp) : PySem.W.WalkO q loose XP YP l.row.toRowW d [] (fun f vs => PySem.call f vs) := by
  refine Att.attach_callB hn hdf fun w s₀ s₁ mg mb fa o pm cd doc a vs ns G Y ho hd hcd hmg hobj hints hlen hbits hg => ?_
  obtain ⟨K, fd, sp, kx, hb, hsp, hF⟩ := F w mg fa _ Y G.T.g hmg
  exact lawG kx G.T.g G.T.b G.T.builtins G.T.nolimit hg hobj hints (Nat.le_trans hlen hn2) room hF hb fun H hO hS => hsp H a ns hlen hbits hO hS
end Ev
set_option Elab.async false
set_option linter.all false
set_option autoImplicit false
set_option maxRecDepth 100000
namespace Ev
open PySem PySem.Spec PyProof.Rows L2
def flatV : D → V
  | .bl b => .bl b
  | .int i => .int i
  | .str x => .str (toStr x)
  | _ => .non
theorem rep_flat {c : Kx} {F : Hp} {m : List Addr} : ∀ {d : D}, d.flat = true → Rep c F m d (flatV d)
  | .non, _ => by simp [Rep, flatV]
  | .bl _, _ => by simp [Rep, flatV]
  | .int _, _ => by simp [Rep, flatV]
  | .str _, _ => by simp [Rep, flatV]
  | .tup _, h => by simp [D.flat] at h
  | .lst _, h => by simp [D.flat] at h
  | .dic _, h => by simp [D.flat] at h
  | .ref _, h => by simp [D.flat] at h
  | .scr _, h => by simp [D.flat] at h
theorem repL_flat {c : Kx} {F : Hp} {m : List Addr} : ∀ {ds : List D}, ds.all D.flat = true → RepL c F m ds (ds.map flatV)
  | [], _ => by simp [RepL]
  | d :: ds, h => by
    simp only [List.all_cons, Bool.and_eq_true] at h
    exact RepL.cons_ (rep_flat h.1) (repL_flat h.2)
/-- the module's name x is a tuple of these -/
def tupC (x : Str) (xs : List D) (K : PySem.W.Frag) : Bool := xs.all D.flat && match K.lookup (He.ga K x) with
  | some ⟨.type c, none, .seq its _, _⟩ => decide (c = "tuple") && (decide (its.size ≤ sizeLine) && He.relAll (xs.map flatV) its.toList)
  | _ => false
theorem tupC_ok {c : Kx} {x : Str} {xs : List D} (h : tupC x xs c.K = true) : (∃ ob, c.K.lookup (He.ga c.K x) = some ob ∧ ob.cls = .type "tuple" ∧ ob.dict = none) ∧ ∀ F m, Rep c F m (.tup xs) (.ref (He.ga c.K x)) := by
  unfold tupC at h
  obtain ⟨hf, h⟩ := He.ba h
  cases q : c.K.lookup (He.ga c.K x) with
  | none => rw [q] at h; cases h
  | some o =>
    obtain ⟨oc, od, dt, sl⟩ := o
    rw [q] at h
    cases oc with
    | type n =>
      cases od with
      | none =>
        cases dt with
        | seq its k =>
          obtain ⟨h1, h2⟩ := He.ba (show (decide (n = "tuple") && (decide (its.size ≤ sizeLine) && He.relAll (xs.map flatV) its.toList)) = true from h)
          obtain ⟨h3, h4⟩ := He.ba h2
          have e := of_decide_eq_true h1
          subst e
          refine ⟨⟨_, rfl, rfl, rfl⟩, fun F m => ?_⟩
          simp only [Rep]
          exact ⟨_, _, rfl, .inr ⟨_, its, k, q, rfl, rfl, of_decide_eq_true h3, He.relAll_ok h4⟩, repL_flat hf⟩
        | _ => cases h
      | some a => cases dt <;> cases h
    | _ => cases od <;> cases dt <;> cases h
def entC : List DictEntry → List (D × D) → Bool
  | [], [] => true
  | e :: es, (.str k, d) :: r => (match e.key with
    | .str y _ => decide (y = toStr k)
    | _ => false) && (d.flat && He.relB (flatV d) e.val) && entC es r
  | _, _ => false
theorem entC_find : ∀ {es : List DictEntry} {kvs : List (D × D)}, entC es kvs = true → ∀ z : Txt, match dget (.str z) kvs with
    | none => es.find? (·.key.isStr (toStr z)) = none ∧ es.any (·.refKey) = false
    | some d => ∃ e, es.find? (·.key.isStr (toStr z)) = some e ∧ RelV (flatV d) e.val ∧ d.flat = true
  | [], [], _, z => by simp [dget]
  | [], (_, _) :: _, h, _ => by cases h
  | e :: es, [], h, _ => by simp [entC] at h
  | e :: es, (k, d) :: r, h, z => by
    cases k with
    | str k =>
      simp only [entC, Bool.and_eq_true] at h
      obtain ⟨⟨h1, h2, h3⟩, h4⟩ := h
      have ih := entC_find h4 z
      cases ek : e.key with
      | str y t =>
        rw [ek] at h1
        have hy : y = toStr k := by simpa using h1
        have er : e.refKey = false := by unfold DictEntry.refKey; rw [ek]
        by_cases hz : k = z
        · subst hz
          have e1 : dget (.str k) ((.str k, d) :: r) = some d := by simp [dget, D.eqb]
          rw [e1]
          have e2 : e.key.isStr (toStr k) = true := by rw [ek, hy]; simp [Value.isStr]
          exact ⟨e, by rw [List.find?_cons, e2], He.relB_ok h3, h2⟩
        · have e1 : dget (.str z) ((.str k, d) :: r) = dget (.str z) r := by
            have : (k == z) = false := by simpa using hz
            simp [dget, D.eqb, this]
          rw [e1]
          have e2 : e.key.isStr (toStr z) = false := by
            rw [ek, hy]
            have : ¬ toStr k = toStr z := fun q => hz (toStr_inj q)
            simp [Value.isStr, this]
          revert ih
          cases dget (.str z) r with
          | none => exact fun ih => ⟨by rw [List.find?_cons, e2]; exact ih.1, by rw [List.any_cons, er]; exact ih.2⟩
          | some d' => exact fun ⟨e', q1, q2, q3⟩ => ⟨e', by rw [List.find?_cons, e2]; exact q1, q2, q3⟩
      | _ => rw [ek] at h1; cases h1
    | _ => simp [entC] at h
/-- the module's name x is a dict of these -/
def dicC (x : Str) (kvs : List (D × D)) (K : PySem.W.Frag) : Bool := match K.lookup (He.ga K x) with
  | some ⟨_, _, .dict es _, _⟩ => !kvs.isEmpty && entC es.toList kvs
  | _ => false
theorem dicC_ok {c : Kx} {x : Str} {kvs : List (D × D)} (h : dicC x kvs c.K = true) (hk : ∃ es n, KDict c.K c.w (He.ga c.K x) es n) : ∀ F m, Rep c F m (.dic kvs) (.ref (He.ga c.K x)) := by
  intro F m
  simp only [Rep]
  have hne : kvs ≠ [] := by
    rintro rfl
    unfold dicC at h
    split at h <;> simp at h
  refine ⟨_, rfl, .inr ⟨hne, hk, fun z => ?_⟩⟩
  unfold dicC at h
  cases q : c.K.lookup (He.ga c.K x) with
  | none => rw [q] at h; cases h
  | some o =>
    obtain ⟨oc, od, dt, sl⟩ := o
    rw [q] at h
    cases dt with
    | dict es n =>
      have f := entC_find (Bool.and_eq_true_iff.mp (show (!kvs.isEmpty && entC es.toList kvs) = true from h)).2 z
      unfold PySem.W.nsIn
      rw [q]
      revert f
      cases dget (.str z) kvs with
      | none =>
        rintro ⟨f1, f2⟩
        refine ⟨none, ?_, rfl⟩
        show (match es.toList.find? (·.key.isStr (toStr z)) with | some e => some (some e.val) | none => if es.toList.any (·.refKey) then none else some none) = _
        rw [f1]
        simp only [f2]
        rfl
      | some d =>
        rintro ⟨e, f1, f2, f3⟩
        refine ⟨some e.val, ?_, e.val, flatV d, rfl, f2, ?_⟩
        · show (match es.toList.find? (·.key.isStr (toStr z)) with | some e => some (some e.val) | none => if es.toList.any (·.refKey) then none else some none) = _
          rw [f1]
        · cases d <;> simp [D.flat] at f3 <;> simp [FlatV, flatV]
    | _ => cases h
def smC (K : PySem.W.Frag) : Bool := match K.lookup sysModules with
  | some o => decide (o.cls = .type "dict")
  | none => false
theorem smC_ok {K : PySem.W.Frag} (h : smC K = true) : SmOk K := by
  unfold smC at h
  split at h
  · rename_i o e
    exact ⟨o, e, of_decide_eq_true h⟩
  · cases h
abbrev AlX : Type := He.AlT × Bool
def obsX (fa : List He.Fa) (fn : List He.DefD) (ts : List He.Tab) (ch : PySem.W.Frag → Bool) (K : PySem.W.Frag) : AlX := (He.obsT fa fn ts K, ch K)
def valX (fn : List He.DefD) (ts : List He.Tab) (w : World) : AlX := (He.valT fn ts w, true)
def SaysX (fa : List He.Fa) (fn : List He.DefD) (ts : List He.Tab) (ch : PySem.W.Frag → Bool) (w : World) (K : PySem.W.Frag) : Prop := obsX fa fn ts ch K = valX fn ts w
def obsXG (n : Nat) (fa : List He.Fa) (fn : List He.DefD) (ts : List He.Tab) (ch : PySem.W.Frag → Bool) (g : Addr → Option Obj) : AlX := obsX fa fn ts ch (He.frG g (He.asD g n ++ [sysModules]))
def hookX (n : Nat) (fa : List He.Fa) (fn : List He.DefD) (ts : List He.Tab) (ch : PySem.W.Frag → Bool) : PySem.W.Hook where
  α := AlX
  obs := fun s => obsXG n fa fn ts ch s.heap.get?
  val := fun w => valX fn ts w
  says := fun w h => ∃ K : PySem.W.Frag, K.In h ∧ SaysX fa fn ts ch w K
  of := fun _ _ e => ⟨_, He.frG_in, e⟩
  keeps := fun _ _ _ ⟨K, hK, c⟩ k => ⟨K, PySem.W.Frag.In.keeps hK k, c⟩
theorem obsXG_eq {n : Nat} {fa : List He.Fa} {fn : List He.DefD} {ts : List He.Tab} {ch : PySem.W.Frag → Bool} {g : Addr → Option Obj} {s : Shared} (h : ∀ a, g a = s.heap.get? a) : obsXG n fa fn ts ch g = (hookX n fa fn ts ch).obs s := by
  have e : g = s.heap.get? := funext h
  rw [e] <;> rfl
section
variable {fa : List He.Fa} {fn : List He.DefD} {ts : List He.Tab} {ch : PySem.W.Frag → Bool} {w : World} {K : PySem.W.Frag}
theorem SaysX.t (c : SaysX fa fn ts ch w K) : He.SaysT fa fn ts w K := congrArg (fun z : AlX => z.1) c
theorem SaysX.c (c : SaysX fa fn ts ch w K) : ch K = true := congrArg (fun z : AlX => z.2) c
theorem SaysX.fds (c : SaysX fa fn ts ch w K) : ∃ fds : Nat → FuncData, ∀ (i : Nat) (d : He.DefD), fn[i]? = some d → FunD K d.name d.qual d.params d.body d.scope (d.dvs K) (d.kws K) (He.fAd K d.at_) (fds i) := by
  have h : ∀ i : Nat, ∃ fd : FuncData, ∀ d : He.DefD, fn[i]? = some d → FunD K d.name d.qual d.params d.body d.scope (d.dvs K) (d.kws K) (He.fAd K d.at_) fd := fun i => by
    cases e : fn[i]? with
    | none => exact ⟨default, fun d z => by cases z⟩
    | some d =>
      obtain ⟨fd, F⟩ := c.t.d.def_ i e
      exact ⟨fd, fun d' z => by cases z; exact F⟩
  exact ⟨fun i => (h i).choose, fun i => (h i).choose_spec⟩
end
section
variable {c : Kx} {h : Heap} {mg : Str → Option Value}
theorem gc_str (X : c.K.In h) (G : h.Ns mainGlobals mg) {x z : Str} {l : Txt} (e : z = toStr l) (q : (He.Fa.str x z).ok c.K = true) : Gc mg c x (.str l) := by
  obtain ⟨t, hm⟩ := He.str_ok X G q
  subst e
  exact ⟨_, .str (toStr l), hm, ⟨t, rfl⟩, fun F m => by simp [Rep]⟩
theorem gc_int (X : c.K.In h) (G : h.Ns mainGlobals mg) {x : Str} {i : Int} (q : (He.Fa.int x i).ok c.K = true) : Gc mg c x (.int i) := by
  obtain ⟨t, hm⟩ := He.int_ok X G q
  exact ⟨_, .int i, hm, ⟨t, rfl⟩, fun F m => by simp [Rep]⟩
theorem gc_tup (X : c.K.In h) (G : h.Ns mainGlobals mg) {x : Str} {xs : List D} (q : (He.Fa.glo x).ok c.K = true) (t : tupC x xs c.K = true) : Gc mg c x (.tup xs) := ⟨_, .ref (He.ga c.K x), He.glo_ok X G q, rfl, (tupC_ok t).2⟩
theorem gc_dic (X : c.K.In h) (G : h.Ns mainGlobals mg) {x : Str} {kvs : List (D × D)} (q : (He.Fa.glo x).ok c.K = true) (t : dicC x kvs c.K = true) (hk : ∃ es n, KDict c.K c.w (He.ga c.K x) es n) : Gc mg c x (.dic kvs) := ⟨_, .ref (He.ga c.K x), He.glo_ok X G q, rfl, dicC_ok t hk⟩
theorem ge_exc (X : c.K.In h) (G : h.Ns mainGlobals mg) {x : Str} {n : Nat} (n0 : n ≠ 0) (ca : c.ca n = some (He.ga c.K x)) (q : (He.Fa.glo x).ok c.K = true) (e : (He.Fa.exc x).ok c.K = true) : Ge mg c.K c x n := by
  obtain ⟨e1, e2, e3, e4⟩ := He.exc_ok e
  exact ⟨n0, _, He.glo_ok X G q, ca, e1, e2, e3, e4⟩
/-- without calls nothing is promised -/
theorem fnG_zero {P : PySem.Program} {w : World} {K : PySem.W.Frag} {base : Heap} {T : Tb} {f : Addr} {fd : FuncData} {ps : List Str} {nf np : Nat} : FnG P w K mg base 0 f fd ps (spF c (callT T 0) nf np) := by
  have no : ∀ vs H Q E, ¬ spF c (callT T 0) nf np vs H Q E := fun vs H Q E ⟨g, ds, _, _, _, _, h⟩ => h
  exact ⟨fun vs H Q E h => (no vs H Q E h).elim, fun A outer s H args us vs Q E _ _ _ _ _ h => (no vs H Q E h).elim⟩
/-- the law's end, by what its def's meaning answers -/
theorem wish_of {call : Call} {nf : Nat} {a : Addr} {ns : List Int} {H : Hp} {S' : Sto} (h : call nf [.scr ns] [] = .ok (.bl true) S') (hS : SqL c.K H a (ns.map V.int)) : spF c call nf 1 [.ref a] H (fun v _ => v = .bl true) fun _ _ _ => False := by
  refine ⟨⟨fun _ => none, H, [], [], []⟩, [.scr ns], rfl, ⟨fun _ _ q => q, (fun _ _ q => by cases q), fun _ _ _ => rfl, rfl, List.nodup_nil, fun n x b q => by simp at q⟩, ?_, rfl, ?_⟩
  · simp only [RepL, Rep]
    exact ⟨_, [], rfl, ⟨a, rfl, hS⟩, rfl⟩
  · rw [h]
    intro v H' F' m' _ _ r
    simpa [Rep] using r
end
end Ev
set_option Elab.async false
set_option linter.all false
set_option autoImplicit false
set_option maxRecDepth 100000
set_option Elab.async false
set_option linter.all false
set_option autoImplicit false
set_option maxRecDepth 100000
namespace Ev
open PySem PySem.Spec PyProof.Rows L2
def caX (ca : Nat → Option Addr) (a : Addr) : Nat → Option Addr := fun n => if n = 0 then some a else ca n
/-- the context while an exception at a is caught -/
def Kx.exc (c : Kx) (a : Addr) : Kx := ⟨c.K, c.w, caX c.ca a⟩
section
variable {K : PySem.W.Frag} {w : World} {ca cb : Nat → Option Addr} {F : Hp} {m : List Addr}
mutual
theorem Rep.to : ∀ {d : D} {v : V}, Rep ⟨K, w, ca⟩ F m d v → Rep ⟨K, w, cb⟩ F m d v
  | .non, _, h => by simpa [Rep] using h
  | .bl _, _, h => by simpa [Rep] using h
  | .int _, _, h => by simpa [Rep] using h
  | .str _, _, h => by simpa [Rep] using h
  | .tup xs, v, h => by
    obtain ⟨a, vs, e1, h1, h2⟩ := (show ∃ a vs, v = .ref a ∧ SqT K F a vs ∧ RepL ⟨K, w, ca⟩ F m xs vs by simpa [Rep] using h)
    have q := RepL.to h2
    simp only [Rep]
    exact ⟨a, vs, e1, h1, q⟩
  | .lst xs, v, h => by
    obtain ⟨a, vs, e1, h1, h2⟩ := (show ∃ a vs, v = .ref a ∧ F a = some (.lst vs) ∧ RepL ⟨K, w, ca⟩ F m xs vs by simpa [Rep] using h)
    have q := RepL.to h2
    simp only [Rep]
    exact ⟨a, vs, e1, h1, q⟩
  | .dic kvs, v, h => by simpa [Rep, WDict] using h
  | .ref n, v, h => by simpa [Rep] using h
  | .scr ns, v, h => by simpa [Rep] using h
theorem RepL.to : ∀ {xs : List D} {vs : List V}, RepL ⟨K, w, ca⟩ F m xs vs → RepL ⟨K, w, cb⟩ F m xs vs
  | [], _, h => by simpa [RepL] using h
  | x :: xs, vs, h => by
    obtain ⟨v, r, e1, h1, h2⟩ := (show ∃ v r, vs = v :: r ∧ Rep ⟨K, w, ca⟩ F m x v ∧ RepL ⟨K, w, ca⟩ F m xs r by simpa [RepL] using h)
    have q1 := Rep.to h1
    have q2 := RepL.to h2
    simp only [RepL]
    exact ⟨v, r, e1, q1, q2⟩
end
theorem RepKv.to : ∀ {kvs : List (D × D)} {kk : List (L2.Key × V)}, RepKv ⟨K, w, ca⟩ F m kvs kk → RepKv ⟨K, w, cb⟩ F m kvs kk
  | [], _, h => h
  | (k, d) :: r, kk, ⟨key, v, t, h1, h2, h3, h4⟩ => ⟨key, v, t, h1, h2, h3.to, RepKv.to h4⟩
theorem RepFs.to : ∀ {fs : List (Txt × D)} {vs : List (Str × V)}, RepFs ⟨K, w, ca⟩ F m fs vs → RepFs ⟨K, w, cb⟩ F m fs vs
  | [], _, h => h
  | (f, d) :: r, vs, ⟨v, t, h2, h3, h4⟩ => ⟨v, t, h2, h3.to, RepFs.to h4⟩
theorem CellR.to (hc : ∀ n, n ≠ 0 → ca n = cb n) {x : Cell} {o : Option HO} (h : CellR ⟨K, w, ca⟩ F m x o) : CellR ⟨K, w, cb⟩ F m x o := by
  cases x with
  | lst xs => obtain ⟨vs, h1, h2⟩ := h; exact ⟨vs, h1, h2.to⟩
  | dct kvs => obtain ⟨kk, h1, h2⟩ := h; exact ⟨kk, h1, h2.to⟩
  | ins cl fs =>
    rcases h with ⟨C, dx, vs, h1, h2, h3, h4⟩ | h
    · exact .inl ⟨C, dx, vs, h1, (hc cl h1).symm.trans h2, h3, h4.to⟩
    · exact .inr h
theorem RelB.to (hc : ∀ n, n ≠ 0 → ca n = cb n) {G : Hp} {S : Sto} {H : Hp} (B : RelB ⟨K, w, ca⟩ G F m S H) : RelB ⟨K, w, cb⟩ G F m S H :=
  ⟨B.fh, B.gh, B.fg, B.ml, B.md, fun n x a h1 h2 => by
    obtain ⟨q1, q2, q3⟩ := B.cl n x a h1 h2
    exact ⟨q1, q2, q3.to hc⟩⟩
end
/-- no slot holds a caught exception -/
def noEx (ρ : Env) : Bool := ρ.all fun | some (.ex _) => false | _ => true
theorem noEx_at {ρ : Env} (h : noEx ρ = true) {i : Nat} {x : Exn} (e : ρ[i]? = some (some (.ex x))) : False := by
  have q := List.all_eq_true.mp h _ (List.mem_of_getElem? e)
  cases q
section
variable {c : Kx} {g : Gs} {σ : St} {H : Hp}
theorem Rel.toExc (R : Rel c g σ H) (n : noEx g.ρ = true) {i : Nat} (hi : i < g.ρ.length) (x : Exn) (a : Addr) : Rel (c.exc a) { g with ρ := g.ρ.set i (some (.ex x)) } (σ.set i (some (.ref a))) H := by
  have lt : ∀ {j : Nat} {s : SV}, (g.ρ.set i (some (.ex x)))[j]? = some (some s) → (j = i ∧ s = .ex x) ∨ (j ≠ i ∧ g.ρ[j]? = some (some s)) := fun {j s} h => by
    by_cases z : j = i
    · subst z
      rw [List.getElem?_set_self hi] at h
      cases h
      exact .inl ⟨rfl, rfl⟩
    · rw [List.getElem?_set_ne (Ne.symm z)] at h
      exact .inr ⟨z, h⟩
  refine ⟨R.b.to fun n h => (if_neg h).symm, by simp [R.ln], fun j d h => ?_, fun j ys h => ?_, fun j k ys zs b ne h1 h2 h3 => ?_, fun j y h => ?_⟩
  · rcases lt h with ⟨_, z⟩ | ⟨z, h⟩
    · cases z
    · obtain ⟨v, e1, r⟩ := R.sf j d h
      exact ⟨v, by rw [List.getElem?_set_ne (Ne.symm z)]; exact e1, r.to⟩
  · rcases lt h with ⟨_, z⟩ | ⟨z, h⟩
    · cases z
    · obtain ⟨b, vs, e1, h1, r, q⟩ := R.so j ys h
      exact ⟨b, vs, by rw [List.getElem?_set_ne (Ne.symm z)]; exact e1, h1, r.to, q⟩
  · rcases lt h1 with ⟨_, z⟩ | ⟨z1, h1'⟩
    · cases z
    rcases lt h2 with ⟨_, z⟩ | ⟨z2, h2'⟩
    · cases z
    rw [List.getElem?_set_ne (Ne.symm z1)] at h3
    rw [List.getElem?_set_ne (Ne.symm z2)]
    exact R.sd j k ys zs b ne h1' h2' h3
  · rcases lt h with ⟨rfl, _⟩ | ⟨z, h⟩
    · exact ⟨a, rfl, by rw [List.getElem?_set_self (by rw [← R.ln]; exact hi)]⟩
    · exact (noEx_at n h).elim
theorem Rel.ofExc {a : Addr} (R : Rel (c.exc a) g σ H) {i : Nat} (n : noEx (g.ρ.set i none) = true) : Rel c { g with ρ := g.ρ.set i none } (σ.set i none) H := by
  have R1 := R.drop2 i
  exact ⟨R1.b.to fun n h => if_neg h, R1.ln, fun j d h => let ⟨v, e, r⟩ := R1.sf j d h; ⟨v, e, r.to⟩, fun j ys h => let ⟨b, vs, e1, h1, r, q⟩ := R1.so j ys h; ⟨b, vs, e1, h1, r.to, q⟩, R1.sd, fun j y h => (noEx_at n h).elim⟩
end
def sTryAs (b : M Flow) (sb : Nat → Bool) (i : Nat) (h : Exn → M Flow) : M Flow := fun ρ S => match b ρ S with
  | .exc x ρ' S' => if sb x.c then (if noEx ρ' && decide (i < ρ'.length) then (match h x (ρ'.set i (some (.ex x))) S' with
      | .ok (.rl _) _ _ => .bad
      | .ok f ρ2 S2 => if noEx (ρ2.set i none) then .ok f (ρ2.set i none) S2 else .bad
      | _ => .bad) else .bad) else .exc x ρ' S'
  | r => r
/-- what is known of a caught exception's object -/
structure Exc1 (K : PySem.W.Frag) (a : Addr) (oe : Obj) (C : Addr) : Prop where
  z : Zc (.ref C) none oe
  f : ∃ vs, oe.data = .fields vs
section
variable {X : Cx} {c : Kx} {W : WX} {pos : Pos}
theorem os_tryAs {x n : Str} {cv : Value} {body suite : List Stmt} {b₀ : Stmt} {np pos' : Pos} {b : M Flow} {h : Exn → M Flow} {sb : Nat → Bool} {i : Nat} (hs : X.stack = X.env :: X.outer) (hf : X.env.frame = some X.env.locals) (hN : X.N.Nodup) (hi : X.N[i]? = some n) (hln : X.env.kindOf n = some .local) (hc : Names X x cv) (tk : Takes X W)
    (hx : ∀ n C, n ≠ 0 → c.ca n = some C → PySem.W.exmOne X.K (.ref C) cv = some (sb n))
    (hb : ∀ (W : WX) (pn : List (Addr × Obj)) (xe : Value → Shared → Prop), Takes (X.tr pn xe) W → PassesOwn (model X.prog X.w) X.A X.env xe → PSs (X.tr pn xe) body (tS c W b))
    (hsu : ∀ (a : Addr) (oe : Obj) (pn : List (Addr × Obj)) (y : Exn) (C : Addr), y.c ≠ 0 → (c.exc a).ca y.c = some C → c.ca y.c = some C → sb y.c = true → y.fs = [] → Exc1 X.K a oe C → PSs (X.suite a ((a, oe) :: pn)) (b₀ :: suite) (tS (c.exc a) W0 (h y))) :
    PS X (.Try body [.ExceptHandler (some (.Name x np)) (some n) (b₀ :: suite) pos'] [] [] pos) (tS c W (sTryAs b sb i h)) := by
  refine PS.weak (ps_try_as (Wout := W) (tb := fun W => tS c W b) (ts := fun a cls d D σ H => ∃ y C, y.c ≠ 0 ∧ c.ca y.c = some C ∧ sb y.c = true ∧ y.fs = [] ∧ cls = .ref C ∧ d = none ∧ tS (c.exc a) W0 (h y) D σ H) hs hf hN hi hln hc tk hb fun a oe cls d pn hz hv =>
    ⟨fun pins s σ H D I ⟨y, C, q0, q1, qs, q2, q3, q4, q⟩ => by
      subst q3 q4
      exact (hsu a oe pn y C q0 ((if_neg q0).trans q1) q1 qs q2 ⟨hz, hv⟩).run pins s σ H D I q⟩) fun D σ H ⟨g, R, h0⟩ => ⟨g, R, ?_⟩
  unfold sTryAs at h0
  revert h0
  cases e : b g.ρ g.S with
  | ok f ρ S => exact fun z => z
  | bad => exact fun z => z
  | exc y ρ S =>
    intro h0 g' σ' H' cls d e1 e2 x1 R1 r
    obtain ⟨z1, z2, z0, C, hC, z3⟩ := id r
    have h0 : After2 c W g (if sb y.c then (if noEx ρ && decide (i < ρ.length) then (match h y (ρ.set i (some (.ex y))) S with
      | .ok (.rl _) _ _ => .bad
      | .ok f ρ2 S2 => if noEx (ρ2.set i none) then .ok f (ρ2.set i none) S2 else .bad
      | _ => .bad) else .bad) else .exc y ρ S) (flowOk c D) := h0
    refine ⟨sb y.c, by rw [z3]; exact hx _ _ z0 hC, fun hb a na => ?_, fun hb => ?_⟩
    · rw [if_pos hb] at h0
      by_cases hn : (noEx ρ && decide (i < ρ.length)) = true
      · rw [if_pos hn] at h0
        simp only [Bool.and_eq_true, decide_eq_true_eq] at hn
        refine ⟨y, C, z0, hC, hb, z1, z3, z2, { g' with ρ := g'.ρ.set i (some (.ex y)) }, R1.toExc (by rw [e1]; exact hn.1) (by rw [e1]; exact hn.2) y a, ?_⟩
        show After2 (c.exc a) W0 _ (h y (g'.ρ.set i (some (.ex y))) g'.S) _
        rw [e1, e2]
        revert h0
        cases eh : h y (ρ.set i (some (.ex y))) S with
        | exc _ _ _ => exact fun z => z.elim
        | bad => exact fun z => z.elim
        | ok f ρ2 S2 =>
          intro h0 g2 σ2 H2 p1 p2 x2 R2
          have h0 : (∀ xs, f ≠ .rl xs) ∧ After2 c W g (if noEx (ρ2.set i none) then .ok f (ρ2.set i none) S2 else .bad) (flowOk c D) := by
            cases f with
            | rl xs => exact h0.elim
            | _ => exact ⟨fun _ z => (by cases z), h0⟩
          obtain ⟨nrl, h0⟩ := h0
          by_cases hn2 : noEx (ρ2.set i none) = true
          · rw [if_pos hn2] at h0
            have x2' : GExt g { g2 with ρ := g2.ρ.set i none } := ⟨x1.e.trans x2.e, x2.pr.trans x1.pr⟩
            have q := h0 { g2 with ρ := g2.ρ.set i none } (σ2.set i none) H2 (by show g2.ρ.set i none = _; rw [p1]) p2 x2' (R2.ofExc (by rw [p1]; exact hn2))
            cases f with
            | nx => exact q
            | br => exact q
            | ct => exact q
            | rt d => exact fun v rr => q v rr.to
            | rl xs => exact absurd rfl (nrl xs)
          · rw [if_neg hn2] at h0; exact h0.elim
      · rw [if_neg hn] at h0; exact h0.elim
    · rw [hb] at h0
      exact h0 g' σ' H' cls d e1 e2 x1 R1 r
/-- the slot i holds the caught exception -/
def mIsE (i : Nat) (b : Bool) : M D := fun ρ S => match ρ[i]? with
  | some (some (.ex _)) => .ok (.bl b) ρ S
  | _ => .bad
def tEx (c : Kx) (i : Nat) : TE := fun σ H Q => ∃ g x, Rel c g σ H ∧ g.ρ[i]? = some (some (.ex x)) ∧ ∀ a, c.ca 0 = some a → Q (.ref a) H
theorem ok_ex {i : Nat} {x : Str} (hN : X.N[i]? = some x) (hv : Vis X.env.scope x) (hd : (x == ("__debug__" : Str)) = false) (hcd : (x == ("__classdict__" : Str)) = false) : PE X (.Name x pos) (tEx c i) := by
  refine PE.weak (pe_var hN hv hd hcd) fun σ H Q ⟨g, y, R, e, h⟩ => ?_
  obtain ⟨a, e1, e2⟩ := R.sx i y e
  exact ⟨_, e2, h a e1⟩
theorem call_isET {X : Cx} {a D : Addr} {oe : Obj} {pn : List (Addr × Obj)} (C : ExcC X.K D) (E : Exc1 X.K a oe D) : CallR (X.suite a ((a, oe) :: pn)) (.builtin "isinstance")
    (fun xs H Q => ∃ (tp : Addr) (cs : List V) (us : List Value) (b : Bool), xs = [.ref a, .ref tp] ∧ H tp = some (.tup cs) ∧ Paired ClsV cs us ∧ PySem.W.kitAny X.K (.ref D) us = some b ∧ Q (.bl b) H) := by
  intro pins s σ H xs us Q I r h
  obtain ⟨tp, cs, ws, b, rfl, hT, k, e, q⟩ := h
  obtain ⟨u1, u2, rfl, r1, r2⟩ := vals2 r
  cases (show u2 = Value.ref tp from r2)
  cases (show u1 = Value.ref a from r1)
  obtain ⟨hget, _⟩ := I.pin (a, oe) (List.mem_append.mpr (.inl List.mem_cons_self))
  obtain ⟨vs, hv⟩ := E.f
  have J : PySem.W.InstAt s.heap a oe D none := by
    obtain ⟨oc, od, oda, osl⟩ := oe
    obtain ⟨h1, h2⟩ := E.z
    dsimp only at h1 h2 hv
    subst h1 h2 hv
    exact ⟨hget, rfl, rfl, trivial⟩
  obtain ⟨_, its, rv, o, h1, h2, n, h3⟩ := (show ObjOk X.prog X.w H s.heap tp (.tup cs) from I.hok tp _ hT)
  have e3 := ClsV.all k rv
  subst e3
  obtain ⟨oc, od, dt, sl⟩ := o
  simp only at h2 h3
  subst h2 h3
  exact PySem.W.kia_tup (PySem.W.handS_kitx_exc C.hg C.hk C.hs C.hd C.ha C.hn C.ht C.hm) I.kIn J h1 e (fun z => nomatch z) fun tk => ⟨.bl b, H, I.tok tk, rfl, q⟩
/-- a class by its name, asked of the caught ones -/
structure Gi (mg : Str → Option Value) (K : PySem.W.Frag) (ca : Nat → Option Addr) (x : Str) (sb : Nat → Bool) : Prop where
  g : ∃ v u, ClsV v u ∧ (∀ n C, n ≠ 0 → ca n = some C → PySem.W.kitOne K (.ref C) u = some (sb n)) ∧ (mg x = some u ∨ (mg x = none ∧ bootBuiltins x = some u ∧ x ≠ "__name__"))
theorem clsV_rel {v : V} {u : Value} (k : ClsV v u) : RelV v u := by cases k <;> rfl
theorem Gi.pe {ca : Nat → Option Addr} {x : Str} {sb : Nat → Bool} (G : Gi X.mg X.K ca x sb) (hg : Gl X x) (hdb : (x == ("__debug__" : Str)) = false) : ∃ v u, ClsV v u ∧ (∀ n C, n ≠ 0 → ca n = some C → PySem.W.kitOne X.K (.ref C) u = some (sb n)) ∧ PE X (.Name x pos) (tC v) := by
  obtain ⟨v, u, k, h, q⟩ := G.g
  refine ⟨v, u, k, h, ?_⟩
  rcases q with q | ⟨q1, q2, q3⟩
  · exact pe_glob hg q (clsV_rel k) hdb
  · exact pe_bltn hg q1 q2 (clsV_rel k) q3 hdb
theorem Gi.exc {mg : Str → Option Value} {K : PySem.W.Frag} {ca : Nat → Option Addr} {x : Str} {sb : Nat → Bool} (G : Gi mg K ca x sb) (a : Addr) : Gi mg K (caX ca a) x sb := by
  obtain ⟨v, u, k, h, q⟩ := G.g
  exact ⟨v, u, k, fun n C n0 e => h n C n0 ((if_neg n0).symm.trans e), q⟩
/-- a row of classes -/
inductive Gis (X : Cx) (ca : Nat → Option Addr) : List Expr → (Nat → Bool) → Prop where
  | nil : Gis X ca [] (fun _ => false)
  | cons {x : Str} {pos : Pos} {es : List Expr} {sb sc : Nat → Bool} : Gi X.mg X.K ca x sb → Gl X x → (x == ("__debug__" : Str)) = false → Gis X ca es sc → Gis X ca (.Name x pos :: es) (fun n => sb n || sc n)
theorem Gis.pa {ca : Nat → Option Addr} {es : List Expr} {sb : Nat → Bool} (G : Gis X ca es sb) : ∃ (cs : List V) (us : List Value), cs.length = es.length ∧ Paired ClsV cs us ∧ (∀ n C, n ≠ 0 → ca n = some C → PySem.W.kitAny X.K (.ref C) us = some (sb n)) ∧ PA X es (fun σ H Q => Q cs H) := by
  induction G with
  | nil => exact ⟨[], [], rfl, .nil, fun _ _ _ _ => rfl, pa_nil⟩
  | @cons x pos es sb sc g h1 h2 _ ih =>
    obtain ⟨v, u, k, q, p⟩ := g.pe (pos := pos) h1 h2
    obtain ⟨cs, us, hl, ks, qs, ps⟩ := ih
    refine ⟨v :: cs, u :: us, by simp [hl], .cons k ks, fun n C n0 hC => ?_, pa_cons p ps⟩
    show (match PySem.W.kitOne X.K (.ref C) u with | some true => some true | some false => PySem.W.kitAny X.K (.ref C) us | none => none) = _
    rw [q n C n0 hC, qs n C n0 hC]
    show _ = some (sb n || sc n)
    cases sb n
    · simp
    · simp
section
variable {a C : Addr} {oe : Obj} {pn : List (Addr × Obj)} {y : Exn} {i : Nat} {p p1 p2 : Pos} {x : Str}
theorem k_isx (hcx : c.ca 0 = some a) (hC : ExcC X.K C) (hE : Exc1 X.K a oe C) (n0 : y.c ≠ 0) (hca : c.ca y.c = some C) {sb : Nat → Bool} {f z : Str} (hf : f = "isinstance") (hm : X.mg f = none) (hg : Gl X f) (G : Gi X.mg X.K c.ca z sb) (hgz : Gl X z) (hdz : (z == ("__debug__" : Str)) = false)
    (hN : X.N[i]? = some x) (hv : visB X.env.scope x = true) (hes : starEach [.Name x p1, .Name z p2] X.env = (false, eval (.Name x p1) X.env) :: starEach [.Name z p2] X.env) (hpl : (backTo pos (starEach [.Name z p2] X.env)).any (·.1) = false) :
    PE (X.suite a ((a, oe) :: pn)) (.Call (.Name f p) [.Name x p1, .Name z p2] [] pos) (tM c W0 (mIsE i (sb y.c))) := by
  subst hf
  obtain ⟨v, u, k, q, pz⟩ := Gi.pe (X := X.suite a ((a, oe) :: pn)) (pos := p2) G hgz hdz
  refine PE.weak (pe_callB (call_isE hC hE.z hE.f) hg hm boot_isinstance (pa_cons (ok_ex (c := c) hN (vis_of hv).1 (vis_of hv).2.1 (vis_of hv).2.2) (pa_cons pz pa_nil)) (by decide) (by decide) hes hpl) fun σ H Q ⟨g, R, h⟩ => ?_
  unfold mIsE at h
  cases e : g.ρ[i]? with
  | none => rw [e] at h; exact h.elim
  | some o =>
    cases o with
    | none => rw [e] at h; exact h.elim
    | some s =>
      cases s with
      | fz d => rw [e] at h; exact h.elim
      | ow d => rw [e] at h; exact h.elim
      | ex z =>
        rw [e] at h
        refine ⟨g, z, R, e, fun b hb => ?_⟩
        rw [hcx] at hb; cases hb
        exact ⟨v, u, sb y.c, rfl, fun w r => k.eq r, q _ _ n0 hca, h g H rfl rfl .refl R _ (by simp [Rep])⟩
theorem k_isxT (hcx : c.ca 0 = some a) (hC : ExcC X.K C) (hE : Exc1 X.K a oe C) (n0 : y.c ≠ 0) (hca : c.ca y.c = some C) {sb : Nat → Bool} {f : Str} {es : List Expr} {kk : Nat} (hf : f = "isinstance") (hm : X.mg f = none) (hg : Gl X f) (G : Gis (X.suite a ((a, oe) :: pn)) c.ca es sb) (hlen : es.length ≤ SZ)
    (hN : X.N[i]? = some x) (hv : visB X.env.scope x = true) (hes : starEach [.Name x p1, .Tuple es kk p2] X.env = (false, eval (.Name x p1) X.env) :: starEach [.Tuple es kk p2] X.env) (hpl : (backTo pos (starEach [.Tuple es kk p2] X.env)).any (·.1) = false) :
    PE (X.suite a ((a, oe) :: pn)) (.Call (.Name f p) [.Name x p1, .Tuple es kk p2] [] pos) (tM c W0 (mIsE i (sb y.c))) := by
  subst hf
  obtain ⟨cs, us, hl, ks, qs, ps⟩ := G.pa
  refine PE.weak (pe_callB (call_isET hC hE) hg hm boot_isinstance (pa_cons (ok_ex (c := c) hN (vis_of hv).1 (vis_of hv).2.1 (vis_of hv).2.2) (pa_cons (pe_tup ps) pa_nil)) (by decide) (by decide) hes hpl) fun σ H Q ⟨g, R, h⟩ => ?_
  unfold mIsE at h
  cases e : g.ρ[i]? with
  | none => rw [e] at h; exact h.elim
  | some o =>
    cases o with
    | none => rw [e] at h; exact h.elim
    | some s =>
      cases s with
      | fz d => rw [e] at h; exact h.elim
      | ow d => rw [e] at h; exact h.elim
      | ex z =>
        rw [e] at h
        refine ⟨g, z, R, e, fun b hb => ?_⟩
        rw [hcx] at hb; cases hb
        exact ⟨by rw [hl]; exact hlen, fun q hq => ⟨q, cs, us, sb y.c, rfl, upd_same, ks, qs _ _ n0 hca, h g (upd H q (.tup cs)) rfl rfl .refl (R.grow0 hq) _ (by simp [Rep])⟩⟩
end
end
section
variable {X : Cx} {c : Kx} {W : WX} {k : Nat} {pos : Pos}
theorem Bg.suite (B : Bg X c W k) {a : Addr} {pn : List (Addr × Obj)} : Bg (X.suite a pn) (c.exc a) W0 k true :=
  ⟨B.hK, B.hw, fun z => (nomatch z), ⟨(B.hr rfl).dp, (B.hr rfl).un⟩, B.hg, B.hN, takes_blk, fun z => (nomatch z), B.sm⟩
theorem k_tryAs (B : Bg X c W k) {x n : Str} {body suite : List Stmt} {b₀ : Stmt} {np pos' : Pos} {b : M Flow} {h : Exn → M Flow} (sb : Nat → Bool) (i : Nat) (G : Gh X.mg X.K c x sb) (hg : Gl X x) (hdb : (x == ("__debug__" : Str)) = false) (hs : X.stack = X.env :: X.outer) (hf : X.env.frame = some X.env.locals) (hi : X.N[i]? = some n) (hln : X.env.kindOf n = some .local)
    (hb : ∀ (W : WX) (pn : List (Addr × Obj)) (xe : Value → Shared → Prop), Bg (X.tr pn xe) c W k → PassesOwn (model X.prog X.w) (X.tr pn xe).A (X.tr pn xe).env (X.tr pn xe).xe → PSs (X.tr pn xe) body (tS c W b))
    (hsu : ∀ (a : Addr) (oe : Obj) (pn : List (Addr × Obj)) (y : Exn) (C : Addr), y.c ≠ 0 → (c.exc a).ca y.c = some C → c.ca y.c = some C → sb y.c = true → Exc1 X.K a oe C → Bg (X.suite a ((a, oe) :: pn)) (c.exc a) W0 k true → PSs (X.suite a ((a, oe) :: pn)) (b₀ :: suite) (tS (c.exc a) W0 (h y))) :
    PS X (.Try body [.ExceptHandler (some (.Name x np)) (some n) (b₀ :: suite) pos'] [] [] pos) (tS c W (sTryAs b sb i h)) := by
  obtain ⟨C, h1, h2⟩ := G.g
  exact os_tryAs hs hf B.hN hi hln ⟨hg, hdb, .inl h1⟩ B.tk h2 (fun W pn xe tk hp => hb W pn xe (B.tr tk) hp) fun a oe pn y C n0 hca hca0 sy _ E => hsu a oe pn y C n0 hca hca0 sy E B.suite
end
open PySem.W in
def excC (x : Str) (K : PySem.W.Frag) : Bool :=
  decide (findIn K (.ref (He.ga K x)) "__getattribute__" = some (some (.builtin "BaseException.__getattribute__"))) &&
  decide (findIn K (.ref (He.ga K x)) "__getattr__" = some none) &&
  decide (subIn K (.ref (He.ga K x)) (.type "BaseException") = some true) && hasDictIn K (He.ga K x) &&
  decide (findIn K (.ref (He.ga K x)) "__class__" = some (some (.builtin "object.__class__"))) &&
  decide (specialIn K (.builtin "object.__class__") "__get__" = some (some (.builtin "getset_descriptor.__get__"))) &&
  decide (takesIn K (.builtin "object.__class__") = some true) && decide (mroIn K (He.ga K x) (.type "object") = some true)
theorem excC_ok {x : Str} {K : PySem.W.Frag} (h : excC x K = true) : ExcC K (He.ga K x) := by
  unfold excC at h
  simp only [Bool.and_eq_true, decide_eq_true_eq] at h
  obtain ⟨⟨⟨⟨⟨⟨⟨h1, h2⟩, h3⟩, h4⟩, h5⟩, h6⟩, h7⟩, h8⟩ := h
  exact ⟨h1, h2, h3, h4, h5, h6, h7, h8⟩
def kiC (x y : Str) (b : Bool) (K : PySem.W.Frag) : Bool := decide (PySem.W.kitOne K (.ref (He.ga K x)) (.ref (He.ga K y)) = some b)
def kiT (x : Str) (n : String) (b : Bool) (K : PySem.W.Frag) : Bool := decide (PySem.W.kitOne K (.ref (He.ga K x)) (.type n) = some b)
theorem ki_ok {p : Prop} [Decidable p] (h : decide p = true) : p := of_decide_eq_true h
end Ev
set_option Elab.async false
set_option linter.all false
set_option autoImplicit false
set_option maxRecDepth 100000
namespace Ev
open PySem PySem.Spec PyProof.Rows L2
section
variable {prog : Program} {w : World} {A : Around} {E : Value → Shared → Prop} {s : Shared}
theorem rv_places (n : Nat) : Builtin.Slice.slicePlaces ((n : Int) - 1) (-1) (-1) = n := by
  unfold Builtin.Slice.slicePlaces
  rw [if_neg (by decide)]
  by_cases h : (n : Int) - 1 > -1
  · rw [if_pos h]
    have e : ((n : Int) - 1 - -1 - 1) / (- -1) = (n : Int) - 1 := by
      rw [show (- -1 : Int) = 1 by decide, Int.ediv_one]; omega
    rw [e]; omega
  · rw [if_neg h]; omega
theorem rv_applied {sl : Addr} {vs : Value} {n : Nat} {Q : Int × Int × Nat → Shared → Prop} (hs : s.heap.IsSliceOf sl .none .none vs) (ps : IsPart vs (some (-1)))
    (h : Q ((n : Int) - 1, -1, n) s) : wpAny (model prog w) A (Builtin.Slice.sliceApplied (.ref sl) (pure (n : Int))) Q E s := by
  obtain ⟨os, hos, hcs, hds⟩ := id hs
  unfold Builtin.Slice.sliceApplied Builtin.Slice.sliceFields
  refine wpAny_bind (wpAny_bind (wpAny_field hos hds (x := .none) rfl (wpAny_bind (wpAny_field hos hds (x := .none) rfl (wpAny_bind (wpAny_field hos hds (x := vs) rfl (wpAny_pure ?_)))))))
  refine wpAny_bind (HT.slicePart_ ps ?_)
  show wpAny _ _ (if ((-1 : Int) == 0) = true then _ else _) _ _ s
  rw [if_neg (by decide)]
  refine wpAny_bind (HT.slicePart_ .none (wpAny_bind (HT.slicePart_ .none (wpAny_bind (wpAny_pure ?_)))))
  show wpAny _ _ (pure ((n : Int) - 1, (-1 : Int), Builtin.Slice.slicePlaces ((n : Int) - 1) (-1) (-1))) _ _ s
  rw [rv_places]
  exact wpAny_pure h
theorem rv_pick (xs : Array Value) : ((List.range xs.size).filterMap fun (m : Nat) => xs[(((xs.size : Int) - 1) + (m : Int) * (-1)).toNat]?).toArray = xs.toList.reverse.toArray := by
  rw [← PySem.W.krv_pick]
  unfold slicePick
  rw [PySem.W.krv_bounds]
  show _ = ((sliceRange ((xs.size : Int) - 1) (-1) (-1)).filterMap (xs[·]?)).toArray
  rw [PySem.W.krv_sliceRange, List.filterMap_map]
  congr 2
  funext m
  have : (((xs.size : Int) - 1) + (m : Int) * (-1)).toNat = xs.size - 1 - m := by omega
  show xs[(((xs.size : Int) - 1) + (m : Int) * (-1)).toNat]? = xs[xs.size - 1 - m]?
  rw [this]
theorem getItem_tuple_rev {t sl : Addr} {items : Array Value} {vs : Value} {Q : Value → Shared → Prop} (ht : IsTup s.heap t items) (hs : s.heap.IsSliceOf sl .none .none vs) (ps : IsPart vs (some (-1)))
    (h : Q (.ref s.heap.objs.size) { s with heap := s.heap.push { cls := .type "tuple", data := .seq items.toList.reverse.toArray } })
    (hsz : items.size ≤ sizeLine) : wpAny (model prog w) A (getItem (.ref t) (.ref sl)) Q E s := by
  have htake : sizeOk (.seq items.toList.reverse.toArray) := by
    show (items.toList.reverse.toArray).size ≤ sizeLine
    rw [List.size_toArray, List.length_reverse, Array.length_toList]
    exact hsz
  obtain ⟨os, hos, hcs, hds⟩ := id hs
  have hTs : s.TypeIs (.ref sl) "slice" := ⟨os, hos, hcs⟩
  unfold getItem
  try with_reducible refine wpAny_holding ?_
  first | refine wpAny_bind (wpAny_pure ?_) | skip
  refine wpAny_bind (wpAny_sequenceKey ht.typeIs (by decide) ?_)
  refine wpAny_bind (wpAny_callSpecial?_slot (name := Str.ofString "__getitem__") ht.typeIs PyProof.Rows.slot_tuple_getitem
    (wpAny_call_entry PyProof.Rows.slot_tuple_getitem ht.typeIs entry_tuple_getitem ?_ (args_tuple_getitem _ _)))
  show wpAny _ _ (Builtin.Tuple.tupleItemsOf (.ref t) >>= _) _ _ s
  refine wpAny_bind (tupleItemsOf_ ht ?_)
  refine wpAny_bind (wpAny_typeOf hTs ?_)
  rw [if_pos (by decide)]
  refine wpAny_bind (rv_applied hs ps ?_)
  have hno : ¬ ((((items.size : Int) - 1) == 0 && (-1 : Int) == 1 && items.size == items.size) = true) := by
    intro q
    rw [Bool.and_eq_true, Bool.and_eq_true] at q
    have q1 : (-1 : Int) = 1 := eq_of_beq q.1.2
    cases q1
  show wpAny _ _ (if ((((items.size : Int) - 1) == 0 && (-1 : Int) == 1 && items.size == items.size)) = true then _ else _) _ _ s
  rw [if_neg hno, rv_pick]
  first
    | exact wpAny_bind (m := Builtin.Tuple.tupleExact _) (wpAny_newObj_type (wpAny_pure ⟨_, rfl, wpAny_pure h⟩) htake)
    | exact wpAny_bind (m := Builtin.Tuple.tupleExact _) (wpAny_newObj_type (wpAny_bind (wpAny_pure (wpAny_pure ⟨_, rfl, wpAny_pure h⟩))) htake)
    | exact wpAny_bind (wpAny_bind (m := Builtin.Tuple.tupleExact _) (wpAny_newObj_type (wpAny_pure (wpAny_pure ⟨_, rfl, wpAny_pure h⟩)) htake))
    | exact wpAny_bind (wpAny_bind (m := Builtin.Tuple.tupleExact _) (wpAny_newObj_type (wpAny_pure ⟨_, rfl, wpAny_pure h⟩) htake))
theorem rv_str (z : Str) : ((Builtin.Str.strSliceIndices none none (-1) z.length).filterMap (z.cps[·]?)).toArray = z.cps.toList.reverse.toArray := by
  have e : Builtin.Str.strSliceIndices none none (-1) z.length = sliceRange ((z.length : Int) - 1) (-1) (-1) := rfl
  rw [e, PySem.W.krv_sliceRange, PySem.W.krv_range, List.filterMap_reverse]
  rw [show z.length = z.cps.size from rfl, PySem.W.krv_all]
end
/-- a sequence turned about -/
def revD (d : D) : Option D := match d with
  | .lst xs => some (.lst xs.reverse)
  | .tup xs => if xs.length ≤ SZ then some (.tup xs.reverse) else none
  | .str x => if x.length ≤ SZ then some (.str x.reverse) else none
  | _ => none
def xRev (m : M D) : M D := M.bind m fun x => M.of (revD x)
section
variable {X : Cx} {c : Kx} {W : WX} {k : Nat} {e : Expr} {m : M D}
theorem repL_reverse {F : Hp} {mm : List Addr} {xs : List D} {vs : List V} (h : RepL c F mm xs vs) : RepL c F mm xs.reverse vs.reverse := by
  induction xs generalizing vs with
  | nil => simp only [RepL] at h; subst h; simp [RepL]
  | cons x xs ih =>
    simp only [RepL] at h
    obtain ⟨v, r, rfl, h1, h2⟩ := h
    rw [List.reverse_cons, List.reverse_cons]
    exact (ih h2).app (by simp only [RepL]; exact ⟨v, [], rfl, h1, rfl⟩)
theorem k_rev {ht : Bool} (B : Bg X c W k ht) {kk : Nat} {p1 p2 p3 pos : Pos} (he : PE X e (tM c W m)) : PE X (.Subscript e (.Slice none none (some (.UnaryOp .USub (.Constant (.int 1) kk p1) p2)) p3) pos) (tM c W (xRev m)) := by
  refine ⟨fun pins s σ H Q I ⟨g, R, h⟩ => ?_⟩
  refine Subscript_ (thn (he.run pins s σ H (fun v H1 => ∃ g1 d, Rel c g1 σ H1 ∧ Rep c g1.F g1.m d v ∧ After c W g1 σ (M.of (revD d) g1.ρ g1.S) fun d g' H' => ∀ v, Rep c g'.F g'.m d v → Q v H') I ⟨g, R, (After.bind h).imp fun d g1 H1 x1 R1 q v r => ⟨g1, d, R1, r, q⟩⟩) fun v s1 ⟨x, H1, I1, r1, g1, d, R1, rr, q1⟩ => ?_)
  have hst : PO X (some (.UnaryOp .USub (.Constant (.int 1) kk p1) p2)) (tPart (tUn (rU fun i => .int (-i)) (tC (.int 1)))) := po_some (pe_un un_neg pe_int)
  refine wpAny_Slice (thn (po_none.run pins s1 σ H1 (fun o H2 => o = none ∧ H2 = H1) I1 ⟨rfl, rfl⟩) fun vl s2 ⟨l, H2, I2, pl, el, e2⟩ => ?_)
  subst el e2
  refine thn (po_none.run pins s2 σ H2 (fun o H3 => o = none ∧ H3 = H2) I2 ⟨rfl, rfl⟩) fun vu s3 ⟨u, H3, I3, pu, eu, e3⟩ => ?_
  subst eu e3
  refine thn (hst.run pins s3 σ H3 (fun o H4 => o = some (-1) ∧ H4 = H3) I3 ⟨1, rfl, -1, rfl, rfl, rfl⟩) fun vs s4 ⟨o, H4, I4, ps, eo, e4⟩ => ?_
  subst eo e4
  have I5 : Inv X pins σ H4 { s4 with heap := s4.heap.push { cls := .type "slice", data := .fields #[vl, vu, vs] } } := I4.kept (t' := s4.toks) fun b ob q => Heap.get?_push_of_some _ q
  obtain ⟨d', ed, q⟩ := After.of q1
  show wpAny (model X.prog X.w) X.A (subscriptTail e (.Slice none none (some (.UnaryOp .USub (.Constant (.int 1) kk p1) p2)) p3) v (.ref s4.heap.objs.size)) (EP X pins σ Q) X.xe { s4 with heap := s4.heap.push { cls := .type "slice", data := .fields #[vl, vu, vs] } }
  unfold revD at ed
  cases d with
  | lst xs =>
    cases ed
    simp only [Rep] at rr
    obtain ⟨a, ws, rfl, hF, rs⟩ := rr
    cases r1
    have hx := R1.b.fh _ _ hF
    obtain ⟨its, r, ht, hz⟩ := I5.list (SqL.of (K := X.K) hx)
    have hlen := r.length
    refine tail_any (ops := [.ref a, .ref s4.heap.objs.size]) ht.isList.typeIs (PySem.slot_list_getitem.lookup) ?_ (by with_unfolding_all rfl)
    refine wpAny_getItem_list_slice ht.isList (Heap.IsSliceOf.new _ vl vu vs) pl pu ps (by decide) ?_ (by rw [List.size_toArray]; omega)
    rw [PySem.W.krv_pick]
    have np : H4 s4.heap.objs.size.succ = none ∨ True := .inr trivial
    refine ⟨.ref _, _, I5.laid (t' := s4.toks) (o := .lst ws.reverse) (fun b ob q => Heap.get?_push_of_some _ q) (Nat.le_refl _) ?_, rfl, ?_⟩
    · exact ⟨by rw [List.length_reverse]; exact hz, _, 0, r.reverse, Heap.get?_push_size _ rfl⟩
    · obtain ⟨R2, x2⟩ := R1.grow (o := .lst ws.reverse) (I5.hok.fresh (Nat.le_refl _))
      exact q { g1 with F := upd g1.F _ _ } _ rfl rfl x2 R2 _ (by simp only [Rep]; exact ⟨_, _, rfl, upd_same, (repL_reverse rs).ext x2.e⟩)
  | tup xs =>
    by_cases hl : xs.length ≤ SZ
    · rw [show (match D.tup xs with | .lst xs => some (D.lst xs.reverse) | .tup xs => if xs.length ≤ SZ then some (.tup xs.reverse) else none | .str x => if x.length ≤ SZ then some (.str x.reverse) else none | _ => none) = some (.tup xs.reverse) from if_pos hl] at ed
      cases ed
      simp only [Rep] at rr
      obtain ⟨a, ws, rfl, hq, rs⟩ := rr
      cases r1
      have hq : SqT X.K H4 a ws := by rw [B.hK]; exact sqT_of R1.b.fh hq
      obtain ⟨its, r, ht, hz⟩ := I5.tuple hq
      have hlen := r.length
      have hnl : vl = .none := by cases pl; rfl
      have hnu : vu = .none := by cases pu; rfl
      subst hnl hnu
      refine tail_any (ops := [.ref a, .ref s4.heap.objs.size]) ht.typeIs (PyProof.Rows.slot_tuple_getitem.lookup) ?_ (by with_unfolding_all rfl)
      refine getItem_tuple_rev ht (Heap.IsSliceOf.new _ _ _ vs) ps ?_ (by rw [List.size_toArray]; omega)
      refine ⟨.ref _, _, I5.laid (t' := s4.toks) (o := .tup ws.reverse) (fun b ob q => Heap.get?_push_of_some _ q) (Nat.le_refl _) ?_, rfl, ?_⟩
      · exact ⟨by rw [List.length_reverse]; exact hz, _, r.reverse, IsTup.new _ _⟩
      · obtain ⟨R2, x2⟩ := R1.grow (o := .tup ws.reverse) (I5.hok.fresh (Nat.le_refl _))
        exact q { g1 with F := upd g1.F _ _ } _ rfl rfl x2 R2 _ (by simp only [Rep]; exact ⟨_, _, rfl, SqT.of upd_same, (repL_reverse rs).ext x2.e⟩)
    · exact absurd ed (by show (if xs.length ≤ SZ then some (D.tup xs.reverse) else none) ≠ some d'; rw [if_neg hl]; simp)
  | str x =>
    by_cases hl : x.length ≤ SZ
    · rw [show (match D.str x with | .lst xs => some (D.lst xs.reverse) | .tup xs => if xs.length ≤ SZ then some (.tup xs.reverse) else none | .str x => if x.length ≤ SZ then some (.str x.reverse) else none | _ => none) = some (.str x.reverse) from if_pos hl] at ed
      cases ed
      simp only [Rep] at rr
      subst rr
      obtain ⟨t, rfl⟩ := r1
      have hnl : vl = .none := by cases pl; rfl
      have hnu : vu = .none := by cases pu; rfl
      subst hnl hnu
      obtain ⟨sp, hsp, hsv⟩ := IsPart.raw ps
      refine tail_any (ops := [.str (toStr x) t, .ref s4.heap.objs.size]) (typeIs_str _ _ _) (F.slot_str_getitem.lookup) ?_ (by with_unfolding_all rfl)
      obtain rfl : vs = partValue sp := hsp
      refine wpAny_getItem_str_slice (l := none) (u := none) (st := sp) (Heap.IsSliceOf.new _ _ _ _) (by rw [hsv]; rfl) ?_
      have hlx : (toStr x).length = x.length := by simp [toStr, Str.length]
      have e1 : (PySem.slicePicked (toStr x) none none sp) = Builtin.Str.strSliceIndices none none (-1) (toStr x).length := by unfold PySem.slicePicked; rw [hsv]; rfl
      unfold PySem.sliceMade
      rw [hsv, if_neg (by intro z; rw [Bool.and_eq_true] at z; cases z.1), e1, rv_str]
      have hv : (⟨(toStr x).cps.toList.reverse.toArray⟩ : Str) = toStr x.reverse := by simp [toStr]
      rw [hv]
      have hlr : (toStr x.reverse).length ≤ sizeLine := by
        have : (toStr x.reverse).length = x.length := by simp [toStr, Str.length]
        rw [this]; exact hl
      refine ⟨hlr, .str _, H4, I5.tok _, ⟨_, rfl⟩, ?_⟩
      exact q g1 H4 rfl rfl .refl R1 _ (by simp [Rep])
    · exact absurd ed (by show (if x.length ≤ SZ then some (D.str x.reverse) else none) ≠ some d'; rw [if_neg hl]; simp)
  | _ => cases ed
end
end Ev
set_option Elab.async false
set_option linter.all false
set_option autoImplicit false
set_option maxRecDepth 100000
namespace Ev
open PySem PySem.Spec PyProof.Rows L2
section
variable {X : Cx} {c : Kx} {W : WX} {k : Nat} {e o : Expr} {es : List Expr} {m : M D} {ms : M (List D)} {apos cpos : Pos}
def mCount (m : M D) (ms : M (List D)) : M D := mMt .count (tyIs .list) m ms
def mIndexL (m : M D) (ms : M (List D)) : M D := mMt .index (tyIs .list) m ms
end
end Ev
set_option Elab.async false
set_option linter.all false
set_option autoImplicit false
set_option maxRecDepth 100000
namespace Ev
open PySem PySem.Spec PyProof.Rows L2
def sPar (i j : Nat) (ms : M (List D)) : M Flow := M.bind ms fun ds => match ds with
  | [a, b] => M.bind (mSet i a) fun _ => M.bind (mSet j b) fun _ => sNx
  | _ => M.bad
def sPar3 (i j l : Nat) (ms : M (List D)) : M Flow := M.bind ms fun ds => match ds with
  | [a, b, d] => M.bind (mSet i a) fun _ => M.bind (mSet j b) fun _ => M.bind (mSet l d) fun _ => sNx
  | _ => M.bad
end Ev
set_option Elab.async false
set_option linter.all false
set_option autoImplicit false
set_option maxRecDepth 100000
namespace Ev
open PySem PySem.Spec PyProof.Rows L2
def Mono (H H' : Hp) : Prop := ∀ a o, H a = some o → H' a = some o
theorem Mono.refl {H : Hp} : Mono H H := fun _ _ h => h
theorem Mono.trans {H H1 H2 : Hp} (a : Mono H H1) (b : Mono H1 H2) : Mono H H2 := fun x o h => b x o (a x o h)
/-- a written value, laid anew -/
def New (H H' : Hp) : D → V → Prop
  | .tup ds, v => ds.all D.flat = true ∧ ∃ a, v = .ref a ∧ H a = none ∧ H' a = some (.tup (ds.map flatV))
  | d, v => D.flat d = true ∧ v = flatV d
theorem New.mono {H H1 H2 H3 : Hp} {d : D} {v : V} (m1 : Mono H H1) (m2 : Mono H2 H3) (h : New H1 H2 d v) : New H H3 d v := by
  cases d with
  | tup ds =>
    obtain ⟨f, a, e, h1, h2⟩ := h
    refine ⟨f, a, e, ?_, m2 _ _ h2⟩
    cases q : H a with
    | none => rfl
    | some o => have := m1 _ _ q; rw [h1] at this; cases this
  | _ => exact h
theorem New.rep {c : Kx} {g : Gs} {H H' : Hp} {d : D} {v : V} (h : New H H' d v) (m : List Addr) : Rep c (fun a => if (H a).isNone then H' a else g.F a) m d v := by
  cases d with
  | tup ds =>
    obtain ⟨f, a, e, h1, h2⟩ := h
    simp only [Rep]
    refine ⟨a, _, e, SqT.of ?_, repL_flat f⟩
    show (if (H a).isNone then H' a else g.F a) = _
    rw [h1]; exact h2
  | _ => obtain ⟨f, e⟩ := h; rw [e]; exact rep_flat f
/-- the pairs of a display -/
def PNew (H H' : Hp) : List (D × D) → List (V × V) → Prop
  | [], ps => ps = []
  | (k, d) :: r, ps => ∃ v t, ps = (flatV k, v) :: t ∧ New H H' d v ∧ PNew H H' r t
theorem PNew.mono {H H1 H2 H3 : Hp} (m1 : Mono H H1) (m2 : Mono H2 H3) : ∀ {kvs : List (D × D)} {ps : List (V × V)}, PNew H1 H2 kvs ps → PNew H H3 kvs ps
  | [], _, h => h
  | (k, d) :: r, ps, ⟨v, t, e, h1, h2⟩ => ⟨v, t, e, h1.mono m1 m2, PNew.mono m1 m2 h2⟩
section
variable {X : Cx} {c : Kx} {W : WX} {k : Nat} {pos p : Pos} {e ke ve : Expr} {es vals : List Expr} {keys : List (Option Expr)} {kvs : List (D × D)} {d : D} {ds : List D}
/-- the display's dict stands -/
structure DAt (F : Hp) (kvs : List (D × D)) (c : Kx) (m : List Addr) (p : Addr) : Prop where
  ex : ∃ kk : List (L2.Key × V), F p = some (.dK kk) ∧ ∀ x : Txt, match dget (.str x) kvs with
    | none => valV kk (.inr (toStr x)) = none
    | some d => ∃ v, valV kk (.inr (toStr x)) = some v ∧ Rep c F m d v
/-- {..}[e] -/
def xDix (kvs : List (D × D)) (m : M D) : M D := M.bind m fun k => match k with | .str x => M.of (dget (.str x) kvs) | _ => M.bad
/-- {..}.get(e, f) -/
def xDgt (kvs : List (D × D)) (m md : M D) : M D := M.bind m fun k => M.bind md fun d => match k with | .str x => M.pure ((dget (.str x) kvs).getD d) | _ => M.bad
theorem DAt.ext {F F' : Hp} {m m' : List Addr} {q : Addr} (h : DAt F kvs c m q) (x : Ext F m F' m') : DAt F' kvs c m' q := by
  obtain ⟨kk, h1, h2⟩ := h.ex
  refine ⟨kk, x.f _ _ h1, fun z => ?_⟩
  have h3 := h2 z
  cases e : dget (.str z) kvs with
  | none => rw [e] at h3; exact h3
  | some d => rw [e] at h3; obtain ⟨v, q1, q2⟩ := h3; exact ⟨v, q1, q2.ext x⟩
end
end Ev
set_option Elab.async false
set_option linter.all false
set_option autoImplicit false
set_option maxRecDepth 100000
namespace Ev
open PySem PySem.Spec PyProof.Rows L2
/-- x.pop() of a slot's own list -/
def mPop (i : Nat) : M D := fun ρ S => match ρ[i]? with
  | some (some (.ow xs)) => (match xs[xs.length - 1]? with | some d => .ok d (ρ.set i (some (.ow xs.dropLast))) S | none => .bad)
  | _ => .bad
/-- x.pop(k) -/
def mPopAt (i k : Nat) : M D := fun ρ S => match ρ[i]? with
  | some (some (.ow xs)) => (match xs[k]? with | some d => .ok d (ρ.set i (some (.ow (xs.eraseIdx k)))) S | none => .bad)
  | _ => .bad
def mExt (i : Nat) (d : D) : M Unit := fun ρ S => match ρ[i]?, d with
  | some (some (.ow xs)), .lst ys => if xs.length + ys.length ≤ SZ then .ok () (ρ.set i (some (.ow (xs ++ ys)))) S else .bad
  | _, _ => .bad
/-- x.extend(e) -/
def sExt (i : Nat) (m : M D) : M Flow := M.bind (mOwnHere i) fun _ => M.bind m fun d => M.bind (mExt i d) fun _ => sNx
end Ev
set_option Elab.async false
set_option linter.all false
set_option autoImplicit false
set_option maxRecDepth 100000
namespace Ev
open PySem PySem.Spec PyProof.Rows L2
def fget (f : Txt) : List (Txt × D) → Option D
  | [] => none
  | (g, d) :: r => if g == f then some d else fget f r
def fput (f : Txt) (v : D) : List (Txt × D) → List (Txt × D)
  | [] => [(f, v)]
  | (g, d) :: r => if g == f then (g, v) :: r else (g, d) :: fput f v r
section
variable {c : Kx} {F : Hp} {m : List Addr}
theorem RepFs.put {f : Txt} {d : D} {v : V} (hv : Rep c F m d v) : ∀ {fs : List (Txt × D)} {vs : List (Str × V)}, RepFs c F m fs vs → RepFs c F m (fput f d fs) (putF (toStr f) v vs)
  | [], vs, h => by simp only [RepFs] at h; subst h; exact ⟨v, [], rfl, hv, rfl⟩
  | (g, e) :: r, vs, ⟨w, t, eq, h1, h2⟩ => by
    subst eq
    unfold fput putF
    by_cases z : g = f
    · subst z
      simp only [beq_self_eq_true, if_true]
      exact ⟨v, t, rfl, hv, h2⟩
    · have z1 : (g == f) = false := by simpa using z
      rw [z1, if_neg (fun e => z (toStr_inj e))]
      exact ⟨w, _, rfl, h1, RepFs.put hv h2⟩
theorem RepFs.len : ∀ {fs : List (Txt × D)} {vs : List (Str × V)}, RepFs c F m fs vs → vs.length = fs.length
  | [], vs, h => by simp only [RepFs] at h; subst h; rfl
  | (g, e) :: r, vs, ⟨w, t, eq, h1, h2⟩ => by subst eq; simp [RepFs.len h2]
end
/-- the fields of an instance of one of some classes -/
def insOf (cls : List Nat) (x : D) (S : Sto) : Option (Nat × Nat × List (Txt × D)) := match x with
  | .ref n => (match S[n]? with | some (.ins cl fs) => if (cls.contains cl && cl != 0) = true then some (n, cl, fs) else none | _ => none)
  | _ => none
def mFld (cls : List Nat) (f : Txt) (x : D) : M D := fun ρ S => match insOf cls x S with
  | some (_, _, fs) => (match fget f fs with | some d => .ok d ρ S | none => .bad)
  | none => .bad
def xFld (cls : List Nat) (f : Txt) (m : M D) : M D := M.bind m (mFld cls f)
def mFpt (cls : List Nat) (f : Txt) (x v : D) : M Unit := fun ρ S => match insOf cls x S with
  | some (n, cl, fs) => if fs.length < 900 then .ok () ρ (S.set n (.ins cl (fput f v fs))) else .bad
  | none => .bad
/-- o.f = e -/
def sFst (cls : List Nat) (f : Txt) (mo mv : M D) : M Flow := M.bind mv fun d => M.bind mo fun x => M.bind (mFpt cls f x d) fun _ => sNx
/-- o.f += e, o.f -= e of whole numbers -/
def sFag (cl : Nat) (f : Txt) (sub : Bool) (mo mv : M D) : M Flow := M.bind mo fun x => M.bind (mFld [cl] f x) fun a => M.bind mv fun b => match a, b with
  | .int i, .int j => M.bind (mFpt [cl] f x (.int (if sub then i - j else i + j))) fun _ => sNx
  | _, _ => M.bad
def mMth (P : Prm) (cl nf np : Nat) (nm : Txt) (ms : M (List D)) (x : D) : M D := fun ρ S => match insOf [cl] x S with
  | some (_, _, fs) => (match fget nm fs with
    | none => (M.bind ms fun ds => if ds.length + 1 = np then mCall P nf (x :: ds) else M.bad) ρ S
    | some _ => .bad)
  | none => .bad
/-- o.m(..) -/
def xMth (P : Prm) (cl nf np : Nat) (nm : Txt) (m : M D) (ms : M (List D)) : M D := M.bind m (mMth P cl nf np nm ms)
/-- C(..) -/
def mMak (P : Prm) (cl nf : Nat) (ds : List D) : M D := fun ρ S => match P.call nf (.ref S.length :: ds) (S ++ [.ins cl []]) with
  | .ok .non S' => .ok (.ref S.length) ρ S'
  | .exc x S' => .exc x ρ S'
  | _ => .bad
def xMak (P : Prm) (cl nf np : Nat) (ms : M (List D)) : M D := M.bind ms fun ds => if ds.length + 1 = np then mMak P cl nf ds else M.bad
end Ev
set_option Elab.async false
set_option linter.all false
set_option autoImplicit false
set_option maxRecDepth 100000
namespace Ev
open PySem PySem.Spec PyProof.Rows L2
section
variable {prog : Program} {w : World} {A : Around} {E : Value → Shared → Prop} {s : Shared}
/-- one more in front -/
def W1St (St : Nat → Shared → Prop) : Nat → Shared → Prop
  | 0, _ => False
  | i + 1, s => St i s
def W1P (P : Nat → Value → Prop) : Nat → Value → Prop
  | 0, _ => False
  | i + 1, v => P i v
theorem w1 {I : Addr} {fp wr : List Addr} {G : Array GenState → Array GenState → Prop} {n : Nat} {P : Nat → Value → Prop} {St : Nat → Shared → Prop} (W : WalksS prog w A I fp wr G n P St) : WalksS prog w A I fp wr G (n + 1) (W1P P) (W1St St) where
  sub := W.sub
  grefl := W.grefl
  gtrans := W.gtrans
  frame := fun i s h' tk st e k => match i, st with | i + 1, st => W.frame i s h' tk st e k
  item := fun i s Q E hi st k => match i, st with | i + 1, st => W.item i s Q E (by omega) st k
  done := fun s Q E st k => W.done s Q E st k
  self := fun i s Q E st k => match i, st with | i + 1, st => W.self i s Q E st k
end
end Ev
set_option Elab.async false
set_option linter.all false
set_option autoImplicit false
set_option maxRecDepth 100000
namespace Ev
open PySem PySem.Spec PyProof.Rows L2
/-- the masks that may come -/
def Msk (m : Nat) : Prop := MaskOk m ∨ m = 511
def orb : Nat → Nat → List Nat
  | _, 0 => []
  | x, n + 1 => x :: orb ((x * 5 + 1) % 512) n
theorem lcg_front (x : Nat) : ∀ k, lcgI 511 ((x * 5 + 1) % 512) k = lcgI 511 x (k + 1)
  | 0 => rfl
  | k + 1 => by show (lcgI 511 ((x * 5 + 1) % 512) k * 5 + 1) % 512 = _; rw [lcg_front x k]; rfl
theorem orb_mem : ∀ (n x j : Nat), j ∈ orb x n → ∃ k, k < n ∧ lcgI 511 x k = j
  | 0, _, _, h => by cases h
  | n + 1, x, j, h => by
    rcases List.mem_cons.mp h with rfl | h
    · exact ⟨0, by omega, rfl⟩
    · obtain ⟨k, hk, e⟩ := orb_mem n _ j h
      exact ⟨k + 1, by omega, by rw [← lcg_front]; exact e⟩
theorem orb_all : ((List.range 512).all fun j => (orb 0 512).contains j) = true := by decide +kernel
theorem from0 {j : Nat} (h : j ≤ 511) : ∃ k, k < 512 ∧ lcgI 511 0 k = j :=
  orb_mem 512 0 j (List.contains_iff_mem.mp (List.all_eq_true.mp orb_all j (List.mem_range.mpr (by omega))))
theorem lcg_add (a : Nat) : ∀ k, lcgI 511 (lcgI 511 0 a) k = lcgI 511 0 (a + k)
  | 0 => rfl
  | k + 1 => by show (lcgI 511 (lcgI 511 0 a) k * 5 + 1) % 512 = _; rw [lcg_add a k]; rfl
theorem lcg_again : ∀ k, lcgI 511 0 (512 + k) = lcgI 511 0 k
  | 0 => by decide +kernel
  | k + 1 => by show (lcgI 511 0 (512 + k) * 5 + 1) % 512 = _; rw [lcg_again k]; rfl
theorem lcg_from {i j : Nat} (hi : i ≤ 511) (hj : j ≤ 511) : ∃ k, k ≤ 511 ∧ lcgI 511 i k = j := by
  obtain ⟨a, ha, rfl⟩ := from0 hi
  obtain ⟨b, hb, rfl⟩ := from0 hj
  by_cases c : a ≤ b
  · exact ⟨b - a, by omega, by rw [lcg_add, show a + (b - a) = b by omega]⟩
  · exact ⟨512 + b - a, by omega, by rw [lcg_add, show a + (512 + b - a) = 512 + b by omega, lcg_again]⟩
theorem msk_run {m : Nat} (hm : Msk m) (h : Int) {j : Nat} (hj : j ≤ m) : ∃ n, n ≤ m + 12 ∧ runI m (SetTable.bits h) n = j := by
  rcases hm with hm | rfl
  · exact run_meets hm h hj
  · obtain ⟨k, hk, e⟩ := lcg_from (runI_le 511 (SetTable.bits h) 12) hj
    exact ⟨12 + k, by omega, (runI_tail (bits_lt h) k).trans e⟩
theorem msk_odd {m : Nat} (h : Msk m) : m % 2 = 1 := by
  rcases h with h | rfl
  · exact mask_odd h
  · rfl
theorem msk_le {m : Nat} (h : Msk m) : m ≤ 511 := by
  rcases h with (e | e | e) | e <;> omega
theorem way_in (m : Nat) (h : Int) (k : Nat) : way m h k ≤ m := by
  have b0 : SetTable.bits h % (m + 1) ≤ m := Nat.le_of_lt_succ (Nat.mod_lt _ (by omega))
  have b1 := runEnd_bd b0
  have := nth_in (m := m) k (runAt m (SetTable.bits h % (m + 1)) (SetTable.bits h)) (by simp only [runAt]; omega)
  show (nth m _ k).j ≤ m
  omega
/-- each thing stands on its hash's way, with no empty slot ahead -/
structure Tbl (t : SetTable) (hs : List Int) : Prop where
  up : Ris t.place.toList
  nod : t.dummies = #[]
  len : t.place.size = hs.length
  msk : Msk t.mask
  at_ : ∀ (i : Nat) (h : Int) (j : Nat), hs[i]? = some h → t.place.toList[i]? = some j → ∃ k, way t.mask h k = j ∧ ∀ k', k' < k → way t.mask h k' ∈ t.place.toList
/-- the first empty slot -/
theorem Tbl.free {t : SetTable} {hs : List Int} (T : Tbl t hs) (room : hs.length ≤ t.mask) (h : Int) :
    ∃ K, K < 10 * SetTable.turns t.mask ∧ way t.mask h K ∉ t.place.toList ∧ ∀ k, k < K → way t.mask h k ∈ t.place.toList := by
  obtain ⟨j, hj, out⟩ := st_missing t.place.toList (t.mask + 1) (by rw [Array.length_toList, T.len]; omega)
  obtain ⟨n, hn, e⟩ := msk_run T.msk h (show j ≤ t.mask by omega)
  obtain ⟨k, hk, e2⟩ := run_nth t.mask (SetTable.bits h) n
  have ew : way t.mask h k = j := by show (nth t.mask _ k).j = j; rw [e2]; exact e
  obtain ⟨K, a, b, c⟩ := st_least (p := fun k => ¬ way t.mask h k ∈ t.place.toList) k (by rw [ew]; exact out)
  refine ⟨K, ?_, b, fun k' q => Classical.byContradiction (c k' q)⟩
  unfold SetTable.turns
  omega
theorem Tbl.ahead {t : SetTable} {hs : List Int} (T : Tbl t hs) {h : Int} {K i j : Nat} (out : way t.mask h K ∉ t.place.toList) (hi : hs[i]? = some h) (hj : t.place.toList[i]? = some j) : ∃ k, k < K ∧ way t.mask h k = j := by
  obtain ⟨k, e, all⟩ := T.at_ i h j hi hj
  refine ⟨k, Nat.lt_of_not_le fun c => ?_, e⟩
  rcases Nat.lt_or_ge K k with q | q
  · exact out (all K q)
  · obtain rfl : k = K := Nat.le_antisymm q c
    exact out (e ▸ List.mem_of_getElem? hj)
/-- one more is laid into the first empty slot -/
theorem Tbl.put {t : SetTable} {hs : List Int} (T : Tbl t hs) {h : Int} {K : Nat} (out : way t.mask h K ∉ t.place.toList) (all : ∀ k, k < K → way t.mask h k ∈ t.place.toList) {p : Nat} (hp : SetTable.below t.place (way t.mask h K) = p) :
    p ≤ hs.length ∧ Tbl (t.put (way t.mask h K)).1 (hs.take p ++ h :: hs.drop p) ∧ (t.put (way t.mask h K)).2 = p ∧ (t.put (way t.mask h K)).1.mask = t.mask ∧ (t.put (way t.mask h K)).1.led = t.led ∧ (t.put (way t.mask h K)).1.plain = t.plain ∧ (t.put (way t.mask h K)).1.fill = hs.length + 1 := by
  generalize hw : way t.mask h K = w at *
  obtain ⟨c, _, _⟩ := below_cut T.up w
  rw [hp] at c
  have l0 : t.place.toList.length = hs.length := T.len
  have ph : p ≤ hs.length := by rw [← T.len]; exact c
  have pl : p ≤ t.place.toList.length := by omega
  have new : t.place[SetTable.below t.place w]? ≠ some w := fun e => out (List.mem_of_getElem? (by rw [Array.getElem?_toList]; exact e))
  have pp : (t.put w).1.place.toList = t.place.toList.take p ++ w :: t.place.toList.drop p := by rw [← hp]; exact put_place t w
  have sz : (t.put w).1.place.size = hs.length + 1 := by rw [← Array.length_toList, pp, len_ins _ pl, l0]
  have more : ∀ x, x ∈ t.place.toList → x ∈ (t.put w).1.place.toList := fun x hx => by rw [pp]; exact mem_ins.mpr (.inr hx)
  refine ⟨ph, ⟨ris_insert T.up new, put_dm T.nod w, by rw [len_ins _ ph]; exact sz, T.msk, fun i g j hi hj => ?_⟩, hp, rfl, rfl, rfl, ?_⟩
  · rw [tins_get hs ph] at hi
    rw [pp, tins_get _ pl] at hj
    have old : ∀ i', hs[i']? = some g → t.place.toList[i']? = some j → ∃ k, way t.mask g k = j ∧ ∀ k', k' < k → way t.mask g k' ∈ (t.put w).1.place.toList := fun i' x y => by
      obtain ⟨k, e, q⟩ := T.at_ i' g j x y
      exact ⟨k, e, fun k' z => more _ (q k' z)⟩
    show ∃ k, way t.mask g k = j ∧ _
    split at hi
    · rename_i z; rw [if_pos z] at hj; exact old i hi hj
    · rename_i z
      rw [if_neg z] at hj
      split at hi
      · rename_i y
        rw [if_pos y] at hj
        cases hi
        cases hj
        exact ⟨K, hw, fun k' q => more _ (all k' q)⟩
      · rename_i y; rw [if_neg y] at hj; exact old (i - 1) hi hj
  · show (t.put w).1.place.size + (t.put w).1.dummies.size = _
    rw [sz, put_dm T.nod w]
    rfl
theorem free_at {m : Nat} (hm : Msk m) (owner : Array (Option Nat)) (h : Int) {j : Nat} (hj : j ≤ m) (hf : oAt owner j = none) :
    ∃ K, SetTable.layClean.free m owner (SetTable.turns m) (SetTable.bits h % (m + 1)) (SetTable.bits h) = some (way m h K) ∧ oAt owner (way m h K) = none ∧ ∀ k, k < K → oAt owner (way m h k) ≠ none := by
  obtain ⟨n, hn, e⟩ := msk_run hm h hj
  have ew : way m h (off m (SetTable.bits h % (m + 1)) (SetTable.bits h) n) = j := by
    show (nth m _ _).j = j
    rw [nth_off, itL_run]
    exact e
  obtain ⟨K, a, b, c⟩ := st_least (p := fun k => oAt owner (way m h k) = none) _ (by rw [ew]; exact hf)
  refine ⟨K, free_spec m owner _ n _ _ K (by unfold SetTable.turns; omega) a (fun k q => ?_) ?_, b, c⟩
  · cases z : oAt owner (nth m (runAt m (SetTable.bits h % (m + 1)) (SetTable.bits h)) k).j with
    | none => exact absurd z (c k q)
    | some _ => rfl
  · have b : oAt owner (nth m (runAt m (SetTable.bits h % (m + 1)) (SetTable.bits h)) K).j = none := b
    rw [b]
    rfl
theorem own_more {m : Nat} (hm : Msk m) {done : List Int} {owner : Array (Option Nat)} (W : Own m done owner) (room : done.length ≤ m) (h : Int) :
    ∃ j, SetTable.layClean.free m owner (SetTable.turns m) (SetTable.bits h % (m + 1)) (SetTable.bits h) = some j ∧ Own m (done ++ [h]) (owner.setIfInBounds j (some done.length)) := by
  obtain ⟨ps, lp, inp⟩ := W.ps
  obtain ⟨j0, z0, y0⟩ := st_missing ps (m + 1) (by omega)
  have none0 : oAt owner j0 = none := Classical.byContradiction fun q => y0 (inp j0 (by omega) q)
  obtain ⟨K, e1, e2, e3⟩ := free_at hm owner h (show j0 ≤ m by omega) none0
  have wl := way_in m h K
  refine ⟨way m h K, e1, ?_⟩
  generalize hw : way m h K = w at *
  have ws : w < owner.size := by rw [W.sz]; omega
  have self := oAt_set_self (some done.length) ws
  have keep : ∀ i, oAt owner i ≠ none → oAt (owner.setIfInBounds w (some done.length)) i ≠ none := fun i q => by
    by_cases c : i = w
    · subst c; rw [self]; simp
    · rw [oAt_set_ne _ c]; exact q
  refine ⟨(Array.size_setIfInBounds ..).trans W.sz, fun j k jm e => ?_, fun k q => ?_, ⟨w :: ps, by simp [lp], fun j jm e => ?_⟩⟩
  · by_cases c : j = w
    · subst c
      rw [self] at e
      cases e
      exact ⟨h, K, by simp, hw, fun k' q => keep _ (e3 k' q)⟩
    · rw [oAt_set_ne _ c] at e
      obtain ⟨g, K', a, b, d⟩ := W.at_ j k jm e
      exact ⟨g, K', by rw [List.getElem?_append_left (List.getElem?_eq_some_iff.mp a).1]; exact a, b, fun k' q => keep _ (d k' q)⟩
  · simp only [List.length_append, List.length_singleton] at q
    by_cases c : k < done.length
    · obtain ⟨j, jm, e⟩ := W.all k c
      exact ⟨j, jm, by rw [oAt_set_ne _ (fun z => by rw [z, e2] at e; cases e)]; exact e⟩
    · obtain rfl : k = done.length := by omega
      exact ⟨w, wl, self⟩
  · by_cases c : j = w
    · exact c ▸ List.mem_cons_self ..
    · rw [oAt_set_ne _ c] at e
      exact List.mem_cons_of_mem _ (inp j jm e)
theorem own_fold {m : Nat} (hm : Msk m) : ∀ (rest done : List Int) (owner : Array (Option Nat)), Own m done owner → done.length + rest.length ≤ m →
    ∃ owner', rest.foldl (stepF m) (some (owner, done.length)) = some (owner', done.length + rest.length) ∧ Own m (done ++ rest) owner'
  | [], done, owner, W, _ => ⟨owner, rfl, by rw [List.append_nil]; exact W⟩
  | h :: rest, done, owner, W, hl => by
    simp only [List.length_cons] at hl ⊢
    obtain ⟨j, e, W1⟩ := own_more hm W (by omega) h
    obtain ⟨o2, f, W2⟩ := own_fold hm rest (done ++ [h]) _ W1 (by simp; omega)
    simp only [List.length_append, List.length_singleton] at f
    refine ⟨o2, ?_, by simpa using W2⟩
    rw [List.foldl_cons, stepF_some e, f, show done.length + 1 + rest.length = done.length + (rest.length + 1) by omega]
theorem own_laid {m : Nat} (hm : Msk m) {hs : Array Int} (hn : hs.size ≤ m) : ∃ owner, SetTable.layClean m hs = some owner ∧ Own m hs.toList owner := by
  obtain ⟨o, f, W⟩ := own_fold hm hs.toList [] _ (Own.init m) (by simpa using hn)
  refine ⟨o, ?_, by simpa using W⟩
  rw [layClean_eq]
  have f : hs.toList.foldl (stepF m) (some (Array.replicate (m + 1) none, 0)) = some (o, _) := f
  rw [f]
  rfl
theorem Tbl.anew (t : SetTable) {hs : Array Int} {wanted M : Nat} (hw : SetTable.sizeAbove wanted - 1 = M) (hM : Msk M) (hn : hs.size ≤ M) :
    ∃ t' order, t.relaid hs wanted = some (t', order) ∧ order.toList.Perm (List.range hs.size) ∧ Tbl t' (order.toList.map fun i => hs.getD i 0) ∧ t'.mask = M ∧ t'.led = t.led ∧ t'.plain = t.plain := by
  obtain ⟨o, e, W⟩ := own_laid hM hn
  have r : t.relaid hs wanted = some (tabOf t M o, ((liveOf M o).map (·.2)).toArray) := by rw [relaid_eq, hw, e]; rfl
  obtain ⟨r1, r2⟩ := ris_live (fun j => o.getD j none) (List.range (M + 1)) List.pairwise_lt_range
  have r1 : Ris ((liveOf M o).map (·.1)) := r1
  have r2 : ∀ x ∈ (liveOf M o).map (·.1), x ∈ List.range (M + 1) := r2
  have nd : ((liveOf M o).map (·.1)).Nodup := r1.imp fun h => Nat.ne_of_lt h
  obtain ⟨ps, p1, p2⟩ := W.ps
  have size2 : ∀ k, k < hs.size → k ∈ (liveOf M o).map (·.2) := fun k hk => by
    obtain ⟨j, a, b⟩ := W.all k hk
    exact List.mem_map.mpr ⟨(j, k), (mem_live W.sz).mpr ⟨a, b⟩, rfl⟩
  have len : (liveOf M o).length = hs.size := by
    have a := nat_nodup_len _ ps nd fun x hx => by
      obtain ⟨⟨y, k⟩, q, rfl⟩ := List.mem_map.mp hx
      obtain ⟨b1, b2⟩ := (mem_live W.sz).mp q
      exact p2 y b1 (by rw [b2]; simp)
    have b := nat_nodup_len (List.range hs.size) _ List.nodup_range fun k hk => size2 k (List.mem_range.mp hk)
    simp only [List.length_map, List.length_range] at a b
    have : hs.toList.length = hs.size := rfl
    omega
  refine ⟨_, _, r, perm_range hs.size _ (by simpa using len) size2, ⟨r1, rfl, by simp [tabOf], hM, fun i h j h1 h2 => ?_⟩, rfl, rfl, rfl⟩
  have h1 : (((liveOf M o).map (·.2)).map fun i => hs.getD i 0)[i]? = some h := h1
  have h2 : ((liveOf M o).map (·.1))[i]? = some j := h2
  simp only [List.getElem?_map] at h1 h2
  cases q : (liveOf M o)[i]? with
  | none => rw [q] at h2; cases h2
  | some yk =>
    obtain ⟨y, k⟩ := yk
    rw [q] at h1 h2
    simp only [Option.map_some, Option.some.injEq] at h1 h2
    subst h2
    obtain ⟨b1, b2⟩ := (mem_live W.sz).mp (List.mem_of_getElem? q)
    obtain ⟨g, K, a1, a2, a3⟩ := W.at_ y k b1 b2
    have eg : hs.getD k 0 = g := by rw [Array.getD_eq_getD_getElem?, ← Array.getElem?_toList, a1]; rfl
    obtain rfl : g = h := eg.symm.trans h1
    refine ⟨K, a2, fun k' z => ?_⟩
    show way M g k' ∈ (liveOf M o).map (·.1)
    cases c : oAt o (way M g k') with
    | none => exact absurd c (a3 k' z)
    | some l => exact List.mem_map.mpr ⟨_, (mem_live W.sz).mpr ⟨way_in .., c⟩, rfl⟩
end Ev
set_option Elab.async false
set_option linter.all false
set_option autoImplicit false
set_option maxRecDepth 100000
namespace Ev
open PySem PySem.Spec PyProof.Rows L2
/-- the tuple at an address is of these texts -/
abbrev TKy (P : Program) (w : World) (h : Heap) (k : List Str) (a : Addr) : Prop := IsTupleKey (strKind P w) h k a
abbrev thx (P : Program) (w : World) (k : List Str) : Int := tupleKeyHash (strKind P w) k
section
variable {P : Program} {w : World} {A : Around} {E : Value → Shared → Prop} {s : Shared}
theorem strs_items {k : List Str} {vs : List Value} (h : ItemsAre (strKind P w) k vs) : ∀ v ∈ vs, ∃ x t, v = Value.str x t := by
  induction h with
  | nil => simp
  | @cons k0 v' ks vs h1 _ ih =>
    intro v hv
    rcases List.mem_cons.mp hv with rfl | hv
    · have h1 : Value.isStrOf k0 v = true := h1
      cases v <;> simp [Value.isStrOf] at h1
      exact ⟨_, _, rfl⟩
    · exact ih v hv
theorem cls_str (n : Nat) (x : Str) (t : Tok) : ofAClassStatement n (.str x t) = pure false := by cases n <;> rfl
theorem byv_str (n : Nat) (x : Str) (t : Tok) : hashByValue n (.str x t) = pure false := by cases n <;> rfl
theorem cls_tky {k : List Str} {b : Addr} {Q : Bool → Shared → Prop} (hk : TKy P w s.heap k b) (h : Q false s) : wpAny (model P w) A (ofAClassStatement 8 (.ref b)) Q E s := by
  have ty := hk.typeIs
  obtain ⟨o, its, n, ho, _, hd, hi⟩ := hk
  unfold ofAClassStatement
  refine wpAny_bind (wpAny_typeOf ty ?_)
  simp only [beq_self_eq_true, if_true]
  try refine wpAny_bind (wpAny_pure ?_)
  try simp only [Bool.not_true, Bool.false_eq_true, if_false]
  refine wpAny_bind (m := seqItems? (.ref b)) (wpAny_seqItems ho hd ?_)
  refine wpAny_bind (m := forIn its _ _) ?_
  rw [← Array.forIn_toList]
  refine wpAny_forIn_list _ (fun rest r s' => (r.1 = none ∧ s' = s) ∧ ∀ v ∈ rest, ∃ x t, v = Value.str x t) _ ?_ ?_ _ _ ⟨⟨rfl, rfl⟩, strs_items hi⟩
  · rintro v rest r s' ⟨⟨h1, h2⟩, all⟩
    subst h2
    obtain ⟨x, t, e⟩ := all v (List.mem_cons_self ..)
    subst e
    rw [cls_str]
    refine wpAny_bind (wpAny_pure ?_)
    simp only [Bool.false_eq_true, if_false]
    exact wpAny_pure ⟨⟨rfl, rfl⟩, fun u hu => all u (List.mem_cons_of_mem _ hu)⟩
  · rintro ⟨r1, r2⟩ s' ⟨⟨h1, h2⟩, _⟩
    subst h2
    simp only at h1
    subst h1
    exact wpAny_pure h
/-- whether its hash goes by value: told one way or the other -/
theorem byv_tky {k : List Str} {b : Addr} {Q : Bool → Shared → Prop} (hk : TKy P w s.heap k b) (h : ∀ z, Q z s) : wpAny (model P w) A (hashByValue 8 (.ref b)) Q E s := by
  have ty := hk.typeIs
  obtain ⟨o, its, n, ho, _, hd, hi⟩ := hk
  unfold hashByValue
  refine wpAny_bind (wpAny_specialOf ty F.slot_tuple_hash.lookup ?_)
  refine wpAny_bind (m := seqItems? (.ref b)) (wpAny_seqItems ho hd ?_)
  refine wpAny_bind (m := forIn its _ _) ?_
  rw [← Array.forIn_toList]
  refine wpAny_forIn_list _ (fun rest r s' => (r.1 = none ∧ s' = s) ∧ ∀ v ∈ rest, ∃ x t, v = Value.str x t) _ ?_ ?_ _ _ ⟨⟨rfl, rfl⟩, strs_items hi⟩
  · rintro v rest r s' ⟨⟨h1, h2⟩, all⟩
    subst h2
    obtain ⟨x, t, e⟩ := all v (List.mem_cons_self ..)
    subst e
    rw [byv_str]
    refine wpAny_bind (wpAny_pure ?_)
    simp only [Bool.not_false, if_true]
    exact wpAny_pure (wpAny_pure (h false))
  · rintro ⟨r1, r2⟩ s' ⟨⟨h1, h2⟩, _⟩
    subst h2
    simp only at h1
    subst h1
    exact wpAny_pure (h true)
theorem seen_tky {k : List Str} {b : Addr} {Q : Bool → Shared → Prop} (hk : TKy P w s.heap k b) {ys : List Value} (hy : ∀ y ∈ ys, ∃ k' c, y = Value.ref c ∧ TKy P w s.heap k' c) (h : Q false s) :
    wpAny (model P w) A (searchCouldBeSeen (.ref b) ys) Q E s := by
  unfold searchCouldBeSeen
  refine wpAny_bind (wpAny_forIn_list _ (fun rest r s' => (r.1 = none ∧ s' = s) ∧ ∀ y ∈ rest, ∃ k' c, y = Value.ref c ∧ TKy P w s.heap k' c) _ ?_ ?_ _ _ ⟨⟨rfl, rfl⟩, hy⟩)
  · rintro v rest r s' ⟨⟨h1, h2⟩, all⟩
    subst h2
    obtain ⟨k', c, e, hc⟩ := all v (List.mem_cons_self ..)
    subst e
    have on : ∀ y ∈ rest, ∃ k' c, y = Value.ref c ∧ TKy P w s'.heap k' c := fun u hu => all u (List.mem_cons_of_mem _ hu)
    dsimp only
    by_cases z : (b == c || (carriedByValue (.ref b) && carriedByValue (.ref c))) = true
    · exact wp_if_pos z (wpAny_pure ⟨⟨rfl, rfl⟩, on⟩)
    · refine wp_if_neg z (wpAny_bind (wpAny_eqIsQuiet_tuple hk ?_))
      simp only [Bool.not_true, Bool.false_eq_true, if_false]
      refine wpAny_bind (wpAny_eqIsQuiet_tuple hc ?_)
      simp only [Bool.not_true, Bool.false_eq_true, if_false]
      refine wpAny_bind (cls_tky hk ?_)
      simp only [Bool.false_eq_true, if_false]
      refine wpAny_bind (cls_tky hc ?_)
      simp only [Bool.false_eq_true, if_false]
      exact wpAny_pure ⟨⟨rfl, rfl⟩, on⟩
  · rintro ⟨r1, r2⟩ s' ⟨⟨h1, h2⟩, _⟩
    subst h2
    simp only at h1
    subst h1
    exact wpAny_pure h
def srows (P : Program) (w : World) (L : List (Addr × List Str)) : List (Int × Value) := L.map fun p => (thx P w p.2, Value.ref p.1)
/-- the set at an address holds these tuples, as it stands in its table -/
structure SetS (P : Program) (w : World) (h : Heap) (a : Addr) (L : List (Addr × List Str)) (es : Array (Int × Value)) (ep : Nat) (t : SetTable) : Prop where
  ob : ∃ o, h.get? a = some o ∧ o.ExactSet ∧ o.data = .set es ep t
  rows : es.toList = srows P w L
  tab : Tbl t (L.map fun p => thx P w p.2)
  nd : (L.map (·.2)).Nodup
  tup : ∀ p ∈ L, TKy P w h p.2 p.1
  led : w.params.followText "set-order" = true ∨ t.led = true
  room : L.length * 5 < t.mask * 3
variable {a : Addr} {L : List (Addr × List Str)} {es : Array (Int × Value)} {ep : Nat} {t : SetTable}
theorem rows_size (h : es.toList = srows P w L) : es.size = L.length := by
  rw [← Array.length_toList, h, srows, List.length_map]
theorem SetS.size (R : SetS P w s.heap a L es ep t) : es.size = L.length := rows_size R.rows
theorem SetS.fits (R : SetS P w s.heap a L es ep t) : t.fits es.size = true := by
  have h1 := R.tab.len
  rw [List.length_map] at h1
  have := R.size
  have := R.room
  simp only [SetTable.fits, SetTable.fill, R.tab.nod, Bool.and_eq_true, beq_iff_eq, decide_eq_true_eq, List.size_toArray, List.length_nil]
  omega
theorem SetS.at_ (R : SetS P w s.heap a L es ep t) {i : Nat} {p : Addr × List Str} (h : L[i]? = some p) : es[i]? = some (thx P w p.2, Value.ref p.1) := by
  rw [← Array.getElem?_toList, R.rows, srows, List.getElem?_map, h]
  rfl
theorem SetS.gw (R : SetS P w s.heap a L es ep t) : ¬ t.gaveWay = true := by
  unfold SetTable.gaveWay
  rw [msk_odd R.tab.msk]
  decide
theorem nth_clean (m : Nat) : ∀ (n : Nat) (p : SetTable.Probe), p.dummy = none → (nth m p n).dummy = none
  | 0, _, h => h
  | n + 1, p, h => nth_clean m n (adv m p) (by unfold adv; split <;> exact h)
/-- from one step of the way on -/
theorem seek (R : SetS P w s.heap a L es ep t) {x : Addr} {k : List Str} (hx : TKy P w s.heap k x) (hu : A.units < cLine) {h : Int} (hh : thx P w k = h) {K : Nat} (lk : K < 10 * SetTable.turns t.mask)
    (out : way t.mask h K ∉ t.place.toList) (full : ∀ c, c < K → way t.mask h c ∈ t.place.toList) {Q : SetFound → Shared → Prop}
    (yes : k ∈ L.map (·.2) → Q (.there none) s) (no : k ∉ L.map (·.2) → Q (.free (way t.mask h K) false) s) :
    ∀ (f c : Nat) (st : Option SetTable.Probe), st.getD (t.probeStart h) = nth t.mask (runAt t.mask (SetTable.bits h % (t.mask + 1)) (SetTable.bits h)) c → c ≤ K → K < c + f →
      (∀ (i : Nat) p, L[i]? = some p → p.2 = k → ∃ d, c ≤ d ∧ d < K ∧ t.place.toList[i]? = some (way t.mask h d)) → wpAny (model P w) A (setSearchFrom a (.ref x) h true f st) Q E s := by
  intro f
  induction f with
  | zero => intro c st _ h1 h2; omega
  | succ f ih =>
    intro c st est hc hf left
    obtain ⟨o, ho, hex, hd⟩ := R.ob
    rw [setSearchFrom_succ]
    refine wpAny_bind (wpAny_setState_of ho hd R.fits ?_)
    dsimp only
    refine wp_if_neg R.gw ?_
    try refine wpAny_bind (wpAny_pure ?_)
    have wj : ∀ d, (nth t.mask (runAt t.mask (SetTable.bits h % (t.mask + 1)) (SetTable.bits h)) d).j = way t.mask h d := fun _ => rfl
    generalize ew : runAt t.mask (SetTable.bits h % (t.mask + 1)) (SetTable.bits h) = W0 at *
    have on : ∀ q, nth t.mask (nth t.mask W0 c) q = nth t.mask W0 (c + q) := fun q => (nth_add t.mask c W0 q).symm
    have clean : (nth t.mask W0 c).dummy = none := nth_clean _ _ _ (by rw [← ew]; rfl)
    have spec := go_spec t R.tab.up R.tab.nod (fun i => (es[i]?.map (·.1)).getD 0) h (10 * SetTable.turns t.mask) (K - c) _ clean (by omega)
      (fun q hq => by rw [on, wj]; exact full (c + q) (by omega)) (by rw [on, wj, show c + (K - c) = K by omega]; exact out)
    have hashed : ∀ (i : Nat) p, L[i]? = some p → (es[i]?.map (·.1)).getD 0 = thx P w p.2 := fun i p e => by rw [R.at_ e]; rfl
    rcases spec with ⟨q, i, hq, hi, e1, before, pr⟩ | ⟨before, pr⟩
    · have pr : t.probe (fun i => (es[i]?.map (·.1)).getD 0) h (st.getD (t.probeStart h)) = some (.candidate (way t.mask h (c + q)) i (nth t.mask W0 (c + (q + 1)))) := by
        rw [est]
        refine Eq.trans pr ?_
        rw [on, on, wj]
      rw [pr]
      dsimp only
      have hi : t.place.toList[i]? = some (way t.mask h (c + q)) := by rw [hi, on, wj]
      have il : i < L.length := by
        have h1 := (List.getElem?_eq_some_iff.mp hi).1
        have h2 := R.tab.len
        simp only [List.length_map, Array.length_toList] at h1 h2
        omega
      obtain ⟨p, hp⟩ : ∃ p, L[i]? = some p := ⟨_, List.getElem?_eq_getElem il⟩
      have pm := List.mem_of_getElem? hp
      have go : wpAny (model P w) A (searchRest a (.ref x) h true f es t (way t.mask h (c + q)) i (nth t.mask W0 (c + (q + 1)))) Q E s := by
        unfold searchRest
        rw [R.at_ hp]
        dsimp only
        refine wpAny_bind (wpAny_holding (wpAny_eqBool_tuple hu (R.tup p pm) hx ?_))
        refine wpAny_bind (wpAny_setState_of ho hd R.fits ?_)
        dsimp only
        by_cases same : p.2 = k
        · exact wp_if_pos (by simp [same]) (wpAny_pure (yes (List.mem_map.mpr ⟨p, pm, same⟩)))
        · refine wp_if_neg (by simp [same]) ?_
          try refine wpAny_bind (wpAny_pure ?_)
          rw [sameMem]
          dsimp only
          simp only [if_true, slot_live R.tab.up hi, R.at_ hp]
          refine wpAny_bind (wpAny_isSame_ref_self (wpAny_bind (wpAny_pure ?_)))
          simp only [if_true]
          refine wp_if_neg (by simp [same]) (ih (c + (q + 1)) _ rfl (by omega) (by omega) fun j r hj er => ?_)
          obtain ⟨d, d1, d2, d3⟩ := left j r hj er
          refine ⟨d, Nat.lt_of_not_le fun (z : d ≤ c + q) => ?_, d2, d3⟩
          by_cases eq : d = c + q
          · subst eq
            have s1 := slot_live R.tab.up hi
            rw [slot_live R.tab.up d3] at s1
            injection s1 with s1
            subst s1
            rw [hp] at hj
            cases hj
            exact same er
          · have z : d ≤ c + q := z
            exact before (d - c) j (by omega) (by rw [on, wj, show c + (d - c) = d by omega]; exact d3) ((hashed j r hj).trans (er ▸ hh))
      by_cases hl : t.led = true
      · refine wp_if_neg (by simp [hl]) ?_
        try refine wpAny_bind (wpAny_pure ?_)
        exact go
      · refine wp_if_pos (by simp [hl]) (wpAny_bind (seen_tky hx (fun y hy => ?_) ?_))
        · obtain ⟨e, he, rfl⟩ := List.mem_map.mp hy
          have he : e ∈ es.toList := by
            have := (by simpa using he : e ∈ es ∧ _).1
            simpa using this
          rw [R.rows] at he
          obtain ⟨p2, hp2, rfl⟩ := List.mem_map.mp he
          exact ⟨p2.2, p2.1, rfl, R.tup p2 hp2⟩
        · refine wp_if_neg (by simp) ?_
          try refine wpAny_bind (wpAny_pure ?_)
          exact go
    · have pr : t.probe (fun i => (es[i]?.map (·.1)).getD 0) h (st.getD (t.probeStart h)) = some (.empty (way t.mask h K) none) := by
        rw [est]
        refine Eq.trans pr ?_
        rw [on, wj, show c + (K - c) = K by omega]
      rw [pr]
      dsimp only
      refine wpAny_pure (no fun hm => ?_)
      obtain ⟨p, pm, rfl⟩ := List.mem_map.mp hm
      obtain ⟨i, hi⟩ := List.mem_iff_getElem?.mp pm
      obtain ⟨d, d1, d2, d3⟩ := left i p hi rfl
      exact before (d - c) i (by omega) (by rw [on, wj, show c + (d - c) = d by omega]; exact d3) ((hashed i p hi).trans hh)
theorem SetS.seek (R : SetS P w s.heap a L es ep t) {x : Addr} {k : List Str} (hx : TKy P w s.heap k x) (hu : A.units < cLine) {Q : SetFound → Shared → Prop}
    (yes : k ∈ L.map (·.2) → Q (.there none) s)
    (no : ∀ K, k ∉ L.map (·.2) → way t.mask (thx P w k) K ∉ t.place.toList → (∀ c, c < K → way t.mask (thx P w k) c ∈ t.place.toList) → Q (.free (way t.mask (thx P w k) K) false) s) :
    wpAny (model P w) A (setSearch a (.ref x) (thx P w k) true) Q E s := by
  have room := R.room
  obtain ⟨K, lk, out, full⟩ := R.tab.free (by rw [List.length_map]; omega) (thx P w k)
  have big : K < 0 + 100000 := by
    have := msk_le R.tab.msk
    unfold SetTable.turns at lk
    omega
  refine Ev.seek R hx hu rfl lk out full yes (fun n => no K n out full) 100000 0 none rfl (by omega) big fun i p hp e => ?_
  have hi : (L.map fun p => thx P w p.2)[i]? = some (thx P w k) := by rw [List.getElem?_map, hp, ← e]; rfl
  have il : i < t.place.toList.length := by
    have h1 := (List.getElem?_eq_some_iff.mp hp).1
    have h2 := R.tab.len
    simp only [List.length_map, Array.length_toList] at h2 ⊢
    omega
  obtain ⟨d, d1, d2⟩ := R.tab.ahead out hi (List.getElem?_eq_getElem il)
  exact ⟨d, by omega, d1, by rw [List.getElem?_eq_getElem il, d2]⟩
end
end Ev
set_option Elab.async false
set_option linter.all false
set_option autoImplicit false
set_option maxRecDepth 100000
namespace Ev
open PySem PySem.Spec PyProof.Rows L2
section
variable {P : Program} {w : World} {A : Around} {E : Value → Shared → Prop} {s : Shared} {a : Addr} {L : List (Addr × List Str)} {es : Array (Int × Value)} {ep : Nat} {t : SetTable}
theorem tky_same {h h' : Heap} {k : List Str} {a b : Addr} {o : Obj} {es : Array (Int × Value)} {ep : Nat} {t : SetTable} (hb : TKy P w h k b) (ho : h.get? a = some o) (hd : o.data = .set es ep t) (hs : Heap.SameBut a h h') : TKy P w h' k b := by
  obtain ⟨u, its, n, hu, hc, hdu, hi⟩ := hb
  refine ⟨u, its, n, (hs.2 b fun e => ?_).trans hu, hc, hdu, hi⟩
  subst e
  rw [ho] at hu
  cases hu
  rw [hd] at hdu
  cases hdu
theorem mid_perm {α : Type} (L : List α) (p : Nat) (x : α) : (L.take p ++ x :: L.drop p).Perm (x :: L) := by
  refine List.perm_middle.trans ?_
  rw [List.take_append_drop]
/-- what is told in an order that the table gives -/
theorem in_order (hr : es.toList = srows P w L) (order : Array Nat) (hp : order.toList.Perm (List.range L.length)) :
    ∃ M, (order.filterMap (es[·]?)).toList = srows P w M ∧ M.Perm L ∧ (M.map fun p => thx P w p.2) = order.toList.map fun i => (es.map (·.1)).getD i 0 := by
  have sz := rows_size hr
  have one : ∀ i (h : i < L.length), es[i]? = some (thx P w L[i].2, Value.ref L[i].1) := fun i h => by
    rw [← Array.getElem?_toList, hr, srows, List.getElem?_map, List.getElem?_eq_getElem h]
    rfl
  have key : ∀ l : List Nat, (∀ i ∈ l, i < L.length) → ((l.filterMap fun i => es[i]?) = srows P w (l.filterMap fun i => L[i]?)) ∧ ((l.filterMap fun i => L[i]?).map fun p => thx P w p.2) = l.map fun i => (es.map (·.1)).getD i 0 := fun l => by
    induction l with
    | nil => exact fun _ => ⟨rfl, rfl⟩
    | cons i l ih =>
      intro hl
      have h := hl i (List.mem_cons_self ..)
      obtain ⟨a, b⟩ := ih fun j hj => hl j (List.mem_cons_of_mem _ hj)
      rw [List.filterMap_cons_some (one i h), List.filterMap_cons_some (List.getElem?_eq_getElem h), a]
      refine ⟨rfl, ?_⟩
      rw [List.map_cons, List.map_cons, b]
      congr 1
      simp [Array.getD_eq_getD_getElem?, Array.getElem?_map, one i h]
  obtain ⟨a, b⟩ := key order.toList fun i hi => List.mem_range.mp (hp.mem_iff.mp hi)
  refine ⟨_, by simpa using a, (hp.filterMap _).trans (List.Perm.of_eq ?_), b⟩
  have all : ∀ n, n ≤ L.length → (List.range n).filterMap (fun i => L[i]?) = L.take n := fun n => by
    induction n with
    | zero => intro _; rfl
    | succ n ih =>
      intro h
      rw [List.range_succ, List.filterMap_append, ih (by omega), List.filterMap_cons_some (List.getElem?_eq_getElem (show n < L.length by omega)), List.take_succ, List.getElem?_eq_getElem (show n < L.length by omega)]
      rfl
  rw [all _ (Nat.le_refl _), List.take_length]
theorem relaid {o : Obj} (ho : s.heap.get? a = some o) (hex : o.ExactSet) (hd : o.data = .set es ep t) (hr : es.toList = srows P w L) (hsz : t.place.size = es.size) (hdm : t.dummies = #[]) (hfl : es.size ≤ t.mask)
    (nd : (L.map (·.2)).Nodup) (tup : ∀ p ∈ L, TKy P w s.heap p.2 p.1) (ld : w.params.followText "set-order" = true ∨ t.led = true) {wanted M : Nat}
    (hw : SetTable.sizeAbove wanted - 1 = M) (hM : Msk M) (hw2 : SetTable.sizeAbove wanted ≤ 512) (hn : L.length * 5 < M * 3) {Q : Unit → Shared → Prop}
    (hQ : ∀ h' L' es' ep' t', Heap.SameBut a s.heap h' → SetS P w h' a L' es' ep' t' → L'.Perm L → Q () { s with heap := h' }) : wpAny (model P w) A (setRelay a wanted) Q E s := by
  have sz := rows_size hr
  have fit : t.fits es.size = true := by
    simp only [SetTable.fits, SetTable.fill, hdm, Bool.and_eq_true, beq_iff_eq, decide_eq_true_eq, List.size_toArray, List.length_nil]
    omega
  obtain ⟨t', order, e, hp, T, em, el, ep'⟩ := Tbl.anew t (hs := es.map (·.1)) (wanted := wanted) hw hM (by rw [Array.size_map, sz]; omega)
  rw [Array.size_map, sz] at hp
  obtain ⟨N, r1, r2, r3⟩ := in_order hr order hp
  rw [← r3] at T
  have s2 : (order.filterMap (es[·]?)).size = es.size := by rw [rows_size r1, sz, r2.length_eq]
  rw [setRelay_eq]
  refine wpAny_bind (wpAny_setState_of ho hd fit ?_)
  dsimp only
  refine wp_if_neg (by rw [sizeLine_eq]; omega) ?_
  try refine wpAny_bind (wpAny_pure ?_)
  rw [e]
  dsimp only
  refine wpAny_bind (wp_if_neg (by rw [s2]; simp) ?_)
  try refine wpAny_bind (wpAny_pure ?_)
  refine wpAny_pure ?_
  dsimp only
  refine wpAny_storeSet_of ho hd ?_ (by
    rw [s2, sz, sizeLine_eq]
    have := msk_le hM
    omega)
  have sb : Heap.SameBut a s.heap (s.heap.update a (Obj.putSet (order.filterMap (es[·]?)) t')) := Heap.SameBut.update ..
  exact hQ _ N _ (ep + 1) t' sb ⟨⟨_, store_at ho hd, ⟨hex.1, hex.2.1, hex.2.2⟩, rfl⟩, r1, T, (r2.map (·.2)).nodup_iff.mpr nd, fun p hm => tky_same (tup p (r2.mem_iff.mp hm)) ho hd sb, by rw [el]; exact ld, by rw [r2.length_eq, em]; exact hn⟩ r2
theorem size_5 : SetTable.sizeAbove (SetTable.grown 5) = 32 := by decide +kernel
theorem size_19 : SetTable.sizeAbove (SetTable.grown 19) = 128 := by decide +kernel
theorem size_77 : SetTable.sizeAbove (SetTable.grown 77) = 512 := by decide +kernel
/-- what is stored, and the table laid anew where it is too full -/
theorem stored {o : Obj} (ho : s.heap.get? a = some o) (hex : o.ExactSet) (hd : o.data = .set es ep t) {x : Addr} {k : List Str} (hm : k ∉ L.map (·.2)) (sz : es.size = L.length) {es1 : Array (Int × Value)} {t2 : SetTable} {L1 : List (Addr × List Str)}
    (r1 : es1.toList = srows P w L1) (pm : L1.Perm ((x, k) :: L)) (nd : (L.map (·.2)).Nodup) (tup : ∀ p ∈ L1, TKy P w s.heap p.2 p.1) (T : Tbl t2 (L1.map fun p => thx P w p.2)) (ld : w.params.followText "set-order" = true ∨ t2.led = true)
    (room : L.length * 5 < t2.mask * 3) (fill : t2.fill = L.length + 1) (few : L.length < 300) {Q : Bool → Shared → Prop}
    (hQ : ∀ h' L' es' ep' t', Heap.SameBut a s.heap h' → SetS P w h' a L' es' ep' t' → L'.Perm ((x, k) :: L) → Q true { s with heap := h' }) :
    wpAny (model P w) A (do
      storeSet a es1 t2
      if !false && t2.tooFull then setRelay a (SetTable.grown (es.size + 1))
      return true) Q E s := by
  have l1 : L1.length = L.length + 1 := pm.length_eq
  have z1 : es1.size = L.length + 1 := (rows_size r1).trans l1
  refine wpAny_bind (wpAny_storeSet_of ho hd ?_ (by rw [z1, sizeLine_eq]; omega))
  have sb : Heap.SameBut a s.heap (s.heap.update a (Obj.putSet es1 t2)) := Heap.SameBut.update ..
  have ho1 := store_at (es' := es1) (t' := t2) ho hd
  have tup1 : ∀ p ∈ L1, TKy P w (s.heap.update a (Obj.putSet es1 t2)) p.2 p.1 := fun p hp => tky_same (tup p hp) ho hd sb
  generalize s.heap.update a (Obj.putSet es1 t2) = h1 at *
  have nd1 : (L1.map (·.2)).Nodup := (pm.map (·.2)).nodup_iff.mpr (List.nodup_cons.mpr ⟨hm, nd⟩)
  have len := T.len
  rw [List.length_map] at len
  by_cases hf : t2.tooFull = true
  · have full : (L.length + 1) * 5 ≥ t2.mask * 3 := by
      have h := hf
      unfold SetTable.tooFull at h
      rw [decide_eq_true_eq, fill] at h
      exact h
    have go : ∀ M, SetTable.sizeAbove (SetTable.grown (L.length + 1)) - 1 = M → Msk M → SetTable.sizeAbove (SetTable.grown (L.length + 1)) ≤ 512 → (L.length + 1) * 5 < M * 3 →
        wpAny (model P w) A (setRelay a (SetTable.grown (es.size + 1))) (fun _ s' => wpAny (model P w) A (pure true) Q E s') E { s with heap := h1 } := fun M g1 g2 g3 g4 => by
      rw [sz]
      refine relaid (s := { s with heap := h1 }) ho1 ⟨hex.1, hex.2.1, hex.2.2⟩ rfl r1 (by omega) T.nod (by omega) nd1 tup1 ld g1 g2 g3 (by omega) fun h' L' es' ep' t' sb2 R2 pm2 => ?_
      exact wpAny_pure (hQ h' L' es' ep' t' (sb.trans sb2) R2 (pm2.trans pm))
    have fin : wpAny (model P w) A (setRelay a (SetTable.grown (es.size + 1))) (fun _ s' => wpAny (model P w) A (pure true) Q E s') E { s with heap := h1 } := by
      rcases T.msk with (e | e | e) | e
      · have : L.length = 4 := by omega
        exact go 31 (by rw [this, size_5]) (.inl (.inr (.inl rfl))) (by rw [this, size_5]; decide) (by omega)
      · have : L.length = 18 := by omega
        exact go 127 (by rw [this, size_19]) (.inl (.inr (.inr rfl))) (by rw [this, size_19]; decide) (by omega)
      · have : L.length = 76 := by omega
        exact go 511 (by rw [this, size_77]) (.inr rfl) (by rw [this, size_77]; decide) (by omega)
      · omega
    first
      | exact wpAny_bind (wp_if_pos (by simp [hf]) fin)
      | exact wp_if_pos (by simp [hf]) (wpAny_bind fin)
  · have few2 : L1.length * 5 < t2.mask * 3 := by
      have h := hf
      unfold SetTable.tooFull at h
      rw [decide_eq_true_eq, fill] at h
      omega
    have fin := hQ h1 L1 es1 (ep + 1) t2 sb ⟨⟨_, ho1, ⟨hex.1, hex.2.1, hex.2.2⟩, rfl⟩, r1, T, nd1, tup1, ld, few2⟩ pm
    first
      | exact wp_if_neg (by simp [hf]) (wpAny_pure fin)
      | exact wpAny_bind (wp_if_neg (by simp [hf]) (wpAny_pure (wpAny_pure fin)))
/-- one more -/
theorem SetS.add (R : SetS P w s.heap a L es ep t) {x : Addr} {k : List Str} (hx : TKy P w s.heap k x) (hu : A.units < cLine) (few : L.length < 300) {Q : Bool → Shared → Prop}
    (hQ : ∀ b h' L' es' ep' t', Heap.SameBut a s.heap h' → SetS P w h' a L' es' ep' t' → (k ∈ L.map (·.2) → L' = L) → (k ∉ L.map (·.2) → L'.Perm ((x, k) :: L)) → Q b { s with heap := h' }) :
    wpAny (model P w) A (setAddHashed a (.ref x) (thx P w k)) Q E s := by
  obtain ⟨o, ho, hex, hd⟩ := R.ob
  unfold setAddHashed
  refine wpAny_holding ?_
  rw [show (100000 : Nat) = 99999 + 1 from rfl, setAddHashedIn_succ]
  refine wpAny_bind (wpAny_setState_of ho hd R.fits ?_)
  dsimp only
  refine wp_if_neg (by simp [byScan, Value.scannable]) ?_
  try refine wpAny_bind (wpAny_pure ?_)
  refine wpAny_bind (R.seek hx hu (fun hm => ?_) fun K hm out full => ?_)
  · dsimp only
    exact wpAny_pure (hQ false s.heap L es ep t (Heap.SameBut.refl a s.heap) R (fun _ => rfl) fun z => absurd hm z)
  · dsimp only
    refine wpAny_bind (wpAny_setState_of ho hd R.fits ?_)
    dsimp only
    obtain ⟨ph, T, q2, q3, q4, q5, q6⟩ := R.tab.put out full rfl
    generalize t.put (way t.mask (thx P w k) K) = tp at *
    obtain ⟨t1, p⟩ := tp
    dsimp only at *
    subst q2
    generalize SetTable.below t.place (way t.mask (thx P w k) K) = p at *
    have r1 : (SetTable.insertAt es p (thx P w k, Value.ref x)).toList = srows P w (L.take p ++ (x, k) :: L.drop p) := by
      rw [SetTable.toList_insertAt, R.rows]
      unfold srows
      rw [List.map_append, List.map_cons, List.map_take, List.map_drop]
    have T : Tbl t1 ((L.take p ++ (x, k) :: L.drop p).map fun p => thx P w p.2) := by
      rw [List.map_append, List.map_cons, List.map_take, List.map_drop]
      exact T
    have pm := mid_perm L p (x, k)
    have tup1 : ∀ q ∈ L.take p ++ (x, k) :: L.drop p, TKy P w s.heap q.2 q.1 := fun q hq => by
      rcases List.mem_cons.mp (pm.mem_iff.mp hq) with rfl | hq
      · exact hx
      · exact R.tup q hq
    have rm := R.room
    rw [List.length_map] at q6
    have go : ∀ t2 : SetTable, Tbl t2 ((L.take p ++ (x, k) :: L.drop p).map fun p => thx P w p.2) → t2.led = t1.led → t2.mask = t1.mask → t2.fill = t1.fill → wpAny (model P w) A (do
        storeSet a (SetTable.insertAt es p (thx P w k, Value.ref x)) t2
        if !false && t2.tooFull then setRelay a (SetTable.grown (es.size + 1))
        return true) Q E s := fun t2 T2 e1 e2 e3 =>
      stored ho hex hd hm R.size r1 pm R.nd tup1 T2 (by rw [e1, q4]; exact R.led) (by rw [e2, q3]; exact rm) (e3.trans q6) few fun h' L' es' ep' t' sb R' pm' => hQ true h' L' es' ep' t' sb R' (fun z => absurd z hm) fun _ => pm'
    have both : ∀ z : Bool, wpAny (model P w) A (do
        storeSet a (SetTable.insertAt es p (thx P w k, Value.ref x)) (if z = true then t1 else { t1 with plain := false })
        if !false && (if z = true then t1 else { t1 with plain := false }).tooFull then setRelay a (SetTable.grown (es.size + 1))
        return true) Q E s := fun z => by
      cases z with
      | true => exact go t1 T rfl rfl rfl
      | false => exact go { t1 with plain := false } ⟨T.up, T.nod, T.len, T.msk, T.at_⟩ rfl rfl rfl
    by_cases pl : t1.plain = true
    · first
        | exact wpAny_bind (wp_if_pos pl (byv_tky hx fun z => both z))
        | exact wp_if_pos pl (wpAny_bind (byv_tky hx fun z => both z))
    · first
        | exact wpAny_bind (wp_if_neg pl (wpAny_pure (both true)))
        | exact wp_if_neg pl (both true)
        | exact wp_if_neg pl (wpAny_bind (wpAny_pure (both true)))
theorem SetS.keep {h h' : Heap} (R : SetS P w h a L es ep t) (ha : ∀ o, h.get? a = some o → h'.get? a = some o) (ht : ∀ p ∈ L, TKy P w h' p.2 p.1) : SetS P w h' a L es ep t := by
  obtain ⟨o, ho, r⟩ := R.ob
  exact ⟨⟨o, ha o ho, r⟩, R.rows, R.tab, R.nd, ht, R.led, R.room⟩
theorem SetS.new {h : Heap} (ho : h.get? a = some { cls := .type "set", dict := none, data := .set #[] 0 (.fresh 0 0 (!w.params.followText "set-order")) }) : SetS P w h a [] #[] 0 (.fresh 0 0 (!w.params.followText "set-order")) :=
  ⟨⟨_, ho, ⟨rfl, rfl, rfl⟩, rfl⟩, rfl, ⟨List.Pairwise.nil, rfl, rfl, .inl (.inl rfl), fun _ _ _ h => (by simp at h)⟩, List.nodup_nil, fun _ h => (by cases h), by
    show _ ∨ (!w.params.followText "set-order") = true
    cases w.params.followText "set-order" <;> simp, by show 0 * 5 < 7 * 3; decide⟩
end
end Ev
set_option Elab.async false
set_option linter.all false
set_option autoImplicit false
set_option maxRecDepth 100000
set_option Elab.async false
set_option linter.all false
set_option autoImplicit false
set_option maxRecDepth 100000
set_option Elab.async false
set_option linter.all false
set_option autoImplicit false
set_option maxRecDepth 100000
namespace Ev
open PySem PySem.Spec PyProof.Rows L2
def dd {α : Type} [DecidableEq α] : List α → List α
  | [] => []
  | x :: r => x :: (dd r).filter fun y => decide (y ≠ x)
end Ev
set_option Elab.async false
set_option linter.all false
set_option autoImplicit false
set_option maxRecDepth 100000
namespace Ev
open PySem PySem.Spec PyProof.Rows L2
abbrev PI : Type := Addr × (Txt × Txt)
end Ev
set_option Elab.async false
set_option linter.all false
set_option autoImplicit false
set_option maxRecDepth 100000
set_option Elab.async false
set_option linter.all false
set_option autoImplicit false
set_option maxRecDepth 100000
set_option Elab.async false
set_option linter.all false
set_option autoImplicit false
set_option maxRecDepth 100000
namespace Ev
open PySem PySem.Spec PyProof.Rows L2
section
variable {X : Cx} {c : Kx} {W : WX} {k : Nat}
theorem Loose.grow {g : Gs} {σ : St} {H : Hp} {xs : List D} {a p : Addr} {o : HO} (L : Loose c g σ H xs a) (hp : H p = none) (x : Ext g.F g.m (upd g.F p o) g.m) : Loose c { g with F := upd g.F p o } σ (upd H p o) xs a := by
  obtain ⟨vs, h, r⟩ := L.ex
  have z : a ≠ p := fun z => by subst z; rw [hp] at h; cases h
  exact ⟨⟨vs, by rw [upd_ne z]; exact h, r.ext x⟩, by show upd g.F p o a = none; rw [upd_ne z]; exact L.f, L.gn, L.mn, L.s⟩
end
end Ev
set_option Elab.async false
set_option linter.all false
set_option autoImplicit false
set_option maxRecDepth 100000
namespace Ev
open PySem PySem.Spec PyProof.Rows L2
def mCallF (P : Prm) (f : Nat) (ds : List D) : M (List D) := fun ρ S => match P.call f ds S with
  | .okl xs S' => .ok xs ρ S'
  | .exc x S' => .exc x ρ S'
  | _ => .bad
def xCallF (P : Prm) (n np : Nat) (ms : M (List D)) : M (List D) := M.bind ms fun ds => if ds.length = np then mCallF P n ds else M.bad
def mCalkF (P : Prm) (f n m : Nat) (ms mk : M (List D)) (src : List (Sum Nat D)) : M (List D) := M.bind ms fun ds => M.bind mk fun es => if ds.length = n ∧ es.length = m then M.bind (M.of (srcOf (ds ++ es) src)) fun l => mCallF P f l else M.bad
section
variable {X : Cx} {c : Kx} {W : WX} {k nf np : Nat} {ps : List Str} {x : Str} {p pos : Pos} {e : Expr} {es : List Expr} {ms mk : M (List D)} {P : Prm}
theorem upd_less {G : Hp} {a b : Addr} {o : HO} (hn : G a = none) (h : upd G a o b = none) : G b = none := by
  by_cases z : b = a
  · subst z; exact hn
  · rw [upd_ne z] at h; exact h
theorem Loose.less {g : Gs} {σ : St} {H : Hp} {G : Hp} {a b : Addr} {o : HO} {ys : List D} (L : Loose c g σ H ys b) (hG : g.G = upd G a o) (hn : G a = none) : Loose c { g with G := G } σ H ys b ∧ b ≠ a := by
  have gb := L.gn
  rw [hG] at gb
  exact ⟨⟨L.ex, L.f, upd_less hn gb, L.mn, L.s⟩, fun z => by subst z; rw [upd_same] at gb; cases gb⟩
end
end Ev
set_option Elab.async false
set_option linter.all false
set_option autoImplicit false
set_option maxRecDepth 100000
set_option Elab.async false
set_option linter.all false
set_option autoImplicit false
set_option maxRecDepth 100000
namespace Ev
open PySem PySem.Spec PyProof.Rows L2
def xEqE (ma : M D) : M D := M.bind ma fun x => match x with | .lst xs => M.pure (.bl xs.isEmpty) | _ => M.bad
end Ev
set_option Elab.async false
set_option linter.all false
set_option autoImplicit false
set_option maxRecDepth 100000
namespace Ev
open PySem PySem.Spec PyProof.Rows L2
section
variable {X : Cx} {c : Kx} {W : WX} {k : Nat} {pos : Pos} {e : Expr} {es : List Expr} {m : M D} {f : List D → M Unit} {Z : St → St → Prop}
def gUnpT (n : Nat) (k : List D → M Unit) (d : D) : M Unit := M.bind (mList d) fun ds => if ds.length = n then k ds else M.bad
def fListT (m : M D) : M (List D) := M.bind m mList
end
end Ev
set_option Elab.async false
set_option linter.all false
set_option autoImplicit false
set_option maxRecDepth 100000
namespace Ev
open PySem PySem.Spec PyProof.Rows L2
def swB (a b : Txt) (i : Nat) : Bool := decide (i ≤ a.length) && b.isPrefixOf (a.drop i)
inductive Sm' where | sw | ix
/-- methods of texts, by values -/
def stp : Sm' → Txt → List D → Option D
  | .sw, a, [.str b] => some (.bl (swB a b 0))
  | .sw, a, [.str b, .int i] => if 0 ≤ i then some (.bl (swB a b i.toNat)) else none
  | .ix, [43, 45], [.str [43]] => some (.int 0)
  | .ix, [43, 45], [.str [45]] => some (.int 1)
  | _, _, _ => none
theorem subAt_eq (a b : Txt) (i : Nat) : (decide (i + (toStr b).length ≤ (toStr a).length) && Builtin.Str.subAt (toStr a) (toStr b) i) = swB a b i := by
  unfold swB
  have l1 : (toStr a).length = a.length := toStr_len a
  have l2 : (toStr b).length = b.length := toStr_len b
  have e : Builtin.Str.subAt (toStr a) (toStr b) i = ((a.drop i).take b.length == b) := by
    show ((toStr a).cps.extract i (i + (toStr b).length) == (toStr b).cps) = _
    rw [l2]
    have h1 : (toStr a).cps.extract i (i + b.length) = ((a.drop i).take b.length).toArray := by
      apply Array.ext'
      simp [toStr, List.drop_take, Nat.add_comm, List.extract_eq_drop_take]
    rw [h1]
    show (((a.drop i).take b.length).toArray == b.toArray) = _
    rw [Bool.eq_iff_iff]
    simp
  rw [e, l1, l2, Bool.eq_iff_iff]
  simp only [Bool.and_eq_true, decide_eq_true_eq, beq_iff_eq, List.isPrefixOf_iff_prefix, List.prefix_iff_eq_take]
  constructor
  · rintro ⟨h1, h2⟩
    exact ⟨by omega, h2.symm⟩
  · rintro ⟨h1, h2⟩
    have : b.length ≤ (a.drop i).length := by
      have := congrArg List.length h2
      rw [List.length_take] at this
      omega
    rw [List.length_drop] at this
    exact ⟨by omega, h2.symm⟩
section
variable {X : Cx} {c : Kx} {W : WX} {k : Nat} {e o : Expr} {es : List Expr} {m : M D} {ms : M (List D)} {apos cpos : Pos}
def mSt (st : Sm') (m : M D) (ms : M (List D)) : M D := M.bind m fun x => match x with
  | .str a => M.bind ms fun ds => M.of (stp st a ds)
  | _ => M.bad
end
end Ev
set_option Elab.async false
set_option linter.all false
set_option autoImplicit false
set_option maxRecDepth 100000
namespace PySem.SeqAt
open AutoSeq1 (wpAny_loadPart')
open MeetsSeq
end PySem.SeqAt
namespace PySem.SeqAt
end PySem.SeqAt
set_option Elab.async false
set_option linter.all false
set_option autoImplicit false
set_option maxRecDepth 100000
set_option Elab.async false
set_option linter.all false
set_option autoImplicit false
set_option maxRecDepth 100000
namespace Ev
open PySem PySem.Spec PyProof.Rows L2
/-- in its place, or at the end -/
def dput (kvs : List (D × D)) (k d : D) : List (D × D) :=
  if (kvs.any fun p => D.eqb p.1 k) = true then kvs.map (fun p => if D.eqb p.1 k = true then (p.1, d) else p) else kvs ++ [(k, d)]
theorem keyOf_eqb {j k : D} {kj kk : L2.Key} (h1 : keyOf j = some kj) (h2 : keyOf k = some kk) : (D.eqb j k = true) ↔ kj = kk := by
  cases j <;> cases k <;> simp only [keyOf, Option.some.injEq] at h1 h2 <;> first | (cases h1; done) | (cases h2; done) | skip
  · subst h1 h2
    simp [D.eqb]
  · subst h1 h2
    simp [D.eqb]
  · subst h1 h2
    simp [D.eqb]
  · subst h1 h2
    simp only [D.eqb, beq_iff_eq, Sum.inr.injEq]
    exact ⟨fun h => by rw [h], toStr_inj⟩
section
variable {c : Kx} {F : Hp} {m : List Addr}
theorem RepKv.any {kvs : List (D × D)} {kk : List (L2.Key × V)} (h : RepKv c F m kvs kk) {k : D} {key : L2.Key} (hk : keyOf k = some key) : (kvs.any fun p => D.eqb p.1 k) = kk.any fun kv => decide (kv.1 = key) := by
  induction kvs generalizing kk with
  | nil => simp only [RepKv] at h; subst h; rfl
  | cons p r ih =>
    obtain ⟨key', v, t, h1, rfl, h3, h4⟩ := h
    rw [List.any_cons, List.any_cons, ih h4]
    congr 1
    have := keyOf_eqb h1 hk
    by_cases e : key' = key
    · rw [this.mpr e]; simp [e]
    · have : D.eqb p.1 k = false := by
        cases q : D.eqb p.1 k with
        | false => rfl
        | true => exact absurd (this.mp q) e
      rw [this]; simp [e]
theorem RepKv.app {kvs more : List (D × D)} {kk mm : List (L2.Key × V)} (h : RepKv c F m kvs kk) (h' : RepKv c F m more mm) : RepKv c F m (kvs ++ more) (kk ++ mm) := by
  induction kvs generalizing kk with
  | nil => simp only [RepKv] at h; subst h; exact h'
  | cons p r ih =>
    obtain ⟨key', v, t, h1, rfl, h3, h4⟩ := h
    exact ⟨key', v, t ++ mm, h1, rfl, h3, ih h4⟩
theorem RepKv.map {kvs : List (D × D)} {kk : List (L2.Key × V)} (h : RepKv c F m kvs kk) {k d : D} {key : L2.Key} {v : V} (hk : keyOf k = some key) (r : Rep c F m d v) :
    RepKv c F m (kvs.map fun p => if D.eqb p.1 k = true then (p.1, d) else p) (kk.map fun kv => if kv.1 = key then (kv.1, v) else kv) := by
  induction kvs generalizing kk with
  | nil => simp only [RepKv] at h; subst h; exact rfl
  | cons p rr ih =>
    obtain ⟨key', w, t, h1, rfl, h3, h4⟩ := h
    have q := keyOf_eqb h1 hk
    rw [List.map_cons, List.map_cons]
    obtain ⟨pk, pd⟩ := p
    by_cases e : key' = key
    · rw [if_pos (q.mpr e), if_pos (show (key', w).1 = key from e)]
      exact ⟨key', v, _, h1, rfl, r, ih h4⟩
    · rw [if_neg (fun z => e (q.mp z)), if_neg (show ¬ (key', w).1 = key from e)]
      exact ⟨key', w, _, h1, rfl, h3, ih h4⟩
theorem RepKv.put {kvs : List (D × D)} {kk : List (L2.Key × V)} (h : RepKv c F m kvs kk) {k d : D} {key : L2.Key} {v : V} (hk : keyOf k = some key) (r : Rep c F m d v) : RepKv c F m (dput kvs k d) (putK kk key v) := by
  unfold dput putK
  rw [h.any hk]
  by_cases e : (kk.any fun kv => decide (kv.1 = key)) = true
  · rw [if_pos e, if_pos e]; exact h.map hk r
  · rw [if_neg e, if_neg e]; exact h.app ⟨key, v, [], hk, rfl, r, rfl⟩
end
end Ev
set_option Elab.async false
set_option linter.all false
set_option autoImplicit false
set_option maxRecDepth 100000
set_option Elab.async false
set_option linter.all false
set_option autoImplicit false
set_option maxRecDepth 100000
set_option maxHeartbeats 1000000
set_option Elab.async false
set_option linter.all false
set_option autoImplicit false
set_option maxRecDepth 100000
namespace Ev
open PySem PySem.Spec PyProof.Rows L2
def flatC : Cell → Bool
  | .lst xs => xs.all D.flat
  | .dct kvs => kvs.all fun p => D.flat p.2
  | .ins _ _ => false
end Ev
set_option Elab.async false
set_option linter.all false
set_option autoImplicit false
set_option maxRecDepth 100000
set_option Elab.async false
set_option linter.all false
set_option autoImplicit false
set_option maxRecDepth 100000
namespace EvZ
open PySem PySem.Spec PyProof.Rows L2
/-- what a zip over two stands at -/
def ZAt (z TI TO i1 i2 L : Addr) (h : Heap) : Prop := IsTupOf2 h TI (.ref i1) (.ref i2) ∧ ((IsZip h z TI TO .none ∧ ∃ a1 a2, IsTupOf2 h TO a1 a2) ∨ ∃ T f oT oO, IsZipHeld h z TI TO T f ∧ h.get? T = some oT ∧ T ≠ z ∧ T ≠ i1 ∧ T ≠ i2 ∧ T ≠ L ∧ h.get? TO = some oO)
theorem ZAt.keeps {z TI TO i1 i2 L : Addr} {h h' : Heap} (x : ZAt z TI TO i1 i2 L h) (k : ∀ b o, b ≠ L → h.get? b = some o → h'.get? b = some o) (l1 : z ≠ L) (l2 : TI ≠ L) (l3 : TO ≠ L) : ZAt z TI TO i1 i2 L h' := by
  obtain ⟨a, b⟩ := x
  refine ⟨k _ _ l2 a, ?_⟩
  rcases b with ⟨b, a1, a2, c⟩ | ⟨T, f, oT, oO, b, c, d1, d2, d3, d4, d5⟩
  · exact .inl ⟨k _ _ l1 b, a1, a2, k _ _ l3 c⟩
  · exact .inr ⟨T, f, oT, oO, k _ _ l1 b, k _ _ d4 c, d1, d2, d3, d4, k _ _ l3 d5⟩
end EvZ
set_option Elab.async false
set_option linter.all false
set_option autoImplicit false
set_option maxRecDepth 100000
set_option Elab.async false
set_option linter.all false
set_option autoImplicit false
set_option maxRecDepth 100000
set_option Elab.async false
set_option linter.all false
set_option autoImplicit false
set_option maxRecDepth 100000
set_option Elab.async false
set_option linter.all false
set_option autoImplicit false
set_option maxRecDepth 100000
set_option Elab.async false
set_option linter.all false
set_option autoImplicit false
set_option maxRecDepth 100000
set_option Elab.async false
set_option linter.all false
set_option autoImplicit false
set_option maxRecDepth 100000
set_option Elab.async false
set_option linter.all false
set_option autoImplicit false
set_option maxRecDepth 100000
namespace Ev
open PySem PySem.Spec PyProof.Rows L2
def RepPs (c : Kx) (F : Hp) (m : List Addr) : List (D × D) → List (V × V) → Prop
  | [], ps => ps = []
  | (k, d) :: r, ps => ∃ x y t, ps = (x, y) :: t ∧ Rep c F m k x ∧ Rep c F m d y ∧ RepPs c F m r t
theorem RepPs.ext {c : Kx} {F F' : Hp} {m m' : List Addr} (e : Ext F m F' m') : ∀ {kvs : List (D × D)} {ps : List (V × V)}, RepPs c F m kvs ps → RepPs c F' m' kvs ps
  | [], _, h => h
  | (k, d) :: r, ps, ⟨x, y, t, h1, h2, h3, h4⟩ => ⟨x, y, t, h1, h2.ext e, h3.ext e, RepPs.ext e h4⟩
end Ev
set_option Elab.async false
set_option linter.all false
set_option autoImplicit false
set_option maxRecDepth 100000
set_option Elab.async false
set_option linter.all false
set_option autoImplicit false
set_option maxRecDepth 100000
set_option Elab.async false
set_option linter.all false
set_option autoImplicit false
set_option maxRecDepth 100000
set_option Elab.async false
set_option linter.all false
set_option autoImplicit false
set_option maxRecDepth 100000
set_option Elab.async false
set_option linter.all false
set_option autoImplicit false
set_option maxRecDepth 100000
set_option Elab.async false
set_option linter.all false
set_option autoImplicit false
set_option maxRecDepth 100000
set_option Elab.async false
set_option linter.all false
set_option autoImplicit false
set_option maxRecDepth 100000
set_option Elab.async false
set_option linter.all false
set_option autoImplicit false
set_option maxRecDepth 100000
set_option Elab.async false
set_option linter.all false
set_option autoImplicit false
set_option maxRecDepth 100000
set_option Elab.async false
set_option linter.all false
set_option autoImplicit false
set_option maxRecDepth 100000
namespace Ev
open PySem PySem.Spec PyProof.Rows L2
theorem RepKv.at {c : Kx} {F : Hp} {m : List Addr} : ∀ {kvs : List (D × D)} {kk : List (L2.Key × V)} {i : Nat}, RepKv c F m kvs kk → kvs.length = kk.length ∧ ∀ k v, kk[i]? = some (k, v) → ∃ d, (kvs.map Prod.snd)[i]? = some d ∧ Rep c F m d v
  | [], kk, i, h => by simp only [RepKv] at h; subst h; exact ⟨rfl, fun k v h => by simp at h⟩
  | (kd, d) :: r, kk, i, ⟨key, w, t, h1, h2, h3, h4⟩ => by
    subst h2
    cases i with
    | zero =>
      obtain ⟨l, _⟩ := RepKv.at (i := 0) h4
      refine ⟨by simp [l], fun k v h => ?_⟩
      simp at h
      obtain ⟨_, rfl⟩ := h
      exact ⟨d, by simp, h3⟩
    | succ i =>
      obtain ⟨l, q⟩ := RepKv.at (i := i) h4
      refine ⟨by simp [l], fun k v h => ?_⟩
      obtain ⟨d', e, r'⟩ := q k v (by simpa using h)
      exact ⟨d', by simpa using e, r'⟩
end Ev
set_option Elab.async false
set_option linter.all false
set_option autoImplicit false
set_option maxRecDepth 100000
set_option Elab.async false
set_option linter.all false
set_option autoImplicit false
set_option maxRecDepth 100000
namespace Ev
open PySem PySem.Spec PyProof.Rows L2
/-- a def with a parameter and no cells: a token is out when its body begins -/
theorem fnG_ofT {P : PySem.Program} {w : World} {K : PySem.W.Frag} {mg : Str → Option Value} {base : Heap} {x qual : Str} {params : Arguments} {body : List Stmt} {scope : Scope} {dvs : List V} {kws : List (Str × V)} {f : Addr} {fd : FuncData} {N ps : List Str} {k : Nat} {sp : Sp}
    (F : FunD K x qual params body scope dvs kws f fd) (S : FnScope N ps scope) (hnc : ∀ y ∈ scope.names, y.2 ≠ .cell) (hps : 1 ≤ ps.length) (len : ∀ vs H Q E, sp vs H Q E → vs.length = ps.length)
    (hbody : ∀ (cdv : Value) (A : Around) (outer : List PySem.Env) (s : Shared) (H : Hp) (vs : List V) (Q : VK) (E : XK), Room (2 * k + 1) (A.deeper (envOfC qual scope s.heap.objs.size f cdv)) → A.guards = some [] → sp vs H Q E →
      ∃ t, PSsT (cxOf (L2.CX P w) P w K mg base N qual scope f cdv A outer s H E) body t ∧ t { nx := fun _ H' => Q .non H', rt := Q } (start N vs) H) : FnG P w K mg base (k + 1) f fd ps sp := by
  obtain ⟨oc, od, dV, kV, doc, pm, an, cdv, ct, osl, rfl, lk, hcd, _, _⟩ := F.ex
  refine ⟨len, fun A outer s H args us vs Q E room guard en bind rv hsp => ?_⟩
  have n1 := len _ _ _ _ hsp
  have n2 : (ps.zip us).length = ps.length := by rw [List.length_zip, ← rv.length, n1, Nat.min_self]
  have inK : K.In s.heap := en.mod.kin.keeps (fun b o z => (en.bs b o z).1)
  have nolim : s.heap.NoLimit := en.mod.nolimit.keeps (fun b o z => (en.bs b o z).1)
  have loc : ∀ y ∈ ps.zip us, scope.names.lookup y.1 = some .local := fun y hy => (S.par y.1 (List.of_mem_zip hy).1).elim id fun q => (hnc _ (PySem.mem_of_lookup q) rfl).elim
  have cells : cellsFrom (s.heap.objs.size + 1) scope.names [] = [] := cells_none _ _ _ hnc
  have env0 : newEnv scope s.heap.objs.size mainGlobals [] (qual ++ ".<locals>.") (some f) cdv none builtinsNs = envOfC qual scope s.heap.objs.size f cdv := by
    unfold envOfC; rw [cells] <;> rfl
  have look : (bindL (envOfC qual scope s.heap.objs.size f cdv).kindOf (ps.zip us) fun _ => none) = fun y => (ps.zip us).reverse.lookup y := by
    funext y
    rw [bindL_loc (ps.zip us) (fun _ => none) (fun y hy => (show (envOfC qual scope s.heap.objs.size f cdv).kindOf y.1 = some .local from loc y hy)) y, Option.or_none]
  refine codeAny_call_function room.depth (inK _ _ lk) rfl S.co S.gen rfl (PySem.W.codeRec_of inK hcd) (bind _ _ _ _ (wpAny_newFunctionEnv hnc loc (fun h1 ns same => ?_) S.kind))
  rw [env0]
  have ic : InCallC s s.heap.objs.size (bindL (envOfC qual scope s.heap.objs.size f cdv).kindOf (ps.zip us) fun _ => none) (cellsFrom (s.heap.objs.size + 1) scope.names [])
      (bindC (envOfC qual scope s.heap.objs.size f cdv).kindOf (ps.zip us) fun _ => none) ({ s with heap := h1, toks := s.toks + (ps.zip us).length } : Shared) := by
    rw [look, cells]
    exact ⟨⟨⟨_, _, rfl⟩, ns, fun b o e => same.extBut b o (Nat.ne_of_lt (Heap.lt_size e)) (Heap.get?_push_of_some _ e), Nat.le_refl _⟩, fun n c hc => absurd hc (by simp), .nil, fun n c hc => absurd hc (by simp)⟩
  have tok : 1 ≤ ({ s with heap := h1, toks := s.toks + (ps.zip us).length } : Shared).toks := by
    show 1 ≤ s.toks + (ps.zip us).length
    omega
  refine ⟨nolim.keeps ic.toInCall.keep, codeAny_func ?_⟩
  obtain ⟨t, ht, hq⟩ := hbody cdv A outer s H vs Q E ((room.mono (show 2 * k + 1 + 1 ≤ 2 * (k + 1) by omega)).deeper _) guard hsp
  have J0 := inv_start (CX := L2.CX P w) (P := P) (w := w) (K := K) (mg := mg) (base := base) (E := E) (H := H) (qual := qual) S room.hd en n1 rv ic
  refine wpAny_mono (ht [] _ (start N vs) H _ tok J0 hq) (fun fl s' hs => ?_) (fun e s' hs => hs)
  cases fl with
  | ret u => obtain ⟨v, σ', H', J, rv', q⟩ := hs; exact ⟨v, H', J.os, J.bare, J.base, J.hok, rv', q⟩
  | next => obtain ⟨σ', H', J, q⟩ := hs; exact ⟨V.non, H', J.os, J.bare, J.base, J.hok, rfl, q⟩
  | brk => obtain ⟨_, _, _, q⟩ := hs; exact q.elim
  | cont => obtain ⟨_, _, _, q⟩ := hs; exact q.elim
section
variable {P : PySem.Program} {w : World} {K : PySem.W.Frag} {mg : Str → Option Value} {base : Heap} {x qual : Str} {params : Arguments} {body : List Stmt} {scope : Scope} {dvs : List V} {kws : List (Str × V)} {f : Addr} {fd : FuncData} {N ps : List Str} {k : Nat}
/-- such a body's reading gives the def's promise -/
theorem fnT_of {c : Kx} {T : Tb} {nf : Nat} {d : FD} (F : FunD K x qual params body scope dvs kws f fd) (S : FnScope N ps scope) (hnc : ∀ y ∈ scope.names, y.2 ≠ .cell) (hps : 1 ≤ ps.length) (hT : T.fn nf = some d) (hnp : d.np = ps.length) (hns : d.ns = N.length)
    (hb : ∀ (cdv : Value) (A : Around) (outer : List PySem.Env) (s : Shared) (H : Hp) (E : XK), Room (2 * k + 1) (A.deeper (envOfC qual scope s.heap.objs.size f cdv)) → (A.deeper (envOfC qual scope s.heap.objs.size f cdv)).guards = some [] →
      PSsT (cxOf (L2.CX P w) P w K mg base N qual scope f cdv A outer s H E) body (tS c (fun cls d _ H => E cls d H) (d.body (T.prm (callT T k))))) : FnG P w K mg base (k + 1) f fd ps (spF c (callT T (k + 1)) nf ps.length) := by
  refine fnG_ofT F S hnc hps (fun vs H Q E ⟨g, ds, _, _, rs, hl, _⟩ => (repL_length rs).trans hl) fun cdv A outer s H vs Q E hr hg hsp => ⟨_, hb cdv A outer s H E hr hg, ?_⟩
  obtain ⟨g, ds, _, R, rs, hl, h⟩ := hsp
  have h : (match (match T.fn nf with | none => CR.bad | some fd => runD (T.prm (callT T k)) fd ds g.S) with | .ok d S' => _ | .okl xs S' => _ | .exc x S' => _ | .bad => False) := h
  rw [hT] at h
  have h : (match runD (T.prm (callT T k)) d ds g.S with
    | .ok d S' => ∀ v H' F' m', RelB c g.G F' m' S' H' → Ext g.F g.m F' m' → Rep c F' m' d v → Q v H'
    | .okl xs S' => ∀ a vs H' F' m', RelB c g.G F' m' S' H' → Ext g.F g.m F' m' → H' a = some (.lst vs) → RepL c F' m' xs vs → F' a = none → g.G a = none → a ∉ m' → Q (.ref a) H'
    | .exc x S' => ∀ cls dd H' F' m', RelB c g.G F' m' S' H' → Ext g.F g.m F' m' → ExnR c x cls dd H' → E cls dd H'
    | .bad => False) := h
  unfold runD at h
  rw [if_pos (hl.trans hnp.symm), hns] at h
  refine ⟨{ g with ρ := (ds.map fun d => some (.fz d)) ++ List.replicate (N.length - ds.length) none }, start_rel R rs, ?_⟩
  revert h
  show _ → After2 c _ _ (d.body (T.prm (callT T k)) ((ds.map fun d => some (.fz d)) ++ List.replicate (N.length - ds.length) none) g.S) _
  cases d.body (T.prm (callT T k)) ((ds.map fun d => some (.fz d)) ++ List.replicate (N.length - ds.length) none) g.S with
  | bad => exact fun z => z.elim
  | exc y ρ S =>
    intro h g' σ' H' cls dd e1 e2 x1 R1 r
    have hG : g'.G = g.G := x1.pr
    refine h cls dd H' g'.F g'.m ?_ x1.e r
    rw [← hG, ← e2]; exact R1.b
  | ok fl ρ S =>
    cases fl with
    | nx =>
      intro h g' σ' H' e1 e2 x1 R1
      have hG : g'.G = g.G := x1.pr
      refine h .non H' g'.F g'.m ?_ x1.e (by simp [Rep])
      rw [← hG, ← e2]; exact R1.b
    | rt v =>
      intro h g' σ' H' e1 e2 x1 R1 u r
      have hG : g'.G = g.G := x1.pr
      refine h u H' g'.F g'.m ?_ x1.e r
      rw [← hG, ← e2]; exact R1.b
    | rl xs =>
      intro h g' σ' H' e1 e2 x1 R1 a H2 R2 L
      have hG : g'.G = g.G := x1.pr
      obtain ⟨vs, hv, rv⟩ := L.ex
      refine h a vs H2 g'.F g'.m ?_ x1.e hv rv L.f (by rw [← hG]; exact L.gn) L.mn
      rw [← hG, ← e2]; exact R2.b
    | br => exact fun z => z.elim
    | ct => exact fun z => z.elim
end
section
variable {X : Cx} {c : Kx} {W : WX} {st : Stmt} {rest sa sb body : List Stmt} {a b : M Flow} {e tg iter o : Expr} {m : M D} {f : D → M Unit} {pos apos : Pos}
theorem PSsT.wk {t t' : TS} (h : PSsT X rest t) (w : ∀ D σ H, t' D σ H → t D σ H) : PSsT X rest t' := fun pins s σ H D z I q => h pins s σ H D z I (w D σ H q)
theorem PET.wk {t t' : TE} (h : PET X e t) (w : ∀ σ H Q, t' σ H Q → t σ H Q) : PET X e t' := fun pins s σ H D z I q => h pins s σ H D z I (w σ H D q)
theorem ot_of (h : PS X st (tS c W a)) : PST X st (tS c W a) := PST.of h
theorem ot_seq (h1 : PST X st (tS c W a)) (h2 : PSsT X rest (tS c W b)) : PSsT X (st :: rest) (tS c W (sSeq a b)) := by
  refine PSsT.wk (psst_cons h1 h2) fun D σ H ⟨g, R, h⟩ => ⟨g, R, (After2.bind h).imp fun f g1 σ1 H1 x1 R1 q => ?_⟩
  cases f with
  | nx => exact ⟨g1, R1, q⟩
  | br => exact After2.pure (W := W) q R1
  | ct => exact After2.pure (W := W) q R1
  | rt d => exact After2.pure (W := W) q R1
  | rl d => exact After2.pure (W := W) q R1
theorem ot_one (h1 : PST X st (tS c W a)) : PSsT X [st] (tS c W a) := PSsT.wk (CwR.psst_one h1) fun D σ H q => q
theorem ot_asg (he : PET X e (tM c W m)) (hg : PG X tg (tG c W zAny f)) (hs : swapsWithSole [tg] e pos.line X.env = pure false) (hw : swappedStores [tg] e X.env = pure none)
    (h1 : (assignEach [tg] X.env).map (·.2) = [assign tg X.env]) : PST X (.Assign [tg] e pos) (tS c W (sAsg m f)) := by
  intro pins s σ H D tk I ⟨g, R, h⟩
  refine wpAny_Assign_stores (thn (he pins s σ H (fun v H1 => ∃ g1 d, Rel c g1 σ H1 ∧ Rep c g1.F g1.m d v ∧ After2 c W g1 (M.bind (f d) (fun _ => sNx) g1.ρ g1.S) (flowOk c D)) tk I ⟨g, R, ((After2.bind h).one σ).imp fun d g1 H1 x1 R1 q v r => ⟨g1, d, R1, r, q⟩⟩) fun v s1 q1 => ?_) hs hw
  obtain ⟨y, H1, I1, r1, g1, d, R1, r, q⟩ := q1
  rw [h1]
  exact thn (hg.run pins s1 σ H1 y v (fun σ2 H2 => D.nx σ2 H2) I1 r1 ⟨g1, d, R1, r, (After2.bind q).imp fun _ g2 σ2 H2 x2 R2 q2 _ => After2.pure q2 R2⟩) fun _ s2 q2 => q2
/-- a loop whose body wants a token: one is out at each turn -/
theorem ot_for {mi : M (List D)} (hp : PassesOwn (model X.prog X.w) X.A X.env X.xe) (hc : X.calm = true) (hi : L2.PI X tg iter (tI c W mi)) (hg : PG X tg (tG c W zAny f)) (hb : PSsT X body (tS c W b)) (hs : ∀ x, foldedSetIterable iter X.env x = pure x) :
    PST X (.For tg iter body [] pos) (tS c W (sFor mi f b)) := by
  intro pins s σ H Dn tk I ⟨g, R, h⟩
  refine wpAny_For (wpAny_mono (PySem.wpAny_toks_of tk (hi.run pins s σ H (fun J H' => ∃ ds g1, Rel c g1 σ H' ∧ ItR c g1 J ds ∧ After2 c W g1 (loopM f b ds g1.ρ g1.S) (flowOk c Dn)) I
    ⟨g, R, ((After2.bind h).one σ).imp fun ds g1 H1 x1 R1 q J hJ => ⟨ds, g1, R1, hJ, q⟩⟩)) (fun v s1 q1 => wpAny_mono (PySem.wpAny_toks_of q1.1 q1.2) (fun itv s2 q2 => ?_) fun _ _ z => z.2) fun _ _ z => z.2) hs
  obtain ⟨tk2, it, fp, tn, J, H2, rfl, I2, T, st2, f2, ds, g1, R1, hJ, q⟩ := q2
  have own : ∀ {H' : Hp}, (∀ b ∈ fp, H' b = none) → ∀ b ∈ fp, FpOk X pins H' b := fun z b hb => ⟨z b hb, (f2 b hb).2⟩
  refine codeAny_forLoop_any (fun n t => 1 ≤ t.toks ∧ ∃ i τ G, Inv X pins τ G t ∧ tn i t.heap ∧ (∀ b ∈ fp, G b = none) ∧ n = ds.length - i ∧ i ≤ ds.length ∧ ∃ g2, GExt g1 g2 ∧ Rel c g2 τ G ∧ After2 c W g2 (loopM f b (ds.drop i) g2.ρ g2.S) (flowOk c Dn)) ?_
    (ds.length - 0) ⟨tk2, 0, σ, H2, I2, st2, fun b hb => (f2 b hb).1, rfl, Nat.zero_le _, g1, .refl, R1, q⟩
  rintro n t ⟨tk3, i, τ, G, I3, st3, fr3, rfl, hle, g2, x2, R2, q2⟩
  obtain ⟨j1, j2⟩ := hJ g2 τ G x2.e R2
  cases ed : ds[i]? with
  | none =>
    have hl : ds.length ≤ i := List.getElem?_eq_none_iff.mp ed
    rw [List.drop_eq_nil_of_le hl] at q2
    refine wpAny_passesOwn hp (thn (T.done X rfl rfl rfl hc i pins t τ G X.xe I3 (own fr3) st3 (j2 i hl)) fun r s4 z => ?_)
    obtain ⟨rfl, I4⟩ := z
    exact wpAny_execs_nil ⟨τ, G, I4, After2.pure q2 R2⟩
  | some d =>
    have hlt : i < ds.length := (List.getElem?_eq_some_iff.mp ed).1
    obtain ⟨go, yl⟩ := j1 i d ed
    rw [drop_at ed] at q2
    refine wpAny_passesOwn hp (wpAny_mono (PySem.wpAny_toks_of tk3 (T.item X rfl rfl rfl hc i pins t τ G X.xe I3 (own fr3) st3 go)) (fun r s4 z => ?_) fun _ _ z => z.2)
    obtain ⟨tk4, u, rfl, q4⟩ := z
    refine wpAny_passesOwn hp (wpAny_mono (PySem.wpAny_toks_of tk4 q4) (fun _ s5 z => ?_) fun _ _ z => z.2)
    obtain ⟨tk5, y, H5, I5, r5, y5, st5, fr5⟩ := z
    have P5 := I5.pinned (own fr5) (T.obj _ _ st5)
    obtain ⟨F', R3, x3, r3⟩ := yl y H5 y5
    have q3 := After2.at_ q2 (GExt.ofF x3) rfl rfl
    refine wpAny_passesOwn hp (wpAny_mono (PySem.wpAny_toks_of tk5 (hg.run _ s5 τ H5 y u (fun τ6 H6 => ∃ g4, Rel c g4 τ6 H6 ∧ GExt g1 g4 ∧ After2 c W g4 (M.bind b (fun fl => match fl with | .nx => loopM f b (ds.drop (i + 1)) | .ct => loopM f b (ds.drop (i + 1)) | .br => M.pure .nx | fl => M.pure fl) g4.ρ g4.S) (flowOk c Dn)) P5 r5
      ⟨_, d, R3, r3, (After2.bind q3).imp fun _ g4 σ4 H4 x4 R4 q4 _ => ⟨g4, R4, (x2.trans (GExt.ofF x3)).trans x4, q4⟩⟩)) (fun _ s6 z => ?_) fun _ _ z => z.2)
    obtain ⟨tk6, τ6, H6, I6, g4, R4, x4, q6⟩ := z
    refine wpAny_passesOwn hp (wpAny_mono (PySem.wpAny_toks_of tk6 (hb _ s6 τ6 H6 { nx := fun τ7 H7 => ∃ g5, Rel c g5 τ7 H7 ∧ GExt g1 g5 ∧ After2 c W g5 (loopM f b (ds.drop (i + 1)) g5.ρ g5.S) (flowOk c Dn), ct := fun τ7 H7 => ∃ g5, Rel c g5 τ7 H7 ∧ GExt g1 g5 ∧ After2 c W g5 (loopM f b (ds.drop (i + 1)) g5.ρ g5.S) (flowOk c Dn), bk := Dn.nx, rt := Dn.rt } tk6 I6
      ⟨g4, R4, (After2.bind q6).imp fun fl g5 σ5 H5 x5 R5 q5 => ?_⟩)) (fun fl s7 z => ?_) fun _ _ z => z.2)
    · cases fl with
      | nx => exact ⟨g5, R5, x4.trans x5, q5⟩
      | ct => exact ⟨g5, R5, x4.trans x5, q5⟩
      | br => exact After2.pure (W := W) q5 R5
      | rt v => exact After2.pure (W := W) q5 R5
      | rl v => exact After2.pure (W := W) q5 R5
    · obtain ⟨tk7, q7⟩ := z
      have next : ∀ {τ7 : St} {H7 : Hp}, Inv X (pins ++ pinsAt fp s5.heap) τ7 H7 s7 → (∃ g5, Rel c g5 τ7 H7 ∧ GExt g1 g5 ∧ After2 c W g5 (loopM f b (ds.drop (i + 1)) g5.ρ g5.S) (flowOk c Dn)) →
          ∃ m, m < ds.length - i ∧ 1 ≤ s7.toks ∧ ∃ i τ G, Inv X pins τ G s7 ∧ tn i s7.heap ∧ (∀ b ∈ fp, G b = none) ∧ m = ds.length - i ∧ i ≤ ds.length ∧ ∃ g2, GExt g1 g2 ∧ Rel c g2 τ G ∧ After2 c W g2 (loopM f b (ds.drop i) g2.ρ g2.S) (flowOk c Dn) := fun {τ7 H7} I7 ⟨g5, R5, x5, q5⟩ => by
        have kept : ∀ b ∈ fp, ∀ o, s5.heap.get? b = some o → _ := fun b hb o e => I7.pin (b, o) (List.mem_append_right _ (List.mem_append_right _ (mem_pinsAt hb e)))
        refine ⟨ds.length - (i + 1), by omega, tk7, i + 1, τ7, H7, I7.unpinned, T.keep _ _ _ st5 fun b hb o e => (kept b hb o e).1, fun b hb => ?_, rfl, hlt, g5, x5, R5, q5⟩
        obtain ⟨o, e, _⟩ := T.obj _ _ st5 b hb
        exact (kept b hb o e).2.1
      cases fl with
      | next => obtain ⟨_, _, I7, q7⟩ := q7; exact next I7 q7
      | cont => obtain ⟨_, _, I7, q7⟩ := q7; exact next I7 q7
      | brk => obtain ⟨τ7, H7, I7, q7⟩ := q7; exact ⟨τ7, H7, I7.unpinned, q7⟩
      | ret v => obtain ⟨x7, τ7, H7, I7, r7, q7⟩ := q7; exact ⟨x7, τ7, H7, I7.unpinned, r7, q7⟩
end
/-- every y at which the scan stops is told as z; k signs are still to be passed -/
def rpS (y z : Txt) : Nat → Txt → Txt
  | _, [] => []
  | k + 1, _ :: r => rpS y z k r
  | 0, a :: r => if y.isPrefixOf (a :: r) then z ++ rpS y z (y.length - 1) r else a :: rpS y z 0 r
/-- the places at which it stops -/
def ocS (y : Txt) : Nat → Nat → Txt → List Nat
  | _, _, [] => []
  | i, k + 1, _ :: r => ocS y (i + 1) k r
  | i, 0, a :: r => if y.isPrefixOf (a :: r) then i :: ocS y (i + 1) (y.length - 1) r else ocS y (i + 1) 0 r
/-- the parts between places, joined by z -/
def glS (L z : Txt) (m : Nat) : Nat → List Nat → Txt
  | st, [] => L.drop st
  | st, c :: r => (L.drop st).take (c - st) ++ (z ++ glS L z m (c + m) r)
theorem pref_iff {y s : Txt} : y.isPrefixOf s = true ↔ s.take y.length = y := by
  rw [List.isPrefixOf_iff_prefix, List.prefix_iff_eq_take]; exact eq_comm
theorem glS_ocS {L y z : Txt} (hy : 1 ≤ y.length) : ∀ (s : Txt) (i : Nat), s = L.drop i → (∀ st, st ≤ i → glS L z y.length st (ocS y i 0 s) = (L.drop st).take (i - st) ++ rpS y z 0 s) ∧ (∀ k, glS L z y.length (i + k) (ocS y i k s) = rpS y z k s)
  | [], i, hs => by
    have hl : L.length ≤ i := List.drop_eq_nil_iff.mp hs.symm
    refine ⟨fun st h => ?_, fun k => ?_⟩
    · show L.drop st = _
      rw [rpS, List.append_nil, List.take_of_length_le]
      rw [List.length_drop]; omega
    · show L.drop (i + k) = _
      rw [rpS]
      exact List.drop_eq_nil_iff.mpr (by omega)
  | a :: r, i, hs => by
    have hr : r = L.drop (i + 1) := by
      have e := congrArg (List.drop 1) hs
      rw [List.drop_drop] at e
      exact e
    obtain ⟨i1, i2⟩ := glS_ocS hy r (i + 1) hr
    have one : ∀ st, st ≤ i → glS L z y.length st (ocS y i 0 (a :: r)) = (L.drop st).take (i - st) ++ rpS y z 0 (a :: r) := fun st h => by
      rw [ocS, rpS]
      by_cases c : y.isPrefixOf (a :: r) = true
      · rw [if_pos c, if_pos c, glS]
        have e := i2 (y.length - 1)
        rw [show i + 1 + (y.length - 1) = i + y.length by omega] at e
        rw [e]
      · rw [if_neg c, if_neg c, i1 st (by omega)]
        have e : (L.drop st).take (i + 1 - st) = (L.drop st).take (i - st) ++ [a] := by
          rw [show i + 1 - st = i - st + 1 by omega, List.take_add]
          congr 1
          rw [List.drop_drop, show st + (i - st) = i by omega, ← hs]
          rfl
        rw [e, List.append_assoc]
        rfl
    refine ⟨one, fun k => ?_⟩
    cases k with
    | zero =>
      have e := one i (Nat.le_refl _)
      rw [Nat.sub_self, List.take_zero, List.nil_append] at e
      exact e
    | succ k =>
      have e := i2 k
      rw [show i + 1 + k = i + (k + 1) by omega] at e
      rw [ocS, rpS]
      exact e
open Builtin Builtin.Str in
theorem occ_scan {x y : Str} (hy : 1 ≤ y.length) : ∀ (n i : Nat) (A : Array Nat) (free : Nat), i + n = x.length + 1 → A.size ≤ i →
    (forIn (m := Id) (List.range' i n) (A, free) (StrLaws.occBody x y x.length (x.length + 1))).run.fst.toList = A.toList ++ ocS y.cps.toList i (free - i) (x.cps.toList.drop i)
  | 0, i, A, free, hn, ha => by
    have e : x.cps.toList.drop i = [] := List.drop_eq_nil_iff.mpr (by show x.cps.size ≤ i; have : x.cps.size = x.length := rfl; omega)
    rw [e]
    show A.toList = _
    cases free - i <;> simp [ocS]
  | n + 1, i, A, free, hn, ha => by
    have len : x.cps.toList.length = x.length := rfl
    have leny : y.cps.toList.length = y.length := rfl
    have stop : ∀ w : Str, w.length = w.cps.size := fun _ => rfl
    rw [List.range'_succ, List.forIn_cons]
    by_cases hc : ((A.size < x.length + 1 ∧ free ≤ i) ∧ i + y.length ≤ x.length) ∧ subAt x y i = true
    · have e : StrLaws.occBody x y x.length (x.length + 1) i (A, free) = pure (ForInStep.yield (A.push i, i + y.length)) := by unfold StrLaws.occBody; rw [if_pos hc]
      rw [e]
      have ih := occ_scan (x := x) hy n (i + 1) (A.push i) (i + y.length) (by omega) (by simp; omega)
      refine Eq.trans ih ?_
      have lt : i < x.cps.toList.length := by omega
      have z : free - i = 0 := by omega
      have q := hc.2
      rw [StrLaws.subAt_eq, beq_iff_eq] at q
      have p : y.cps.toList.isPrefixOf (x.cps.toList[i] :: x.cps.toList.drop (i + 1)) = true := by rw [← List.drop_eq_getElem_cons lt]; exact pref_iff.mpr q
      rw [z, List.drop_eq_getElem_cons lt, ocS, if_pos p, show i + y.length - (i + 1) = y.cps.toList.length - 1 by omega]
      simp
    · have e : StrLaws.occBody x y x.length (x.length + 1) i (A, free) = pure (ForInStep.yield (A, free)) := by unfold StrLaws.occBody; rw [if_neg hc]
      rw [e]
      have ih := occ_scan (x := x) hy n (i + 1) A free (by omega) (by omega)
      refine Eq.trans ih ?_
      congr 1
      by_cases lt : i < x.cps.toList.length
      · rw [List.drop_eq_getElem_cons lt]
        by_cases hf : free ≤ i
        · have p : ¬ y.cps.toList.isPrefixOf (x.cps.toList[i] :: x.cps.toList.drop (i + 1)) = true := fun q => by
            rw [← List.drop_eq_getElem_cons lt] at q
            have q := pref_iff.mp q
            have w := congrArg List.length q
            rw [List.length_take, List.length_drop] at w
            refine hc ⟨⟨⟨by omega, hf⟩, by omega⟩, ?_⟩
            rw [StrLaws.subAt_eq, beq_iff_eq]; exact q
          rw [show free - i = 0 by omega, show free - (i + 1) = 0 by omega, ocS, if_neg p]
        · rw [show free - i = free - (i + 1) + 1 by omega, ocS]
      · have e1 : x.cps.toList.drop i = [] := List.drop_eq_nil_iff.mpr (by omega)
        have e2 : x.cps.toList.drop (i + 1) = [] := List.drop_eq_nil_iff.mpr (by omega)
        rw [e1, e2]
        cases free - i <;> cases free - (i + 1) <;> simp [ocS]
open Builtin Builtin.Str in
theorem glued_cons {z p q : Str} {ps : List Str} : (glued z (p :: q :: ps)).cps.toList = p.cps.toList ++ (z.cps.toList ++ (glued z (q :: ps)).cps.toList) := by
  have go : ∀ (l : List Str) (a : Array Nat), (l.foldl (fun acc p => acc ++ z.cps ++ p.cps) a).toList = a.toList ++ (l.flatMap fun p => z.cps.toList ++ p.cps.toList) := by
    intro l
    induction l with
    | nil => intro a; simp
    | cons h t ih => intro a; rw [List.foldl_cons, ih]; simp [List.append_assoc]
  show (List.foldl _ p.cps (q :: ps)).toList = _ ++ (_ ++ (List.foldl _ q.cps ps).toList)
  rw [go, go]
  simp [List.append_assoc]
open Builtin Builtin.Str in
theorem glued_parts {x z : Str} {m : Nat} : ∀ (cuts : List Nat) (st : Nat), (glued z (((st :: cuts.map (· + m)).zip (cuts ++ [x.length])).map fun (i, j) => strSub x i j)).cps.toList = glS x.cps.toList z.cps.toList m st cuts
  | [], st => by
    show (x.cps.extract st x.length).toList = _
    rw [Array.toList_extract, glS]
    show (x.cps.toList.drop st).take (x.length - st) = _
    rw [List.take_of_length_le]
    rw [List.length_drop]; exact Nat.le_refl _
  | c :: r, st => by
    have e : ∃ q ps, (((c :: r).map (· + m)).zip (r ++ [x.length])).map (fun (i, j) => strSub x i j) = q :: ps := by
      cases r with
      | nil => exact ⟨_, _, rfl⟩
      | cons d r => exact ⟨_, _, rfl⟩
    obtain ⟨q, ps, e⟩ := e
    have ih := glued_parts (x := x) (z := z) (m := m) r (c + m)
    rw [show ((c + m) :: r.map (· + m)) = (c :: r).map (· + m) from rfl, e] at ih
    show (glued z (strSub x st c :: (((c :: r).map (· + m)).zip (r ++ [x.length])).map fun (i, j) => strSub x i j)).cps.toList = _
    rw [e, glued_cons, ih, glS]
    congr 1
    show (x.cps.extract st c).toList = _
    rw [Array.toList_extract]
open Builtin Builtin.Str in
theorem replace_scan {x y z : Str} (hy : 1 ≤ y.length) : Txt.replace x y z = toStr (rpS y.cps.toList z.cps.toList 0 x.cps.toList) := by
  have e0 : Txt.replace x y z = glued z (partsBetween x (occurrences x y 0 x.length (x.length + 1)) y.length) := by
    unfold PySem.Txt.replace
    split
    · rename_i h
      rcases Bool.or_eq_true_iff.mp h with h | h
      · rw [List.isEmpty_iff.mp h]
        have q := StrLaws.glued_between_self x y 0
        have w := glued_parts (x := x) (z := z) (m := y.length) [] 0
        have w2 : (glued z (partsBetween x [] y.length)).cps.toList = x.cps.toList := w
        obtain ⟨a⟩ := x
        show _ = glued z (partsBetween ⟨a⟩ [] y.length)
        generalize glued z (partsBetween ⟨a⟩ [] y.length) = g at w2
        obtain ⟨g⟩ := g
        have w3 : g = a := Array.toList_inj.mp w2
        rw [w3]
      · rw [Bool.and_eq_true, beq_iff_eq] at h
        omega
    · rfl
  have e1 := occ_scan (x := x) hy (x.length + 1) 0 #[] 0 (by omega) (Nat.le_refl _)
  have e2 : occurrences x y 0 x.length (x.length + 1) = ocS y.cps.toList 0 0 x.cps.toList := by
    rw [StrLaws.occ_eq]
    exact e1
  rw [e0, e2]
  have e3 := glued_parts (x := x) (z := z) (m := y.length) (ocS y.cps.toList 0 0 x.cps.toList) 0
  have e4 := ((glS_ocS (L := x.cps.toList) (y := y.cps.toList) (z := z.cps.toList) hy x.cps.toList 0 rfl).2 0).symm.trans e3.symm
  show glued z (((0 :: (ocS y.cps.toList 0 0 x.cps.toList).map (· + y.length)).zip ((ocS y.cps.toList 0 0 x.cps.toList) ++ [x.length])).map fun (i, j) => strSub x i j) = _
  rw [e4]
  rfl
/-- m.replace(y, z), of written texts -/
def rplD (y z : Txt) : D → M D
  | .str x => if x.length + (x.length + 1) * z.length ≤ 16777216 ∧ 1 ≤ y.length then M.pure (.str (rpS y z 0 x)) else M.bad
  | _ => M.bad
def xRpl (m : M D) (y z : Txt) : M D := M.bind m (rplD y z)
section
variable {X : Cx} {c : Kx} {W : WX} {o : Expr} {m : M D} {pos apos : Pos}
theorem rpl_wish {y z : Str} {σ : L2.St} {H : Hp} {Q : VK} (h : tM c W (xRpl m y.cps.toList z.cps.toList) σ H Q) : CwR.tReplC (tM c W m) y z σ H Q := by
  obtain ⟨g, R, h⟩ := h
  refine ⟨g, R, (After.bind h).imp fun d g1 H1 x1 R1 q v r => ?_⟩
  cases d with
  | str x =>
    simp only [Rep] at r
    subst r
    have q : After c W g1 σ ((if x.length + (x.length + 1) * z.cps.toList.length ≤ 16777216 ∧ 1 ≤ y.cps.toList.length then M.pure (.str (rpS y.cps.toList z.cps.toList 0 x)) else M.bad) g1.ρ g1.S) fun d g' H' => ∀ v, Rep c g'.F g'.m d v → Q v H' := q
    by_cases k : x.length + (x.length + 1) * z.cps.toList.length ≤ 16777216 ∧ 1 ≤ y.cps.toList.length
    · rw [if_pos k] at q
      refine ⟨toStr x, rfl, by rw [toStr_len]; exact k.1, ?_⟩
      rw [replace_scan (x := toStr x) k.2]
      exact After.pure q R1 _ (by simp [Rep, toStr])
    · rw [if_neg k] at q; exact q.elim
  | _ => exact q.elim
variable {j k : Nat} {c0 c1 : Pos}
theorem k_rplC {y z : Str} (ly lz : Txt) (hy : y.cps.toList = ly) (hz : z.cps.toList = lz) (ho : PE X o (tM c W m)) (hyz : (y == z) = false)
    (hst : starEach [.Constant (.str y) j c0, .Constant (.str z) k c1] X.env = [(false, eval (.Constant (.str y) j c0) X.env), (false, eval (.Constant (.str z) k c1) X.env)])
    (hbase : attributeBase o "replace" X.env (eval o X.env) = eval o X.env) (hline : (apos.endLine == pos.line) = true) :
    PET X (.Call (.Attribute o "replace" apos) [.Constant (.str y) j c0, .Constant (.str z) k c1] [] pos) (tM c W (xRpl m ly lz)) := by
  subst hy hz
  exact PET.wk (CwR.pet_replC ho hyz hst hbase hline) fun _ _ _ q => rpl_wish q
theorem k_rplT {y z : Str} (ly lz : Txt) (hy : y.cps.toList = ly) (hz : z.cps.toList = lz) (ho : PET X o (tM c W m)) (hyz : (y == z) = false)
    (hst : starEach [.Constant (.str y) j c0, .Constant (.str z) k c1] X.env = [(false, eval (.Constant (.str y) j c0) X.env), (false, eval (.Constant (.str z) k c1) X.env)])
    (hbase : attributeBase o "replace" X.env (eval o X.env) = eval o X.env) (hline : (apos.endLine == pos.line) = true) :
    PET X (.Call (.Attribute o "replace" apos) [.Constant (.str y) j c0, .Constant (.str z) k c1] [] pos) (tM c W (xRpl m ly lz)) := by
  subst hy hz
  exact PET.wk (CwR.pet_replT ho hyz hst hbase hline) fun _ _ _ q => rpl_wish q
end
end Ev
set_option Elab.async false
set_option linter.all false
set_option autoImplicit false
set_option maxRecDepth 100000
namespace Ev
open PySem
/-- a table has a def -/
class Fn (T : Tb) (n : Nat) (fd : outParam FD) : Prop where
  e : T.fn n = some fd
/-- forms.is_form_to -/
def b_101 (P : Prm) : M Flow := (sSeq (sIf (mT (xIsi (mBor 0) .str)) (sRet (xCmp .in_ (mBor 0) (M.pure (.tup [(.str [97,110,121]), (.str [110,117,109]), (.str [116,101,120,116])])))) sNx) (sSeq (sIf (mT (mOr (mNot (xIsi (mBor 0) .tuple)) (mOr (xCmp .eq (mVar 0) (xTup aNil)) (xCmp .eq (mBor 1) (M.pure (.int 0)))))) (sRet (M.pure (.bl false))) sNx) (sSeq (sAsg (mVar 0) (gStar (mSet 2) (mSet 3))) (sSeq (sIf (mT (mOr (mNot (xIsi (mBor 2) .str)) (mOr (xCmp .nin (mBor 2) (M.pure (.dic [((.str [100,101,101,100]), (.int 3)), ((.str [98,111,120]), (.int 2))]))) (xCmp .ne (xLen (mBor 0)) (xIdx (M.pure (.dic [((.str [100,101,101,100]), (.int 3)), ((.str [98,111,120]), (.int 2))])) (mVar 2)))))) (sRet (M.pure (.bl false))) sNx) (sRet (xBi .all (aCons (xFz (fComp (mItems (mVar 3)) [4] (mSet 4) (M.pure true) (xCall P 101 2 (aCons (mVar 4) (aCons (xBin .sub (mVar 1) (M.pure (.int 1))) aNil))))) aNil)))))))
abbrev fd_101 : FD := ⟨2, 5, b_101⟩
/-- forms.is_form -/
def b_102 (P : Prm) : M Flow := (sRet (xCall P 101 2 (aCons (mVar 0) (aCons (M.pure (.int 5)) aNil))))
abbrev fd_102 : FD := ⟨1, 1, b_102⟩
/-- forms.want_form -/
def b_104 (P : Prm) : M Flow := (sIf (mT (mNot (xCall P 102 1 (aCons (mVar 0) aNil)))) (sRai 103) sNx)
abbrev fd_104 : FD := ⟨1, 1, b_104⟩
/-- law._law_pot -/
def b_112 (P : Prm) : M Flow := (sSeq (sAsg (mIte (xCmp .lt (mVar 1) (xLen (mBor 0))) (xIdx (mBor 0) (mVar 1)) (M.pure (.int 0))) (mSet 2)) (sRet (xCel (aCons (xBi .max2 (aCons (M.pure (.int 0)) (aCons (xBin .sub (xBi .abs (aCons (mVar 2) aNil)) (xBin .pow (M.pure (.int 10)) (M.pure (.int 18)))) aNil))) (aCons (xBin .add (xBin .mod (xBin .pow (xBin .add (xBin .add (xBin .mod (xBi .abs (aCons (mVar 2) aNil)) (M.pure (.int 2147483477))) (xBin .mul (M.pure (.int 101)) (mVar 1))) (M.pure (.int 3))) (M.pure (.int 2))) (M.pure (.int 2147483399))) (M.pure (.int 1))) aNil)))))
abbrev fd_112 : FD := ⟨2, 3, b_112⟩
/-- law._law_digit -/
def b_113 (P : Prm) : M Flow := (sSeq (sIf (mT (xCmp .gt (xIdx (mBor 0) (M.pure (.int 0))) (M.pure (.int 0)))) (sSeq (sAsg (xBi .divmod (aCons (xIdx (mBor 0) (M.pure (.int 0))) (aCons (mVar 1) aNil))) (gUnp 2 (gCon (gPut (mVar 0) (M.pure (.int 0))) (gCon (mSet 2) gEnd)))) (sRet (mVar 2))) sNx) (sSeq (sAsg (xBin .mod (xBin .add (xBin .mul (xIdx (mBor 0) (M.pure (.int 1))) (M.pure (.int 48271))) (M.pure (.int 10037))) (M.pure (.int 2147483587))) (gPut (mVar 0) (M.pure (.int 1)))) (sRet (xBin .mod (xBin .fdv (xBin .mod (xBin .mul (xIdx (mBor 0) (M.pure (.int 1))) (xIdx (mBor 0) (M.pure (.int 1)))) (M.pure (.int 2147483563))) (M.pure (.int 5))) (mVar 1)))))
abbrev fd_113 : FD := ⟨2, 3, b_113⟩
/-- law._law_form -/
def b_114 (P : Prm) : M Flow := (sSeq (sAsg (xCall P 113 2 (aCons (mVar 0) (aCons (M.pure (.int 6)) aNil))) (mSet 2)) (sSeq (sIf (mT (mOr (xCmp .eq (mBor 1) (M.pure (.int 0))) (xCmp .lt (mBor 2) (M.pure (.int 3))))) (sRet (xIdx (xFz (fLst (aCons (M.pure (.str [97,110,121])) (aCons (M.pure (.str [110,117,109])) (aCons (M.pure (.str [116,101,120,116])) aNil))))) (xCall P 113 2 (aCons (mVar 0) (aCons (M.pure (.int 3)) aNil))))) sNx) (sSeq (sIf (mT (xCmp .lt (mBor 2) (M.pure (.int 5)))) (sRet (xTup (aCons (M.pure (.str [100,101,101,100])) (aCons (xCall P 114 2 (aCons (mVar 0) (aCons (xBin .sub (mVar 1) (M.pure (.int 1))) aNil))) (aCons (xCall P 114 2 (aCons (mVar 0) (aCons (xBin .sub (mVar 1) (M.pure (.int 1))) aNil))) aNil))))) sNx) (sRet (xTup (aCons (M.pure (.str [98,111,120])) (aCons (xCall P 114 2 (aCons (mVar 0) (aCons (xBin .sub (mVar 1) (M.pure (.int 1))) aNil))) aNil)))))))
abbrev fd_114 : FD := ⟨2, 3, b_114⟩
/-- formtexts.text_of_form -/
def b_135 (P : Prm) : M Flow := (sSeq (sIf (mT (xIsi (mBor 0) .str)) (sRet (mVar 0)) sNx) (sSeq (sAsg (xFz (fComp (mItems (mSlc (mBor 0) (mPart (M.pure (.int 1))) (M.pure none))) [2] (mSet 2) (M.pure true) (xCall P 135 1 (aCons (mVar 2) aNil)))) (mSet 1)) (sRet (mIte (xCmp .eq (xIdx (mBor 0) (M.pure (.int 0))) (M.pure (.str [100,101,101,100]))) (mJoin [(M.pure (.str [40])), (mFmt (mJoinT (M.pure (.str [62])) (aCons (mVar 1) aNil))), (M.pure (.str [41]))] []) (mJoin [(M.pure (.str [91])), (mFmt (xIdx (mBor 1) (M.pure (.int 0)))), (M.pure (.str [93]))] [])))))
abbrev fd_135 : FD := ⟨1, 3, b_135⟩
/-- formtexts.form_text -/
def b_136 (P : Prm) : M Flow := (sSeq (sEx (xCall P 104 1 (aCons (mVar 0) aNil))) (sRet (xCall P 135 1 (aCons (mVar 0) aNil))))
abbrev fd_136 : FD := ⟨1, 1, b_136⟩
/-- formtexts.want_sign -/
def b_137 (P : Prm) : M Flow := (sIf (mT (xCmp .ne (mSlc (mVar 0) (mPart (mVar 1)) (mPart (xBin .add (mVar 1) (M.pure (.int 1))))) (mBor 2))) (sRai 103) sNx)
abbrev fd_137 : FD := ⟨3, 3, b_137⟩
/-- formtexts.form_at -/
def b_138 (P : Prm) : M Flow := (sSeq (sFor (mItems (M.pure (.tup [(.str [97,110,121]), (.str [110,117,109]), (.str [116,101,120,116])]))) (mSet 3) (sIf (mT (xCmp .eq (mSlc (mVar 0) (mPart (mVar 1)) (mPart (xBin .add (mVar 1) (xLen (mBor 3))))) (mBor 3))) (sRet (xTup (aCons (mVar 3) (aCons (xBin .add (mVar 1) (xLen (mBor 3))) aNil)))) sNx)) (sSeq (sIf (mT (mOr (xCmp .eq (mBor 2) (M.pure (.int 0))) (xCmp .nin (mSlc (mVar 0) (mPart (mVar 1)) (mPart (xBin .add (mVar 1) (M.pure (.int 1))))) (xTup (aCons (M.pure (.str [40])) (aCons (M.pure (.str [91])) aNil)))))) (sRai 103) sNx) (sSeq (sAsg (xCall P 138 3 (aCons (mVar 0) (aCons (xBin .add (mVar 1) (M.pure (.int 1))) (aCons (xBin .sub (mVar 2) (M.pure (.int 1))) aNil)))) (gUnp 2 (gCon (mSet 4) (gCon (mSet 5) gEnd)))) (sSeq (sIf (mT (xCmp .eq (xIdx (mBor 0) (mVar 1)) (M.pure (.str [91])))) (sSeq (sEx (xCall P 137 3 (aCons (mVar 0) (aCons (mVar 5) (aCons (M.pure (.str [93])) aNil))))) (sRet (xTup (aCons (xTup (aCons (M.pure (.str [98,111,120])) (aCons (mVar 4) aNil))) (aCons (xBin .add (mVar 5) (M.pure (.int 1))) aNil))))) sNx) (sSeq (sEx (xCall P 137 3 (aCons (mVar 0) (aCons (mVar 5) (aCons (M.pure (.str [62])) aNil))))) (sSeq (sAsg (xCall P 138 3 (aCons (mVar 0) (aCons (xBin .add (mVar 5) (M.pure (.int 1))) (aCons (xBin .sub (mVar 2) (M.pure (.int 1))) aNil)))) (gUnp 2 (gCon (mSet 6) (gCon (mSet 5) gEnd)))) (sSeq (sEx (xCall P 137 3 (aCons (mVar 0) (aCons (mVar 5) (aCons (M.pure (.str [41])) aNil))))) (sRet (xTup (aCons (xTup (aCons (M.pure (.str [100,101,101,100])) (aCons (mVar 4) (aCons (mVar 6) aNil)))) (aCons (xBin .add (mVar 5) (M.pure (.int 1))) aNil)))))))))))
abbrev fd_138 : FD := ⟨3, 7, b_138⟩
/-- formtexts.read_form -/
def b_139 (P : Prm) : M Flow := (sSeq (sIf (mT (mNot (xIsi (mBor 0) .str))) (sRai 103) sNx) (sSeq (sAsg (xCall P 138 3 (aCons (mVar 0) (aCons (M.pure (.int 0)) (aCons (M.pure (.int 5)) aNil)))) (gUnp 2 (gCon (mSet 1) (gCon (mSet 2) gEnd)))) (sSeq (sIf (mT (xCmp .ne (mVar 2) (xLen (mBor 0)))) (sRai 103) sNx) (sRet (mVar 1)))))
abbrev fd_139 : FD := ⟨1, 3, b_139⟩
/-- law._law_written -/
def b_141 (P : Prm) : M Flow := (sSeq (sIf (mT (xIsi (mBor 0) .str)) (sRet (mVar 0)) sNx) (sSeq (sIf (mT (xCmp .eq (xIdx (mBor 0) (M.pure (.int 0))) (M.pure (.str [98,111,120])))) (sRet (xBin .add (xBin .add (M.pure (.str [91])) (xCall P 141 1 (aCons (xIdx (mBor 0) (M.pure (.int 1))) aNil))) (M.pure (.str [93])))) sNx) (sRet (xBin .add (xBin .add (xBin .add (xBin .add (M.pure (.str [40])) (xCall P 141 1 (aCons (xIdx (mBor 0) (M.pure (.int 1))) aNil))) (M.pure (.str [62]))) (xCall P 141 1 (aCons (xIdx (mBor 0) (M.pure (.int 2))) aNil))) (M.pure (.str [41]))))))
abbrev fd_141 : FD := ⟨1, 1, b_141⟩
/-- law._law_form_page -/
def b_297 (P : Prm) : M Flow := (sSeq (sIf (mT (xIsi (mBor 0) .str)) (sRet (mVar 0)) sNx) (sSeq (sIf (mT (xCmp .eq (xIdx (mBor 0) (M.pure (.int 0))) (M.pure (.str [98,111,120])))) (sRet (xBin .add (xBin .add (M.pure (.str [91])) (xCall P 297 1 (aCons (xIdx (mBor 0) (M.pure (.int 1))) aNil))) (M.pure (.str [93])))) sNx) (sRet (xBin .add (xBin .add (xBin .add (xBin .add (M.pure (.str [40])) (xCall P 297 1 (aCons (xIdx (mBor 0) (M.pure (.int 1))) aNil))) (M.pure (.str [62]))) (xCall P 297 1 (aCons (xIdx (mBor 0) (M.pure (.int 2))) aNil))) (M.pure (.str [41]))))))
abbrev fd_297 : FD := ⟨1, 1, b_297⟩
end Ev
set_option Elab.async false
set_option linter.all false
set_option autoImplicit false
set_option maxRecDepth 100000
set_option maxHeartbeats 0
namespace Ev
namespace k16
open PySem PySem.Spec PyProof.Rows L2
/-- _law_high: _law_pot_here _law_high_here _law_parts -/
def b_428 (P : Prm) : M Flow := (sSeq (sIf (mT (xCmp .eq (mBor 1) (M.pure (.int 0)))) (sRet (xCall P 114 2 (aCons (mVar 0) (aCons (M.pure (.int 0)) aNil)))) sNx) (sSeq (sAsg (xTup (aCons (xCall P 428 2 (aCons (mVar 0) (aCons (xBin .sub (mVar 1) (M.pure (.int 1))) aNil))) (aCons (xCall P 114 2 (aCons (mVar 0) (aCons (xBin .sub (mVar 1) (M.pure (.int 1))) aNil))) aNil))) (mSet 2)) (sRet (xIdx (xFz (fLst (aCons (xBin .add (xTup (aCons (M.pure (.str [100,101,101,100])) aNil)) (mVar 2)) (aCons (xBin .add (xTup (aCons (M.pure (.str [100,101,101,100])) aNil)) (xRev (mVar 2))) (aCons (xTup (aCons (M.pure (.str [98,111,120])) (aCons (xIdx (mBor 2) (M.pure (.int 0))) aNil))) aNil))))) (xCall P 113 2 (aCons (mVar 0) (aCons (M.pure (.int 3)) aNil)))))))
abbrev fd_428 : FD := ⟨2, 3, b_428⟩
/-- _law_reduced: _law_text _law_found _law_turn -/
def b_142 (P : Prm) : M Flow := (sSeq (sAsg (mVar 0) (mSet 1)) (sSeq (sFor (mRng1 (aCons (M.pure (.int 6)) aNil)) (mSet 2) (sAsg (xRpl (xRpl (mVar 1) [40,48,62,48,41] [48]) [91,48,93] [48]) (mSet 1))) (sRet (mVar 1))))
abbrev fd_142 : FD := ⟨1, 3, b_142⟩
/-- _law_high_of: _law_text _law_deep _law_most _law_sign -/
def b_429 (P : Prm) : M Flow := (sSeq (sAsg (xTup (aCons (M.pure (.int 0)) (aCons (M.pure (.int 0)) aNil))) (gUnp 2 (gCon (mSet 1) (gCon (mSet 2) gEnd)))) (sSeq (sFor (mItems (mVar 0)) (mSet 3) (sSeq (sIf (mT (xCmp .in_ (mBor 3) (M.pure (.str [40,91])))) (sSeq (sAsg (xBin .add (mVar 1) (M.pure (.int 1))) (mSet 1)) (sAsg (xBi .max2 (aCons (mVar 2) (aCons (mVar 1) aNil))) (mSet 2))) sNx) (sIf (mT (xCmp .in_ (mBor 3) (M.pure (.str [41,93])))) (sAsg (xBin .sub (mVar 1) (M.pure (.int 1))) (mSet 1)) sNx))) (sRet (mVar 2))))
abbrev fd_429 : FD := ⟨1, 4, b_429⟩
/-- _law_is_text: _law_text _law_noughts -/
def b_144 (P : Prm) : M Flow := (sSeq (sIf (mT (mOr (xCmp .in_ (M.pure (.str [48])) (mBor 0)) (xCmp .gt (xCall P 429 1 (aCons (mVar 0) aNil)) (M.pure (.int 5))))) (sRet (M.pure (.bl false))) sNx) (sSeq (sAsg (xRpl (xRpl (xRpl (mVar 0) [97,110,121] [48]) [110,117,109] [48]) [116,101,120,116] [48]) (mSet 1)) (sRet (xCmp .eq (xCall P 142 1 (aCons (mVar 1) aNil)) (M.pure (.str [48]))))))
abbrev fd_144 : FD := ⟨1, 2, b_144⟩
/-- _law_spoilt: _law_pot_here _law_text _law_at _law_sign _law_way -/
def b_430 (P : Prm) : M Flow := (sSeq (sAsg (xCall P 113 2 (aCons (mVar 0) (aCons (xBin .add (xLen (mBor 1)) (M.pure (.int 1))) aNil))) (mSet 2)) (sSeq (sAsg (xIdx (M.pure (.str [40,41,91,93,62,97,110,116,117,120,32,44,48,45])) (xCall P 113 2 (aCons (mVar 0) (aCons (M.pure (.int 14)) aNil)))) (mSet 3)) (sSeq (sAsg (xCall P 113 2 (aCons (mVar 0) (aCons (M.pure (.int 4)) aNil))) (mSet 4)) (sSeq (sIf (mT (xCmp .eq (mBor 4) (M.pure (.int 0)))) (sRet (xBin .add (mSlc (mBor 1) (M.pure none) (mPart (mVar 2))) (mSlc (mVar 1) (mPart (xBin .add (mVar 2) (M.pure (.int 1)))) (M.pure none)))) sNx) (sSeq (sIf (mT (xCmp .eq (mBor 4) (M.pure (.int 1)))) (sRet (xBin .add (xBin .add (mSlc (mBor 1) (M.pure none) (mPart (mVar 2))) (mVar 3)) (mSlc (mBor 1) (mPart (mVar 2)) (M.pure none)))) sNx) (sSeq (sIf (mT (xCmp .eq (mBor 4) (M.pure (.int 2)))) (sRet (xBin .add (xBin .add (mSlc (mBor 1) (M.pure none) (mPart (mVar 2))) (mVar 3)) (mSlc (mVar 1) (mPart (xBin .add (mVar 2) (M.pure (.int 1)))) (M.pure none)))) sNx) (sRet (xBin .add (mSlc (mBor 1) (mPart (mVar 2)) (M.pure none)) (mSlc (mBor 1) (M.pure none) (mPart (mVar 2)))))))))))
abbrev fd_430 : FD := ⟨2, 5, b_430⟩
/-- _law_told: _law_thing e -/
def b_431 (P : Prm) : M Flow := (sTryAs (sRet (xFz (fLst (aCons (M.pure (.str [116,111,108,100])) (aCons (xCall P 139 1 (aCons (mVar 0) aNil)) aNil))))) (fun n => n == 103 || n == 119 || n == 120 || n == 146 || n == 147) 1 (fun y => (sSeq (sIf (mT (mOr (mIsE 1 ((fun n => n == 146) y.c || ((fun n => n == 120) y.c || ((fun n => n == 147) y.c || false)))) (mNot (mIsE 1 ((fun n => n == 103 || n == 119 || n == 120 || n == 146 || n == 147) y.c))))) (sRet (xFz (fLst (aCons (M.pure (.str [97,110,111,116,104,101,114])) (aCons (M.pure .non) aNil))))) sNx) (sRet (mIte (mIsE 1 ((fun n => n == 103) y.c)) (xFz (fLst (aCons (M.pure (.str [114,101,102,117,115,101,100])) (aCons (M.pure .non) aNil)))) (xFz (fLst (aCons (M.pure (.str [97,110,111,116,104,101,114])) (aCons (M.pure .non) aNil)))))))))
abbrev fd_431 : FD := ⟨1, 2, b_431⟩
/-- _law_is_refused: _law_form_here -/
def b_148 (P : Prm) : M Flow := (sSeq (sTry (sEx (xCall P 136 1 (aCons (mVar 0) aNil))) (fun n => n == 103) (sRet (M.pure (.bl true)))) (sRet (M.pure (.bl false))))
abbrev fd_148 : FD := ⟨1, 1, b_148⟩
/-- _law_right: _law_pot_here _law_high_here _law_form_here _law_text _law_other _law_told_here _law_odd _law_some _law_thing -/
def b_432 (P : Prm) : M Flow := (sSeq (sFor (mRng1 (aCons (M.pure (.int 6)) aNil)) (mSet 1) (sSeq (sAsg (xCall P 428 2 (aCons (mVar 0) (aCons (mVar 1) aNil))) (mSet 2)) (sSeq (sAsg (xCall P 297 1 (aCons (mVar 2) aNil)) (mSet 3)) (sSeq (sIf (mT (mOr (xCmp .ne (xCall P 136 1 (aCons (mVar 2) aNil)) (mBor 3)) (xCmp .ne (xBi .repr (aCons (xCall P 431 1 (aCons (mVar 3) aNil)) aNil)) (xBi .repr (aCons (xFz (fLst (aCons (M.pure (.str [116,111,108,100])) (aCons (mVar 2) aNil)))) aNil))))) (sRet (M.pure (.bl false))) sNx) (sSeq (sAsg (xCall P 430 2 (aCons (mVar 0) (aCons (mVar 3) aNil))) (mSet 4)) (sSeq (sAsg (xCall P 431 1 (aCons (mVar 4) aNil)) (mSet 5)) (sSeq (sIf (mT (mOr (xCmp .ne (xCmp .eq (xIdx (mBor 5) (M.pure (.int 0))) (M.pure (.str [116,111,108,100]))) (xCall P 144 1 (aCons (mVar 4) aNil))) (xCmp .eq (xIdx (mBor 5) (M.pure (.int 0))) (M.pure (.str [97,110,111,116,104,101,114]))))) (sRet (M.pure (.bl false))) sNx) (sIf (mT (mAnd (xCmp .eq (xIdx (mBor 5) (M.pure (.int 0))) (M.pure (.str [116,111,108,100]))) (xCmp .ne (xCall P 297 1 (aCons (xIdx (mBor 5) (M.pure (.int 1))) aNil)) (mBor 4)))) (sRet (M.pure (.bl false))) sNx)))))))) (sSeq (sAsg (xFz (fLst (aCons (M.pure (.int 0)) (aCons (M.pure (.bl false)) (aCons (M.pure (.str [])) (aCons (xTup aNil) (aCons (xFz (fLst aNil)) (aCons (M.pure (.dic [])) (aCons (M.pure .non) (aCons (xTup (aCons (M.pure (.str [97,110,121])) aNil)) (aCons (xFz (fLst (aCons (M.pure (.str [97,110,121])) aNil))) (aCons (M.pure (.str [97,110,121,10])) (aCons (M.pure (.str [32,97,110,121])) (aCons (xTup (aCons (M.pure (.str [98,111,120])) (aCons (M.pure (.str [97,110,121])) aNil))) aNil)))))))))))))) (mSet 6)) (sSeq (sIf (mT (xCmp .ne (xFz (fComp (mItems (mVar 6)) [8] (mSet 8) (M.pure true) (xCall P 431 1 (aCons (mVar 8) aNil)))) (xBin .mul (xFz (fLst (aCons (xFz (fLst (aCons (M.pure (.str [114,101,102,117,115,101,100])) (aCons (M.pure .non) aNil)))) aNil))) (xLen (mBor 6))))) (sRet (M.pure (.bl false))) sNx) (sSeq (sAsg (xFz (fLst (aCons (M.pure (.int 0)) (aCons (M.pure (.bl false)) (aCons (M.pure (.str [])) (aCons (xTup aNil) (aCons (xFz (fLst aNil)) (aCons (M.pure (.dic [])) (aCons (M.pure .non) (aCons (M.pure (.str [40,97,110,121,62,97,110,121,41])) (aCons (xTup (aCons (M.pure (.str [98,111,120])) aNil)) (aCons (xTup (aCons (M.pure (.str [98,111,120])) (aCons (xTup (aCons (M.pure (.str [98,111,120])) (aCons (xCall P 428 2 (aCons (mVar 0) (aCons (M.pure (.int 4)) aNil))) aNil))) aNil))) aNil)))))))))))) (mSet 7)) (sSeq (sAsg (xBin .add (mVar 7) (xFz (fLst (aCons (xTup (aCons (xFz (fLst aNil)) (aCons (M.pure (.str [97,110,121])) aNil))) (aCons (xTup (aCons (M.pure (.dic [])) (aCons (M.pure (.str [97,110,121])) (aCons (M.pure (.str [97,110,121])) aNil)))) (aCons (xTup (aCons (M.pure (.str [98,111,120])) (aCons (xFz (fLst aNil)) aNil))) (aCons (xTup (aCons (M.pure (.str [100,101,101,100])) (aCons (M.pure (.dic [])) (aCons (M.pure (.str [97,110,121])) aNil)))) aNil))))))) (mSet 7)) (sRet (xBi .all (aCons (xFz (fComp (mItems (mVar 7)) [8] (mSet 8) (M.pure true) (xCall P 148 1 (aCons (mVar 8) aNil)))) aNil))))))))
abbrev fd_432 : FD := ⟨1, 9, b_432⟩
/-- law: _law_script _law_k -/
def b_126 (P : Prm) : M Flow := (sRet (xBi .all (aCons (xFz (fComp (mRng1 (aCons (xBi .max2 (aCons (M.pure (.int 1)) (aCons (xBi .min2 (aCons (xLen (mBor 0)) (aCons (M.pure (.int 8)) aNil))) aNil))) aNil)) [1] (mSet 1) (M.pure true) (xCall P 432 1 (aCons (xCall P 112 2 (aCons (mVar 0) (aCons (mVar 1) aNil))) aNil)))) aNil)))
abbrev fd_126 : FD := ⟨1, 2, b_126⟩
def TF : Nat → Option FD
  | 101 => some fd_101
  | 102 => some fd_102
  | 104 => some fd_104
  | 135 => some fd_135
  | 136 => some fd_136
  | 137 => some fd_137
  | 138 => some fd_138
  | 139 => some fd_139
  | 112 => some fd_112
  | 113 => some fd_113
  | 114 => some fd_114
  | 428 => some fd_428
  | 297 => some fd_297
  | 142 => some fd_142
  | 429 => some fd_429
  | 144 => some fd_144
  | 430 => some fd_430
  | 431 => some fd_431
  | 148 => some fd_148
  | 432 => some fd_432
  | 126 => some fd_126
  | _ => none
def TT : Tb := ⟨TF, shownD, 4096⟩
instance : Fn TT 101 fd_101 := ⟨rfl⟩
instance : Fn TT 102 fd_102 := ⟨rfl⟩
instance : Fn TT 104 fd_104 := ⟨rfl⟩
instance : Fn TT 135 fd_135 := ⟨rfl⟩
instance : Fn TT 136 fd_136 := ⟨rfl⟩
instance : Fn TT 137 fd_137 := ⟨rfl⟩
instance : Fn TT 138 fd_138 := ⟨rfl⟩
instance : Fn TT 139 fd_139 := ⟨rfl⟩
instance : Fn TT 112 fd_112 := ⟨rfl⟩
instance : Fn TT 113 fd_113 := ⟨rfl⟩
instance : Fn TT 114 fd_114 := ⟨rfl⟩
instance : Fn TT 428 fd_428 := ⟨rfl⟩
instance : Fn TT 297 fd_297 := ⟨rfl⟩
instance : Fn TT 142 fd_142 := ⟨rfl⟩
instance : Fn TT 429 fd_429 := ⟨rfl⟩
instance : Fn TT 144 fd_144 := ⟨rfl⟩
instance : Fn TT 430 fd_430 := ⟨rfl⟩
instance : Fn TT 431 fd_431 := ⟨rfl⟩
instance : Fn TT 148 fd_148 := ⟨rfl⟩
instance : Fn TT 432 fd_432 := ⟨rfl⟩
instance : Fn TT 126 fd_126 := ⟨rfl⟩
abbrev PP (k : Nat) : Prm := TT.prm (callT TT k)
def top (i : Nat) : Stmt := PySem.Challenge.pw_wallseal_k16_form_texts.main.body.getD i (.Pass ⟨0, 0, 0, 0⟩)
structure Fx (P : PySem.Program) (w : World) (K : PySem.W.Frag) (mg : Str → Option Value) (base : Heap) (c : Kx) (k : Nat) : Prop where
  sm : SmOk K
  g_isinstance : mg "isinstance" = none
  g_str : mg "str" = none
  c_PLAIN : Gc mg c "PLAIN" (.tup [(.str [97,110,121]), (.str [110,117,109]), (.str [116,101,120,116])])
  g_tuple : mg "tuple" = none
  g_len : mg "len" = none
  c_WIDTHS : Gc mg c "WIDTHS" (.dic [((.str [100,101,101,100]), (.int 3)), ((.str [98,111,120]), (.int 2))])
  f_101 : Fe P w K mg base c (callT TT k) k "is_form_to" 101 ["thing", "high"] (fun fd => Binds K fd ["thing", "high"] [])
  g_all : mg "all" = none
  c_MOST_HEIGHT : Gc mg c "MOST_HEIGHT" (.int 5)
  f_102 : Fe P w K mg base c (callT TT k) k "is_form" 102 ["thing"] (fun fd => Binds K fd ["thing"] [])
  e_103 : Ge mg K c "NoForm" 103
  f_135 : Fe P w K mg base c (callT TT k) k "text_of_form" 135 ["form"] (fun fd => Binds K fd ["form"] [])
  c_DEED : Gc mg c "DEED" (.str [100,101,101,100])
  f_104 : Fe P w K mg base c (callT TT k) k "want_form" 104 ["thing"] (fun fd => Binds K fd ["thing"] [])
  f_138 : Fe P w K mg base c (callT TT k) k "form_at" 138 ["text", "at", "high"] (fun fd => Binds K fd ["text", "at", "high"] [])
  f_137 : Fe P w K mg base c (callT TT k) k "want_sign" 137 ["text", "at", "sign"] (fun fd => Binds K fd ["text", "at", "sign"] [])
  c_BOX : Gc mg c "BOX" (.str [98,111,120])
  g_abs : mg "abs" = none
  g_max : mg "max" = none
  g_divmod : mg "divmod" = none
  f_113 : Fe P w K mg base c (callT TT k) k "_law_digit" 113 ["_law_pot_here", "_law_many"] (fun fd => Binds K fd ["_law_pot_here", "_law_many"] [])
  f_114 : Fe P w K mg base c (callT TT k) k "_law_form" 114 ["_law_pot_here", "_law_high_here"] (fun fd => Binds K fd ["_law_pot_here", "_law_high_here"] [])
  f_428 : Fe P w K mg base c (callT TT k) k "_law_high" 428 ["_law_pot_here", "_law_high_here"] (fun fd => Binds K fd ["_law_pot_here", "_law_high_here"] [])
  f_297 : Fe P w K mg base c (callT TT k) k "_law_written" 297 ["_law_form_here"] (fun fd => Binds K fd ["_law_form_here"] [])
  g_range : mg "range" = none
  f_429 : Fe P w K mg base c (callT TT k) k "_law_high_of" 429 ["_law_text"] (fun fd => Binds K fd ["_law_text"] [])
  f_142 : Fe P w K mg base c (callT TT k) k "_law_reduced" 142 ["_law_text"] (fun fd => Binds K fd ["_law_text"] [])
  h_119 : Gh mg K c "WallError" (fun n => n == 103 || n == 119 || n == 120 || n == 146 || n == 147)
  f_139 : Fe P w K mg base c (callT TT k) k "read_form" 139 ["text"] (fun fd => Binds K fd ["text"] [])
  i_ValueError : Gi mg K c.ca "ValueError" (fun n => n == 103 || n == 119 || n == 120 || n == 146 || n == 147)
  x_exc : ∀ n C, n ≠ 0 → c.ca n = some C → ExcC K C
  i_NoHall : Gi mg K c.ca "NoHall" (fun n => n == 146)
  i_NoSeal : Gi mg K c.ca "NoSeal" (fun n => n == 120)
  i_NoTerm : Gi mg K c.ca "NoTerm" (fun n => n == 147)
  i_NoForm : Gi mg K c.ca "NoForm" (fun n => n == 103)
  h_103 : Gh mg K c "NoForm" (fun n => n == 103)
  f_136 : Fe P w K mg base c (callT TT k) k "form_text" 136 ["form"] (fun fd => Binds K fd ["form"] [])
  f_431 : Fe P w K mg base c (callT TT k) k "_law_told" 431 ["_law_thing"] (fun fd => Binds K fd ["_law_thing"] [])
  g_repr : mg "repr" = none
  f_430 : Fe P w K mg base c (callT TT k) k "_law_spoilt" 430 ["_law_pot_here", "_law_text"] (fun fd => Binds K fd ["_law_pot_here", "_law_text"] [])
  f_144 : Fe P w K mg base c (callT TT k) k "_law_is_text" 144 ["_law_text"] (fun fd => Binds K fd ["_law_text"] [])
  f_148 : Fe P w K mg base c (callT TT k) k "_law_is_refused" 148 ["_law_form_here"] (fun fd => Binds K fd ["_law_form_here"] [])
  g_min : mg "min" = none
  f_432 : Fe P w K mg base c (callT TT k) k "_law_right" 432 ["_law_pot_here"] (fun fd => Binds K fd ["_law_pot_here"] [])
  f_112 : Fe P w K mg base c (callT TT k) k "_law_pot" 112 ["_law_script", "_law_k"] (fun fd => Binds K fd ["_law_script", "_law_k"] [])
abbrev Walks (P : PySem.Program) (w : World) (K : PySem.W.Frag) (mg : Str → Option Value) (base : Heap) (ca : Nat → Option Addr) (k : Nat) (N : List Str) (qual : Str) (scope : Scope) (body : List Stmt) (m : M Flow) : Prop :=
  ∀ (f : Addr) (cdv : Value) (A : Around) (outer : List PySem.Env) (s : Shared) (H : Hp) (E : XK), Room (2 * k + 1) (A.deeper (envOfC qual scope s.heap.objs.size f cdv)) → (A.deeper (envOfC qual scope s.heap.objs.size f cdv)).guards = some [] →
    PSs (cxOf (L2.CX P w) P w K mg base N qual scope f cdv A outer s H E) body (tS ⟨K, w, ca⟩ (fun cls d _ H => E cls d H) m)
abbrev WalksT (P : PySem.Program) (w : World) (K : PySem.W.Frag) (mg : Str → Option Value) (base : Heap) (ca : Nat → Option Addr) (k : Nat) (N : List Str) (qual : Str) (scope : Scope) (body : List Stmt) (m : M Flow) : Prop :=
  ∀ (f : Addr) (cdv : Value) (A : Around) (outer : List PySem.Env) (s : Shared) (H : Hp) (E : XK), Room (2 * k + 1) (A.deeper (envOfC qual scope s.heap.objs.size f cdv)) → (A.deeper (envOfC qual scope s.heap.objs.size f cdv)).guards = some [] →
    L2.PSsT (cxOf (L2.CX P w) P w K mg base N qual scope f cdv A outer s H E) body (tS ⟨K, w, ca⟩ (fun cls d _ H => E cls d H) m)
section
variable {P : PySem.Program} {w : World} {K : PySem.W.Frag} {mg : Str → Option Value} {base : Heap} {ca : Nat → Option Addr} {k : Nat}
theorem w_101 (Z : Fx P w K mg base ⟨K, w, ca⟩ k) : Walks P w K mg base ca k ["thing", "high", "word", "parts", "part"] "is_form_to" (defScope (top 12)) (defBody (top 12)) (b_101 (TT.prm (callT TT k))) := by
  intro f cdv A outer s H E hr hg
  have B := bg_of (P := P) (w := w) (K := K) (mg := mg) (base := base) (N := ["thing", "high", "word", "parts", "part"]) (f := f) (cdv := cdv) (A := A) (outer := outer) (s := s) (H := H) (E := E) (ca := ca) hr hg (by decide +kernel) Z.sm
  have hp : PassesOwn (model P w) (cxOf (L2.CX P w) P w K mg base ["thing", "high", "word", "parts", "part"] "is_form_to" (defScope (top 12)) f cdv A outer s H E).A (cxOf (L2.CX P w) P w K mg base ["thing", "high", "word", "parts", "part"] "is_form_to" (defScope (top 12)) f cdv A outer s H E).env (cxOf (L2.CX P w) P w K mg base ["thing", "high", "word", "parts", "part"] "is_form_to" (defScope (top 12)) f cdv A outer s H E).xe := passes_of rfl
  exact (os_seq (os_if (kT_of B (k_isi B .str Z.g_isinstance rfl Z.g_str rfl (k_bvar B 0 rfl rfl) rfl rfl (by decide) (by decide) rfl rfl rfl rfl) (fun _ => rfl)) (os_one (os_ret (k_cmp2 B .in_ (k_bvar B 0 rfl rfl) (k_sglo Z.c_PLAIN rfl rfl) rfl))) os_nil)
    (os_seq (os_if (PW.pt (okW_or (kT_not (kT_of B (k_isi B .tuple Z.g_isinstance rfl Z.g_tuple rfl (k_bvar B 0 rfl rfl) rfl rfl (by decide) (by decide) rfl rfl rfl rfl) (fun _ => rfl))) (okW_or (kT_cmp B .eq (k_var B 0 rfl rfl) (PE.toBo (k_tup k_nil)) rfl) (okW_one_or (kT_cmp2 B .eq (k_bvar B 1 rfl rfl) k_sint rfl))))) (os_one (os_ret ok_bl)) os_nil)
    (os_seq (os_asg (k_var B 0 rfl rfl) (g_star B zr_any (g_name B 2 rfl rfl rfl (zAny_set 2)) (g_name B 3 rfl rfl rfl (zAny_set 3)) rfl rfl rfl) rfl rfl rfl)
    (os_seq (os_if (PW.pt (okW_or (kT_not (kT_of B (k_isi B .str Z.g_isinstance rfl Z.g_str rfl (k_bvar B 2 rfl rfl) rfl rfl (by decide) (by decide) rfl rfl rfl rfl) (fun _ => rfl))) (okW_or (kT_cmp2 B .nin (k_bvar B 2 rfl rfl) (k_sglo Z.c_WIDTHS rfl rfl) rfl) (okW_one_or (kT_cmp B .ne (k_len B Z.g_len rfl (k_bvar B 0 rfl rfl) rfl (by decide) rfl rfl rfl) (PE.toBo (k_idx2 B (PE.toBo (k_glo Z.c_WIDTHS rfl rfl)) (k_svar B 2 rfl rfl) (fun _ _ => rfl))) rfl))))) (os_one (os_ret ok_bl)) os_nil)
    (os_one (os_ret (k_bi B .all rfl Z.g_all rfl (k_cons (k_fz (kF_comp B (oi_sq B.hK (k_var B 3 rfl rfl)) (blkOk_by (N := ["thing", "high", "word", "parts", "part"]) (sc := defScope (top 12)) (own := [("part", 4)]) (by decide +kernel)) rfl (fun s0 H0 C0 cl0 fp0 B => (g_name B 4 rfl rfl rfl (zOwn_set (by decide)))) (fun s0 H0 C0 cl0 fp0 B => ots_nil) (fun s0 H0 C0 cl0 fp0 B => (k_call (P := PP k) B Z.f_101 (k_cons (k_var B 4 rfl rfl) (k_cons (k_bin B .sub (k_var B 1 rfl rfl) ok_int) k_nil rfl) rfl) rfl rfl rfl rfl)) (fun _ => rfl))) k_nil rfl) rfl (by decide) rfl rfl rfl)))))))
theorem w_102 (Z : Fx P w K mg base ⟨K, w, ca⟩ k) : Walks P w K mg base ca k ["thing"] "is_form" (defScope (top 13)) (defBody (top 13)) (b_102 (TT.prm (callT TT k))) := by
  intro f cdv A outer s H E hr hg
  have B := bg_of (P := P) (w := w) (K := K) (mg := mg) (base := base) (N := ["thing"]) (f := f) (cdv := cdv) (A := A) (outer := outer) (s := s) (H := H) (E := E) (ca := ca) hr hg (by decide +kernel) Z.sm
  have hp : PassesOwn (model P w) (cxOf (L2.CX P w) P w K mg base ["thing"] "is_form" (defScope (top 13)) f cdv A outer s H E).A (cxOf (L2.CX P w) P w K mg base ["thing"] "is_form" (defScope (top 13)) f cdv A outer s H E).env (cxOf (L2.CX P w) P w K mg base ["thing"] "is_form" (defScope (top 13)) f cdv A outer s H E).xe := passes_of rfl
  exact (os_one (os_ret (k_call (P := PP k) B Z.f_101 (k_cons (k_var B 0 rfl rfl) (k_cons (k_glo Z.c_MOST_HEIGHT rfl rfl) k_nil rfl) rfl) rfl rfl rfl rfl)))
theorem w_104 (Z : Fx P w K mg base ⟨K, w, ca⟩ k) : Walks P w K mg base ca k ["thing"] "want_form" (defScope (top 14)) (defBody (top 14)) (b_104 (TT.prm (callT TT k))) := by
  intro f cdv A outer s H E hr hg
  have B := bg_of (P := P) (w := w) (K := K) (mg := mg) (base := base) (N := ["thing"]) (f := f) (cdv := cdv) (A := A) (outer := outer) (s := s) (H := H) (E := E) (ca := ca) hr hg (by decide +kernel) Z.sm
  have hp : PassesOwn (model P w) (cxOf (L2.CX P w) P w K mg base ["thing"] "want_form" (defScope (top 14)) f cdv A outer s H E).A (cxOf (L2.CX P w) P w K mg base ["thing"] "want_form" (defScope (top 14)) f cdv A outer s H E).env (cxOf (L2.CX P w) P w K mg base ["thing"] "want_form" (defScope (top 14)) f cdv A outer s H E).xe := passes_of rfl
  exact (os_one (os_if (kT_not (kT_of B (k_call (P := PP k) B Z.f_102 (k_cons (k_var B 0 rfl rfl) k_nil rfl) rfl rfl rfl rfl) (fun _ => rfl))) (os_one (k_raise B Z.e_103 rfl rfl)) os_nil))
theorem w_135 (Z : Fx P w K mg base ⟨K, w, ca⟩ k) : Walks P w K mg base ca k ["form", "texts", "part"] "text_of_form" (defScope (top 16)) (defBody (top 16)) (b_135 (TT.prm (callT TT k))) := by
  intro f cdv A outer s H E hr hg
  have B := bg_of (P := P) (w := w) (K := K) (mg := mg) (base := base) (N := ["form", "texts", "part"]) (f := f) (cdv := cdv) (A := A) (outer := outer) (s := s) (H := H) (E := E) (ca := ca) hr hg (by decide +kernel) Z.sm
  have hp : PassesOwn (model P w) (cxOf (L2.CX P w) P w K mg base ["form", "texts", "part"] "text_of_form" (defScope (top 16)) f cdv A outer s H E).A (cxOf (L2.CX P w) P w K mg base ["form", "texts", "part"] "text_of_form" (defScope (top 16)) f cdv A outer s H E).env (cxOf (L2.CX P w) P w K mg base ["form", "texts", "part"] "text_of_form" (defScope (top 16)) f cdv A outer s H E).xe := passes_of rfl
  exact (os_seq (os_if (kT_of B (k_isi B .str Z.g_isinstance rfl Z.g_str rfl (k_bvar B 0 rfl rfl) rfl rfl (by decide) (by decide) rfl rfl rfl rfl) (fun _ => rfl)) (os_one (os_ret (k_var B 0 rfl rfl))) os_nil)
    (os_seq (k_asgLc B 1 rfl rfl (sw_true rfl rfl rfl (by decide +kernel)) (oi_sq B.hK (k_slc2 B (k_bvar B 0 rfl rfl) (po_yess k_sint) po_nos)) (blkOk_by (N := ["form", "texts", "part"]) (sc := defScope (top 16)) (own := [("part", 2)]) (by decide +kernel)) rfl (fun s0 H0 C0 cl0 fp0 B => (g_name B 2 rfl rfl rfl (zOwn_set (by decide)))) (fun s0 H0 C0 cl0 fp0 B => ots_nil) (fun s0 H0 C0 cl0 fp0 B => (k_call (P := PP k) B Z.f_135 (k_cons (k_var B 2 rfl rfl) k_nil rfl) rfl rfl rfl rfl)) (fun _ => rfl))
    (os_one (os_ret (ok_ite (kT_cmp2 B .eq (PE.toBo (k_idx2 B (k_bvar B 0 rfl rfl) k_sint (fun _ _ => rfl))) (k_sglo Z.c_DEED rfl rfl) rfl) (ok_joined (PM.cons (k_str [40] (by decide +kernel)) (PM.cons (ok_fmt (k_join B (k_str [62] (by decide +kernel)) (k_cons (k_var B 1 rfl rfl) k_nil rfl) rfl rfl rfl rfl rfl)) (PM.cons (k_str [41] (by decide +kernel)) PM.nil)))) (ok_joined (PM.cons (k_str [91] (by decide +kernel)) (PM.cons (ok_fmt (k_idx2 B (k_bvar B 1 rfl rfl) k_sint (fun _ _ => rfl))) (PM.cons (k_str [93] (by decide +kernel)) PM.nil)))))))))
theorem w_136 (Z : Fx P w K mg base ⟨K, w, ca⟩ k) : Walks P w K mg base ca k ["form"] "form_text" (defScope (top 17)) (defBody (top 17)) (b_136 (TT.prm (callT TT k))) := by
  intro f cdv A outer s H E hr hg
  have B := bg_of (P := P) (w := w) (K := K) (mg := mg) (base := base) (N := ["form"]) (f := f) (cdv := cdv) (A := A) (outer := outer) (s := s) (H := H) (E := E) (ca := ca) hr hg (by decide +kernel) Z.sm
  have hp : PassesOwn (model P w) (cxOf (L2.CX P w) P w K mg base ["form"] "form_text" (defScope (top 17)) f cdv A outer s H E).A (cxOf (L2.CX P w) P w K mg base ["form"] "form_text" (defScope (top 17)) f cdv A outer s H E).env (cxOf (L2.CX P w) P w K mg base ["form"] "form_text" (defScope (top 17)) f cdv A outer s H E).xe := passes_of rfl
  exact (os_seq (os_ex (k_call (P := PP k) B Z.f_104 (k_cons (k_var B 0 rfl rfl) k_nil rfl) rfl rfl rfl rfl) rfl)
    (os_one (os_ret (k_call (P := PP k) B Z.f_135 (k_cons (k_var B 0 rfl rfl) k_nil rfl) rfl rfl rfl rfl))))
theorem w_137 (Z : Fx P w K mg base ⟨K, w, ca⟩ k) : Walks P w K mg base ca k ["text", "at", "sign"] "want_sign" (defScope (top 18)) (defBody (top 18)) (b_137 (TT.prm (callT TT k))) := by
  intro f cdv A outer s H E hr hg
  have B := bg_of (P := P) (w := w) (K := K) (mg := mg) (base := base) (N := ["text", "at", "sign"]) (f := f) (cdv := cdv) (A := A) (outer := outer) (s := s) (H := H) (E := E) (ca := ca) hr hg (by decide +kernel) Z.sm
  have hp : PassesOwn (model P w) (cxOf (L2.CX P w) P w K mg base ["text", "at", "sign"] "want_sign" (defScope (top 18)) f cdv A outer s H E).A (cxOf (L2.CX P w) P w K mg base ["text", "at", "sign"] "want_sign" (defScope (top 18)) f cdv A outer s H E).env (cxOf (L2.CX P w) P w K mg base ["text", "at", "sign"] "want_sign" (defScope (top 18)) f cdv A outer s H E).xe := passes_of rfl
  exact (os_one (os_if (kT_cmp B .ne (k_slc B (k_var B 0 rfl rfl) (po_yes (k_var B 1 rfl rfl)) (po_yes (k_bin B .add (k_var B 1 rfl rfl) ok_int))) (k_bvar B 2 rfl rfl) rfl) (os_one (k_raise B Z.e_103 rfl rfl)) os_nil))
theorem w_138 (Z : Fx P w K mg base ⟨K, w, ca⟩ k) : Walks P w K mg base ca k ["text", "at", "high", "word", "first", "end", "second"] "form_at" (defScope (top 19)) (defBody (top 19)) (b_138 (TT.prm (callT TT k))) := by
  intro f cdv A outer s H E hr hg
  have B := bg_of (P := P) (w := w) (K := K) (mg := mg) (base := base) (N := ["text", "at", "high", "word", "first", "end", "second"]) (f := f) (cdv := cdv) (A := A) (outer := outer) (s := s) (H := H) (E := E) (ca := ca) hr hg (by decide +kernel) Z.sm
  have hp : PassesOwn (model P w) (cxOf (L2.CX P w) P w K mg base ["text", "at", "high", "word", "first", "end", "second"] "form_at" (defScope (top 19)) f cdv A outer s H E).A (cxOf (L2.CX P w) P w K mg base ["text", "at", "high", "word", "first", "end", "second"] "form_at" (defScope (top 19)) f cdv A outer s H E).env (cxOf (L2.CX P w) P w K mg base ["text", "at", "high", "word", "first", "end", "second"] "form_at" (defScope (top 19)) f cdv A outer s H E).xe := passes_of rfl
  exact (os_seq (k_for B hp (oi_sq B.hK (k_glo Z.c_PLAIN rfl rfl)) (g_name B 3 rfl rfl rfl (zAny_set 3)) (os_one (os_if (kT_cmp B .eq (k_slc B (k_var B 0 rfl rfl) (po_yes (k_var B 1 rfl rfl)) (po_yes (k_bin B .add (k_var B 1 rfl rfl) (k_len B Z.g_len rfl (k_bvar B 3 rfl rfl) rfl (by decide) rfl rfl rfl)))) (k_bvar B 3 rfl rfl) rfl) (os_one (os_ret (k_tup (k_cons (k_var B 3 rfl rfl) (k_cons (k_bin B .add (k_var B 1 rfl rfl) (k_len B Z.g_len rfl (k_bvar B 3 rfl rfl) rfl (by decide) rfl rfl rfl)) k_nil rfl) rfl)))) os_nil)) (fun _ => rfl))
    (os_seq (os_if (PW.pt (okW_or (kT_cmp2 B .eq (k_bvar B 2 rfl rfl) k_sint rfl) (okW_one_or (kT_cmp B .nin (k_slc B (k_var B 0 rfl rfl) (po_yes (k_var B 1 rfl rfl)) (po_yes (k_bin B .add (k_var B 1 rfl rfl) ok_int))) (PE.toBo (k_tup (k_cons (k_str [40] (by decide +kernel)) (k_cons (k_str [91] (by decide +kernel)) k_nil rfl) rfl))) rfl)))) (os_one (k_raise B Z.e_103 rfl rfl)) os_nil)
    (os_seq (os_asg (k_call (P := PP k) B Z.f_138 (k_cons (k_var B 0 rfl rfl) (k_cons (k_bin B .add (k_var B 1 rfl rfl) ok_int) (k_cons (k_bin B .sub (k_var B 2 rfl rfl) ok_int) k_nil rfl) rfl) rfl) rfl rfl rfl rfl) (g_unp B (ogs_cons zr_any (g_name B 4 rfl rfl rfl (zAny_set 4)) (ogs_cons zr_any (g_name B 5 rfl rfl rfl (zAny_set 5)) (ogs_nil zr_any) rfl) rfl) rfl rfl) rfl rfl rfl)
    (os_seq (os_if (kT_cmp2 B .eq (PE.toBo (k_idx2 B (k_bvar B 0 rfl rfl) (k_svar B 1 rfl rfl) (fun _ _ => rfl))) (k_sstr [91] (by decide +kernel)) rfl) (os_seq (os_ex (k_call (P := PP k) B Z.f_137 (k_cons (k_var B 0 rfl rfl) (k_cons (k_var B 5 rfl rfl) (k_cons (k_str [93] (by decide +kernel)) k_nil rfl) rfl) rfl) rfl rfl rfl rfl) rfl)
    (os_one (os_ret (k_tup (k_cons (k_tup (k_cons (k_glo Z.c_BOX rfl rfl) (k_cons (k_var B 4 rfl rfl) k_nil rfl) rfl)) (k_cons (k_bin B .add (k_var B 5 rfl rfl) ok_int) k_nil rfl) rfl))))) os_nil)
    (os_seq (os_ex (k_call (P := PP k) B Z.f_137 (k_cons (k_var B 0 rfl rfl) (k_cons (k_var B 5 rfl rfl) (k_cons (k_str [62] (by decide +kernel)) k_nil rfl) rfl) rfl) rfl rfl rfl rfl) rfl)
    (os_seq (os_asg (k_call (P := PP k) B Z.f_138 (k_cons (k_var B 0 rfl rfl) (k_cons (k_bin B .add (k_var B 5 rfl rfl) ok_int) (k_cons (k_bin B .sub (k_var B 2 rfl rfl) ok_int) k_nil rfl) rfl) rfl) rfl rfl rfl rfl) (g_unp B (ogs_cons zr_any (g_name B 6 rfl rfl rfl (zAny_set 6)) (ogs_cons zr_any (g_name B 5 rfl rfl rfl (zAny_set 5)) (ogs_nil zr_any) rfl) rfl) rfl rfl) rfl rfl rfl)
    (os_seq (os_ex (k_call (P := PP k) B Z.f_137 (k_cons (k_var B 0 rfl rfl) (k_cons (k_var B 5 rfl rfl) (k_cons (k_str [41] (by decide +kernel)) k_nil rfl) rfl) rfl) rfl rfl rfl rfl) rfl)
    (os_one (os_ret (k_tup (k_cons (k_tup (k_cons (k_glo Z.c_DEED rfl rfl) (k_cons (k_var B 4 rfl rfl) (k_cons (k_var B 6 rfl rfl) k_nil rfl) rfl) rfl)) (k_cons (k_bin B .add (k_var B 5 rfl rfl) ok_int) k_nil rfl) rfl)))))))))))
theorem w_139 (Z : Fx P w K mg base ⟨K, w, ca⟩ k) : Walks P w K mg base ca k ["text", "form", "end"] "read_form" (defScope (top 20)) (defBody (top 20)) (b_139 (TT.prm (callT TT k))) := by
  intro f cdv A outer s H E hr hg
  have B := bg_of (P := P) (w := w) (K := K) (mg := mg) (base := base) (N := ["text", "form", "end"]) (f := f) (cdv := cdv) (A := A) (outer := outer) (s := s) (H := H) (E := E) (ca := ca) hr hg (by decide +kernel) Z.sm
  have hp : PassesOwn (model P w) (cxOf (L2.CX P w) P w K mg base ["text", "form", "end"] "read_form" (defScope (top 20)) f cdv A outer s H E).A (cxOf (L2.CX P w) P w K mg base ["text", "form", "end"] "read_form" (defScope (top 20)) f cdv A outer s H E).env (cxOf (L2.CX P w) P w K mg base ["text", "form", "end"] "read_form" (defScope (top 20)) f cdv A outer s H E).xe := passes_of rfl
  exact (os_seq (os_if (kT_not (kT_of B (k_isi B .str Z.g_isinstance rfl Z.g_str rfl (k_bvar B 0 rfl rfl) rfl rfl (by decide) (by decide) rfl rfl rfl rfl) (fun _ => rfl))) (os_one (k_raise B Z.e_103 rfl rfl)) os_nil)
    (os_seq (os_asg (k_call (P := PP k) B Z.f_138 (k_cons (k_var B 0 rfl rfl) (k_cons ok_int (k_cons (k_glo Z.c_MOST_HEIGHT rfl rfl) k_nil rfl) rfl) rfl) rfl rfl rfl rfl) (g_unp B (ogs_cons zr_any (g_name B 1 rfl rfl rfl (zAny_set 1)) (ogs_cons zr_any (g_name B 2 rfl rfl rfl (zAny_set 2)) (ogs_nil zr_any) rfl) rfl) rfl rfl) rfl rfl rfl)
    (os_seq (os_if (kT_cmp B .ne (k_var B 2 rfl rfl) (PE.toBo (k_len B Z.g_len rfl (k_bvar B 0 rfl rfl) rfl (by decide) rfl rfl rfl)) rfl) (os_one (k_raise B Z.e_103 rfl rfl)) os_nil)
    (os_one (os_ret (k_var B 1 rfl rfl))))))
theorem w_112 (Z : Fx P w K mg base ⟨K, w, ca⟩ k) : Walks P w K mg base ca k ["_law_script", "_law_k", "_law_cell"] "_law_pot" (defScope (top 22)) (defBody (top 22)) (b_112 (TT.prm (callT TT k))) := by
  intro f cdv A outer s H E hr hg
  have B := bg_of (P := P) (w := w) (K := K) (mg := mg) (base := base) (N := ["_law_script", "_law_k", "_law_cell"]) (f := f) (cdv := cdv) (A := A) (outer := outer) (s := s) (H := H) (E := E) (ca := ca) hr hg (by decide +kernel) Z.sm
  have hp : PassesOwn (model P w) (cxOf (L2.CX P w) P w K mg base ["_law_script", "_law_k", "_law_cell"] "_law_pot" (defScope (top 22)) f cdv A outer s H E).A (cxOf (L2.CX P w) P w K mg base ["_law_script", "_law_k", "_law_cell"] "_law_pot" (defScope (top 22)) f cdv A outer s H E).env (cxOf (L2.CX P w) P w K mg base ["_law_script", "_law_k", "_law_cell"] "_law_pot" (defScope (top 22)) f cdv A outer s H E).xe := passes_of rfl
  exact (os_seq (os_asg (ok_ite (kT_cmp B .lt (k_var B 1 rfl rfl) (PE.toBo (k_len B Z.g_len rfl (k_bvar B 0 rfl rfl) rfl (by decide) rfl rfl rfl)) rfl) (k_idx2 B (k_bvar B 0 rfl rfl) (k_svar B 1 rfl rfl) (fun _ _ => rfl)) ok_int) (g_name B 2 rfl rfl rfl (zAny_set 2)) rfl rfl rfl)
    (os_one (os_ret (ok_cel (k_cons (k_bi B .max2 rfl Z.g_max rfl (k_cons ok_int (k_cons (k_bin B .sub (k_bi B .abs rfl Z.g_abs rfl (k_cons (k_var B 2 rfl rfl) k_nil rfl) rfl (by decide) rfl rfl rfl) (k_bin B .pow ok_int ok_int)) k_nil rfl) rfl) rfl (by decide) rfl rfl rfl) (k_cons (k_bin B .add (k_bin B .mod (k_bin B .pow (k_bin B .add (k_bin B .add (k_bin B .mod (k_bi B .abs rfl Z.g_abs rfl (k_cons (k_var B 2 rfl rfl) k_nil rfl) rfl (by decide) rfl rfl rfl) ok_int) (k_bin B .mul ok_int (k_var B 1 rfl rfl))) ok_int) ok_int) ok_int) ok_int) k_nil rfl) rfl)))))
theorem w_113 (Z : Fx P w K mg base ⟨K, w, ca⟩ k) : Walks P w K mg base ca k ["_law_pot_here", "_law_many", "_law_digit_here"] "_law_digit" (defScope (top 23)) (defBody (top 23)) (b_113 (TT.prm (callT TT k))) := by
  intro f cdv A outer s H E hr hg
  have B := bg_of (P := P) (w := w) (K := K) (mg := mg) (base := base) (N := ["_law_pot_here", "_law_many", "_law_digit_here"]) (f := f) (cdv := cdv) (A := A) (outer := outer) (s := s) (H := H) (E := E) (ca := ca) hr hg (by decide +kernel) Z.sm
  have hp : PassesOwn (model P w) (cxOf (L2.CX P w) P w K mg base ["_law_pot_here", "_law_many", "_law_digit_here"] "_law_digit" (defScope (top 23)) f cdv A outer s H E).A (cxOf (L2.CX P w) P w K mg base ["_law_pot_here", "_law_many", "_law_digit_here"] "_law_digit" (defScope (top 23)) f cdv A outer s H E).env (cxOf (L2.CX P w) P w K mg base ["_law_pot_here", "_law_many", "_law_digit_here"] "_law_digit" (defScope (top 23)) f cdv A outer s H E).xe := passes_of rfl
  exact (os_seq (os_if (kT_cmp2 B .gt (PE.toBo (k_idx2 B (k_bvar B 0 rfl rfl) k_sint (fun _ _ => rfl))) k_sint rfl) (os_seq (os_asg (k_bi B .divmod rfl Z.g_divmod rfl (k_cons (k_idx2 B (k_bvar B 0 rfl rfl) k_sint (fun _ _ => rfl)) (k_cons (k_var B 1 rfl rfl) k_nil rfl) rfl) rfl (by decide) rfl rfl rfl) (g_unp B (ogs_cons zr_any (g_put B zr_any (k_var B 0 rfl rfl) ok_int (fun _ => rfl)) (ogs_cons zr_any (g_name B 2 rfl rfl rfl (zAny_set 2)) (ogs_nil zr_any) rfl) rfl) rfl rfl) rfl rfl rfl)
    (os_one (os_ret (k_var B 2 rfl rfl)))) os_nil)
    (os_seq (os_asg (k_bin B .mod (k_bin B .add (k_bin B .mul (k_idx2 B (k_bvar B 0 rfl rfl) k_sint (fun _ _ => rfl)) ok_int) ok_int) ok_int) (g_put B zr_any (k_var B 0 rfl rfl) ok_int (fun _ => rfl)) rfl rfl rfl)
    (os_one (os_ret (k_bin B .mod (k_bin B .fdv (k_bin B .mod (k_bin B .mul (k_idx2 B (k_bvar B 0 rfl rfl) k_sint (fun _ _ => rfl)) (k_idx2 B (k_bvar B 0 rfl rfl) k_sint (fun _ _ => rfl))) ok_int) ok_int) (k_var B 1 rfl rfl))))))
theorem w_114 (Z : Fx P w K mg base ⟨K, w, ca⟩ k) : Walks P w K mg base ca k ["_law_pot_here", "_law_high_here", "_law_way"] "_law_form" (defScope (top 24)) (defBody (top 24)) (b_114 (TT.prm (callT TT k))) := by
  intro f cdv A outer s H E hr hg
  have B := bg_of (P := P) (w := w) (K := K) (mg := mg) (base := base) (N := ["_law_pot_here", "_law_high_here", "_law_way"]) (f := f) (cdv := cdv) (A := A) (outer := outer) (s := s) (H := H) (E := E) (ca := ca) hr hg (by decide +kernel) Z.sm
  have hp : PassesOwn (model P w) (cxOf (L2.CX P w) P w K mg base ["_law_pot_here", "_law_high_here", "_law_way"] "_law_form" (defScope (top 24)) f cdv A outer s H E).A (cxOf (L2.CX P w) P w K mg base ["_law_pot_here", "_law_high_here", "_law_way"] "_law_form" (defScope (top 24)) f cdv A outer s H E).env (cxOf (L2.CX P w) P w K mg base ["_law_pot_here", "_law_high_here", "_law_way"] "_law_form" (defScope (top 24)) f cdv A outer s H E).xe := passes_of rfl
  exact (os_seq (os_asg (k_call (P := PP k) B Z.f_113 (k_cons (k_var B 0 rfl rfl) (k_cons ok_int k_nil rfl) rfl) rfl rfl rfl rfl) (g_name B 2 rfl rfl rfl (zAny_set 2)) rfl rfl rfl)
    (os_seq (os_if (PW.pt (okW_or (kT_cmp2 B .eq (k_bvar B 1 rfl rfl) k_sint rfl) (okW_one_or (kT_cmp2 B .lt (k_bvar B 2 rfl rfl) k_sint rfl)))) (os_one (os_ret (k_idx B (k_fz (kF_lst (k_cons (k_str [97,110,121] (by decide +kernel)) (k_cons (k_str [110,117,109] (by decide +kernel)) (k_cons (k_str [116,101,120,116] (by decide +kernel)) k_nil rfl) rfl) rfl))) (k_call (P := PP k) B Z.f_113 (k_cons (k_var B 0 rfl rfl) (k_cons ok_int k_nil rfl) rfl) rfl rfl rfl rfl) (fun _ _ => rfl)))) os_nil)
    (os_seq (os_if (kT_cmp2 B .lt (k_bvar B 2 rfl rfl) k_sint rfl) (os_one (os_ret (k_tup (k_cons (k_str [100,101,101,100] (by decide +kernel)) (k_cons (k_call (P := PP k) B Z.f_114 (k_cons (k_var B 0 rfl rfl) (k_cons (k_bin B .sub (k_var B 1 rfl rfl) ok_int) k_nil rfl) rfl) rfl rfl rfl rfl) (k_cons (k_call (P := PP k) B Z.f_114 (k_cons (k_var B 0 rfl rfl) (k_cons (k_bin B .sub (k_var B 1 rfl rfl) ok_int) k_nil rfl) rfl) rfl rfl rfl rfl) k_nil rfl) rfl) rfl)))) os_nil)
    (os_one (os_ret (k_tup (k_cons (k_str [98,111,120] (by decide +kernel)) (k_cons (k_call (P := PP k) B Z.f_114 (k_cons (k_var B 0 rfl rfl) (k_cons (k_bin B .sub (k_var B 1 rfl rfl) ok_int) k_nil rfl) rfl) rfl rfl rfl rfl) k_nil rfl) rfl)))))))
theorem w_428 (Z : Fx P w K mg base ⟨K, w, ca⟩ k) : Walks P w K mg base ca k ["_law_pot_here", "_law_high_here", "_law_parts"] "_law_high" (defScope (top 25)) (defBody (top 25)) (b_428 (TT.prm (callT TT k))) := by
  intro f cdv A outer s H E hr hg
  have B := bg_of (P := P) (w := w) (K := K) (mg := mg) (base := base) (N := ["_law_pot_here", "_law_high_here", "_law_parts"]) (f := f) (cdv := cdv) (A := A) (outer := outer) (s := s) (H := H) (E := E) (ca := ca) hr hg (by decide +kernel) Z.sm
  have hp : PassesOwn (model P w) (cxOf (L2.CX P w) P w K mg base ["_law_pot_here", "_law_high_here", "_law_parts"] "_law_high" (defScope (top 25)) f cdv A outer s H E).A (cxOf (L2.CX P w) P w K mg base ["_law_pot_here", "_law_high_here", "_law_parts"] "_law_high" (defScope (top 25)) f cdv A outer s H E).env (cxOf (L2.CX P w) P w K mg base ["_law_pot_here", "_law_high_here", "_law_parts"] "_law_high" (defScope (top 25)) f cdv A outer s H E).xe := passes_of rfl
  exact (os_seq (os_if (kT_cmp2 B .eq (k_bvar B 1 rfl rfl) k_sint rfl) (os_one (os_ret (k_call (P := PP k) B Z.f_114 (k_cons (k_var B 0 rfl rfl) (k_cons ok_int k_nil rfl) rfl) rfl rfl rfl rfl))) os_nil)
    (os_seq (os_asg (k_tup (k_cons (k_call (P := PP k) B Z.f_428 (k_cons (k_var B 0 rfl rfl) (k_cons (k_bin B .sub (k_var B 1 rfl rfl) ok_int) k_nil rfl) rfl) rfl rfl rfl rfl) (k_cons (k_call (P := PP k) B Z.f_114 (k_cons (k_var B 0 rfl rfl) (k_cons (k_bin B .sub (k_var B 1 rfl rfl) ok_int) k_nil rfl) rfl) rfl rfl rfl rfl) k_nil rfl) rfl)) (g_name B 2 rfl rfl rfl (zAny_set 2)) rfl rfl rfl)
    (os_one (os_ret (k_idx B (k_fz (kF_lst (k_cons (k_bin B .add (k_tup (k_cons (k_str [100,101,101,100] (by decide +kernel)) k_nil rfl)) (k_var B 2 rfl rfl)) (k_cons (k_bin B .add (k_tup (k_cons (k_str [100,101,101,100] (by decide +kernel)) k_nil rfl)) (k_rev B (k_var B 2 rfl rfl))) (k_cons (k_tup (k_cons (k_str [98,111,120] (by decide +kernel)) (k_cons (k_idx2 B (k_bvar B 2 rfl rfl) k_sint (fun _ _ => rfl)) k_nil rfl) rfl)) k_nil rfl) rfl) rfl))) (k_call (P := PP k) B Z.f_113 (k_cons (k_var B 0 rfl rfl) (k_cons ok_int k_nil rfl) rfl) rfl rfl rfl rfl) (fun _ _ => rfl))))))
theorem w_297 (Z : Fx P w K mg base ⟨K, w, ca⟩ k) : Walks P w K mg base ca k ["_law_form_here"] "_law_written" (defScope (top 26)) (defBody (top 26)) (b_297 (TT.prm (callT TT k))) := by
  intro f cdv A outer s H E hr hg
  have B := bg_of (P := P) (w := w) (K := K) (mg := mg) (base := base) (N := ["_law_form_here"]) (f := f) (cdv := cdv) (A := A) (outer := outer) (s := s) (H := H) (E := E) (ca := ca) hr hg (by decide +kernel) Z.sm
  have hp : PassesOwn (model P w) (cxOf (L2.CX P w) P w K mg base ["_law_form_here"] "_law_written" (defScope (top 26)) f cdv A outer s H E).A (cxOf (L2.CX P w) P w K mg base ["_law_form_here"] "_law_written" (defScope (top 26)) f cdv A outer s H E).env (cxOf (L2.CX P w) P w K mg base ["_law_form_here"] "_law_written" (defScope (top 26)) f cdv A outer s H E).xe := passes_of rfl
  exact (os_seq (os_if (kT_of B (k_isi B .str Z.g_isinstance rfl Z.g_str rfl (k_bvar B 0 rfl rfl) rfl rfl (by decide) (by decide) rfl rfl rfl rfl) (fun _ => rfl)) (os_one (os_ret (k_var B 0 rfl rfl))) os_nil)
    (os_seq (os_if (kT_cmp2 B .eq (PE.toBo (k_idx2 B (k_bvar B 0 rfl rfl) k_sint (fun _ _ => rfl))) (k_sstr [98,111,120] (by decide +kernel)) rfl) (os_one (os_ret (k_bin B .add (k_bin B .add (k_str [91] (by decide +kernel)) (k_call (P := PP k) B Z.f_297 (k_cons (k_idx2 B (k_bvar B 0 rfl rfl) k_sint (fun _ _ => rfl)) k_nil rfl) rfl rfl rfl rfl)) (k_str [93] (by decide +kernel))))) os_nil)
    (os_one (os_ret (k_bin B .add (k_bin B .add (k_bin B .add (k_bin B .add (k_str [40] (by decide +kernel)) (k_call (P := PP k) B Z.f_297 (k_cons (k_idx2 B (k_bvar B 0 rfl rfl) k_sint (fun _ _ => rfl)) k_nil rfl) rfl rfl rfl rfl)) (k_str [62] (by decide +kernel))) (k_call (P := PP k) B Z.f_297 (k_cons (k_idx2 B (k_bvar B 0 rfl rfl) k_sint (fun _ _ => rfl)) k_nil rfl) rfl rfl rfl rfl)) (k_str [41] (by decide +kernel)))))))
theorem w_142 (Z : Fx P w K mg base ⟨K, w, ca⟩ k) : WalksT P w K mg base ca k ["_law_text", "_law_found", "_law_turn"] "_law_reduced" (defScope (top 27)) (defBody (top 27)) (b_142 (TT.prm (callT TT k))) := by
  intro f cdv A outer s H E hr hg
  have B := bg_of (P := P) (w := w) (K := K) (mg := mg) (base := base) (N := ["_law_text", "_law_found", "_law_turn"]) (f := f) (cdv := cdv) (A := A) (outer := outer) (s := s) (H := H) (E := E) (ca := ca) hr hg (by decide +kernel) Z.sm
  have hp : PassesOwn (model P w) (cxOf (L2.CX P w) P w K mg base ["_law_text", "_law_found", "_law_turn"] "_law_reduced" (defScope (top 27)) f cdv A outer s H E).A (cxOf (L2.CX P w) P w K mg base ["_law_text", "_law_found", "_law_turn"] "_law_reduced" (defScope (top 27)) f cdv A outer s H E).env (cxOf (L2.CX P w) P w K mg base ["_law_text", "_law_found", "_law_turn"] "_law_reduced" (defScope (top 27)) f cdv A outer s H E).xe := passes_of rfl
  exact (ot_seq (ot_of (os_asg (k_var B 0 rfl rfl) (g_name B 1 rfl rfl rfl (zAny_set 1)) rfl rfl rfl))
    (ot_seq (ot_for hp (B.hc rfl) (oi_rng1 rfl Z.g_range (k_cons ok_int k_nil rfl) rfl) (g_name B 2 rfl rfl rfl (zAny_set 2)) (ot_one (ot_asg (k_rplT [91,48,93] [48] (by decide +kernel) (by decide +kernel) (k_rplC [40,48,62,48,41] [48] (by decide +kernel) (by decide +kernel) (k_var B 1 rfl rfl) (by decide +kernel) rfl rfl rfl) (by decide +kernel) rfl rfl rfl) (g_name B 1 rfl rfl rfl (zAny_set 1)) rfl rfl rfl)) (fun _ => rfl))
    (ot_one (ot_of (os_ret (k_var B 1 rfl rfl))))))
theorem w_429 (Z : Fx P w K mg base ⟨K, w, ca⟩ k) : Walks P w K mg base ca k ["_law_text", "_law_deep", "_law_most", "_law_sign"] "_law_high_of" (defScope (top 28)) (defBody (top 28)) (b_429 (TT.prm (callT TT k))) := by
  intro f cdv A outer s H E hr hg
  have B := bg_of (P := P) (w := w) (K := K) (mg := mg) (base := base) (N := ["_law_text", "_law_deep", "_law_most", "_law_sign"]) (f := f) (cdv := cdv) (A := A) (outer := outer) (s := s) (H := H) (E := E) (ca := ca) hr hg (by decide +kernel) Z.sm
  have hp : PassesOwn (model P w) (cxOf (L2.CX P w) P w K mg base ["_law_text", "_law_deep", "_law_most", "_law_sign"] "_law_high_of" (defScope (top 28)) f cdv A outer s H E).A (cxOf (L2.CX P w) P w K mg base ["_law_text", "_law_deep", "_law_most", "_law_sign"] "_law_high_of" (defScope (top 28)) f cdv A outer s H E).env (cxOf (L2.CX P w) P w K mg base ["_law_text", "_law_deep", "_law_most", "_law_sign"] "_law_high_of" (defScope (top 28)) f cdv A outer s H E).xe := passes_of rfl
  exact (os_seq (os_asg (k_tup (k_cons ok_int (k_cons ok_int k_nil rfl) rfl)) (g_unp B (ogs_cons zr_any (g_name B 1 rfl rfl rfl (zAny_set 1)) (ogs_cons zr_any (g_name B 2 rfl rfl rfl (zAny_set 2)) (ogs_nil zr_any) rfl) rfl) rfl rfl) rfl rfl rfl)
    (os_seq (k_for B hp (oi_sq B.hK (k_var B 0 rfl rfl)) (g_name B 3 rfl rfl rfl (zAny_set 3)) (os_seq (os_if (kT_cmp2 B .in_ (k_bvar B 3 rfl rfl) (k_sstr [40,91] (by decide +kernel)) rfl) (os_seq (os_asg (k_bin B .add (k_var B 1 rfl rfl) ok_int) (g_name B 1 rfl rfl rfl (zAny_set 1)) rfl rfl rfl)
    (os_one (os_asg (k_bi B .max2 rfl Z.g_max rfl (k_cons (k_var B 2 rfl rfl) (k_cons (k_var B 1 rfl rfl) k_nil rfl) rfl) rfl (by decide) rfl rfl rfl) (g_name B 2 rfl rfl rfl (zAny_set 2)) rfl rfl rfl))) os_nil)
    (os_one (os_if (kT_cmp2 B .in_ (k_bvar B 3 rfl rfl) (k_sstr [41,93] (by decide +kernel)) rfl) (os_one (os_asg (k_bin B .sub (k_var B 1 rfl rfl) ok_int) (g_name B 1 rfl rfl rfl (zAny_set 1)) rfl rfl rfl)) os_nil))) (fun _ => rfl))
    (os_one (os_ret (k_var B 2 rfl rfl)))))
theorem w_144 (Z : Fx P w K mg base ⟨K, w, ca⟩ k) : WalksT P w K mg base ca k ["_law_text", "_law_noughts"] "_law_is_text" (defScope (top 29)) (defBody (top 29)) (b_144 (TT.prm (callT TT k))) := by
  intro f cdv A outer s H E hr hg
  have B := bg_of (P := P) (w := w) (K := K) (mg := mg) (base := base) (N := ["_law_text", "_law_noughts"]) (f := f) (cdv := cdv) (A := A) (outer := outer) (s := s) (H := H) (E := E) (ca := ca) hr hg (by decide +kernel) Z.sm
  have hp : PassesOwn (model P w) (cxOf (L2.CX P w) P w K mg base ["_law_text", "_law_noughts"] "_law_is_text" (defScope (top 29)) f cdv A outer s H E).A (cxOf (L2.CX P w) P w K mg base ["_law_text", "_law_noughts"] "_law_is_text" (defScope (top 29)) f cdv A outer s H E).env (cxOf (L2.CX P w) P w K mg base ["_law_text", "_law_noughts"] "_law_is_text" (defScope (top 29)) f cdv A outer s H E).xe := passes_of rfl
  exact (ot_seq (ot_of (os_if (PW.pt (okW_or (kT_cmp B .in_ (k_str [48] (by decide +kernel)) (k_bvar B 0 rfl rfl) rfl) (okW_one_or (kT_cmp2 B .gt (PE.toBo (k_call (P := PP k) B Z.f_429 (k_cons (k_var B 0 rfl rfl) k_nil rfl) rfl rfl rfl rfl)) k_sint rfl)))) (os_one (os_ret ok_bl)) os_nil))
    (ot_seq (ot_asg (k_rplT [116,101,120,116] [48] (by decide +kernel) (by decide +kernel) (k_rplT [110,117,109] [48] (by decide +kernel) (by decide +kernel) (k_rplC [97,110,121] [48] (by decide +kernel) (by decide +kernel) (k_var B 0 rfl rfl) (by decide +kernel) rfl rfl rfl) (by decide +kernel) rfl rfl rfl) (by decide +kernel) rfl rfl rfl) (g_name B 1 rfl rfl rfl (zAny_set 1)) rfl rfl rfl)
    (ot_one (ot_of (os_ret (k_cmp2 B .eq (PE.toBo (k_call (P := PP k) B Z.f_142 (k_cons (k_var B 1 rfl rfl) k_nil rfl) rfl rfl rfl rfl)) (k_sstr [48] (by decide +kernel)) rfl))))))
theorem w_430 (Z : Fx P w K mg base ⟨K, w, ca⟩ k) : Walks P w K mg base ca k ["_law_pot_here", "_law_text", "_law_at", "_law_sign", "_law_way"] "_law_spoilt" (defScope (top 30)) (defBody (top 30)) (b_430 (TT.prm (callT TT k))) := by
  intro f cdv A outer s H E hr hg
  have B := bg_of (P := P) (w := w) (K := K) (mg := mg) (base := base) (N := ["_law_pot_here", "_law_text", "_law_at", "_law_sign", "_law_way"]) (f := f) (cdv := cdv) (A := A) (outer := outer) (s := s) (H := H) (E := E) (ca := ca) hr hg (by decide +kernel) Z.sm
  have hp : PassesOwn (model P w) (cxOf (L2.CX P w) P w K mg base ["_law_pot_here", "_law_text", "_law_at", "_law_sign", "_law_way"] "_law_spoilt" (defScope (top 30)) f cdv A outer s H E).A (cxOf (L2.CX P w) P w K mg base ["_law_pot_here", "_law_text", "_law_at", "_law_sign", "_law_way"] "_law_spoilt" (defScope (top 30)) f cdv A outer s H E).env (cxOf (L2.CX P w) P w K mg base ["_law_pot_here", "_law_text", "_law_at", "_law_sign", "_law_way"] "_law_spoilt" (defScope (top 30)) f cdv A outer s H E).xe := passes_of rfl
  exact (os_seq (os_asg (k_call (P := PP k) B Z.f_113 (k_cons (k_var B 0 rfl rfl) (k_cons (k_bin B .add (k_len B Z.g_len rfl (k_bvar B 1 rfl rfl) rfl (by decide) rfl rfl rfl) ok_int) k_nil rfl) rfl) rfl rfl rfl rfl) (g_name B 2 rfl rfl rfl (zAny_set 2)) rfl rfl rfl)
    (os_seq (os_asg (k_idx B (k_str [40,41,91,93,62,97,110,116,117,120,32,44,48,45] (by decide +kernel)) (k_call (P := PP k) B Z.f_113 (k_cons (k_var B 0 rfl rfl) (k_cons ok_int k_nil rfl) rfl) rfl rfl rfl rfl) (fun _ _ => rfl)) (g_name B 3 rfl rfl rfl (zAny_set 3)) rfl rfl rfl)
    (os_seq (os_asg (k_call (P := PP k) B Z.f_113 (k_cons (k_var B 0 rfl rfl) (k_cons ok_int k_nil rfl) rfl) rfl rfl rfl rfl) (g_name B 4 rfl rfl rfl (zAny_set 4)) rfl rfl rfl)
    (os_seq (os_if (kT_cmp2 B .eq (k_bvar B 4 rfl rfl) k_sint rfl) (os_one (os_ret (k_bin B .add (k_slc2 B (k_bvar B 1 rfl rfl) po_nos (po_yess (k_svar B 2 rfl rfl))) (k_slc B (k_var B 1 rfl rfl) (po_yes (k_bin B .add (k_var B 2 rfl rfl) ok_int)) po_no)))) os_nil)
    (os_seq (os_if (kT_cmp2 B .eq (k_bvar B 4 rfl rfl) k_sint rfl) (os_one (os_ret (k_bin B .add (k_bin B .add (k_slc2 B (k_bvar B 1 rfl rfl) po_nos (po_yess (k_svar B 2 rfl rfl))) (k_var B 3 rfl rfl)) (k_slc2 B (k_bvar B 1 rfl rfl) (po_yess (k_svar B 2 rfl rfl)) po_nos)))) os_nil)
    (os_seq (os_if (kT_cmp2 B .eq (k_bvar B 4 rfl rfl) k_sint rfl) (os_one (os_ret (k_bin B .add (k_bin B .add (k_slc2 B (k_bvar B 1 rfl rfl) po_nos (po_yess (k_svar B 2 rfl rfl))) (k_var B 3 rfl rfl)) (k_slc B (k_var B 1 rfl rfl) (po_yes (k_bin B .add (k_var B 2 rfl rfl) ok_int)) po_no)))) os_nil)
    (os_one (os_ret (k_bin B .add (k_slc2 B (k_bvar B 1 rfl rfl) (po_yess (k_svar B 2 rfl rfl)) po_nos) (k_slc2 B (k_bvar B 1 rfl rfl) po_nos (po_yess (k_svar B 2 rfl rfl))))))))))))
theorem w_431 (Z : Fx P w K mg base ⟨K, w, ca⟩ k) : Walks P w K mg base ca k ["_law_thing", "e"] "_law_told" (defScope (top 31)) (defBody (top 31)) (b_431 (TT.prm (callT TT k))) := by
  intro f cdv A outer s H E hr hg
  have B := bg_of (P := P) (w := w) (K := K) (mg := mg) (base := base) (N := ["_law_thing", "e"]) (f := f) (cdv := cdv) (A := A) (outer := outer) (s := s) (H := H) (E := E) (ca := ca) hr hg (by decide +kernel) Z.sm
  have hp : PassesOwn (model P w) (cxOf (L2.CX P w) P w K mg base ["_law_thing", "e"] "_law_told" (defScope (top 31)) f cdv A outer s H E).A (cxOf (L2.CX P w) P w K mg base ["_law_thing", "e"] "_law_told" (defScope (top 31)) f cdv A outer s H E).env (cxOf (L2.CX P w) P w K mg base ["_law_thing", "e"] "_law_told" (defScope (top 31)) f cdv A outer s H E).xe := passes_of rfl
  exact (os_one (k_tryAs B (fun n => n == 103 || n == 119 || n == 120 || n == 146 || n == 147) 1 Z.h_119 rfl rfl rfl rfl rfl rfl (fun W1 pn1 xe1 B hp => (os_one (os_ret (k_fz (kF_lst (k_cons (k_str [116,111,108,100] (by decide +kernel)) (k_cons (k_call (P := PP k) B Z.f_139 (k_cons (k_var B 0 rfl rfl) k_nil rfl) rfl rfl rfl rfl) k_nil rfl) rfl)))))) (fun a1 oe1 pn1 y C n0 hca hca0 sy Ex B => (os_seq (os_if (PW.pt (okW_or (kT_of B (k_isxT rfl (Z.x_exc _ _ n0 hca0) Ex n0 hca rfl Z.g_isinstance rfl (Gis.cons (Z.i_NoHall.exc _) rfl rfl (Gis.cons (Z.i_NoSeal.exc _) rfl rfl (Gis.cons (Z.i_NoTerm.exc _) rfl rfl Gis.nil))) (by decide) rfl rfl rfl rfl) (fun _ => rfl)) (okW_one_or (kT_not (kT_of B (k_isx rfl (Z.x_exc _ _ n0 hca0) Ex n0 hca rfl Z.g_isinstance rfl (Z.i_ValueError.exc _) rfl rfl rfl rfl rfl rfl) (fun _ => rfl)))))) (os_one (os_ret (k_fz (kF_lst (k_cons (k_str [97,110,111,116,104,101,114] (by decide +kernel)) (k_cons ok_non k_nil rfl) rfl))))) os_nil)
    (os_one (os_ret (ok_ite (kT_of B (k_isx rfl (Z.x_exc _ _ n0 hca0) Ex n0 hca rfl Z.g_isinstance rfl (Z.i_NoForm.exc _) rfl rfl rfl rfl rfl rfl) (fun _ => rfl)) (k_fz (kF_lst (k_cons (k_str [114,101,102,117,115,101,100] (by decide +kernel)) (k_cons ok_non k_nil rfl) rfl))) (k_fz (kF_lst (k_cons (k_str [97,110,111,116,104,101,114] (by decide +kernel)) (k_cons ok_non k_nil rfl) rfl))))))))))
theorem w_148 (Z : Fx P w K mg base ⟨K, w, ca⟩ k) : Walks P w K mg base ca k ["_law_form_here"] "_law_is_refused" (defScope (top 32)) (defBody (top 32)) (b_148 (TT.prm (callT TT k))) := by
  intro f cdv A outer s H E hr hg
  have B := bg_of (P := P) (w := w) (K := K) (mg := mg) (base := base) (N := ["_law_form_here"]) (f := f) (cdv := cdv) (A := A) (outer := outer) (s := s) (H := H) (E := E) (ca := ca) hr hg (by decide +kernel) Z.sm
  have hp : PassesOwn (model P w) (cxOf (L2.CX P w) P w K mg base ["_law_form_here"] "_law_is_refused" (defScope (top 32)) f cdv A outer s H E).A (cxOf (L2.CX P w) P w K mg base ["_law_form_here"] "_law_is_refused" (defScope (top 32)) f cdv A outer s H E).env (cxOf (L2.CX P w) P w K mg base ["_law_form_here"] "_law_is_refused" (defScope (top 32)) f cdv A outer s H E).xe := passes_of rfl
  exact (os_seq (k_try B (fun n => n == 103) Z.h_103 rfl rfl rfl rfl (fun W1 pn1 xe1 B hp => (os_one (os_ex (k_call (P := PP k) B Z.f_136 (k_cons (k_var B 0 rfl rfl) k_nil rfl) rfl rfl rfl rfl) rfl))) (fun a1 oe1 pn1 => (os_one (os_ret ok_bl))))
    (os_one (os_ret ok_bl)))
theorem w_432 (Z : Fx P w K mg base ⟨K, w, ca⟩ k) : Walks P w K mg base ca k ["_law_pot_here", "_law_high_here", "_law_form_here", "_law_text", "_law_other", "_law_told_here", "_law_odd", "_law_some", "_law_thing"] "_law_right" (defScope (top 33)) (defBody (top 33)) (b_432 (TT.prm (callT TT k))) := by
  intro f cdv A outer s H E hr hg
  have B := bg_of (P := P) (w := w) (K := K) (mg := mg) (base := base) (N := ["_law_pot_here", "_law_high_here", "_law_form_here", "_law_text", "_law_other", "_law_told_here", "_law_odd", "_law_some", "_law_thing"]) (f := f) (cdv := cdv) (A := A) (outer := outer) (s := s) (H := H) (E := E) (ca := ca) hr hg (by decide +kernel) Z.sm
  have hp : PassesOwn (model P w) (cxOf (L2.CX P w) P w K mg base ["_law_pot_here", "_law_high_here", "_law_form_here", "_law_text", "_law_other", "_law_told_here", "_law_odd", "_law_some", "_law_thing"] "_law_right" (defScope (top 33)) f cdv A outer s H E).A (cxOf (L2.CX P w) P w K mg base ["_law_pot_here", "_law_high_here", "_law_form_here", "_law_text", "_law_other", "_law_told_here", "_law_odd", "_law_some", "_law_thing"] "_law_right" (defScope (top 33)) f cdv A outer s H E).env (cxOf (L2.CX P w) P w K mg base ["_law_pot_here", "_law_high_here", "_law_form_here", "_law_text", "_law_other", "_law_told_here", "_law_odd", "_law_some", "_law_thing"] "_law_right" (defScope (top 33)) f cdv A outer s H E).xe := passes_of rfl
  exact (os_seq (k_for B hp (oi_rng1 rfl Z.g_range (k_cons ok_int k_nil rfl) rfl) (g_name B 1 rfl rfl rfl (zAny_set 1)) (os_seq (os_asg (k_call (P := PP k) B Z.f_428 (k_cons (k_var B 0 rfl rfl) (k_cons (k_var B 1 rfl rfl) k_nil rfl) rfl) rfl rfl rfl rfl) (g_name B 2 rfl rfl rfl (zAny_set 2)) rfl rfl rfl)
    (os_seq (os_asg (k_call (P := PP k) B Z.f_297 (k_cons (k_var B 2 rfl rfl) k_nil rfl) rfl rfl rfl rfl) (g_name B 3 rfl rfl rfl (zAny_set 3)) rfl rfl rfl)
    (os_seq (os_if (PW.pt (okW_or (kT_cmp B .ne (k_call (P := PP k) B Z.f_136 (k_cons (k_var B 2 rfl rfl) k_nil rfl) rfl rfl rfl rfl) (k_bvar B 3 rfl rfl) rfl) (okW_one_or (kT_cmp B .ne (k_bi B .repr rfl Z.g_repr rfl (k_cons (k_call (P := PP k) B Z.f_431 (k_cons (k_var B 3 rfl rfl) k_nil rfl) rfl rfl rfl rfl) k_nil rfl) rfl (by decide) rfl rfl rfl) (PE.toBo (k_bi B .repr rfl Z.g_repr rfl (k_cons (k_fz (kF_lst (k_cons (k_str [116,111,108,100] (by decide +kernel)) (k_cons (k_var B 2 rfl rfl) k_nil rfl) rfl))) k_nil rfl) rfl (by decide) rfl rfl rfl)) rfl)))) (os_one (os_ret ok_bl)) os_nil)
    (os_seq (os_asg (k_call (P := PP k) B Z.f_430 (k_cons (k_var B 0 rfl rfl) (k_cons (k_var B 3 rfl rfl) k_nil rfl) rfl) rfl rfl rfl rfl) (g_name B 4 rfl rfl rfl (zAny_set 4)) rfl rfl rfl)
    (os_seq (os_asg (k_call (P := PP k) B Z.f_431 (k_cons (k_var B 4 rfl rfl) k_nil rfl) rfl rfl rfl rfl) (g_name B 5 rfl rfl rfl (zAny_set 5)) rfl rfl rfl)
    (os_seq (os_if (PW.pt (okW_or (kT_cmp B .ne (k_cmp2 B .eq (PE.toBo (k_idx2 B (k_bvar B 5 rfl rfl) k_sint (fun _ _ => rfl))) (k_sstr [116,111,108,100] (by decide +kernel)) rfl) (PE.toBo (k_call (P := PP k) B Z.f_144 (k_cons (k_var B 4 rfl rfl) k_nil rfl) rfl rfl rfl rfl)) rfl) (okW_one_or (kT_cmp2 B .eq (PE.toBo (k_idx2 B (k_bvar B 5 rfl rfl) k_sint (fun _ _ => rfl))) (k_sstr [97,110,111,116,104,101,114] (by decide +kernel)) rfl)))) (os_one (os_ret ok_bl)) os_nil)
    (os_one (os_if (PW.pt (okW_and (kT_cmp2 B .eq (PE.toBo (k_idx2 B (k_bvar B 5 rfl rfl) k_sint (fun _ _ => rfl))) (k_sstr [116,111,108,100] (by decide +kernel)) rfl) (okW_one_and (kT_cmp B .ne (k_call (P := PP k) B Z.f_297 (k_cons (k_idx2 B (k_bvar B 5 rfl rfl) k_sint (fun _ _ => rfl)) k_nil rfl) rfl rfl rfl rfl) (k_bvar B 4 rfl rfl) rfl)))) (os_one (os_ret ok_bl)) os_nil)))))))) (fun _ => rfl))
    (os_seq (os_asg (k_fz (kF_lst (k_cons ok_int (k_cons ok_bl (k_cons (k_str [] (by decide +kernel)) (k_cons (k_tup k_nil) (k_cons (k_fz (kF_lst k_nil)) (k_cons (PE.ofSi (ok_sdct (B.hc rfl))) (k_cons ok_non (k_cons (k_tup (k_cons (k_str [97,110,121] (by decide +kernel)) k_nil rfl)) (k_cons (k_fz (kF_lst (k_cons (k_str [97,110,121] (by decide +kernel)) k_nil rfl))) (k_cons (k_str [97,110,121,10] (by decide +kernel)) (k_cons (k_str [32,97,110,121] (by decide +kernel)) (k_cons (k_tup (k_cons (k_str [98,111,120] (by decide +kernel)) (k_cons (k_str [97,110,121] (by decide +kernel)) k_nil rfl) rfl)) k_nil rfl) rfl) rfl) rfl) rfl) rfl) rfl) rfl) rfl) rfl) rfl) rfl))) (g_name B 6 rfl rfl rfl (zAny_set 6)) rfl rfl rfl)
    (os_seq (os_if (kT_cmp B .ne (k_fz (kF_comp B (oi_sq B.hK (k_var B 6 rfl rfl)) (blkOk_by (N := ["_law_pot_here", "_law_high_here", "_law_form_here", "_law_text", "_law_other", "_law_told_here", "_law_odd", "_law_some", "_law_thing"]) (sc := defScope (top 33)) (own := [("_law_thing", 8)]) (by decide +kernel)) rfl (fun s0 H0 C0 cl0 fp0 B => (g_name B 8 rfl rfl rfl (zOwn_set (by decide)))) (fun s0 H0 C0 cl0 fp0 B => ots_nil) (fun s0 H0 C0 cl0 fp0 B => (k_call (P := PP k) B Z.f_431 (k_cons (k_var B 8 rfl rfl) k_nil rfl) rfl rfl rfl rfl)) (fun _ => rfl))) (PE.toBo (k_bin B .mul (k_fz (kF_lst (k_cons (k_fz (kF_lst (k_cons (k_str [114,101,102,117,115,101,100] (by decide +kernel)) (k_cons ok_non k_nil rfl) rfl))) k_nil rfl))) (k_len B Z.g_len rfl (k_bvar B 6 rfl rfl) rfl (by decide) rfl rfl rfl))) rfl) (os_one (os_ret ok_bl)) os_nil)
    (os_seq (os_asg (k_fz (kF_lst (k_cons ok_int (k_cons ok_bl (k_cons (k_str [] (by decide +kernel)) (k_cons (k_tup k_nil) (k_cons (k_fz (kF_lst k_nil)) (k_cons (PE.ofSi (ok_sdct (B.hc rfl))) (k_cons ok_non (k_cons (k_str [40,97,110,121,62,97,110,121,41] (by decide +kernel)) (k_cons (k_tup (k_cons (k_str [98,111,120] (by decide +kernel)) k_nil rfl)) (k_cons (k_tup (k_cons (k_str [98,111,120] (by decide +kernel)) (k_cons (k_tup (k_cons (k_str [98,111,120] (by decide +kernel)) (k_cons (k_call (P := PP k) B Z.f_428 (k_cons (k_var B 0 rfl rfl) (k_cons ok_int k_nil rfl) rfl) rfl rfl rfl rfl) k_nil rfl) rfl)) k_nil rfl) rfl)) k_nil rfl) rfl) rfl) rfl) rfl) rfl) rfl) rfl) rfl) rfl))) (g_name B 7 rfl rfl rfl (zAny_set 7)) rfl rfl rfl)
    (os_seq (os_asg (k_bin B .add (k_var B 7 rfl rfl) (k_fz (kF_lst (k_cons (k_tup (k_cons (k_fz (kF_lst k_nil)) (k_cons (k_str [97,110,121] (by decide +kernel)) k_nil rfl) rfl)) (k_cons (k_tup (k_cons (PE.ofSi (ok_sdct (B.hc rfl))) (k_cons (k_str [97,110,121] (by decide +kernel)) (k_cons (k_str [97,110,121] (by decide +kernel)) k_nil rfl) rfl) rfl)) (k_cons (k_tup (k_cons (k_str [98,111,120] (by decide +kernel)) (k_cons (k_fz (kF_lst k_nil)) k_nil rfl) rfl)) (k_cons (k_tup (k_cons (k_str [100,101,101,100] (by decide +kernel)) (k_cons (PE.ofSi (ok_sdct (B.hc rfl))) (k_cons (k_str [97,110,121] (by decide +kernel)) k_nil rfl) rfl) rfl)) k_nil rfl) rfl) rfl) rfl)))) (g_name B 7 rfl rfl rfl (zAny_set 7)) rfl rfl rfl)
    (os_one (os_ret (k_bi B .all rfl Z.g_all rfl (k_cons (k_fz (kF_comp B (oi_sq B.hK (k_var B 7 rfl rfl)) (blkOk_by (N := ["_law_pot_here", "_law_high_here", "_law_form_here", "_law_text", "_law_other", "_law_told_here", "_law_odd", "_law_some", "_law_thing"]) (sc := defScope (top 33)) (own := [("_law_thing", 8)]) (by decide +kernel)) rfl (fun s0 H0 C0 cl0 fp0 B => (g_name B 8 rfl rfl rfl (zOwn_set (by decide)))) (fun s0 H0 C0 cl0 fp0 B => ots_nil) (fun s0 H0 C0 cl0 fp0 B => (k_call (P := PP k) B Z.f_148 (k_cons (k_var B 8 rfl rfl) k_nil rfl) rfl rfl rfl rfl)) (fun _ => rfl))) k_nil rfl) rfl (by decide) rfl rfl rfl))))))))
theorem w_126 (Z : Fx P w K mg base ⟨K, w, ca⟩ k) : Walks P w K mg base ca k ["_law_script", "_law_k"] "law" (defScope (top 34)) (defBody (top 34)) (b_126 (TT.prm (callT TT k))) := by
  intro f cdv A outer s H E hr hg
  have B := bg_of (P := P) (w := w) (K := K) (mg := mg) (base := base) (N := ["_law_script", "_law_k"]) (f := f) (cdv := cdv) (A := A) (outer := outer) (s := s) (H := H) (E := E) (ca := ca) hr hg (by decide +kernel) Z.sm
  have hp : PassesOwn (model P w) (cxOf (L2.CX P w) P w K mg base ["_law_script", "_law_k"] "law" (defScope (top 34)) f cdv A outer s H E).A (cxOf (L2.CX P w) P w K mg base ["_law_script", "_law_k"] "law" (defScope (top 34)) f cdv A outer s H E).env (cxOf (L2.CX P w) P w K mg base ["_law_script", "_law_k"] "law" (defScope (top 34)) f cdv A outer s H E).xe := passes_of rfl
  exact (os_one (os_ret (k_bi B .all rfl Z.g_all rfl (k_cons (k_fz (kF_comp B (oi_rng1 rfl Z.g_range (k_cons (k_bi B .max2 rfl Z.g_max rfl (k_cons ok_int (k_cons (k_bi B .min2 rfl Z.g_min rfl (k_cons (k_len B Z.g_len rfl (k_bvar B 0 rfl rfl) rfl (by decide) rfl rfl rfl) (k_cons ok_int k_nil rfl) rfl) rfl (by decide) rfl rfl rfl) k_nil rfl) rfl) rfl (by decide) rfl rfl rfl) k_nil rfl) rfl) (blkOk_by (N := ["_law_script", "_law_k"]) (sc := defScope (top 34)) (own := [("_law_k", 1)]) (by decide +kernel)) rfl (fun s0 H0 C0 cl0 fp0 B => (g_name B 1 rfl rfl rfl (zOwn_set (by decide)))) (fun s0 H0 C0 cl0 fp0 B => ots_nil) (fun s0 H0 C0 cl0 fp0 B => (k_call (P := PP k) B Z.f_432 (k_cons (k_call (P := PP k) B Z.f_112 (k_cons (k_var B 0 rfl rfl) (k_cons (k_var B 1 rfl rfl) k_nil rfl) rfl) rfl rfl rfl rfl) k_nil rfl) rfl rfl rfl rfl)) (fun _ => rfl))) k_nil rfl) rfl (by decide) rfl rfl rfl)))
end
def e_101 : He.DefD := ⟨("is_form_to", none), "is_form_to", "is_form_to", defArgs (top 12), defBody (top 12), defScope (top 12), [], []⟩
def e_102 : He.DefD := ⟨("is_form", none), "is_form", "is_form", defArgs (top 13), defBody (top 13), defScope (top 13), [], []⟩
def e_104 : He.DefD := ⟨("want_form", none), "want_form", "want_form", defArgs (top 14), defBody (top 14), defScope (top 14), [], []⟩
def e_135 : He.DefD := ⟨("text_of_form", none), "text_of_form", "text_of_form", defArgs (top 16), defBody (top 16), defScope (top 16), [], []⟩
def e_136 : He.DefD := ⟨("form_text", none), "form_text", "form_text", defArgs (top 17), defBody (top 17), defScope (top 17), [], []⟩
def e_137 : He.DefD := ⟨("want_sign", none), "want_sign", "want_sign", defArgs (top 18), defBody (top 18), defScope (top 18), [], []⟩
def e_138 : He.DefD := ⟨("form_at", none), "form_at", "form_at", defArgs (top 19), defBody (top 19), defScope (top 19), [], []⟩
def e_139 : He.DefD := ⟨("read_form", none), "read_form", "read_form", defArgs (top 20), defBody (top 20), defScope (top 20), [], []⟩
def e_112 : He.DefD := ⟨("_law_pot", none), "_law_pot", "_law_pot", defArgs (top 22), defBody (top 22), defScope (top 22), [], []⟩
def e_113 : He.DefD := ⟨("_law_digit", none), "_law_digit", "_law_digit", defArgs (top 23), defBody (top 23), defScope (top 23), [], []⟩
def e_114 : He.DefD := ⟨("_law_form", none), "_law_form", "_law_form", defArgs (top 24), defBody (top 24), defScope (top 24), [], []⟩
def e_428 : He.DefD := ⟨("_law_high", none), "_law_high", "_law_high", defArgs (top 25), defBody (top 25), defScope (top 25), [], []⟩
def e_297 : He.DefD := ⟨("_law_written", none), "_law_written", "_law_written", defArgs (top 26), defBody (top 26), defScope (top 26), [], []⟩
def e_142 : He.DefD := ⟨("_law_reduced", none), "_law_reduced", "_law_reduced", defArgs (top 27), defBody (top 27), defScope (top 27), [], []⟩
def e_429 : He.DefD := ⟨("_law_high_of", none), "_law_high_of", "_law_high_of", defArgs (top 28), defBody (top 28), defScope (top 28), [], []⟩
def e_144 : He.DefD := ⟨("_law_is_text", none), "_law_is_text", "_law_is_text", defArgs (top 29), defBody (top 29), defScope (top 29), [], []⟩
def e_430 : He.DefD := ⟨("_law_spoilt", none), "_law_spoilt", "_law_spoilt", defArgs (top 30), defBody (top 30), defScope (top 30), [], []⟩
def e_431 : He.DefD := ⟨("_law_told", none), "_law_told", "_law_told", defArgs (top 31), defBody (top 31), defScope (top 31), [], []⟩
def e_148 : He.DefD := ⟨("_law_is_refused", none), "_law_is_refused", "_law_is_refused", defArgs (top 32), defBody (top 32), defScope (top 32), [], []⟩
def e_432 : He.DefD := ⟨("_law_right", none), "_law_right", "_law_right", defArgs (top 33), defBody (top 33), defScope (top 33), [], []⟩
def e_126 : He.DefD := ⟨("law", none), "law", "law", defArgs (top 34), defBody (top 34), defScope (top 34), [], []⟩
def fns : List He.DefD := [e_101, e_102, e_104, e_135, e_136, e_137, e_138, e_139, e_112, e_113, e_114, e_428, e_297, e_142, e_429, e_144, e_430, e_431, e_148, e_432, e_126]
def fas : List He.Fa := [.glo "is_form_to", .glo "is_form", .glo "want_form", .glo "text_of_form", .glo "form_text", .glo "want_sign", .glo "form_at", .glo "read_form", .glo "_law_pot", .glo "_law_digit", .glo "_law_form", .glo "_law_high", .glo "_law_written", .glo "_law_reduced", .glo "_law_high_of", .glo "_law_is_text", .glo "_law_spoilt", .glo "_law_told", .glo "_law_is_refused", .glo "_law_right", .glo "law", .free "isinstance", .free "str", .glo "PLAIN", .free "tuple", .free "len", .glo "WIDTHS", .free "all", .int "MOST_HEIGHT" 5, .glo "NoForm", .exc "NoForm", .str "DEED" "deed", .str "BOX" "box", .free "abs", .free "max", .free "divmod", .free "range", .free "repr", .free "min", .exm "NoForm" "WallError" true, .glo "WallError", .exm "NoForm" "NoForm" true, .free "ValueError", .glo "NoHall", .glo "NoSeal", .glo "NoTerm"]
def tbs : List He.Tab := [(fun K => He.ga K "WIDTHS", ["deed", "box"])]
def chk (K : PySem.W.Frag) : Bool := (tupC "PLAIN" [(.str [97,110,121]), (.str [110,117,109]), (.str [116,101,120,116])] K) && (dicC "WIDTHS" [((.str [100,101,101,100]), (.int 3)), ((.str [98,111,120]), (.int 2))] K) && (kiT "NoForm" "ValueError" true K) && (excC "NoForm" K) && (kiC "NoForm" "NoHall" false K) && (kiC "NoForm" "NoSeal" false K) && (kiC "NoForm" "NoTerm" false K) && (kiC "NoForm" "NoForm" true K) && (smC K)
def ca (K : PySem.W.Frag) : Nat → Option Addr
  | 103 => some (He.ga K "NoForm")
  | _ => none
section
variable {P : PySem.Program} {w : World} {K : PySem.W.Frag} {mg : Str → Option Value} {base h : Heap} {fds : Nat → FuncData}
structure Gk (P : PySem.Program) (w : World) (K : PySem.W.Frag) (mg : Str → Option Value) (base : Heap) (fds : Nat → FuncData) (k : Nat) : Prop where
  f_101 : FnG P w K mg base k (He.fAd K ("is_form_to", none)) (fds 0) ["thing", "high"] (spF ⟨K, w, ca K⟩ (callT TT k) 101 2)
  f_102 : FnG P w K mg base k (He.fAd K ("is_form", none)) (fds 1) ["thing"] (spF ⟨K, w, ca K⟩ (callT TT k) 102 1)
  f_104 : FnG P w K mg base k (He.fAd K ("want_form", none)) (fds 2) ["thing"] (spF ⟨K, w, ca K⟩ (callT TT k) 104 1)
  f_135 : FnG P w K mg base k (He.fAd K ("text_of_form", none)) (fds 3) ["form"] (spF ⟨K, w, ca K⟩ (callT TT k) 135 1)
  f_136 : FnG P w K mg base k (He.fAd K ("form_text", none)) (fds 4) ["form"] (spF ⟨K, w, ca K⟩ (callT TT k) 136 1)
  f_137 : FnG P w K mg base k (He.fAd K ("want_sign", none)) (fds 5) ["text", "at", "sign"] (spF ⟨K, w, ca K⟩ (callT TT k) 137 3)
  f_138 : FnG P w K mg base k (He.fAd K ("form_at", none)) (fds 6) ["text", "at", "high"] (spF ⟨K, w, ca K⟩ (callT TT k) 138 3)
  f_139 : FnG P w K mg base k (He.fAd K ("read_form", none)) (fds 7) ["text"] (spF ⟨K, w, ca K⟩ (callT TT k) 139 1)
  f_112 : FnG P w K mg base k (He.fAd K ("_law_pot", none)) (fds 8) ["_law_script", "_law_k"] (spF ⟨K, w, ca K⟩ (callT TT k) 112 2)
  f_113 : FnG P w K mg base k (He.fAd K ("_law_digit", none)) (fds 9) ["_law_pot_here", "_law_many"] (spF ⟨K, w, ca K⟩ (callT TT k) 113 2)
  f_114 : FnG P w K mg base k (He.fAd K ("_law_form", none)) (fds 10) ["_law_pot_here", "_law_high_here"] (spF ⟨K, w, ca K⟩ (callT TT k) 114 2)
  f_428 : FnG P w K mg base k (He.fAd K ("_law_high", none)) (fds 11) ["_law_pot_here", "_law_high_here"] (spF ⟨K, w, ca K⟩ (callT TT k) 428 2)
  f_297 : FnG P w K mg base k (He.fAd K ("_law_written", none)) (fds 12) ["_law_form_here"] (spF ⟨K, w, ca K⟩ (callT TT k) 297 1)
  f_142 : FnG P w K mg base k (He.fAd K ("_law_reduced", none)) (fds 13) ["_law_text"] (spF ⟨K, w, ca K⟩ (callT TT k) 142 1)
  f_429 : FnG P w K mg base k (He.fAd K ("_law_high_of", none)) (fds 14) ["_law_text"] (spF ⟨K, w, ca K⟩ (callT TT k) 429 1)
  f_144 : FnG P w K mg base k (He.fAd K ("_law_is_text", none)) (fds 15) ["_law_text"] (spF ⟨K, w, ca K⟩ (callT TT k) 144 1)
  f_430 : FnG P w K mg base k (He.fAd K ("_law_spoilt", none)) (fds 16) ["_law_pot_here", "_law_text"] (spF ⟨K, w, ca K⟩ (callT TT k) 430 2)
  f_431 : FnG P w K mg base k (He.fAd K ("_law_told", none)) (fds 17) ["_law_thing"] (spF ⟨K, w, ca K⟩ (callT TT k) 431 1)
  f_148 : FnG P w K mg base k (He.fAd K ("_law_is_refused", none)) (fds 18) ["_law_form_here"] (spF ⟨K, w, ca K⟩ (callT TT k) 148 1)
  f_432 : FnG P w K mg base k (He.fAd K ("_law_right", none)) (fds 19) ["_law_pot_here"] (spF ⟨K, w, ca K⟩ (callT TT k) 432 1)
  f_126 : FnG P w K mg base k (He.fAd K ("law", none)) (fds 20) ["_law_script"] (spF ⟨K, w, ca K⟩ (callT TT k) 126 1)
theorem g_zero : Gk P w K mg base fds 0 := ⟨fnG_zero, fnG_zero, fnG_zero, fnG_zero, fnG_zero, fnG_zero, fnG_zero, fnG_zero, fnG_zero, fnG_zero, fnG_zero, fnG_zero, fnG_zero, fnG_zero, fnG_zero, fnG_zero, fnG_zero, fnG_zero, fnG_zero, fnG_zero, fnG_zero⟩
abbrev FnsD (K : PySem.W.Frag) (fds : Nat → FuncData) : Prop := ∀ (i : Nat) (d : He.DefD), fns[i]? = some d → FunD K d.name d.qual d.params d.body d.scope (d.dvs K) (d.kws K) (He.fAd K d.at_) (fds i)
theorem s_101 : FnScope ["thing", "high", "word", "parts", "part"] ["thing", "high"] (defScope (top 12)) := ⟨rfl, rfl, rfl, by decide +kernel, rfl, by decide +kernel, by decide +kernel⟩
theorem s_102 : FnScope ["thing"] ["thing"] (defScope (top 13)) := ⟨rfl, rfl, rfl, by decide +kernel, rfl, by decide +kernel, by decide +kernel⟩
theorem s_104 : FnScope ["thing"] ["thing"] (defScope (top 14)) := ⟨rfl, rfl, rfl, by decide +kernel, rfl, by decide +kernel, by decide +kernel⟩
theorem s_135 : FnScope ["form", "texts", "part"] ["form"] (defScope (top 16)) := ⟨rfl, rfl, rfl, by decide +kernel, rfl, by decide +kernel, by decide +kernel⟩
theorem s_136 : FnScope ["form"] ["form"] (defScope (top 17)) := ⟨rfl, rfl, rfl, by decide +kernel, rfl, by decide +kernel, by decide +kernel⟩
theorem s_137 : FnScope ["text", "at", "sign"] ["text", "at", "sign"] (defScope (top 18)) := ⟨rfl, rfl, rfl, by decide +kernel, rfl, by decide +kernel, by decide +kernel⟩
theorem s_138 : FnScope ["text", "at", "high", "word", "first", "end", "second"] ["text", "at", "high"] (defScope (top 19)) := ⟨rfl, rfl, rfl, by decide +kernel, rfl, by decide +kernel, by decide +kernel⟩
theorem s_139 : FnScope ["text", "form", "end"] ["text"] (defScope (top 20)) := ⟨rfl, rfl, rfl, by decide +kernel, rfl, by decide +kernel, by decide +kernel⟩
theorem s_112 : FnScope ["_law_script", "_law_k", "_law_cell"] ["_law_script", "_law_k"] (defScope (top 22)) := ⟨rfl, rfl, rfl, by decide +kernel, rfl, by decide +kernel, by decide +kernel⟩
theorem s_113 : FnScope ["_law_pot_here", "_law_many", "_law_digit_here"] ["_law_pot_here", "_law_many"] (defScope (top 23)) := ⟨rfl, rfl, rfl, by decide +kernel, rfl, by decide +kernel, by decide +kernel⟩
theorem s_114 : FnScope ["_law_pot_here", "_law_high_here", "_law_way"] ["_law_pot_here", "_law_high_here"] (defScope (top 24)) := ⟨rfl, rfl, rfl, by decide +kernel, rfl, by decide +kernel, by decide +kernel⟩
theorem s_428 : FnScope ["_law_pot_here", "_law_high_here", "_law_parts"] ["_law_pot_here", "_law_high_here"] (defScope (top 25)) := ⟨rfl, rfl, rfl, by decide +kernel, rfl, by decide +kernel, by decide +kernel⟩
theorem s_297 : FnScope ["_law_form_here"] ["_law_form_here"] (defScope (top 26)) := ⟨rfl, rfl, rfl, by decide +kernel, rfl, by decide +kernel, by decide +kernel⟩
theorem s_142 : FnScope ["_law_text", "_law_found", "_law_turn"] ["_law_text"] (defScope (top 27)) := ⟨rfl, rfl, rfl, by decide +kernel, rfl, by decide +kernel, by decide +kernel⟩
theorem s_429 : FnScope ["_law_text", "_law_deep", "_law_most", "_law_sign"] ["_law_text"] (defScope (top 28)) := ⟨rfl, rfl, rfl, by decide +kernel, rfl, by decide +kernel, by decide +kernel⟩
theorem s_144 : FnScope ["_law_text", "_law_noughts"] ["_law_text"] (defScope (top 29)) := ⟨rfl, rfl, rfl, by decide +kernel, rfl, by decide +kernel, by decide +kernel⟩
theorem s_430 : FnScope ["_law_pot_here", "_law_text", "_law_at", "_law_sign", "_law_way"] ["_law_pot_here", "_law_text"] (defScope (top 30)) := ⟨rfl, rfl, rfl, by decide +kernel, rfl, by decide +kernel, by decide +kernel⟩
theorem s_431 : FnScope ["_law_thing", "e"] ["_law_thing"] (defScope (top 31)) := ⟨rfl, rfl, rfl, by decide +kernel, rfl, by decide +kernel, by decide +kernel⟩
theorem s_148 : FnScope ["_law_form_here"] ["_law_form_here"] (defScope (top 32)) := ⟨rfl, rfl, rfl, by decide +kernel, rfl, by decide +kernel, by decide +kernel⟩
theorem s_432 : FnScope ["_law_pot_here", "_law_high_here", "_law_form_here", "_law_text", "_law_other", "_law_told_here", "_law_odd", "_law_some", "_law_thing"] ["_law_pot_here"] (defScope (top 33)) := ⟨rfl, rfl, rfl, by decide +kernel, rfl, by decide +kernel, by decide +kernel⟩
theorem s_126 : FnScope ["_law_script", "_law_k"] ["_law_script"] (defScope (top 34)) := ⟨rfl, rfl, rfl, by decide +kernel, rfl, by decide +kernel, by decide +kernel⟩
theorem g_step {k : Nat} (D : FnsD K fds) (Z : Fx P w K mg base ⟨K, w, ca K⟩ k) : Gk P w K mg base fds (k + 1) where
  f_101 := fn_of (T := TT) (nf := 101) (D 0 e_101 rfl) s_101 rfl rfl rfl (w_101 Z _)
  f_102 := fn_of (T := TT) (nf := 102) (D 1 e_102 rfl) s_102 rfl rfl rfl (w_102 Z _)
  f_104 := fn_of (T := TT) (nf := 104) (D 2 e_104 rfl) s_104 rfl rfl rfl (w_104 Z _)
  f_135 := fn_of (T := TT) (nf := 135) (D 3 e_135 rfl) s_135 rfl rfl rfl (w_135 Z _)
  f_136 := fn_of (T := TT) (nf := 136) (D 4 e_136 rfl) s_136 rfl rfl rfl (w_136 Z _)
  f_137 := fn_of (T := TT) (nf := 137) (D 5 e_137 rfl) s_137 rfl rfl rfl (w_137 Z _)
  f_138 := fn_of (T := TT) (nf := 138) (D 6 e_138 rfl) s_138 rfl rfl rfl (w_138 Z _)
  f_139 := fn_of (T := TT) (nf := 139) (D 7 e_139 rfl) s_139 rfl rfl rfl (w_139 Z _)
  f_112 := fn_of (T := TT) (nf := 112) (D 8 e_112 rfl) s_112 rfl rfl rfl (w_112 Z _)
  f_113 := fn_of (T := TT) (nf := 113) (D 9 e_113 rfl) s_113 rfl rfl rfl (w_113 Z _)
  f_114 := fn_of (T := TT) (nf := 114) (D 10 e_114 rfl) s_114 rfl rfl rfl (w_114 Z _)
  f_428 := fn_of (T := TT) (nf := 428) (D 11 e_428 rfl) s_428 rfl rfl rfl (w_428 Z _)
  f_297 := fn_of (T := TT) (nf := 297) (D 12 e_297 rfl) s_297 rfl rfl rfl (w_297 Z _)
  f_142 := fnT_of (T := TT) (nf := 142) (D 13 e_142 rfl) s_142 (by decide +kernel) (by decide) rfl rfl rfl (w_142 Z _)
  f_429 := fn_of (T := TT) (nf := 429) (D 14 e_429 rfl) s_429 rfl rfl rfl (w_429 Z _)
  f_144 := fnT_of (T := TT) (nf := 144) (D 15 e_144 rfl) s_144 (by decide +kernel) (by decide) rfl rfl rfl (w_144 Z _)
  f_430 := fn_of (T := TT) (nf := 430) (D 16 e_430 rfl) s_430 rfl rfl rfl (w_430 Z _)
  f_431 := fn_of (T := TT) (nf := 431) (D 17 e_431 rfl) s_431 rfl rfl rfl (w_431 Z _)
  f_148 := fn_of (T := TT) (nf := 148) (D 18 e_148 rfl) s_148 rfl rfl rfl (w_148 Z _)
  f_432 := fn_of (T := TT) (nf := 432) (D 19 e_432 rfl) s_432 rfl rfl rfl (w_432 Z _)
  f_126 := fn_of (T := TT) (nf := 126) (D 20 e_126 rfl) s_126 rfl rfl rfl (w_126 Z _)
theorem bd_101 (D : FnsD K fds) : L2.Binds K (fds 0) ["thing", "high"] [] := FunD.bindsN (D 0 e_101 rfl) fun _ _ _ _ _ _ us hl => match us, hl with | [_, _], _ => rfl
theorem bd_102 (D : FnsD K fds) : L2.Binds K (fds 1) ["thing"] [] := FunD.bindsN (D 1 e_102 rfl) fun _ _ _ _ _ _ us hl => match us, hl with | [_], _ => rfl
theorem bd_135 (D : FnsD K fds) : L2.Binds K (fds 3) ["form"] [] := FunD.bindsN (D 3 e_135 rfl) fun _ _ _ _ _ _ us hl => match us, hl with | [_], _ => rfl
theorem bd_104 (D : FnsD K fds) : L2.Binds K (fds 2) ["thing"] [] := FunD.bindsN (D 2 e_104 rfl) fun _ _ _ _ _ _ us hl => match us, hl with | [_], _ => rfl
theorem bd_138 (D : FnsD K fds) : L2.Binds K (fds 6) ["text", "at", "high"] [] := FunD.bindsN (D 6 e_138 rfl) fun _ _ _ _ _ _ us hl => match us, hl with | [_, _, _], _ => rfl
theorem bd_137 (D : FnsD K fds) : L2.Binds K (fds 5) ["text", "at", "sign"] [] := FunD.bindsN (D 5 e_137 rfl) fun _ _ _ _ _ _ us hl => match us, hl with | [_, _, _], _ => rfl
theorem bd_113 (D : FnsD K fds) : L2.Binds K (fds 9) ["_law_pot_here", "_law_many"] [] := FunD.bindsN (D 9 e_113 rfl) fun _ _ _ _ _ _ us hl => match us, hl with | [_, _], _ => rfl
theorem bd_114 (D : FnsD K fds) : L2.Binds K (fds 10) ["_law_pot_here", "_law_high_here"] [] := FunD.bindsN (D 10 e_114 rfl) fun _ _ _ _ _ _ us hl => match us, hl with | [_, _], _ => rfl
theorem bd_428 (D : FnsD K fds) : L2.Binds K (fds 11) ["_law_pot_here", "_law_high_here"] [] := FunD.bindsN (D 11 e_428 rfl) fun _ _ _ _ _ _ us hl => match us, hl with | [_, _], _ => rfl
theorem bd_297 (D : FnsD K fds) : L2.Binds K (fds 12) ["_law_form_here"] [] := FunD.bindsN (D 12 e_297 rfl) fun _ _ _ _ _ _ us hl => match us, hl with | [_], _ => rfl
theorem bd_429 (D : FnsD K fds) : L2.Binds K (fds 14) ["_law_text"] [] := FunD.bindsN (D 14 e_429 rfl) fun _ _ _ _ _ _ us hl => match us, hl with | [_], _ => rfl
theorem bd_142 (D : FnsD K fds) : L2.Binds K (fds 13) ["_law_text"] [] := FunD.bindsN (D 13 e_142 rfl) fun _ _ _ _ _ _ us hl => match us, hl with | [_], _ => rfl
theorem bd_139 (D : FnsD K fds) : L2.Binds K (fds 7) ["text"] [] := FunD.bindsN (D 7 e_139 rfl) fun _ _ _ _ _ _ us hl => match us, hl with | [_], _ => rfl
theorem bd_136 (D : FnsD K fds) : L2.Binds K (fds 4) ["form"] [] := FunD.bindsN (D 4 e_136 rfl) fun _ _ _ _ _ _ us hl => match us, hl with | [_], _ => rfl
theorem bd_431 (D : FnsD K fds) : L2.Binds K (fds 17) ["_law_thing"] [] := FunD.bindsN (D 17 e_431 rfl) fun _ _ _ _ _ _ us hl => match us, hl with | [_], _ => rfl
theorem bd_430 (D : FnsD K fds) : L2.Binds K (fds 16) ["_law_pot_here", "_law_text"] [] := FunD.bindsN (D 16 e_430 rfl) fun _ _ _ _ _ _ us hl => match us, hl with | [_, _], _ => rfl
theorem bd_144 (D : FnsD K fds) : L2.Binds K (fds 15) ["_law_text"] [] := FunD.bindsN (D 15 e_144 rfl) fun _ _ _ _ _ _ us hl => match us, hl with | [_], _ => rfl
theorem bd_148 (D : FnsD K fds) : L2.Binds K (fds 18) ["_law_form_here"] [] := FunD.bindsN (D 18 e_148 rfl) fun _ _ _ _ _ _ us hl => match us, hl with | [_], _ => rfl
theorem bd_432 (D : FnsD K fds) : L2.Binds K (fds 19) ["_law_pot_here"] [] := FunD.bindsN (D 19 e_432 rfl) fun _ _ _ _ _ _ us hl => match us, hl with | [_], _ => rfl
theorem bd_112 (D : FnsD K fds) : L2.Binds K (fds 8) ["_law_script", "_law_k"] [] := FunD.bindsN (D 8 e_112 rfl) fun _ _ _ _ _ _ us hl => match us, hl with | [_, _], _ => rfl
theorem fx_of {k : Nat} (X : K.In h) (G : h.Ns mainGlobals mg) (c : SaysX fas fns tbs chk w K) (D : FnsD K fds) (g : Gk P w K mg base fds k) : Fx P w K mg base ⟨K, w, ca K⟩ k := by
  have cc := c.c
  unfold chk at cc
  simp only [Bool.and_eq_true] at cc
  exact {
    sm := smC_ok cc.2
    g_isinstance := He.free_ok X G (c.t.d.fact 21 (f := .free "isinstance") rfl)
    g_str := He.free_ok X G (c.t.d.fact 22 (f := .free "str") rfl)
    c_PLAIN := gc_tup (c := ⟨K, w, ca K⟩) X G (c.t.d.fact 23 (f := .glo "PLAIN") rfl) cc.1.1.1.1.1.1.1.1
    g_tuple := He.free_ok X G (c.t.d.fact 24 (f := .free "tuple") rfl)
    g_len := He.free_ok X G (c.t.d.fact 25 (f := .free "len") rfl)
    c_WIDTHS := gc_dic (c := ⟨K, w, ca K⟩) X G (c.t.d.fact 26 (f := .glo "WIDTHS") rfl) cc.1.1.1.1.1.1.1.2 (c.t.tab 0 rfl)
    f_101 := ⟨_, _, He.glo_ok X G (c.t.d.fact 0 (f := .glo "is_form_to") rfl), (D 0 e_101 rfl).kp, g.f_101, bd_101 D⟩
    g_all := He.free_ok X G (c.t.d.fact 27 (f := .free "all") rfl)
    c_MOST_HEIGHT := gc_int (c := ⟨K, w, ca K⟩) X G (c.t.d.fact 28 (f := .int "MOST_HEIGHT" 5) rfl)
    f_102 := ⟨_, _, He.glo_ok X G (c.t.d.fact 1 (f := .glo "is_form") rfl), (D 1 e_102 rfl).kp, g.f_102, bd_102 D⟩
    e_103 := ge_exc (c := ⟨K, w, ca K⟩) X G (by decide) rfl (c.t.d.fact 29 (f := .glo "NoForm") rfl) (c.t.d.fact 30 (f := .exc "NoForm") rfl)
    f_135 := ⟨_, _, He.glo_ok X G (c.t.d.fact 3 (f := .glo "text_of_form") rfl), (D 3 e_135 rfl).kp, g.f_135, bd_135 D⟩
    c_DEED := gc_str (c := ⟨K, w, ca K⟩) X G (by decide +kernel) (c.t.d.fact 31 (f := .str "DEED" "deed") rfl)
    f_104 := ⟨_, _, He.glo_ok X G (c.t.d.fact 2 (f := .glo "want_form") rfl), (D 2 e_104 rfl).kp, g.f_104, bd_104 D⟩
    f_138 := ⟨_, _, He.glo_ok X G (c.t.d.fact 6 (f := .glo "form_at") rfl), (D 6 e_138 rfl).kp, g.f_138, bd_138 D⟩
    f_137 := ⟨_, _, He.glo_ok X G (c.t.d.fact 5 (f := .glo "want_sign") rfl), (D 5 e_137 rfl).kp, g.f_137, bd_137 D⟩
    c_BOX := gc_str (c := ⟨K, w, ca K⟩) X G (by decide +kernel) (c.t.d.fact 32 (f := .str "BOX" "box") rfl)
    g_abs := He.free_ok X G (c.t.d.fact 33 (f := .free "abs") rfl)
    g_max := He.free_ok X G (c.t.d.fact 34 (f := .free "max") rfl)
    g_divmod := He.free_ok X G (c.t.d.fact 35 (f := .free "divmod") rfl)
    f_113 := ⟨_, _, He.glo_ok X G (c.t.d.fact 9 (f := .glo "_law_digit") rfl), (D 9 e_113 rfl).kp, g.f_113, bd_113 D⟩
    f_114 := ⟨_, _, He.glo_ok X G (c.t.d.fact 10 (f := .glo "_law_form") rfl), (D 10 e_114 rfl).kp, g.f_114, bd_114 D⟩
    f_428 := ⟨_, _, He.glo_ok X G (c.t.d.fact 11 (f := .glo "_law_high") rfl), (D 11 e_428 rfl).kp, g.f_428, bd_428 D⟩
    f_297 := ⟨_, _, He.glo_ok X G (c.t.d.fact 12 (f := .glo "_law_written") rfl), (D 12 e_297 rfl).kp, g.f_297, bd_297 D⟩
    g_range := He.free_ok X G (c.t.d.fact 36 (f := .free "range") rfl)
    f_429 := ⟨_, _, He.glo_ok X G (c.t.d.fact 14 (f := .glo "_law_high_of") rfl), (D 14 e_429 rfl).kp, g.f_429, bd_429 D⟩
    f_142 := ⟨_, _, He.glo_ok X G (c.t.d.fact 13 (f := .glo "_law_reduced") rfl), (D 13 e_142 rfl).kp, g.f_142, bd_142 D⟩
    h_119 := ⟨_, He.glo_ok X G (c.t.d.fact 40 (f := .glo "WallError") rfl), fun n C' n0 e => by
      have e : ca K n = some C' := e
      unfold ca at e
      split at e
      · cases e; exact He.exm_ok (c.t.d.fact 39 (f := .exm "NoForm" "WallError" true) rfl)
      · cases e⟩
    f_139 := ⟨_, _, He.glo_ok X G (c.t.d.fact 7 (f := .glo "read_form") rfl), (D 7 e_139 rfl).kp, g.f_139, bd_139 D⟩
    i_ValueError := ⟨_, _, .ty "ValueError", (fun n C' n0 e => by
      have e : ca K n = some C' := e
      unfold ca at e
      split at e
      · cases e; exact ki_ok cc.1.1.1.1.1.1.2
      · cases e), .inr ⟨He.free_ok X G (c.t.d.fact 42 (f := .free "ValueError") rfl), (by decide +kernel), (by decide)⟩⟩
    x_exc := fun n C' n0 e => by
      have e : ca K n = some C' := e
      unfold ca at e
      split at e
      · cases e; exact excC_ok cc.1.1.1.1.1.2
      · cases e
    i_NoHall := ⟨_, _, .own _, (fun n C' n0 e => by
      have e : ca K n = some C' := e
      unfold ca at e
      split at e
      · cases e; exact ki_ok cc.1.1.1.1.2
      · cases e), .inl (He.glo_ok X G (c.t.d.fact 43 (f := .glo "NoHall") rfl))⟩
    i_NoSeal := ⟨_, _, .own _, (fun n C' n0 e => by
      have e : ca K n = some C' := e
      unfold ca at e
      split at e
      · cases e; exact ki_ok cc.1.1.1.2
      · cases e), .inl (He.glo_ok X G (c.t.d.fact 44 (f := .glo "NoSeal") rfl))⟩
    i_NoTerm := ⟨_, _, .own _, (fun n C' n0 e => by
      have e : ca K n = some C' := e
      unfold ca at e
      split at e
      · cases e; exact ki_ok cc.1.1.2
      · cases e), .inl (He.glo_ok X G (c.t.d.fact 45 (f := .glo "NoTerm") rfl))⟩
    i_NoForm := ⟨_, _, .own _, (fun n C' n0 e => by
      have e : ca K n = some C' := e
      unfold ca at e
      split at e
      · cases e; exact ki_ok cc.1.2
      · cases e), .inl (He.glo_ok X G (c.t.d.fact 29 (f := .glo "NoForm") rfl))⟩
    h_103 := ⟨_, He.glo_ok X G (c.t.d.fact 29 (f := .glo "NoForm") rfl), fun n C' n0 e => by
      have e : ca K n = some C' := e
      unfold ca at e
      split at e
      · cases e; exact He.exm_ok (c.t.d.fact 41 (f := .exm "NoForm" "NoForm" true) rfl)
      · cases e⟩
    f_136 := ⟨_, _, He.glo_ok X G (c.t.d.fact 4 (f := .glo "form_text") rfl), (D 4 e_136 rfl).kp, g.f_136, bd_136 D⟩
    f_431 := ⟨_, _, He.glo_ok X G (c.t.d.fact 17 (f := .glo "_law_told") rfl), (D 17 e_431 rfl).kp, g.f_431, bd_431 D⟩
    g_repr := He.free_ok X G (c.t.d.fact 37 (f := .free "repr") rfl)
    f_430 := ⟨_, _, He.glo_ok X G (c.t.d.fact 16 (f := .glo "_law_spoilt") rfl), (D 16 e_430 rfl).kp, g.f_430, bd_430 D⟩
    f_144 := ⟨_, _, He.glo_ok X G (c.t.d.fact 15 (f := .glo "_law_is_text") rfl), (D 15 e_144 rfl).kp, g.f_144, bd_144 D⟩
    f_148 := ⟨_, _, He.glo_ok X G (c.t.d.fact 18 (f := .glo "_law_is_refused") rfl), (D 18 e_148 rfl).kp, g.f_148, bd_148 D⟩
    g_min := He.free_ok X G (c.t.d.fact 38 (f := .free "min") rfl)
    f_432 := ⟨_, _, He.glo_ok X G (c.t.d.fact 19 (f := .glo "_law_right") rfl), (D 19 e_432 rfl).kp, g.f_432, bd_432 D⟩
    f_112 := ⟨_, _, He.glo_ok X G (c.t.d.fact 8 (f := .glo "_law_pot") rfl), (D 8 e_112 rfl).kp, g.f_112, bd_112 D⟩
  }
theorem g_all (X : K.In h) (G : h.Ns mainGlobals mg) (c : SaysX fas fns tbs chk w K) (D : FnsD K fds) : ∀ k, Gk P w K mg base fds k
  | 0 => g_zero
  | k + 1 => g_step D (fx_of X G c D (g_all X G c D k))
end
abbrev Rw : PySem.W.OpenRow := PySem.W.OpenLaw.row PySem.Challenge.rw_wallseal_k16_form_texts
abbrev hkx : PySem.W.Hook := hookX 4 fas fns tbs chk
def obx (s : PySem.W.SharedT) : AlX := obsXG 4 fas fns tbs chk (HandSHeadRun.getT s)
theorem obx_eq (s : PySem.W.SharedT) : obx s = hkx.obs s.abs := obsXG_eq (HandSHeadRun.getT_eq s)
theorem facts {P : PySem.Program} {w : World} {K : PySem.W.Frag} {h : Heap} {mg : Str → Option Value} {f : Addr} (kk : Nat) (M : ∀ ns : List Int, ns.length ≤ 63 → (∀ z ∈ ns, Builtin.Int.intBits z ≤ 1048576) → ∃ S', callT TT kk 126 [.scr ns] [] = .ok (.bl true) S')
    (X : K.In h) (G : h.Ns mainGlobals mg) (hfa : mg ("law" : Str) = some (.ref f)) (c : SaysX fas fns tbs chk w K) :
    ∃ (fd : FuncData) (sp : Sp), (∀ (s : Shared) (u : Value), BindsTo s fd ⟨[u], []⟩ [("_law_script", u)]) ∧
      (∀ (H : Hp) (a : Addr) (ns : List Int), ns.length ≤ 63 → (∀ z ∈ ns, Builtin.Int.intBits z ≤ 1048576) → Only H → SqL K H a (ns.map V.int) → sp [.ref a] H (fun v _ => v = .bl true) fun _ _ _ => False) ∧
      ∀ base : Heap, K.In base → base.Ns mainGlobals mg → FnG P w K mg base kk f fd ["_law_script"] sp := by
  obtain ⟨fds, D⟩ := c.fds
  have e := hfa.symm.trans (He.glo_ok X G (c.t.d.fact 20 (f := .glo "law") rfl))
  cases e
  refine ⟨fds 20, spF ⟨K, w, ca K⟩ (callT TT kk) 126 1, fun s u => FunD.bindsA (ps := ["_law_script"]) (D 20 e_126 rfl) (fun _ _ _ _ _ _ us hl => match us, hl with | [_], _ => rfl) s [u] rfl, fun H a ns h1 h2 _ hS => ?_, fun base _ _ => (g_all X G c D kk).f_126⟩
  obtain ⟨S', e⟩ := M ns h1 h2
  exact wish_of (c := ⟨K, w, ca K⟩) e hS
end k16
end Ev
set_option Elab.async false
set_option linter.all false
set_option autoImplicit false
set_option maxRecDepth 100000
set_option maxHeartbeats 4000000
namespace Ev
open PySem
@[simp] theorem rb_ok {α β : Type} (a : α) (ρ : Env) (S : Sto) (f : α → M β) : Res.bind (.ok a ρ S) f = f a ρ S := rfl
@[simp] theorem rb_exc {α β : Type} (x : Exn) (ρ : Env) (S : Sto) (f : α → M β) : Res.bind (.exc x ρ S) f = .exc x ρ S := rfl
theorem mb {α β : Type} (m : M α) (f : α → M β) (ρ : Env) (S : Sto) : M.bind m f ρ S = Res.bind (m ρ S) f := rfl
theorem mp {α : Type} (a : α) (ρ : Env) (S : Sto) : M.pure a ρ S = .ok a ρ S := rfl
theorem eqb_str (x y : Txt) : D.eqb (.str x) (.str y) = (x == y) := rfl
theorem eqb_int (x y : Int) : D.eqb (.int x) (.int y) = (x == y) := rfl
theorem eqb_bl (x y : Bool) : D.eqb (.bl x) (.bl y) = (x == y) := rfl
theorem eqb_tup (xs ys : List D) : D.eqb (.tup xs) (.tup ys) = D.eqbs xs ys := rfl
theorem eqbs_nil : D.eqbs [] [] = true := rfl
theorem eqbs_cn (x : D) (xs : List D) : D.eqbs (x :: xs) [] = false := rfl
theorem eqbs_nc (x : D) (xs : List D) : D.eqbs [] (x :: xs) = false := rfl
theorem eqbs_cc (x y : D) (xs ys : List D) : D.eqbs (x :: xs) (y :: ys) = (D.eqb x y && D.eqbs xs ys) := rfl
theorem eqb_st (x : Txt) (ys : List D) : D.eqb (.str x) (.tup ys) = false := rfl
theorem eqb_ts (x : Txt) (ys : List D) : D.eqb (.tup ys) (.str x) = false := rfl
theorem plain_str (n : Nat) (x : Txt) : D.plain n (.str x) = x.all fun k => decide (k < 1114112) := by cases n <;> rfl
theorem plain_int (n : Nat) (i : Int) : D.plain n (.int i) = true := by cases n <;> rfl
theorem plain_bl (n : Nat) (b : Bool) : D.plain n (.bl b) = true := by cases n <;> rfl
theorem plain_tup (n : Nat) (xs : List D) : D.plain (n + 1) (.tup xs) = D.plains n xs := rfl
theorem plains_nil (n : Nat) : D.plains n [] = true := by cases n <;> rfl
theorem plains_cons (n : Nat) (x : D) (xs : List D) : D.plains n (x :: xs) = (D.plain n x && D.plains n xs) := by cases n <;> rfl
theorem eqb_nn : D.eqb .non .non = true := rfl
theorem eqb_nb (y : Bool) : D.eqb .non (.bl y) = false := rfl
theorem eqb_ni (y : Int) : D.eqb .non (.int y) = false := rfl
theorem eqb_ns (y : Txt) : D.eqb .non (.str y) = false := rfl
theorem eqb_nt (y : List D) : D.eqb .non (.tup y) = false := rfl
theorem eqb_nl (y : List D) : D.eqb .non (.lst y) = false := rfl
theorem eqb_nd (y : List (D × D)) : D.eqb .non (.dic y) = false := rfl
theorem eqb_bn (x : Bool) : D.eqb (.bl x) .non = false := rfl
theorem eqb_bi (x : Bool) (y : Int) : D.eqb (.bl x) (.int y) = ((if x then (1 : Int) else 0) == y) := rfl
theorem eqb_bs (x : Bool) (y : Txt) : D.eqb (.bl x) (.str y) = false := rfl
theorem eqb_bt (x : Bool) (y : List D) : D.eqb (.bl x) (.tup y) = false := rfl
theorem eqb_b_l (x : Bool) (y : List D) : D.eqb (.bl x) (.lst y) = false := rfl
theorem eqb_bd (x : Bool) (y : List (D × D)) : D.eqb (.bl x) (.dic y) = false := rfl
theorem eqb_in (x : Int) : D.eqb (.int x) .non = false := rfl
theorem eqb_ib (x : Int) (y : Bool) : D.eqb (.int x) (.bl y) = (x == (if y then (1 : Int) else 0)) := rfl
theorem eqb_is (x : Int) (y : Txt) : D.eqb (.int x) (.str y) = false := rfl
theorem eqb_it (x : Int) (y : List D) : D.eqb (.int x) (.tup y) = false := rfl
theorem eqb_il (x : Int) (y : List D) : D.eqb (.int x) (.lst y) = false := rfl
theorem eqb_id (x : Int) (y : List (D × D)) : D.eqb (.int x) (.dic y) = false := rfl
theorem eqb_sn (x : Txt) : D.eqb (.str x) .non = false := rfl
theorem eqb_sb (x : Txt) (y : Bool) : D.eqb (.str x) (.bl y) = false := rfl
theorem eqb_si (x : Txt) (y : Int) : D.eqb (.str x) (.int y) = false := rfl
theorem eqb_sl (x : Txt) (y : List D) : D.eqb (.str x) (.lst y) = false := rfl
theorem eqb_sd (x : Txt) (y : List (D × D)) : D.eqb (.str x) (.dic y) = false := rfl
theorem eqb_tn (x : List D) : D.eqb (.tup x) .non = false := rfl
theorem eqb_tb (x : List D) (y : Bool) : D.eqb (.tup x) (.bl y) = false := rfl
theorem eqb_ti (x : List D) (y : Int) : D.eqb (.tup x) (.int y) = false := rfl
theorem eqb_tl (x : List D) (y : List D) : D.eqb (.tup x) (.lst y) = false := rfl
theorem eqb_td (x : List D) (y : List (D × D)) : D.eqb (.tup x) (.dic y) = false := rfl
theorem eqb_ln (x : List D) : D.eqb (.lst x) .non = false := rfl
theorem eqb_lb (x : List D) (y : Bool) : D.eqb (.lst x) (.bl y) = false := rfl
theorem eqb_li (x : List D) (y : Int) : D.eqb (.lst x) (.int y) = false := rfl
theorem eqb_ls (x : List D) (y : Txt) : D.eqb (.lst x) (.str y) = false := rfl
theorem eqb_lt (x : List D) (y : List D) : D.eqb (.lst x) (.tup y) = false := rfl
theorem eqb_ll (x : List D) (y : List D) : D.eqb (.lst x) (.lst y) = D.eqbs x y := rfl
theorem eqb_ld (x : List D) (y : List (D × D)) : D.eqb (.lst x) (.dic y) = false := rfl
theorem eqb_dn (x : List (D × D)) : D.eqb (.dic x) .non = false := rfl
theorem eqb_db (x : List (D × D)) (y : Bool) : D.eqb (.dic x) (.bl y) = false := rfl
theorem eqb_di (x : List (D × D)) (y : Int) : D.eqb (.dic x) (.int y) = false := rfl
theorem eqb_ds (x : List (D × D)) (y : Txt) : D.eqb (.dic x) (.str y) = false := rfl
theorem eqb_dt (x : List (D × D)) (y : List D) : D.eqb (.dic x) (.tup y) = false := rfl
theorem eqb_dl (x : List (D × D)) (y : List D) : D.eqb (.dic x) (.lst y) = false := rfl
theorem eqb_dd (x : List (D × D)) (y : List (D × D)) : D.eqb (.dic x) (.dic y) = false := rfl
theorem plain_non (n : Nat) : D.plain n .non = true := by cases n <;> rfl
theorem plain_lst (n : Nat) (xs : List D) : D.plain (n + 1) (.lst xs) = D.plains n xs := rfl
theorem plain_dic (n : Nat) (xs : List (D × D)) : D.plain n (.dic xs) = false := by cases n <;> rfl
theorem eqo_nn : eqo .non .non = if D.plain 60 .non && D.plain 60 .non then some (D.eqb .non .non) else none := rfl
theorem eqo_nb (y : Bool) : eqo .non (.bl y) = if D.plain 60 .non && D.plain 60 (.bl y) then some (D.eqb .non (.bl y)) else none := rfl
theorem eqo_ni (y : Int) : eqo .non (.int y) = if D.plain 60 .non && D.plain 60 (.int y) then some (D.eqb .non (.int y)) else none := rfl
theorem eqo_ns (y : Txt) : eqo .non (.str y) = if D.plain 60 .non && D.plain 60 (.str y) then some (D.eqb .non (.str y)) else none := rfl
theorem eqo_nt (y : List D) : eqo .non (.tup y) = if D.plain 60 .non && D.plain 60 (.tup y) then some (D.eqb .non (.tup y)) else none := rfl
theorem eqo_nl (y : List D) : eqo .non (.lst y) = if D.plain 60 .non && D.plain 60 (.lst y) then some (D.eqb .non (.lst y)) else none := rfl
theorem eqo_nd (y : List (D × D)) : eqo .non (.dic y) = if D.plain 60 .non && D.plain 60 (.dic y) then some (D.eqb .non (.dic y)) else none := rfl
theorem eqo_bn (x : Bool) : eqo (.bl x) .non = if D.plain 60 (.bl x) && D.plain 60 .non then some (D.eqb (.bl x) .non) else none := rfl
theorem eqo_bb (x : Bool) (y : Bool) : eqo (.bl x) (.bl y) = some (x == y) := rfl
theorem eqo_bi (x : Bool) (y : Int) : eqo (.bl x) (.int y) = if D.plain 60 (.bl x) && D.plain 60 (.int y) then some (D.eqb (.bl x) (.int y)) else none := rfl
theorem eqo_bs (x : Bool) (y : Txt) : eqo (.bl x) (.str y) = if D.plain 60 (.bl x) && D.plain 60 (.str y) then some (D.eqb (.bl x) (.str y)) else none := rfl
theorem eqo_bt (x : Bool) (y : List D) : eqo (.bl x) (.tup y) = if D.plain 60 (.bl x) && D.plain 60 (.tup y) then some (D.eqb (.bl x) (.tup y)) else none := rfl
theorem eqo_bl (x : Bool) (y : List D) : eqo (.bl x) (.lst y) = if D.plain 60 (.bl x) && D.plain 60 (.lst y) then some (D.eqb (.bl x) (.lst y)) else none := rfl
theorem eqo_bd (x : Bool) (y : List (D × D)) : eqo (.bl x) (.dic y) = if D.plain 60 (.bl x) && D.plain 60 (.dic y) then some (D.eqb (.bl x) (.dic y)) else none := rfl
theorem eqo_in (x : Int) : eqo (.int x) .non = if D.plain 60 (.int x) && D.plain 60 .non then some (D.eqb (.int x) .non) else none := rfl
theorem eqo_ib (x : Int) (y : Bool) : eqo (.int x) (.bl y) = if D.plain 60 (.int x) && D.plain 60 (.bl y) then some (D.eqb (.int x) (.bl y)) else none := rfl
theorem eqo_ii (x : Int) (y : Int) : eqo (.int x) (.int y) = some (x == y) := rfl
theorem eqo_is (x : Int) (y : Txt) : eqo (.int x) (.str y) = if D.plain 60 (.int x) && D.plain 60 (.str y) then some (D.eqb (.int x) (.str y)) else none := rfl
theorem eqo_it (x : Int) (y : List D) : eqo (.int x) (.tup y) = if D.plain 60 (.int x) && D.plain 60 (.tup y) then some (D.eqb (.int x) (.tup y)) else none := rfl
theorem eqo_il (x : Int) (y : List D) : eqo (.int x) (.lst y) = if D.plain 60 (.int x) && D.plain 60 (.lst y) then some (D.eqb (.int x) (.lst y)) else none := rfl
theorem eqo_id (x : Int) (y : List (D × D)) : eqo (.int x) (.dic y) = if D.plain 60 (.int x) && D.plain 60 (.dic y) then some (D.eqb (.int x) (.dic y)) else none := rfl
theorem eqo_sn (x : Txt) : eqo (.str x) .non = if D.plain 60 (.str x) && D.plain 60 .non then some (D.eqb (.str x) .non) else none := rfl
theorem eqo_sb (x : Txt) (y : Bool) : eqo (.str x) (.bl y) = if D.plain 60 (.str x) && D.plain 60 (.bl y) then some (D.eqb (.str x) (.bl y)) else none := rfl
theorem eqo_si (x : Txt) (y : Int) : eqo (.str x) (.int y) = if D.plain 60 (.str x) && D.plain 60 (.int y) then some (D.eqb (.str x) (.int y)) else none := rfl
theorem eqo_ss (x : Txt) (y : Txt) : eqo (.str x) (.str y) = some (x == y) := rfl
theorem eqo_st (x : Txt) (y : List D) : eqo (.str x) (.tup y) = if D.plain 60 (.str x) && D.plain 60 (.tup y) then some (D.eqb (.str x) (.tup y)) else none := rfl
theorem eqo_sl (x : Txt) (y : List D) : eqo (.str x) (.lst y) = if D.plain 60 (.str x) && D.plain 60 (.lst y) then some (D.eqb (.str x) (.lst y)) else none := rfl
theorem eqo_sd (x : Txt) (y : List (D × D)) : eqo (.str x) (.dic y) = if D.plain 60 (.str x) && D.plain 60 (.dic y) then some (D.eqb (.str x) (.dic y)) else none := rfl
theorem eqo_tn (x : List D) : eqo (.tup x) .non = if D.plain 60 (.tup x) && D.plain 60 .non then some (D.eqb (.tup x) .non) else none := rfl
theorem eqo_tb (x : List D) (y : Bool) : eqo (.tup x) (.bl y) = if D.plain 60 (.tup x) && D.plain 60 (.bl y) then some (D.eqb (.tup x) (.bl y)) else none := rfl
theorem eqo_ti (x : List D) (y : Int) : eqo (.tup x) (.int y) = if D.plain 60 (.tup x) && D.plain 60 (.int y) then some (D.eqb (.tup x) (.int y)) else none := rfl
theorem eqo_ts (x : List D) (y : Txt) : eqo (.tup x) (.str y) = if D.plain 60 (.tup x) && D.plain 60 (.str y) then some (D.eqb (.tup x) (.str y)) else none := rfl
theorem eqo_te (x : List D) : eqo (.tup x) (.tup []) = some x.isEmpty := rfl
theorem eqo_tt (x : List D) (z : D) (y : List D) : eqo (.tup x) (.tup (z :: y)) = if D.plain 60 (.tup x) && D.plain 60 (.tup (z :: y)) then some (D.eqb (.tup x) (.tup (z :: y))) else none := rfl
theorem eqo_tl (x : List D) (y : List D) : eqo (.tup x) (.lst y) = if D.plain 60 (.tup x) && D.plain 60 (.lst y) then some (D.eqb (.tup x) (.lst y)) else none := rfl
theorem eqo_td (x : List D) (y : List (D × D)) : eqo (.tup x) (.dic y) = if D.plain 60 (.tup x) && D.plain 60 (.dic y) then some (D.eqb (.tup x) (.dic y)) else none := rfl
theorem eqo_ln (x : List D) : eqo (.lst x) .non = if D.plain 60 (.lst x) && D.plain 60 .non then some (D.eqb (.lst x) .non) else none := rfl
theorem eqo_lb (x : List D) (y : Bool) : eqo (.lst x) (.bl y) = if D.plain 60 (.lst x) && D.plain 60 (.bl y) then some (D.eqb (.lst x) (.bl y)) else none := rfl
theorem eqo_li (x : List D) (y : Int) : eqo (.lst x) (.int y) = if D.plain 60 (.lst x) && D.plain 60 (.int y) then some (D.eqb (.lst x) (.int y)) else none := rfl
theorem eqo_ls (x : List D) (y : Txt) : eqo (.lst x) (.str y) = if D.plain 60 (.lst x) && D.plain 60 (.str y) then some (D.eqb (.lst x) (.str y)) else none := rfl
theorem eqo_lt (x : List D) (y : List D) : eqo (.lst x) (.tup y) = if D.plain 60 (.lst x) && D.plain 60 (.tup y) then some (D.eqb (.lst x) (.tup y)) else none := rfl
theorem eqo_ll (x : List D) (y : List D) : eqo (.lst x) (.lst y) = if D.plain 60 (.lst x) && D.plain 60 (.lst y) then some (D.eqb (.lst x) (.lst y)) else none := rfl
theorem eqo_ld (x : List D) (y : List (D × D)) : eqo (.lst x) (.dic y) = if D.plain 60 (.lst x) && D.plain 60 (.dic y) then some (D.eqb (.lst x) (.dic y)) else none := rfl
theorem eqo_dn (x : List (D × D)) : eqo (.dic x) .non = if D.plain 60 (.dic x) && D.plain 60 .non then some (D.eqb (.dic x) .non) else none := rfl
theorem eqo_db (x : List (D × D)) (y : Bool) : eqo (.dic x) (.bl y) = if D.plain 60 (.dic x) && D.plain 60 (.bl y) then some (D.eqb (.dic x) (.bl y)) else none := rfl
theorem eqo_di (x : List (D × D)) (y : Int) : eqo (.dic x) (.int y) = if D.plain 60 (.dic x) && D.plain 60 (.int y) then some (D.eqb (.dic x) (.int y)) else none := rfl
theorem eqo_ds (x : List (D × D)) (y : Txt) : eqo (.dic x) (.str y) = if D.plain 60 (.dic x) && D.plain 60 (.str y) then some (D.eqb (.dic x) (.str y)) else none := rfl
theorem eqo_dt (x : List (D × D)) (y : List D) : eqo (.dic x) (.tup y) = if D.plain 60 (.dic x) && D.plain 60 (.tup y) then some (D.eqb (.dic x) (.tup y)) else none := rfl
theorem eqo_dl (x : List (D × D)) (y : List D) : eqo (.dic x) (.lst y) = if D.plain 60 (.dic x) && D.plain 60 (.lst y) then some (D.eqb (.dic x) (.lst y)) else none := rfl
theorem eqo_dd (x : List (D × D)) (y : List (D × D)) : eqo (.dic x) (.dic y) = if D.plain 60 (.dic x) && D.plain 60 (.dic y) then some (D.eqb (.dic x) (.dic y)) else none := rfl
theorem bop_ai (i j : Int) : bop .add (.int i) (.int j) = some (.int (i + j)) := rfl
theorem bop_as (x y : Txt) : bop .add (.str x) (.str y) = if x.length + y.length ≤ 16777216 then some (.str (x ++ y)) else none := rfl
theorem bop_asC (x y : Txt) (h : x.length + y.length ≤ 16777216) : bop .add (.str x) (.str y) = some (.str (x ++ y)) := by rw [bop_as, if_pos h]
theorem bop_at (xs ys : List D) : bop .add (.tup xs) (.tup ys) = if xs.length ≤ 16777216 ∧ ys.length ≤ 16777216 ∧ xs.length + ys.length ≤ 16777216 then some (.tup (xs ++ ys)) else none := rfl
theorem bop_al (xs ys : List D) : bop .add (.lst xs) (.lst ys) = if xs.length + ys.length ≤ 16777216 then some (.lst (xs ++ ys)) else none := rfl
theorem bop_si (i j : Int) : bop .sub (.int i) (.int j) = some (.int (i - j)) := rfl
theorem bop_mi (i j : Int) : bop .mul (.int i) (.int j) = if (-big64 < i ∧ i < big64) ∨ (-big64 < j ∧ j < big64) then some (.int (i * j)) else none := rfl
theorem bop_ml (xs : List D) (k : Int) : bop .mul (.lst xs) (.int k) = if -(2 ^ 63) ≤ k ∧ k < 2 ^ 63 ∧ xs.length * k.toNat ≤ 16777216 then some (.lst (reps xs k.toNat)) else none := rfl
theorem bop_mt (xs : List D) (k : Int) : bop .mul (.tup xs) (.int k) = if xs ≠ [] ∧ 1 ≤ k ∧ k ≤ 1000 ∧ xs.length ≤ 1000 then some (.tup (reps xs k.toNat)) else none := rfl
theorem bop_ms (x : Txt) (k : Int) : bop .mul (.str x) (.int k) = if x ≠ [] ∧ 2 ≤ k ∧ k ≤ 1000 ∧ x.length ≤ 1000 then some (.str (reps x k.toNat)) else none := rfl
theorem bop_mo (i j : Int) : bop .mod (.int i) (.int j) = if 0 < j then some (.int (i % j)) else none := rfl
theorem bop_fd (i j : Int) : bop .fdv (.int i) (.int j) = if 0 < j ∧ j < 1073741824 then some (.int (i / j)) else none := rfl
theorem bop_pw (i j : Int) : bop .pow (.int i) (.int j) = if 0 ≤ j ∧ j ≤ 1000000 ∧ i.natAbs < 2 ^ 64 then some (.int (i ^ j.toNat)) else none := rfl
theorem isn_n : D.isNon .non = true := rfl
theorem isn_b (x : Bool) : D.isNon (.bl x) = false := rfl
theorem isn_i (x : Int) : D.isNon (.int x) = false := rfl
theorem isn_s (x : Txt) : D.isNon (.str x) = false := rfl
theorem isn_t (x : List D) : D.isNon (.tup x) = false := rfl
theorem isn_l (x : List D) : D.isNon (.lst x) = false := rfl
theorem isn_d (x : List (D × D)) : D.isNon (.dic x) = false := rfl
theorem isn_r (x : Nat) : D.isNon (.ref x) = false := rfl
inductive Form where | any | num | text | deed (a b : Form) | box (a : Form) deriving DecidableEq
namespace Form
def enc : Form → D
  | any => .str [97,110,121] | num => .str [110,117,109] | text => .str [116,101,120,116]
  | deed a b => .tup [.str [100,101,101,100], enc a, enc b]
  | box a => .tup [.str [98,111,120], enc a]
def hgt : Form → Nat
  | any => 0 | num => 0 | text => 0 | deed a b => 1 + max (hgt a) (hgt b) | box a => 1 + hgt a
end Form
open Form
theorem isn_enc (f : Form) : D.isNon (enc f) = false := by cases f <;> rfl
theorem call_step {T : Tb} {n : Nat} {fd : FD} [i : Fn T n fd] (k : Nat) (ds : List D) (S : Sto) : callT T (k + 1) n ds S = runD (T.prm (callT T k)) fd ds S := by
  show (match T.fn n with | none => _ | some fd => _) = _
  rw [i.e]
theorem prmc (T : Tb) (c : Call) : (T.prm c).call = c := rfl
theorem pp_call {T : Tb} (k n : Nat) (ds : List D) (ρ : Env) (S : Sto) : mCall (T.prm (callT T k)) n ds ρ S = match callT T k n ds S with | .ok d S' => .ok d ρ S' | .okl xs S' => .ok (.lst xs) ρ S' | .exc x S' => .exc x ρ S' | .bad => .bad := rfl
theorem plain_enc (f : Form) : ∀ n : Nat, hgt f ≤ n → D.plain n (enc f) = true := by
  induction f with
  | any => intro n _; rw [enc, plain_str]; decide
  | num => intro n _; rw [enc, plain_str]; decide
  | text => intro n _; rw [enc, plain_str]; decide
  | deed a b iha ihb =>
    intro n h
    simp only [hgt] at h
    obtain ⟨n, rfl⟩ : ∃ j, n = j + 1 := ⟨n - 1, by omega⟩
    rw [enc, plain_tup, plains_cons, plains_cons, plains_cons, plains_nil, plain_str, iha n (by omega), ihb n (by omega)]
    decide
  | box a iha =>
    intro n h
    simp only [hgt] at h
    obtain ⟨n, rfl⟩ : ∃ j, n = j + 1 := ⟨n - 1, by omega⟩
    rw [enc, plain_tup, plains_cons, plains_cons, plains_nil, plain_str, iha n (by omega)]
    decide
theorem plain_deed (n : Nat) (a b : Form) (h : hgt (deed a b) ≤ n) : D.plain n (.tup [.str [100,101,101,100], enc a, enc b]) = true := plain_enc (deed a b) n h
theorem plain_box (n : Nat) (a : Form) (h : hgt (box a) ≤ n) : D.plain n (.tup [.str [98,111,120], enc a]) = true := plain_enc (box a) n h
theorem is_form_to (T : Tb) [Fn T 101 fd_101] (f : Form) : ∀ (h : Nat) (k : Nat) (S : Sto), hgt f < k → hgt f ≤ 50 → callT T k 101 [enc f, .int h] S = .ok (.bl (decide (hgt f ≤ h))) S := by
  induction f with
  | any =>
    intro h k S hk h50
    obtain ⟨k, rfl⟩ : ∃ j, k = j + 1 := ⟨k - 1, by omega⟩
    rw [call_step]
    simp (decide := true) [runD, xEqE, sRetL, xCallF, mCallF, mCalkF, Form.enc, sSeq, sIf, sRet, sNx, sAsg, sEx, sRai, ↓mb, Res.bind, mp, M.of, mT, xIsi, mBor, mVar, isTy, mTruth, truth, mOr, mAnd, mIte, mNot, xCmp, cop, eqo_nn, eqo_nb, eqo_ni, eqo_ns, eqo_nt, eqo_nl, eqo_nd, eqo_bn, eqo_bb, eqo_bi, eqo_bs, eqo_bt, eqo_bl, eqo_bd, eqo_in, eqo_ib, eqo_ii, eqo_is, eqo_it, eqo_il, eqo_id, eqo_sn, eqo_sb, eqo_si, eqo_ss, eqo_st, eqo_sl, eqo_sd, eqo_tn, eqo_tb, eqo_ti, eqo_ts, eqo_te, eqo_tt, eqo_tl, eqo_td, eqo_ln, eqo_lb, eqo_li, eqo_ls, eqo_lt, eqo_ll, eqo_ld, eqo_dn, eqo_db, eqo_di, eqo_ds, eqo_dt, eqo_dl, eqo_dd, inOk, D.flat, xTup, aNil, aCons, mSet, plain_str, plain_tup, plain_int, plain_bl, plains_nil, plains_cons, eqb_str, eqb_int, eqb_bl, eqb_tup, eqbs_nil, eqbs_cn, eqbs_nc, eqbs_cc, eqb_nn, eqb_nb, eqb_ni, eqb_ns, eqb_nt, eqb_nl, eqb_nd, eqb_bn, eqb_bi, eqb_bs, eqb_bt, eqb_b_l, eqb_bd, eqb_in, eqb_ib, eqb_is, eqb_it, eqb_il, eqb_id, eqb_sn, eqb_sb, eqb_si, eqb_sl, eqb_sd, eqb_tn, eqb_tb, eqb_ti, eqb_tl, eqb_td, eqb_ln, eqb_lb, eqb_li, eqb_ls, eqb_lt, eqb_ll, eqb_ld, eqb_dn, eqb_db, eqb_di, eqb_ds, eqb_dt, eqb_dl, eqb_dd, plain_non, plain_lst, plain_dic, eqb_st, eqb_ts, xLen, bip, xIdx, mIdx, index, mItems, mList, xCall, pp_call, xBin, bop_ai, bop_as, bop_at, bop_al, bop_si, bop_mi, bop_ml, bop_mt, bop_ms, bop_mo, bop_fd, bop_pw, SZ, mSlc, mPart, slice, gUnp, gCon, gEnd, mLst, gUnpT, fListT, mSt, M.bad, mChn, sFor, loopM, xBi, xFz, fLst, mCalk, srcOf, isn_n, isn_b, isn_i, isn_s, isn_t, isn_l, isn_d, isn_r, isn_enc, fAdd, fMul, fList, asLst, sOwn, mOwn, sApp, mOwnHere, mApp, gStar, dget, atI, fComp, noX, Res.noX, mWipe, cmpR, wipeE, blsOf, intsOf, txtsOf, cut, sIx, mZs, zsOf, zipD, mZip, zipOf, mRng1, mRng2, rngD, mCount, mIndexL, mMt, tyIs, mtp, findD, sTryAs, mIsE, noEx, sPar, sPar3, xRev, revD, sTry, reps, xNeg, negD, xDix, xDgt, mPop, mPopAt, mExt, sExt, xMth, mMth, xMak, mMak, xFld, mFld, insOf, fget, fput, sFst, mFpt, sFag, prmc, b_101, hgt]
  | num =>
    intro h k S hk h50
    obtain ⟨k, rfl⟩ : ∃ j, k = j + 1 := ⟨k - 1, by omega⟩
    rw [call_step]
    simp (decide := true) [runD, xEqE, sRetL, xCallF, mCallF, mCalkF, Form.enc, sSeq, sIf, sRet, sNx, sAsg, sEx, sRai, ↓mb, Res.bind, mp, M.of, mT, xIsi, mBor, mVar, isTy, mTruth, truth, mOr, mAnd, mIte, mNot, xCmp, cop, eqo_nn, eqo_nb, eqo_ni, eqo_ns, eqo_nt, eqo_nl, eqo_nd, eqo_bn, eqo_bb, eqo_bi, eqo_bs, eqo_bt, eqo_bl, eqo_bd, eqo_in, eqo_ib, eqo_ii, eqo_is, eqo_it, eqo_il, eqo_id, eqo_sn, eqo_sb, eqo_si, eqo_ss, eqo_st, eqo_sl, eqo_sd, eqo_tn, eqo_tb, eqo_ti, eqo_ts, eqo_te, eqo_tt, eqo_tl, eqo_td, eqo_ln, eqo_lb, eqo_li, eqo_ls, eqo_lt, eqo_ll, eqo_ld, eqo_dn, eqo_db, eqo_di, eqo_ds, eqo_dt, eqo_dl, eqo_dd, inOk, D.flat, xTup, aNil, aCons, mSet, plain_str, plain_tup, plain_int, plain_bl, plains_nil, plains_cons, eqb_str, eqb_int, eqb_bl, eqb_tup, eqbs_nil, eqbs_cn, eqbs_nc, eqbs_cc, eqb_nn, eqb_nb, eqb_ni, eqb_ns, eqb_nt, eqb_nl, eqb_nd, eqb_bn, eqb_bi, eqb_bs, eqb_bt, eqb_b_l, eqb_bd, eqb_in, eqb_ib, eqb_is, eqb_it, eqb_il, eqb_id, eqb_sn, eqb_sb, eqb_si, eqb_sl, eqb_sd, eqb_tn, eqb_tb, eqb_ti, eqb_tl, eqb_td, eqb_ln, eqb_lb, eqb_li, eqb_ls, eqb_lt, eqb_ll, eqb_ld, eqb_dn, eqb_db, eqb_di, eqb_ds, eqb_dt, eqb_dl, eqb_dd, plain_non, plain_lst, plain_dic, eqb_st, eqb_ts, xLen, bip, xIdx, mIdx, index, mItems, mList, xCall, pp_call, xBin, bop_ai, bop_as, bop_at, bop_al, bop_si, bop_mi, bop_ml, bop_mt, bop_ms, bop_mo, bop_fd, bop_pw, SZ, mSlc, mPart, slice, gUnp, gCon, gEnd, mLst, gUnpT, fListT, mSt, M.bad, mChn, sFor, loopM, xBi, xFz, fLst, mCalk, srcOf, isn_n, isn_b, isn_i, isn_s, isn_t, isn_l, isn_d, isn_r, isn_enc, fAdd, fMul, fList, asLst, sOwn, mOwn, sApp, mOwnHere, mApp, gStar, dget, atI, fComp, noX, Res.noX, mWipe, cmpR, wipeE, blsOf, intsOf, txtsOf, cut, sIx, mZs, zsOf, zipD, mZip, zipOf, mRng1, mRng2, rngD, mCount, mIndexL, mMt, tyIs, mtp, findD, sTryAs, mIsE, noEx, sPar, sPar3, xRev, revD, sTry, reps, xNeg, negD, xDix, xDgt, mPop, mPopAt, mExt, sExt, xMth, mMth, xMak, mMak, xFld, mFld, insOf, fget, fput, sFst, mFpt, sFag, prmc, b_101, hgt]
  | text =>
    intro h k S hk h50
    obtain ⟨k, rfl⟩ : ∃ j, k = j + 1 := ⟨k - 1, by omega⟩
    rw [call_step]
    simp (decide := true) [runD, xEqE, sRetL, xCallF, mCallF, mCalkF, Form.enc, sSeq, sIf, sRet, sNx, sAsg, sEx, sRai, ↓mb, Res.bind, mp, M.of, mT, xIsi, mBor, mVar, isTy, mTruth, truth, mOr, mAnd, mIte, mNot, xCmp, cop, eqo_nn, eqo_nb, eqo_ni, eqo_ns, eqo_nt, eqo_nl, eqo_nd, eqo_bn, eqo_bb, eqo_bi, eqo_bs, eqo_bt, eqo_bl, eqo_bd, eqo_in, eqo_ib, eqo_ii, eqo_is, eqo_it, eqo_il, eqo_id, eqo_sn, eqo_sb, eqo_si, eqo_ss, eqo_st, eqo_sl, eqo_sd, eqo_tn, eqo_tb, eqo_ti, eqo_ts, eqo_te, eqo_tt, eqo_tl, eqo_td, eqo_ln, eqo_lb, eqo_li, eqo_ls, eqo_lt, eqo_ll, eqo_ld, eqo_dn, eqo_db, eqo_di, eqo_ds, eqo_dt, eqo_dl, eqo_dd, inOk, D.flat, xTup, aNil, aCons, mSet, plain_str, plain_tup, plain_int, plain_bl, plains_nil, plains_cons, eqb_str, eqb_int, eqb_bl, eqb_tup, eqbs_nil, eqbs_cn, eqbs_nc, eqbs_cc, eqb_nn, eqb_nb, eqb_ni, eqb_ns, eqb_nt, eqb_nl, eqb_nd, eqb_bn, eqb_bi, eqb_bs, eqb_bt, eqb_b_l, eqb_bd, eqb_in, eqb_ib, eqb_is, eqb_it, eqb_il, eqb_id, eqb_sn, eqb_sb, eqb_si, eqb_sl, eqb_sd, eqb_tn, eqb_tb, eqb_ti, eqb_tl, eqb_td, eqb_ln, eqb_lb, eqb_li, eqb_ls, eqb_lt, eqb_ll, eqb_ld, eqb_dn, eqb_db, eqb_di, eqb_ds, eqb_dt, eqb_dl, eqb_dd, plain_non, plain_lst, plain_dic, eqb_st, eqb_ts, xLen, bip, xIdx, mIdx, index, mItems, mList, xCall, pp_call, xBin, bop_ai, bop_as, bop_at, bop_al, bop_si, bop_mi, bop_ml, bop_mt, bop_ms, bop_mo, bop_fd, bop_pw, SZ, mSlc, mPart, slice, gUnp, gCon, gEnd, mLst, gUnpT, fListT, mSt, M.bad, mChn, sFor, loopM, xBi, xFz, fLst, mCalk, srcOf, isn_n, isn_b, isn_i, isn_s, isn_t, isn_l, isn_d, isn_r, isn_enc, fAdd, fMul, fList, asLst, sOwn, mOwn, sApp, mOwnHere, mApp, gStar, dget, atI, fComp, noX, Res.noX, mWipe, cmpR, wipeE, blsOf, intsOf, txtsOf, cut, sIx, mZs, zsOf, zipD, mZip, zipOf, mRng1, mRng2, rngD, mCount, mIndexL, mMt, tyIs, mtp, findD, sTryAs, mIsE, noEx, sPar, sPar3, xRev, revD, sTry, reps, xNeg, negD, xDix, xDgt, mPop, mPopAt, mExt, sExt, xMth, mMth, xMak, mMak, xFld, mFld, insOf, fget, fput, sFst, mFpt, sFag, prmc, b_101, hgt]
  | deed a b iha ihb =>
    intro h k S hk h50
    obtain ⟨k, rfl⟩ : ∃ j, k = j + 1 := ⟨k - 1, by omega⟩
    rw [call_step]
    have hp := plain_deed 60 a b (by omega)
    simp only [hgt] at hk h50
    cases h with
    | zero =>
      have hn : ¬ (1 + max (hgt a) (hgt b) ≤ 0) := by omega
      simp (decide := true) [runD, xEqE, sRetL, xCallF, mCallF, mCalkF, Form.enc, sSeq, sIf, sRet, sNx, sAsg, sEx, sRai, ↓mb, Res.bind, mp, M.of, mT, xIsi, mBor, mVar, isTy, mTruth, truth, mOr, mAnd, mIte, mNot, xCmp, cop, eqo_nn, eqo_nb, eqo_ni, eqo_ns, eqo_nt, eqo_nl, eqo_nd, eqo_bn, eqo_bb, eqo_bi, eqo_bs, eqo_bt, eqo_bl, eqo_bd, eqo_in, eqo_ib, eqo_ii, eqo_is, eqo_it, eqo_il, eqo_id, eqo_sn, eqo_sb, eqo_si, eqo_ss, eqo_st, eqo_sl, eqo_sd, eqo_tn, eqo_tb, eqo_ti, eqo_ts, eqo_te, eqo_tt, eqo_tl, eqo_td, eqo_ln, eqo_lb, eqo_li, eqo_ls, eqo_lt, eqo_ll, eqo_ld, eqo_dn, eqo_db, eqo_di, eqo_ds, eqo_dt, eqo_dl, eqo_dd, inOk, D.flat, xTup, aNil, aCons, mSet, plain_str, plain_tup, plain_int, plain_bl, plains_nil, plains_cons, eqb_str, eqb_int, eqb_bl, eqb_tup, eqbs_nil, eqbs_cn, eqbs_nc, eqbs_cc, eqb_nn, eqb_nb, eqb_ni, eqb_ns, eqb_nt, eqb_nl, eqb_nd, eqb_bn, eqb_bi, eqb_bs, eqb_bt, eqb_b_l, eqb_bd, eqb_in, eqb_ib, eqb_is, eqb_it, eqb_il, eqb_id, eqb_sn, eqb_sb, eqb_si, eqb_sl, eqb_sd, eqb_tn, eqb_tb, eqb_ti, eqb_tl, eqb_td, eqb_ln, eqb_lb, eqb_li, eqb_ls, eqb_lt, eqb_ll, eqb_ld, eqb_dn, eqb_db, eqb_di, eqb_ds, eqb_dt, eqb_dl, eqb_dd, plain_non, plain_lst, plain_dic, eqb_st, eqb_ts, xLen, bip, xIdx, mIdx, index, mItems, mList, xCall, pp_call, xBin, bop_ai, bop_as, bop_at, bop_al, bop_si, bop_mi, bop_ml, bop_mt, bop_ms, bop_mo, bop_fd, bop_pw, SZ, mSlc, mPart, slice, gUnp, gCon, gEnd, mLst, gUnpT, fListT, mSt, M.bad, mChn, sFor, loopM, xBi, xFz, fLst, mCalk, srcOf, isn_n, isn_b, isn_i, isn_s, isn_t, isn_l, isn_d, isn_r, isn_enc, fAdd, fMul, fList, asLst, sOwn, mOwn, sApp, mOwnHere, mApp, gStar, dget, atI, fComp, noX, Res.noX, mWipe, cmpR, wipeE, blsOf, intsOf, txtsOf, cut, sIx, mZs, zsOf, zipD, mZip, zipOf, mRng1, mRng2, rngD, mCount, mIndexL, mMt, tyIs, mtp, findD, sTryAs, mIsE, noEx, sPar, sPar3, xRev, revD, sTry, reps, xNeg, negD, xDix, xDgt, mPop, mPopAt, mExt, sExt, xMth, mMth, xMak, mMak, xFld, mFld, insOf, fget, fput, sFst, mFpt, sFag, prmc, b_101, hgt, hp, hn]
    | succ h =>
      have ea := iha h k S (by omega) (by omega)
      have eb := ihb h k S (by omega) (by omega)
      have e1 : (h : Int) + 1 - 1 = (h : Int) := by omega
      have hz : ¬ ((h : Int) + 1 = 0) := by omega
      simp (decide := true) [runD, xEqE, sRetL, xCallF, mCallF, mCalkF, Form.enc, sSeq, sIf, sRet, sNx, sAsg, sEx, sRai, ↓mb, Res.bind, mp, M.of, mT, xIsi, mBor, mVar, isTy, mTruth, truth, mOr, mAnd, mIte, mNot, xCmp, cop, eqo_nn, eqo_nb, eqo_ni, eqo_ns, eqo_nt, eqo_nl, eqo_nd, eqo_bn, eqo_bb, eqo_bi, eqo_bs, eqo_bt, eqo_bl, eqo_bd, eqo_in, eqo_ib, eqo_ii, eqo_is, eqo_it, eqo_il, eqo_id, eqo_sn, eqo_sb, eqo_si, eqo_ss, eqo_st, eqo_sl, eqo_sd, eqo_tn, eqo_tb, eqo_ti, eqo_ts, eqo_te, eqo_tt, eqo_tl, eqo_td, eqo_ln, eqo_lb, eqo_li, eqo_ls, eqo_lt, eqo_ll, eqo_ld, eqo_dn, eqo_db, eqo_di, eqo_ds, eqo_dt, eqo_dl, eqo_dd, inOk, D.flat, xTup, aNil, aCons, mSet, plain_str, plain_tup, plain_int, plain_bl, plains_nil, plains_cons, eqb_str, eqb_int, eqb_bl, eqb_tup, eqbs_nil, eqbs_cn, eqbs_nc, eqbs_cc, eqb_nn, eqb_nb, eqb_ni, eqb_ns, eqb_nt, eqb_nl, eqb_nd, eqb_bn, eqb_bi, eqb_bs, eqb_bt, eqb_b_l, eqb_bd, eqb_in, eqb_ib, eqb_is, eqb_it, eqb_il, eqb_id, eqb_sn, eqb_sb, eqb_si, eqb_sl, eqb_sd, eqb_tn, eqb_tb, eqb_ti, eqb_tl, eqb_td, eqb_ln, eqb_lb, eqb_li, eqb_ls, eqb_lt, eqb_ll, eqb_ld, eqb_dn, eqb_db, eqb_di, eqb_ds, eqb_dt, eqb_dl, eqb_dd, plain_non, plain_lst, plain_dic, eqb_st, eqb_ts, xLen, bip, xIdx, mIdx, index, mItems, mList, xCall, pp_call, xBin, bop_ai, bop_as, bop_at, bop_al, bop_si, bop_mi, bop_ml, bop_mt, bop_ms, bop_mo, bop_fd, bop_pw, SZ, mSlc, mPart, slice, gUnp, gCon, gEnd, mLst, gUnpT, fListT, mSt, M.bad, mChn, sFor, loopM, xBi, xFz, fLst, mCalk, srcOf, isn_n, isn_b, isn_i, isn_s, isn_t, isn_l, isn_d, isn_r, isn_enc, fAdd, fMul, fList, asLst, sOwn, mOwn, sApp, mOwnHere, mApp, gStar, dget, atI, fComp, noX, Res.noX, mWipe, cmpR, wipeE, blsOf, intsOf, txtsOf, cut, sIx, mZs, zsOf, zipD, mZip, zipOf, mRng1, mRng2, rngD, mCount, mIndexL, mMt, tyIs, mtp, findD, sTryAs, mIsE, noEx, sPar, sPar3, xRev, revD, sTry, reps, xNeg, negD, xDix, xDgt, mPop, mPopAt, mExt, sExt, xMth, mMth, xMak, mMak, xFld, mFld, insOf, fget, fput, sFst, mFpt, sFag, prmc, b_101, hgt, hp, hz, e1, ea, eb]
      rw [← Bool.decide_and]
      exact decide_eq_decide.mpr (by omega)
  | box a iha =>
    intro h k S hk h50
    obtain ⟨k, rfl⟩ : ∃ j, k = j + 1 := ⟨k - 1, by omega⟩
    rw [call_step]
    have hp := plain_box 60 a (by omega)
    simp only [hgt] at hk h50
    cases h with
    | zero =>
      have hn : ¬ (1 + hgt a ≤ 0) := by omega
      simp (decide := true) [runD, xEqE, sRetL, xCallF, mCallF, mCalkF, Form.enc, sSeq, sIf, sRet, sNx, sAsg, sEx, sRai, ↓mb, Res.bind, mp, M.of, mT, xIsi, mBor, mVar, isTy, mTruth, truth, mOr, mAnd, mIte, mNot, xCmp, cop, eqo_nn, eqo_nb, eqo_ni, eqo_ns, eqo_nt, eqo_nl, eqo_nd, eqo_bn, eqo_bb, eqo_bi, eqo_bs, eqo_bt, eqo_bl, eqo_bd, eqo_in, eqo_ib, eqo_ii, eqo_is, eqo_it, eqo_il, eqo_id, eqo_sn, eqo_sb, eqo_si, eqo_ss, eqo_st, eqo_sl, eqo_sd, eqo_tn, eqo_tb, eqo_ti, eqo_ts, eqo_te, eqo_tt, eqo_tl, eqo_td, eqo_ln, eqo_lb, eqo_li, eqo_ls, eqo_lt, eqo_ll, eqo_ld, eqo_dn, eqo_db, eqo_di, eqo_ds, eqo_dt, eqo_dl, eqo_dd, inOk, D.flat, xTup, aNil, aCons, mSet, plain_str, plain_tup, plain_int, plain_bl, plains_nil, plains_cons, eqb_str, eqb_int, eqb_bl, eqb_tup, eqbs_nil, eqbs_cn, eqbs_nc, eqbs_cc, eqb_nn, eqb_nb, eqb_ni, eqb_ns, eqb_nt, eqb_nl, eqb_nd, eqb_bn, eqb_bi, eqb_bs, eqb_bt, eqb_b_l, eqb_bd, eqb_in, eqb_ib, eqb_is, eqb_it, eqb_il, eqb_id, eqb_sn, eqb_sb, eqb_si, eqb_sl, eqb_sd, eqb_tn, eqb_tb, eqb_ti, eqb_tl, eqb_td, eqb_ln, eqb_lb, eqb_li, eqb_ls, eqb_lt, eqb_ll, eqb_ld, eqb_dn, eqb_db, eqb_di, eqb_ds, eqb_dt, eqb_dl, eqb_dd, plain_non, plain_lst, plain_dic, eqb_st, eqb_ts, xLen, bip, xIdx, mIdx, index, mItems, mList, xCall, pp_call, xBin, bop_ai, bop_as, bop_at, bop_al, bop_si, bop_mi, bop_ml, bop_mt, bop_ms, bop_mo, bop_fd, bop_pw, SZ, mSlc, mPart, slice, gUnp, gCon, gEnd, mLst, gUnpT, fListT, mSt, M.bad, mChn, sFor, loopM, xBi, xFz, fLst, mCalk, srcOf, isn_n, isn_b, isn_i, isn_s, isn_t, isn_l, isn_d, isn_r, isn_enc, fAdd, fMul, fList, asLst, sOwn, mOwn, sApp, mOwnHere, mApp, gStar, dget, atI, fComp, noX, Res.noX, mWipe, cmpR, wipeE, blsOf, intsOf, txtsOf, cut, sIx, mZs, zsOf, zipD, mZip, zipOf, mRng1, mRng2, rngD, mCount, mIndexL, mMt, tyIs, mtp, findD, sTryAs, mIsE, noEx, sPar, sPar3, xRev, revD, sTry, reps, xNeg, negD, xDix, xDgt, mPop, mPopAt, mExt, sExt, xMth, mMth, xMak, mMak, xFld, mFld, insOf, fget, fput, sFst, mFpt, sFag, prmc, b_101, hgt, hp, hn]
    | succ h =>
      have ea := iha h k S (by omega) (by omega)
      have e1 : (h : Int) + 1 - 1 = (h : Int) := by omega
      have hz : ¬ ((h : Int) + 1 = 0) := by omega
      simp (decide := true) [runD, xEqE, sRetL, xCallF, mCallF, mCalkF, Form.enc, sSeq, sIf, sRet, sNx, sAsg, sEx, sRai, ↓mb, Res.bind, mp, M.of, mT, xIsi, mBor, mVar, isTy, mTruth, truth, mOr, mAnd, mIte, mNot, xCmp, cop, eqo_nn, eqo_nb, eqo_ni, eqo_ns, eqo_nt, eqo_nl, eqo_nd, eqo_bn, eqo_bb, eqo_bi, eqo_bs, eqo_bt, eqo_bl, eqo_bd, eqo_in, eqo_ib, eqo_ii, eqo_is, eqo_it, eqo_il, eqo_id, eqo_sn, eqo_sb, eqo_si, eqo_ss, eqo_st, eqo_sl, eqo_sd, eqo_tn, eqo_tb, eqo_ti, eqo_ts, eqo_te, eqo_tt, eqo_tl, eqo_td, eqo_ln, eqo_lb, eqo_li, eqo_ls, eqo_lt, eqo_ll, eqo_ld, eqo_dn, eqo_db, eqo_di, eqo_ds, eqo_dt, eqo_dl, eqo_dd, inOk, D.flat, xTup, aNil, aCons, mSet, plain_str, plain_tup, plain_int, plain_bl, plains_nil, plains_cons, eqb_str, eqb_int, eqb_bl, eqb_tup, eqbs_nil, eqbs_cn, eqbs_nc, eqbs_cc, eqb_nn, eqb_nb, eqb_ni, eqb_ns, eqb_nt, eqb_nl, eqb_nd, eqb_bn, eqb_bi, eqb_bs, eqb_bt, eqb_b_l, eqb_bd, eqb_in, eqb_ib, eqb_is, eqb_it, eqb_il, eqb_id, eqb_sn, eqb_sb, eqb_si, eqb_sl, eqb_sd, eqb_tn, eqb_tb, eqb_ti, eqb_tl, eqb_td, eqb_ln, eqb_lb, eqb_li, eqb_ls, eqb_lt, eqb_ll, eqb_ld, eqb_dn, eqb_db, eqb_di, eqb_ds, eqb_dt, eqb_dl, eqb_dd, plain_non, plain_lst, plain_dic, eqb_st, eqb_ts, xLen, bip, xIdx, mIdx, index, mItems, mList, xCall, pp_call, xBin, bop_ai, bop_as, bop_at, bop_al, bop_si, bop_mi, bop_ml, bop_mt, bop_ms, bop_mo, bop_fd, bop_pw, SZ, mSlc, mPart, slice, gUnp, gCon, gEnd, mLst, gUnpT, fListT, mSt, M.bad, mChn, sFor, loopM, xBi, xFz, fLst, mCalk, srcOf, isn_n, isn_b, isn_i, isn_s, isn_t, isn_l, isn_d, isn_r, isn_enc, fAdd, fMul, fList, asLst, sOwn, mOwn, sApp, mOwnHere, mApp, gStar, dget, atI, fComp, noX, Res.noX, mWipe, cmpR, wipeE, blsOf, intsOf, txtsOf, cut, sIx, mZs, zsOf, zipD, mZip, zipOf, mRng1, mRng2, rngD, mCount, mIndexL, mMt, tyIs, mtp, findD, sTryAs, mIsE, noEx, sPar, sPar3, xRev, revD, sTry, reps, xNeg, negD, xDix, xDgt, mPop, mPopAt, mExt, sExt, xMth, mMth, xMak, mMak, xFld, mFld, insOf, fget, fput, sFst, mFpt, sFag, prmc, b_101, hgt, hp, hz, e1, ea]
      first | omega | exact decide_eq_decide.mpr (by omega)
theorem is_form (T : Tb) [Fn T 101 fd_101] [Fn T 102 fd_102] (f : Form) (k : Nat) (S : Sto) (hk : hgt f + 1 < k) (h : hgt f ≤ 50) : callT T k 102 [enc f] S = .ok (.bl (decide (hgt f ≤ 5))) S := by
  obtain ⟨k, rfl⟩ : ∃ j, k = j + 1 := ⟨k - 1, by omega⟩
  rw [call_step]
  have e := is_form_to T f 5 k S (by omega) h
  have e' : callT T k 101 [enc f, .int 5] S = .ok (.bl (decide (hgt f ≤ 5))) S := e
  simp (decide := true) [runD, xEqE, sRetL, xCallF, mCallF, mCalkF, Form.enc, sSeq, sIf, sRet, sNx, sAsg, sEx, sRai, ↓mb, Res.bind, mp, M.of, mT, xIsi, mBor, mVar, isTy, mTruth, truth, mOr, mAnd, mIte, mNot, xCmp, cop, eqo_nn, eqo_nb, eqo_ni, eqo_ns, eqo_nt, eqo_nl, eqo_nd, eqo_bn, eqo_bb, eqo_bi, eqo_bs, eqo_bt, eqo_bl, eqo_bd, eqo_in, eqo_ib, eqo_ii, eqo_is, eqo_it, eqo_il, eqo_id, eqo_sn, eqo_sb, eqo_si, eqo_ss, eqo_st, eqo_sl, eqo_sd, eqo_tn, eqo_tb, eqo_ti, eqo_ts, eqo_te, eqo_tt, eqo_tl, eqo_td, eqo_ln, eqo_lb, eqo_li, eqo_ls, eqo_lt, eqo_ll, eqo_ld, eqo_dn, eqo_db, eqo_di, eqo_ds, eqo_dt, eqo_dl, eqo_dd, inOk, D.flat, xTup, aNil, aCons, mSet, plain_str, plain_tup, plain_int, plain_bl, plains_nil, plains_cons, eqb_str, eqb_int, eqb_bl, eqb_tup, eqbs_nil, eqbs_cn, eqbs_nc, eqbs_cc, eqb_nn, eqb_nb, eqb_ni, eqb_ns, eqb_nt, eqb_nl, eqb_nd, eqb_bn, eqb_bi, eqb_bs, eqb_bt, eqb_b_l, eqb_bd, eqb_in, eqb_ib, eqb_is, eqb_it, eqb_il, eqb_id, eqb_sn, eqb_sb, eqb_si, eqb_sl, eqb_sd, eqb_tn, eqb_tb, eqb_ti, eqb_tl, eqb_td, eqb_ln, eqb_lb, eqb_li, eqb_ls, eqb_lt, eqb_ll, eqb_ld, eqb_dn, eqb_db, eqb_di, eqb_ds, eqb_dt, eqb_dl, eqb_dd, plain_non, plain_lst, plain_dic, eqb_st, eqb_ts, xLen, bip, xIdx, mIdx, index, mItems, mList, xCall, pp_call, xBin, bop_ai, bop_as, bop_at, bop_al, bop_si, bop_mi, bop_ml, bop_mt, bop_ms, bop_mo, bop_fd, bop_pw, SZ, mSlc, mPart, slice, gUnp, gCon, gEnd, mLst, gUnpT, fListT, mSt, M.bad, mChn, sFor, loopM, xBi, xFz, fLst, mCalk, srcOf, isn_n, isn_b, isn_i, isn_s, isn_t, isn_l, isn_d, isn_r, isn_enc, fAdd, fMul, fList, asLst, sOwn, mOwn, sApp, mOwnHere, mApp, gStar, dget, atI, fComp, noX, Res.noX, mWipe, cmpR, wipeE, blsOf, intsOf, txtsOf, cut, sIx, mZs, zsOf, zipD, mZip, zipOf, mRng1, mRng2, rngD, mCount, mIndexL, mMt, tyIs, mtp, findD, sTryAs, mIsE, noEx, sPar, sPar3, xRev, revD, sTry, reps, xNeg, negD, xDix, xDgt, mPop, mPopAt, mExt, sExt, xMth, mMth, xMak, mMak, xFld, mFld, insOf, fget, fput, sFst, mFpt, sFag, prmc, b_102, e']
theorem want_form (T : Tb) [Fn T 101 fd_101] [Fn T 102 fd_102] [Fn T 104 fd_104] (f : Form) (k : Nat) (S : Sto) (hk : hgt f + 2 < k) (h : hgt f ≤ 5) : callT T k 104 [enc f] S = .ok .non S := by
  obtain ⟨k, rfl⟩ : ∃ j, k = j + 1 := ⟨k - 1, by omega⟩
  rw [call_step]
  have e := is_form T f k S (by omega) (by omega)
  simp (decide := true) [runD, xEqE, sRetL, xCallF, mCallF, mCalkF, Form.enc, sSeq, sIf, sRet, sNx, sAsg, sEx, sRai, ↓mb, Res.bind, mp, M.of, mT, xIsi, mBor, mVar, isTy, mTruth, truth, mOr, mAnd, mIte, mNot, xCmp, cop, eqo_nn, eqo_nb, eqo_ni, eqo_ns, eqo_nt, eqo_nl, eqo_nd, eqo_bn, eqo_bb, eqo_bi, eqo_bs, eqo_bt, eqo_bl, eqo_bd, eqo_in, eqo_ib, eqo_ii, eqo_is, eqo_it, eqo_il, eqo_id, eqo_sn, eqo_sb, eqo_si, eqo_ss, eqo_st, eqo_sl, eqo_sd, eqo_tn, eqo_tb, eqo_ti, eqo_ts, eqo_te, eqo_tt, eqo_tl, eqo_td, eqo_ln, eqo_lb, eqo_li, eqo_ls, eqo_lt, eqo_ll, eqo_ld, eqo_dn, eqo_db, eqo_di, eqo_ds, eqo_dt, eqo_dl, eqo_dd, inOk, D.flat, xTup, aNil, aCons, mSet, plain_str, plain_tup, plain_int, plain_bl, plains_nil, plains_cons, eqb_str, eqb_int, eqb_bl, eqb_tup, eqbs_nil, eqbs_cn, eqbs_nc, eqbs_cc, eqb_nn, eqb_nb, eqb_ni, eqb_ns, eqb_nt, eqb_nl, eqb_nd, eqb_bn, eqb_bi, eqb_bs, eqb_bt, eqb_b_l, eqb_bd, eqb_in, eqb_ib, eqb_is, eqb_it, eqb_il, eqb_id, eqb_sn, eqb_sb, eqb_si, eqb_sl, eqb_sd, eqb_tn, eqb_tb, eqb_ti, eqb_tl, eqb_td, eqb_ln, eqb_lb, eqb_li, eqb_ls, eqb_lt, eqb_ll, eqb_ld, eqb_dn, eqb_db, eqb_di, eqb_ds, eqb_dt, eqb_dl, eqb_dd, plain_non, plain_lst, plain_dic, eqb_st, eqb_ts, xLen, bip, xIdx, mIdx, index, mItems, mList, xCall, pp_call, xBin, bop_ai, bop_as, bop_at, bop_al, bop_si, bop_mi, bop_ml, bop_mt, bop_ms, bop_mo, bop_fd, bop_pw, SZ, mSlc, mPart, slice, gUnp, gCon, gEnd, mLst, gUnpT, fListT, mSt, M.bad, mChn, sFor, loopM, xBi, xFz, fLst, mCalk, srcOf, isn_n, isn_b, isn_i, isn_s, isn_t, isn_l, isn_d, isn_r, isn_enc, fAdd, fMul, fList, asLst, sOwn, mOwn, sApp, mOwnHere, mApp, gStar, dget, atI, fComp, noX, Res.noX, mWipe, cmpR, wipeE, blsOf, intsOf, txtsOf, cut, sIx, mZs, zsOf, zipD, mZip, zipOf, mRng1, mRng2, rngD, mCount, mIndexL, mMt, tyIs, mtp, findD, sTryAs, mIsE, noEx, sPar, sPar3, xRev, revD, sTry, reps, xNeg, negD, xDix, xDgt, mPop, mPopAt, mExt, sExt, xMth, mMth, xMak, mMak, xFld, mFld, insOf, fget, fput, sFst, mFpt, sFag, prmc, b_104, e, h]
namespace Form
def near : Form → Form → Bool
  | any, _ => true
  | _, any => true
  | num, num => true
  | text, text => true
  | deed a b, deed c d => near a c && near b d
  | box a, box c => near a c
  | _, _ => false
def loose : Form → Form → Bool
  | any, _ => true
  | num, num => true
  | text, text => true
  | deed a b, deed c d => loose a c && loose b d
  | box a, box c => loose a c
  | _, _ => false
end Form
open Form
theorem want_forms (T : Tb) [Fn T 101 fd_101] [Fn T 102 fd_102] [Fn T 104 fd_104] (f : Form) (k : Nat) (S : Sto) (hk : 10 < k) (h : hgt f ≤ 5) : callT T k 104 [enc f] S = .ok .non S := want_form T f k S (by omega) h
end Ev
set_option Elab.async false
set_option linter.all false
set_option autoImplicit false
set_option maxRecDepth 100000
set_option maxHeartbeats 4000000
local macro_rules | `(tactic| simp! [$ls,*]) => `(tactic| simp (decide := true) [Ev.runD, Ev.xEqE, Ev.sRetL, Ev.xCallF, Ev.mCallF, Ev.mCalkF, Ev.Form.enc, Ev.sSeq, Ev.sIf, Ev.sRet, Ev.sNx, Ev.sAsg, Ev.sEx, Ev.sRai, ↓Ev.mb, Ev.Res.bind, Ev.mp, Ev.M.of, Ev.mT, Ev.xIsi, Ev.mBor, Ev.mVar, Ev.isTy, Ev.mTruth, Ev.truth, Ev.mOr, Ev.mAnd, Ev.mIte, Ev.mNot, Ev.xCmp, Ev.cop, Ev.eqo_nn, Ev.eqo_nb, Ev.eqo_ni, Ev.eqo_ns, Ev.eqo_nt, Ev.eqo_nl, Ev.eqo_nd, Ev.eqo_bn, Ev.eqo_bb, Ev.eqo_bi, Ev.eqo_bs, Ev.eqo_bt, Ev.eqo_bl, Ev.eqo_bd, Ev.eqo_in, Ev.eqo_ib, Ev.eqo_ii, Ev.eqo_is, Ev.eqo_it, Ev.eqo_il, Ev.eqo_id, Ev.eqo_sn, Ev.eqo_sb, Ev.eqo_si, Ev.eqo_ss, Ev.eqo_st, Ev.eqo_sl, Ev.eqo_sd, Ev.eqo_tn, Ev.eqo_tb, Ev.eqo_ti, Ev.eqo_ts, Ev.eqo_te, Ev.eqo_tt, Ev.eqo_tl, Ev.eqo_td, Ev.eqo_ln, Ev.eqo_lb, Ev.eqo_li, Ev.eqo_ls, Ev.eqo_lt, Ev.eqo_ll, Ev.eqo_ld, Ev.eqo_dn, Ev.eqo_db, Ev.eqo_di, Ev.eqo_ds, Ev.eqo_dt, Ev.eqo_dl, Ev.eqo_dd, Ev.inOk, Ev.D.flat, Ev.xTup, Ev.aNil, Ev.aCons, Ev.mSet, Ev.plain_str, Ev.plain_tup, Ev.plain_int, Ev.plain_bl, Ev.plains_nil, Ev.plains_cons, Ev.eqb_str, Ev.eqb_int, Ev.eqb_bl, Ev.eqb_tup, Ev.eqbs_nil, Ev.eqbs_cn, Ev.eqbs_nc, Ev.eqbs_cc, Ev.eqb_nn, Ev.eqb_nb, Ev.eqb_ni, Ev.eqb_ns, Ev.eqb_nt, Ev.eqb_nl, Ev.eqb_nd, Ev.eqb_bn, Ev.eqb_bi, Ev.eqb_bs, Ev.eqb_bt, Ev.eqb_b_l, Ev.eqb_bd, Ev.eqb_in, Ev.eqb_ib, Ev.eqb_is, Ev.eqb_it, Ev.eqb_il, Ev.eqb_id, Ev.eqb_sn, Ev.eqb_sb, Ev.eqb_si, Ev.eqb_sl, Ev.eqb_sd, Ev.eqb_tn, Ev.eqb_tb, Ev.eqb_ti, Ev.eqb_tl, Ev.eqb_td, Ev.eqb_ln, Ev.eqb_lb, Ev.eqb_li, Ev.eqb_ls, Ev.eqb_lt, Ev.eqb_ll, Ev.eqb_ld, Ev.eqb_dn, Ev.eqb_db, Ev.eqb_di, Ev.eqb_ds, Ev.eqb_dt, Ev.eqb_dl, Ev.eqb_dd, Ev.plain_non, Ev.plain_lst, Ev.plain_dic, Ev.eqb_st, Ev.eqb_ts, Ev.xLen, Ev.bip, Ev.xIdx, Ev.mIdx, Ev.index, Ev.mItems, Ev.mList, Ev.xCall, Ev.pp_call, Ev.xBin, Ev.bop_ai, Ev.bop_as, Ev.bop_at, Ev.bop_al, Ev.bop_si, Ev.bop_mi, Ev.bop_ml, Ev.bop_mt, Ev.bop_ms, Ev.bop_mo, Ev.bop_fd, Ev.bop_pw, Ev.SZ, Ev.mSlc, Ev.mPart, Ev.slice, Ev.gUnp, Ev.gCon, Ev.gEnd, Ev.mLst, Ev.gUnpT, Ev.fListT, Ev.mSt, Ev.M.bad, Ev.mChn, Ev.sFor, Ev.loopM, Ev.xBi, Ev.xFz, Ev.fLst, Ev.mCalk, Ev.srcOf, Ev.isn_n, Ev.isn_b, Ev.isn_i, Ev.isn_s, Ev.isn_t, Ev.isn_l, Ev.isn_d, Ev.isn_r, Ev.isn_enc, Ev.fAdd, Ev.fMul, Ev.fList, Ev.asLst, Ev.sOwn, Ev.mOwn, Ev.sApp, Ev.mOwnHere, Ev.mApp, Ev.gStar, Ev.dget, Ev.atI, Ev.fComp, Ev.noX, Ev.Res.noX, Ev.mWipe, Ev.cmpR, Ev.wipeE, Ev.blsOf, Ev.intsOf, Ev.txtsOf, Ev.cut, Ev.sIx, Ev.mZs, Ev.zsOf, Ev.zipD, Ev.mZip, Ev.zipOf, Ev.mRng1, Ev.mRng2, Ev.rngD, Ev.mCount, Ev.mIndexL, Ev.mMt, Ev.tyIs, Ev.mtp, Ev.findD, Ev.sTryAs, Ev.mIsE, Ev.noEx, Ev.sPar, Ev.sPar3, Ev.xRev, Ev.revD, Ev.sTry, Ev.reps, Ev.xNeg, Ev.negD, Ev.xDix, Ev.xDgt, Ev.mPop, Ev.mPopAt, Ev.mExt, Ev.sExt, Ev.xMth, Ev.mMth, Ev.xMak, Ev.mMak, Ev.xFld, Ev.mFld, Ev.insOf, Ev.fget, Ev.fput, Ev.sFst, Ev.mFpt, Ev.sFag, Ev.prmc, $ls,*])
local macro_rules | `(tactic| simp_all! [$ls,*]) => `(tactic| simp (decide := true) [Ev.runD, Ev.xEqE, Ev.sRetL, Ev.xCallF, Ev.mCallF, Ev.mCalkF, Ev.Form.enc, Ev.sSeq, Ev.sIf, Ev.sRet, Ev.sNx, Ev.sAsg, Ev.sEx, Ev.sRai, ↓Ev.mb, Ev.Res.bind, Ev.mp, Ev.M.of, Ev.mT, Ev.xIsi, Ev.mBor, Ev.mVar, Ev.isTy, Ev.mTruth, Ev.truth, Ev.mOr, Ev.mAnd, Ev.mIte, Ev.mNot, Ev.xCmp, Ev.cop, Ev.eqo_nn, Ev.eqo_nb, Ev.eqo_ni, Ev.eqo_ns, Ev.eqo_nt, Ev.eqo_nl, Ev.eqo_nd, Ev.eqo_bn, Ev.eqo_bb, Ev.eqo_bi, Ev.eqo_bs, Ev.eqo_bt, Ev.eqo_bl, Ev.eqo_bd, Ev.eqo_in, Ev.eqo_ib, Ev.eqo_ii, Ev.eqo_is, Ev.eqo_it, Ev.eqo_il, Ev.eqo_id, Ev.eqo_sn, Ev.eqo_sb, Ev.eqo_si, Ev.eqo_ss, Ev.eqo_st, Ev.eqo_sl, Ev.eqo_sd, Ev.eqo_tn, Ev.eqo_tb, Ev.eqo_ti, Ev.eqo_ts, Ev.eqo_te, Ev.eqo_tt, Ev.eqo_tl, Ev.eqo_td, Ev.eqo_ln, Ev.eqo_lb, Ev.eqo_li, Ev.eqo_ls, Ev.eqo_lt, Ev.eqo_ll, Ev.eqo_ld, Ev.eqo_dn, Ev.eqo_db, Ev.eqo_di, Ev.eqo_ds, Ev.eqo_dt, Ev.eqo_dl, Ev.eqo_dd, Ev.inOk, Ev.D.flat, Ev.xTup, Ev.aNil, Ev.aCons, Ev.mSet, Ev.plain_str, Ev.plain_tup, Ev.plain_int, Ev.plain_bl, Ev.plains_nil, Ev.plains_cons, Ev.eqb_str, Ev.eqb_int, Ev.eqb_bl, Ev.eqb_tup, Ev.eqbs_nil, Ev.eqbs_cn, Ev.eqbs_nc, Ev.eqbs_cc, Ev.eqb_nn, Ev.eqb_nb, Ev.eqb_ni, Ev.eqb_ns, Ev.eqb_nt, Ev.eqb_nl, Ev.eqb_nd, Ev.eqb_bn, Ev.eqb_bi, Ev.eqb_bs, Ev.eqb_bt, Ev.eqb_b_l, Ev.eqb_bd, Ev.eqb_in, Ev.eqb_ib, Ev.eqb_is, Ev.eqb_it, Ev.eqb_il, Ev.eqb_id, Ev.eqb_sn, Ev.eqb_sb, Ev.eqb_si, Ev.eqb_sl, Ev.eqb_sd, Ev.eqb_tn, Ev.eqb_tb, Ev.eqb_ti, Ev.eqb_tl, Ev.eqb_td, Ev.eqb_ln, Ev.eqb_lb, Ev.eqb_li, Ev.eqb_ls, Ev.eqb_lt, Ev.eqb_ll, Ev.eqb_ld, Ev.eqb_dn, Ev.eqb_db, Ev.eqb_di, Ev.eqb_ds, Ev.eqb_dt, Ev.eqb_dl, Ev.eqb_dd, Ev.plain_non, Ev.plain_lst, Ev.plain_dic, Ev.eqb_st, Ev.eqb_ts, Ev.xLen, Ev.bip, Ev.xIdx, Ev.mIdx, Ev.index, Ev.mItems, Ev.mList, Ev.xCall, Ev.pp_call, Ev.xBin, Ev.bop_ai, Ev.bop_as, Ev.bop_at, Ev.bop_al, Ev.bop_si, Ev.bop_mi, Ev.bop_ml, Ev.bop_mt, Ev.bop_ms, Ev.bop_mo, Ev.bop_fd, Ev.bop_pw, Ev.SZ, Ev.mSlc, Ev.mPart, Ev.slice, Ev.gUnp, Ev.gCon, Ev.gEnd, Ev.mLst, Ev.gUnpT, Ev.fListT, Ev.mSt, Ev.M.bad, Ev.mChn, Ev.sFor, Ev.loopM, Ev.xBi, Ev.xFz, Ev.fLst, Ev.mCalk, Ev.srcOf, Ev.isn_n, Ev.isn_b, Ev.isn_i, Ev.isn_s, Ev.isn_t, Ev.isn_l, Ev.isn_d, Ev.isn_r, Ev.isn_enc, $ls,*])
namespace Ev
open PySem
namespace Form
def txt : Form → Txt
  | any => [97,110,121] | num => [110,117,109] | text => [116,101,120,116]
  | deed a b => 40 :: (txt a ++ 62 :: (txt b ++ [41]))
  | box a => 91 :: (txt a ++ [93])
theorem txt_len (f : Form) : (txt f).length + 3 ≤ 7 * 2 ^ hgt f := by
  induction f with
  | any => decide
  | num => decide
  | text => decide
  | deed a b iha ihb =>
    simp only [txt, hgt, List.length_cons, List.length_append, List.length_nil]
    have h1 : 2 ^ hgt a ≤ 2 ^ max (hgt a) (hgt b) := Nat.pow_le_pow_right (by decide) (Nat.le_max_left _ _)
    have h2 : 2 ^ hgt b ≤ 2 ^ max (hgt a) (hgt b) := Nat.pow_le_pow_right (by decide) (Nat.le_max_right _ _)
    have e : 2 ^ (1 + max (hgt a) (hgt b)) = 2 * 2 ^ max (hgt a) (hgt b) := by rw [Nat.add_comm, Nat.pow_succ, Nat.mul_comm]
    omega
  | box a iha =>
    simp only [txt, hgt, List.length_cons, List.length_append, List.length_nil]
    have e : 2 ^ (1 + hgt a) = 2 * 2 ^ hgt a := by rw [Nat.add_comm, Nat.pow_succ, Nat.mul_comm]
    have p : 1 ≤ 2 ^ hgt a := Nat.one_le_two_pow
    omega
theorem txt_small (f : Form) (h : hgt f ≤ 5) : (txt f).length ≤ 224 := by
  have h1 := txt_len f
  have h2 : 2 ^ hgt f ≤ 2 ^ 5 := Nat.pow_le_pow_right (by decide) h
  omega
end Form
open Form
theorem text_of_form (T : Tb) [Fn T 135 fd_135] (f : Form) : ∀ (k : Nat) (S : Sto), hgt f < k → hgt f ≤ 50 → (txt f).length ≤ 1000 → callT T k 135 [enc f] S = .ok (.str (txt f)) S := by
  induction f with
  | any =>
    intro k S hk h50 hl
    obtain ⟨k, rfl⟩ : ∃ j, k = j + 1 := ⟨k - 1, by omega⟩
    rw [call_step]
    simp! [b_135, txt]
  | num =>
    intro k S hk h50 hl
    obtain ⟨k, rfl⟩ : ∃ j, k = j + 1 := ⟨k - 1, by omega⟩
    rw [call_step]
    simp! [b_135, txt]
  | text =>
    intro k S hk h50 hl
    obtain ⟨k, rfl⟩ : ∃ j, k = j + 1 := ⟨k - 1, by omega⟩
    rw [call_step]
    simp! [b_135, txt]
  | deed a b iha ihb =>
    intro k S hk h50 hl
    obtain ⟨k, rfl⟩ : ∃ j, k = j + 1 := ⟨k - 1, by omega⟩
    rw [call_step]
    simp only [hgt] at hk h50
    simp only [txt, List.length_cons, List.length_append, List.length_nil] at hl
    have ea := iha k S (by omega) (by omega) (by omega)
    have eb := ihb k S (by omega) (by omega) (by omega)
    have l1 : (txt a).length + 1 + ((txt b).length + 1) ≤ 16777216 := by omega
    have l2 : (txt a).length + ((txt b).length + 1) ≤ 16777216 := by omega
    have l3 : (txt a).length + ((txt b).length + 1) + 1 ≤ 16777216 := by omega
    have l4 : 1 + ((txt a).length + ((txt b).length + 1)) ≤ 16777216 := by omega
    have l5 : 1 + ((txt a).length + ((txt b).length + 1)) + 1 ≤ 16777216 := by omega
    have l6 : (txt a).length + ((txt b).length + 1) ≤ 16777214 := by omega
    simp! [b_135, txt, ea, eb, mJoin, mFmt, mJoinT, mMt, tyIs, mtp, joinT, joinLen, l1, l2, l3, l4, l5, l6]
  | box a iha =>
    intro k S hk h50 hl
    obtain ⟨k, rfl⟩ : ∃ j, k = j + 1 := ⟨k - 1, by omega⟩
    rw [call_step]
    simp only [hgt] at hk h50
    simp only [txt, List.length_cons, List.length_append, List.length_nil] at hl
    have ea := iha k S (by omega) (by omega) (by omega)
    have l1 : (txt a).length ≤ 16777216 := by omega
    have l2 : 1 + (txt a).length ≤ 16777216 := by omega
    have l3 : 1 + (txt a).length + 1 ≤ 16777216 := by omega
    have l4 : (txt a).length + 1 ≤ 16777216 := by omega
    have l5 : (txt a).length + 1 + 1 ≤ 16777216 := by omega
    have l6 : (txt a).length ≤ 16777214 := by omega
    simp! [b_135, txt, ea, mJoin, mFmt, mJoinT, mMt, tyIs, mtp, joinT, joinLen, l1, l2, l3, l4, l5, l6]
theorem form_text (T : Tb) [Fn T 101 fd_101] [Fn T 102 fd_102] [Fn T 104 fd_104] [Fn T 135 fd_135] [Fn T 136 fd_136] (f : Form) (k : Nat) (S : Sto) (hk : 11 < k) (hf : hgt f ≤ 5) : callT T k 136 [enc f] S = .ok (.str (txt f)) S := by
  obtain ⟨k, rfl⟩ : ∃ j, k = j + 1 := ⟨k - 1, by omega⟩
  rw [call_step]
  have e1 := want_forms T f k S (by omega) hf
  have e2 := text_of_form T f k S (by omega) (by omega) (by have := txt_small f hf; omega)
  simp! [b_136, e1, e2]
end Ev
set_option Elab.async false
set_option linter.all false
set_option autoImplicit false
set_option maxRecDepth 100000
set_option maxHeartbeats 4000000
namespace Ev
open PySem
/-- how long a thing's repr is -/
def W (d : D) : Nat := (PyData.shown (toPy d)).length
def Ws : List D → Nat
  | [] => 0
  | d :: r => W d + 2 + Ws r
theorem piled_eq : ∀ ds : List D, piled (PyData.shownAll (toPys ds)) = Ws ds
  | [] => rfl
  | d :: r => by
    have ih := piled_eq r
    simp only [toPys, PyData.shownAll, Ws, W, piled_cons, ih]
theorem textFrom_le : ∀ (ts : List Str) (k : Nat) (acc : Str), (textFrom k acc ts).length ≤ acc.length + piled ts
  | [], k, acc => by simp [textFrom, piled]
  | t :: ts, k, acc => by
    have ih := textFrom_le ts (k + 1) (acc ++ (if k > 0 then ", " else "" : String) ++ t)
    rw [strLen_append, strLen_append] at ih
    have e : (((if k > 0 then ", " else "" : String) : Str)).length ≤ 2 := by split <;> decide
    rw [piled_cons]
    show (textFrom (k + 1) _ ts).length ≤ _
    omega
theorem W_lst (xs : List D) : W (.lst xs) ≤ Ws xs + 2 := by
  have h := textFrom_le (PyData.shownAll (toPys xs)) 0 "["
  rw [piled_eq] at h
  show (textFrom 0 "[" (PyData.shownAll (toPys xs)) ++ ("]" : Str)).length ≤ _
  rw [strLen_append]
  have e1 : (("[" : Str)).length = 1 := rfl
  have e2 : (("]" : Str)).length = 1 := rfl
  omega
theorem W_tup (xs : List D) : W (.tup xs) ≤ Ws xs + 3 := by
  show (tupleText (PyData.shownAll (toPys xs))).length ≤ _
  unfold tupleText
  rw [strLen_append, strLen_append]
  have e1 : (("(" : Str)).length = 1 := rfl
  have e3 : (((if (PyData.shownAll (toPys xs)).length == 1 then ",)" else ")" : String) : Str)).length ≤ 2 := by split <;> decide
  rw [e1]
  by_cases h : PyData.shownAll (toPys xs) = []
  · rw [h]
    have : (Str.join ", " []).length = 0 := rfl
    rw [h] at e3
    omega
  · have := join_length_add _ h
    rw [piled_eq] at this
    omega
theorem W_str (x : Txt) (h : ∀ c ∈ x, c < 16 ^ 8) : W (.str x) ≤ 10 * x.length + 2 := by
  have := PySem.StrLaws.reprText_len (toStr x) (by simpa [toStr] using h)
  have e : (toStr x).length = x.length := by simp [toStr, Str.length]
  rw [e] at this
  exact this
def Sb (d : D) : Bool := PyData.showable (toPy d)
def Sbs : List D → Bool
  | [] => true
  | d :: r => Sb d && Sbs r
theorem sbs_eq : ∀ ds : List D, PyData.showableAll (toPys ds) = Sbs ds
  | [] => rfl
  | d :: r => by simp only [toPys, PyData.showableAll, Sbs, Sb, sbs_eq r]
theorem shown_some {d : D} (h1 : D.plain 60 d = true) (h2 : Sb d = true) (h3 : W d ≤ 16777216) : ∃ t, shownD d = some t := by
  unfold shownD
  have h2 : PyData.showable (toPy d) = true := h2
  have h3 : (PyData.shown (toPy d)).length ≤ SZ := h3
  rw [(plain_q 60 d h1).1, (plain_q 60 d h1).2, h2]
  simp [h3]
open Form
theorem W_enc (f : Form) : W (enc f) + 60 ≤ 110 * 2 ^ hgt f := by
  induction f with
  | any => have := W_str [97,110,121] (by decide); simp only [enc, hgt]; simp at this; omega
  | num => have := W_str [110,117,109] (by decide); simp only [enc, hgt]; simp at this; omega
  | text => have := W_str [116,101,120,116] (by decide); simp only [enc, hgt]; simp at this; omega
  | deed a b iha ihb =>
    have h := W_tup [.str [100,101,101,100], enc a, enc b]
    have hs := W_str [100,101,101,100] (by decide)
    have h1 : 2 ^ hgt a ≤ 2 ^ max (hgt a) (hgt b) := Nat.pow_le_pow_right (by decide) (Nat.le_max_left _ _)
    have h2 : 2 ^ hgt b ≤ 2 ^ max (hgt a) (hgt b) := Nat.pow_le_pow_right (by decide) (Nat.le_max_right _ _)
    have e : 2 ^ (1 + max (hgt a) (hgt b)) = 2 * 2 ^ max (hgt a) (hgt b) := by rw [Nat.add_comm, Nat.pow_succ, Nat.mul_comm]
    simp only [enc, hgt, Ws] at h ⊢
    simp at hs
    omega
  | box a iha =>
    have h := W_tup [.str [98,111,120], enc a]
    have hs := W_str [98,111,120] (by decide)
    have e : 2 ^ (1 + hgt a) = 2 * 2 ^ hgt a := by rw [Nat.add_comm, Nat.pow_succ, Nat.mul_comm]
    have p : 1 ≤ 2 ^ hgt a := Nat.one_le_two_pow
    simp only [enc, hgt, Ws] at h ⊢
    simp at hs
    omega
theorem W_small (f : Form) (h : hgt f ≤ 6) : W (enc f) ≤ 7040 := by
  have h1 := W_enc f
  have h2 : 2 ^ hgt f ≤ 2 ^ 6 := Nat.pow_le_pow_right (by decide) h
  omega
theorem Sb_enc (f : Form) : Sb (enc f) = true := by
  induction f with
  | any => rfl
  | num => rfl
  | text => rfl
  | deed a b iha ihb =>
    show PyData.showableAll (toPys [.str [100,101,101,100], enc a, enc b]) = true
    rw [sbs_eq]
    simp only [Sbs, iha, ihb]
    rfl
  | box a iha =>
    show PyData.showableAll (toPys [.str [98,111,120], enc a]) = true
    rw [sbs_eq]
    simp only [Sbs, iha]
    rfl
end Ev
set_option Elab.async false
set_option linter.all false
set_option autoImplicit false
set_option maxRecDepth 100000
set_option maxHeartbeats 4000000
namespace Ev
open PySem
open Form
/-- a pot's cell -/
def Pot (S : Sto) (n : Nat) : Prop := ∃ a b : Int, S[n]? = some (.lst [.int a, .int b]) ∧ 0 ≤ a
theorem pot_set {S : Sto} {n : Nat} (h : n < S.length) {a b : Int} (ha : 0 ≤ a) : Pot (S.set n (.lst [.int a, .int b])) n := ⟨a, b, by simp [h], ha⟩
theorem digit (T : Tb) [Fn T 113 fd_113] {S : Sto} {n : Nat} (h : Pot S n) (m : Nat) (hm : 0 < m) (hm2 : m ≤ 2 ^ 100) (k : Nat) (hk : 0 < k) :
    ∃ (d : Nat) (S' : Sto), callT T k 113 [.ref n, .int m] S = .ok (.int d) S' ∧ d < m ∧ Pot S' n ∧ S'.length = S.length := by
  obtain ⟨a, b, hS, ha⟩ := h
  have hn : n < S.length := (List.getElem?_eq_some_iff.mp hS).1
  obtain ⟨k, rfl⟩ : ∃ j, k = j + 1 := ⟨k - 1, by omega⟩
  rw [call_step]
  have hm0 : (0 : Int) < m := by omega
  have hset : ∀ x : Cell, (S.set n x)[n]? = some x := fun x => by rw [List.getElem?_set_self hn]
  by_cases hp : 0 < a
  · refine ⟨(a % m).toNat, S.set n (.lst [.int (a / m), .int b]), ?_, ?_, pot_set hn (Int.ediv_nonneg ha (by omega)), by simp⟩
    · have e : (((a % m).toNat : Nat) : Int) = a % m := Int.toNat_of_nonneg (Int.emod_nonneg _ (by omega))
      have l2 : m.log2 < 9000 := by
        have h1 : m.log2 < 101 := (Nat.log2_lt (by omega)).mpr (Nat.lt_of_le_of_lt hm2 (by decide))
        omega
      have l : (m : Int).natAbs.log2 < 9000 := by
        have : (m : Int).natAbs = m := by simp
        rw [this]
        exact l2
      rw [e]
      simp_all! [b_113, hS, hp, hm0, hm, l, l2, xBi, gPut, mPut, atI, hset]
    · have := Int.emod_lt_of_pos a hm0
      have := Int.emod_nonneg a (show (m : Int) ≠ 0 by omega)
      omega
  · have ha0 : a = 0 := by omega
    subst ha0
    generalize hb : (b * 48271 + 10037) % 2147483587 = b1
    have b1l : 0 ≤ b1 := by rw [← hb]; exact Int.emod_nonneg _ (by decide)
    have b1u : b1 < 2147483587 := by rw [← hb]; exact Int.emod_lt_of_pos _ (by decide)
    refine ⟨(b1 * b1 % 2147483563 / 5 % m).toNat, S.set n (.lst [.int 0, .int b1]), ?_, ?_, pot_set hn (by decide), by simp⟩
    · have e : (((b1 * b1 % 2147483563 / 5 % m).toNat : Nat) : Int) = b1 * b1 % 2147483563 / 5 % m := Int.toNat_of_nonneg (Int.emod_nonneg _ (by omega))
      have q1 : -18446744073709551616 < b1 := by omega
      have q2 : b1 < 18446744073709551616 := by omega
      rw [e]
      simp_all! [b_113, hS, hm0, hm, big64, gPut, mPut, atI, hset, hb, q1, q2]
    · have := Int.emod_lt_of_pos (b1 * b1 % 2147483563 / 5) hm0
      have := Int.emod_nonneg (b1 * b1 % 2147483563 / 5) (show (m : Int) ≠ 0 by omega)
      omega
theorem potRun (z : Int) (i : Nat) (hi : i ≤ 100) (S : Sto) (ρ : Env) (k : Nat) (r0 r1 : Option SV) :
    ∃ a b : Int, 0 ≤ a ∧ xCel (aCons (xBi .max2 (aCons (M.pure (.int 0)) (aCons (xBin .sub (xBi .abs (aCons (mVar 2) aNil)) (xBin .pow (M.pure (.int 10)) (M.pure (.int 18)))) aNil))) (aCons (xBin .add (xBin .mod (xBin .pow (xBin .add (xBin .add (xBin .mod (xBi .abs (aCons (mVar 2) aNil)) (M.pure (.int 2147483477))) (xBin .mul (M.pure (.int 101)) (mVar 1))) (M.pure (.int 3))) (M.pure (.int 2))) (M.pure (.int 2147483399))) (M.pure (.int 1))) aNil)) [r0, some (.fz (.int i)), some (.fz (.int z))] S =
      .ok (.ref S.length) [r0, some (.fz (.int i)), some (.fz (.int z))] (S ++ [.lst [.int a, .int b]]) := by
  generalize hA : (if z < 0 then -z else z) = A
  have hA0 : 0 ≤ A := by rw [← hA]; split <;> omega
  generalize hr : A % 2147483477 = r
  have r0' : 0 ≤ r := by rw [← hr]; exact Int.emod_nonneg _ (by decide)
  have r1' : r < 2147483477 := by rw [← hr]; exact Int.emod_lt_of_pos _ (by decide)
  have hb : (r + 101 * (i : Int) + 3).natAbs < 18446744073709551616 := by omega
  refine ⟨if A - 10 ^ 18 > 0 then A - 10 ^ 18 else 0, (r + 101 * (i : Int) + 3) ^ 2 % 2147483399 + 1, by split <;> omega, ?_⟩
  simp (decide := true) [xCel, mCell, runD, xEqE, sRetL, xCallF, mCallF, mCalkF, Form.enc, sSeq, sIf, sRet, sNx, sAsg, sEx, sRai, ↓mb, Res.bind, mp, M.of, mT, xIsi, mBor, mVar, isTy, mTruth, truth, mOr, mAnd, mIte, mNot, xCmp, cop, eqo_nn, eqo_nb, eqo_ni, eqo_ns, eqo_nt, eqo_nl, eqo_nd, eqo_bn, eqo_bb, eqo_bi, eqo_bs, eqo_bt, eqo_bl, eqo_bd, eqo_in, eqo_ib, eqo_ii, eqo_is, eqo_it, eqo_il, eqo_id, eqo_sn, eqo_sb, eqo_si, eqo_ss, eqo_st, eqo_sl, eqo_sd, eqo_tn, eqo_tb, eqo_ti, eqo_ts, eqo_te, eqo_tt, eqo_tl, eqo_td, eqo_ln, eqo_lb, eqo_li, eqo_ls, eqo_lt, eqo_ll, eqo_ld, eqo_dn, eqo_db, eqo_di, eqo_ds, eqo_dt, eqo_dl, eqo_dd, inOk, D.flat, xTup, aNil, aCons, mSet, plain_str, plain_tup, plain_int, plain_bl, plains_nil, plains_cons, eqb_str, eqb_int, eqb_bl, eqb_tup, eqbs_nil, eqbs_cn, eqbs_nc, eqbs_cc, eqb_nn, eqb_nb, eqb_ni, eqb_ns, eqb_nt, eqb_nl, eqb_nd, eqb_bn, eqb_bi, eqb_bs, eqb_bt, eqb_b_l, eqb_bd, eqb_in, eqb_ib, eqb_is, eqb_it, eqb_il, eqb_id, eqb_sn, eqb_sb, eqb_si, eqb_sl, eqb_sd, eqb_tn, eqb_tb, eqb_ti, eqb_tl, eqb_td, eqb_ln, eqb_lb, eqb_li, eqb_ls, eqb_lt, eqb_ll, eqb_ld, eqb_dn, eqb_db, eqb_di, eqb_ds, eqb_dt, eqb_dl, eqb_dd, plain_non, plain_lst, plain_dic, eqb_st, eqb_ts, xLen, bip, xIdx, mIdx, index, mItems, mList, xCall, pp_call, xBin, bop_ai, bop_as, bop_at, bop_al, bop_si, bop_mi, bop_ml, bop_mt, bop_ms, bop_mo, bop_fd, bop_pw, SZ, mSlc, mPart, slice, gUnp, gCon, gEnd, mLst, gUnpT, fListT, mSt, M.bad, mChn, sFor, loopM, xBi, xFz, fLst, mCalk, srcOf, isn_n, isn_b, isn_i, isn_s, isn_t, isn_l, isn_d, isn_r, isn_enc, xBi, big64, hA, hr, hb]
theorem pot (T : Tb) [Fn T 112 fd_112] (ns : List Int) (i : Nat) (hi : i ≤ 100) (k : Nat) (S : Sto) (hk : 0 < k) : ∃ S', callT T k 112 [.scr ns, .int i] S = .ok (.ref S.length) S' ∧ Pot S' S.length := by
  obtain ⟨k, rfl⟩ : ∃ j, k = j + 1 := ⟨k - 1, by omega⟩
  rw [call_step]
  have fin : ∀ a b : Int, 0 ≤ a → Pot (S ++ [.lst [.int a, .int b]]) S.length := fun a b h => ⟨a, b, by simp, h⟩
  by_cases h : (i : Int) < (ns.length : Int)
  · have hi2 : i < ns.length := by omega
    have ha : atI ns (i : Int) = some ns[i] := by
      unfold atI
      rw [if_pos (by omega)]
      simp [hi2]
    obtain ⟨a, b, p, e⟩ := potRun ns[i] i hi S [] k (some (.fz (.scr ns))) none
    refine ⟨_, ?_, fin a b p⟩
    have e1 : (mIte (xCmp .lt (mVar 1) (xLen (mBor 0))) (xIdx (mBor 0) (mVar 1)) (M.pure (.int 0))) [some (.fz (.scr ns)), some (.fz (.int i)), none] S = .ok (.int ns[i]) [some (.fz (.scr ns)), some (.fz (.int i)), none] S := by
      simp_all! [mIte, h, hi2, ha]
    simp only [runD, b_112, sSeq, sAsg, sRet, sNx, mb, e1, rb_ok, mSet, mp, List.map, List.length, List.replicate, List.append, List.set, List.cons_append, List.nil_append]
    simp [mb, mp, e]
  · have hi2 : ¬ i < ns.length := by omega
    obtain ⟨a, b, p, e⟩ := potRun 0 i hi S [] k (some (.fz (.scr ns))) none
    refine ⟨_, ?_, fin a b p⟩
    have e1 : (mIte (xCmp .lt (mVar 1) (xLen (mBor 0))) (xIdx (mBor 0) (mVar 1)) (M.pure (.int 0))) [some (.fz (.scr ns)), some (.fz (.int i)), none] S = .ok (.int 0) [some (.fz (.scr ns)), some (.fz (.int i)), none] S := by
      simp_all! [mIte, h, hi2]
    simp only [runD, b_112, sSeq, sAsg, sRet, sNx, mb, e1, rb_ok, mSet, mp, List.map, List.length, List.replicate, List.append, List.set, List.cons_append, List.nil_append]
    simp [mb, mp, e]
end Ev
set_option Elab.async false
set_option linter.all false
set_option autoImplicit false
set_option maxRecDepth 100000
set_option maxHeartbeats 4000000
namespace Ev
open PySem
open Form
theorem three {d : Nat} (h : d < 3) : d = 0 ∨ d = 1 ∨ d = 2 := by omega
theorem form_drawn (T : Tb) [Fn T 113 fd_113] [Fn T 114 fd_114] (h : Nat) : ∀ (S : Sto) (n k : Nat), Pot S n → h + 1 < k → ∃ (f : Form) (S' : Sto), callT T k 114 [.ref n, .int h] S = .ok (enc f) S' ∧ hgt f ≤ h ∧ Pot S' n ∧ S'.length = S.length := by
  have low : ∀ (h : Nat) (S : Sto) (n k : Nat) (d : Nat) (S1 : Sto), callT T k 113 [.ref n, .int 6] S = .ok (.int d) S1 → (h = 0 ∨ (d : Int) < 3) → Pot S1 n → 0 < k →
      ∃ (f : Form) (S' : Sto), runD (T.prm (callT T k)) fd_114 [.ref n, .int h] S = .ok (enc f) S' ∧ hgt f ≤ h ∧ Pot S' n ∧ S'.length = S1.length := by
    intro h S n k d S1 e1 hd p1 hk
    obtain ⟨d2, S2, e2, hd2, p2, l2⟩ := digit T p1 3 (by omega) (by omega) k hk
    have e2 : callT T k 113 [.ref n, .int 3] S1 = .ok (.int d2) S2 := e2
    have hz : ((h : Int) = 0) ↔ h = 0 := by omega
    by_cases h0 : h = 0
    · subst h0
      rcases three hd2 with rfl | rfl | rfl
      · exact ⟨any, S2, by simp_all! [b_114, e1, e2, atI], by simp [hgt], p2, l2⟩
      · exact ⟨num, S2, by simp_all! [b_114, e1, e2, atI], by simp [hgt], p2, l2⟩
      · exact ⟨text, S2, by simp_all! [b_114, e1, e2, atI], by simp [hgt], p2, l2⟩
    · have h3 : (d : Int) < 3 := by omega
      rcases three hd2 with rfl | rfl | rfl
      · exact ⟨any, S2, by simp_all! [b_114, e1, e2, atI, h0, h3], by simp [hgt], p2, l2⟩
      · exact ⟨num, S2, by simp_all! [b_114, e1, e2, atI, h0, h3], by simp [hgt], p2, l2⟩
      · exact ⟨text, S2, by simp_all! [b_114, e1, e2, atI, h0, h3], by simp [hgt], p2, l2⟩
  induction h with
  | zero =>
    intro S n k hp hk
    obtain ⟨k, rfl⟩ : ∃ j, k = j + 1 := ⟨k - 1, by omega⟩
    rw [call_step]
    obtain ⟨d, S1, e1, hd, p1, l1⟩ := digit T hp 6 (by omega) (by omega) k (by omega)
    obtain ⟨f, S2, q⟩ := low 0 S n k d S1 e1 (.inl rfl) p1 (by omega)
    exact ⟨f, S2, q.1, q.2.1, q.2.2.1, q.2.2.2.trans l1⟩
  | succ h ih =>
    intro S n k hp hk
    obtain ⟨k, rfl⟩ : ∃ j, k = j + 1 := ⟨k - 1, by omega⟩
    rw [call_step]
    obtain ⟨d, S1, e1, hd, p1, l1⟩ := digit T hp 6 (by omega) (by omega) k (by omega)
    by_cases h3 : (d : Int) < 3
    · obtain ⟨f, S2, q⟩ := low (h + 1) S n k d S1 e1 (.inr h3) p1 (by omega)
      exact ⟨f, S2, q.1, q.2.1, q.2.2.1, q.2.2.2.trans l1⟩
    · have e1 : callT T k 113 [.ref n, .int 6] S = .ok (.int d) S1 := e1
      have hz : ¬ ((h : Int) + 1 = 0) := by omega
      have hh : (h : Int) + 1 - 1 = h := by omega
      by_cases h5 : (d : Int) < 5
      · obtain ⟨f, S2, e2, hf, p2, l2⟩ := ih S1 n k p1 (by omega)
        obtain ⟨g, S3, e3, hg, p3, l3⟩ := ih S2 n k p2 (by omega)
        exact ⟨deed f g, S3, by simp_all! [b_114, e1, e2, e3, hz, hh, h3, h5], by simp only [hgt]; omega, p3, l3.trans (l2.trans l1)⟩
      · obtain ⟨f, S2, e2, hf, p2, l2⟩ := ih S1 n k p1 (by omega)
        exact ⟨box f, S2, by simp_all! [b_114, e1, e2, hz, hh, h3, h5], by simp only [hgt]; omega, p2, l2.trans l1⟩
theorem want_not (T : Tb) [Fn T 101 fd_101] [Fn T 102 fd_102] [Fn T 104 fd_104] (d : D) (k : Nat) (S : Sto) (h : callT T k 102 [d] S = .ok (.bl false) S) : callT T (k + 1) 104 [d] S = .exc ⟨103, []⟩ S := by
  rw [call_step]
  simp_all! [b_104, h]
end Ev
set_option Elab.async false
set_option linter.all false
set_option autoImplicit false
set_option maxRecDepth 100000
set_option maxHeartbeats 4000000
namespace Ev
open PySem
open Form
def Sm (k n : Nat) (d : D) : Prop := D.plain k d = true ∧ Sb d = true ∧ W d ≤ n
def Sms (k n : Nat) (ds : List D) : Prop := D.plains k ds = true ∧ Sbs ds = true ∧ Ws ds ≤ n
theorem sm_str {k : Nat} (x : Txt) (h : ∀ c ∈ x, c < 128) (n : Nat) (hn : x.length ≤ n) : Sm k (10 * n + 2) (.str x) := by
  refine ⟨?_, rfl, ?_⟩
  · rw [plain_str, List.all_eq_true]
    intro c hc
    have := h c hc
    simp; omega
  · have := W_str x fun c hc => Nat.lt_of_lt_of_le (h c hc) (by decide)
    omega
theorem sm_enc {k : Nat} (f : Form) (h : hgt f ≤ 6) (hk : 6 ≤ k) : Sm k 7040 (enc f) := ⟨plain_enc f k (by omega), Sb_enc f, W_small f h⟩
theorem sms_nil {k : Nat} : Sms k 0 [] := ⟨plains_nil k, rfl, Nat.le_refl _⟩
theorem sms_cons {k a b : Nat} {d : D} {ds : List D} (h : Sm k a d) (hs : Sms k b ds) : Sms k (a + 2 + b) (d :: ds) := by
  refine ⟨?_, ?_, ?_⟩
  · rw [plains_cons, h.1, hs.1]; rfl
  · simp only [Sbs, h.2.1, hs.2.1]; rfl
  · have := h.2.2; have := hs.2.2; simp only [Ws]; omega
theorem sm_lst {k n : Nat} {ds : List D} (h : Sms k n ds) : Sm (k + 1) (n + 2) (.lst ds) := by
  refine ⟨h.1, ?_, ?_⟩
  · show PyData.showableAll (toPys ds) = true
    rw [sbs_eq]; exact h.2.1
  · have := W_lst ds; have := h.2.2; omega
theorem Sm.up {k j n : Nat} {d : D} (h : Sm k n d) (hp : D.plain j d = true) : Sm j n d := ⟨hp, h.2⟩
theorem Sm.le {k n m : Nat} {d : D} (h : Sm k n d) (hn : n ≤ m) : Sm k m d := ⟨h.1, h.2.1, Nat.le_trans h.2.2 hn⟩
theorem Sm.shown {n : Nat} {d : D} (h : Sm 60 n d) (hn : n ≤ 16777216) : ∃ t, shownD d = some t := shown_some h.1 h.2.1 (Nat.le_trans h.2.2 hn)
end Ev
set_option Elab.async false
set_option linter.all false
set_option autoImplicit false
set_option maxRecDepth 100000
set_option maxHeartbeats 4000000
namespace Ev
open PySem
open Form
theorem bind_ok {α β : Type} {m : M α} {f : α → M β} {a : α} {ρ ρ1 : Env} {S S1 : Sto} (h : m ρ S = .ok a ρ1 S1) : M.bind m f ρ S = f a ρ1 S1 := by
  unfold M.bind Res.bind
  rw [h]
theorem loop_step {asg : D → M Unit} {body : M Flow} {d : D} {r : List D} {ρ ρ1 : Env} {S S1 : Sto} (e1 : (M.bind (asg d) fun _ => body) ρ S = .ok .nx ρ1 S1) : loopM asg body (d :: r) ρ S = loopM asg body r ρ1 S1 := by
  have q : loopM asg body (d :: r) = M.bind (M.bind (asg d) fun _ => body) fun f => match f with
    | .nx => loopM asg body r
    | .ct => loopM asg body r
    | .br => M.pure .nx
    | f => M.pure f := (M.assoc _ _ _).symm
  rw [q, bind_ok e1]
theorem mem_rngD : ∀ (n : Nat) (lo : Int) (d : D), d ∈ rngD lo n → ∃ i : Nat, i < n ∧ d = .int (lo + i)
  | 0, _, _, h => by cases h
  | n + 1, lo, d, h => by
    rcases List.mem_cons.mp h with rfl | h
    · exact ⟨0, by omega, by simp⟩
    · obtain ⟨i, hi, e⟩ := mem_rngD n (lo + 1) d h
      exact ⟨i + 1, by omega, by rw [e]; congr 1; omega⟩
theorem rngD_len : ∀ (n : Nat) (lo : Int), (rngD lo n).length = n
  | 0, _ => rfl
  | n + 1, lo => by simp [rngD, rngD_len n]
theorem rng1_at (ms : M (List D)) (ρ : Env) (S : Sto) (n : Nat) (h : n ≤ 1000) (e : ms ρ S = .ok [.int (n : Int)] ρ S) : mRng1 ms ρ S = .ok (rngD 0 n) ρ S := by
  unfold mRng1
  unfold M.bind Res.bind
  rw [e]
  show (if -(2 ^ 62) ≤ (n : Int) ∧ (n : Int) < 2 ^ 62 then M.pure (rngD 0 (n : Int).toNat) else M.bad) ρ S = _
  rw [if_pos ⟨by omega, by omega⟩]
  rfl
theorem law_rng2 (N : Int) (h1 : 1 ≤ N) (h2 : N ≤ 100) (ns : List Int) (rs : Env) (S : Sto) : ∃ m : Nat, m ≤ 100 ∧ mRng1 (aCons (xBi .max2 (aCons (M.pure (.int 1)) (aCons (xBi .min2 (aCons (xLen (mBor 0)) (aCons (M.pure (.int N)) aNil))) aNil))) aNil) (some (.fz (.scr ns)) :: rs) S = .ok (rngD 0 m) (some (.fz (.scr ns)) :: rs) S := by
  refine ⟨max 1 (min N.toNat ns.length), by omega, rng1_at _ _ _ _ (by omega) ?_⟩
  generalize hL : ns.length = L
  have e0 : ((max 1 (min N.toNat L) : Nat) : Int) = if (if N < (L : Int) then N else (L : Int)) > 1 then (if N < (L : Int) then N else (L : Int)) else 1 := by
    by_cases h6 : N < (L : Int)
    · simp only [h6, if_true]; split <;> omega
    · simp only [h6, if_false]; split <;> omega
  rw [e0]
  simp [runD, xEqE, sRetL, xCallF, mCallF, mCalkF, Form.enc, sSeq, sIf, sRet, sNx, sAsg, sEx, sRai, ↓mb, Res.bind, mp, M.of, mT, xIsi, mBor, mVar, isTy, mTruth, truth, mOr, mAnd, mIte, mNot, xCmp, cop, eqo_nn, eqo_nb, eqo_ni, eqo_ns, eqo_nt, eqo_nl, eqo_nd, eqo_bn, eqo_bb, eqo_bi, eqo_bs, eqo_bt, eqo_bl, eqo_bd, eqo_in, eqo_ib, eqo_ii, eqo_is, eqo_it, eqo_il, eqo_id, eqo_sn, eqo_sb, eqo_si, eqo_ss, eqo_st, eqo_sl, eqo_sd, eqo_tn, eqo_tb, eqo_ti, eqo_ts, eqo_te, eqo_tt, eqo_tl, eqo_td, eqo_ln, eqo_lb, eqo_li, eqo_ls, eqo_lt, eqo_ll, eqo_ld, eqo_dn, eqo_db, eqo_di, eqo_ds, eqo_dt, eqo_dl, eqo_dd, inOk, D.flat, xTup, aNil, aCons, mSet, plain_str, plain_tup, plain_int, plain_bl, plains_nil, plains_cons, eqb_str, eqb_int, eqb_bl, eqb_tup, eqbs_nil, eqbs_cn, eqbs_nc, eqbs_cc, eqb_nn, eqb_nb, eqb_ni, eqb_ns, eqb_nt, eqb_nl, eqb_nd, eqb_bn, eqb_bi, eqb_bs, eqb_bt, eqb_b_l, eqb_bd, eqb_in, eqb_ib, eqb_is, eqb_it, eqb_il, eqb_id, eqb_sn, eqb_sb, eqb_si, eqb_sl, eqb_sd, eqb_tn, eqb_tb, eqb_ti, eqb_tl, eqb_td, eqb_ln, eqb_lb, eqb_li, eqb_ls, eqb_lt, eqb_ll, eqb_ld, eqb_dn, eqb_db, eqb_di, eqb_ds, eqb_dt, eqb_dl, eqb_dd, plain_non, plain_lst, plain_dic, eqb_st, eqb_ts, xLen, bip, xIdx, mIdx, index, mItems, mList, xCall, pp_call, xBin, bop_ai, bop_as, bop_at, bop_al, bop_si, bop_mi, bop_ml, bop_mt, bop_ms, bop_mo, bop_fd, bop_pw, SZ, mSlc, mPart, slice, gUnp, gCon, gEnd, mLst, gUnpT, fListT, mSt, M.bad, mChn, sFor, loopM, xBi, xFz, fLst, mCalk, srcOf, isn_n, isn_b, isn_i, isn_s, isn_t, isn_l, isn_d, isn_r, isn_enc, hL]
inductive F2 {α β : Type} (Q : α → β → Prop) : List α → List β → Prop where
  | nil : F2 Q [] []
  | cons {a : α} {b : β} {as : List α} {bs : List β} : Q a b → F2 Q as bs → F2 Q (a :: as) (b :: bs)
theorem comp_inv {own : List Nat} {f : D → M Unit} {e : M D} {ρ : Env} (J : Sto → Prop) (Q : D → D → Prop) : ∀ (ds acc : List D), (∀ d ∈ ds, ∀ S, J S → ∃ v S', Q d v ∧ J S' ∧ (M.bind (f d) fun _ => M.bind e fun v => M.bind (mWipe own) fun _ => M.pure v) ρ S = .ok v ρ S') → acc.length + ds.length ≤ SZ →
    ∀ S, J S → ∃ vs S', F2 Q ds vs ∧ J S' ∧ cmpR own f (M.pure true) e acc ds ρ S = .ok (acc ++ vs) ρ S'
  | [], acc, _, _, S, h => ⟨[], S, .nil, h, by simp [cmpR, M.pure]⟩
  | d :: r, acc, hs, hl, S, h => by
    obtain ⟨v, S1, q, h1, e1⟩ := hs d (by simp) S h
    simp only [List.length_cons] at hl
    obtain ⟨vs, S2, qs, h2, e2⟩ := comp_inv J Q r (acc ++ [v]) (fun x hx => hs x (by simp [hx])) (by simp; omega) S1 h1
    refine ⟨v :: vs, S2, .cons q qs, h2, ?_⟩
    have ea : acc ++ v :: vs = acc ++ [v] ++ vs := by simp
    rw [ea, ← e2]
    have q : cmpR own f (M.pure true) e acc (d :: r) = M.bind (M.bind (f d) fun _ => M.bind e fun v => M.bind (mWipe own) fun _ => M.pure v) fun v => if acc.length < SZ then cmpR own f (M.pure true) e (acc ++ [v]) r else M.bad := by
      simp only [cmpR, M.assoc, M.pure_bind, if_true]
    rw [q, bind_ok e1, if_pos (show acc.length < SZ by omega)]
theorem all_true : ∀ (ds vs : List D), F2 (fun _ v => v = D.bl true) ds vs → (blsOf vs).map (fun bs => bs.all id) = some true
  | _, _, .nil => rfl
  | _, _, @F2.cons _ _ _ _ _ ds vs h t => by
    subst h
    have ih := all_true ds vs t
    simp only [blsOf]
    cases q : blsOf vs with
    | none => rw [q] at ih; cases ih
    | some bs => rw [q] at ih; simpa using ih
/-- all([e for k in range(..)]) -/
theorem law_all {mr : M (List D)} {e : M D} (ns : List Int) (S : Sto)
    (hr : ∃ m : Nat, m ≤ 100 ∧ mr [some (.fz (.scr ns)), none] S = .ok (rngD 0 m) [some (.fz (.scr ns)), none] S)
    (ht : ∀ (i : Nat) (S : Sto), i ≤ 100 → ∃ S', e [some (.fz (.scr ns)), some (.fz (.int i))] S = .ok (.bl true) [some (.fz (.scr ns)), some (.fz (.int i))] S') :
    ∃ S', (sRet (xBi .all (aCons (xFz (fComp mr [1] (mSet 1) (M.pure true) e)) aNil))) [some (.fz (.scr ns)), none] S = .ok (.rt (.bl true)) [some (.fz (.scr ns)), none] S' := by
  obtain ⟨m, hm, er⟩ := hr
  obtain ⟨vs, S', q, _, e1⟩ := comp_inv (own := [1]) (f := mSet 1) (e := e) (ρ := [some (.fz (.scr ns)), none]) (fun _ => True) (fun _ v => v = .bl true) (rngD 0 m) [] (fun d hd S _ => by
    obtain ⟨i, hi, rfl⟩ := mem_rngD m 0 d hd
    obtain ⟨S', e'⟩ := ht i S (by omega)
    refine ⟨.bl true, S', rfl, trivial, ?_⟩
    have : (0 : Int) + (i : Int) = i := by omega
    rw [this]
    have e0 : mSet 1 (.int i) [some (.fz (.scr ns)), none] S = .ok () [some (.fz (.scr ns)), some (.fz (.int i))] S := rfl
    rw [bind_ok e0, bind_ok e']
    rfl) (by rw [rngD_len]; simp [SZ]; omega) S trivial
  refine ⟨S', ?_⟩
  have ha := all_true _ _ q
  have ew : mWipe [1] [some (SV.fz (.scr ns)), none] S = .ok () [some (SV.fz (.scr ns)), none] S := rfl
  have hb : (blsOf vs).map (fun bs => D.bl (bs.all id)) = some (.bl true) := by
    cases q2 : blsOf vs with
    | none => rw [q2] at ha; cases ha
    | some bs => rw [q2] at ha; simp at ha ⊢; exact ha
  simp only [List.nil_append] at e1
  simp [runD, xEqE, sRetL, xCallF, mCallF, mCalkF, Form.enc, sSeq, sIf, sRet, sNx, sAsg, sEx, sRai, ↓mb, Res.bind, mp, M.of, mT, xIsi, mBor, mVar, isTy, mTruth, truth, mOr, mAnd, mIte, mNot, xCmp, cop, eqo_nn, eqo_nb, eqo_ni, eqo_ns, eqo_nt, eqo_nl, eqo_nd, eqo_bn, eqo_bb, eqo_bi, eqo_bs, eqo_bt, eqo_bl, eqo_bd, eqo_in, eqo_ib, eqo_ii, eqo_is, eqo_it, eqo_il, eqo_id, eqo_sn, eqo_sb, eqo_si, eqo_ss, eqo_st, eqo_sl, eqo_sd, eqo_tn, eqo_tb, eqo_ti, eqo_ts, eqo_te, eqo_tt, eqo_tl, eqo_td, eqo_ln, eqo_lb, eqo_li, eqo_ls, eqo_lt, eqo_ll, eqo_ld, eqo_dn, eqo_db, eqo_di, eqo_ds, eqo_dt, eqo_dl, eqo_dd, inOk, D.flat, xTup, aNil, aCons, mSet, plain_str, plain_tup, plain_int, plain_bl, plains_nil, plains_cons, eqb_str, eqb_int, eqb_bl, eqb_tup, eqbs_nil, eqbs_cn, eqbs_nc, eqbs_cc, eqb_nn, eqb_nb, eqb_ni, eqb_ns, eqb_nt, eqb_nl, eqb_nd, eqb_bn, eqb_bi, eqb_bs, eqb_bt, eqb_b_l, eqb_bd, eqb_in, eqb_ib, eqb_is, eqb_it, eqb_il, eqb_id, eqb_sn, eqb_sb, eqb_si, eqb_sl, eqb_sd, eqb_tn, eqb_tb, eqb_ti, eqb_tl, eqb_td, eqb_ln, eqb_lb, eqb_li, eqb_ls, eqb_lt, eqb_ll, eqb_ld, eqb_dn, eqb_db, eqb_di, eqb_ds, eqb_dt, eqb_dl, eqb_dd, plain_non, plain_lst, plain_dic, eqb_st, eqb_ts, xLen, bip, xIdx, mIdx, index, mItems, mList, xCall, pp_call, xBin, bop_ai, bop_as, bop_at, bop_al, bop_si, bop_mi, bop_ml, bop_mt, bop_ms, bop_mo, bop_fd, bop_pw, SZ, mSlc, mPart, slice, gUnp, gCon, gEnd, mLst, gUnpT, fListT, mSt, M.bad, mChn, sFor, loopM, xBi, xFz, fLst, mCalk, srcOf, isn_n, isn_b, isn_i, isn_s, isn_t, isn_l, isn_d, isn_r, isn_enc, fComp, noX, Res.noX, er, ew, e1, hb]
theorem run1 {T : Tb} {n : Nat} {fd : FD} [Fn T n fd] (k : Nat) (d v : D) (S S' : Sto) (ρ' : Env) (hnp : fd.np = 1) (e : fd.body (T.prm (callT T k)) (some (.fz d) :: List.replicate (fd.ns - 1) none) S = .ok (.rt v) ρ' S') : callT T (k + 1) n [d] S = .ok v S' := by
  rw [call_step]
  unfold runD
  rw [if_pos (show ([d] : List D).length = fd.np by rw [hnp]; rfl)]
  show (match fd.body (T.prm (callT T k)) (some (.fz d) :: List.replicate (fd.ns - 1) none) S with | .ok .nx _ S' => CR.ok .non S' | .ok (.rt d) _ S' => .ok d S' | .ok (.rl xs) _ S' => .okl xs S' | .ok _ _ _ => .bad | .exc x _ S' => .exc x S' | .bad => .bad) = _
  rw [e]
theorem rng_lit (n : Nat) (h : n ≤ 1000) (ρ : Env) (S : Sto) : mRng1 ((M.pure (.int (n : Int))).bind fun d => (M.pure []).bind fun ds => M.pure (d :: ds)) ρ S = .ok (rngD 0 n) ρ S := rng1_at _ _ _ n h rfl
end Ev
set_option Elab.async false
set_option linter.all false
set_option autoImplicit false
set_option maxRecDepth 100000
set_option maxHeartbeats 4000000
namespace Ev
open PySem
open Form
theorem cut_abs (t : Txt) (p c : Nat) : cut t (some (p : Int)) (some ((p : Int) + c)) = (t.drop p).take c := by
  have e1 : sIx t.length 0 (some (p : Int)) = min p t.length := by
    show (if (p : Int) < 0 then ((p : Int) + (t.length : Nat)).toNat else min (p : Int).toNat t.length) = _
    rw [if_neg (by omega)]
    simp
  have e2 : sIx t.length t.length (some ((p : Int) + c)) = min (p + c) t.length := by
    show (if (p : Int) + c < 0 then ((p : Int) + c + (t.length : Nat)).toNat else min ((p : Int) + c).toNat t.length) = _
    rw [if_neg (by omega)]
    have : ((p : Int) + c).toNat = p + c := by omega
    rw [this]
  unfold cut
  rw [e1, e2]
  by_cases h : p ≤ t.length
  · rw [show min p t.length = p by omega]
    by_cases h2 : p + c ≤ t.length
    · rw [show min (p + c) t.length - p = c by omega]
    · rw [show min (p + c) t.length - p = t.length - p by omega, List.take_of_length_le (by simp), List.take_of_length_le (by simp; omega)]
  · rw [show min p t.length = t.length by omega, List.drop_eq_nil_of_le (Nat.le_refl _), List.drop_eq_nil_of_le (show t.length ≤ p by omega)]
    simp
theorem cut_abs1 (t : Txt) (p : Nat) : cut t (some (p : Int)) (some ((p : Int) + 1)) = (t.drop p).take 1 := cut_abs t p 1
theorem cut_abs3 (t : Txt) (p : Nat) : cut t (some (p : Int)) (some ((p : Int) + 3)) = (t.drop p).take 3 := cut_abs t p 3
theorem cut_abs4 (t : Txt) (p : Nat) : cut t (some (p : Int)) (some ((p : Int) + 4)) = (t.drop p).take 4 := cut_abs t p 4
theorem at_abs {t : Txt} {p c : Nat} (h : (t.drop p).take 1 = [c]) : atI t (p : Int) = some c := by
  unfold atI
  rw [if_pos (by omega)]
  have e : (t.drop p)[0]? = some c := by
    cases q : t.drop p with
    | nil => rw [q] at h; cases h
    | cons x r => rw [q] at h; cases h; rfl
  rw [List.getElem?_drop] at e
  simpa using e
/-- the form that begins at a place, and the place behind it -/
def pf (t : Txt) : Nat → Nat → Option (Form × Nat)
  | h, p => if (t.drop p).take 3 = [97,110,121] then some (any, p + 3) else if (t.drop p).take 3 = [110,117,109] then some (num, p + 3) else if (t.drop p).take 4 = [116,101,120,116] then some (text, p + 4)
    else match h with
    | 0 => none
    | h + 1 =>
      if (t.drop p).take 1 = [91] then (match pf t h (p + 1) with
        | some (f, e) => if (t.drop e).take 1 = [93] then some (box f, e + 1) else none
        | none => none)
      else if (t.drop p).take 1 = [40] then (match pf t h (p + 1) with
        | some (f, e) => if (t.drop e).take 1 = [62] then (match pf t h (e + 1) with
            | some (g, e2) => if (t.drop e2).take 1 = [41] then some (deed f g, e2 + 1) else none
            | none => none) else none
        | none => none)
      else none
theorem want_sign_abs (T : Tb) [Fn T 137 fd_137] (t : Txt) (p c : Nat) (k : Nat) (S : Sto) (hk : 0 < k) (hl : t.length ≤ 16777216) : callT T k 137 [.str t, .int p, .str [c]] S = if (t.drop p).take 1 = [c] then .ok .non S else .exc ⟨103, []⟩ S := by
  obtain ⟨k, rfl⟩ : ∃ j, k = j + 1 := ⟨k - 1, by omega⟩
  rw [call_step]
  have e := cut_abs1 t p
  by_cases h : (t.drop p).take 1 = [c]
  · rw [if_pos h]
    rw [h] at e
    generalize (p : Int) = pi at e ⊢
    simp_all! [b_137, e, hl]
  · rw [if_neg h]
    generalize (t.drop p).take 1 = w at e h
    generalize (p : Int) = pi at e ⊢
    simp_all! [b_137, e, hl, h]
def pfR (t : Txt) (h p : Nat) (S : Sto) : CR := match pf t h p with
  | some (f, e) => .ok (.tup [enc f, .int (e : Nat)]) S
  | none => .exc ⟨103, []⟩ S
theorem form_at_abs (T : Tb) [Fn T 137 fd_137] [Fn T 138 fd_138] (t : Txt) (hl : t.length ≤ 16777216) : ∀ (h p k : Nat) (S : Sto), h < k → callT T k 138 [.str t, .int p, .int h] S = pfR t h p S := by
  intro h
  induction h with
  | zero =>
    intro p k S hk
    obtain ⟨k, rfl⟩ : ∃ j, k = j + 1 := ⟨k - 1, by omega⟩
    rw [call_step]
    have c3 := cut_abs3 t p
    have c4 := cut_abs4 t p
    have c1 := cut_abs1 t p
    unfold pfR pf
    by_cases h1 : (t.drop p).take 3 = [97,110,121]
    · rw [if_pos h1]; rw [h1] at c3
      simp only []
      rw [show ((p + 3 : Nat) : Int) = (p : Int) + 3 by omega]
      generalize (p : Int) = pi at *
      simp_all! [b_138, c3, hl]
    · rw [if_neg h1]
      by_cases h2 : (t.drop p).take 3 = [110,117,109]
      · rw [if_pos h2]; rw [h2] at c3
        simp only []
        rw [show ((p + 3 : Nat) : Int) = (p : Int) + 3 by omega]
        generalize (p : Int) = pi at *
        simp_all! [b_138, c3, hl]
      · rw [if_neg h2]
        generalize (t.drop p).take 3 = w3 at *
        by_cases h3 : (t.drop p).take 4 = [116,101,120,116]
        · rw [if_pos h3]; rw [h3] at c4
          simp only []
          rw [show ((p + 4 : Nat) : Int) = (p : Int) + 4 by omega]
          generalize (p : Int) = pi at *
          simp_all! [b_138, c3, c4, h1, h2, hl]
        · rw [if_neg h3]
          generalize (t.drop p).take 4 = w4 at *
          generalize (p : Int) = pi at *
          simp_all! [b_138, c3, c4, h1, h2, h3, hl]
  | succ h ih =>
    intro p k S hk
    obtain ⟨k, rfl⟩ : ∃ j, k = j + 1 := ⟨k - 1, by omega⟩
    rw [call_step]
    have c3 := cut_abs3 t p
    have c4 := cut_abs4 t p
    have c1 := cut_abs1 t p
    have hz : ¬ ((h : Int) + 1 = 0) := by omega
    have hh : (h : Int) + 1 - 1 = (h : Int) := by omega
    unfold pfR pf
    by_cases h1 : (t.drop p).take 3 = [97,110,121]
    · rw [if_pos h1]; rw [h1] at c3
      simp only []
      rw [show ((p + 3 : Nat) : Int) = (p : Int) + 3 by omega]
      generalize (p : Int) = pi at *
      simp_all! [b_138, c3, hl]
    · rw [if_neg h1]
      by_cases h2 : (t.drop p).take 3 = [110,117,109]
      · rw [if_pos h2]; rw [h2] at c3
        simp only []
        rw [show ((p + 3 : Nat) : Int) = (p : Int) + 3 by omega]
        generalize (p : Int) = pi at *
        simp_all! [b_138, c3, hl]
      · rw [if_neg h2]
        generalize (t.drop p).take 3 = w3 at *
        by_cases h3 : (t.drop p).take 4 = [116,101,120,116]
        · rw [if_pos h3]; rw [h3] at c4
          simp only []
          rw [show ((p + 4 : Nat) : Int) = (p : Int) + 4 by omega]
          generalize (p : Int) = pi at *
          simp_all! [b_138, c3, c4, h1, h2, hl]
        · rw [if_neg h3]
          generalize (t.drop p).take 4 = w4 at *
          have ea := ih (p + 1) k S (by omega)
          rw [show ((p + 1 : Nat) : Int) = (p : Int) + 1 by omega] at ea
          unfold pfR at ea
          by_cases h4 : (t.drop p).take 1 = [91]
          · have ca := at_abs h4
            simp only [h4, if_true]
            rw [h4] at c1
            cases q : pf t h (p + 1) with
            | none =>
              rw [q] at ea
              generalize (p : Int) = pi at *
              simp_all! [b_138, c3, c4, c1, ca, h1, h2, h3, hl, hz, hh, ea]
            | some fe =>
              obtain ⟨f, e⟩ := fe
              rw [q] at ea
              have es := want_sign_abs T t e 93 k S (by omega) hl
              simp only [] at ea ⊢
              by_cases h5 : (t.drop e).take 1 = [93]
              · rw [if_pos h5] at es
                simp only [h5, if_true]
                rw [show ((e + 1 : Nat) : Int) = (e : Int) + 1 by omega]
                generalize (p : Int) = pi at *
                simp_all! [b_138, c3, c4, c1, ca, h1, h2, h3, hl, hz, hh, ea, es]
              · rw [if_neg h5] at es
                simp only [h5, if_false]
                generalize (p : Int) = pi at *
                simp_all! [b_138, c3, c4, c1, ca, h1, h2, h3, hl, hz, hh, ea, es]
          · by_cases h4b : (t.drop p).take 1 = [40]
            · have ca := at_abs h4b
              simp (decide := true) only [h4b, if_true, if_false]
              rw [h4b] at c1
              cases q : pf t h (p + 1) with
              | none =>
                rw [q] at ea
                generalize (p : Int) = pi at *
                simp_all! [b_138, c3, c4, c1, ca, h1, h2, h3, hl, hz, hh, ea]
              | some fe =>
                obtain ⟨f, e⟩ := fe
                rw [q] at ea
                have es := want_sign_abs T t e 62 k S (by omega) hl
                simp only [] at ea ⊢
                by_cases h5 : (t.drop e).take 1 = [62]
                · rw [if_pos h5] at es
                  simp only [h5, if_true]
                  have eb := ih (e + 1) k S (by omega)
                  rw [show ((e + 1 : Nat) : Int) = (e : Int) + 1 by omega] at eb
                  unfold pfR at eb
                  cases q2 : pf t h (e + 1) with
                  | none =>
                    rw [q2] at eb
                    generalize (p : Int) = pi at *
                    simp_all! [b_138, c3, c4, c1, ca, h1, h2, h3, hl, hz, hh, ea, es, eb]
                  | some ge =>
                    obtain ⟨g, e2⟩ := ge
                    rw [q2] at eb
                    have es2 := want_sign_abs T t e2 41 k S (by omega) hl
                    simp only [] at eb ⊢
                    by_cases h6 : (t.drop e2).take 1 = [41]
                    · rw [if_pos h6] at es2
                      simp (decide := true) only [h6, if_true]
                      rw [show ((e2 + 1 : Nat) : Int) = (e2 : Int) + 1 by omega]
                      generalize (p : Int) = pi at *
                      simp_all! [b_138, c3, c4, c1, ca, h1, h2, h3, hl, hz, hh, ea, es, eb, es2]
                    · rw [if_neg h6] at es2
                      simp only [h6, if_false]
                      generalize (p : Int) = pi at *
                      simp_all! [b_138, c3, c4, c1, ca, h1, h2, h3, hl, hz, hh, ea, es, eb, es2]
                · rw [if_neg h5] at es
                  simp only [h5, if_false]
                  generalize (p : Int) = pi at *
                  simp_all! [b_138, c3, c4, c1, ca, h1, h2, h3, hl, hz, hh, ea, es]
            · simp only [h4, h4b, if_false]
              generalize (t.drop p).take 1 = w1 at *
              have g1 : ¬ ([91] : Txt) = w1 := fun z => h4 z.symm
              have g2 : ¬ ([40] : Txt) = w1 := fun z => h4b z.symm
              generalize (p : Int) = pi at *
              simp_all! [b_138, c3, c4, c1, h1, h2, h3, h4, h4b, g1, g2, hl, hz, hh]
/-- what is read of a text -/
def rd (t : Txt) : Option Form := match pf t 5 0 with
  | some (f, e) => if e = t.length then some f else none
  | none => none
theorem read_form_abs (T : Tb) [Fn T 137 fd_137] [Fn T 138 fd_138] [Fn T 139 fd_139] (t : Txt) (hl : t.length ≤ 16777216) (k : Nat) (S : Sto) (hk : 7 < k) : callT T k 139 [.str t] S = match rd t with | some f => .ok (enc f) S | none => .exc ⟨103, []⟩ S := by
  obtain ⟨k, rfl⟩ : ∃ j, k = j + 1 := ⟨k - 1, by omega⟩
  rw [call_step]
  have e1 := form_at_abs T t hl 5 0 k S (by omega)
  have e1 : callT T k 138 [.str t, .int 0, .int 5] S = pfR t 5 0 S := e1
  unfold pfR at e1
  unfold rd
  cases q : pf t 5 0 with
  | none => rw [q] at e1; simp_all! [b_139, e1, hl]
  | some fe =>
    obtain ⟨f, e⟩ := fe
    rw [q] at e1
    simp only [] at e1 ⊢
    by_cases h : e = t.length
    · simp_all! [b_139, e1, hl, h]
    · have h' : ¬ (e : Int) = (t.length : Nat) := by omega
      simp_all! [b_139, e1, hl, h, h']
theorem take1_drop {t : Txt} {p c : Nat} (h : (t.drop p).take 1 = [c]) : t.drop p = c :: t.drop (p + 1) ∧ p < t.length := by
  cases q : t.drop p with
  | nil => rw [q] at h; cases h
  | cons x r =>
    rw [q] at h; cases h
    have e : t.drop (p + 1) = r := by rw [← List.drop_drop, q]; rfl
    refine ⟨by rw [e], ?_⟩
    have : (t.drop p).length = r.length + 1 := by rw [q]; rfl
    rw [List.length_drop] at this
    omega
theorem take_drop {t w : Txt} {p n : Nat} (h : (t.drop p).take n = w) (hw : w.length = n) : t.drop p = w ++ t.drop (p + n) ∧ p + n ≤ max p t.length := by
  have e : t.drop p = (t.drop p).take n ++ (t.drop p).drop n := (List.take_append_drop n _).symm
  rw [h, List.drop_drop] at e
  refine ⟨e, ?_⟩
  have := congrArg List.length h
  rw [List.length_take, List.length_drop, hw] at this
  omega
theorem pf_sound (t : Txt) : ∀ (h p : Nat) (f : Form) (e : Nat), pf t h p = some (f, e) → t.drop p = txt f ++ t.drop e ∧ e = p + (txt f).length ∧ hgt f ≤ h ∧ e ≤ max p t.length := by
  intro h
  induction h with
  | zero =>
    intro p f e q
    unfold pf at q
    split at q
    · rename_i h1; cases q; obtain ⟨a, b⟩ := take_drop h1 rfl; exact ⟨a, rfl, by simp [hgt], b⟩
    · split at q
      · rename_i h1; cases q; obtain ⟨a, b⟩ := take_drop h1 rfl; exact ⟨a, rfl, by simp [hgt], b⟩
      · split at q
        · rename_i h1; cases q; obtain ⟨a, b⟩ := take_drop h1 rfl; exact ⟨a, rfl, by simp [hgt], b⟩
        · cases q
  | succ h ih =>
    intro p f e q
    unfold pf at q
    split at q
    · rename_i h1; cases q; obtain ⟨a, b⟩ := take_drop h1 rfl; exact ⟨a, rfl, by simp [hgt], b⟩
    · split at q
      · rename_i h1; cases q; obtain ⟨a, b⟩ := take_drop h1 rfl; exact ⟨a, rfl, by simp [hgt], b⟩
      · split at q
        · rename_i h1; cases q; obtain ⟨a, b⟩ := take_drop h1 rfl; exact ⟨a, rfl, by simp [hgt], b⟩
        · simp only [] at q
          split at q
          · rename_i h1
            obtain ⟨d1, l1⟩ := take1_drop h1
            split at q
            · rename_i g e1 q1
              obtain ⟨a1, a2, a3, a4⟩ := ih _ _ _ q1
              split at q
              · rename_i h2
                cases q
                obtain ⟨d2, l2⟩ := take1_drop h2
                refine ⟨?_, ?_, ?_, ?_⟩
                · rw [d1, a1, d2]; simp [txt]
                · rw [a2]; simp [txt]; omega
                · simp only [hgt]; omega
                · omega
              · cases q
            · cases q
          · split at q
            · rename_i h1
              obtain ⟨d1, l1⟩ := take1_drop h1
              split at q
              · rename_i g e1 q1
                obtain ⟨a1, a2, a3, a4⟩ := ih _ _ _ q1
                split at q
                · rename_i h2
                  obtain ⟨d2, l2⟩ := take1_drop h2
                  split at q
                  · rename_i g2 e2 q2
                    obtain ⟨b1, b2, b3, b4⟩ := ih _ _ _ q2
                    split at q
                    · rename_i h3
                      cases q
                      obtain ⟨d3, l3⟩ := take1_drop h3
                      refine ⟨?_, ?_, ?_, ?_⟩
                      · rw [d1, a1, d2, b1, d3]; simp [txt]
                      · rw [b2, a2]; simp [txt]; omega
                      · simp only [hgt]; omega
                      · omega
                    · cases q
                  · cases q
                · cases q
              · cases q
            · cases q
theorem rd_sound {t : Txt} {f : Form} (h : rd t = some f) : txt f = t ∧ hgt f ≤ 5 := by
  unfold rd at h
  split at h
  · rename_i g e q
    split at h
    · rename_i he
      cases h
      obtain ⟨a1, a2, a3, a4⟩ := pf_sound t 5 0 _ _ q
      rw [he, List.drop_length, List.append_nil] at a1
      exact ⟨a1.symm, a3⟩
    · cases h
  · cases h
theorem pf_complete (t : Txt) (f : Form) : ∀ (h p : Nat) (R : Txt), hgt f ≤ h → t.drop p = txt f ++ R → pf t h p = some (f, p + (txt f).length) := by
  have dr : ∀ {p n : Nat} {w R : Txt}, t.drop p = w ++ R → w.length = n → t.drop (p + n) = R := fun {p n w R} e hw => by rw [← List.drop_drop, e, ← hw, List.drop_left]
  induction f with
  | any => intro h p R hh e; unfold pf; rw [e]; rfl
  | num => intro h p R hh e; unfold pf; rw [e]; rfl
  | text => intro h p R hh e; unfold pf; rw [e]; rfl
  | box a iha =>
    intro h p R hh e
    simp only [hgt] at hh
    obtain ⟨h, rfl⟩ : ∃ j, h = j + 1 := ⟨h - 1, by omega⟩
    have e1 : t.drop (p + 1) = txt a ++ (93 :: R) := dr (w := [91]) (by rw [e]; simp [txt]) rfl
    have q := iha h (p + 1) _ (by omega) e1
    have e2 : t.drop (p + 1 + (txt a).length) = 93 :: R := dr e1 rfl
    unfold pf
    rw [e]
    simp only [q, e2]
    simp [txt]
    omega
  | deed a b iha ihb =>
    intro h p R hh e
    simp only [hgt] at hh
    obtain ⟨h, rfl⟩ : ∃ j, h = j + 1 := ⟨h - 1, by omega⟩
    have e1 : t.drop (p + 1) = txt a ++ (62 :: (txt b ++ (41 :: R))) := dr (w := [40]) (by rw [e]; simp [txt]) rfl
    have q := iha h (p + 1) _ (by omega) e1
    have e2 : t.drop (p + 1 + (txt a).length) = 62 :: (txt b ++ (41 :: R)) := dr e1 rfl
    have e3 : t.drop (p + 1 + (txt a).length + 1) = txt b ++ (41 :: R) := dr (w := [62]) (by rw [e2]; simp) rfl
    have q2 := ihb h (p + 1 + (txt a).length + 1) _ (by omega) e3
    have e4 : t.drop (p + 1 + (txt a).length + 1 + (txt b).length) = 41 :: R := dr e3 rfl
    unfold pf
    rw [e]
    simp only [q, e2, q2, e4]
    simp [txt]
    omega
theorem rd_txt (f : Form) (h : hgt f ≤ 5) : rd (txt f) = some f := by
  have q := pf_complete (txt f) f 5 0 [] h (by simp)
  unfold rd
  rw [q]
  simp
end Ev
set_option Elab.async false
set_option linter.all false
set_option autoImplicit false
set_option maxRecDepth 100000
set_option maxHeartbeats 4000000
namespace Ev
open PySem
open Form
theorem law_written (T : Tb) [Fn T 141 fd_141] (f : Form) : ∀ (k : Nat) (S : Sto), hgt f < k → hgt f ≤ 50 → (txt f).length ≤ 1000 → callT T k 141 [enc f] S = .ok (.str (txt f)) S := by
  induction f with
  | deed a b iha ihb =>
    intro k S hk h50 hl
    obtain ⟨k, rfl⟩ : ∃ j, k = j + 1 := ⟨k - 1, by omega⟩
    rw [call_step]
    have hp1 := plain_deed 60 a b (by omega)
    simp only [hgt] at hk h50
    simp only [txt, List.length_cons, List.length_append, List.length_nil] at hl
    have ea := iha k S (by omega) (by omega) (by omega)
    have eb := ihb k S (by omega) (by omega) (by omega)
    have l1 : 1 + (txt a).length ≤ 16777216 := by omega
    have l2 : 1 + (txt a).length + 1 ≤ 16777216 := by omega
    have l3 : (txt a).length + 1 + 1 ≤ 16777216 := by omega
    have l4 : (txt a).length + 1 ≤ 16777216 := by omega
    have l5 : (txt a).length + ((txt b).length + 1) ≤ 16777215 := by omega
    have l6 : (txt a).length ≤ 16777215 := by omega
    have l7 : (txt a).length ≤ 16777214 := by omega
    have l8 : (txt a).length + 1 + 1 + (txt b).length ≤ 16777216 := by omega
    have l9 : (txt a).length + 1 + (txt b).length ≤ 16777215 := by omega
    have l10 : (txt a).length + ((txt b).length + 1) + 1 ≤ 16777216 := by omega
    have l11 : (txt a).length + ((txt b).length + 1) ≤ 16777214 := by omega
    simp! [b_141, txt, hp1, ea, eb, l1, l2, l3, l4, l5, l6, l7, l8, l9, l10, l11]
  | box a iha =>
    intro k S hk h50 hl
    obtain ⟨k, rfl⟩ : ∃ j, k = j + 1 := ⟨k - 1, by omega⟩
    rw [call_step]
    have hp1 := plain_box 60 a (by omega)
    simp only [hgt] at hk h50
    simp only [txt, List.length_cons, List.length_append, List.length_nil] at hl
    have ea := iha k S (by omega) (by omega) (by omega)
    have l1 : 1 + (txt a).length ≤ 16777216 := by omega
    have l3 : (txt a).length + 1 + 1 ≤ 16777216 := by omega
    have l4 : (txt a).length + 1 ≤ 16777216 := by omega
    have l6 : (txt a).length ≤ 16777215 := by omega
    have l7 : (txt a).length ≤ 16777214 := by omega
    simp! [b_141, txt, hp1, ea, l1, l3, l4, l6, l7]
  | _ =>
    intro k S hk h50 hl
    obtain ⟨k, rfl⟩ : ∃ j, k = j + 1 := ⟨k - 1, by omega⟩
    rw [call_step]
    simp! [b_141, txt]
theorem cut_len (t : Txt) (lo hi : Option Int) : (cut t lo hi).length ≤ t.length := by
  unfold cut
  rw [List.length_take, List.length_drop]
  omega
end Ev
set_option Elab.async false
set_option linter.all false
set_option autoImplicit false
set_option maxRecDepth 100000
set_option maxHeartbeats 4000000
namespace Ev
open PySem
open Form
def markSigns : Txt := [97,98,99,100,101,102,103,104,105,106,107,108,109,110,111,112,113,114,115,116,117,118,119,120,121,122,48,49,50,51,52,53,54,55,56,57,46]
def okMark (m : Txt) : Bool := decide (1 ≤ m.length) && decide (m.length ≤ 14) && m.all fun c => decide (c ∈ markSigns)
inductive Hd where | num | text | deed | box deriving DecidableEq
abbrev Ck := Option (Txt × Bool)
/-- a seal: its check's mark and side; its core -/
inductive Seal where
  | stay | num (c : Ck) | text (c : Ck) | deed (c : Ck) (s t : Seal) | box (c : Ck) (s t : Seal) | broken (c : Ck) (h : Hd) (m : Txt) (b : Bool)
  deriving DecidableEq
namespace Seal
def hgt : Seal → Nat
  | deed _ s t => 1 + max (hgt s) (hgt t) | box _ s t => 1 + max (hgt s) (hgt t) | _ => 0
def okC : Ck → Bool
  | none => true | some (m, _) => okMark m
/-- all marks are marks -/
def ok : Seal → Bool
  | stay => true | num c => okC c | text c => okC c | deed c s t => okC c && ok s && ok t | box c s t => okC c && ok s && ok t | broken c _ m _ => okC c && okMark m
end Seal
end Ev
set_option Elab.async false
set_option linter.all false
set_option autoImplicit false
set_option maxRecDepth 100000
set_option maxHeartbeats 4000000
namespace Ev
open PySem
namespace Seal
def head : Seal → Option Hd
  | stay => none | num _ => some .num | text _ => some .text | deed _ _ _ => some .deed | box _ _ _ => some .box | broken _ h _ _ => some h
def ck : Seal → Ck
  | stay => none | num c => c | text c => c | deed c _ _ => c | box c _ _ => c | broken c _ _ _ => c
end Seal
end Ev
set_option Elab.async false
set_option linter.all false
set_option autoImplicit false
set_option maxRecDepth 100000
set_option maxHeartbeats 4000000
namespace Ev
open PySem
open Form
/-- from any to a form (toward), or back -/
def ud (m : Txt) : Form → Bool → Bool → Seal
  | any, _, _ => .stay
  | num, w, b => .num (if w then some (m, b) else none)
  | text, w, b => .text (if w then some (m, b) else none)
  | deed c d, w, b => .deed (if w then some (m, b) else none) (ud m c (!w) (!b)) (ud m d w b)
  | box c, w, b => .box (if w then some (m, b) else none) (ud m c (!w) (!b)) (ud m c w b)
def sf (m : Txt) : Form → Form → Bool → Seal
  | any, g, b => ud m g true b
  | f, any, b => ud m f false b
  | num, num, _ => .num none
  | text, text, _ => .text none
  | deed a b, deed c d, s => .deed none (sf m c a (!s)) (sf m b d s)
  | box a, box c, s => .box none (sf m c a (!s)) (sf m a c s)
  | _, _, _ => .stay
  termination_by f g => sizeOf f + sizeOf g
theorem sf_any_l (m : Txt) (g : Form) (b : Bool) : sf m any g b = ud m g true b := by rw [sf]
theorem sf_any_r (m : Txt) (f : Form) (b : Bool) : sf m f any b = ud m f false b := by
  cases f <;> rw [sf] <;> first | rfl | simp [ud]
theorem sf_deed (m : Txt) (a b c d : Form) (s : Bool) : sf m (deed a b) (deed c d) s = .deed none (sf m c a (!s)) (sf m b d s) := by rw [sf]
theorem sf_box (m : Txt) (a c : Form) (s : Bool) : sf m (box a) (box c) s = .box none (sf m c a (!s)) (sf m a c s) := by rw [sf]
end Ev
set_option Elab.async false
set_option linter.all false
set_option autoImplicit false
set_option maxRecDepth 100000
set_option maxHeartbeats 4000000
namespace Ev
open PySem
open Form
/-- what two cores of one head come to -/
def joinS (both : Seal → Seal → Option Seal) (s t : Seal) : Option Seal := match s, t with
  | _, .broken _ h m b => some (.broken s.ck h m b)
  | .num c, _ => some (.num c)
  | .text c, _ => some (.text c)
  | .deed c a b, .deed _ x y => (match both x a with | none => none | some p => (match both b y with | none => none | some q => some (.deed c p q)))
  | .box c a b, .box _ x y => (match both x a with | none => none | some p => (match both b y with | none => none | some q => some (.box c p q)))
  | _, _ => none
/-- merged, to a depth -/
def bothN : Nat → Seal → Seal → Option Seal
  | 0, _, _ => none
  | n + 1, s, t => match s.head, t.head with
    | none, _ => some t
    | _, none => some s
    | some h, some g => match s with
      | .broken _ _ _ _ => some s
      | _ => if h = g then joinS (bothN n) s t else (match t.ck with | some (m, b) => some (.broken s.ck h m b) | none => none)
def both (s t : Seal) : Option Seal := bothN (max s.hgt t.hgt + 1) s t
theorem joinS_up {f g : Seal → Seal → Option Seal} {s t : Seal} (h : ∀ x a, x.hgt < max s.hgt t.hgt → a.hgt < max s.hgt t.hgt → f x a = g x a) : joinS f s t = joinS g s t := by
  cases s <;> cases t <;> first | rfl | skip
  · rename_i c a b c' x y
    simp only [Seal.hgt] at h
    simp only [joinS]
    rw [h x a (by omega) (by omega), h b y (by omega) (by omega)]
  · rename_i c a b c' x y
    simp only [Seal.hgt] at h
    simp only [joinS]
    rw [h x a (by omega) (by omega), h b y (by omega) (by omega)]
theorem bothN_up : ∀ (n m : Nat) (s t : Seal), max s.hgt t.hgt < n → max s.hgt t.hgt < m → bothN n s t = bothN m s t
  | 0, _, _, _, h, _ => by omega
  | _, 0, _, _, _, h => by omega
  | n + 1, m + 1, s, t, h1, h2 => by
    have j : joinS (bothN n) s t = joinS (bothN m) s t := joinS_up fun x a hx ha => bothN_up n m x a (by omega) (by omega)
    unfold bothN
    rw [j]
theorem both_at (n : Nat) (s t : Seal) (h : max s.hgt t.hgt < n) : bothN n s t = both s t := bothN_up _ _ s t h (by omega)
/-- the rows of merging -/
theorem both_stay_l (t : Seal) : both .stay t = some t := by unfold both bothN; cases t.head <;> rfl
theorem both_stay_r (s : Seal) : both s .stay = some s := by unfold both bothN; cases s <;> rfl
theorem both_eq (s t : Seal) (h g : Hd) (hs : s.head = some h) (ht : t.head = some g) (hb : ∀ c x m b, s ≠ .broken c x m b) : both s t = if h = g then joinS both s t else (match t.ck with | some (m, b) => some (.broken s.ck h m b) | none => none) := by
  have j : joinS (bothN (max s.hgt t.hgt)) s t = joinS both s t := joinS_up fun x a hx ha => both_at _ x a (by omega)
  rw [show both s t = bothN (max s.hgt t.hgt + 1) s t from rfl]
  unfold bothN
  rw [hs, ht, j]
  cases s <;> first | rfl | exact absurd rfl (hb _ _ _ _)
theorem both_broken (c : Ck) (h : Hd) (m : Txt) (b : Bool) (t : Seal) : both (.broken c h m b) t = some (.broken c h m b) := by
  unfold both bothN
  cases t <;> rfl
end Ev
set_option Elab.async false
set_option linter.all false
set_option autoImplicit false
set_option maxRecDepth 100000
set_option maxHeartbeats 4000000
namespace Ev
open PySem
open Form
theorem Seal.eq_stay {s : Seal} (h : s.head = none) : s = .stay := by cases s <;> first | rfl | cases h
end Ev
set_option Elab.async false
set_option linter.all false
set_option autoImplicit false
set_option maxRecDepth 100000
set_option maxHeartbeats 4000000
namespace Ev
open PySem
open Form
def hdF : Form → Option Hd
  | any => none | num => some .num | text => some .text | deed _ _ => some .deed | box _ => some .box
def srcOk (c : Ck) (h : Hd) (f : Form) : Prop := (f = any ∧ c ≠ none) ∨ hdF f = some h
def tgtOk (h : Hd) (g : Form) : Prop := g = any ∨ hdF g = some h
def pt : Form → Form × Form
  | deed a b => (a, b) | box a => (a, a) | _ => (any, any)
def leads : Seal → Form → Form → Prop
  | .stay, f, g => f = any ∧ g = any
  | .broken c h _ _, f, _ => srcOk c h f
  | .num c, f, g => srcOk c .num f ∧ tgtOk .num g
  | .text c, f, g => srcOk c .text f ∧ tgtOk .text g
  | .deed c a b, f, g => srcOk c .deed f ∧ tgtOk .deed g ∧ leads a (pt g).1 (pt f).1 ∧ leads b (pt f).2 (pt g).2
  | .box c a b, f, g => srcOk c .box f ∧ tgtOk .box g ∧ leads a (pt g).1 (pt f).1 ∧ leads b (pt f).2 (pt g).2
theorem leads_ud (m : Txt) : ∀ (f : Form) (b : Bool), leads (ud m f true b) any f ∧ leads (ud m f false b) f any
  | any, b => ⟨⟨rfl, rfl⟩, ⟨rfl, rfl⟩⟩
  | num, b => ⟨⟨.inl ⟨rfl, by simp⟩, .inr rfl⟩, ⟨.inr rfl, .inl rfl⟩⟩
  | text, b => ⟨⟨.inl ⟨rfl, by simp⟩, .inr rfl⟩, ⟨.inr rfl, .inl rfl⟩⟩
  | deed c d, b => ⟨⟨.inl ⟨rfl, by simp⟩, .inr rfl, (leads_ud m c (!b)).2, (leads_ud m d b).1⟩, ⟨.inr rfl, .inl rfl, (leads_ud m c (!b)).1, (leads_ud m d b).2⟩⟩
  | box c, b => ⟨⟨.inl ⟨rfl, by simp⟩, .inr rfl, (leads_ud m c (!b)).2, (leads_ud m c b).1⟩, ⟨.inr rfl, .inl rfl, (leads_ud m c (!b)).1, (leads_ud m c b).2⟩⟩
theorem near_comm' (f : Form) : ∀ g, near f g = near g f := by
  induction f with
  | any => intro g; cases g <;> rfl
  | num => intro g; cases g <;> rfl
  | text => intro g; cases g <;> rfl
  | deed a b iha ihb => intro g; cases g <;> simp [near, iha, ihb]
  | box a ih => intro g; cases g <;> simp [near, ih]
theorem leads_sf (m : Txt) : ∀ (n : Nat) (f g : Form) (b : Bool), hgt f ≤ n → hgt g ≤ n → near f g = true → leads (sf m f g b) f g := by
  intro n
  induction n with
  | zero =>
    intro f g b hf hg hn
    cases f with
    | any => rw [sf_any_l]; exact (leads_ud m g b).1
    | deed c d => simp [hgt] at hf
    | box c => simp [hgt] at hf
    | num =>
      cases g with
      | any => rw [sf_any_r]; exact (leads_ud m _ b).2
      | num => rw [sf]; exact ⟨.inr rfl, .inr rfl⟩
      | _ => simp [near] at hn
    | text =>
      cases g with
      | any => rw [sf_any_r]; exact (leads_ud m _ b).2
      | text => rw [sf]; exact ⟨.inr rfl, .inr rfl⟩
      | _ => simp [near] at hn
  | succ n ih =>
    intro f g b hf hg hn
    cases f with
    | any => rw [sf_any_l]; exact (leads_ud m g b).1
    | num =>
      cases g with
      | any => rw [sf_any_r]; exact (leads_ud m _ b).2
      | num => rw [sf]; exact ⟨.inr rfl, .inr rfl⟩
      | _ => simp [near] at hn
    | text =>
      cases g with
      | any => rw [sf_any_r]; exact (leads_ud m _ b).2
      | text => rw [sf]; exact ⟨.inr rfl, .inr rfl⟩
      | _ => simp [near] at hn
    | deed c d =>
      cases g with
      | any => rw [sf_any_r]; exact (leads_ud m _ b).2
      | deed x y =>
        simp only [hgt] at hf hg
        simp only [near, Bool.and_eq_true] at hn
        rw [sf_deed]
        exact ⟨.inr rfl, .inr rfl, ih x c (!b) (by omega) (by omega) (by rw [near_comm']; exact hn.1), ih d y b (by omega) (by omega) hn.2⟩
      | _ => simp [near] at hn
    | box c =>
      cases g with
      | any => rw [sf_any_r]; exact (leads_ud m _ b).2
      | box x =>
        simp only [hgt] at hf hg
        simp only [near] at hn
        rw [sf_box]
        exact ⟨.inr rfl, .inr rfl, ih x c (!b) (by omega) (by omega) (by rw [near_comm']; exact hn), ih c x b (by omega) (by omega) hn⟩
      | _ => simp [near] at hn
theorem leads_src {s : Seal} {f g : Form} {h : Hd} (hs : s.head = some h) (l : leads s f g) : srcOk s.ck h f := by
  cases s with
  | stay => cases hs
  | num c => cases hs; exact l.1
  | text c => cases hs; exact l.1
  | deed c a b => cases hs; exact l.1
  | box c a b => cases hs; exact l.1
  | broken c x m b => cases hs; exact l
theorem leads_tgt {s : Seal} {f g : Form} {h : Hd} (hs : s.head = some h) (hb : ∀ c x m b, s ≠ .broken c x m b) (l : leads s f g) : tgtOk h g := by
  cases s with
  | stay => cases hs
  | num c => cases hs; exact l.2
  | text c => cases hs; exact l.2
  | deed c a b => cases hs; exact l.2.1
  | box c a b => cases hs; exact l.2.1
  | broken c x m b => exact absurd rfl (hb _ _ _ _)
theorem leads_both : ∀ (n : Nat) (s t : Seal) (f g k : Form), max s.hgt t.hgt < n → leads s f g → leads t g k → ∃ r, both s t = some r ∧ leads r f k
  | 0, _, _, _, _, _, h, _, _ => by omega
  | n + 1, s, t, f, g, k, hn, l1, l2 => by
    by_cases h1 : s.head = none
    · have := Seal.eq_stay h1
      subst this
      obtain ⟨rfl, rfl⟩ := l1
      exact ⟨t, both_stay_l t, l2⟩
    by_cases h2 : t.head = none
    · have := Seal.eq_stay h2
      subst this
      obtain ⟨rfl, rfl⟩ := l2
      exact ⟨s, both_stay_r s, l1⟩
    obtain ⟨h, h1⟩ := Option.ne_none_iff_exists'.mp h1
    obtain ⟨i, h2⟩ := Option.ne_none_iff_exists'.mp h2
    by_cases hb : ∀ c x m b, s ≠ .broken c x m b
    · rw [both_eq s t h i h1 h2 hb]
      have s1 := leads_src h1 l1
      have s2 := leads_src h2 l2
      have t1 := leads_tgt h1 hb l1
      by_cases hi : h = i
      · subst hi
        rw [if_pos rfl]
        cases t with
        | stay => cases h2
        | broken c x m b =>
          cases h2
          exact ⟨.broken s.ck h m b, (by cases s <;> first | rfl | cases h1), s1⟩
        | num c' =>
          cases h2
          cases s with
          | num c => exact ⟨_, rfl, l1.1, l2.2⟩
          | broken c x m b => exact absurd rfl (hb _ _ _ _)
          | _ => cases h1
        | text c' =>
          cases h2
          cases s with
          | text c => exact ⟨_, rfl, l1.1, l2.2⟩
          | broken c x m b => exact absurd rfl (hb _ _ _ _)
          | _ => cases h1
        | deed c' x y =>
          cases h2
          cases s with
          | deed c a b =>
            obtain ⟨_, _, l13, l14⟩ := l1
            obtain ⟨_, l22, l23, l24⟩ := l2
            simp only [Seal.hgt] at hn
            obtain ⟨p, e1, q1⟩ := leads_both n x a _ _ _ (by omega) l23 l13
            obtain ⟨q, e2, q2⟩ := leads_both n b y _ _ _ (by omega) l14 l24
            exact ⟨.deed c p q, by simp only [joinS, e1, e2], s1, l22, q1, q2⟩
          | broken c x m b => exact absurd rfl (hb _ _ _ _)
          | _ => cases h1
        | box c' x y =>
          cases h2
          cases s with
          | box c a b =>
            obtain ⟨_, _, l13, l14⟩ := l1
            obtain ⟨_, l22, l23, l24⟩ := l2
            simp only [Seal.hgt] at hn
            obtain ⟨p, e1, q1⟩ := leads_both n x a _ _ _ (by omega) l23 l13
            obtain ⟨q, e2, q2⟩ := leads_both n b y _ _ _ (by omega) l14 l24
            exact ⟨.box c p q, by simp only [joinS, e1, e2], s1, l22, q1, q2⟩
          | broken c x m b => exact absurd rfl (hb _ _ _ _)
          | _ => cases h1
      · rw [if_neg hi]
        have hx : t.ck ≠ none := by
          rcases s2 with ⟨_, hc⟩ | hg
          · exact hc
          · rcases t1 with rfl | hg2
            · cases hg
            · rw [hg] at hg2; exact absurd (Option.some.inj hg2).symm hi
        obtain ⟨⟨m, b⟩, hc⟩ := Option.ne_none_iff_exists'.mp hx
        rw [hc]
        exact ⟨_, rfl, s1⟩
    · have : ∃ c x m b, s = .broken c x m b := by
        cases s with
        | broken c x m b => exact ⟨c, x, m, b, rfl⟩
        | _ => exact absurd (fun c x m b => by simp) hb
      obtain ⟨c, x, m, b, rfl⟩ := this
      exact ⟨_, both_broken _ _ _ _ _, l1⟩
end Ev
set_option Elab.async false
set_option linter.all false
set_option autoImplicit false
set_option maxRecDepth 100000
set_option maxHeartbeats 4000000
set_option Elab.async false
set_option linter.all false
set_option autoImplicit false
set_option maxRecDepth 100000
set_option maxHeartbeats 4000000
namespace Ev
open PySem
open Form
/-- a row of seals, merged onto one -/
def rowM : Seal → List Seal → Option Seal
  | acc, [] => some acc
  | acc, s :: ss => match both acc s with | none => none | some r => rowM r ss
end Ev
set_option Elab.async false
set_option linter.all false
set_option autoImplicit false
set_option maxRecDepth 100000
set_option maxHeartbeats 4000000
set_option Elab.async false
set_option linter.all false
set_option autoImplicit false
set_option maxRecDepth 100000
set_option maxHeartbeats 4000000
set_option Elab.async false
set_option linter.all false
set_option autoImplicit false
set_option maxRecDepth 100000
set_option maxHeartbeats 4000000
set_option Elab.async false
set_option linter.all false
set_option autoImplicit false
set_option maxRecDepth 100000
set_option maxHeartbeats 4000000
set_option Elab.async false
set_option linter.all false
set_option autoImplicit false
set_option maxRecDepth 100000
set_option maxHeartbeats 4000000
namespace Ev
open PySem
open Form
def brk : Seal → Bool | .broken _ _ _ _ => true | _ => false
/-- leads, or stays -/
def Ld (s : Seal) (f g : Form) : Prop := (s = .stay ∧ f = g) ∨ leads s f g
theorem Ld_both {s t : Seal} {f g h : Form} (l1 : Ld s f g) (l2 : Ld t g h) : ∃ r, both s t = some r ∧ Ld r f h := by
  rcases l1 with ⟨rfl, rfl⟩ | l1
  · exact ⟨t, both_stay_l t, l2⟩
  · rcases l2 with ⟨rfl, rfl⟩ | l2
    · exact ⟨s, both_stay_r s, .inr l1⟩
    · obtain ⟨r, e, l⟩ := leads_both _ s t f g h (Nat.lt_succ_self _) l1 l2
      exact ⟨r, e, .inr l⟩
inductive Row : Form → List Seal → Form → Prop where
  | nil (f : Form) : Row f [] f
  | cons {f g h : Form} {s : Seal} {ss : List Seal} (l : Ld s f g) (r : Row g ss h) : Row f (s :: ss) h
theorem Row.app {f g h : Form} {xs ys : List Seal} (a : Row f xs g) (b : Row g ys h) : Row f (xs ++ ys) h := by
  induction a with
  | nil f => exact b
  | cons l r ih => exact .cons l (ih b)
theorem Row.some : ∀ {ss : List Seal} {acc : Seal} {e f g : Form}, Ld acc e f → Row f ss g → ∃ r, rowM acc ss = some r ∧ Ld r e g
  | [], acc, e, f, g, l, r => by cases r; exact ⟨acc, rfl, l⟩
  | s :: ss, acc, e, f, g, l, r => by
    cases r with
    | cons l2 r =>
      obtain ⟨a, h1, h2⟩ := Ld_both l l2
      obtain ⟨b, h3, h4⟩ := Row.some h2 r
      exact ⟨b, by simp only [rowM, h1]; exact h3, h4⟩
end Ev
set_option Elab.async false
set_option linter.all false
set_option autoImplicit false
set_option maxRecDepth 100000
set_option maxHeartbeats 4000000
set_option Elab.async false
set_option linter.all false
set_option autoImplicit false
set_option maxRecDepth 100000
set_option maxHeartbeats 4000000
namespace Ev
open PySem
open Form
theorem F2.len {α β : Type} {Q : α → β → Prop} {as : List α} {bs : List β} (h : F2 Q as bs) : bs.length = as.length := by
  induction h with
  | nil => rfl
  | cons _ _ ih => simp [ih]
abbrev Wl : Type := Txt × Form × Form
/-- a good wall, so high at most -/
def Wl.good (h : Nat) (w : Wl) : Prop := okMark w.1 = true ∧ hgt w.2.1 ≤ h ∧ hgt w.2.2 ≤ h ∧ near w.2.1 w.2.2 = true
inductive WRow : Form → List Wl → Form → Prop where
  | nil (f : Form) : WRow f [] f
  | cons {f g h : Form} {m : Txt} {ws : List Wl} (r : WRow g ws h) : WRow f ((m, f, g) :: ws) h
/-- the seals of a row of walls, sides told -/
inductive SRow : List Wl → List Seal → Prop where
  | nil : SRow [] []
  | cons {w : Wl} {ws : List Wl} {ss : List Seal} (b : Bool) (r : SRow ws ss) : SRow (w :: ws) (sf w.1 w.2.1 w.2.2 b :: ss)
theorem SRow.row {h : Nat} {ws : List Wl} {ss : List Seal} (r : SRow ws ss) : ∀ {f g : Form}, (∀ w ∈ ws, Wl.good h w) → WRow f ws g → Row f ss g := by
  induction r with
  | nil => intro f g _ w; cases w; exact .nil f
  | cons b r ih =>
    rename_i w ws ss
    intro f g hw w
    cases w with
    | cons w =>
      have h0 := hw _ (List.mem_cons_self ..)
      exact .cons (.inr (leads_sf _ h _ _ b h0.2.1 h0.2.2.1 h0.2.2.2)) (ih (fun x hx => hw x (List.mem_cons_of_mem _ hx)) w)
theorem SRow.len {ws : List Wl} {ss : List Seal} (r : SRow ws ss) : ss.length = ws.length := by
  induction r with
  | nil => rfl
  | cons b r ih => simp [ih]
end Ev
set_option Elab.async false
set_option linter.all false
set_option autoImplicit false
set_option maxRecDepth 100000
set_option maxHeartbeats 4000000
namespace Ev
open PySem
open Form
inductive Th where
  | fault (m : Txt) (b : Bool)
  | num (i : Int)
  | text (x : Txt)
  | held (h : Hd) (v : Int) (f : Form) (ls : List (Seal × Seal))
namespace Th
def hd : Th → Option Hd
  | fault _ _ => none | num _ => some .num | text _ => some .text | held h _ _ _ => some h
def add : Th → Seal × Seal → Th
  | held h v f ls, l => held h v f (ls ++ [l])
  | t, _ => t
def ins (ls : List (Seal × Seal)) : List Seal := ls.reverse.map (·.1)
def outs (ls : List (Seal × Seal)) : List Seal := ls.map (·.2)
/-- what is of a form -/
def Ty : Th → Form → Prop
  | fault _ _, _ => True
  | num _, f => tgtOk .num f
  | text _, f => tgtOk .text f
  | held h _ g ls, f => (h = .deed ∨ h = .box) ∧ tgtOk h f ∧ hdF g = some h ∧ Row (pt f).1 (ins ls) (pt g).1 ∧ Row (pt g).2 (outs ls) (pt f).2
def Alike : Th → Th → Prop
  | held h v g ls, held h' v' g' ls' => h = h' ∧ v = v' ∧ g = g' ∧ rowM .stay (ins ls) = rowM .stay (ins ls') ∧ rowM .stay (outs ls) = rowM .stay (outs ls')
  | held _ _ _ _, _ => False
  | _, held _ _ _ _ => False
  | t, t' => t = t'
def Eqv (f : Form) (t t' : Th) : Prop := Ty t f ∧ Ty t' f ∧ Alike t t'
theorem alike_refl (t : Th) : Alike t t := by cases t <;> simp [Alike]
theorem alike_trans {a b c : Th} (h1 : Alike a b) (h2 : Alike b c) : Alike a c := by
  cases a <;> cases b <;> cases c <;> simp_all [Alike]
theorem alike_symm {a b : Th} (h : Alike a b) : Alike b a := by
  cases a <;> cases b <;> simp_all [Alike]
theorem Eqv.refl {f : Form} {t : Th} (h : Ty t f) : Eqv f t t := ⟨h, h, alike_refl t⟩
theorem Eqv.trans {f : Form} {a b c : Th} (h1 : Eqv f a b) (h2 : Eqv f b c) : Eqv f a c := ⟨h1.1, h2.2.1, alike_trans h1.2.2 h2.2.2⟩
theorem Eqv.symm {f : Form} {a b : Th} (h1 : Eqv f a b) : Eqv f b a := ⟨h1.2.1, h1.1, alike_symm h1.2.2⟩
theorem ty_hd {t : Th} {f : Form} {h g : Hd} (ht : Ty t f) (e : t.hd = some h) (hf : hdF f = some g) : h = g := by
  cases t with
  | fault => cases e
  | num i => cases e; rcases ht with rfl | q <;> simp_all [hdF]
  | text i => cases e; rcases ht with rfl | q <;> simp_all [hdF]
  | held h v g ls => cases e; obtain ⟨_, q, _⟩ := ht; rcases q with rfl | q <;> simp_all [hdF]
/-- the head is told, or asked for -/
def Fits (t : Th) (s : Seal) : Prop := ∀ h g, t.hd = some h → s.head = some g → s.ck = none → h = g
theorem fits {t : Th} {s : Seal} {f g : Form} (ht : Ty t f) (l : Ld s f g) : Fits t s := by
  intro h k e1 e2 e3
  rcases l with ⟨rfl, _⟩ | l
  · cases e2
  · have q := leads_src e2 l
    rw [e3] at q
    rcases q with ⟨_, q⟩ | q
    · exact absurd rfl q
    · exact ty_hd ht e1 q
theorem Ty.stay {t : Th} {f g : Form} (ht : Ty t f) (l : Ld .stay f g) : Ty t g := by
  rcases l with ⟨_, rfl⟩ | ⟨rfl, rfl⟩ <;> exact ht
end Th
end Ev
set_option Elab.async false
set_option linter.all false
set_option autoImplicit false
set_option maxRecDepth 100000
set_option maxHeartbeats 4000000
namespace Ev
open PySem
open Form
mutual
def dok : Nat → D → Bool
  | _, .non => true
  | _, .bl _ => true
  | _, .int i => decide (0 ≤ i) && decide (i < 10)
  | _, .str x => x.all fun k => decide (k < 128)
  | _, .dic [] => true
  | n + 1, .tup xs => doks n xs
  | n + 1, .lst xs => doks n xs
  | _, _ => false
def doks : Nat → List D → Bool
  | _, [] => true
  | n, x :: xs => dok n x && doks n xs
end
mutual
/-- how much at most a repr is -/
def siz : D → Nat
  | .str x => 10 * x.length + 2
  | .tup xs => sizs xs + 3
  | .lst xs => sizs xs + 2
  | _ => 5
def sizs : List D → Nat
  | [] => 0
  | x :: xs => siz x + 2 + sizs xs
end
theorem dok_tup (n : Nat) (xs : List D) : dok (n + 1) (.tup xs) = doks n xs := by rw [dok]
theorem doks_cons (n : Nat) (x : D) (xs : List D) : doks n (x :: xs) = (dok n x && doks n xs) := by rw [doks]
theorem siz_tup (xs : List D) : siz (.tup xs) = sizs xs + 3 := by rw [siz]
theorem sizs_cons (x : D) (xs : List D) : sizs (x :: xs) = siz x + 2 + sizs xs := by rw [sizs]
theorem sizs_len : ∀ xs : List D, 2 * xs.length ≤ sizs xs
  | [] => Nat.le_refl _
  | x :: xs => by rw [sizs_cons]; have := sizs_len xs; simp only [List.length_cons]; omega
end Ev
set_option Elab.async false
set_option linter.all false
set_option autoImplicit false
set_option maxRecDepth 100000
set_option maxHeartbeats 4000000
namespace Ev
open PySem
open Form
def dec : Nat → D → Option Form
  | _, .str x => if x = [97,110,121] then some any else if x = [110,117,109] then some num else if x = [116,101,120,116] then some text else none
  | n + 1, .tup [.str w, a] => if w = [98,111,120] then (match dec n a with | some f => some (box f) | none => none) else none
  | n + 1, .tup [.str w, a, b] => if w = [100,101,101,100] then (match dec n a, dec n b with | some f, some g => some (deed f g) | _, _ => none) else none
  | _, _ => none
theorem dec_some : ∀ (n : Nat) (x : D) (f : Form), dec n x = some f → x = enc f ∧ hgt f ≤ n
  | n, .str x, f, h => by
    rw [dec] at h
    split at h
    · rename_i e; cases h; subst e; exact ⟨rfl, Nat.zero_le _⟩
    · split at h
      · rename_i e; cases h; subst e; exact ⟨rfl, Nat.zero_le _⟩
      · split at h
        · rename_i e; cases h; subst e; exact ⟨rfl, Nat.zero_le _⟩
        · cases h
  | n + 1, .tup [.str w, a], f, h => by
    rw [dec] at h
    split at h
    · rename_i e
      split at h
      · rename_i g hg
        cases h
        obtain ⟨e1, e2⟩ := dec_some n a g hg
        subst e e1
        exact ⟨rfl, by simp only [hgt]; omega⟩
      · cases h
    · cases h
  | n + 1, .tup [.str w, a, b], f, h => by
    rw [dec] at h
    split at h
    · rename_i e
      split at h
      · rename_i g g' hg hg'
        cases h
        obtain ⟨e1, e2⟩ := dec_some n a g hg
        obtain ⟨e3, e4⟩ := dec_some n b g' hg'
        subst e e1 e3
        exact ⟨rfl, by simp only [hgt]; omega⟩
      · cases h
    · cases h
  | 0, .tup _, f, h => by simp [dec] at h
  | 0, .non, f, h => by simp [dec] at h
  | n + 1, .non, f, h => by simp [dec] at h
  | n, .bl _, f, h => by cases n <;> simp [dec] at h
  | n, .int _, f, h => by cases n <;> simp [dec] at h
  | n, .lst _, f, h => by cases n <;> simp [dec] at h
  | n, .dic _, f, h => by cases n <;> simp [dec] at h
  | n, .ref _, f, h => by cases n <;> simp [dec] at h
  | n, .scr _, f, h => by cases n <;> simp [dec] at h
  | n + 1, .tup [], f, h => by simp [dec] at h
  | n + 1, .tup [_], f, h => by simp [dec] at h
  | n + 1, .tup (x :: y :: z :: w :: r), f, h => by simp [dec] at h
  | n + 1, .tup [.non, _], f, h => by simp [dec] at h
  | n + 1, .tup [.bl _, _], f, h => by simp [dec] at h
  | n + 1, .tup [.int _, _], f, h => by simp [dec] at h
  | n + 1, .tup [.tup _, _], f, h => by simp [dec] at h
  | n + 1, .tup [.lst _, _], f, h => by simp [dec] at h
  | n + 1, .tup [.dic _, _], f, h => by simp [dec] at h
  | n + 1, .tup [.ref _, _], f, h => by simp [dec] at h
  | n + 1, .tup [.scr _, _], f, h => by simp [dec] at h
  | n + 1, .tup [.non, _, _], f, h => by simp [dec] at h
  | n + 1, .tup [.bl _, _, _], f, h => by simp [dec] at h
  | n + 1, .tup [.int _, _, _], f, h => by simp [dec] at h
  | n + 1, .tup [.tup _, _, _], f, h => by simp [dec] at h
  | n + 1, .tup [.lst _, _, _], f, h => by simp [dec] at h
  | n + 1, .tup [.dic _, _, _], f, h => by simp [dec] at h
  | n + 1, .tup [.ref _, _, _], f, h => by simp [dec] at h
  | n + 1, .tup [.scr _, _, _], f, h => by simp [dec] at h
/-- forms.is_form_to of any data -/
theorem form_any (T : Tb) [Fn T 101 fd_101] : ∀ (n m : Nat) (x : D), dok m x = true → siz x ≤ 16777216 → ∀ (k : Nat) (S : Sto), n < k → callT T k 101 [x, .int n] S = .ok (.bl (dec n x).isSome) S := by
  intro n
  induction n with
  | zero =>
    intro m x hx hs k S hk
    obtain ⟨k, rfl⟩ : ∃ j, k = j + 1 := ⟨k - 1, by omega⟩
    rw [call_step]
    cases x with
    | str w =>
      by_cases h1 : w = [97,110,121]
      · subst h1; simp! [b_101, dec]
      by_cases h2 : w = [110,117,109]
      · subst h2; simp! [b_101, dec]
      by_cases h3 : w = [116,101,120,116]
      · subst h3; simp! [b_101, dec]
      have g1 : ¬ [97,110,121] = w := fun e => h1 e.symm
      have g2 : ¬ [110,117,109] = w := fun e => h2 e.symm
      have g3 : ¬ [116,101,120,116] = w := fun e => h3 e.symm
      simp! [b_101, dec, h1, h2, h3, g1, g2, g3]
    | tup xs =>
      cases xs with
      | nil => simp! [b_101, dec]
      | cons w ps => simp! [b_101, dec, eqo]
    | dic kvs => cases kvs with
      | nil => simp! [b_101, dec]
      | cons => simp [dok] at hx
    | ref _ => simp [dok] at hx
    | scr _ => simp [dok] at hx
    | _ => simp! [b_101, dec]
  | succ n ih =>
    intro m x hx hs k S hk
    obtain ⟨k, rfl⟩ : ∃ j, k = j + 1 := ⟨k - 1, by omega⟩
    rw [call_step]
    have hz : ¬ ((n : Int) + 1 = 0) := by omega
    have e1 : (n : Int) + 1 - 1 = (n : Int) := by omega
    cases x with
    | str w =>
      by_cases h1 : w = [97,110,121]
      · subst h1; simp! [b_101, dec]
      by_cases h2 : w = [110,117,109]
      · subst h2; simp! [b_101, dec]
      by_cases h3 : w = [116,101,120,116]
      · subst h3; simp! [b_101, dec]
      have g1 : ¬ [97,110,121] = w := fun e => h1 e.symm
      have g2 : ¬ [110,117,109] = w := fun e => h2 e.symm
      have g3 : ¬ [116,101,120,116] = w := fun e => h3 e.symm
      simp! [b_101, dec, h1, h2, h3, g1, g2, g3]
    | tup xs =>
      obtain ⟨m, rfl⟩ : ∃ j, m = j + 1 := by cases m with | zero => simp [dok] at hx | succ m => exact ⟨m, rfl⟩
      rw [dok_tup] at hx
      rw [siz_tup] at hs
      have hl := sizs_len xs
      cases xs with
      | nil => simp! [b_101, dec]
      | cons w ps =>
        rw [doks_cons, Bool.and_eq_true] at hx
        rw [sizs_cons] at hs
        have hl := sizs_len ps
        have l1 : ps.length ≤ 16777215 := by omega
        cases w with
        | str w =>
          by_cases h1 : w = [100,101,101,100]
          · subst h1
            match ps, hx.2, hs, l1 with
            | [], _, _, _ => simp! [b_101, dec, hz]
            | [a], _, _, _ => simp! [b_101, dec, hz]
            | [a, b], hx, hs, _ =>
              rw [doks_cons, doks_cons, Bool.and_eq_true, Bool.and_eq_true] at hx
              rw [sizs_cons, sizs_cons] at hs
              have ea := ih m a hx.1 (by omega) k S (by omega)
              have eb := ih m b hx.2.1 (by omega) k S (by omega)
              simp! [b_101, hz, e1, ea, eb]
              rw [dec]
              simp only [if_true]
              cases dec n a <;> cases dec n b <;> rfl
            | a :: b :: c :: r, _, _, l1 =>
              simp only [List.length_cons] at l1
              have q : ¬ ((r.length : Int) + 1 + 1 + 1 + 1 = 3) := by omega
              have l2 : r.length + 1 + 1 + 1 + 1 ≤ 16777216 := by omega
              have l3 : r.length + 1 + 1 + 1 ≤ 16777216 := by omega
              simp! [b_101, dec, hz, q, l2, l3]
          by_cases h2 : w = [98,111,120]
          · subst h2
            match ps, hx.2, hs, l1 with
            | [], _, _, _ => simp! [b_101, dec, hz]
            | [a, b], _, _, _ => simp! [b_101, dec, hz]
            | [a], hx, hs, _ =>
              rw [doks_cons, Bool.and_eq_true] at hx
              rw [sizs_cons] at hs
              have ea := ih m a hx.1 (by omega) k S (by omega)
              simp! [b_101, hz, e1, ea]
              rw [dec]
              simp only [if_true]
              cases dec n a <;> rfl
            | a :: b :: c :: r, _, _, l1 =>
              simp only [List.length_cons] at l1
              have q : ¬ ((r.length : Int) + 1 + 1 + 1 + 1 = 2) := by omega
              have l2 : r.length + 1 + 1 + 1 + 1 ≤ 16777216 := by omega
              have l3 : r.length + 1 + 1 + 1 ≤ 16777216 := by omega
              simp! [b_101, dec, hz, q, l2, l3]
          have d0 : dec (n + 1) (.tup (.str w :: ps)) = none := by
            match ps with
            | [] => simp [dec]
            | [a] => simp [dec, h2]
            | [a, b] => simp [dec, h1]
            | a :: b :: c :: r => simp [dec]
          have g1 : ¬ [100,101,101,100] = w := fun e => h1 e.symm
          have g2 : ¬ [98,111,120] = w := fun e => h2 e.symm
          have l2 : ps.length ≤ 16777216 := by omega
          simp! [b_101, d0, hz, g1, g2, h1, h2, l2]
        | ref _ => simp [dok] at hx
        | scr _ => simp [dok] at hx
        | _ =>
          have d0 : ∀ y : D, (∀ w, y ≠ .str w) → dec (n + 1) (.tup (y :: ps)) = none := fun y hy => by
            cases hq : dec (n + 1) (.tup (y :: ps)) with
            | none => rfl
            | some f =>
              obtain ⟨e, _⟩ := dec_some _ _ _ hq
              cases f <;> cases e <;> exact absurd rfl (hy _)
          have l2 : ps.length ≤ 16777216 := by omega
          rw [d0 _ (fun w e => by cases e)]
          simp! [b_101, hz, l2]
    | dic kvs => cases kvs with
      | nil => simp! [b_101, dec]
      | cons => simp [dok] at hx
    | ref _ => simp [dok] at hx
    | scr _ => simp [dok] at hx
    | _ => simp! [b_101, dec]
theorem is_form_any (T : Tb) [Fn T 101 fd_101] [Fn T 102 fd_102] (m : Nat) (x : D) (hx : dok m x = true) (hs : siz x ≤ 16777216) (k : Nat) (S : Sto) (hk : 6 < k) : callT T k 102 [x] S = .ok (.bl (dec 5 x).isSome) S := by
  obtain ⟨k, rfl⟩ : ∃ j, k = j + 1 := ⟨k - 1, by omega⟩
  rw [call_step]
  have e := form_any T 5 m x hx hs k S (by omega)
  have e : callT T k 101 [x, .int 5] S = .ok (.bl (dec 5 x).isSome) S := e
  simp_all! [b_102, e]
end Ev
set_option Elab.async false
set_option linter.all false
set_option autoImplicit false
set_option maxRecDepth 100000
set_option maxHeartbeats 4000000
namespace Ev
open PySem
open Form
def Seal.own (s : Seal) : Nat := if s.ck.isSome then 2 else 1
def Seal.ins : Seal → List Seal
  | .deed _ a b => [a, b]
  | .box _ a b => [a, b]
  | _ => []
end Ev
set_option Elab.async false
set_option linter.all false
set_option autoImplicit false
set_option maxRecDepth 100000
set_option maxHeartbeats 4000000
set_option Elab.async false
set_option linter.all false
set_option autoImplicit false
set_option maxRecDepth 100000
set_option maxHeartbeats 4000000
set_option Elab.async false
set_option linter.all false
set_option autoImplicit false
set_option maxRecDepth 100000
set_option maxHeartbeats 4000000
namespace Ev
open PySem
open Form
/-- the seal that asks nothing, of a form -/
def pl : Form → Seal
  | any => .stay
  | num => .num none
  | text => .text none
  | deed a c => .deed none (pl a) (pl c)
  | box a => .box none (pl a) (pl a)
end Ev
set_option Elab.async false
set_option linter.all false
set_option autoImplicit false
set_option maxRecDepth 100000
set_option maxHeartbeats 4000000
set_option Elab.async false
set_option linter.all false
set_option autoImplicit false
set_option maxRecDepth 100000
set_option maxHeartbeats 4000000
set_option Elab.async false
set_option linter.all false
set_option autoImplicit false
set_option maxRecDepth 100000
set_option maxHeartbeats 4000000
set_option Elab.async false
set_option linter.all false
set_option autoImplicit false
set_option maxRecDepth 100000
set_option maxHeartbeats 4000000
set_option Elab.async false
set_option linter.all false
set_option autoImplicit false
set_option maxRecDepth 100000
set_option maxHeartbeats 4000000
set_option Elab.async false
set_option linter.all false
set_option autoImplicit false
set_option maxRecDepth 100000
set_option maxHeartbeats 4000000
namespace Ev
open PySem
open Form
def hds : List Hd := [.num, .text, .deed, .box]
end Ev
set_option Elab.async false
set_option linter.all false
set_option autoImplicit false
set_option maxRecDepth 100000
set_option maxHeartbeats 4000000
namespace Ev
open PySem
open Form
/-- up to here it's read, and this stands behind -/
def Rd (t : Txt) (i : Nat) (s : Txt) : Prop := ∃ p, t = p ++ s ∧ i = p.length
theorem Rd.sw {t : Txt} {i : Nat} {s : Txt} (h : Rd t i s) (w : Txt) : swB t w i = w.isPrefixOf s := by
  obtain ⟨p, rfl, rfl⟩ := h
  unfold swB
  rw [List.drop_left' rfl, List.length_append]
  have : decide (p.length ≤ p.length + s.length) = true := by simp
  rw [this]; rfl
theorem Rd.le {t : Txt} {i : Nat} {s : Txt} (h : Rd t i s) : i + s.length = t.length := by
  obtain ⟨p, rfl, rfl⟩ := h
  simp
end Ev
set_option Elab.async false
set_option linter.all false
set_option autoImplicit false
set_option maxRecDepth 100000
set_option maxHeartbeats 4000000
set_option Elab.async false
set_option linter.all false
set_option autoImplicit false
set_option maxRecDepth 100000
set_option maxHeartbeats 4000000
set_option Elab.async false
set_option linter.all false
set_option autoImplicit false
set_option maxRecDepth 100000
set_option maxHeartbeats 4000000
set_option Elab.async false
set_option linter.all false
set_option autoImplicit false
set_option maxRecDepth 100000
set_option maxHeartbeats 4000000
set_option Elab.async false
set_option linter.all false
set_option autoImplicit false
set_option maxRecDepth 100000
set_option maxHeartbeats 4000000
namespace Ev
open PySem
open Form
def look (w : Txt) : List (Txt × Txt) → Option Txt
  | [] => none
  | (j, s) :: r => if j = w then some s else look w r
end Ev
set_option Elab.async false
set_option linter.all false
set_option autoImplicit false
set_option maxRecDepth 100000
set_option maxHeartbeats 4000000
namespace Ev
open PySem
open Form
/-- the store has only grown -/
def Gr (S S' : Sto) : Prop := ∃ J, S' = S ++ J ∧ J.all flatC = true
theorem Gr.refl {S : Sto} : Gr S S := ⟨[], by simp, rfl⟩
theorem Gr.trans {S S1 S2 : Sto} : Gr S S1 → Gr S1 S2 → Gr S S2 := fun ⟨J, e, f⟩ ⟨K, e2, f2⟩ => ⟨J ++ K, by rw [e2, e, List.append_assoc], by rw [List.all_append, f, f2]; rfl⟩
end Ev
set_option Elab.async false
set_option linter.all false
set_option autoImplicit false
set_option maxRecDepth 100000
set_option maxHeartbeats 4000000
set_option Elab.async false
set_option linter.all false
set_option autoImplicit false
set_option maxRecDepth 100000
set_option maxHeartbeats 4000000
set_option Elab.async false
set_option linter.all false
set_option autoImplicit false
set_option maxRecDepth 100000
set_option maxHeartbeats 4000000
namespace Ev
open PySem
def wp {α : Type} (r : Res α) (Q : α → Env → Sto → Prop) (E : Exn → Env → Sto → Prop) : Prop := match r with
  | .ok a ρ S => Q a ρ S
  | .exc x ρ S => E x ρ S
  | .bad => False
def noE : Exn → Env → Sto → Prop := fun _ _ _ => False
theorem wp_ok {α : Type} (a : α) (ρ : Env) (S : Sto) (Q : α → Env → Sto → Prop) (E : Exn → Env → Sto → Prop) : wp (.ok a ρ S) Q E = Q a ρ S := rfl
theorem wp_of {α : Type} {r : Res α} {a : α} {ρ : Env} {S : Sto} {Q : α → Env → Sto → Prop} {E : Exn → Env → Sto → Prop} (e : r = .ok a ρ S) (h : Q a ρ S) : wp r Q E := by rw [e]; exact h
theorem wp_to {α : Type} {r : Res α} {Q : α → Env → Sto → Prop} (h : wp r Q noE) : ∃ a ρ S, r = .ok a ρ S ∧ Q a ρ S := by
  cases r with
  | ok a ρ S => exact ⟨a, ρ, S, rfl, h⟩
  | exc x ρ S => exact h.elim
  | bad => exact h.elim
theorem wp_imp {α : Type} {r : Res α} {Q Q' : α → Env → Sto → Prop} {E E' : Exn → Env → Sto → Prop} (h : wp r Q E) (f : ∀ a ρ S, Q a ρ S → Q' a ρ S) (g : ∀ x ρ S, E x ρ S → E' x ρ S) : wp r Q' E' := by
  cases r with
  | ok a ρ S => exact f _ _ _ h
  | exc x ρ S => exact g _ _ _ h
  | bad => exact h.elim
/-- what is done behind -/
def kb {α β : Type} (f : α → M β) (Q : β → Env → Sto → Prop) (E : Exn → Env → Sto → Prop) : α → Env → Sto → Prop := fun a ρ S => wp (f a ρ S) Q E
theorem wp_bind {α β : Type} {m : M α} {f : α → M β} {ρ : Env} {S : Sto} {Q : β → Env → Sto → Prop} {E : Exn → Env → Sto → Prop} (h : wp (m ρ S) (kb f Q E) E) : wp (M.bind m f ρ S) Q E := by
  unfold M.bind Res.bind
  cases e : m ρ S with
  | ok a ρ S => rw [e] at h; exact h
  | exc x ρ S => rw [e] at h; exact h
  | bad => rw [e] at h; exact h
theorem wp_shut {α : Type} {r : Res α} {Q : α → Env → Sto → Prop} {E : Exn → Env → Sto → Prop} (h : ∀ K : α → Env → Sto → Prop, K = Q → wp r K E) : wp r Q E := h _ rfl
def ks (b : M Flow) (Q : Flow → Env → Sto → Prop) (E : Exn → Env → Sto → Prop) : Flow → Env → Sto → Prop := fun f ρ S => match f with
  | .nx => wp (b ρ S) Q E
  | f => Q f ρ S
theorem wp_seq {a b : M Flow} {ρ : Env} {S : Sto} {Q : Flow → Env → Sto → Prop} {E : Exn → Env → Sto → Prop} (h : wp (a ρ S) (ks b Q E) E) : wp (sSeq a b ρ S) Q E := by
  refine wp_bind (wp_imp h (fun f ρ S h => ?_) fun _ _ _ h => h)
  cases f <;> exact h
theorem wp_seq_i {a b : M Flow} {ρ : Env} {S : Sto} {Q : Flow → Env → Sto → Prop} {E : Exn → Env → Sto → Prop} (h : ∀ K : Flow → Env → Sto → Prop, K = ks b Q E → wp (a ρ S) K E) : wp (sSeq a b ρ S) Q E := wp_seq (h _ rfl)
theorem wp_cut {a b : M Flow} {ρ : Env} {S : Sto} {Q : Flow → Env → Sto → Prop} {E : Exn → Env → Sto → Prop} (P : Env → Sto → Prop) (h1 : wp (a ρ S) (fun f ρ S => f = .nx ∧ P ρ S) E) (h2 : ∀ ρ S, P ρ S → wp (b ρ S) Q E) : wp (sSeq a b ρ S) Q E := by
  refine wp_seq (wp_imp h1 (fun f ρ S h => ?_) fun _ _ _ h => h)
  obtain ⟨rfl, h⟩ := h
  exact h2 ρ S h
theorem ks_nx {b : M Flow} {ρ : Env} {S : Sto} {Q : Flow → Env → Sto → Prop} {E : Exn → Env → Sto → Prop} (h : wp (b ρ S) Q E) : ks b Q E .nx ρ S := h
/-- a call's end -/
def retK (P : D → Sto → Prop) : Flow → Env → Sto → Prop := fun f _ S => match f with
  | .nx => P .non S
  | .rt d => P d S
  | _ => False
theorem runW {T : Tb} {n : Nat} {fd : FD} [Fn T n fd] {k : Nat} {ds : List D} {S : Sto} {P : D → Sto → Prop} (hnp : ds.length = fd.np) (h : wp (fd.body (T.prm (callT T k)) ((ds.map fun d => some (.fz d)) ++ List.replicate (fd.ns - ds.length) none) S) (retK P) noE) : ∃ v S', callT T (k + 1) n ds S = .ok v S' ∧ P v S' := by
  rw [call_step]
  unfold runD
  rw [if_pos hnp]
  obtain ⟨f, ρ', S', e, q⟩ := wp_to h
  rw [e]
  cases f with
  | nx => exact ⟨_, _, rfl, q⟩
  | rt d => exact ⟨_, _, rfl, q⟩
  | _ => exact q.elim
def kl (I : List D → Env → Sto → Prop) (r : List D) (Q : Flow → Env → Sto → Prop) : Flow → Env → Sto → Prop := fun f ρ S => match f with
  | .nx => I r ρ S
  | .ct => I r ρ S
  | .br => Q .nx ρ S
  | f => Q f ρ S
theorem wp_loop {f : D → M Unit} {body : M Flow} {Q : Flow → Env → Sto → Prop} {E : Exn → Env → Sto → Prop} (I : List D → Env → Sto → Prop) (hs : ∀ d r ρ S, I (d :: r) ρ S → wp (M.bind (f d) (fun _ => body) ρ S) (kl I r Q) E) (he : ∀ ρ S, I [] ρ S → Q .nx ρ S) : ∀ (ds : List D) (ρ : Env) (S : Sto), I ds ρ S → wp (loopM f body ds ρ S) Q E
  | [], ρ, S, h => he ρ S h
  | d :: r, ρ, S, h => by
    have q : loopM f body (d :: r) = M.bind (M.bind (f d) fun _ => body) fun f' => match f' with
      | .nx => loopM f body r
      | .ct => loopM f body r
      | .br => M.pure .nx
      | f => M.pure f := (M.assoc _ _ _).symm
    rw [q]
    refine wp_bind (wp_imp (hs d r ρ S h) (fun f' ρ S h => ?_) fun _ _ _ h => h)
    cases f' with
    | nx => exact wp_loop I hs he r ρ S h
    | ct => exact wp_loop I hs he r ρ S h
    | _ => exact h
theorem wp_for {mi : M (List D)} {f : D → M Unit} {b : M Flow} {ρ : Env} {S : Sto} {Q : Flow → Env → Sto → Prop} {E : Exn → Env → Sto → Prop} (h : wp (mi ρ S) (fun ds ρ S => wp (loopM f b ds ρ S) Q E) E) : wp (sFor mi f b ρ S) Q E := wp_bind h
/-- a while, by a measure -/
def kwb (I : Nat → Env → Sto → Prop) (n : Nat) (Q : Flow → Env → Sto → Prop) : Flow → Env → Sto → Prop := fun f ρ S => match f with
  | .nx => ∃ m, m < n ∧ I m ρ S
  | .ct => ∃ m, m < n ∧ I m ρ S
  | .br => Q .nx ρ S
  | f => Q f ρ S
def kw (I : Nat → Env → Sto → Prop) (n : Nat) (b : M Flow) (Q : Flow → Env → Sto → Prop) (E : Exn → Env → Sto → Prop) : Bool → Env → Sto → Prop := fun k ρ S => match k with
  | true => wp (b ρ S) (kwb I n Q) E
  | false => Q .nx ρ S
theorem wp_fcomp {mi : M (List D)} {own : List Nat} {f : D → M Unit} {t : M Bool} {e : M D} {ρ : Env} {S : Sto} {Q : List D → Env → Sto → Prop} {E : Exn → Env → Sto → Prop} (h : wp (mi ρ S) (fun ds ρ S => wp (cmpR own f t e [] ds (wipeE ρ own) S) Q noE) E) : wp (fComp mi own f t e ρ S) Q E := by
  refine wp_bind (wp_imp h (fun ds ρ S h => ?_) fun _ _ _ h => h)
  obtain ⟨a, ρ', S', e, q⟩ := wp_to h
  show wp (Res.noX (cmpR own f t _ [] ds (wipeE ρ own) S)) Q E
  rw [e]
  exact q
/-- each thing of a list gives one -/
theorem wp_comp {own : List Nat} {f : D → M Unit} {e : M D} {ρ : Env} {S : Sto} {ds : List D} {Q : List D → Env → Sto → Prop} {E : Exn → Env → Sto → Prop} (J : Sto → Prop) (R : D → D → Prop) (hJ : J S) (hl : ds.length ≤ SZ)
    (hs : ∀ d ∈ ds, ∀ S, J S → wp ((M.bind (f d) fun _ => M.bind e fun v => M.bind (mWipe own) fun _ => M.pure v) ρ S) (fun v ρ' S' => ρ' = ρ ∧ R d v ∧ J S') noE) (he : ∀ vs S, F2 R ds vs → J S → Q vs ρ S) : wp (cmpR own f (M.pure true) e [] ds ρ S) Q E := by
  obtain ⟨vs, S', q, hJ', e'⟩ := comp_inv (own := own) (f := f) (e := e) (ρ := ρ) J R ds [] (fun d hd S h => by
    obtain ⟨v, ρ', S', e, hρ, r, j⟩ := wp_to (hs d hd S h)
    subst hρ
    exact ⟨v, S', r, j, e⟩) (by simpa using hl) S hJ
  rw [e', List.nil_append]
  exact he vs S' q hJ'
theorem F2.imp {α β : Type} {Q R : α → β → Prop} (f : ∀ a b, Q a b → R a b) : ∀ {as : List α} {bs : List β}, F2 Q as bs → F2 R as bs
  | _, _, .nil => .nil
  | _, _, .cons h t => .cons (f _ _ h) (t.imp f)
end Ev
set_option Elab.async false
set_option linter.all false
set_option autoImplicit false
set_option maxRecDepth 100000
set_option maxHeartbeats 4000000
set_option Elab.async false
set_option linter.all false
set_option autoImplicit false
set_option maxRecDepth 100000
set_option maxHeartbeats 4000000
set_option Elab.async false
set_option linter.all false
set_option autoImplicit false
set_option maxRecDepth 100000
set_option maxHeartbeats 4000000
local macro_rules | `(tactic| dsimp! [$ls,*]) => `(tactic| (refine Ev.wp_seq_i fun K hK => ?_; simp (decide := true) [Ev.runD, Ev.xEqE, Ev.sRetL, Ev.xCallF, Ev.mCallF, Ev.mCalkF, Ev.Form.enc, Ev.sSeq, Ev.sIf, Ev.sRet, Ev.sNx, Ev.sAsg, Ev.sEx, Ev.sRai, ↓Ev.mb, Ev.Res.bind, Ev.mp, Ev.M.of, Ev.mT, Ev.xIsi, Ev.mBor, Ev.mVar, Ev.isTy, Ev.mTruth, Ev.truth, Ev.mOr, Ev.mAnd, Ev.mIte, Ev.mNot, Ev.xCmp, Ev.cop, Ev.eqo_nn, Ev.eqo_nb, Ev.eqo_ni, Ev.eqo_ns, Ev.eqo_nt, Ev.eqo_nl, Ev.eqo_nd, Ev.eqo_bn, Ev.eqo_bb, Ev.eqo_bi, Ev.eqo_bs, Ev.eqo_bt, Ev.eqo_bl, Ev.eqo_bd, Ev.eqo_in, Ev.eqo_ib, Ev.eqo_ii, Ev.eqo_is, Ev.eqo_it, Ev.eqo_il, Ev.eqo_id, Ev.eqo_sn, Ev.eqo_sb, Ev.eqo_si, Ev.eqo_ss, Ev.eqo_st, Ev.eqo_sl, Ev.eqo_sd, Ev.eqo_tn, Ev.eqo_tb, Ev.eqo_ti, Ev.eqo_ts, Ev.eqo_te, Ev.eqo_tt, Ev.eqo_tl, Ev.eqo_td, Ev.eqo_ln, Ev.eqo_lb, Ev.eqo_li, Ev.eqo_ls, Ev.eqo_lt, Ev.eqo_ll, Ev.eqo_ld, Ev.eqo_dn, Ev.eqo_db, Ev.eqo_di, Ev.eqo_ds, Ev.eqo_dt, Ev.eqo_dl, Ev.eqo_dd, Ev.inOk, Ev.D.flat, Ev.xTup, Ev.aNil, Ev.aCons, Ev.mSet, Ev.plain_str, Ev.plain_tup, Ev.plain_int, Ev.plain_bl, Ev.plains_nil, Ev.plains_cons, Ev.eqb_str, Ev.eqb_int, Ev.eqb_bl, Ev.eqb_tup, Ev.eqbs_nil, Ev.eqbs_cn, Ev.eqbs_nc, Ev.eqbs_cc, Ev.eqb_nn, Ev.eqb_nb, Ev.eqb_ni, Ev.eqb_ns, Ev.eqb_nt, Ev.eqb_nl, Ev.eqb_nd, Ev.eqb_bn, Ev.eqb_bi, Ev.eqb_bs, Ev.eqb_bt, Ev.eqb_b_l, Ev.eqb_bd, Ev.eqb_in, Ev.eqb_ib, Ev.eqb_is, Ev.eqb_it, Ev.eqb_il, Ev.eqb_id, Ev.eqb_sn, Ev.eqb_sb, Ev.eqb_si, Ev.eqb_sl, Ev.eqb_sd, Ev.eqb_tn, Ev.eqb_tb, Ev.eqb_ti, Ev.eqb_tl, Ev.eqb_td, Ev.eqb_ln, Ev.eqb_lb, Ev.eqb_li, Ev.eqb_ls, Ev.eqb_lt, Ev.eqb_ll, Ev.eqb_ld, Ev.eqb_dn, Ev.eqb_db, Ev.eqb_di, Ev.eqb_ds, Ev.eqb_dt, Ev.eqb_dl, Ev.eqb_dd, Ev.plain_non, Ev.plain_lst, Ev.plain_dic, Ev.eqb_st, Ev.eqb_ts, Ev.xLen, Ev.bip, Ev.xIdx, Ev.mIdx, Ev.index, Ev.mItems, Ev.mList, Ev.xCall, Ev.pp_call, Ev.xBin, Ev.bop_ai, Ev.bop_as, Ev.bop_at, Ev.bop_al, Ev.bop_si, Ev.bop_mi, Ev.bop_ml, Ev.bop_mt, Ev.bop_ms, Ev.bop_mo, Ev.bop_fd, Ev.bop_pw, Ev.SZ, Ev.mSlc, Ev.mPart, Ev.slice, Ev.gUnp, Ev.gCon, Ev.gEnd, Ev.mLst, Ev.gUnpT, Ev.fListT, Ev.mSt, Ev.M.bad, Ev.mChn, Ev.sFor, Ev.loopM, Ev.xBi, Ev.xFz, Ev.fLst, Ev.mCalk, Ev.srcOf, Ev.isn_n, Ev.isn_b, Ev.isn_i, Ev.isn_s, Ev.isn_t, Ev.isn_l, Ev.isn_d, Ev.isn_r, Ev.isn_enc, Ev.fAdd, Ev.fMul, Ev.fList, Ev.asLst, Ev.sOwn, Ev.mOwn, Ev.sApp, Ev.mOwnHere, Ev.mApp, Ev.gStar, Ev.dget, Ev.atI, Ev.fComp, Ev.noX, Ev.Res.noX, Ev.mWipe, Ev.cmpR, Ev.wipeE, Ev.blsOf, Ev.intsOf, Ev.txtsOf, Ev.mZs, Ev.zsOf, Ev.zipD, Ev.mZip, Ev.zipOf, Ev.mRng1, Ev.mRng2, Ev.rngD, Ev.mCount, Ev.mIndexL, Ev.mMt, Ev.tyIs, Ev.mtp, Ev.findD, Ev.sTryAs, Ev.mIsE, Ev.noEx, Ev.sPar, Ev.sPar3, Ev.xRev, Ev.revD, Ev.sTry, Ev.reps, Ev.xNeg, Ev.negD, Ev.xDix, Ev.xDgt, Ev.mPop, Ev.mPopAt, Ev.mExt, Ev.sExt, Ev.xMth, Ev.mMth, Ev.xMak, Ev.mMak, Ev.xFld, Ev.mFld, Ev.insOf, Ev.fget, Ev.fput, Ev.sFst, Ev.mFpt, Ev.sFag, Ev.prmc, Ev.wp_ok, $ls,*]; subst hK; refine Ev.ks_nx ?_))
local macro_rules | `(tactic| dsimp! only [$ls,*]) => `(tactic| (refine Ev.wp_shut fun K hK => ?_; simp (decide := true) [Ev.runD, Ev.xEqE, Ev.sRetL, Ev.xCallF, Ev.mCallF, Ev.mCalkF, Ev.Form.enc, Ev.sSeq, Ev.sIf, Ev.sRet, Ev.sNx, Ev.sAsg, Ev.sEx, Ev.sRai, ↓Ev.mb, Ev.Res.bind, Ev.mp, Ev.M.of, Ev.mT, Ev.xIsi, Ev.mBor, Ev.mVar, Ev.isTy, Ev.mTruth, Ev.truth, Ev.mOr, Ev.mAnd, Ev.mIte, Ev.mNot, Ev.xCmp, Ev.cop, Ev.eqo_nn, Ev.eqo_nb, Ev.eqo_ni, Ev.eqo_ns, Ev.eqo_nt, Ev.eqo_nl, Ev.eqo_nd, Ev.eqo_bn, Ev.eqo_bb, Ev.eqo_bi, Ev.eqo_bs, Ev.eqo_bt, Ev.eqo_bl, Ev.eqo_bd, Ev.eqo_in, Ev.eqo_ib, Ev.eqo_ii, Ev.eqo_is, Ev.eqo_it, Ev.eqo_il, Ev.eqo_id, Ev.eqo_sn, Ev.eqo_sb, Ev.eqo_si, Ev.eqo_ss, Ev.eqo_st, Ev.eqo_sl, Ev.eqo_sd, Ev.eqo_tn, Ev.eqo_tb, Ev.eqo_ti, Ev.eqo_ts, Ev.eqo_te, Ev.eqo_tt, Ev.eqo_tl, Ev.eqo_td, Ev.eqo_ln, Ev.eqo_lb, Ev.eqo_li, Ev.eqo_ls, Ev.eqo_lt, Ev.eqo_ll, Ev.eqo_ld, Ev.eqo_dn, Ev.eqo_db, Ev.eqo_di, Ev.eqo_ds, Ev.eqo_dt, Ev.eqo_dl, Ev.eqo_dd, Ev.inOk, Ev.D.flat, Ev.xTup, Ev.aNil, Ev.aCons, Ev.mSet, Ev.plain_str, Ev.plain_tup, Ev.plain_int, Ev.plain_bl, Ev.plains_nil, Ev.plains_cons, Ev.eqb_str, Ev.eqb_int, Ev.eqb_bl, Ev.eqb_tup, Ev.eqbs_nil, Ev.eqbs_cn, Ev.eqbs_nc, Ev.eqbs_cc, Ev.eqb_nn, Ev.eqb_nb, Ev.eqb_ni, Ev.eqb_ns, Ev.eqb_nt, Ev.eqb_nl, Ev.eqb_nd, Ev.eqb_bn, Ev.eqb_bi, Ev.eqb_bs, Ev.eqb_bt, Ev.eqb_b_l, Ev.eqb_bd, Ev.eqb_in, Ev.eqb_ib, Ev.eqb_is, Ev.eqb_it, Ev.eqb_il, Ev.eqb_id, Ev.eqb_sn, Ev.eqb_sb, Ev.eqb_si, Ev.eqb_sl, Ev.eqb_sd, Ev.eqb_tn, Ev.eqb_tb, Ev.eqb_ti, Ev.eqb_tl, Ev.eqb_td, Ev.eqb_ln, Ev.eqb_lb, Ev.eqb_li, Ev.eqb_ls, Ev.eqb_lt, Ev.eqb_ll, Ev.eqb_ld, Ev.eqb_dn, Ev.eqb_db, Ev.eqb_di, Ev.eqb_ds, Ev.eqb_dt, Ev.eqb_dl, Ev.eqb_dd, Ev.plain_non, Ev.plain_lst, Ev.plain_dic, Ev.eqb_st, Ev.eqb_ts, Ev.xLen, Ev.bip, Ev.xIdx, Ev.mIdx, Ev.index, Ev.mItems, Ev.mList, Ev.xCall, Ev.pp_call, Ev.xBin, Ev.bop_ai, Ev.bop_as, Ev.bop_at, Ev.bop_al, Ev.bop_si, Ev.bop_mi, Ev.bop_ml, Ev.bop_mt, Ev.bop_ms, Ev.bop_mo, Ev.bop_fd, Ev.bop_pw, Ev.SZ, Ev.mSlc, Ev.mPart, Ev.slice, Ev.gUnp, Ev.gCon, Ev.gEnd, Ev.mLst, Ev.gUnpT, Ev.fListT, Ev.mSt, Ev.M.bad, Ev.mChn, Ev.sFor, Ev.loopM, Ev.xBi, Ev.xFz, Ev.fLst, Ev.mCalk, Ev.srcOf, Ev.isn_n, Ev.isn_b, Ev.isn_i, Ev.isn_s, Ev.isn_t, Ev.isn_l, Ev.isn_d, Ev.isn_r, Ev.isn_enc, Ev.fAdd, Ev.fMul, Ev.fList, Ev.asLst, Ev.sOwn, Ev.mOwn, Ev.sApp, Ev.mOwnHere, Ev.mApp, Ev.gStar, Ev.dget, Ev.atI, Ev.fComp, Ev.noX, Ev.Res.noX, Ev.mWipe, Ev.cmpR, Ev.wipeE, Ev.blsOf, Ev.intsOf, Ev.txtsOf, Ev.mZs, Ev.zsOf, Ev.zipD, Ev.mZip, Ev.zipOf, Ev.mRng1, Ev.mRng2, Ev.rngD, Ev.mCount, Ev.mIndexL, Ev.mMt, Ev.tyIs, Ev.mtp, Ev.findD, Ev.sTryAs, Ev.mIsE, Ev.noEx, Ev.sPar, Ev.sPar3, Ev.xRev, Ev.revD, Ev.sTry, Ev.reps, Ev.xNeg, Ev.negD, Ev.xDix, Ev.xDgt, Ev.mPop, Ev.mPopAt, Ev.mExt, Ev.sExt, Ev.xMth, Ev.mMth, Ev.xMak, Ev.mMak, Ev.xFld, Ev.mFld, Ev.insOf, Ev.fget, Ev.fput, Ev.sFst, Ev.mFpt, Ev.sFag, Ev.prmc, Ev.wp_ok, $ls,*]; subst hK))
namespace Ev
open PySem
open Form
def bnd : Nat → Nat | 0 => 3000 | d + 1 => 3 * bnd d + 3300
end Ev
set_option Elab.async false
set_option linter.all false
set_option autoImplicit false
set_option maxRecDepth 100000
set_option maxHeartbeats 4000000
set_option Elab.async false
set_option linter.all false
set_option autoImplicit false
set_option maxRecDepth 100000
set_option maxHeartbeats 4000000
namespace Ev
open PySem
open Form
def below (sh : Txt) (xs : List D) : List D := ((sh.zip xs).filter fun p => p.1 == 101).map (·.2)
end Ev
set_option Elab.async false
set_option linter.all false
set_option autoImplicit false
set_option maxRecDepth 100000
set_option maxHeartbeats 4000000
set_option Elab.async false
set_option linter.all false
set_option autoImplicit false
set_option maxRecDepth 100000
set_option maxHeartbeats 4000000
set_option Elab.async false
set_option linter.all false
set_option autoImplicit false
set_option maxRecDepth 100000
set_option maxHeartbeats 4000000
set_option Elab.async false
set_option linter.all false
set_option autoImplicit false
set_option maxRecDepth 100000
set_option maxHeartbeats 4000000
namespace Ev
open PySem
section
variable {Q : D → Env → Sto → Prop} {E : Exn → Env → Sto → Prop} {ρ : Env} {S : Sto}
theorem wp_ret {m : M D} {Q : Flow → Env → Sto → Prop} (h : wp (m ρ S) (fun d ρ S => Q (.rt d) ρ S) E) : wp (sRet m ρ S) Q E := wp_bind h
/-- all([e for .. in ..]), where each is true -/
theorem wp_all {mi : M (List D)} {own : List Nat} {f : D → M Unit} {e : M D} (J : Sto → Prop) {ds : List D} {ρ1 ρ2 : Env} {S1 : Sto} (hmi : mi ρ S = .ok ds ρ1 S1) (hw : wipeE ρ1 own = ρ2) (hl : ds.length ≤ SZ) (hJ : J S1)
    (hs : ∀ d ∈ ds, ∀ S, J S → wp ((M.bind (f d) fun _ => M.bind e fun v => M.bind (mWipe own) fun _ => M.pure v) ρ2 S) (fun v ρ' S' => ρ' = ρ2 ∧ v = .bl true ∧ J S') noE)
    (hQ : ∀ S', J S' → Q (.bl true) ρ2 S') : wp (xBi .all (aCons (xFz (fComp mi own f (M.pure true) e)) aNil) ρ S) Q E := by
  refine wp_bind (wp_bind (wp_bind (wp_fcomp (wp_of hmi ?_))))
  show wp (cmpR _ _ _ _ [] ds (wipeE ρ1 own) S1) _ _
  rw [hw]
  refine wp_comp J (fun _ v => v = .bl true) hJ hl hs (fun vs S2 q h1 => ?_)
  have ha := all_true _ _ q
  have hb : (blsOf vs).map (fun bs => D.bl (bs.all id)) = some (.bl true) := by
    cases q2 : blsOf vs with
    | none => rw [q2] at ha; cases ha
    | some bs => rw [q2] at ha; simp at ha ⊢; exact ha
  simp! [kb, wp_ok, hb]
  exact hQ S2 h1
end
end Ev
set_option Elab.async false
set_option linter.all false
set_option autoImplicit false
set_option maxRecDepth 100000
set_option maxHeartbeats 4000000
namespace Ev
open PySem
namespace k16
open Form
inductive Tr where | lfT (i : Nat) | ddT (a b : Tr) | bxT (a : Tr)
open Tr
def wd : Nat → Txt | 0 => [48] | 1 => [97,110,121] | 2 => [110,117,109] | _ => [116,101,120,116]
def st : Tr → Txt
  | lfT i => wd i
  | ddT a b => 40 :: (st a ++ 62 :: (st b ++ [41]))
  | bxT a => 91 :: (st a ++ [93])
def th : Tr → Nat | lfT _ => 0 | ddT a b => 1 + max (th a) (th b) | bxT a => 1 + th a
theorem rp_nil (y z : Txt) (k : Nat) : rpS y z k [] = [] := by cases k <;> rfl
theorem rp_skip (y z : Txt) : ∀ (l R : Txt), rpS y z l.length (l ++ R) = rpS y z 0 R
  | [], R => rfl
  | a :: l, R => rp_skip y z l R
theorem rp_hit (y0 : Nat) (ys z R : Txt) : rpS (y0 :: ys) z 0 ((y0 :: ys) ++ R) = z ++ rpS (y0 :: ys) z 0 R := by
  show (if (y0 :: ys).isPrefixOf (y0 :: (ys ++ R)) then z ++ rpS (y0 :: ys) z ys.length (ys ++ R) else _) = _
  rw [if_pos, rp_skip]
  exact List.isPrefixOf_iff_prefix.mpr ⟨R, rfl⟩
theorem rp_miss {y0 : Nat} (ys z R : Txt) {c : Nat} (h : c ≠ y0) : rpS (y0 :: ys) z 0 (c :: R) = c :: rpS (y0 :: ys) z 0 R := by
  rw [rpS, if_neg]
  intro q
  have q : ((y0 == c) && ys.isPrefixOf R) = true := q
  rw [Bool.and_eq_true, beq_iff_eq] at q
  exact h q.1.symm
theorem rp_not {y0 : Nat} (ys z R : Txt) {c : Nat} (h : ys.isPrefixOf R = false) : rpS (y0 :: ys) z 0 (c :: R) = c :: rpS (y0 :: ys) z 0 R := by
  rw [rpS, if_neg]
  intro q
  have q : ((y0 == c) && ys.isPrefixOf R) = true := q
  rw [h, Bool.and_false] at q
  cases q
theorem rp_len {y z : Txt} (hz : z.length ≤ 1) : ∀ (s : Txt) (k : Nat), (rpS y z k s).length ≤ s.length
  | [], k => by rw [rp_nil]; exact Nat.le_refl _
  | a :: s, k + 1 => Nat.le_trans (rp_len hz s k) (Nat.le_succ _)
  | a :: s, 0 => by
    rw [rpS]
    split
    · have := rp_len (y := y) hz s (y.length - 1)
      simp only [List.length_append, List.length_cons]; omega
    · have := rp_len (y := y) hz s 0
      simp only [List.length_cons]; omega
/-- what the scan has made is undone: a text with z told as y again -/
theorem rp_undo {y0 : Nat} {ys z : Txt} {P : Txt → Prop} (hP : ∀ u v, P (u ++ (z ++ v)) → P (u ++ ((y0 :: ys) ++ v))) : ∀ (n : Nat) (s u : Txt), s.length ≤ n → P (u ++ rpS (y0 :: ys) z 0 s) → P (u ++ s)
  | n, [], u, _, h => by rw [rp_nil] at h; exact h
  | 0, a :: s, u, hn, _ => absurd hn (by simp)
  | n + 1, a :: s, u, hn, h => by
    by_cases c : (y0 :: ys).isPrefixOf (a :: s) = true
    · obtain ⟨R, e⟩ := List.isPrefixOf_iff_prefix.mp c
      rw [← e] at h ⊢
      rw [rp_hit, ← List.append_assoc] at h
      have hl : R.length ≤ n := by
        have q := congrArg List.length e
        simp only [List.cons_append, List.length_cons, List.length_append] at q hn
        omega
      have q := rp_undo hP n R (u ++ z) hl h
      rw [List.append_assoc] at q
      exact hP u R q
    · rw [rpS, if_neg c, show u ++ a :: rpS (y0 :: ys) z 0 s = (u ++ [a]) ++ rpS (y0 :: ys) z 0 s by simp] at h
      have q := rp_undo hP n s (u ++ [a]) (by simp only [List.length_cons] at hn; omega) h
      simpa using q
theorem app_split {c : Nat} (hc : c ≠ 48) : ∀ (A B u v : Txt), A ++ c :: B = u ++ 48 :: v → (∃ w, A = u ++ 48 :: w ∧ v = w ++ c :: B) ∨ (∃ w, u = A ++ c :: w ∧ B = w ++ 48 :: v)
  | [], B, [], v, h => absurd (List.cons.inj h).1 hc
  | [], B, x :: u, v, h => .inr ⟨u, by have e := (List.cons.inj h).1; subst e; rfl, (List.cons.inj h).2⟩
  | a :: A, B, [], v, h => .inl ⟨A, by have e := (List.cons.inj h).1; subst e; rfl, (List.cons.inj h).2.symm⟩
  | a :: A, B, x :: u, v, h => by
    obtain ⟨e, h2⟩ := List.cons.inj h
    subst e
    rcases app_split hc A B u v h2 with ⟨w, rfl, e⟩ | ⟨w, rfl, e⟩
    · exact .inl ⟨w, rfl, e⟩
    · exact .inr ⟨w, rfl, e⟩
theorem wd_no {i : Nat} (h : i ≠ 0) : (48 : Nat) ∉ wd i := by
  match i, h with
  | 1, _ => decide
  | 2, _ => decide
  | n + 3, _ => show (48 : Nat) ∉ [116,101,120,116]; decide
theorem st_put (s : Tr) : ∀ (t : Tr) (u v : Txt), st t = u ++ 48 :: v → ∃ t', st t' = u ++ (st s ++ v)
  | lfT i, u, v, h => by
    by_cases z : i = 0
    · subst z
      match u, h with
      | [], h => exact ⟨s, by have e := (List.cons.inj h).2; subst e; simp⟩
      | x :: u, h => exact absurd (List.cons.inj h).2 (by simp)
    · exact absurd (show (48 : Nat) ∈ wd i by have h : wd i = u ++ 48 :: v := h; rw [h]; simp) (wd_no z)
  | ddT a b, u, v, h => by
    have h : 40 :: (st a ++ 62 :: (st b ++ [41])) = u ++ 48 :: v := h
    match u, h with
    | [], h => exact absurd (List.cons.inj h).1 (by decide)
    | x :: u, h =>
      obtain ⟨e, h2⟩ := List.cons.inj h
      subst e
      rcases app_split (c := 62) (by decide) _ _ _ _ h2 with ⟨w, h1, rfl⟩ | ⟨w, rfl, h1⟩
      · obtain ⟨t', e⟩ := st_put s a _ _ h1
        exact ⟨ddT t' b, by show 40 :: (st t' ++ 62 :: (st b ++ [41])) = _; rw [e]; simp⟩
      · rcases app_split (c := 41) (by decide) _ _ _ _ h1 with ⟨w2, h3, rfl⟩ | ⟨w2, rfl, h3⟩
        · obtain ⟨t', e⟩ := st_put s b _ _ h3
          exact ⟨ddT a t', by show 40 :: (st a ++ 62 :: (st t' ++ [41])) = _; rw [e]; simp⟩
        · exact absurd h3 (by simp)
  | bxT a, u, v, h => by
    have h : 91 :: (st a ++ [93]) = u ++ 48 :: v := h
    match u, h with
    | [], h => exact absurd (List.cons.inj h).1 (by decide)
    | x :: u, h =>
      obtain ⟨e, h2⟩ := List.cons.inj h
      subst e
      rcases app_split (c := 93) (by decide) _ _ _ _ h2 with ⟨w, h1, rfl⟩ | ⟨w, rfl, h1⟩
      · obtain ⟨t', e⟩ := st_put s a _ _ h1
        exact ⟨bxT t', by show 91 :: (st t' ++ [93]) = _; rw [e]; simp⟩
      · exact absurd h1 (by simp)
def isT (s : Txt) : Prop := ∃ t, st t = s
theorem isT_undo (s0 : Tr) {y0 : Nat} {ys : Txt} (hs : st s0 = y0 :: ys) {s : Txt} (h : isT (rpS (y0 :: ys) [48] 0 s)) : isT s := by
  refine rp_undo (P := isT) (u := []) (fun u v ⟨t, e⟩ => ?_) s.length s (Nat.le_refl _) h
  obtain ⟨t', e'⟩ := st_put s0 t u v e
  exact ⟨t', by rw [e', hs]⟩
def red1 (s : Txt) : Txt := rpS [91,48,93] [48] 0 (rpS [40,48,62,48,41] [48] 0 s)
def red6 (s : Txt) : Txt := red1 (red1 (red1 (red1 (red1 (red1 s)))))
def nought (s : Txt) : Txt := rpS [116,101,120,116] [48] 0 (rpS [110,117,109] [48] 0 (rpS [97,110,121] [48] 0 s))
theorem red1_len (s : Txt) : (red1 s).length ≤ s.length := Nat.le_trans (rp_len (by decide) _ _) (rp_len (by decide) _ _)
theorem isT_red {s : Txt} (h : isT (red1 s)) : isT s := isT_undo (ddT (lfT 0) (lfT 0)) rfl (isT_undo (bxT (lfT 0)) rfl h)
theorem isT_nought {s : Txt} (h : isT (nought s)) : isT s := isT_undo (lfT 1) rfl (isT_undo (lfT 2) rfl (isT_undo (lfT 3) rfl h))
def z1 (j : Nat) : Tr → Tr
  | lfT i => if i = j then lfT 0 else lfT i
  | ddT a b => ddT (z1 j a) (z1 j b)
  | bxT a => bxT (z1 j a)
theorem rp_word (j : Nat) (hj : j = 1 ∨ j = 2 ∨ j = 3) : ∀ (i : Nat), i ≤ 3 → ∀ R, rpS (wd j) [48] 0 (wd i ++ R) = st (z1 j (lfT i)) ++ rpS (wd j) [48] 0 R := by
  intro i hi R
  rcases hj with rfl | rfl | rfl <;> rcases (show i = 0 ∨ i = 1 ∨ i = 2 ∨ i = 3 by omega) with rfl | rfl | rfl | rfl <;> rfl
def low : Tr → Prop | lfT i => i ≤ 3 | ddT a b => low a ∧ low b | bxT a => low a
theorem wd_cons {j : Nat} : ∃ y0 ys, wd j = y0 :: ys ∧ y0 ≠ 40 ∧ y0 ≠ 62 ∧ y0 ≠ 41 ∧ y0 ≠ 91 ∧ y0 ≠ 93 := by
  match j with
  | 0 => exact ⟨_, _, rfl, by decide⟩
  | 1 => exact ⟨_, _, rfl, by decide⟩
  | 2 => exact ⟨_, _, rfl, by decide⟩
  | n + 3 => exact ⟨116, [101,120,116], rfl, by decide⟩
theorem rp_z1 (j : Nat) (hj : j = 1 ∨ j = 2 ∨ j = 3) : ∀ (t : Tr) (R : Txt), low t → rpS (wd j) [48] 0 (st t ++ R) = st (z1 j t) ++ rpS (wd j) [48] 0 R
  | lfT i, R, h => rp_word j hj i h R
  | ddT a b, R, h => by
    have ia := fun R => rp_z1 j hj a R h.1
    have ib := fun R => rp_z1 j hj b R h.2
    obtain ⟨y0, ys, e, n1, n2, n3, n4, n5⟩ := wd_cons (j := j)
    rw [show st (ddT a b) ++ R = 40 :: (st a ++ 62 :: (st b ++ 41 :: R)) by simp [st]]
    rw [e] at ia ib ⊢
    rw [rp_miss _ _ _ (Ne.symm n1), ia, rp_miss _ _ _ (Ne.symm n2), ib, rp_miss _ _ _ (Ne.symm n3)]
    simp [st, z1]
  | bxT a, R, h => by
    have ia := fun R => rp_z1 j hj a R h
    obtain ⟨y0, ys, e, n1, n2, n3, n4, n5⟩ := wd_cons (j := j)
    rw [show st (bxT a) ++ R = 91 :: (st a ++ 93 :: R) by simp [st]]
    rw [e] at ia ⊢
    rw [rp_miss _ _ _ (Ne.symm n4), ia, rp_miss _ _ _ (Ne.symm n5)]
    simp [st, z1]
theorem z1_low (j : Nat) : ∀ t, low t → low (z1 j t)
  | lfT i, h => by
    unfold z1
    split
    · exact Nat.zero_le _
    · exact h
  | ddT a b, h => ⟨z1_low j a h.1, z1_low j b h.2⟩
  | bxT a, h => z1_low j a h
theorem z1_th (j : Nat) : ∀ t, th (z1 j t) = th t
  | lfT i => by unfold z1; split <;> rfl
  | ddT a b => by simp only [z1, th, z1_th j a, z1_th j b]
  | bxT a => by simp only [z1, th, z1_th j a]
/-- nothing but 0 at the leaves -/
def all0 : Tr → Prop | lfT i => i = 0 | ddT a b => all0 a ∧ all0 b | bxT a => all0 a
theorem z1_all : ∀ t, low t → all0 (z1 3 (z1 2 (z1 1 t)))
  | lfT i, h => by
    have h : i ≤ 3 := h
    rcases (show i = 0 ∨ i = 1 ∨ i = 2 ∨ i = 3 by omega) with rfl | rfl | rfl | rfl <;> rfl
  | ddT a b, h => ⟨z1_all a h.1, z1_all b h.2⟩
  | bxT a, h => z1_all a h
theorem nought_st (t : Tr) (h : low t) : nought (st t) = st (z1 3 (z1 2 (z1 1 t))) := by
  have e1 := rp_z1 1 (by decide) t [] h
  have e2 := rp_z1 2 (by decide) (z1 1 t) [] (z1_low 1 t h)
  have e3 := rp_z1 3 (by decide) (z1 2 (z1 1 t)) [] (z1_low 2 _ (z1_low 1 t h))
  rw [List.append_nil, rp_nil, List.append_nil] at e1 e2 e3
  have e1 : rpS [97,110,121] [48] 0 (st t) = _ := e1
  have e2 : rpS [110,117,109] [48] 0 (st (z1 1 t)) = _ := e2
  have e3 : rpS [116,101,120,116] [48] 0 (st (z1 2 (z1 1 t))) = _ := e3
  unfold nought
  rw [e1, e2, e3]
def is0 : Tr → Bool | lfT _ => true | _ => false
def rd1 : Tr → Tr
  | lfT i => lfT i
  | ddT a b => if is0 a && is0 b then lfT 0 else ddT (rd1 a) (rd1 b)
  | bxT a => bxT (rd1 a)
def rb1 : Tr → Tr
  | lfT i => lfT i
  | ddT a b => ddT (rb1 a) (rb1 b)
  | bxT a => if is0 a then lfT 0 else bxT (rb1 a)
theorem st_first {t : Tr} (h : is0 t = false) (R : Txt) : ∃ c r, st t ++ R = c :: r ∧ (c = 40 ∨ c = 91) := by
  cases t with
  | lfT i => cases h
  | ddT a b => exact ⟨_, _, rfl, .inl rfl⟩
  | bxT a => exact ⟨_, _, rfl, .inr rfl⟩
theorem st_zero {t : Tr} (h : is0 t = true) (h0 : all0 t) : t = lfT 0 := by
  cases t with
  | lfT i => have h0 : i = 0 := h0; rw [h0]
  | ddT a b => cases h
  | bxT a => cases h
theorem rp_rd1 : ∀ (t : Tr) (R : Txt), all0 t → rpS [40,48,62,48,41] [48] 0 (st t ++ R) = st (rd1 t) ++ rpS [40,48,62,48,41] [48] 0 R
  | lfT i, R, h => by have h : i = 0 := h; subst h; rfl
  | ddT a b, R, h => by
    have ia := fun R => rp_rd1 a R h.1
    have ib := fun R => rp_rd1 b R h.2
    rw [show st (ddT a b) ++ R = 40 :: (st a ++ 62 :: (st b ++ 41 :: R)) by simp [st]]
    unfold rd1
    by_cases c : (is0 a && is0 b) = true
    · rw [if_pos c]
      rw [Bool.and_eq_true] at c
      rw [st_zero c.1 h.1, st_zero c.2 h.2]
      rfl
    · rw [if_neg c]
      have no : List.isPrefixOf [48,62,48,41] (st a ++ 62 :: (st b ++ 41 :: R)) = false := by
        cases ca : is0 a with
        | false =>
          obtain ⟨x, r, e, hx⟩ := st_first ca (62 :: (st b ++ 41 :: R))
          rw [e]
          rcases hx with rfl | rfl <;> rfl
        | true =>
          cases cb : is0 b with
          | false =>
            rw [st_zero ca h.1]
            obtain ⟨x, r, e, hx⟩ := st_first cb (41 :: R)
            rw [e]
            rcases hx with rfl | rfl <;> rfl
          | true => rw [ca, cb] at c; exact absurd rfl c
      rw [rp_not _ _ _ no, ia, rp_miss _ _ _ (by decide), ib, rp_miss _ _ _ (by decide)]
      simp [st]
  | bxT a, R, h => by
    have ia := fun R => rp_rd1 a R h
    rw [show st (bxT a) ++ R = 91 :: (st a ++ 93 :: R) by simp [st], rp_miss _ _ _ (by decide), ia, rp_miss _ _ _ (by decide)]
    simp [st, rd1]
theorem rp_rb1 : ∀ (t : Tr) (R : Txt), all0 t → rpS [91,48,93] [48] 0 (st t ++ R) = st (rb1 t) ++ rpS [91,48,93] [48] 0 R
  | lfT i, R, h => by have h : i = 0 := h; subst h; rfl
  | ddT a b, R, h => by
    have ia := fun R => rp_rb1 a R h.1
    have ib := fun R => rp_rb1 b R h.2
    rw [show st (ddT a b) ++ R = 40 :: (st a ++ 62 :: (st b ++ 41 :: R)) by simp [st], rp_miss _ _ _ (by decide), ia, rp_miss _ _ _ (by decide), ib, rp_miss _ _ _ (by decide)]
    simp [st, rb1]
  | bxT a, R, h => by
    have ia := fun R => rp_rb1 a R h
    rw [show st (bxT a) ++ R = 91 :: (st a ++ 93 :: R) by simp [st]]
    unfold rb1
    cases ca : is0 a with
    | true => rw [st_zero ca h]; rfl
    | false =>
      have no : List.isPrefixOf [48,93] (st a ++ 93 :: R) = false := by
        obtain ⟨x, r, e, hx⟩ := st_first ca (93 :: R)
        rw [e]
        rcases hx with rfl | rfl <;> rfl
      rw [rp_not _ _ _ no, ia, rp_miss _ _ _ (by decide)]
      simp [st]
theorem rd1_all : ∀ t, all0 t → all0 (rd1 t)
  | lfT i, h => h
  | ddT a b, h => by
    unfold rd1
    split
    · rfl
    · exact ⟨rd1_all a h.1, rd1_all b h.2⟩
  | bxT a, h => rd1_all a h
theorem rb1_all : ∀ t, all0 t → all0 (rb1 t)
  | lfT i, h => h
  | ddT a b, h => ⟨rb1_all a h.1, rb1_all b h.2⟩
  | bxT a, h => by
    unfold rb1
    split
    · rfl
    · exact rb1_all a h
theorem is0_th {t : Tr} : is0 t = true ↔ th t = 0 := by
  cases t <;> simp [is0, th]
theorem th_red : ∀ t, th (rb1 (rd1 t)) ≤ th t - 1
  | lfT i => Nat.le_refl _
  | ddT a b => by
    have ia := th_red a
    have ib := th_red b
    unfold rd1
    by_cases c : (is0 a && is0 b) = true
    · rw [if_pos c]; exact Nat.zero_le _
    · rw [if_neg c]
      have : ¬ (th a = 0 ∧ th b = 0) := fun z => c (by rw [Bool.and_eq_true]; exact ⟨is0_th.mpr z.1, is0_th.mpr z.2⟩)
      show 1 + max (th (rb1 (rd1 a))) (th (rb1 (rd1 b))) ≤ 1 + max (th a) (th b) - 1
      omega
  | bxT a => by
    have ia := th_red a
    show th (rb1 (bxT (rd1 a))) ≤ 1 + th a - 1
    unfold rb1
    by_cases c : is0 (rd1 a) = true
    · rw [if_pos c]; exact Nat.zero_le _
    · rw [if_neg c]
      show 1 + th (rb1 (rd1 a)) ≤ _
      by_cases z : th a = 0
      · have q := is0_th.mpr z
        cases a with
        | lfT i => exact absurd rfl c
        | ddT x y => cases q
        | bxT x => cases q
      · omega
theorem red1_st (t : Tr) (h : all0 t) : red1 (st t) = st (rb1 (rd1 t)) ∧ all0 (rb1 (rd1 t)) := by
  have e1 := rp_rd1 t [] h
  have e2 := rp_rb1 (rd1 t) [] (rd1_all t h)
  rw [List.append_nil, rp_nil, List.append_nil] at e1 e2
  unfold red1
  rw [e1, e2]
  exact ⟨rfl, rb1_all _ (rd1_all t h)⟩
theorem red6_st (t : Tr) (h : all0 t) (hh : th t ≤ 6) : red6 (st t) = [48] := by
  obtain ⟨e1, a1⟩ := red1_st t h
  obtain ⟨e2, a2⟩ := red1_st _ a1
  obtain ⟨e3, a3⟩ := red1_st _ a2
  obtain ⟨e4, a4⟩ := red1_st _ a3
  obtain ⟨e5, a5⟩ := red1_st _ a4
  obtain ⟨e6, a6⟩ := red1_st _ a5
  unfold red6
  rw [e1, e2, e3, e4, e5, e6]
  have n1 := th_red t
  have n2 := th_red (rb1 (rd1 t))
  have n3 := th_red (rb1 (rd1 (rb1 (rd1 t))))
  have n4 := th_red (rb1 (rd1 (rb1 (rd1 (rb1 (rd1 t))))))
  have n5 := th_red (rb1 (rd1 (rb1 (rd1 (rb1 (rd1 (rb1 (rd1 t))))))))
  have n6 := th_red (rb1 (rd1 (rb1 (rd1 (rb1 (rd1 (rb1 (rd1 (rb1 (rd1 t))))))))))
  rw [st_zero (is0_th.mpr (by omega)) a6]
  rfl
def hv : Txt → Int → Int → Int
  | [], _, m => m
  | c :: r, d, m =>
    let d1 := if c = 40 ∨ c = 91 then d + 1 else d
    let m1 := if c = 40 ∨ c = 91 then max m d1 else m
    hv r (if c = 41 ∨ c = 93 then d1 - 1 else d1) m1
theorem hv_plain : ∀ (w R : Txt) (d m : Int), (∀ c ∈ w, ¬ (c = 40 ∨ c = 91) ∧ ¬ (c = 41 ∨ c = 93)) → hv (w ++ R) d m = hv R d m
  | [], R, d, m, _ => rfl
  | c :: w, R, d, m, h => by
    obtain ⟨h1, h2⟩ := h c (List.mem_cons_self ..)
    show hv (w ++ R) _ _ = _
    rw [if_neg h1, if_neg h2, if_neg h1]
    exact hv_plain w R d m fun x hx => h x (List.mem_cons_of_mem _ hx)
theorem wd_plain (i : Nat) : ∀ c ∈ wd i, ¬ (c = 40 ∨ c = 91) ∧ ¬ (c = 41 ∨ c = 93) := by
  match i with
  | 0 => decide
  | 1 => decide
  | 2 => decide
  | n + 3 => show ∀ c ∈ [116,101,120,116], ¬ (c = 40 ∨ c = 91) ∧ ¬ (c = 41 ∨ c = 93); decide
theorem hv_st : ∀ (t : Tr) (R : Txt) (d m : Int), d ≤ m → hv (st t ++ R) d m = hv R d (max m (d + th t))
  | lfT i, R, d, m, h => by
    have e := hv_plain (wd i) R d m (wd_plain i)
    show hv (wd i ++ R) d m = _
    rw [e]
    congr 1
    show m = max m (d + ((0 : Nat) : Int)); omega
  | ddT a b, R, d, m, h => by
    rw [show st (ddT a b) ++ R = 40 :: (st a ++ 62 :: (st b ++ 41 :: R)) by simp [st]]
    have e1 : hv (40 :: (st a ++ 62 :: (st b ++ 41 :: R))) d m = hv (st a ++ 62 :: (st b ++ 41 :: R)) (d + 1) (max m (d + 1)) := rfl
    have e2 : ∀ x, hv (62 :: (st b ++ 41 :: R)) (d + 1) x = hv (st b ++ 41 :: R) (d + 1) x := fun _ => rfl
    have e3 : ∀ x, hv (41 :: R) (d + 1) x = hv R (d + 1 - 1) x := fun _ => rfl
    rw [e1, hv_st a _ _ _ (by omega), e2, hv_st b _ _ _ (by omega), e3]
    rw [show d + 1 - 1 = d by omega]
    congr 1
    simp only [th]
    omega
  | bxT a, R, d, m, h => by
    rw [show st (bxT a) ++ R = 91 :: (st a ++ 93 :: R) by simp [st]]
    have e1 : hv (91 :: (st a ++ 93 :: R)) d m = hv (st a ++ 93 :: R) (d + 1) (max m (d + 1)) := rfl
    have e3 : ∀ x, hv (93 :: R) (d + 1) x = hv R (d + 1 - 1) x := fun _ => rfl
    rw [e1, hv_st a _ _ _ (by omega), e3, show d + 1 - 1 = d by omega]
    congr 1
    simp only [th]
    omega
def fo : Form → Tr | any => lfT 1 | num => lfT 2 | text => lfT 3 | deed a b => ddT (fo a) (fo b) | box a => bxT (fo a)
theorem st_fo : ∀ f, st (fo f) = txt f
  | any => rfl | num => rfl | text => rfl
  | deed a b => by simp only [fo, st, txt, st_fo a, st_fo b]
  | box a => by simp only [fo, st, txt, st_fo a]
theorem th_fo : ∀ f, th (fo f) = hgt f
  | any => rfl | num => rfl | text => rfl
  | deed a b => by simp only [fo, th, hgt, th_fo a, th_fo b]
  | box a => by simp only [fo, th, hgt, th_fo a]
theorem low_fo : ∀ f, low (fo f)
  | any => by show 1 ≤ 3; omega
  | num => by show 2 ≤ 3; omega
  | text => by show 3 ≤ 3; omega
  | deed a b => ⟨low_fo a, low_fo b⟩
  | box a => low_fo a
theorem fo_of : ∀ t, (48 : Nat) ∉ st t → ∃ f, txt f = st t ∧ hgt f = th t
  | lfT i, h => by
    match i with
    | 0 => exact absurd (by show (48 : Nat) ∈ [48]; simp) h
    | 1 => exact ⟨any, rfl, rfl⟩
    | 2 => exact ⟨num, rfl, rfl⟩
    | n + 3 => exact ⟨text, rfl, rfl⟩
  | ddT a b, h => by
    obtain ⟨f, e1, h1⟩ := fo_of a fun q => h (by simp [st, q])
    obtain ⟨g, e2, h2⟩ := fo_of b fun q => h (by simp [st, q])
    exact ⟨deed f g, by simp [st, txt, e1, e2], by simp [hgt, th, h1, h2]⟩
  | bxT a, h => by
    obtain ⟨f, e1, h1⟩ := fo_of a fun q => h (by simp [st, q])
    exact ⟨box f, by simp [st, txt, e1], by simp [hgt, th, h1]⟩
theorem txt_no (f : Form) : (48 : Nat) ∉ txt f := by
  induction f with
  | any => decide
  | num => decide
  | text => decide
  | deed a b ha hb => simp [txt, ha, hb]
  | box a ha => simp [txt, ha]
/-- the law's own look -/
def isText (s : Txt) : Bool := !(decide ((48 : Nat) ∈ s)) && decide (hv s 0 0 ≤ 5) && (red6 (nought s) == [48])
theorem isText_iff (s : Txt) : isText s = true ↔ ∃ f, txt f = s ∧ hgt f ≤ 5 := by
  unfold isText
  rw [Bool.and_eq_true, Bool.and_eq_true, Bool.not_eq_true', decide_eq_false_iff_not, decide_eq_true_iff, beq_iff_eq]
  constructor
  · rintro ⟨⟨h1, h2⟩, h3⟩
    have q : isT s := isT_nought (isT_red (isT_red (isT_red (isT_red (isT_red (isT_red ⟨lfT 0, h3.symm⟩))))))
    obtain ⟨t, rfl⟩ := q
    obtain ⟨f, e, hf⟩ := fo_of t h1
    have e5 := hv_st t [] 0 0 (by omega)
    rw [List.append_nil] at e5
    rw [e5] at h2
    have h2 : max (0 : Int) (0 + th t) ≤ 5 := h2
    exact ⟨f, e, by omega⟩
  · rintro ⟨f, rfl, hf⟩
    refine ⟨⟨txt_no f, ?_⟩, ?_⟩
    · have e5 := hv_st (fo f) [] 0 0 (by omega)
      rw [List.append_nil, st_fo, th_fo] at e5
      rw [e5]
      show max (0 : Int) (0 + hgt f) ≤ 5
      omega
    · rw [← st_fo, nought_st _ (low_fo f)]
      exact red6_st _ (z1_all _ (low_fo f)) (by rw [z1_th, z1_th, z1_th, th_fo]; omega)
theorem isText_rd (s : Txt) : isText s = (rd s).isSome := by
  rw [Bool.eq_iff_iff, isText_iff, Option.isSome_iff_exists]
  constructor
  · rintro ⟨f, rfl, h⟩; exact ⟨f, rd_txt f h⟩
  · rintro ⟨f, h⟩; exact ⟨f, rd_sound h⟩
end k16
end Ev
set_option Elab.async false
set_option linter.all false
set_option autoImplicit false
set_option maxRecDepth 100000
set_option maxHeartbeats 4000000
namespace Ev
open PySem
namespace k16
open Form
theorem law_written (f : Form) : ∀ (k : Nat) (S : Sto), hgt f < k → hgt f ≤ 50 → (txt f).length ≤ 1000 → callT TT k 297 [enc f] S = .ok (.str (txt f)) S := by
  induction f with
  | deed a b iha ihb =>
    intro k S hk h50 hl
    obtain ⟨k, rfl⟩ : ∃ j, k = j + 1 := ⟨k - 1, by omega⟩
    rw [call_step]
    have hp1 := plain_deed 60 a b (by omega)
    simp only [hgt] at hk h50
    simp only [txt, List.length_cons, List.length_append, List.length_nil] at hl
    have ea := iha k S (by omega) (by omega) (by omega)
    have eb := ihb k S (by omega) (by omega) (by omega)
    have l1 : 1 + (txt a).length ≤ 16777216 := by omega
    have l2 : 1 + (txt a).length + 1 ≤ 16777216 := by omega
    have l3 : (txt a).length + 1 + 1 ≤ 16777216 := by omega
    have l4 : (txt a).length + 1 ≤ 16777216 := by omega
    have l5 : (txt a).length + ((txt b).length + 1) ≤ 16777215 := by omega
    have l6 : (txt a).length ≤ 16777215 := by omega
    have l7 : (txt a).length ≤ 16777214 := by omega
    have l8 : (txt a).length + 1 + 1 + (txt b).length ≤ 16777216 := by omega
    have l9 : (txt a).length + 1 + (txt b).length ≤ 16777215 := by omega
    have l10 : (txt a).length + ((txt b).length + 1) + 1 ≤ 16777216 := by omega
    have l11 : (txt a).length + ((txt b).length + 1) ≤ 16777214 := by omega
    simp! [b_297, txt, hp1, ea, eb, l1, l2, l3, l4, l5, l6, l7, l8, l9, l10, l11]
  | box a iha =>
    intro k S hk h50 hl
    obtain ⟨k, rfl⟩ : ∃ j, k = j + 1 := ⟨k - 1, by omega⟩
    rw [call_step]
    have hp1 := plain_box 60 a (by omega)
    simp only [hgt] at hk h50
    simp only [txt, List.length_cons, List.length_append, List.length_nil] at hl
    have ea := iha k S (by omega) (by omega) (by omega)
    have l1 : 1 + (txt a).length ≤ 16777216 := by omega
    have l3 : (txt a).length + 1 + 1 ≤ 16777216 := by omega
    have l4 : (txt a).length + 1 ≤ 16777216 := by omega
    have l6 : (txt a).length ≤ 16777215 := by omega
    have l7 : (txt a).length ≤ 16777214 := by omega
    simp! [b_297, txt, hp1, ea, l1, l3, l4, l6, l7]
  | _ =>
    intro k S hk h50 hl
    obtain ⟨k, rfl⟩ : ∃ j, k = j + 1 := ⟨k - 1, by omega⟩
    rw [call_step]
    simp! [b_297, txt]
/-- forms of a height drawn -/
theorem high_drawn (h : Nat) : ∀ (S : Sto) (n k : Nat), Pot S n → h + 2 < k → ∃ (f : Form) (S' : Sto), callT TT k 428 [.ref n, .int h] S = .ok (enc f) S' ∧ hgt f = h ∧ Pot S' n := by
  induction h with
  | zero =>
    intro S n k hp hk
    obtain ⟨k, rfl⟩ : ∃ j, k = j + 1 := ⟨k - 1, by omega⟩
    rw [call_step]
    obtain ⟨f, S1, e1, hf, p1, _⟩ := form_drawn TT 0 S n k hp (by omega)
    have e1 : callT TT k 114 [.ref n, .int 0] S = .ok (enc f) S1 := e1
    refine ⟨f, S1, ?_, by omega, p1⟩
    generalize enc f = fe at *
    simp_all! [b_428, e1]
  | succ h ih =>
    intro S n k hp hk
    obtain ⟨k, rfl⟩ : ∃ j, k = j + 1 := ⟨k - 1, by omega⟩
    rw [call_step]
    have hz : ¬ ((h : Int) + 1 = 0) := by omega
    have hh : (h : Int) + 1 - 1 = h := by omega
    obtain ⟨f, S1, e1, hf, p1⟩ := ih S n k hp (by omega)
    obtain ⟨g, S2, e2, hg, p2, _⟩ := form_drawn TT h S1 n k p1 (by omega)
    obtain ⟨d, S3, e3, hd, p3, _⟩ := digit TT p2 3 (by omega) (by omega) k (by omega)
    have e3 : callT TT k 113 [.ref n, .int 3] S2 = .ok (.int d) S3 := e3
    have l1 : bop .add (.tup [.str [100,101,101,100]]) (.tup [enc f, enc g]) = some (.tup [.str [100,101,101,100], enc f, enc g]) := rfl
    have l2 : bop .add (.tup [.str [100,101,101,100]]) (.tup [enc g, enc f]) = some (.tup [.str [100,101,101,100], enc g, enc f]) := rfl
    rcases three hd with rfl | rfl | rfl
    · refine ⟨deed f g, S3, ?_, by simp only [hgt]; omega, p3⟩
      simp only [enc]
      generalize enc f = fe at *
      generalize enc g = ge at *
      simp_all! [b_428, e1, e2, e3, hz, hh, l1, l2, atI, xRev, revD]
    · refine ⟨deed g f, S3, ?_, by simp only [hgt]; omega, p3⟩
      simp only [enc]
      generalize enc f = fe at *
      generalize enc g = ge at *
      simp_all! [b_428, e1, e2, e3, hz, hh, l1, l2, atI, xRev, revD]
    · refine ⟨box f, S3, ?_, by simp only [hgt]; omega, p3⟩
      simp only [enc]
      generalize enc f = fe at *
      generalize enc g = ge at *
      simp_all! [b_428, e1, e2, e3, hz, hh, l1, l2, atI, xRev, revD]
theorem rpl_ok {s : Txt} (y z : Txt) (h : s.length ≤ 10000) (hz : z.length ≤ 1) (hy : 1 ≤ y.length) (ρ : Env) (S : Sto) : rplD y z (D.str s) ρ S = .ok (D.str (rpS y z 0 s)) ρ S := by
  have q : s.length + (s.length + 1) * z.length ≤ 16777216 ∧ 1 ≤ y.length := ⟨by
    have : (s.length + 1) * z.length ≤ (s.length + 1) * 1 := Nat.mul_le_mul_left _ hz
    omega, hy⟩
  show (if s.length + (s.length + 1) * z.length ≤ 16777216 ∧ 1 ≤ y.length then M.pure (D.str (rpS y z 0 s)) else M.bad) ρ S = _
  rw [if_pos q]
  rfl
theorem turn_red (s x0 : Txt) (x2 : Option SV) (h : s.length ≤ 10000) (j : Int) (S : Sto) (P : Prm) : (M.bind (mSet 2 (.int j)) fun _ => (sAsg (xRpl (xRpl (mVar 1) [40,48,62,48,41] [48]) [91,48,93] [48]) (mSet 1))) [some (.fz (.str x0)), some (.fz (.str s)), x2] S = .ok .nx [some (.fz (.str x0)), some (.fz (.str (red1 s))), some (.fz (.int j))] S := by
  have r1 := fun ρ S => rpl_ok [40,48,62,48,41] [48] h (by decide) (by decide) ρ S
  have r2 := fun ρ S => rpl_ok (s := rpS [40,48,62,48,41] [48] 0 s) [91,48,93] [48] (Nat.le_trans (rp_len (by decide) _ _) h) (by decide) (by decide) ρ S
  unfold red1
  generalize rpS [91,48,93] [48] 0 (rpS [40,48,62,48,41] [48] 0 s) = s2 at *
  generalize rpS [40,48,62,48,41] [48] 0 s = s1 at *
  simp_all! [xRpl, r1, r2]
theorem reduced (s : Txt) (h : s.length ≤ 10000) (k : Nat) (hk : 0 < k) (S : Sto) : callT TT k 142 [.str s] S = .ok (.str (red6 s)) S := by
  obtain ⟨k, rfl⟩ : ∃ j, k = j + 1 := ⟨k - 1, by omega⟩
  have t1 := turn_red s s none h 0 S (TT.prm (callT TT k))
  have h1 : (red1 s).length ≤ 10000 := Nat.le_trans (red1_len _) h
  have t2 := turn_red (red1 s) s (some (.fz (.int 0))) h1 1 S (TT.prm (callT TT k))
  have h2 := Nat.le_trans (red1_len _) h1
  have t3 := turn_red _ s (some (.fz (.int 1))) h2 2 S (TT.prm (callT TT k))
  have h3 := Nat.le_trans (red1_len _) h2
  have t4 := turn_red _ s (some (.fz (.int 2))) h3 3 S (TT.prm (callT TT k))
  have h4 := Nat.le_trans (red1_len _) h3
  have t5 := turn_red _ s (some (.fz (.int 3))) h4 4 S (TT.prm (callT TT k))
  have h5 := Nat.le_trans (red1_len _) h4
  have t6 := turn_red _ s (some (.fz (.int 4))) h5 5 S (TT.prm (callT TT k))
  have lp : loopM (mSet 2) ((sAsg (xRpl (xRpl (mVar 1) [40,48,62,48,41] [48]) [91,48,93] [48]) (mSet 1))) (rngD 0 6) [some (.fz (.str s)), some (.fz (.str s)), none] S = .ok .nx [some (.fz (.str s)), some (.fz (.str (red6 s))), some (.fz (.int 5))] S := by
    show loopM _ _ [.int 0, .int 1, .int 2, .int 3, .int 4, .int 5] _ _ = _
    rw [loop_step t1, loop_step t2, loop_step t3, loop_step t4, loop_step t5, loop_step t6]
    rfl
  clear t1 t2 t3 t4 t5 t6
  generalize red6 s = s6 at *
  obtain ⟨v, S', e, rfl, rfl⟩ := runW (T := TT) (n := 142) (k := k) (ds := [.str s]) (S := S) (P := fun v S' => v = .str s6 ∧ S' = S) rfl (by
    show wp ((sSeq (sAsg (mVar 0) (mSet 1)) (sSeq (sFor (mRng1 (aCons (M.pure (.int 6)) aNil)) (mSet 2) (sAsg (xRpl (xRpl (mVar 1) [40,48,62,48,41] [48]) [91,48,93] [48]) (mSet 1))) (sRet (mVar 1)))) [some (.fz (.str s)), none, none] S) _ noE
    refine wp_seq (wp_of (a := .nx) (ρ := [some (.fz (.str s)), some (.fz (.str s)), none]) (S := S) rfl (ks_nx ?_))
    refine wp_seq (wp_for (wp_of (rng_lit 6 (by decide) _ _) (wp_of lp (ks_nx ?_))))
    exact ⟨rfl, rfl⟩)
  exact e
theorem hv_step (c : Nat) (r : Txt) (d m : Int) : hv (c :: r) d m = hv r (if c = 41 ∨ c = 93 then (if c = 40 ∨ c = 91 then d + 1 else d) - 1 else if c = 40 ∨ c = 91 then d + 1 else d) (if c = 40 ∨ c = 91 then max m (if c = 40 ∨ c = 91 then d + 1 else d) else m) := rfl
theorem in_two (c a b : Nat) : cop .in_ (.str [c]) (.str [a, b]) = some (decide (c = a ∨ c = b)) := by
  show some (decide (c ∈ [a, b])) = _
  simp
theorem high_of (s : Txt) (h : s.length ≤ 10000) (k : Nat) (hk : 0 < k) (S : Sto) : callT TT k 429 [.str s] S = .ok (.int (hv s 0 0)) S := by
  obtain ⟨k, rfl⟩ : ∃ j, k = j + 1 := ⟨k - 1, by omega⟩
  obtain ⟨v, S', e, rfl, rfl⟩ := runW (T := TT) (n := 429) (k := k) (ds := [.str s]) (S := S) (P := fun v S' => v = .int (hv s 0 0) ∧ S' = S) rfl (by
    show wp ((sSeq (sAsg (xTup (aCons (M.pure (.int 0)) (aCons (M.pure (.int 0)) aNil))) (gUnp 2 (gCon (mSet 1) (gCon (mSet 2) gEnd)))) (sSeq (sFor (mItems (mVar 0)) (mSet 3) (sSeq (sIf (mT (xCmp .in_ (mBor 3) (M.pure (.str [40,91])))) (sSeq (sAsg (xBin .add (mVar 1) (M.pure (.int 1))) (mSet 1)) (sAsg (xBi .max2 (aCons (mVar 2) (aCons (mVar 1) aNil))) (mSet 2))) sNx) (sIf (mT (xCmp .in_ (mBor 3) (M.pure (.str [41,93])))) (sAsg (xBin .sub (mVar 1) (M.pure (.int 1))) (mSet 1)) sNx))) (sRet (mVar 2)))) [some (.fz (.str s)), none, none, none] S) _ noE
    refine wp_seq (wp_of (a := .nx) (ρ := [some (.fz (.str s)), some (.fz (.int 0)), some (.fz (.int 0)), none]) (S := S) rfl (ks_nx ?_))
    refine wp_seq (wp_for (wp_of (a := s.map fun c => D.str [c]) (ρ := [some (.fz (.str s)), some (.fz (.int 0)), some (.fz (.int 0)), none]) (S := S) (by show (if s.length ≤ SZ then M.pure (s.map fun c => D.str [c]) else M.bad) _ S = _; rw [if_pos (by unfold SZ; omega)]; rfl) ?_))
    refine wp_loop (fun ds ρ S' => S' = S ∧ ∃ (r : Txt) (d m : Int) (x3 : Option SV), ds = r.map (fun c => D.str [c]) ∧ hv r d m = hv s 0 0 ∧ ρ = [some (.fz (.str s)), some (.fz (.int d)), some (.fz (.int m)), x3]) ?_ ?_ _ _ _ ⟨rfl, s, 0, 0, none, rfl, rfl, rfl⟩
    · rintro d r ρ S1 ⟨rfl, r2, dp, ms, x3, hr, hh, rfl⟩
      cases r2 with
      | nil => cases hr
      | cons c r2 =>
        obtain ⟨rfl, rfl⟩ := List.cons.inj hr
        rw [hv_step] at hh
        have e1 := in_two c 40 91
        have e2 := in_two c 41 93
        by_cases c1 : c = 40 ∨ c = 91
        · have c2 : ¬ (c = 41 ∨ c = 93) := by omega
          rw [if_neg c2, if_pos c1, if_pos c1] at hh
          rw [decide_eq_true c1] at e1
          rw [decide_eq_false c2] at e2
          have mx : (if dp + 1 > ms then dp + 1 else ms) = max ms (dp + 1) := by split <;> omega
          dsimp! only [c1, c2, mx]
          exact ⟨rfl, r2, _, _, _, rfl, hh, rfl⟩
        · rw [if_neg c1, if_neg c1] at hh
          rw [decide_eq_false c1] at e1
          by_cases c2 : c = 41 ∨ c = 93
          · rw [if_pos c2] at hh
            rw [decide_eq_true c2] at e2
            dsimp! only [c1, c2]
            exact ⟨rfl, r2, _, _, _, rfl, hh, rfl⟩
          · rw [if_neg c2] at hh
            rw [decide_eq_false c2] at e2
            dsimp! only [c1, c2]
            exact ⟨rfl, r2, _, _, _, rfl, hh, rfl⟩
    · rintro ρ S1 ⟨rfl, r2, dp, ms, x3, hr, hh, rfl⟩
      have : r2 = [] := by cases r2 with
        | nil => rfl
        | cons c r2 => cases hr
      subst this
      have hh : ms = hv s 0 0 := hh
      subst hh
      exact ks_nx ⟨rfl, rfl⟩)
  exact e
end k16
end Ev
set_option Elab.async false
set_option linter.all false
set_option autoImplicit false
set_option maxRecDepth 100000
set_option maxHeartbeats 4000000
namespace Ev
open PySem
namespace k16
open Form
theorem is_text (s : Txt) (h : s.length ≤ 10000) (k : Nat) (hk : 1 < k) (S : Sto) : callT TT k 144 [.str s] S = .ok (.bl (isText s)) S := by
  obtain ⟨k, rfl⟩ : ∃ j, k = j + 1 := ⟨k - 1, by omega⟩
  rw [call_step]
  have e1 := high_of s h k (by omega) S
  have r1 := fun ρ S => rpl_ok [97,110,121] [48] h (by decide) (by decide) ρ S
  have l1 : (rpS [97,110,121] [48] 0 s).length ≤ 10000 := Nat.le_trans (rp_len (by decide) _ _) h
  have r2 := fun ρ S => rpl_ok [110,117,109] [48] l1 (by decide) (by decide) ρ S
  have l2 : (rpS [110,117,109] [48] 0 (rpS [97,110,121] [48] 0 s)).length ≤ 10000 := Nat.le_trans (rp_len (by decide) _ _) l1
  have r3 := fun ρ S => rpl_ok [116,101,120,116] [48] l2 (by decide) (by decide) ρ S
  have l3 : (rpS [116,101,120,116] [48] 0 (rpS [110,117,109] [48] 0 (rpS [97,110,121] [48] 0 s))).length ≤ 10000 := Nat.le_trans (rp_len (by decide) _ _) l2
  have e2 := reduced _ l3 k (by omega) S
  unfold isText nought
  generalize hv s 0 0 = m at *
  generalize rpS [116,101,120,116] [48] 0 (rpS [110,117,109] [48] 0 (rpS [97,110,121] [48] 0 s)) = s3 at *
  generalize rpS [110,117,109] [48] 0 (rpS [97,110,121] [48] 0 s) = s2 at *
  generalize rpS [97,110,121] [48] 0 s = s1 at *
  by_cases c : (48 : Nat) ∈ s
  · simp_all! [b_144, c]
  · by_cases c2 : m ≤ 5
    · have c3 : ¬ 5 < m := by omega
      simp_all! [b_144, c, c2, c3, e1, xRpl, r1, r2, r3, e2]
    · have c3 : 5 < m := by omega
      simp_all! [b_144, c, c2, c3, e1]
theorem spoilt (t : Txt) (hl : t.length ≤ 5000) (S : Sto) (n k : Nat) (hp : Pot S n) (hk : 1 < k) : ∃ (u : Txt) (S' : Sto), callT TT k 430 [.ref n, .str t] S = .ok (.str u) S' ∧ u.length ≤ 2 * t.length + 1 ∧ Pot S' n := by
  obtain ⟨k, rfl⟩ : ∃ j, k = j + 1 := ⟨k - 1, by omega⟩
  rw [call_step]
  have hl2 : t.length ≤ 16777216 := by omega
  obtain ⟨d1, S1, e1, hd1, p1, _⟩ := digit TT hp (t.length + 1) (by omega) (Nat.le_trans (show t.length + 1 ≤ 5001 by omega) (by decide)) k (by omega)
  rw [show ((t.length + 1 : Nat) : Int) = (t.length : Int) + 1 by omega] at e1
  obtain ⟨d2, S2, e2, hd2, p2, _⟩ := digit TT p1 14 (by omega) (by decide) k (by omega)
  have e2 : callT TT k 113 [.ref n, .int 14] S1 = .ok (.int d2) S2 := e2
  obtain ⟨d3, S3, e3, hd3, p3, _⟩ := digit TT p2 4 (by omega) (by decide) k (by omega)
  have e3 : callT TT k 113 [.ref n, .int 4] S2 = .ok (.int d3) S3 := e3
  obtain ⟨c, hc⟩ : ∃ c, ([40,41,91,93,62,97,110,116,117,120,32,44,48,45] : List Nat)[d2]? = some c := by
    have q : d2 < ([40,41,91,93,62,97,110,116,117,120,32,44,48,45] : List Nat).length := hd2
    exact ⟨_, List.getElem?_eq_getElem q⟩
  have a1 := cut_len t none (some (d1 : Int))
  have a2 := cut_len t (some (d1 : Int)) none
  have a3 := cut_len t (some ((d1 : Int) + 1)) none
  have a12 : (cut t none (some (d1 : Int))).length + (cut t (some (d1 : Int)) none).length ≤ 2 * t.length := by omega
  generalize (d1 : Int) = di at *
  generalize hA : cut t none (some di) = A at *
  generalize hB : cut t (some di) none = B at *
  generalize hC : cut t (some (di + 1)) none = C at *
  have b1 : bop .add (.str A) (.str [c]) = some (.str (A ++ [c])) := bop_asC _ _ (by simp; omega)
  have b2 : bop .add (.str (A ++ [c])) (.str B) = some (.str (A ++ [c] ++ B)) := bop_asC _ _ (by simp; omega)
  have b3 : bop .add (.str (A ++ [c])) (.str C) = some (.str (A ++ [c] ++ C)) := bop_asC _ _ (by simp; omega)
  have b4 : bop .add (.str A) (.str C) = some (.str (A ++ C)) := bop_asC _ _ (by omega)
  have b5 : bop .add (.str B) (.str A) = some (.str (B ++ A)) := bop_asC _ _ (by omega)
  rcases (show d3 = 0 ∨ d3 = 1 ∨ d3 = 2 ∨ d3 = 3 by omega) with rfl | rfl | rfl | rfl
  · exact ⟨A ++ C, S3, by simp (decide := true) [runD, xEqE, sRetL, xCallF, mCallF, mCalkF, Form.enc, sSeq, sIf, sRet, sNx, sAsg, sEx, sRai, ↓mb, Res.bind, mp, M.of, mT, xIsi, mBor, mVar, isTy, mTruth, truth, mOr, mAnd, mIte, mNot, xCmp, cop, eqo_nn, eqo_nb, eqo_ni, eqo_ns, eqo_nt, eqo_nl, eqo_nd, eqo_bn, eqo_bb, eqo_bi, eqo_bs, eqo_bt, eqo_bl, eqo_bd, eqo_in, eqo_ib, eqo_ii, eqo_is, eqo_it, eqo_il, eqo_id, eqo_sn, eqo_sb, eqo_si, eqo_ss, eqo_st, eqo_sl, eqo_sd, eqo_tn, eqo_tb, eqo_ti, eqo_ts, eqo_te, eqo_tt, eqo_tl, eqo_td, eqo_ln, eqo_lb, eqo_li, eqo_ls, eqo_lt, eqo_ll, eqo_ld, eqo_dn, eqo_db, eqo_di, eqo_ds, eqo_dt, eqo_dl, eqo_dd, inOk, D.flat, xTup, aNil, aCons, mSet, plain_str, plain_tup, plain_int, plain_bl, plains_nil, plains_cons, eqb_str, eqb_int, eqb_bl, eqb_tup, eqbs_nil, eqbs_cn, eqbs_nc, eqbs_cc, eqb_nn, eqb_nb, eqb_ni, eqb_ns, eqb_nt, eqb_nl, eqb_nd, eqb_bn, eqb_bi, eqb_bs, eqb_bt, eqb_b_l, eqb_bd, eqb_in, eqb_ib, eqb_is, eqb_it, eqb_il, eqb_id, eqb_sn, eqb_sb, eqb_si, eqb_sl, eqb_sd, eqb_tn, eqb_tb, eqb_ti, eqb_tl, eqb_td, eqb_ln, eqb_lb, eqb_li, eqb_ls, eqb_lt, eqb_ll, eqb_ld, eqb_dn, eqb_db, eqb_di, eqb_ds, eqb_dt, eqb_dl, eqb_dd, plain_non, plain_lst, plain_dic, eqb_st, eqb_ts, xLen, bip, xIdx, mIdx, index, mItems, mList, xCall, pp_call, xBin, bop_ai, bop_at, bop_al, bop_si, bop_mi, bop_ml, bop_mt, bop_ms, bop_mo, bop_fd, bop_pw, SZ, mSlc, mPart, slice, gUnp, gCon, gEnd, mLst, gUnpT, fListT, mSt, M.bad, mChn, sFor, loopM, xBi, xFz, fLst, mCalk, srcOf, isn_n, isn_b, isn_i, isn_s, isn_t, isn_l, isn_d, isn_r, isn_enc, fAdd, fMul, fList, asLst, sOwn, mOwn, sApp, mOwnHere, mApp, gStar, dget, atI, fComp, noX, Res.noX, mWipe, cmpR, wipeE, blsOf, intsOf, txtsOf, mZs, zsOf, zipD, mZip, zipOf, mRng1, mRng2, rngD, mCount, mIndexL, mMt, tyIs, mtp, findD, sTryAs, mIsE, noEx, sPar, sPar3, xRev, revD, sTry, reps, xNeg, negD, xDix, xDgt, mPop, mPopAt, mExt, sExt, xMth, mMth, xMak, mMak, xFld, mFld, insOf, fget, fput, sFst, mFpt, sFag, prmc, b_430, e1, e2, e3, hc, hl2, hA, hB, hC, b1, b2, b3, b4, b5], by simp; omega, p3⟩
  · exact ⟨A ++ [c] ++ B, S3, by simp (decide := true) [runD, xEqE, sRetL, xCallF, mCallF, mCalkF, Form.enc, sSeq, sIf, sRet, sNx, sAsg, sEx, sRai, ↓mb, Res.bind, mp, M.of, mT, xIsi, mBor, mVar, isTy, mTruth, truth, mOr, mAnd, mIte, mNot, xCmp, cop, eqo_nn, eqo_nb, eqo_ni, eqo_ns, eqo_nt, eqo_nl, eqo_nd, eqo_bn, eqo_bb, eqo_bi, eqo_bs, eqo_bt, eqo_bl, eqo_bd, eqo_in, eqo_ib, eqo_ii, eqo_is, eqo_it, eqo_il, eqo_id, eqo_sn, eqo_sb, eqo_si, eqo_ss, eqo_st, eqo_sl, eqo_sd, eqo_tn, eqo_tb, eqo_ti, eqo_ts, eqo_te, eqo_tt, eqo_tl, eqo_td, eqo_ln, eqo_lb, eqo_li, eqo_ls, eqo_lt, eqo_ll, eqo_ld, eqo_dn, eqo_db, eqo_di, eqo_ds, eqo_dt, eqo_dl, eqo_dd, inOk, D.flat, xTup, aNil, aCons, mSet, plain_str, plain_tup, plain_int, plain_bl, plains_nil, plains_cons, eqb_str, eqb_int, eqb_bl, eqb_tup, eqbs_nil, eqbs_cn, eqbs_nc, eqbs_cc, eqb_nn, eqb_nb, eqb_ni, eqb_ns, eqb_nt, eqb_nl, eqb_nd, eqb_bn, eqb_bi, eqb_bs, eqb_bt, eqb_b_l, eqb_bd, eqb_in, eqb_ib, eqb_is, eqb_it, eqb_il, eqb_id, eqb_sn, eqb_sb, eqb_si, eqb_sl, eqb_sd, eqb_tn, eqb_tb, eqb_ti, eqb_tl, eqb_td, eqb_ln, eqb_lb, eqb_li, eqb_ls, eqb_lt, eqb_ll, eqb_ld, eqb_dn, eqb_db, eqb_di, eqb_ds, eqb_dt, eqb_dl, eqb_dd, plain_non, plain_lst, plain_dic, eqb_st, eqb_ts, xLen, bip, xIdx, mIdx, index, mItems, mList, xCall, pp_call, xBin, bop_ai, bop_at, bop_al, bop_si, bop_mi, bop_ml, bop_mt, bop_ms, bop_mo, bop_fd, bop_pw, SZ, mSlc, mPart, slice, gUnp, gCon, gEnd, mLst, gUnpT, fListT, mSt, M.bad, mChn, sFor, loopM, xBi, xFz, fLst, mCalk, srcOf, isn_n, isn_b, isn_i, isn_s, isn_t, isn_l, isn_d, isn_r, isn_enc, fAdd, fMul, fList, asLst, sOwn, mOwn, sApp, mOwnHere, mApp, gStar, dget, atI, fComp, noX, Res.noX, mWipe, cmpR, wipeE, blsOf, intsOf, txtsOf, mZs, zsOf, zipD, mZip, zipOf, mRng1, mRng2, rngD, mCount, mIndexL, mMt, tyIs, mtp, findD, sTryAs, mIsE, noEx, sPar, sPar3, xRev, revD, sTry, reps, xNeg, negD, xDix, xDgt, mPop, mPopAt, mExt, sExt, xMth, mMth, xMak, mMak, xFld, mFld, insOf, fget, fput, sFst, mFpt, sFag, prmc, b_430, e1, e2, e3, hc, hl2, hA, hB, hC, b1, b2, b3, b4, b5], by simp; omega, p3⟩
  · exact ⟨A ++ [c] ++ C, S3, by simp (decide := true) [runD, xEqE, sRetL, xCallF, mCallF, mCalkF, Form.enc, sSeq, sIf, sRet, sNx, sAsg, sEx, sRai, ↓mb, Res.bind, mp, M.of, mT, xIsi, mBor, mVar, isTy, mTruth, truth, mOr, mAnd, mIte, mNot, xCmp, cop, eqo_nn, eqo_nb, eqo_ni, eqo_ns, eqo_nt, eqo_nl, eqo_nd, eqo_bn, eqo_bb, eqo_bi, eqo_bs, eqo_bt, eqo_bl, eqo_bd, eqo_in, eqo_ib, eqo_ii, eqo_is, eqo_it, eqo_il, eqo_id, eqo_sn, eqo_sb, eqo_si, eqo_ss, eqo_st, eqo_sl, eqo_sd, eqo_tn, eqo_tb, eqo_ti, eqo_ts, eqo_te, eqo_tt, eqo_tl, eqo_td, eqo_ln, eqo_lb, eqo_li, eqo_ls, eqo_lt, eqo_ll, eqo_ld, eqo_dn, eqo_db, eqo_di, eqo_ds, eqo_dt, eqo_dl, eqo_dd, inOk, D.flat, xTup, aNil, aCons, mSet, plain_str, plain_tup, plain_int, plain_bl, plains_nil, plains_cons, eqb_str, eqb_int, eqb_bl, eqb_tup, eqbs_nil, eqbs_cn, eqbs_nc, eqbs_cc, eqb_nn, eqb_nb, eqb_ni, eqb_ns, eqb_nt, eqb_nl, eqb_nd, eqb_bn, eqb_bi, eqb_bs, eqb_bt, eqb_b_l, eqb_bd, eqb_in, eqb_ib, eqb_is, eqb_it, eqb_il, eqb_id, eqb_sn, eqb_sb, eqb_si, eqb_sl, eqb_sd, eqb_tn, eqb_tb, eqb_ti, eqb_tl, eqb_td, eqb_ln, eqb_lb, eqb_li, eqb_ls, eqb_lt, eqb_ll, eqb_ld, eqb_dn, eqb_db, eqb_di, eqb_ds, eqb_dt, eqb_dl, eqb_dd, plain_non, plain_lst, plain_dic, eqb_st, eqb_ts, xLen, bip, xIdx, mIdx, index, mItems, mList, xCall, pp_call, xBin, bop_ai, bop_at, bop_al, bop_si, bop_mi, bop_ml, bop_mt, bop_ms, bop_mo, bop_fd, bop_pw, SZ, mSlc, mPart, slice, gUnp, gCon, gEnd, mLst, gUnpT, fListT, mSt, M.bad, mChn, sFor, loopM, xBi, xFz, fLst, mCalk, srcOf, isn_n, isn_b, isn_i, isn_s, isn_t, isn_l, isn_d, isn_r, isn_enc, fAdd, fMul, fList, asLst, sOwn, mOwn, sApp, mOwnHere, mApp, gStar, dget, atI, fComp, noX, Res.noX, mWipe, cmpR, wipeE, blsOf, intsOf, txtsOf, mZs, zsOf, zipD, mZip, zipOf, mRng1, mRng2, rngD, mCount, mIndexL, mMt, tyIs, mtp, findD, sTryAs, mIsE, noEx, sPar, sPar3, xRev, revD, sTry, reps, xNeg, negD, xDix, xDgt, mPop, mPopAt, mExt, sExt, xMth, mMth, xMak, mMak, xFld, mFld, insOf, fget, fput, sFst, mFpt, sFag, prmc, b_430, e1, e2, e3, hc, hl2, hA, hB, hC, b1, b2, b3, b4, b5], by simp; omega, p3⟩
  · exact ⟨B ++ A, S3, by simp (decide := true) [runD, xEqE, sRetL, xCallF, mCallF, mCalkF, Form.enc, sSeq, sIf, sRet, sNx, sAsg, sEx, sRai, ↓mb, Res.bind, mp, M.of, mT, xIsi, mBor, mVar, isTy, mTruth, truth, mOr, mAnd, mIte, mNot, xCmp, cop, eqo_nn, eqo_nb, eqo_ni, eqo_ns, eqo_nt, eqo_nl, eqo_nd, eqo_bn, eqo_bb, eqo_bi, eqo_bs, eqo_bt, eqo_bl, eqo_bd, eqo_in, eqo_ib, eqo_ii, eqo_is, eqo_it, eqo_il, eqo_id, eqo_sn, eqo_sb, eqo_si, eqo_ss, eqo_st, eqo_sl, eqo_sd, eqo_tn, eqo_tb, eqo_ti, eqo_ts, eqo_te, eqo_tt, eqo_tl, eqo_td, eqo_ln, eqo_lb, eqo_li, eqo_ls, eqo_lt, eqo_ll, eqo_ld, eqo_dn, eqo_db, eqo_di, eqo_ds, eqo_dt, eqo_dl, eqo_dd, inOk, D.flat, xTup, aNil, aCons, mSet, plain_str, plain_tup, plain_int, plain_bl, plains_nil, plains_cons, eqb_str, eqb_int, eqb_bl, eqb_tup, eqbs_nil, eqbs_cn, eqbs_nc, eqbs_cc, eqb_nn, eqb_nb, eqb_ni, eqb_ns, eqb_nt, eqb_nl, eqb_nd, eqb_bn, eqb_bi, eqb_bs, eqb_bt, eqb_b_l, eqb_bd, eqb_in, eqb_ib, eqb_is, eqb_it, eqb_il, eqb_id, eqb_sn, eqb_sb, eqb_si, eqb_sl, eqb_sd, eqb_tn, eqb_tb, eqb_ti, eqb_tl, eqb_td, eqb_ln, eqb_lb, eqb_li, eqb_ls, eqb_lt, eqb_ll, eqb_ld, eqb_dn, eqb_db, eqb_di, eqb_ds, eqb_dt, eqb_dl, eqb_dd, plain_non, plain_lst, plain_dic, eqb_st, eqb_ts, xLen, bip, xIdx, mIdx, index, mItems, mList, xCall, pp_call, xBin, bop_ai, bop_at, bop_al, bop_si, bop_mi, bop_ml, bop_mt, bop_ms, bop_mo, bop_fd, bop_pw, SZ, mSlc, mPart, slice, gUnp, gCon, gEnd, mLst, gUnpT, fListT, mSt, M.bad, mChn, sFor, loopM, xBi, xFz, fLst, mCalk, srcOf, isn_n, isn_b, isn_i, isn_s, isn_t, isn_l, isn_d, isn_r, isn_enc, fAdd, fMul, fList, asLst, sOwn, mOwn, sApp, mOwnHere, mApp, gStar, dget, atI, fComp, noX, Res.noX, mWipe, cmpR, wipeE, blsOf, intsOf, txtsOf, mZs, zsOf, zipD, mZip, zipOf, mRng1, mRng2, rngD, mCount, mIndexL, mMt, tyIs, mtp, findD, sTryAs, mIsE, noEx, sPar, sPar3, xRev, revD, sTry, reps, xNeg, negD, xDix, xDgt, mPop, mPopAt, mExt, sExt, xMth, mMth, xMak, mMak, xFld, mFld, insOf, fget, fput, sFst, mFpt, sFag, prmc, b_430, e1, e2, e3, hc, hl2, hA, hB, hC, b1, b2, b3, b4, b5], by simp; omega, p3⟩
def toldD (x : D) : D := .lst [.str [116,111,108,100], x]
def refD : D := .lst [.str [114,101,102,117,115,101,100], .non]
theorem told_yes (t : Txt) (f : Form) (hl : t.length ≤ 16777216) (h : rd t = some f) (k : Nat) (S : Sto) (hk : 8 < k) : callT TT k 431 [.str t] S = .ok (toldD (enc f)) S := by
  obtain ⟨k, rfl⟩ : ∃ j, k = j + 1 := ⟨k - 1, by omega⟩
  rw [call_step]
  have e1 := read_form_abs TT t hl k S (by omega)
  rw [h] at e1
  simp! [b_431, toldD, e1]
theorem told_no (d : D) (k : Nat) (S : Sto) (h : callT TT k 139 [d] S = .exc ⟨103, []⟩ S) : callT TT (k + 1) 431 [d] S = .ok refD S := by
  rw [call_step]
  simp! [b_431, refD, h]
theorem told_sm (f : Form) (hf : hgt f ≤ 5) : ∃ t, shownD (toldD (enc f)) = some t := (sm_lst (k := 59) (sms_cons (sm_str [116,111,108,100] (by decide) 4 (by decide)) (sms_cons (sm_enc f (by omega) (by decide)) sms_nil))).shown (by decide)
theorem refused (d : D) (k : Nat) (S : Sto) (h : callT TT k 102 [d] S = .ok (.bl false) S) : callT TT (k + 3) 148 [d] S = .ok (.bl true) S := by
  have e0 : callT TT (k + 1) 104 [d] S = .exc ⟨103, []⟩ S := want_not TT d k S h
  have e3 : callT TT (k + 2) 136 [d] S = .exc ⟨103, []⟩ S := by rw [call_step]; simp_all! [sEx, b_136, e0]
  rw [call_step]
  simp! [b_148, e3]
def odds : List D := [.int 0, .bl false, .str [], .tup [], .lst [], .dic [], .non, .tup [.str [97,110,121]], .lst [.str [97,110,121]], .str [97,110,121,10], .str [32,97,110,121], .tup [.str [98,111,120], .str [97,110,121]]]
theorem odd_ok (S : Sto) : ∀ d ∈ odds, callT TT 60 431 [d] S = .ok refD S := by
  intro d hd
  simp only [odds, List.mem_cons, List.not_mem_nil, or_false] at hd
  rcases hd with rfl | rfl | rfl | rfl | rfl | rfl | rfl | rfl | rfl | rfl | rfl | rfl <;> kernel_rfl
def somes (f : Form) : List D := [.int 0, .bl false, .str [], .tup [], .lst [], .dic [], .non, .str [40,97,110,121,62,97,110,121,41], .tup [.str [98,111,120]], .tup [.str [98,111,120], .tup [.str [98,111,120], enc f]], .tup [.lst [], .str [97,110,121]], .tup [.dic [], .str [97,110,121], .str [97,110,121]], .tup [.str [98,111,120], .lst []], .tup [.str [100,101,101,100], .dic [], .str [97,110,121]]]
theorem some_ok (f : Form) (hf : hgt f = 4) (k : Nat) (hk : 30 < k) (S : Sto) : ∀ d ∈ somes f, callT TT k 148 [d] S = .ok (.bl true) S := by
  obtain ⟨k, rfl⟩ : ∃ j, k = j + 3 := ⟨k - 3, by omega⟩
  intro d hd
  refine refused d k S ?_
  have six : d = enc (box (box f)) → callT TT k 102 [d] S = .ok (.bl false) S := fun e => by
    subst e
    have q := is_form TT (box (box f)) k S (by simp only [hgt]; omega) (by simp only [hgt]; omega)
    rw [show decide (hgt (box (box f)) ≤ 5) = false by simp only [hgt, hf]; decide] at q
    exact q
  have any : dok 3 d = true → siz d ≤ 100 → (dec 5 d).isSome = false → callT TT k 102 [d] S = .ok (.bl false) S := fun h1 h2 h3 => by
    have q := is_form_any TT 3 d h1 (by omega) k S (by omega)
    rw [h3] at q
    exact q
  simp only [somes, List.mem_cons, List.not_mem_nil, or_false] at hd
  rcases hd with rfl | rfl | rfl | rfl | rfl | rfl | rfl | rfl | rfl | rfl | rfl | rfl | rfl | rfl
  all_goals first
    | exact six rfl
    | exact any (by decide +kernel) (by decide +kernel) (by decide +kernel)
end k16
end Ev
set_option Elab.async false
set_option linter.all false
set_option autoImplicit false
set_option maxRecDepth 100000
set_option maxHeartbeats 4000000
namespace Ev
open PySem
namespace k16
open Form
/-- one height -/
theorem turn (j : Nat) (hj : j ≤ 5) (n k : Nat) (hk : 30 < k) (x1 x2 x3 x4 x5 x6 x7 x8 : Option SV) (S : Sto) (p : Pot S n) :
    wp ((M.bind (mSet 1 (.int j)) fun _ => (sSeq (sAsg (xCall (TT.prm (callT TT k)) 428 2 (aCons (mVar 0) (aCons (mVar 1) aNil))) (mSet 2)) (sSeq (sAsg (xCall (TT.prm (callT TT k)) 297 1 (aCons (mVar 2) aNil)) (mSet 3)) (sSeq (sIf (mT (mOr (xCmp .ne (xCall (TT.prm (callT TT k)) 136 1 (aCons (mVar 2) aNil)) (mBor 3)) (xCmp .ne (xBi .repr (aCons (xCall (TT.prm (callT TT k)) 431 1 (aCons (mVar 3) aNil)) aNil)) (xBi .repr (aCons (xFz (fLst (aCons (M.pure (.str [116,111,108,100])) (aCons (mVar 2) aNil)))) aNil))))) (sRet (M.pure (.bl false))) sNx) (sSeq (sAsg (xCall (TT.prm (callT TT k)) 430 2 (aCons (mVar 0) (aCons (mVar 3) aNil))) (mSet 4)) (sSeq (sAsg (xCall (TT.prm (callT TT k)) 431 1 (aCons (mVar 4) aNil)) (mSet 5)) (sSeq (sIf (mT (mOr (xCmp .ne (xCmp .eq (xIdx (mBor 5) (M.pure (.int 0))) (M.pure (.str [116,111,108,100]))) (xCall (TT.prm (callT TT k)) 144 1 (aCons (mVar 4) aNil))) (xCmp .eq (xIdx (mBor 5) (M.pure (.int 0))) (M.pure (.str [97,110,111,116,104,101,114]))))) (sRet (M.pure (.bl false))) sNx) (sIf (mT (mAnd (xCmp .eq (xIdx (mBor 5) (M.pure (.int 0))) (M.pure (.str [116,111,108,100]))) (xCmp .ne (xCall (TT.prm (callT TT k)) 297 1 (aCons (xIdx (mBor 5) (M.pure (.int 1))) aNil)) (mBor 4)))) (sRet (M.pure (.bl false))) sNx)))))))) [some (.fz (.ref n)), x1, x2, x3, x4, x5, x6, x7, x8] S) (fun f ρ' S' => f = .nx ∧ (∃ y1 y2 y3 y4 y5, ρ' = [some (.fz (.ref n)), y1, y2, y3, y4, y5, x6, x7, x8]) ∧ Pot S' n) noE := by
  obtain ⟨f, S1, e1, hf, p1⟩ := high_drawn j S n k p (by omega)
  have hs := txt_small f (by omega)
  have e2 := law_written f k S1 (by omega) (by omega) (by omega)
  have e3 := form_text TT f k S1 (by omega) (by omega)
  have hrd := rd_txt f (by omega)
  have e4 := told_yes (txt f) f (by omega) hrd k S1 (by omega)
  obtain ⟨u, hu⟩ := told_sm f (by omega)
  obtain ⟨o, S2, e5, ho, p2⟩ := spoilt (txt f) (by omega) S1 n k p1 (by omega)
  have e7 := is_text o (by omega) k (by omega) S2
  rw [isText_rd] at e7
  have key : ∀ tl : D, callT TT k 431 [.str o] S2 = .ok tl S2 → (tl = refD ∧ (rd o).isSome = false ∨ ∃ g, tl = toldD (enc g) ∧ (rd o).isSome = true ∧ callT TT k 297 [enc g] S2 = .ok (.str o) S2) →
      wp ((M.bind (mSet 1 (.int j)) fun _ => (sSeq (sAsg (xCall (TT.prm (callT TT k)) 428 2 (aCons (mVar 0) (aCons (mVar 1) aNil))) (mSet 2)) (sSeq (sAsg (xCall (TT.prm (callT TT k)) 297 1 (aCons (mVar 2) aNil)) (mSet 3)) (sSeq (sIf (mT (mOr (xCmp .ne (xCall (TT.prm (callT TT k)) 136 1 (aCons (mVar 2) aNil)) (mBor 3)) (xCmp .ne (xBi .repr (aCons (xCall (TT.prm (callT TT k)) 431 1 (aCons (mVar 3) aNil)) aNil)) (xBi .repr (aCons (xFz (fLst (aCons (M.pure (.str [116,111,108,100])) (aCons (mVar 2) aNil)))) aNil))))) (sRet (M.pure (.bl false))) sNx) (sSeq (sAsg (xCall (TT.prm (callT TT k)) 430 2 (aCons (mVar 0) (aCons (mVar 3) aNil))) (mSet 4)) (sSeq (sAsg (xCall (TT.prm (callT TT k)) 431 1 (aCons (mVar 4) aNil)) (mSet 5)) (sSeq (sIf (mT (mOr (xCmp .ne (xCmp .eq (xIdx (mBor 5) (M.pure (.int 0))) (M.pure (.str [116,111,108,100]))) (xCall (TT.prm (callT TT k)) 144 1 (aCons (mVar 4) aNil))) (xCmp .eq (xIdx (mBor 5) (M.pure (.int 0))) (M.pure (.str [97,110,111,116,104,101,114]))))) (sRet (M.pure (.bl false))) sNx) (sIf (mT (mAnd (xCmp .eq (xIdx (mBor 5) (M.pure (.int 0))) (M.pure (.str [116,111,108,100]))) (xCmp .ne (xCall (TT.prm (callT TT k)) 297 1 (aCons (xIdx (mBor 5) (M.pure (.int 1))) aNil)) (mBor 4)))) (sRet (M.pure (.bl false))) sNx)))))))) [some (.fz (.ref n)), x1, x2, x3, x4, x5, x6, x7, x8] S) (fun f ρ' S' => f = .nx ∧ (∃ y1 y2 y3 y4 y5, ρ' = [some (.fz (.ref n)), y1, y2, y3, y4, y5, x6, x7, x8]) ∧ Pot S' n) noE := by
    intro tl e6 hk2
    generalize (rd o).isSome = b at *
    unfold toldD at *
    unfold refD at *
    generalize enc f = fe at *
    generalize txt f = tf at *
    generalize (j : Int) = ji at *
    refine wp_bind (wp_of (a := ()) (ρ := [some (.fz (.ref n)), some (.fz (.int ji)), x2, x3, x4, x5, x6, x7, x8]) (S := S) rfl ?_)
    dsimp! [e1]
    dsimp! [e2]
    dsimp! [e3, e4, hu]
    dsimp! [e5]
    dsimp! [e6]
    rcases hk2 with ⟨rfl, rfl⟩ | ⟨g, rfl, rfl, e8⟩
    · dsimp! [e7]
      dsimp! only []
      exact ⟨rfl, ⟨_, _, _, _, _, rfl⟩, p2⟩
    · generalize enc g = ge at *
      dsimp! [e7]
      dsimp! only [e8]
      exact ⟨rfl, ⟨_, _, _, _, _, rfl⟩, p2⟩
  cases h : rd o with
  | none =>
    obtain ⟨k, rfl⟩ : ∃ j, k = j + 1 := ⟨k - 1, by omega⟩
    refine key refD (told_no (.str o) k S2 (by rw [read_form_abs TT o (by omega) k S2 (by omega), h])) (.inl ⟨rfl, by rw [h]; rfl⟩)
  | some g =>
    obtain ⟨q1, q2⟩ := rd_sound h
    refine key _ (told_yes o g (by omega) h k S2 (by omega)) (.inr ⟨g, rfl, by rw [h]; rfl, ?_⟩)
    have e := law_written g k S2 (by omega) (by omega) (by rw [q1]; omega)
    rw [q1] at e
    exact e
end k16
end Ev
set_option Elab.async false
set_option linter.all false
set_option autoImplicit false
set_option maxRecDepth 100000
set_option maxHeartbeats 4000000
namespace Ev
open PySem
namespace k16
open Form
def depth : Nat := 62
theorem odd_if (k : Nat) (n : Nat) (x1 x2 x3 x4 x5 x7 x8 : Option SV) (S : Sto) (h : ∀ d ∈ odds, callT TT k 431 [d] S = .ok refD S) : wp ((sIf (mT (xCmp .ne (xFz (fComp (mItems (mVar 6)) [8] (mSet 8) (M.pure true) (xCall (TT.prm (callT TT k)) 431 1 (aCons (mVar 8) aNil)))) (xBin .mul (xFz (fLst (aCons (xFz (fLst (aCons (M.pure (.str [114,101,102,117,115,101,100])) (aCons (M.pure .non) aNil)))) aNil))) (xLen (mBor 6))))) (sRet (M.pure (.bl false))) sNx) [some (.fz (.ref n)), x1, x2, x3, x4, x5, some (.fz (.lst odds)), x7, x8] S) (fun f ρ' S' => f = .nx ∧ S' = S ∧ ρ' = [some (.fz (.ref n)), x1, x2, x3, x4, x5, some (.fz (.lst odds)), x7, none]) noE := by
  have h1 := h (.int 0) (by simp [odds])
  have h2 := h (.bl false) (by simp [odds])
  have h3 := h (.str []) (by simp [odds])
  have h4 := h (.tup []) (by simp [odds])
  have h5 := h (.lst []) (by simp [odds])
  have h6 := h (.dic []) (by simp [odds])
  have h7 := h .non (by simp [odds])
  have h8 := h (.tup [.str [97,110,121]]) (by simp [odds])
  have h9 := h (.lst [.str [97,110,121]]) (by simp [odds])
  have h10 := h (.str [97,110,121,10]) (by simp [odds])
  have h11 := h (.str [32,97,110,121]) (by simp [odds])
  have h12 := h (.tup [.str [98,111,120], .str [97,110,121]]) (by simp [odds])
  clear h
  unfold odds
  unfold refD at *
  dsimp! only [h1, h2, h3, h4, h5, h6, h7, h8, h9, h10, h11, h12]
  exact ⟨rfl, rfl, rfl⟩
theorem all_some (k : Nat) (hk : 30 < k) (f : Form) (hf : hgt f = 4) (n : Nat) (x1 x2 x3 x4 x5 x6 x8 : Option SV) (S : Sto) : wp ((sRet (xBi .all (aCons (xFz (fComp (mItems (mVar 7)) [8] (mSet 8) (M.pure true) (xCall (TT.prm (callT TT k)) 148 1 (aCons (mVar 8) aNil)))) aNil))) [some (.fz (.ref n)), x1, x2, x3, x4, x5, x6, some (.fz (.lst (somes f))), x8] S) (retK fun v _ => v = .bl true) noE := by
  refine wp_ret (wp_all (fun S' => S' = S) (ds := somes f) (ρ1 := [some (.fz (.ref n)), x1, x2, x3, x4, x5, x6, some (.fz (.lst (somes f))), x8]) (S1 := S) rfl rfl (by show 14 ≤ 16777216; decide) rfl (fun d hd S1 h1 => ?_) (fun S1 h1 => rfl))
  subst h1
  have e := some_ok f hf k hk S1 d hd
  generalize somes f = L at *
  dsimp! only [e]
  exact ⟨rfl, rfl, rfl⟩
theorem right (k : Nat) (hk : 30 < k) (ho : ∀ S, ∀ d ∈ odds, callT TT k 431 [d] S = .ok refD S) (S : Sto) (n : Nat) (p : Pot S n) : ∃ S', callT TT (k + 1) 432 [.ref n] S = .ok (.bl true) S' := by
  obtain ⟨v, S', e, rfl⟩ := runW (T := TT) (n := 432) (k := k) (ds := [.ref n]) (S := S) (P := fun v _ => v = .bl true) rfl (by
    show wp ((sSeq (sFor (mRng1 (aCons (M.pure (.int 6)) aNil)) (mSet 1) (sSeq (sAsg (xCall (TT.prm (callT TT k)) 428 2 (aCons (mVar 0) (aCons (mVar 1) aNil))) (mSet 2)) (sSeq (sAsg (xCall (TT.prm (callT TT k)) 297 1 (aCons (mVar 2) aNil)) (mSet 3)) (sSeq (sIf (mT (mOr (xCmp .ne (xCall (TT.prm (callT TT k)) 136 1 (aCons (mVar 2) aNil)) (mBor 3)) (xCmp .ne (xBi .repr (aCons (xCall (TT.prm (callT TT k)) 431 1 (aCons (mVar 3) aNil)) aNil)) (xBi .repr (aCons (xFz (fLst (aCons (M.pure (.str [116,111,108,100])) (aCons (mVar 2) aNil)))) aNil))))) (sRet (M.pure (.bl false))) sNx) (sSeq (sAsg (xCall (TT.prm (callT TT k)) 430 2 (aCons (mVar 0) (aCons (mVar 3) aNil))) (mSet 4)) (sSeq (sAsg (xCall (TT.prm (callT TT k)) 431 1 (aCons (mVar 4) aNil)) (mSet 5)) (sSeq (sIf (mT (mOr (xCmp .ne (xCmp .eq (xIdx (mBor 5) (M.pure (.int 0))) (M.pure (.str [116,111,108,100]))) (xCall (TT.prm (callT TT k)) 144 1 (aCons (mVar 4) aNil))) (xCmp .eq (xIdx (mBor 5) (M.pure (.int 0))) (M.pure (.str [97,110,111,116,104,101,114]))))) (sRet (M.pure (.bl false))) sNx) (sIf (mT (mAnd (xCmp .eq (xIdx (mBor 5) (M.pure (.int 0))) (M.pure (.str [116,111,108,100]))) (xCmp .ne (xCall (TT.prm (callT TT k)) 297 1 (aCons (xIdx (mBor 5) (M.pure (.int 1))) aNil)) (mBor 4)))) (sRet (M.pure (.bl false))) sNx)))))))) (sSeq (sAsg (xFz (fLst (aCons (M.pure (.int 0)) (aCons (M.pure (.bl false)) (aCons (M.pure (.str [])) (aCons (xTup aNil) (aCons (xFz (fLst aNil)) (aCons (M.pure (.dic [])) (aCons (M.pure .non) (aCons (xTup (aCons (M.pure (.str [97,110,121])) aNil)) (aCons (xFz (fLst (aCons (M.pure (.str [97,110,121])) aNil))) (aCons (M.pure (.str [97,110,121,10])) (aCons (M.pure (.str [32,97,110,121])) (aCons (xTup (aCons (M.pure (.str [98,111,120])) (aCons (M.pure (.str [97,110,121])) aNil))) aNil)))))))))))))) (mSet 6)) (sSeq (sIf (mT (xCmp .ne (xFz (fComp (mItems (mVar 6)) [8] (mSet 8) (M.pure true) (xCall (TT.prm (callT TT k)) 431 1 (aCons (mVar 8) aNil)))) (xBin .mul (xFz (fLst (aCons (xFz (fLst (aCons (M.pure (.str [114,101,102,117,115,101,100])) (aCons (M.pure .non) aNil)))) aNil))) (xLen (mBor 6))))) (sRet (M.pure (.bl false))) sNx) (sSeq (sAsg (xFz (fLst (aCons (M.pure (.int 0)) (aCons (M.pure (.bl false)) (aCons (M.pure (.str [])) (aCons (xTup aNil) (aCons (xFz (fLst aNil)) (aCons (M.pure (.dic [])) (aCons (M.pure .non) (aCons (M.pure (.str [40,97,110,121,62,97,110,121,41])) (aCons (xTup (aCons (M.pure (.str [98,111,120])) aNil)) (aCons (xTup (aCons (M.pure (.str [98,111,120])) (aCons (xTup (aCons (M.pure (.str [98,111,120])) (aCons (xCall (TT.prm (callT TT k)) 428 2 (aCons (mVar 0) (aCons (M.pure (.int 4)) aNil))) aNil))) aNil))) aNil)))))))))))) (mSet 7)) (sSeq (sAsg (xBin .add (mVar 7) (xFz (fLst (aCons (xTup (aCons (xFz (fLst aNil)) (aCons (M.pure (.str [97,110,121])) aNil))) (aCons (xTup (aCons (M.pure (.dic [])) (aCons (M.pure (.str [97,110,121])) (aCons (M.pure (.str [97,110,121])) aNil)))) (aCons (xTup (aCons (M.pure (.str [98,111,120])) (aCons (xFz (fLst aNil)) aNil))) (aCons (xTup (aCons (M.pure (.str [100,101,101,100])) (aCons (M.pure (.dic [])) (aCons (M.pure (.str [97,110,121])) aNil)))) aNil))))))) (mSet 7)) (sRet (xBi .all (aCons (xFz (fComp (mItems (mVar 7)) [8] (mSet 8) (M.pure true) (xCall (TT.prm (callT TT k)) 148 1 (aCons (mVar 8) aNil)))) aNil)))))))) [some (.fz (.ref n)), none, none, none, none, none, none, none, none] S) _ noE
    refine wp_cut (fun ρ S' => (∃ y1 y2 y3 y4 y5, ρ = [some (.fz (.ref n)), y1, y2, y3, y4, y5, none, none, none]) ∧ Pot S' n) ?_ ?_
    · refine wp_for (wp_of (rng_lit 6 (by decide) _ _) ?_)
      refine wp_loop (fun ds ρ S' => (∀ d ∈ ds, ∃ j : Nat, j ≤ 5 ∧ d = .int j) ∧ (∃ y1 y2 y3 y4 y5, ρ = [some (.fz (.ref n)), y1, y2, y3, y4, y5, none, none, none]) ∧ Pot S' n) ?_ ?_ _ _ _ ⟨?_, ⟨_, _, _, _, _, rfl⟩, p⟩
      · rintro d r ρ S1 ⟨hd, ⟨y1, y2, y3, y4, y5, rfl⟩, p1⟩
        obtain ⟨j, hj, rfl⟩ := hd d (List.mem_cons_self ..)
        refine wp_imp (turn j hj n k hk y1 y2 y3 y4 y5 none none none S1 p1) (fun f ρ2 S2 h => ?_) fun _ _ _ h => h
        obtain ⟨rfl, h1, h2⟩ := h
        exact ⟨fun d hd' => hd d (List.mem_cons_of_mem _ hd'), h1, h2⟩
      · rintro ρ S1 ⟨_, h1, h2⟩
        exact ⟨rfl, h1, h2⟩
      · intro d hd
        have hd : d ∈ [D.int 0, .int 1, .int 2, .int 3, .int 4, .int 5] := hd
        simp only [List.mem_cons, List.not_mem_nil, or_false] at hd
        rcases hd with rfl | rfl | rfl | rfl | rfl | rfl
        · exact ⟨0, by omega, rfl⟩
        · exact ⟨1, by omega, rfl⟩
        · exact ⟨2, by omega, rfl⟩
        · exact ⟨3, by omega, rfl⟩
        · exact ⟨4, by omega, rfl⟩
        · exact ⟨5, by omega, rfl⟩
    · rintro ρ S1 ⟨⟨y1, y2, y3, y4, y5, rfl⟩, p1⟩
      refine wp_seq (wp_of (a := .nx) (ρ := [some (.fz (.ref n)), y1, y2, y3, y4, y5, some (.fz (.lst odds)), none, none]) (S := S1) rfl (ks_nx ?_))
      refine wp_cut (fun ρ S' => S' = S1 ∧ ρ = [some (.fz (.ref n)), y1, y2, y3, y4, y5, some (.fz (.lst odds)), none, none]) (wp_imp (odd_if k n y1 y2 y3 y4 y5 none none S1 (ho S1)) (fun f ρ2 S2 h => h) fun _ _ _ h => h) ?_
      rintro ρ S2 ⟨rfl, rfl⟩
      obtain ⟨f, S3, e1, hf, p3⟩ := high_drawn 4 S2 n k p1 (by omega)
      have e1 : callT TT k 428 [.ref n, .int 4] S2 = .ok (enc f) S3 := e1
      have fin := all_some k hk f hf n y1 y2 y3 y4 y5 (some (.fz (.lst odds))) none S3
      unfold somes at fin
      generalize enc f = fe at *
      generalize odds = od at *
      dsimp! [e1]
      dsimp! []
      exact fin)
  exact ⟨S', e⟩
theorem answers (ns : List Int) (h1 : ns.length ≤ 63) (h2 : ∀ z ∈ ns, PySem.Builtin.Int.intBits z ≤ 1048576) : ∃ S', callT TT depth 126 [.scr ns] [] = .ok (.bl true) S' := by
  obtain ⟨S', e⟩ := law_all (e := xCall (PP 61) 432 1 (aCons (xCall (PP 61) 112 2 (aCons (mVar 0) (aCons (mVar 1) aNil))) aNil)) ns [] (law_rng2 8 (by decide) (by decide) ns _ []) (fun i S hi => by
    obtain ⟨S1, e1, p1⟩ := pot TT ns i hi 61 S (by omega)
    obtain ⟨S2, e2⟩ := right 60 (by omega) odd_ok S1 S.length p1
    have e2 : callT TT 61 432 [.ref S.length] S1 = .ok (.bl true) S2 := e2
    exact ⟨S2, by simp (decide := true) [runD, xEqE, sRetL, xCallF, mCallF, mCalkF, Form.enc, sSeq, sIf, sRet, sNx, sAsg, sEx, sRai, ↓mb, Res.bind, mp, M.of, mT, xIsi, mBor, mVar, isTy, mTruth, truth, mOr, mAnd, mIte, mNot, xCmp, cop, eqo_nn, eqo_nb, eqo_ni, eqo_ns, eqo_nt, eqo_nl, eqo_nd, eqo_bn, eqo_bb, eqo_bi, eqo_bs, eqo_bt, eqo_bl, eqo_bd, eqo_in, eqo_ib, eqo_ii, eqo_is, eqo_it, eqo_il, eqo_id, eqo_sn, eqo_sb, eqo_si, eqo_ss, eqo_st, eqo_sl, eqo_sd, eqo_tn, eqo_tb, eqo_ti, eqo_ts, eqo_te, eqo_tt, eqo_tl, eqo_td, eqo_ln, eqo_lb, eqo_li, eqo_ls, eqo_lt, eqo_ll, eqo_ld, eqo_dn, eqo_db, eqo_di, eqo_ds, eqo_dt, eqo_dl, eqo_dd, inOk, D.flat, xTup, aNil, aCons, mSet, plain_str, plain_tup, plain_int, plain_bl, plains_nil, plains_cons, eqb_str, eqb_int, eqb_bl, eqb_tup, eqbs_nil, eqbs_cn, eqbs_nc, eqbs_cc, eqb_nn, eqb_nb, eqb_ni, eqb_ns, eqb_nt, eqb_nl, eqb_nd, eqb_bn, eqb_bi, eqb_bs, eqb_bt, eqb_b_l, eqb_bd, eqb_in, eqb_ib, eqb_is, eqb_it, eqb_il, eqb_id, eqb_sn, eqb_sb, eqb_si, eqb_sl, eqb_sd, eqb_tn, eqb_tb, eqb_ti, eqb_tl, eqb_td, eqb_ln, eqb_lb, eqb_li, eqb_ls, eqb_lt, eqb_ll, eqb_ld, eqb_dn, eqb_db, eqb_di, eqb_ds, eqb_dt, eqb_dl, eqb_dd, plain_non, plain_lst, plain_dic, eqb_st, eqb_ts, xLen, bip, xIdx, mIdx, index, mItems, mList, xCall, pp_call, xBin, bop_ai, bop_at, bop_al, bop_si, bop_mi, bop_ml, bop_mt, bop_ms, bop_mo, bop_fd, bop_pw, SZ, mSlc, mPart, slice, gUnp, gCon, gEnd, mLst, gUnpT, fListT, mSt, M.bad, mChn, sFor, loopM, xBi, xFz, fLst, mCalk, srcOf, isn_n, isn_b, isn_i, isn_s, isn_t, isn_l, isn_d, isn_r, isn_enc, fAdd, fMul, fList, asLst, sOwn, mOwn, sApp, mOwnHere, mApp, gStar, dget, atI, fComp, noX, Res.noX, mWipe, cmpR, wipeE, blsOf, intsOf, txtsOf, mZs, zsOf, zipD, mZip, zipOf, mRng1, mRng2, rngD, mCount, mIndexL, mMt, tyIs, mtp, findD, sTryAs, mIsE, noEx, sPar, sPar3, xRev, revD, sTry, reps, xNeg, negD, xDix, xDgt, mPop, mPopAt, mExt, sExt, xMth, mMth, xMak, mMak, xFld, mFld, insOf, fget, fput, sFst, mFpt, sFag, prmc, e1, e2]⟩)
  exact ⟨S', run1 61 _ _ _ _ _ rfl e⟩
end k16
end Ev
set_option maxHeartbeats 0
namespace Ev
namespace k16
open PySem PySem.Spec PyProof.Rows L2
def nms : List PySem.Str := (["WallError", "NoForm", "NoSeal", "NoTerm", "NoHall", "DEED", "BOX", "PLAIN", "MOST_HEIGHT", "WIDTHS", "is_form_to", "is_form", "want_form", "text_of_form", "form_text", "want_sign", "form_at", "read_form", "_law_pot", "_law_digit", "_law_form", "_law_high", "_law_written", "_law_reduced", "_law_high_of", "_law_is_text", "_law_spoilt", "_law_told", "_law_is_refused", "_law_right"] : List PySem.Str)
theorem run_f (w : World) : HandSHeadRun.RunEq Rw (PySem.W.view Rw.prog [34]) hkx obx 6000 nms (w.withFollow "special-get-raises" false) := by
  intro os
  kernel_rfl
theorem run_t (w : World) : HandSHeadRun.RunEq Rw (PySem.W.view Rw.prog [34]) hkx obx 6000 nms (w.withFollow "special-get-raises" true) := by
  intro os
  kernel_rfl
theorem run (w : World) : HandSHeadRun.RunEq Rw (PySem.W.view Rw.prog [34]) hkx obx 6000 nms w :=
  PySem.W.byRow2 "special-get-raises" (P := fun w => HandSHeadRun.RunEq Rw (PySem.W.view Rw.prog [34]) hkx obx 6000 nms w) run_f run_t w
end k16
end Ev
open PySem PySem.W PySem.Calls PyProof.Rows
theorem PySem.Challenge.cw_wallseal_k16_form_texts_holds : PySem.Challenge.rw_wallseal_k16_form_texts.Holds := by
  w_on; o_law
  refine HandSHeadRun.head_any (r := OpenLaw.row PySem.Challenge.rw_wallseal_k16_form_texts) (q := view (OpenLaw.row PySem.Challenge.rw_wallseal_k16_form_texts).prog [34]) (H := Ev.k16.hkx) (ob := Ev.k16.obx) (M := 6000) (loose := Ev.k16.nms) (d := HandSHeadRun.topDef (OpenLaw.row PySem.Challenge.rw_wallseal_k16_form_texts).prog 34) (kwd := []) Ev.k16.obx_eq
    (by kernel_rfl) (fun s => by kernel_rfl) Ev.k16.run (by kernel_rfl) (by kernel_rfl) (by kernel_rfl) (by rfl) (by first | assumption | decide +kernel) (by decide +kernel) ⟨rfl, rfl, rfl, rfl, rfl, by decide +kernel⟩ ?hw ?hc
  case hw => w_witness2
  case hc =>
    refine Ev.endG (l := PySem.Challenge.rw_wallseal_k16_form_texts) (n := 63) (k := Ev.k16.depth) (x := "_law_script") rfl (by decide) (by kernel_rfl) ⟨rfl, by decide, by decide⟩ ?F
    intro w mg fa h Y G hmg0
    obtain ⟨K, KX, c⟩ := Y
    have hmg : mg ("law" : PySem.Str) = some (.ref fa) := by
      have e : (HandSHeadRun.topDef (OpenLaw.row PySem.Challenge.rw_wallseal_k16_form_texts).prog 34).name = ("law" : PySem.Str) := by kernel_rfl
      rw [← e]
      exact hmg0
    obtain ⟨fd, sp, hb, hs, hF⟩ := Ev.k16.facts (P := (PySem.Challenge.rw_wallseal_k16_form_texts).prog) (w := w) Ev.k16.depth Ev.k16.answers KX G hmg c
    exact ⟨K, fd, sp, KX, hb, hs, hF⟩
