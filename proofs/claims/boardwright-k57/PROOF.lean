import PyProof.Rows.All
import Wide.All
import OpenK.AllK
import Wide.FinOn
import HandS.ForMost
import HandS.ForExc
import HandS.IsInst
import HandS.Style
import HandS.Zip
import KE.DatumOrd
import KE.SortData
import KE.DataAny
import HandS.TupAny
import HandS.TupMul
import KE.KRevSl
import KE.KDictSum
import KE.KDictCopyH
import HandS.Conv
import KE.GoesEnum
import HandS.Small
import HandS.DictComp
import HandS.SetFor
import HandS.Strs
import HandS.ExcIs
import HandS.TryMany
import HandS.TryOnly
import HandS.Deep
import HandS.Text
import PySem.Challenge.RW_boardwright_k57_buffers_put_in
set_option Elab.async false
set_option linter.all false
set_option maxRecDepth 100000
set_option maxHeartbeats 0
namespace BW
open PySem PySem.W

/-! ### results -/
abbrev D := PyData
inductive Res (α : Type) where
  | ok (a : α)
  | ex (c : Str)
  | bad
namespace Res
def bind {α β : Type} (x : Res α) (f : α → Res β) : Res β := match x with
  | .ok a => f a
  | .ex c => .ex c
  | .bad => .bad
instance : Monad Res where
  pure := .ok
  bind := Res.bind
@[simp] theorem ok_bind {α β : Type} (a : α) (f : α → Res β) : (Res.ok a >>= f) = f a := rfl
@[simp] theorem ex_bind {α β : Type} (c : Str) (f : α → Res β) : ((Res.ex c : Res α) >>= f) = .ex c := rfl
@[simp] theorem bad_bind {α β : Type} (f : α → Res β) : ((Res.bad : Res α) >>= f) = .bad := rfl
@[simp] theorem pure_ok {α : Type} (a : α) : (pure a : Res α) = .ok a := rfl
/-- where nothing may be raised -/
def quiet {α : Type} : Res α → Res α
  | .ok a => .ok a
  | _ => .bad
@[simp] theorem quiet_ok {α : Type} (a : α) : (Res.ok a).quiet = .ok a := rfl
end Res
open Res

/-- a slot: unknown, a frozen value, a list or a dict of this def's own -/
inductive Sl where
  | un
  | fz (d : D)
  | ol (ds : List D)
  | od (kvs : List (D × D))
abbrev Env := List Sl

inductive Op where | add | sub | mul | fdiv | mod | pow | shl | shr | band
  deriving DecidableEq
inductive Cmp where | eq | ne | lt | le | gt | ge | isin | notin
  deriving DecidableEq
inductive B1 where | len | abs | int | tuple | list | sorted | sum | min | max | all | any | setsorted | setlen
  deriving DecidableEq
inductive B2 where | min2 | max2
  deriving DecidableEq
inductive Ty where | int | bool | str | tuple | list | dict
  deriving DecidableEq
/-- targets -/
inductive Tg where
  | n (i : Nat)
  | t (ts : List Tg)

inductive E where
  | k (d : D)
  | v (i : Nat)
  | p (i : Nat)
  | tup (es : List E)
  | lst (es : List E)
  | op (o : Op) (a b : E)
  | cmp (o : Cmp) (a b : E)
  | ch (o q : Cmp) (a b c : E)
  | and (a b : E)
  | or (a b : E)
  | not (a : E)
  | neg (a : E)
  | ite (c a b : E)
  | isN (a : E)
  | notN (a : E)
  | ix (a b : E)
  | slf (a lo : E)
  | slt (a hi : E)
  | slb (a lo hi : E)
  | rev (a : E)
  | call (f : Nat) (es : List E)
  | b1 (b : B1) (a : E)
  | b2 (b : B2) (a c : E)
  | isi (a : E) (ts : List Ty)
  | rng (a b c : E)
  | enm (a : E)
  | zip (a b : E)
  | comp (elt : E) (tg : Tg) (it c : E) (own : List Nat)
  | dnil
  | dcomp (k v : E) (tg : Tg) (it c : E) (own : List Nat)
  | any
  | rl (t : Bool) (a b : E)
  | idx (a b : E)
  | join (a : Str) (b : E)

/-! ### operations on data -/
/-- no dict within, not deep -/
def sm (d : D) : Bool := d.plain && decide (d.depth ≤ 60)
def items : D → Option (List D)
  | .list xs => some xs
  | .tuple xs => some xs
  | _ => none
def smallI (i : Int) : Bool := decide (-(2 ^ 64) < i) && decide (i < 2 ^ 64)
def sizeOk (n : Nat) : Bool := decide (n ≤ 1000000)

def opD : Op → D → D → Res D
  | .add, .int i, .int j => .ok (.int (i + j))
  | .add, .list xs, .list ys => if sizeOk (xs.length + ys.length) then .ok (.list (xs ++ ys)) else .bad
  | .add, .tuple xs, .tuple ys => if sizeOk (xs.length + ys.length) then .ok (.tuple (xs ++ ys)) else .bad
  | .sub, .int i, .int j => .ok (.int (i - j))
  | .mul, .int i, .int j => if smallI i || smallI j then .ok (.int (i * j)) else .bad
  | .mul, .list xs, .int j => if decide (0 ≤ j) && decide (j ≤ 1000000) && sizeOk (xs.length * j.toNat) then .ok (.list (List.replicate j.toNat xs).flatten) else .bad
  | .mul, .tuple xs, .int j => if decide (1 ≤ j) && decide (j ≤ 1000) && !xs.isEmpty && decide (xs.length ≤ 1000) then .ok (.tuple (List.replicate j.toNat xs).flatten) else .bad
  | .fdiv, .int i, .int j => if decide (0 < j) && decide (j < 1073741824) then .ok (.int (i / j)) else .bad
  | .mod, .int i, .int j => if decide (0 < j) then .ok (.int (i % j)) else .bad
  | .pow, .int i, .int j => if decide (0 ≤ j) && decide (j ≤ 1000000) && decide (i.natAbs < 2 ^ 64) then .ok (.int (i ^ j.toNat)) else .bad
  | .shl, .int i, .int j => if decide (0 ≤ j) && decide (j ≤ 1000000) && decide (i.natAbs < 2 ^ 64) then .ok (.int (i * 2 ^ j.toNat)) else .bad
  | .shr, .int i, .int j => if decide (0 ≤ j) then .ok (.int (i / 2 ^ j.toNat)) else .bad
  | .band, .int i, .int j => .ok (.int (Builtin.bitAnd i j))
  | _, _, _ => .bad

def ltD (a b : D) : Res Bool :=
  match a, b with
  | .int i, .int j => .ok (decide (i < j))
  | a, b => if alike a b && sm a && sm b && (match a with | .none => false | _ => true) then .ok (dataLt a b) else .bad
def keyOf : D → Option L2.Key
  | .int i => some (.inl i)
  | .str x => some (.inr x)
  | _ => none
/-- the keys are ints and texts (a script, which is only sliced, stands as a dict with one key None) -/
def okKeys (kvs : List (D × D)) : Bool := kvs.all fun q => (keyOf q.1).isSome
def okD : D → Bool
  | .dict kvs => okKeys kvs
  | _ => true
def inD (a b : D) : Res Bool :=
  match items b with
  | some xs => if sm a && sm (.list xs) then .ok (xs.any fun d => PyData.eqv d a) else .bad
  | none => match b with
    | .dict kvs => (match keyOf a with | some _ => if okKeys kvs then .ok (kvs.any fun d => PyData.eqv d.1 a) else .bad | none => .bad)
    | _ => .bad
def cmpB : Cmp → D → D → Res Bool
  | .eq, a, b => if sm a && sm b then .ok (PyData.eqv a b) else .bad
  | .ne, a, b => if sm a && sm b then .ok (!PyData.eqv a b) else .bad
  | .lt, a, b => ltD a b
  | .gt, a, b => ltD b a
  | .le, a, b => do let r ← ltD b a; .ok !r
  | .ge, a, b => do let r ← ltD a b; .ok !r
  | .isin, a, b => inD a b
  | .notin, a, b => do let r ← inD a b; .ok !r

def ixD : D → D → Res D
  | .list xs, .int i => match L2.atI xs i with | some d => .ok d | none => .bad
  | .tuple xs, .int i => match L2.atI xs i with | some d => .ok d | none => .bad
  | .str x, .int i => if sizeOk x.length then (match L2.atI x.cps.toList i with | some c => .ok (.str ⟨#[c]⟩) | none => .bad) else .bad
  | .dict kvs, j => (match keyOf j with
    | some _ => if okKeys kvs then (match kvs.find? (fun q => PyData.eqv q.1 j) with | some q => .ok q.2 | none => .bad) else .bad
    | none => .bad)
  | _, _ => .bad
def cutD {α : Type} (xs : List α) (lo hi : Option Int) : List α := (xs.drop (HT.sIx xs.length 0 lo)).take (HT.sIx xs.length xs.length hi - HT.sIx xs.length 0 lo)
def slD (a : D) (l h : Option Int) : Res D :=
  match a with
  | .list xs => .ok (.list (cutD xs l h))
  | .tuple xs => .ok (.tuple (cutD xs l h))
  | .dict [(.none, .list xs)] => .ok (.list (cutD xs l h))
  | _ => .bad
def revD : D → Res D
  | .list xs => .ok (.list xs.reverse)
  | .tuple xs => .ok (.tuple xs.reverse)
  | _ => .bad
def asInt : D → Res Int
  | .int i => .ok i
  | _ => .bad
def asBool : D → Res Bool
  | .bool b => .ok b
  | _ => .bad
def mapR {α β : Type} (f : α → Res β) : List α → Res (List β)
  | [] => .ok []
  | x :: r => do let y ← f x; let ys ← mapR f r; .ok (y :: ys)
def notNone : D → Bool
  | .none => false
  | _ => true
def ntup : D → Bool
  | .none => false
  | .tuple _ => false
  | _ => true
def ctup : D → Bool
  | .tuple (_ :: _) => true
  | _ => false
/-- all can be compared with one another -/
def comparable (xs : List D) : Bool := (xs.all fun a => xs.all fun b => alike a b) && sm (.list xs)
def sortable (xs : List D) : Bool := comparable xs && sizeOk xs.length && (xs.all ctup || xs.all ntup)
def sortD (xs : List D) : List D := xs.mergeSort (dataLe false id)
/-- the items, each once, as they come first -/
def once (xs : List D) : List D := xs.foldl (fun acc d => if acc.any (fun y => PyData.eqv y d) then acc else acc ++ [d]) []
/-- the ints, each once, ascending -/
def setI (ns : List Int) : List Int := ns.eraseDups.mergeSort (fun a b => decide (a ≤ b))
def b1D : B1 → D → Res D
  | .len, .list xs => .ok (.int xs.length)
  | .len, .tuple xs => .ok (.int xs.length)
  | .len, .dict xs => if okKeys xs then .ok (.int xs.length) else .bad
  | .len, .str x => if sizeOk x.length then .ok (.int x.length) else .bad
  | .abs, .int i => .ok (.int (if i < 0 then -i else i))
  | .int, .int i => .ok (.int i)
  | .tuple, .list xs => .ok (.tuple xs)
  | .tuple, .tuple xs => .ok (.tuple xs)
  | .list, .list xs => .ok (.list xs)
  | .list, .tuple xs => .ok (.list xs)
  | .sorted, .dict kvs => if okKeys kvs && sortable (kvs.map (·.1)) then .ok (.list (sortD (kvs.map (·.1)))) else .bad
  | .sum, .list xs => do let ns ← mapR asInt xs; .ok (.int ns.sum)
  | .sum, .tuple xs => do let ns ← mapR asInt xs; .ok (.int ns.sum)
  | .all, .list xs => do let bs ← mapR asBool xs; .ok (.bool (bs.all id))
  | .any, .list xs => do let bs ← mapR asBool xs; .ok (.bool (bs.any id))
  | b, d => match items d with
    | none => .bad
    | some xs => match b with
      | .sorted => if sortable xs then .ok (.list (sortD xs)) else .bad
      | .min => match xs with
        | [] => .bad
        | x :: r => if comparable xs && xs.all notNone then .ok (minD x r) else .bad
      | .max => match xs with
        | [] => .bad
        | x :: r => if comparable xs && xs.all notNone then .ok (maxD x r) else .bad
      | .setsorted => do let ns ← mapR asInt xs; if decide (ns.length ≤ 60) then .ok (.list ((setI ns).map .int)) else .bad
      | .setlen => do let ns ← mapR asInt xs; if decide (ns.length ≤ 60) then .ok (.int (setI ns).length) else .bad
      | _ => .bad
def b2D : B2 → D → D → Res D
  | .min2, .int i, .int j => .ok (.int (if j < i then j else i))
  | .max2, .int i, .int j => .ok (.int (if j > i then j else i))
  | _, _, _ => .bad
def tyD : Ty → D → Bool
  | .int, .int _ => true
  | .int, .bool _ => true
  | .bool, .bool _ => true
  | .str, .str _ => true
  | .tuple, .tuple _ => true
  | .list, .list _ => true
  | .dict, .dict _ => true
  | _, _ => false
def enumD (n : Int) : List D → List D
  | [] => []
  | x :: r => .tuple [.int n, x] :: enumD (n + 1) r
def rngD (a b c : D) : Res D := do
  let i ← asInt a
  let j ← asInt b
  let s ← asInt c
  let ok := decide (-(2 ^ 62) ≤ i) && decide (i < 2 ^ 62) && decide (-(2 ^ 62) ≤ j) && decide (j < 2 ^ 62)
  if s = 1 then (if ok then .ok (.list ((List.range (j - i).toNat).map fun k => .int (i + (k : Nat)))) else .bad)
  else if s = -1 then (if ok then .ok (.list ((List.range (i - j).toNat).map fun k => .int (i - (k : Nat)))) else .bad)
  else .bad
def rlD (t : Bool) (a b : D) : Res D := do
  let x ← rngD a b (.int 1)
  match x with
  | .list xs => if sizeOk xs.length then .ok (if t then .tuple xs else .list xs) else .bad
  | _ => .bad
/-- the first place in a list -/
def asL : D → Res (List D)
  | .list xs => .ok xs
  | _ => .bad
def idxD (xs : List D) (d : D) : Res D :=
  if SeqAt.shaped (.list xs) && SeqAt.shaped d && sm (.list xs) && sm d then (match xs.findIdx? (fun x => PyData.eqv x d) with | some j => .ok (.int (j : Nat)) | none => .bad) else .bad
def asStr : D → Res Str
  | .str x => .ok x
  | _ => .bad
def joinD (x : Str) (b : D) : Res D := match items b with
  | some ys => do
    let zs ← mapR asStr ys
    if decide ((zs.map (·.length)).sum + zs.length * x.length ≤ 1000000) then .ok (.str (Txt.join x zs)) else .bad
  | _ => .bad
def zipD : List D → List D → List D
  | x :: r, y :: s => .tuple [x, y] :: zipD r s
  | _, _ => []

/-! ### slots -/
def getS (σ : Env) (i : Nat) : Sl := σ.getD i .un
def setS (σ : Env) (i : Nat) (s : Sl) : Env := σ.set i s
def strict (σ : Env) (i : Nat) : Res D := match getS σ i with
  | .fz d => .ok d
  | _ => .bad
def peek (σ : Env) (i : Nat) : Res D := match getS σ i with
  | .fz d => .ok d
  | .ol ds => .ok (.list ds)
  | .od kvs => .ok (.dict kvs)
  | .un => .bad
mutual
def bindT : Tg → D → Env → Res Env
  | .n i, d, σ => .ok (setS σ i (.fz d))
  | .t ts, .tuple ds, σ => bindTs ts ds σ
  | .t ts, .list ds, σ => bindTs ts ds σ
  | .t _, _, _ => .bad
def bindTs : List Tg → List D → Env → Res Env
  | [], [], σ => .ok σ
  | t :: ts, d :: ds, σ => do let σ' ← bindT t d σ; bindTs ts ds σ'
  | _, _, _ => .bad
end
def wipeS (σ : Env) : List Nat → Env
  | [] => σ
  | i :: r => setS (wipeS σ r) i .un

/-! ### expressions -/
/-- the defs: their answers -/
abbrev FE := Nat → List D → Res D
/-- a comprehension: the items that pass, each turned -/
def compR {α β : Type} (f : α → Res (Option β)) : List α → Res (List β)
  | [] => .ok []
  | x :: r => do
    let o ← f x
    let ys ← compR f r
    match o with
    | some y => .ok (y :: ys)
    | none => .ok ys
def putD (kvs : List (D × D)) (k d : D) : List (D × D) := if kvs.any (fun q => PyData.eqv q.1 k) then kvs.map (fun q => if PyData.eqv q.1 k then (q.1, d) else q) else kvs ++ [(k, d)]
def mergeD (kvs js : List (D × D)) : List (D × D) := js.foldl (fun acc q => putD acc q.1 q.2) kvs
/-- a dict comprehension -/
def dcompR (f : D → Res (Option (D × D))) : List D → List (D × D) → Res (List (D × D))
  | [], acc => .ok acc
  | x :: r, acc => do
    let o ← f x
    match o with
    | some q => if (keyOf q.1).isSome && sizeOk acc.length then dcompR f r (putD acc q.1 q.2) else .bad
    | none => dcompR f r acc
mutual
def ev (fe : FE) : E → Env → Res D
  | .k d, _ => .ok d
  | .v i, σ => strict σ i
  | .p i, σ => peek σ i
  | .tup es, σ => do let ds ← evs fe es σ; .ok (.tuple ds)
  | .lst es, σ => do let ds ← evs fe es σ; .ok (.list ds)
  | .op o a b, σ => do let x ← ev fe a σ; let y ← ev fe b σ; opD o x y
  | .cmp o a b, σ => do let x ← ev fe a σ; let y ← ev fe b σ; let r ← cmpB o x y; .ok (.bool r)
  | .ch o q a b c, σ => do
    let x ← ev fe a σ
    let y ← ev fe b σ
    let r ← cmpB o x y
    if r then do
      let z ← ev fe c σ
      let r' ← cmpB q y z
      .ok (.bool r')
    else .ok (.bool false)
  | .and a b, σ => do
    let x ← ev fe a σ
    let t ← asBool x
    if t then ev fe b σ else .ok (.bool false)
  | .or a b, σ => do
    let x ← ev fe a σ
    let t ← asBool x
    if t then .ok (.bool true) else ev fe b σ
  | .not a, σ => do let x ← ev fe a σ; let t ← asBool x; .ok (.bool !t)
  | .neg a, σ => do let x ← ev fe a σ; let i ← asInt x; .ok (.int (-i))
  | .ite c a b, σ => do
    let x ← ev fe c σ
    let t ← asBool x
    if t then ev fe a σ else ev fe b σ
  | .isN a, σ => do let x ← ev fe a σ; .ok (.bool !(notNone x))
  | .notN a, σ => do let x ← ev fe a σ; .ok (.bool (notNone x))
  | .ix a b, σ => do let x ← ev fe a σ; let y ← ev fe b σ; ixD x y
  | .slf a l, σ => do let x ← ev fe a σ; let y ← ev fe l σ; let i ← asInt y; slD x (some i) none
  | .slt a h, σ => do let x ← ev fe a σ; let z ← ev fe h σ; let j ← asInt z; slD x none (some j)
  | .slb a l h, σ => do let x ← ev fe a σ; let y ← ev fe l σ; let i ← asInt y; let z ← ev fe h σ; let j ← asInt z; slD x (some i) (some j)
  | .rev a, σ => do let x ← ev fe a σ; revD x
  | .call f es, σ => do let ds ← evs fe es σ; fe f ds
  | .b1 b a, σ => do let x ← ev fe a σ; b1D b x
  | .b2 b a c, σ => do let x ← ev fe a σ; let y ← ev fe c σ; b2D b x y
  | .isi a ts, σ => do let x ← ev fe a σ; if okD x then .ok (.bool (ts.any fun t => tyD t x)) else .bad
  | .rng a b c, σ => do let x ← ev fe a σ; let y ← ev fe b σ; let z ← ev fe c σ; rngD x y z
  | .enm a, σ => do
    let x ← ev fe a σ
    match items x with
    | some xs => .ok (.list (enumD 0 xs))
    | none => .bad
  | .zip a b, σ => do
    let x ← ev fe a σ
    let y ← ev fe b σ
    match x, y with
    | .list xs, .list ys => .ok (.list (zipD xs ys))
    | .tuple xs, .tuple ys => .ok (.list (zipD xs ys))
    | _, _ => .bad
  | .comp elt tg it c own, σ => do
    let x ← ev fe it σ
    match items x with
    | none => .bad
    | some xs => do
      let ys ← compR (fun d => (do
        let σ' ← bindT tg d (wipeS σ own)
        let t ← ev fe c σ'
        let b ← asBool t
        if b then do
          let y ← ev fe elt σ'
          .ok (some y)
        else .ok none).quiet) xs
      if sizeOk ys.length then .ok (.list ys) else .bad
  | .dnil, _ => .ok (.dict [])
  | .dcomp k v tg it c own, σ => do
    let x ← ev fe it σ
    match items x with
    | none => .bad
    | some xs => do
      let ys ← dcompR (fun d => (do
        let σ' ← bindT tg d (wipeS σ own)
        let t ← ev fe c σ'
        let b ← asBool t
        if b then do
          let y ← ev fe k σ'
          let z ← ev fe v σ'
          .ok (some (y, z))
        else .ok none).quiet) xs []
      .ok (.dict ys)
  | .any, _ => .bad
  | .rl t a b, σ => do let x ← ev fe a σ; let y ← ev fe b σ; rlD t x y
  | .idx a b, σ => do let x ← ev fe a σ; let xs ← asL x; let y ← ev fe b σ; idxD xs y
  | .join a b, σ => do let y ← ev fe b σ; joinD a y
def evs (fe : FE) : List E → Env → Res (List D)
  | [], _ => .ok []
  | e :: r, σ => do let d ← ev fe e σ; let ds ← evs fe r σ; .ok (d :: ds)
end

/-! ### statements -/
/-- what an except suite answers: a constant; by the error's class -/
inductive HR where
  | k (d : D)
  | is (c : Str) (d1 d2 : D)
inductive S where
  | tr (b : List S) (hs : List (Str × HR))
  | set (i : Nat) (e : E)
  | setO (i : Nat) (e : E)
  | unp (tg : Tg) (e : E)
  | par (is : List (Nat × Bool)) (es : List E)
  | setix (i : Nat) (x e : E)
  | aug (i : Nat) (o : Op) (e : E)
  | augix (i : Nat) (x : E) (o : Op) (e : E)
  | pop (j i : Nat)
  | app (i : Nat) (e : E)
  | ext (i : Nat) (e : E)
  | upd (i : Nat) (e : E)
  | fr (i : Nat)
  | wipe (is : List Nat)
  | any
  | xp (e : E)
  | ret (e : E)
  | raise (c : Str)
  | ite (c : E) (a b : List S)
  | for (tg : Tg) (it : E) (b : List S)
  | while (c : E) (b : List S)
  | brk
  | cnt
  | pass
inductive SR where
  | nx (σ : Env)
  | rt (d : D)
  | bk (σ : Env)
  | ct (σ : Env)
  | ex (c : Str)
  | bad
def Res.sr {α : Type} (x : Res α) (f : α → SR) : SR := match x with
  | .ok a => f a
  | .ex c => .ex c
  | .bad => .bad
def SR.andThen (x : SR) (f : Env → SR) : SR := match x with
  | .nx σ => f σ
  | y => y
/-- the turns of a for -/
def forR (f : D → Env → SR) : List D → Env → SR
  | [], σ => .nx σ
  | d :: r, σ => match f d σ with
    | .nx σ' => forR f r σ'
    | .ct σ' => forR f r σ'
    | .bk σ' => .nx σ'
    | y => y
/-- the turns of a while, at most n -/
def whileR (c : Env → Res Bool) (f : Env → SR) : Nat → Env → SR
  | 0, _ => .bad
  | n + 1, σ => (c σ).sr fun t => if t then (match f σ with
    | .nx σ' => whileR c f n σ'
    | .ct σ' => whileR c f n σ'
    | .bk σ' => .nx σ'
    | y => y) else .nx σ
def augOk : Op → Bool
  | .add => true
  | .sub => true
  | .mul => true
  | _ => false
/-- what a name is set to: its own new list or dict, or a value -/
def toSl : Bool → D → Res Sl
  | true, .list ds => .ok (.ol ds)
  | true, .dict kvs => .ok (.od kvs)
  | true, _ => .bad
  | false, d => .ok (.fz d)
def parR : List (Nat × Bool) → List D → Env → Res Env
  | [], [], σ => .ok σ
  | (i, o) :: r, d :: ds, σ => do let s ← toSl o d; parR r ds (setS σ i s)
  | _, _, _ => .bad
/-- is d of type list or dict -/
def freshD : D → Res D
  | .list ds => .ok (.list ds)
  | .dict kvs => .ok (.dict kvs)
  | _ => .bad
def vF (o : Bool) (f : Env → Res D) : Env → Res D := match o with
  | true => fun σ => f σ >>= freshD
  | false => f
def evP (fe : FE) : List (Nat × Bool) → List E → Env → Res (List D)
  | (_, o) :: r, e :: es, σ => do let d ← vF o (ev fe e) σ; let ds ← evP fe r es σ; .ok (d :: ds)
  | _, _, _ => .ok []
/-- the first clause that serves -/
def handleR (sub : Str → Str → Option Bool) : List (Str × HR) → Str → SR
  | [], c => .ex c
  | (x, r) :: hs, c => match sub c x with
    | some true => (match r with
      | .k d => .rt d
      | .is c' d1 d2 => (match sub c c' with
        | some b => .rt (if b then d1 else d2)
        | none => .bad))
    | some false => handleR sub hs c
    | none => .bad
def tryR (sub : Str → Str → Option Bool) (hs : List (Str × HR)) : SR → SR
  | .ex c => handleR sub hs c
  | y => y
def listIx (xs : List D) (i : Int) : Option Nat := L2.ixN xs.length i
mutual
def ex1 (fe : FE) (sub : Str → Str → Option Bool) (n : Nat) : S → Env → SR
  | .tr b hs, σ => tryR sub hs (exs fe sub n b σ)
  | .set i e, σ => (ev fe e σ).sr fun d => .nx (setS σ i (.fz d))
  | .setO i e, σ => (ev fe e σ).sr fun d => (toSl true d).sr fun s => .nx (setS σ i s)
  | .par is es, σ => (evP fe is es σ).sr fun ds => (parR is ds σ).sr .nx
  | .unp tg e, σ => (ev fe e σ).sr fun d => (bindT tg d σ).sr .nx
  | .setix i x e, σ => match getS σ i with
    | .ol ds => (ev fe e σ).sr fun d => (ev fe x σ).sr fun j => (asInt j).sr fun k => match listIx ds k with
      | some m => .nx (setS σ i (.ol (ds.set m d)))
      | none => .bad
    | .od kvs => (ev fe e σ).sr fun d => (ev fe x σ).sr fun j => match keyOf j with
      | some _ => if sizeOk kvs.length then .nx (setS σ i (.od (putD kvs j d))) else .bad
      | none => .bad
    | _ => .bad
  | .aug i o e, σ => (strict σ i).sr fun x => (ev fe e σ).sr fun y => match x, y with
    | .int _, .int _ => if augOk o then (opD o x y).sr fun d => .nx (setS σ i (.fz d)) else .bad
    | _, _ => .bad
  | .augix i x o e, σ => match getS σ i with
    | .ol ds => (ev fe x σ).sr fun j => (asInt j).sr fun k => (match listIx ds k with
      | some m => (match ds[m]? with
        | some (.int u) => (ev fe e σ).sr fun y => (asInt y).sr fun w => if augOk o then (opD o (.int u) (.int w)).sr fun d => .nx (setS σ i (.ol (ds.set m d))) else .bad
        | _ => .bad)
      | none => .bad)
    | _ => .bad
  | .pop j i, σ => match getS σ i with
    | .ol ds => (match ds[ds.length - 1]? with
      | some d => .nx (setS (setS σ i (.ol ds.dropLast)) j (.fz d))
      | none => .bad)
    | _ => .bad
  | .app i e, σ => match getS σ i with
    | .ol ds => (ev fe e σ).sr fun d => if sizeOk ds.length then .nx (setS σ i (.ol (ds ++ [d]))) else .bad
    | _ => .bad
  | .ext i e, σ => match getS σ i with
    | .ol ds => (ev fe e σ).sr fun d => match d with
      | .list xs => if sizeOk (ds.length + xs.length) then .nx (setS σ i (.ol (ds ++ xs))) else .bad
      | _ => .bad
    | _ => .bad
  | .upd i e, σ => match getS σ i with
    | .od kvs => (ev fe e σ).sr fun d => match d with
      | .dict js => if okKeys js && sizeOk (kvs.length + js.length) then .nx (setS σ i (.od (mergeD kvs js))) else .bad
      | _ => .bad
    | _ => .bad
  | .fr i, σ => match getS σ i with
    | .ol ds => .nx (setS σ i (.fz (.list ds)))
    | .od kvs => .nx (setS σ i (.fz (.dict kvs)))
    | _ => .nx σ
  | .wipe is, σ => .nx (wipeS σ is)
  | .any, _ => .bad
  | .xp e, σ => (ev fe e σ).sr fun _ => .nx σ
  | .ret e, σ => (ev fe e σ).sr .rt
  | .raise c, _ => .ex c
  | .ite c a b, σ => (ev fe c σ).sr fun d => (asBool d).sr fun t => if t then exs fe sub n a σ else exs fe sub n b σ
  | .for tg it b, σ => (ev fe it σ).sr fun x => match items x with
    | none => .bad
    | some xs => forR (fun d σ => (bindT tg d σ).sr fun σ' => exs fe sub n b σ') xs σ
  | .while c b, σ => whileR (fun σ => do let d ← ev fe c σ; asBool d) (fun σ => exs fe sub n b σ) n σ
  | .brk, σ => .bk σ
  | .cnt, σ => .ct σ
  | .pass, σ => .nx σ
def exs (fe : FE) (sub : Str → Str → Option Bool) (n : Nat) : List S → Env → SR
  | [], σ => .nx σ
  | s :: r, σ => (ex1 fe sub n s σ).andThen (exs fe sub n r)
end
end BW

namespace BW
open PySem PySem.W L2

/-! ### what a value stands for -/
def keyD : Key → D
  | .inl i => .int i
  | .inr x => .str x
mutual
inductive Dq (K : PySem.W.Frag) (H : Hp) : V → D → Prop
  | non : Dq K H .non .none
  | bl (b : Bool) : Dq K H (.bl b) (.bool b)
  | int (i : Int) : Dq K H (.int i) (.int i)
  | str (x : Str) : Dq K H (.str x) (.str x)
  | lst {a : Addr} {xs : List V} {ds : List D} : Rd H a (.lst xs) → DqAll K H xs ds → Dq K H (.ref a) (.list ds)
  | tup {a : Addr} {xs : List V} {ds : List D} : SqT K H a xs → DqAll K H xs ds → Dq K H (.ref a) (.tuple ds)
  | dK {a : Addr} {ks : List (Key × V)} {kvs : List (D × D)} : Rd H a (.dK ks) → KvP K H ks kvs → Dq K H (.ref a) (.dict kvs)
  | scr {a : Addr} {xs : List V} {ds : List D} : SqL K H a xs → DqAll K H xs ds → Dq K H (.ref a) (.dict [(.none, .list ds)])
inductive DqAll (K : PySem.W.Frag) (H : Hp) : List V → List D → Prop
  | nil : DqAll K H [] []
  | cons {v : V} {vs : List V} {d : D} {ds : List D} : Dq K H v d → DqAll K H vs ds → DqAll K H (v :: vs) (d :: ds)
inductive KvP (K : PySem.W.Frag) (H : Hp) : List (Key × V) → List (D × D) → Prop
  | nil : KvP K H [] []
  | cons {k : Key} {v : V} {d : D} {ks : List (Key × V)} {ds : List (D × D)} : Dq K H v d → KvP K H ks ds → KvP K H ((k, v) :: ks) ((keyD k, d) :: ds)
end
section
variable {K : PySem.W.Frag} {F H F' H' : Hp}
theorem Same.rd {a : Addr} {u : HO} (e : Same F F') (h : Rd F a u) : Rd F' a u := by
  rcases h with h | ⟨o, h⟩
  · exact .inl (e _ _ h)
  · exact .inr ⟨o, e _ _ h⟩
theorem Same.sqT {a : Addr} {xs : List V} (e : Same F F') (h : SqT K F a xs) : SqT K F' a xs := by
  rcases h with h | h
  · exact .inl (Same.rd e h)
  · exact .inr h
theorem Same.sqL {a : Addr} {xs : List V} (e : Same F F') (h : SqL K F a xs) : SqL K F' a xs := by
  rcases h with h | h
  · exact .inl (Same.rd e h)
  · exact .inr h
mutual
theorem Dq.up (e : Same F F') : ∀ {d : D} {v : V}, Dq K F v d → Dq K F' v d
  | _, _, .non => .non
  | _, _, .bl b => .bl b
  | _, _, .int i => .int i
  | _, _, .str x => .str x
  | _, _, .lst h1 h2 => .lst (Same.rd e h1) (DqAll.up e h2)
  | _, _, .tup h1 h2 => .tup (Same.sqT e h1) (DqAll.up e h2)
  | _, _, .dK h1 h2 => .dK (Same.rd e h1) (KvP.up e h2)
  | _, _, .scr h1 h2 => .scr (Same.sqL e h1) (DqAll.up e h2)
theorem DqAll.up (e : Same F F') : ∀ {ds : List D} {vs : List V}, DqAll K F vs ds → DqAll K F' vs ds
  | _, _, .nil => .nil
  | _, _, .cons h1 h2 => .cons (Dq.up e h1) (DqAll.up e h2)
theorem KvP.up (e : Same F F') : ∀ {ks : List (Key × V)} {ds : List (D × D)}, KvP K F ks ds → KvP K F' ks ds
  | _, _, .nil => .nil
  | _, _, .cons h1 h2 => .cons (Dq.up e h1) (KvP.up e h2)
end
mutual
theorem Dq.dp : ∀ (d : D) (v : V), d.plain = true → Dq K F v d → Dp K F v d
  | .none, _, _, h => by cases h; exact .non
  | .bool b, _, _, h => by cases h; exact .bl b
  | .int i, _, _, h => by cases h; exact .int i
  | .str x, _, _, h => by cases h; exact .str x
  | .list ds, _, p, h => by
    cases h with
    | lst h1 h2 => exact .lst (.inl h1) (DqAll.dp ds _ (by simpa [PyData.plain] using p) h2)
  | .tuple ds, _, p, h => by
    cases h with
    | tup h1 h2 => exact .tup h1 (DqAll.dp ds _ (by simpa [PyData.plain] using p) h2)
  | .dict _, _, p, h => by simp [PyData.plain] at p
theorem DqAll.dp : ∀ (ds : List D) (vs : List V), PyData.plainAll ds = true → DqAll K F vs ds → DpAll K F vs ds
  | [], _, _, h => by cases h; exact .nil
  | d :: ds, _, p, h => by
    have p : d.plain = true ∧ PyData.plainAll ds = true := by simpa [PyData.plainAll] using p
    cases h with
    | cons h1 h2 => exact .cons (Dq.dp d _ p.1 h1) (DqAll.dp ds _ p.2 h2)
end
theorem Dq.reads {X : Cx} {pins : List (Addr × Obj)} {s : Shared} {σ : L2.St} (I : Inv X pins σ H s) {d : D} {v : V} {u : Value} (hp : d.plain = true) (h : Dq X.K H v d) (r : RelV v u) : ∃ as, Reads s.heap u d as := Dp.reads I d v u (Dq.dp d v hp h) r
theorem DqAll.reads {X : Cx} {pins : List (Addr × Obj)} {s : Shared} {σ : L2.St} (I : Inv X pins σ H s) {ds : List D} {vs : List V} {us : List Value} (hp : PyData.plainAll ds = true) (h : DqAll X.K H vs ds) (r : Vals vs us) : ∃ as, ReadsAll s.heap us ds as := Dp.readsAll I ds vs us (DqAll.dp ds vs hp h) r
theorem DqAll.length : ∀ {vs : List V} {ds : List D}, DqAll K F vs ds → vs.length = ds.length
  | _, _, .nil => rfl
  | _, _, .cons _ h => by simp [DqAll.length h]
theorem DqAll.app : ∀ {vs ws : List V} {ds es : List D}, DqAll K F vs ds → DqAll K F ws es → DqAll K F (vs ++ ws) (ds ++ es)
  | _, _, _, _, .nil, h => h
  | _, _, _, _, .cons a t, h => .cons a (t.app h)
theorem DqAll.get : ∀ {vs : List V} {ds : List D} {i : Nat} {v : V}, DqAll K F vs ds → vs[i]? = some v → ∃ d, ds[i]? = some d ∧ Dq K F v d
  | _, _, _, _, .nil, e => by simp at e
  | _, _, 0, _, .cons a _, e => by simp at e; subst e; exact ⟨_, rfl, a⟩
  | _, _, i + 1, _, .cons _ t, e => by simpa using t.get (by simpa using e)
theorem DqAll.get' : ∀ {vs : List V} {ds : List D} {i : Nat} {d : D}, DqAll K F vs ds → ds[i]? = some d → ∃ v, vs[i]? = some v ∧ Dq K F v d
  | _, _, _, _, .nil, e => by simp at e
  | _, _, 0, _, .cons a _, e => by simp at e; subst e; exact ⟨_, rfl, a⟩
  | _, _, i + 1, _, .cons _ t, e => by simpa using t.get' (by simpa using e)
theorem DqAll.take : ∀ {vs : List V} {ds : List D} (n : Nat), DqAll K F vs ds → DqAll K F (vs.take n) (ds.take n)
  | _, _, 0, _ => by simp; exact .nil
  | _, _, _ + 1, .nil => by simp; exact .nil
  | _, _, n + 1, .cons a t => .cons a (t.take n)
theorem DqAll.drop : ∀ {vs : List V} {ds : List D} (n : Nat), DqAll K F vs ds → DqAll K F (vs.drop n) (ds.drop n)
  | _, _, 0, h => h
  | _, _, _ + 1, .nil => by simp; exact .nil
  | _, _, n + 1, .cons _ t => t.drop n
theorem DqAll.set {v : V} {d : D} (h : Dq K F v d) : ∀ {vs : List V} {ds : List D} (n : Nat), DqAll K F vs ds → DqAll K F (vs.set n v) (ds.set n d)
  | _, _, _, .nil => by simp; exact .nil
  | _, _, 0, .cons _ t => .cons h t
  | _, _, n + 1, .cons a t => .cons a (t.set h n)
theorem DqAll.rev : ∀ {vs : List V} {ds : List D}, DqAll K F vs ds → DqAll K F vs.reverse ds.reverse
  | _, _, .nil => .nil
  | _, _, .cons a t => by simp only [List.reverse_cons]; exact (DqAll.rev t).app (.cons a .nil)
theorem DqAll.rep {vs : List V} {ds : List D} (h : DqAll K F vs ds) : ∀ k : Nat, DqAll K F (List.replicate k vs).flatten (List.replicate k ds).flatten
  | 0 => by simp; exact .nil
  | k + 1 => by simp only [List.replicate_succ, List.flatten_cons]; exact h.app (h.rep k)

/-! ### heaps that grow -/
/-- F: what is frozen; H: all that is tracked. Nothing changes; what is new is new -/
structure Ext (F F' H H' : Hp) : Prop where
  f : Same F F'
  h : Same H H'
  sub : Same F' H'
  new : ∀ a o, F' a = some o → F a = some o ∨ H a = none
theorem Ext.refl (e : Same F H) : Ext F F H H := ⟨Same.refl F, Same.refl H, e, fun _ _ h => .inl h⟩
theorem Ext.trans {F1 H1 : Hp} (a : Ext F F1 H H1) (b : Ext F1 F' H1 H') : Ext F F' H H' := ⟨a.f.trans b.f, a.h.trans b.h, b.sub, fun c o h => by
  rcases b.new c o h with h | h
  · exact a.new c o h
  · exact .inr (a.h.free h)⟩
/-- a new object, frozen at once -/
theorem Ext.laid {p : Addr} {o : HO} (e : Same F H) (hp : H p = none) : Ext F (upd F p o) H (upd H p o) := by
  refine ⟨fun a u h => ?_, fun a u h => ?_, fun a u h => ?_, fun a u h => ?_⟩
  · rw [upd_ne (ne_of_none (e a u h) hp)]; exact h
  · rw [upd_ne (ne_of_none h hp)]; exact h
  · by_cases q : a = p
    · subst q; rw [upd_same] at h ⊢; exact h
    · rw [upd_ne q] at h ⊢; exact e a u h
  · by_cases q : a = p
    · subst q; exact .inr hp
    · rw [upd_ne q] at h; exact .inl h
/-- a new object that is not frozen -/
theorem Ext.own {p : Addr} {o : HO} (e : Same F H) (hp : H p = none) : Ext F F H (upd H p o) :=
  ⟨Same.refl F, fun a u h => by rw [upd_ne (ne_of_none h hp)]; exact h, fun a u h => by rw [upd_ne (ne_of_none (e a u h) hp)]; exact e a u h, fun _ _ h => .inl h⟩
/-- a heap that has grown: all that is new is frozen -/
theorem Ext.grown (e : Same F H) (s : Same H H') : ∃ F', Ext F F' H H' ∧ ∀ a, F' a = if H a = none then H' a else F a := by
  refine ⟨fun a => if H a = none then H' a else F a, ⟨fun a u h => ?_, s, fun a u h => ?_, fun a u h => ?_⟩, fun _ => rfl⟩
  · have := e a u h
    simp only [this]
    simpa using h
  · by_cases q : H a = none
    · simpa [q] using h
    · simp only [q, if_false] at h
      exact s _ _ (e _ _ h)
  · by_cases q : H a = none
    · exact .inr q
    · simp only [q, if_false] at h
      exact .inl h
theorem Ext.none {a : Addr} {o : HO} (x : Ext F F' H H') (h : H a = some o) (n : F a = none) : F' a = none := by
  cases q : F' a with
  | none => rfl
  | some u =>
    rcases x.new a u q with z | z
    · rw [n] at z; cases z
    · rw [h] at z; cases z

/-! ### slots -/
def SlotOk (K : PySem.W.Frag) (F H : Hp) (o : Option (Option V)) : Sl → Prop
  | .un => True
  | .fz d => ∃ v, o = some (some v) ∧ Dq K F v d
  | .ol ds => ∃ l xs, o = some (some (.ref l)) ∧ H l = some (.lst xs) ∧ F l = none ∧ DqAll K F xs ds
  | .od kvs => ∃ l ks, o = some (some (.ref l)) ∧ H l = some (.dK ks) ∧ F l = none ∧ KvP K F ks kvs
theorem SlotOk.ext {o : Option (Option V)} {s : Sl} (x : Ext F F' H H') (h : SlotOk K F H o s) : SlotOk K F' H' o s := by
  cases s with
  | un => trivial
  | fz d => obtain ⟨v, e, q⟩ := h; exact ⟨v, e, q.up x.f⟩
  | ol ds => obtain ⟨l, xs, e, h1, h2, q⟩ := h; exact ⟨l, xs, e, x.h _ _ h1, x.none h1 h2, q.up x.f⟩
  | od kvs => obtain ⟨l, ks, e, h1, h2, q⟩ := h; exact ⟨l, ks, e, x.h _ _ h1, x.none h1 h2, q.up x.f⟩
structure RE (K : PySem.W.Frag) (F H : Hp) (σ : L2.St) (env : Env) : Prop where
  sub : Same F H
  len : env.length = σ.length
  slot : ∀ i, SlotOk K F H (σ[i]?) (getS env i)
theorem RE.ext {σ : L2.St} {env : Env} (R : RE K F H σ env) (x : Ext F F' H H') : RE K F' H' σ env := ⟨x.sub, R.len, fun i => (R.slot i).ext x⟩

/-- a value that is looked at: frozen, or this def's own list or dict -/
inductive Pk (K : PySem.W.Frag) (F H : Hp) (v : V) : D → Prop
  | dq {d : D} : Dq K F v d → Pk K F H v d
  | ol {l : Addr} {xs : List V} {ds : List D} : v = .ref l → H l = some (.lst xs) → DqAll K F xs ds → Pk K F H v (.list ds)
  | od {l : Addr} {ks : List (Key × V)} {kvs : List (D × D)} : v = .ref l → H l = some (.dK ks) → KvP K F ks kvs → Pk K F H v (.dict kvs)
theorem Pk.ext {v : V} {d : D} (x : Ext F F' H H') (h : Pk K F H v d) : Pk K F' H' v d := by
  cases h with
  | dq q => exact .dq (q.up x.f)
  | ol e h q => exact .ol e (x.h _ _ h) (q.up x.f)
  | od e h q => exact .od e (x.h _ _ h) (q.up x.f)
end

/-! ### readings from the evaluator -/
/-- what is wanted of an exception, by its class -/
abbrev WN := Str → L2.St → Hp → Prop
def rs {β : Type} (W : WN) (σ : L2.St) (F H : Hp) (okb : Hp → Hp → β → Prop) : Res β → Prop
  | .ok b => okb F H b
  | .ex c => ∀ H', Same H H' → W c σ H'
  | .bad => False
def Mn {β : Type} (okb : Hp → Hp → β → Prop) : Prop := ∀ F F' H H' b, Ext F F' H H' → okb F H b → okb F' H' b
def okE (K : PySem.W.Frag) (Q : VK) : Hp → Hp → D → Prop := fun F H d => ∀ v H' F', Ext F F' H H' → Dq K F' v d → Q v H'
def okP (K : PySem.W.Frag) (Q : VK) : Hp → Hp → D → Prop := fun F H d => ∀ v H' F', Ext F F' H H' → Pk K F' H' v d → Q v H'
def okT (Q : Bool → Hp → Prop) : Hp → Hp → Bool → Prop := fun F H b => ∀ H' F', Ext F F' H H' → Q b H'
def okA (K : PySem.W.Frag) (Q : List V → Hp → Prop) : Hp → Hp → List D → Prop := fun F H ds => ∀ vs H' F', Ext F F' H H' → DqAll K F' vs ds → Q vs H'
theorem mnE {K : PySem.W.Frag} {Q : VK} : Mn (okE K Q) := fun _ _ _ _ _ x h v H' F' y q => h v H' F' (x.trans y) q
theorem mnP {K : PySem.W.Frag} {Q : VK} : Mn (okP K Q) := fun _ _ _ _ _ x h v H' F' y q => h v H' F' (x.trans y) q
theorem mnT {Q : Bool → Hp → Prop} : Mn (okT Q) := fun _ _ _ _ _ x h H' F' y => h H' F' (x.trans y)
theorem mnA {K : PySem.W.Frag} {Q : List V → Hp → Prop} : Mn (okA K Q) := fun _ _ _ _ _ x h v H' F' y q => h v H' F' (x.trans y) q
theorem rs.ext {β : Type} {W : WN} {σ : L2.St} {F F' H H' : Hp} {okb : Hp → Hp → β → Prop} (m : Mn okb) (x : Ext F F' H H') {r : Res β} (h : rs W σ F H okb r) : rs W σ F' H' okb r := by
  cases r with
  | ok b => exact m _ _ _ _ _ x h
  | ex c => exact fun H'' s => h H'' (x.h.trans s)
  | bad => exact h
section
variable (K : PySem.W.Frag) (W : WN)
def tE (f : Env → Res D) : TE := fun σ H Q => ∃ F env, RE K F H σ env ∧ rs W σ F H (okE K Q) (f env)
def tP (f : Env → Res D) : TE := fun σ H Q => ∃ F env, RE K F H σ env ∧ rs W σ F H (okP K Q) (f env)
def tT (f : Env → Res Bool) : TT := fun σ H Q => ∃ F env, RE K F H σ env ∧ rs W σ F H (okT Q) (f env)
def tA (f : Env → Res (List D)) : TA := fun σ H Q => ∃ F env, RE K F H σ env ∧ rs W σ F H (okA K Q) (f env)
end
section
variable {X : Cx} {W : WN} {e : Expr}
theorem PE.weak {t t' : TE} (h : PE X e t) (w : ∀ σ H Q, t' σ H Q → t σ H Q) : PE X e t' := ⟨fun pins s σ H Q I q => h.run pins s σ H Q I (w _ _ _ q)⟩
theorem PT.weak {t t' : TT} (h : PT X e t) (w : ∀ σ H Q, t' σ H Q → t σ H Q) : PT X e t' := ⟨fun pins s σ H Q I q => h.run pins s σ H Q I (w _ _ _ q)⟩
theorem PW.weak {t t' : TT} (h : PW X e t) (w : ∀ σ H Q, t' σ H Q → t σ H Q) : PW X e t' := ⟨fun wh pins s σ H Q I q => h.run wh pins s σ H Q I (w _ _ _ q)⟩
theorem PA.weak {es : List Expr} {t t' : TA} (h : PA X es t) (w : ∀ σ H Q, t' σ H Q → t σ H Q) : PA X es t' := ⟨fun pos pins s σ H Q I q => h.run pos pins s σ H Q I (w _ _ _ q)⟩
theorem PS.weak {st : Stmt} {t t' : TS} (h : PS X st t) (w : ∀ D σ H, t' D σ H → t D σ H) : PS X st t' := ⟨fun pins s σ H D I q => h.run pins s σ H D I (w _ _ _ q)⟩
theorem PSs.weak {st : List Stmt} {t t' : TS} (h : PSs X st t) (w : ∀ D σ H, t' D σ H → t D σ H) : PSs X st t' := ⟨fun pins s σ H D I q => h.run pins s σ H D I (w _ _ _ q)⟩
variable {K : PySem.W.Frag} {F H : Hp} {σ : L2.St} {env : Env} {β : Type} {okb : Hp → Hp → β → Prop} {f : Env → Res D}
/-- the step: a part is read, then the rest -/
theorem goE {k : D → Res β} {P : VK} (m : Mn okb) (R : RE K F H σ env) (h : rs W σ F H okb (f env >>= k)) (cont : ∀ d v F1 H1, f env = .ok d → Ext F F1 H H1 → RE K F1 H1 σ env → Dq K F1 v d → rs W σ F1 H1 okb (k d) → P v H1) : tE K W f σ H P := by
  refine ⟨F, env, R, ?_⟩
  cases q : f env with
  | ok d => rw [q] at h; exact fun v H' F' x z => cont d v F' H' q x (R.ext x) z (h.ext m x)
  | ex c => rw [q] at h; exact h
  | bad => rw [q] at h; exact h
theorem goP {k : D → Res β} {P : VK} (m : Mn okb) (R : RE K F H σ env) (h : rs W σ F H okb (f env >>= k)) (cont : ∀ d v F1 H1, f env = .ok d → Ext F F1 H H1 → RE K F1 H1 σ env → Pk K F1 H1 v d → rs W σ F1 H1 okb (k d) → P v H1) : tP K W f σ H P := by
  refine ⟨F, env, R, ?_⟩
  cases q : f env with
  | ok d => rw [q] at h; exact fun v H' F' x z => cont d v F' H' q x (R.ext x) z (h.ext m x)
  | ex c => rw [q] at h; exact h
  | bad => rw [q] at h; exact h
theorem goT {f : Env → Res Bool} {k : Bool → Res β} {P : Bool → Hp → Prop} (m : Mn okb) (R : RE K F H σ env) (h : rs W σ F H okb (f env >>= k)) (cont : ∀ b F1 H1, f env = .ok b → Ext F F1 H H1 → RE K F1 H1 σ env → rs W σ F1 H1 okb (k b) → P b H1) : tT K W f σ H P := by
  refine ⟨F, env, R, ?_⟩
  cases q : f env with
  | ok d => rw [q] at h; exact fun H' F' x => cont d F' H' q x (R.ext x) (h.ext m x)
  | ex c => rw [q] at h; exact h
  | bad => rw [q] at h; exact h
theorem goA {f : Env → Res (List D)} {k : List D → Res β} {P : List V → Hp → Prop} (m : Mn okb) (R : RE K F H σ env) (h : rs W σ F H okb (f env >>= k)) (cont : ∀ ds vs F1 H1, f env = .ok ds → Ext F F1 H H1 → RE K F1 H1 σ env → DqAll K F1 vs ds → rs W σ F1 H1 okb (k ds) → P vs H1) : tA K W f σ H P := by
  refine ⟨F, env, R, ?_⟩
  cases q : f env with
  | ok d => rw [q] at h; exact fun vs H' F' x z => cont d vs F' H' q x (R.ext x) z (h.ext m x)
  | ex c => rw [q] at h; exact h
  | bad => rw [q] at h; exact h
/-- the end: nothing more is laid -/
theorem rs.end {F H : Hp} {Q : VK} {d : D} {v : V} (h : rs W σ F H (okE K Q) (.ok d)) (e : Same F H) (q : Dq K F v d) : Q v H := h v H F (Ext.refl e) q
end
end BW

namespace BW
open PySem PySem.W L2 PySem.Spec PyProof.Rows

theorem size_of {n : Nat} (h : sizeOk n = true) : n ≤ 1000000 := of_decide_eq_true h
theorem size_line {n : Nat} (h : sizeOk n = true) : n ≤ sizeLine := Nat.le_trans (size_of h) (by rw [sizeLine_eq]; decide)
theorem size_lt {n : Nat} (h : sizeOk n = true) : n < sizeLine := Nat.lt_of_le_of_lt (size_of h) (by rw [sizeLine_eq]; decide)
section
variable {K : PySem.W.Frag} {F H : Hp} {v : V} {X : Cx}
theorem Pk.int {i : Int} (h : Pk K F H v (.int i)) : v = .int i := by cases h with | dq q => cases q; rfl
theorem Pk.bl {b : Bool} (h : Pk K F H v (.bool b)) : v = .bl b := by cases h with | dq q => cases q; rfl
theorem Pk.str {x : Str} (h : Pk K F H v (.str x)) : v = .str x := by cases h with | dq q => cases q; rfl
theorem Pk.non (h : Pk K F H v .none) : v = .non := by cases h with | dq q => cases q; rfl
theorem Pk.lst {ds : List D} (e : Same F H) (h : Pk K F H v (.list ds)) : ∃ l xs, v = .ref l ∧ Rd H l (.lst xs) ∧ DqAll K F xs ds := by
  cases h with
  | dq q => cases q with | lst h1 h2 => exact ⟨_, _, rfl, Same.rd e h1, h2⟩
  | ol a b c => exact ⟨_, _, a, .inl b, c⟩
theorem Pk.tup {ds : List D} (e : Same F H) (h : Pk K F H v (.tuple ds)) : ∃ l xs, v = .ref l ∧ SqT K H l xs ∧ DqAll K F xs ds := by
  cases h with
  | dq q => cases q with | tup h1 h2 => exact ⟨_, _, rfl, Same.sqT e h1, h2⟩
theorem Pk.tupF {ds : List D} (h : Pk K F H v (.tuple ds)) : Dq K F v (.tuple ds) := by
  cases h with | dq q => exact q
theorem Pk.dict {kvs : List (D × D)} (e : Same F H) (ok : okKeys kvs = true) (h : Pk K F H v (.dict kvs)) : ∃ l ks, v = .ref l ∧ Rd H l (.dK ks) ∧ KvP K F ks kvs := by
  cases h with
  | dq q =>
    cases q with
    | dK a b => exact ⟨_, _, rfl, Same.rd e a, b⟩
    | scr a b => simp [okKeys, keyOf] at ok
  | od a b c => exact ⟨_, _, a, .inl b, c⟩
theorem Pk.scr {ds : List D} (e : Same F H) (h : Pk K F H v (.dict [(.none, .list ds)])) : ∃ l xs, v = .ref l ∧ SqL K H l xs ∧ DqAll K F xs ds := by
  have no : ∀ ks, ¬ KvP K F ks [(.none, .list ds)] := fun ks z => by
    generalize hk : ([(.none, .list ds)] : List (D × D)) = kvs at z
    cases z with
    | nil => cases hk
    | @cons k v d ks ds' a b => cases k <;> cases hk
  cases h with
  | dq q =>
    generalize hk : (PyData.dict [(.none, .list ds)]) = dd at q
    cases q with
    | dK a b => cases hk; exact absurd b (no _)
    | scr a b => cases hk; exact ⟨_, _, rfl, Same.sqL e a, b⟩
    | _ => cases hk
  | od a b c => exact absurd c (no _)
/-- the object of a list that may be read -/
theorem Inv.rdL {pins : List (Addr × Obj)} {σ : L2.St} {s : Shared} {l : Addr} {xs : List V} (I : Inv X pins σ H s) (h : Rd H l (.lst xs)) :
    xs.length ≤ sizeLine ∧ ∃ (its : List Value) (n : Nat), Vals xs its ∧ xs.length = its.length ∧ s.heap.get? l = some { cls := .type "list", data := .seq its.toArray n } := by
  obtain ⟨z, its, n, r, e⟩ := h.ok I.hok
  exact ⟨z, its, n, r, r.length, e⟩
theorem sqL_of_rd {l : Addr} {xs : List V} (h : Rd H l (.lst xs)) : SqL K H l xs := .inl h
/-- the end of a rule that lays a new list, a new tuple -/
theorem new_lst {Q : VK} {ds : List D} {xs : List V} (e : Same F H) (h : okE K Q F H (.list ds)) (q : DqAll K F xs ds) : ∀ p, H p = none → Q (.ref p) (upd H p (.lst xs)) := fun p hp =>
  h _ _ _ (Ext.laid (o := .lst xs) e hp) (.lst (.inl upd_same) (q.up (Ext.laid e hp).f))
theorem new_tup {Q : VK} {ds : List D} {xs : List V} (e : Same F H) (h : okE K Q F H (.tuple ds)) (q : DqAll K F xs ds) : ∀ p, H p = none → Q (.ref p) (upd H p (.tup xs)) := fun p hp =>
  h _ _ _ (Ext.laid (o := .tup xs) e hp) (.tup (.inl (.inl upd_same)) (q.up (Ext.laid e hp).f))
theorem okE.fin {Q : VK} {d : D} (h : okE K Q F H d) (e : Same F H) (q : Dq K F v d) : Q v H := h v H F (Ext.refl e) q

/-! ### list + list, list * int for lists that are read -/
def rCatR : R2 := fun x y H Q => ∃ l b xs zs, x = .ref l ∧ y = .ref b ∧ Rd H l (.lst xs) ∧ Rd H b (.lst zs) ∧ xs.length + zs.length ≤ sizeLine ∧ ∀ p, H p = none → Q (.ref p) (upd H p (.lst (xs ++ zs)))
theorem op_catR : OpR X (binaryOp .Add) rCatR := by
  intro pins s σ H x y v u Q I rx ry h
  obtain ⟨l, b, xs, zs, rfl, rfl, hH, hB, hz, q⟩ := h
  cases rx
  cases ry
  obtain ⟨z, its, n, r, hl, e⟩ := Inv.rdL I hH
  obtain ⟨z2, its2, n2, r2, hl2, e2⟩ := Inv.rdL I hB
  refine PySem.P.add_list e e2 ?_ (by rw [List.size_toArray, List.size_toArray]; omega)
  have ea : its.toArray ++ its2.toArray = (its ++ its2).toArray := by simp
  rw [ea]
  exact ⟨.ref _, _, I.lnew (t' := s.toks) (r.append r2) (by rw [List.length_append]; omega), rfl, q _ I.fresh⟩
def rRepR : R2 := fun x y H Q => ∃ l k xs, x = .ref l ∧ y = .int k ∧ Rd H l (.lst xs) ∧ -(2 ^ 63) ≤ k ∧ k < 2 ^ 63 ∧ xs.length * k.toNat ≤ sizeLine ∧
  ∀ p, H p = none → Q (.ref p) (upd H p (.lst (List.replicate k.toNat xs).flatten))
theorem op_repR : OpR X (binaryOp .Mult) rRepR := by
  intro pins s σ H x y v u Q I rx ry h
  obtain ⟨l, k, xs, rfl, rfl, hH, h1, h2, hz, q⟩ := h
  cases rx
  obtain ⟨t, rfl⟩ := ry
  obtain ⟨z, its, n, r, hl, e⟩ := Inv.rdL I hH
  have hlen : its.toArray.size * k.toNat ≤ sizeLine := by rw [List.size_toArray, ← hl]; exact hz
  have hcap : ¬ its.toArray.size * k.toNat > (2 ^ 63 - 1) / 8 := by
    have : (sizeLine : Nat) ≤ (2 ^ 63 - 1) / 8 := by decide
    omega
  have hfit : ¬ (!Builtin.List.listFitsIndex k) = true := by
    rw [fitsIndex_both h1 h2]
    exact Bool.false_ne_true
  have hlong : ¬ Builtin.List.listTooLong (its.toArray.size * k.toNat) = true := by
    rw [notLongL hlen]
    exact Bool.false_ne_true
  have hnew : List.foldl (fun x1 x2 => x1 ++ x2) #[] (List.replicate (if its.toArray.isEmpty = true then 0 else k.toNat) its.toArray) = (List.replicate k.toNat its).flatten.toArray := by
    have f0 : ∀ m : Nat, List.foldl (fun x1 x2 => x1 ++ x2) #[] (List.replicate m its.toArray) = (List.replicate m its).flatten.toArray := fun m => by
      have := foldl_rep its m []
      rw [List.nil_append] at this
      exact this
    rw [f0]
    cases its with
    | nil => simp
    | cons a r' => rw [if_neg (by simp)]
  refine wpAny_binaryOp_repeat_ref (T := "list") (U := "int") (by decide) ⟨_, e, rfl⟩ (fun s' => typeIs_int s' k t) noFill_list_mul PySem.F.fills_int_mul PySem.F.slot_int_rmul repeat_list PySem.F.slot_int_index.lookup
    (call_meets PySem.F.slot_int_rmul (typeIs_int s k t) PySem.F.entry_int_rmul (PySem.F.args_int_rmul_2 _ _) (int___rmul___int_list k t l its.toArray n)
      ⟨e, rfl, ⟨_, e, rfl⟩, call_meets PySem.F.slot_list_mul ⟨_, e, rfl⟩ PySem.F.entry_list_mul (PySem.F.args_list_mul_2 _ _) (AutoListH.list___mul___list_int_3 l its.toArray n k t hfit hcap hlong) ⟨e, ?_⟩⟩)
  rw [hnew]
  exact ⟨.ref _, _, I.lnew (t' := s.toks) (r.rep k.toNat) (by rw [PyProof.Rows.lm_len_rep_flat, Nat.mul_comm]; exact hz), rfl, q _ I.fresh⟩
/-- a tuple times one is itself -/
theorem tuple_mul1 (l : Addr) (items : Array Value) (n : Nat) (dd : Option Addr) (sl : Array (Option Value)) (u : Tok) :
    Meets (Builtin.«tuple.__mul__» ⟨[.ref l, .int 1 u], []⟩) (fun _ R s => s.heap.get? l = some { cls := .type "tuple", dict := dd, data := .seq items n, slots := sl } ∧ R (.ok (.ret (Value.ref l))) s) :=
  .of_wp fun prog w A R s h => by
    obtain ⟨hp, g, d, tk, os⟩ := s
    obtain ⟨hl, h⟩ := h
    have f1 := AutoSeq1.idx_int
    wp_walk using wpAny_loadPart' hl
    repeat (first
      | (refine wpAny_ite_false (decide_eq_false (by decide)) ?_; wp_walk using wpAny_loadPart' hl)
      | (refine wpAny_ite_true (by simp) ?_; wp_walk using wpAny_loadPart' hl))
    exact ⟨_, rfl, h⟩
/-- tuple * int -/
def rRepTu (K : PySem.W.Frag) : R2 := fun x y H Q => ∃ l k xs, x = .ref l ∧ y = .int k ∧ SqT K H l xs ∧ xs ≠ [] ∧ 1 ≤ k ∧ k ≤ 1000 ∧ xs.length ≤ 1000 ∧ (k = 1 → Q (.ref l) H) ∧ (k ≠ 1 → ∀ p, H p = none → Q (.ref p) (upd H p (.tup (List.replicate k.toNat xs).flatten)))
theorem op_repTu : OpR X (binaryOp .Mult) (rRepTu X.K) := by
  intro pins s σ H x y v u Q I rx ry h
  obtain ⟨l, k, xs, rfl, rfl, hT, hne, h1, h2, hz, q1, q⟩ := h
  by_cases hk : k = 1
  · subst hk
    cases rx
    obtain ⟨t, rfl⟩ := ry
    obtain ⟨its, r, ⟨⟨cls, dd, data, sl⟩, ho, hc, n, hd⟩, hs⟩ := I.tuple hT
    simp only at hc hd
    subst hc hd
    refine wpAny_binaryOp_repeat_ref (T := "tuple") (U := "int") (by decide) ⟨_, ho, rfl⟩ (fun s' => typeIs_int s' 1 t) noFill_tuple_mul PySem.F.fills_int_mul PySem.F.slot_int_rmul repeat_tuple PySem.F.slot_int_index.lookup
      (call_meets PySem.F.slot_int_rmul (typeIs_int s 1 t) PySem.F.entry_int_rmul (PySem.F.args_int_rmul_2 _ _) (int_rmul_tuple 1 t l its.toArray n dd sl)
        ⟨ho, rfl, ⟨_, ho, rfl⟩, call_meets PySem.F.slot_tuple_mul ⟨_, ho, rfl⟩ PySem.F.entry_tuple_mul (PySem.F.args_tuple_mul_2 _ _) (tuple_mul1 l its.toArray n dd sl t) ⟨ho, ?_⟩⟩)
    exact ⟨.ref l, H, I, rfl, q1 rfl⟩
  · exact op_repT pins s σ H _ _ v u Q I rx ry ⟨l, k, xs, rfl, rfl, hT, hne, by omega, h2, hz, q hk⟩

/-! ### the operators, by data -/
def opM : Op → Operator
  | .add => .Add | .sub => .Sub | .mul => .Mult | .fdiv => .FloorDiv | .mod => .Mod | .pow => .Pow | .shl => .LShift | .shr => .RShift | .band => .BitAnd
/-- a rule by data: g tells what comes of them -/
def rD2 (K : PySem.W.Frag) (g : D → D → Res D) : R2 := fun x y H Q => ∃ F dx dy d, Same F H ∧ Pk K F H x dx ∧ Pk K F H y dy ∧ g dx dy = .ok d ∧ okE K Q F H d
theorem ite_ok {β : Type} {c : Prop} [Decidable c] {a b : β} (h : (if c then Res.ok a else .bad) = .ok b) : c ∧ a = b := by
  by_cases hc : c
  · rw [if_pos hc] at h; cases h; exact ⟨hc, rfl⟩
  · rw [if_neg hc] at h; cases h
theorem smallI_of {i : Int} (h : smallI i = true) : -(2 ^ 64) < i ∧ i < 2 ^ 64 := by
  unfold smallI at h
  simp only [Bool.and_eq_true, decide_eq_true_eq] at h
  exact h
theorem opR_D (o : Op) : OpR X (binaryOp (opM o)) (rD2 X.K (opD o)) := by
  intro pins s σ H x y v u Q I rx ry ⟨F, dx, dy, d, e, px, py, hg, q⟩
  cases o with
  | add =>
    cases dx <;> cases dy <;> try (exfalso; revert hg; simp [opD]; done)
    · cases px.int; cases py.int; cases hg
      exact op_add pins s σ H _ _ v u Q I rx ry ⟨_, _, rfl, rfl, q.fin e (.int _)⟩
    · obtain ⟨hz, rfl⟩ := ite_ok hg
      obtain ⟨l, xs, rfl, h1, a1⟩ := px.lst e
      obtain ⟨b, zs, rfl, h2, a2⟩ := py.lst e
      refine op_catR pins s σ H _ _ v u Q I rx ry ⟨l, b, xs, zs, rfl, rfl, h1, h2, ?_, new_lst e q (a1.app a2)⟩
      rw [a1.length, a2.length]; exact size_line hz
    · obtain ⟨hz, rfl⟩ := ite_ok hg
      obtain ⟨l, xs, rfl, h1, a1⟩ := px.tup e
      obtain ⟨b, zs, rfl, h2, a2⟩ := py.tup e
      refine op_catA pins s σ H _ _ v u Q I rx ry ⟨l, b, xs, zs, rfl, rfl, h1, h2, ?_, fun z => ?_, fun _ z => ?_, fun _ _ => new_tup e q (a1.app a2)⟩
      · rw [a1.length, a2.length]; exact size_line hz
      · subst z; cases a1; exact q.fin e py.tupF
      · subst z; cases a2; rw [List.append_nil] at q; exact q.fin e px.tupF
  | sub =>
    cases dx <;> cases dy <;> try (exfalso; revert hg; simp [opD]; done)
    cases px.int; cases py.int; cases hg
    exact op_sub pins s σ H _ _ v u Q I rx ry ⟨_, _, rfl, rfl, q.fin e (.int _)⟩
  | mul =>
    cases dx <;> cases dy <;> try (exfalso; revert hg; simp [opD]; done)
    · cases px.int; cases py.int
      obtain ⟨hz, rfl⟩ := ite_ok hg
      refine op_mul pins s σ H _ _ v u Q I rx ry ⟨_, _, rfl, rfl, ?_, q.fin e (.int _)⟩
      rcases Bool.or_eq_true_iff.mp hz with z | z
      · exact .inl (smallI_of z)
      · exact .inr (smallI_of z)
    · obtain ⟨hz, rfl⟩ := ite_ok hg
      obtain ⟨l, xs, rfl, h1, a1⟩ := px.lst e
      cases py.int
      simp only [Bool.and_eq_true, decide_eq_true_eq] at hz
      refine op_repR pins s σ H _ _ v u Q I rx ry ⟨l, _, xs, rfl, rfl, h1, by omega, by omega, ?_, new_lst e q (a1.rep _)⟩
      rw [a1.length]; exact size_line hz.2
    · obtain ⟨hz, rfl⟩ := ite_ok hg
      obtain ⟨l, xs, rfl, h1, a1⟩ := px.tup e
      cases py.int
      simp only [Bool.and_eq_true, decide_eq_true_eq, Bool.not_eq_true', List.isEmpty_eq_false_iff] at hz
      obtain ⟨⟨⟨z1, z2⟩, z3⟩, z4⟩ := hz
      refine op_repTu pins s σ H _ _ v u Q I rx ry ⟨l, _, xs, rfl, rfl, h1, ?_, z1, z2, ?_, fun z => ?_, fun _ => new_tup e q (a1.rep _)⟩
      · intro z; subst z; cases a1; exact z3 rfl
      · rw [a1.length]; exact z4
      · subst z
        simp only [Int.toNat_one, List.replicate_one, List.flatten_cons, List.flatten_nil, List.append_nil] at q
        exact q.fin e px.tupF
  | fdiv =>
    cases dx <;> cases dy <;> try (exfalso; revert hg; simp [opD]; done)
    cases px.int; cases py.int
    obtain ⟨hz, rfl⟩ := ite_ok hg
    simp only [Bool.and_eq_true, decide_eq_true_eq] at hz
    exact op_fdiv pins s σ H _ _ v u Q I rx ry ⟨_, _, rfl, rfl, hz, q.fin e (.int _)⟩
  | mod =>
    cases dx <;> cases dy <;> try (exfalso; revert hg; simp [opD]; done)
    cases px.int; cases py.int
    obtain ⟨hz, rfl⟩ := ite_ok hg
    exact op_mod pins s σ H _ _ v u Q I rx ry ⟨_, _, rfl, rfl, of_decide_eq_true hz, q.fin e (.int _)⟩
  | pow =>
    cases dx <;> cases dy <;> try (exfalso; revert hg; simp [opD]; done)
    cases px.int; cases py.int
    obtain ⟨hz, rfl⟩ := ite_ok hg
    simp only [Bool.and_eq_true, decide_eq_true_eq] at hz
    exact op_pow pins s σ H _ _ v u Q I rx ry ⟨_, _, rfl, rfl, ⟨hz.1.1, hz.1.2, hz.2⟩, q.fin e (.int _)⟩
  | shl =>
    cases dx <;> cases dy <;> try (exfalso; revert hg; simp [opD]; done)
    cases px.int; cases py.int
    obtain ⟨hz, rfl⟩ := ite_ok hg
    simp only [Bool.and_eq_true, decide_eq_true_eq] at hz
    exact op_shl pins s σ H _ _ v u Q I rx ry ⟨_, _, rfl, rfl, ⟨hz.1.1, hz.1.2, hz.2⟩, q.fin e (.int _)⟩
  | shr =>
    cases dx <;> cases dy <;> try (exfalso; revert hg; simp [opD]; done)
    cases px.int; cases py.int
    obtain ⟨hz, rfl⟩ := ite_ok hg
    exact op_shr pins s σ H _ _ v u Q I rx ry ⟨_, _, rfl, rfl, of_decide_eq_true hz, q.fin e (.int _)⟩
  | band =>
    cases dx <;> cases dy <;> try (exfalso; revert hg; simp [opD]; done)
    cases px.int; cases py.int; cases hg
    exact op_and pins s σ H _ _ v u Q I rx ry ⟨_, _, rfl, rfl, q.fin e (.int _)⟩

/-! ### comparisons, by data -/
def cmpM : Cmp → CmpOp
  | .eq => .Eq | .ne => .NotEq | .lt => .Lt | .le => .LtE | .gt => .Gt | .ge => .GtE | .isin => .In | .notin => .NotIn
theorem sm_plain {d : D} (h : sm d = true) : d.plain = true := (Bool.and_eq_true_iff.mp h).1
theorem sm_depth {d : D} (h : sm d = true) : d.depth ≤ 60 := of_decide_eq_true (Bool.and_eq_true_iff.mp h).2
/-- a frozen value from a plain datum -/
theorem Pk.reads {pins : List (Addr × Obj)} {s : Shared} {σ : L2.St} {d : D} {u : Value} (I : Inv X pins σ H s) (e : Same F H) (h : Pk X.K F H v d) (r : RelV v u) (hp : d.plain = true) : ∃ as, Reads s.heap u d as := by
  cases h with
  | dq q => exact Dq.reads I hp (q.up e) r
  | @ol l xs ds a b c =>
    subst a
    exact Dq.reads I hp (Dq.lst (.inl b) (c.up e)) r
  | od a b c => cases hp
end
end BW

namespace BW
open PySem PySem.W L2 PySem.Spec PyProof.Rows
section
variable {K : PySem.W.Frag} {F H : Hp} {v : V} {X : Cx}
def cmpV (o : Cmp) (x y : D) : Res D := do let r ← cmpB o x y; .ok (.bool r)
theorem bind_ok {α β : Type} {x : Res α} {f : α → Res β} {b : β} (h : (x >>= f) = .ok b) : ∃ a, x = .ok a ∧ f a = .ok b := by
  cases x with
  | ok a => exact ⟨a, rfl, h⟩
  | ex c => cases h
  | bad => cases h
theorem ite_okb {β : Type} {c : Bool} {a : β} {b : β} (h : (if c = true then Res.ok a else .bad) = .ok b) : c = true ∧ a = b := ite_ok h
theorem plain_list {xs : List D} (h : sm (.list xs) = true) : PyData.plainAll xs = true := by
  have := sm_plain h
  simpa only [PyData.plain] using this
theorem depth_list {xs : List D} (h : sm (.list xs) = true) : PyData.depthAll xs ≤ 60 := by
  have := sm_depth h
  simp only [PyData.depth] at this
  omega
theorem Pk.readsT {pins : List (Addr × Obj)} {s : Shared} {σ : L2.St} {xs : List D} {u : Value} (hp : PyData.plainAll xs = true) (I : Inv X pins σ H s) (e : Same F H) (h : Pk X.K F H v (.tuple xs)) (r : RelV v u) : ∃ as, Reads s.heap u (.tuple xs) as := by
  cases h with | dq q => exact Dq.reads I (by simpa [PyData.plain] using hp) (q.up e) r
theorem Pk.readsL {pins : List (Addr × Obj)} {s : Shared} {σ : L2.St} {xs : List D} {u : Value} (hp : PyData.plainAll xs = true) (I : Inv X pins σ H s) (e : Same F H) (h : Pk X.K F H v (.list xs)) (r : RelV v u) : ∃ as, Reads s.heap u (.list xs) as := by
  cases h with
  | dq q => exact Dq.reads I (by simpa [PyData.plain] using hp) (q.up e) r
  | @ol l xs ds a b c =>
    subst a
    exact Dq.reads I (by simpa [PyData.plain] using hp) (Dq.lst (.inl b) (c.up e)) r
theorem alike_none {a b : D} (h : alike a b = true) (hn : b ≠ .none) : a ≠ .none := by
  intro e; subst e
  cases b <;> simp [alike] at h
  exact hn rfl
theorem ltD_ok {a b : D} {r : Bool} (h : ltD a b = .ok r) : a.plain = true ∧ b.plain = true ∧ alike a b = true ∧ a ≠ .none ∧ a.depth ≤ 60 ∧ b.depth ≤ 60 ∧ r = dataLt a b := by
  unfold ltD at h
  split at h
  · cases h
    refine ⟨rfl, rfl, rfl, by simp, ?_, ?_, ?_⟩
    · simp [PyData.depth]
    · simp [PyData.depth]
    · rw [dataLt_int]
  · obtain ⟨hz, rfl⟩ := ite_okb h
    simp only [Bool.and_eq_true] at hz
    obtain ⟨⟨⟨z1, z2⟩, z3⟩, z4⟩ := hz
    refine ⟨sm_plain z2, sm_plain z3, z1, ?_, sm_depth z2, sm_depth z3, rfl⟩
    rintro rfl
    simp at z4
theorem alike_comm : ∀ a b : D, alike a b = alike b a := by
  have both : ∀ n : Nat, (∀ a b : D, sizeOf a + sizeOf b ≤ n → alike a b = alike b a) := by
    intro n
    induction n with
    | zero => intro a b h; cases a <;> simp at h
    | succ n ih =>
      have all : ∀ xs ys : List D, sizeOf xs + sizeOf ys ≤ n + 1 → alikeAll xs ys = alikeAll ys xs := by
        intro xs
        induction xs with
        | nil => intro ys _; cases ys <;> simp [alikeAll]
        | cons x xs ihx =>
          intro ys h
          cases ys with
          | nil => simp [alikeAll]
          | cons y ys =>
            simp only [alikeAll]
            simp only [List.cons.sizeOf_spec] at h
            rw [ih x y (by omega), ihx ys (by omega)]
      intro a b h
      cases a <;> cases b <;> try rfl
      · simp only [alike]; exact all _ _ (by simp only [PyData.list.sizeOf_spec] at h; omega)
      · simp only [alike]; exact all _ _ (by simp only [PyData.tuple.sizeOf_spec] at h; omega)
  exact fun a b => both _ a b (Nat.le_refl _)
/-! ### dict keys -/
theorem keyD_V (k : Key) : Dq K F (kV k) (keyD k) := by
  cases k with
  | inl i => exact .int i
  | inr x => exact .str x
theorem keyOf_keyD (k : Key) : keyOf (keyD k) = some k := by cases k <;> rfl
theorem keyOf_some {d : D} {k : Key} (h : keyOf d = some k) : d = keyD k := by
  cases d <;> simp [keyOf] at h <;> subst h <;> rfl
theorem eqv_keyD (a b : Key) : PyData.eqv (keyD a) (keyD b) = decide (a = b) := by
  cases a <;> cases b <;> simp [keyD, PyData.eqv]
  · rw [Bool.eq_iff_iff]; simp
  · rw [Bool.eq_iff_iff]; simp
theorem KvP.any' (k : Key) : ∀ {ks : List (Key × V)} {kvs : List (D × D)}, KvP K F ks kvs → (kvs.any fun d => PyData.eqv d.1 (keyD k)) = ks.any fun kv => decide (kv.1 = k)
  | _, _, .nil => rfl
  | _, _, .cons a t => by simp only [List.any_cons, KvP.any' k t, eqv_keyD]
theorem KvP.any {ks : List (Key × V)} {kvs : List (D × D)} (h : KvP K F ks kvs) (k : Key) : (kvs.any fun d => PyData.eqv d.1 (keyD k)) = (valV ks k).isSome := by
  rw [← valV_any]
  exact KvP.any' k h
theorem DGet.rk {H : Hp} {a : Addr} {kvs : List (Key × V)} {k : Key} (e : Rd H a (.dK kvs)) : DGet H a (kV k) (valV kvs k) := .inl ⟨kvs, k, e, rfl, rfl⟩
theorem Pk.key {k : Key} (h : Pk K F H v (keyD k)) : v = kV k := by
  cases k with
  | inl i => exact h.int
  | inr x => exact h.str

theorem cmpR_D (o : Cmp) (hu : X.A.units + 64 < cLine) : OpR X (compareOp (cmpM o)) (rD2 X.K (cmpV o)) := by
  intro pins s σ H x y v u Q I rx ry ⟨F, dx, dy, d, e, px, py, hg, q⟩
  obtain ⟨r, hr, hd⟩ := bind_ok hg
  cases hd
  have fin : EP X pins σ Q (.bool r) s := ⟨.bl r, H, I, rfl, q.fin e (.bl r)⟩
  have hin : ∀ (neg : Bool) (r : Bool), okE X.K Q F H (.bool r) → ∀ r', inD dx dy = .ok r' → r = (if neg = true then !r' else r') → wpAny (model X.prog X.w) X.A (compareOp (if neg = true then CmpOp.NotIn else .In) v u) (EP X pins σ Q) X.xe s := by
    intro neg r q r' hr er
    have fin : EP X pins σ Q (.bool r) s := ⟨.bl r, H, I, rfl, q.fin e (.bl r)⟩
    subst er
    unfold inD at hr
    split at hr
    · rename_i xs hi
      obtain ⟨hz, rfl⟩ := ite_okb hr
      obtain ⟨z1, z2⟩ := Bool.and_eq_true_iff.mp hz
      obtain ⟨as, ra⟩ := px.reads I e rx (sm_plain z1)
      have := sm_depth z1
      have := depth_list z2
      have hm : X.A.units + 1 + min (PyData.depthAll xs) dx.depth < cLine := by omega
      cases dy <;> simp [items] at hi
      · subst hi
        obtain ⟨bs, rb⟩ := py.readsL (plain_list z2) I e ry
        cases neg
        · exact PySem.SeqAt.in_list_data rb ra (plain_list z2) (sm_plain z1) hm fin
        · exact PySem.SeqAt.notIn_list_data rb ra (plain_list z2) (sm_plain z1) hm fin
      · subst hi
        obtain ⟨bs, rb⟩ := py.readsT (plain_list z2) I e ry
        cases neg
        · exact PySem.SeqAt.in_tuple_data rb ra (plain_list z2) (sm_plain z1) hm fin
        · exact PySem.SeqAt.notIn_tuple_data rb ra (plain_list z2) (sm_plain z1) hm fin
    · split at hr
      · rename_i kvs
        split at hr
        · rename_i k hk
          obtain ⟨ok, hr⟩ := ite_okb hr
          cases hr
          have hk := keyOf_some hk
          subst hk
          obtain ⟨l, ks, rfl, h1, h2⟩ := py.dict e ok
          cases ry
          rw [h2.any k] at fin
          have hx := px.key
          subst hx
          cases neg
          · exact d_in (by omega) I (DGet.rk (k := k) h1) rx fun s' I' => ⟨.bl _, H, I', rfl, q.fin e (by rw [h2.any k]; exact .bl _)⟩
          · exact d_notIn (by omega) I (DGet.rk (k := k) h1) rx fun s' I' => ⟨.bl _, H, I', rfl, q.fin e (by rw [h2.any k]; exact .bl _)⟩
        · cases hr
      · cases hr
  cases o with
  | eq =>
    obtain ⟨hz, rfl⟩ := ite_okb hr
    obtain ⟨z1, z2⟩ := Bool.and_eq_true_iff.mp hz
    obtain ⟨as, ra⟩ := px.reads I e rx (sm_plain z1)
    obtain ⟨bs, rb⟩ := py.reads I e ry (sm_plain z2)
    have := sm_depth z1
    exact PySem.SeqAt.eq_plain ra rb (sm_plain z1) (sm_plain z2) (by omega) fin
  | ne =>
    obtain ⟨hz, rfl⟩ := ite_okb hr
    obtain ⟨z1, z2⟩ := Bool.and_eq_true_iff.mp hz
    obtain ⟨as, ra⟩ := px.reads I e rx (sm_plain z1)
    obtain ⟨bs, rb⟩ := py.reads I e ry (sm_plain z2)
    have := sm_depth z1
    exact PySem.SeqAt.ne_plain ra rb (sm_plain z1) (sm_plain z2) (by omega) fin
  | lt =>
    obtain ⟨p1, p2, al, nn, d1, d2, rfl⟩ := ltD_ok hr
    obtain ⟨as, ra⟩ := px.reads I e rx p1
    obtain ⟨bs, rb⟩ := py.reads I e ry p2
    exact lt_data ra rb al nn (by omega) fin
  | gt =>
    obtain ⟨p1, p2, al, nn, d1, d2, rfl⟩ := ltD_ok hr
    obtain ⟨as, ra⟩ := px.reads I e rx p2
    obtain ⟨bs, rb⟩ := py.reads I e ry p1
    rw [alike_comm] at al
    exact gt_data ra rb al (alike_none al nn) (by omega) fin
  | le =>
    obtain ⟨r', hr', hd⟩ := bind_ok hr
    cases hd
    obtain ⟨p1, p2, al, nn, d1, d2, rfl⟩ := ltD_ok hr'
    obtain ⟨as, ra⟩ := px.reads I e rx p2
    obtain ⟨bs, rb⟩ := py.reads I e ry p1
    rw [alike_comm] at al
    exact le_data ra rb al (alike_none al nn) (by omega) fin
  | ge =>
    obtain ⟨r', hr', hd⟩ := bind_ok hr
    cases hd
    obtain ⟨p1, p2, al, nn, d1, d2, rfl⟩ := ltD_ok hr'
    obtain ⟨as, ra⟩ := px.reads I e rx p1
    obtain ⟨bs, rb⟩ := py.reads I e ry p2
    exact ge_data ra rb al nn (by omega) fin
  | isin => exact hin false r q r hr rfl
  | notin =>
    obtain ⟨r', hr', hd⟩ := bind_ok hr
    cases hd
    exact hin true _ q r' hr' rfl
end
end BW

/-! ### tuple[::-1] -/
theorem BW.fm_congr {α β : Type} {f g : α → Option β} : ∀ l : List α, (∀ x ∈ l, f x = g x) → l.filterMap f = l.filterMap g
  | [], _ => rfl
  | x :: l, h => by
    rw [List.filterMap_cons, List.filterMap_cons, h x List.mem_cons_self, BW.fm_congr l fun y hy => h y (List.mem_cons_of_mem _ hy)]
namespace HT
open PySem PySem.Spec PyProof.Rows PySem.W
section
variable {prog : Program} {w : World} {A : Around} {E : Value → Shared → Prop} {s : Shared}
theorem sliceApplied_rev {sl : Addr} {vl vu vs : Value} {n : Nat} {Q : Int × Int × Nat → Shared → Prop} (hs : s.heap.IsSliceOf sl vl vu vs) (pl : IsPart vl none) (pu : IsPart vu none) (ps : IsPart vs (some (-1)))
    (h : Q ((n : Int) - 1, -1, n) s) : wpAny (model prog w) A (Builtin.Slice.sliceApplied (.ref sl) (pure (n : Int))) Q E s := by
  obtain ⟨os, hos, hcs, hds⟩ := id hs
  unfold Builtin.Slice.sliceApplied Builtin.Slice.sliceFields
  refine wpAny_bind (wpAny_bind (wpAny_field hos hds (x := vl) rfl (wpAny_bind (wpAny_field hos hds (x := vu) rfl (wpAny_bind (wpAny_field hos hds (x := vs) rfl (wpAny_pure ?_)))))))
  refine wpAny_bind (slicePart_ ps ?_)
  show wpAny _ _ (if ((-1 : Int) == 0) = true then _ else _) _ _ s
  rw [if_neg (by decide)]
  refine wpAny_bind (slicePart_ pl (wpAny_bind (slicePart_ pu (wpAny_bind (wpAny_pure ?_)))))
  show wpAny _ _ (match Builtin.Slice.sliceAdjust none none (-1) (n : Int) with | (lo, hi) => pure (lo, (-1 : Int), Builtin.Slice.slicePlaces lo hi (-1))) _ _ s
  have e : Builtin.Slice.sliceAdjust none none (-1) (n : Int) = ((n : Int) - 1, -1) := by
    unfold Builtin.Slice.sliceAdjust
    simp
  rw [e]
  have e2 : Builtin.Slice.slicePlaces ((n : Int) - 1) (-1) (-1) = n := by
    unfold Builtin.Slice.slicePlaces
    have h1 : ¬ ((-1 : Int) > 0) := by omega
    simp only [h1, if_false, Int.neg_neg, Int.ediv_one]
    split <;> omega
  show wpAny _ _ (pure ((n : Int) - 1, (-1 : Int), Builtin.Slice.slicePlaces ((n : Int) - 1) (-1) (-1))) _ _ s
  rw [e2]
  exact wpAny_pure h
theorem pick_rev (xs : Array Value) : ((List.range xs.size).filterMap fun (m : Nat) => xs[(((xs.size : Int) - 1) + (m : Int) * (-1)).toNat]?).toArray = xs.toList.reverse.toArray := by
  have e : ((List.range xs.size).filterMap fun (m : Nat) => xs[(((xs.size : Int) - 1) + (m : Int) * (-1)).toNat]?) = ((List.range xs.size).map fun k => xs.size - 1 - k).filterMap (xs[·]?) := by
    rw [List.filterMap_map]
    refine BW.fm_congr _ fun m hm => ?_
    have hm := List.mem_range.mp hm
    have : (((xs.size : Int) - 1) + (m : Int) * (-1)).toNat = xs.size - 1 - m := by omega
    rw [this]
    rfl
  rw [e, PySem.W.krv_range, List.filterMap_reverse, PySem.W.krv_all]
theorem getItem_tuple_rev {t sl : Addr} {items : Array Value} {vl vu vs : Value} {Q : Value → Shared → Prop} (ht : IsTup s.heap t items) (hs : s.heap.IsSliceOf sl vl vu vs) (pl : IsPart vl none) (pu : IsPart vu none) (ps : IsPart vs (some (-1)))
    (h : Q (.ref s.heap.objs.size) { s with heap := s.heap.push { cls := .type "tuple", data := .seq items.toList.reverse.toArray } })
    (hsz : items.size ≤ sizeLine) : wpAny (model prog w) A (getItem (.ref t) (.ref sl)) Q E s := by
  have htake : sizeOk (.seq items.toList.reverse.toArray) := by
    show items.toList.reverse.toArray.size ≤ sizeLine
    rw [List.size_toArray, List.length_reverse, Array.length_toList]
    omega
  obtain ⟨os, hos, hcs, hds⟩ := id hs
  have hTs : s.TypeIs (.ref sl) "slice" := ⟨os, hos, hcs⟩
  unfold getItem
  try with_reducible refine wpAny_holding ?_
  first | refine wpAny_bind (wpAny_pure ?_) | skip
  refine wpAny_bind (wpAny_sequenceKey ht.typeIs (by decide) ?_)
  refine wpAny_bind (wpAny_callSpecial?_slot (name := Str.ofString "__getitem__") ht.typeIs PyProof.Rows.slot_tuple_getitem
    (wpAny_call_entry PyProof.Rows.slot_tuple_getitem ht.typeIs entry_tuple_getitem ?_ (args_tuple_getitem _ _)))
  show wpAny _ _ (Builtin.Tuple.tupleItemsOf (.ref t) >>= _) _ _ s
  refine wpAny_bind (tupleItemsOf_ ht ?_)
  refine wpAny_bind (wpAny_typeOf hTs ?_)
  rw [if_pos (by decide)]
  refine wpAny_bind (sliceApplied_rev hs pl pu ps ?_)
  have hno : ¬ (((((items.size : Int) - 1)) == 0 && (-1 : Int) == 1 && items.size == items.size) = true) := by
    simp
  show wpAny _ _ (if ((((items.size : Int) - 1)) == 0 && (-1 : Int) == 1 && items.size == items.size) = true then _ else _) _ _ s
  rw [if_neg hno, pick_rev]
  first
    | exact wpAny_bind (m := Builtin.Tuple.tupleExact _) (wpAny_newObj_type (wpAny_pure ⟨_, rfl, wpAny_pure h⟩) htake)
    | exact wpAny_bind (m := Builtin.Tuple.tupleExact _) (wpAny_newObj_type (wpAny_bind (wpAny_pure (wpAny_pure ⟨_, rfl, wpAny_pure h⟩))) htake)
    | exact wpAny_bind (wpAny_bind (m := Builtin.Tuple.tupleExact _) (wpAny_newObj_type (wpAny_pure (wpAny_pure ⟨_, rfl, wpAny_pure h⟩)) htake))
    | exact wpAny_bind (wpAny_bind (m := Builtin.Tuple.tupleExact _) (wpAny_newObj_type (wpAny_pure ⟨_, rfl, wpAny_pure h⟩) htake))
end
end HT
namespace BW
open PySem PySem.W L2 PySem.Spec PyProof.Rows
section
variable {K : PySem.W.Frag} {F H : Hp} {v : V} {X : Cx}
def tRevA (K : PySem.W.Frag) (te : TE) : TE := fun σ H Q => te σ H fun x H1 => ∃ a xs, x = .ref a ∧ ((SqL K H1 a xs ∧ ∀ p, H1 p = none → Q (.ref p) (upd H1 p (.lst xs.reverse))) ∨ (SqT K H1 a xs ∧ ∀ p, H1 p = none → Q (.ref p) (upd H1 p (.tup xs.reverse))))
theorem pe_revA {e : Expr} {te : TE} {k : Nat} {p1 p2 p3 pos : Pos} (he : PE X e te) : PE X (.Subscript e (.Slice none none (some (.UnaryOp .USub (.Constant (.int 1) k p1) p2)) p3) pos) (tRevA X.K te) := by
  refine ⟨fun pins s σ H Q I h => ?_⟩
  refine Subscript_ (thn (he.run pins s σ H _ I h) fun v s1 ⟨x, H1, I1, r1, q1⟩ => ?_)
  obtain ⟨a, xs, ex, q⟩ := q1
  subst ex
  cases r1
  have hst : PO X (some (.UnaryOp .USub (.Constant (.int 1) k p1) p2)) (tPart (tUn (rU fun i => .int (-i)) (tC (.int 1)))) := po_some (pe_un un_neg pe_int)
  refine wpAny_Slice (thn (po_none.run pins s1 σ H1 (fun o H2 => o = none ∧ H2 = H1) I1 ⟨rfl, rfl⟩) fun vl s2 ⟨l, H2, I2, pl, el, e2⟩ => ?_)
  subst el e2
  refine thn (po_none.run pins s2 σ H2 (fun o H3 => o = none ∧ H3 = H2) I2 ⟨rfl, rfl⟩) fun vu s3 ⟨u, H3, I3, pu, eu, e3⟩ => ?_
  subst eu e3
  refine thn (hst.run pins s3 σ H3 (fun o H4 => o = some (-1) ∧ H4 = H3) I3 ⟨1, rfl, -1, rfl, rfl, rfl⟩) fun vs s4 ⟨o, H4, I4, ps, eo, e4⟩ => ?_
  subst eo e4
  have I5 : Inv X pins σ H4 { s4 with heap := s4.heap.push { cls := .type "slice", data := .fields #[vl, vu, vs] } } := I4.kept (t' := s4.toks) fun b ob q => Heap.get?_push_of_some _ q
  show wpAny (model X.prog X.w) X.A (subscriptTail e (.Slice none none (some (.UnaryOp .USub (.Constant (.int 1) k p1) p2)) p3) (.ref a) (.ref s4.heap.objs.size)) (EP X pins σ Q) X.xe { s4 with heap := s4.heap.push { cls := .type "slice", data := .fields #[vl, vu, vs] } }
  rcases q with ⟨hx, q⟩ | ⟨hx, q⟩
  · obtain ⟨its, r, ht, hz⟩ := I5.list hx
    have hlen := r.length
    refine tail_any (ops := [.ref a, .ref s4.heap.objs.size]) ht.isList.typeIs (PySem.slot_list_getitem.lookup) ?_ (by with_unfolding_all rfl)
    refine wpAny_getItem_list_slice ht.isList (Heap.IsSliceOf.new _ vl vu vs) pl pu ps (by decide) ?_ (by rw [List.size_toArray]; omega)
    rw [PySem.W.krv_pick]
    refine ⟨.ref _, _, I5.laid (t' := s4.toks) (o := .lst xs.reverse) (fun b ob q => Heap.get?_push_of_some _ q) (Nat.le_refl _) ?_, rfl, q _ (I5.hok.fresh (Nat.le_refl _))⟩
    exact ⟨by rw [List.length_reverse]; exact hz, _, 0, r.reverse, Heap.get?_push_size _ rfl⟩
  · obtain ⟨its, r, ht, hz⟩ := I5.tuple hx
    have hlen := r.length
    refine tail_any (ops := [.ref a, .ref s4.heap.objs.size]) ht.typeIs (PyProof.Rows.slot_tuple_getitem.lookup) ?_ (by with_unfolding_all rfl)
    refine HT.getItem_tuple_rev ht (Heap.IsSliceOf.new _ vl vu vs) pl pu ps ?_ (by rw [List.size_toArray]; omega)
    refine ⟨.ref _, _, I5.laid (t' := s4.toks) (o := .tup xs.reverse) (fun b ob q => Heap.get?_push_of_some _ q) (Nat.le_refl _) ?_, rfl, q _ (I5.hok.fresh (Nat.le_refl _))⟩
    exact ⟨by rw [List.length_reverse]; exact hz, _, by simpa using r.reverse, IsTup.new _ _⟩

/-! ### a[b], by data -/
theorem atI_len {α β : Type} {xs : List α} {ys : List β} (e : xs.length = ys.length) (i : Int) : ixN xs.length i = ixN ys.length i := by rw [e]
theorem DqAll.atI {vs : List V} {ds : List D} (h : DqAll K F vs ds) {i : Int} {d : D} (e : atI ds i = some d) : ∃ v, L2.atI vs i = some v ∧ Dq K F v d := by
  unfold L2.atI at e ⊢
  rw [h.length]
  cases hn : ixN ds.length i with
  | none => rw [hn] at e; cases e
  | some j =>
    rw [hn] at e
    exact h.get' e
theorem KvP.val : ∀ {ks : List (Key × V)} {kvs : List (D × D)}, KvP K F ks kvs → ∀ (k : Key) {q : D × D}, kvs.find? (fun q => PyData.eqv q.1 (keyD k)) = some q → ∃ v, valV ks k = some v ∧ Dq K F v q.2
  | _, _, .nil, _, _, e => by cases e
  | _, _, .cons (k := k') (v := v) a t, k, q, e => by
    rw [List.find?_cons] at e
    by_cases c : k' = k
    · subst c
      rw [eqv_keyD, decide_eq_true rfl] at e
      cases e
      exact ⟨v, valV_pos rfl, a⟩
    · rw [eqv_keyD, decide_eq_false c] at e
      obtain ⟨w, e1, e2⟩ := KvP.val t k e
      exact ⟨w, by rw [valV_neg c]; exact e1, e2⟩
theorem ixR_D (hu : X.A.units + 64 < cLine) : IxR X (rD2 X.K ixD) := by
  intro value slice pins s σ H x y v u Q I rx ry ⟨F, dx, dy, d, e, px, py, hg, q⟩ hs
  cases dx with
  | list ds =>
    cases dy <;> simp only [ixD] at hg <;> try cases hg
    rename_i i
    split at hg
    · rename_i d' hd
      cases hg
      obtain ⟨l, xs, rfl, h1, a1⟩ := px.lst e
      cases py.int
      obtain ⟨w, e1, e2⟩ := a1.atI hd
      exact ix_list value slice pins s σ H _ _ v u Q I rx ry ⟨l, xs, i, w, rfl, rfl, .inl h1, e1, q.fin e e2⟩ hs
    · cases hg
  | tuple ds =>
    cases dy <;> simp only [ixD] at hg <;> try cases hg
    rename_i i
    split at hg
    · rename_i d' hd
      cases hg
      obtain ⟨l, xs, rfl, h1, a1⟩ := px.tup e
      cases py.int
      obtain ⟨w, e1, e2⟩ := a1.atI hd
      exact ix_tup value slice pins s σ H _ _ v u Q I rx ry ⟨l, xs, i, w, rfl, rfl, h1, e1, q.fin e e2⟩ hs
    · cases hg
  | str z =>
    cases dy <;> simp only [ixD] at hg <;> try cases hg
    rename_i i
    split at hg
    · rename_i hz
      split at hg
      · rename_i c hc
        cases hg
        cases px.str
        cases py.int
        exact ix_str value slice pins s σ H _ _ v u Q I rx ry ⟨z, i, c, rfl, rfl, size_line hz, hc, q.fin e (.str _)⟩ hs
      · cases hg
    · cases hg
  | dict kvs =>
    simp only [ixD] at hg
    split at hg
    · rename_i k hk
      by_cases ok : okKeys kvs = true
      · rw [if_pos ok] at hg
        split at hg
        · rename_i p hp
          cases hg
          have hk := keyOf_some hk
          subst hk
          obtain ⟨l, ks, rfl, h1, h2⟩ := px.dict e ok
          cases rx
          have hy := py.key
          subst hy
          obtain ⟨w, e1, e2⟩ := h2.val k hp
          have g : DGet H l (kV k) (some w) := by rw [← e1]; exact DGet.rk h1
          exact tail_any (ops := [.ref l, u]) (dict_typeIs I g) slot_dict_getitem.lookup (d_getItem (by omega) I g ry fun w' s' I' r' => ⟨w, H, I', r', q.fin e e2⟩) hs
        · cases hg
      · rw [if_neg ok] at hg; cases hg
    · cases hg
  | _ => cases dy <;> simp [ixD] at hg

/-! ### a[l:h], by data -/
def rSlD (K : PySem.W.Frag) : V → Option Int → Option Int → Hp → VK → Prop := fun x lo hi H Q => ∃ F dx d, Same F H ∧ Pk K F H x dx ∧ slD dx lo hi = .ok d ∧ okE K Q F H d
theorem DqAll.cut {vs : List V} {ds : List D} (h : DqAll K F vs ds) (lo hi : Option Int) : DqAll K F (cutV vs lo hi) (cutD ds lo hi) := by
  unfold cutV cutD
  rw [h.length]
  exact (h.drop _).take _
theorem cutV_whole (xs : List V) (lo hi : Option Int) (h : HT.sIx xs.length 0 lo = 0 ∧ HT.sIx xs.length xs.length hi = xs.length) : cutV xs lo hi = xs := by
  unfold cutV
  rw [h.1, h.2]
  simp
theorem slR_D : SlR X (rSlD X.K) := by
  intro pins s σ H x v vl vu lo hi sl Q I rx hs pl pu ⟨F, dx, d, e, px, hg, q⟩
  cases dx <;> simp only [slD] at hg <;> try cases hg
  · rename_i ds
    obtain ⟨l, xs, rfl, h1, a1⟩ := px.lst e
    exact sl_list pins s σ H _ v vl vu lo hi sl Q I rx hs pl pu ⟨l, xs, rfl, .inl h1, new_lst e q (a1.cut lo hi)⟩
  · rename_i ds
    obtain ⟨l, xs, rfl, h1, a1⟩ := px.tup e
    refine sl_tupA pins s σ H _ v vl vu lo hi sl Q I rx hs pl pu ⟨l, xs, rfl, h1, fun z => ?_, fun _ => new_tup e q (a1.cut lo hi)⟩
    have hc := a1.cut lo hi
    rw [cutV_whole xs lo hi z] at hc
    cases px with
    | dq qq =>
      cases qq with
      | tup h2 h3 =>
        have hl := I.tuple_inj (Same.sqT e h2) h1
        subst hl
        exact q.fin e (.tup h2 hc)
  · split at hg
    · rename_i ee; cases ee
    · rename_i ee; cases ee
    · rename_i ee
      cases ee
      cases hg
      obtain ⟨l, xs, rfl, h1, a1⟩ := px.scr e
      exact sl_list pins s σ H _ v vl vu lo hi sl Q I rx hs pl pu ⟨l, xs, rfl, h1, new_lst e q (a1.cut lo hi)⟩
    · cases hg
/-! ### isinstance, by data -/
def tyN : Ty → String
  | .int => "int" | .bool => "bool" | .str => "str" | .tuple => "tuple" | .list => "list" | .dict => "dict"
def dTy : D → String
  | .none => "NoneType" | .bool _ => "bool" | .int _ => "int" | .str _ => "str" | .list _ => "list" | .tuple _ => "tuple" | .dict _ => "dict"
theorem Pk.tyX {d : D} (ok : okD d = true) (e : Same F H) (h : Pk K F H v d) : TyX K H v (.type (dTy d)) := by
  cases d with
  | none => rw [h.non]; exact .base .non
  | bool b => rw [h.bl]; exact .base (.bl b)
  | int i => rw [h.int]; exact .base (.int i)
  | str x => rw [h.str]; exact .base (.str x)
  | list ds =>
    obtain ⟨l, xs, rfl, h1, a1⟩ := h.lst e
    rcases h1 with h1 | ⟨o, h1⟩
    · exact .base (.lst h1)
    · exact .base (.frz h1)
  | tuple ds =>
    obtain ⟨l, xs, rfl, h1, a1⟩ := h.tup e
    rcases h1 with (h1 | ⟨o, h1⟩) | ⟨o, its, n, h1, h2, _⟩
    · exact .base (.tup h1)
    · exact .fTuple h1
    · exact .kTuple h1 h2
  | dict kvs =>
    obtain ⟨l, ks, rfl, h1, h2⟩ := h.dict e ok
    rcases h1 with h1 | ⟨o, h1⟩
    · exact .base (.dK h1)
    · exact .fDict h1
theorem ty_all (t : Ty) (d : D) : kitB (dTy d) (tyN t) = some (tyD t d) := by
  cases t <;> cases d <;> (simp only [tyN, dTy, tyD]; decide +kernel)
theorem ty_any (d : D) : ∀ ts : List Ty, PySem.W.kitAny K (.type (dTy d)) (ts.map fun t => Value.type (tyN t)) = some (ts.any fun t => tyD t d)
  | [] => rfl
  | t :: ts => by
    rw [List.map_cons, List.any_cons]
    refine kitAny_cons (kit_ty (ty_all t d)) (fun h => ?_) (fun h => ?_)
    · rw [h, Bool.false_or]; exact ty_any d ts
    · rw [h, Bool.true_or]
end
end BW

namespace BW
open PySem PySem.W L2 PySem.Spec PyProof.Rows
section
variable {prog : Program} {w : World} {A : Around} {E : Value → Shared → Prop} {s : Shared}
/-- the items of a tuple, for sorted, list, set -/
theorem collect_tup {l : Addr} {vs : List Value} {Q : List Value → Shared → Prop} (hl : IsTup s.heap l vs.toArray)
    (h : Q vs { s with heap := (s.heap.push (seqObj "list" #[] 0)).update s.heap.objs.size (Obj.mapSeq (· ++ vs.toArray)) }) (hsz : vs.length ≤ sizeLine := by size_fits) :
    wpAny (model prog w) A (collect (.ref l)) Q E s := by
  obtain ⟨o, ho, hc, n, hd⟩ := id hl
  unfold collect
  refine wpAny_bind (wpAny_runValue (codeAny_builtin entry_proto_collect' ?_))
  show wpAny _ _ (do again (.builtin "list.__iadd__" ⟨[← newList [], .ref l], []⟩)) _ _ s
  refine wpAny_bind (wpAny_newList (wpAny_pure ⟨Code.quiet_builtin _ (by decide +kernel), codeAny_builtin entry_list_iadd' ?_⟩))
  show wpAny _ _ (Builtin.List.listExtendWith (.ref s.heap.objs.size) (.ref l) (.ref s.heap.objs.size)) _ _ { s with heap := s.heap.push (seqObj "list" #[] 0) }
  unfold Builtin.List.listExtendWith
  have ho' : (s.heap.push (seqObj "list" #[] 0)).get? l = some o := Heap.get?_push_of_some _ ho
  refine wpAny_bind (wpAny_typeOf (T := "tuple") ⟨o, ho', hc⟩ ?_)
  have ht : (Value.type "tuple" == Value.type "tuple") = true := by rfl
  rw [if_pos (by rw [ht]; simp)]
  refine wpAny_bind (listItems_at ho' hd ?_)
  refine wpAny_bind (listItems_at (xs := #[]) (n := 0) (Heap.get?_push_size _ rfl) rfl ?_)
  rw [if_neg (by simp)]
  refine wpAny_bind (listUpdate_at (xs := #[]) (n := 0) (Heap.get?_push_size _ rfl) rfl ?_ (Nat.zero_le _) (by show (#[] ++ vs.toArray).size ≤ sizeLine + 1; simp only [Array.size_append, List.size_toArray, List.length_nil]; omega))
  refine wpAny_pure ?_
  show wpAny (model prog w) A (do
      let o ← load s.heap.objs.size
      match o.data with
      | .seq xs _ => pure xs.toList
      | _ => unsupported "internal:collect") Q E { s with heap := (s.heap.push (seqObj "list" #[] 0)).update s.heap.objs.size (Obj.mapSeq (· ++ vs.toArray)) }
  refine wpAny_bind (wpAny_load (get?_update_seq (Heap.get?_push_size _ rfl) _) ?_)
  show wpAny _ _ (pure ((#[] : Array Value) ++ vs.toArray).toList) Q E _
  rw [show ((#[] : Array Value) ++ vs.toArray).toList = vs by simp]
  exact wpAny_pure h
theorem copy_keeps {h : Heap} {vs : List Value} : ∀ b o, h.get? b = some o → ((h.push (seqObj "list" #[] 0)).update h.objs.size (Obj.mapSeq (· ++ vs.toArray))).get? b = some o := fun b o e => by
  rw [Heap.get?_update_ne _ _ _ _ (Nat.ne_of_lt (Heap.lt_size e)), Heap.get?_push_ne _ _ _ (Nat.ne_of_lt (Heap.lt_size e))]
  exact e
/-- sorted of anything whose items can be collected -/
theorem sorted_gen {a : Addr} {κ : Heap → Nat → PyProof.Rows.KeyKind} {vs : List Value} {Q : Value → Shared → Prop} (hL : vs.length ≤ sizeLine)
    (col : ∀ {R : List Value → Shared → Prop}, (∀ (h1 : Heap) (t1 : Nat), (∀ b o, s.heap.get? b = some o → h1.get? b = some o) → R vs { s with heap := h1, toks := t1 }) → wpAny (model prog w) A.in1 (collect (.ref a)) R E s)
    (S : ∀ (h1 : Heap) (t1 : Nat), (∀ b o, s.heap.get? b = some o → h1.get? b = some o) → SortsAt prog w A.in1.in1 { s with heap := sortingHeap (h1.push (seqObj "list" vs.toArray 0)) h1.objs.size vs, toks := t1 } (κ h1 t1) vs)
    (h : ∀ (h1 : Heap) (t1 : Nat), (∀ b o, s.heap.get? b = some o → h1.get? b = some o) → Q (.ref h1.objs.size) { s with heap := sortedHeap (h1.push (seqObj "list" vs.toArray 0)) h1.objs.size vs (sortVals (κ h1 t1) false vs vs).toArray, toks := t1 }) :
    wpAny (model prog w) A (call (.builtin "sorted") [.ref a]) Q E s := by
  refine call_function_entry_kw kind_sorted plain_sorted entry_sorted (args_sorted1 _) ?_
  unfold Builtin.«sorted»
  refine wpAny_bind (m := checkCount "sorted" 1 1 _) (wpAny_pure ?_)
  refine wpAny_bind (col fun h1 t1 k1 => ?_)
  refine wpAny_bind (wpAny_newList ?_ hL)
  show wpAny _ _ _ _ _ { s with heap := h1.push (seqObj "list" vs.toArray 0), toks := t1 }
  have hat : (h1.push (seqObj "list" vs.toArray 0)).get? h1.objs.size = some (seqObj "list" vs.toArray 0) := Heap.get?_push_size _ rfl
  refine wpAny_bind (wpAny_holding (wpAny_call_entry_kw slot_list_sort ⟨_, hat, rfl⟩ entry_list_sort ?body (args_list_sort _)))
  case body =>
    show wpAny (model prog w) A.in1.in1 (Builtin.«list.sort» ⟨[.ref h1.objs.size], []⟩) _ _ _
    refine list_sort_vals (s := { s with heap := h1.push (seqObj "list" vs.toArray 0), toks := t1 }) hat (S h1 t1 k1) hL ?_
    exact ⟨_, rfl, wpAny_pure ⟨_, rfl, h h1 t1 k1⟩⟩
end
section
variable {K : PySem.W.Frag} {F H : Hp} {v : V} {X : Cx}
/-- values and what they stand for -/
def EqR (K : PySem.W.Frag) (F : Hp) (u : Value) (d : D) : Prop := ∃ x : V, RelV x u ∧ Dq K F x d ∧ d.plain = true
theorem each_of : ∀ {xs : List V} {us : List Value} {ds : List D}, PyData.plainAll ds = true → Vals xs us → DqAll K F xs ds → EachIs (EqR K F) us ds
  | _, _, _, _, .nil, .nil => .nil
  | _, _, _, p, .cons r t, .cons a b => by
    simp only [PyData.plainAll, Bool.and_eq_true] at p
    exact .cons ⟨_, r, a, p.1⟩ (each_of p.2 t b)
theorem of_each {us : List Value} {ds : List D} (h : EachIs (EqR K F) us ds) : ∃ xs : List V, Vals xs us ∧ DqAll K F xs ds := by
  induction h with
  | nil => exact ⟨[], .nil, .nil⟩
  | cons a _ ih =>
    obtain ⟨x, r, q, _⟩ := a
    obtain ⟨xs, r2, q2⟩ := ih
    exact ⟨x :: xs, .cons r r2, .cons q q2⟩
theorem each_reads {pins : List (Addr × Obj)} {s : Shared} {σ : L2.St} (I : Inv X pins σ H s) (e : Same F H) {h' : Heap} (k : ∀ b o, s.heap.get? b = some o → h'.get? b = some o) {us : List Value} {ds : List D} (h : EachIs (EqR X.K F) us ds) : EachIs (fun v b => ∃ as, Reads h' v b as) us ds :=
  h.mono fun u d ⟨x, r, q, p⟩ => by
    obtain ⟨as, z⟩ := Dq.reads I p (q.up e) r
    exact ⟨as, PyProof.Rows.Reads.keeps k z⟩
theorem depth_mem : ∀ {xs : List D} {d : D}, d ∈ xs → d.depth ≤ PyData.depthAll xs
  | x :: xs, d, h => by
    rw [PyData.depthAll]
    rcases List.mem_cons.mp h with rfl | h
    · exact Nat.le_max_left _ _
    · exact Nat.le_trans (depth_mem h) (Nat.le_max_right _ _)
theorem sortable_of {ds : List D} (h : sortable ds = true) : PySem.W.AllAlike ds ∧ Sortable ds ∧ ds.length ≤ 1000000 ∧ (∀ d ∈ ds, d.depth ≤ 60) ∧ PyData.plainAll ds = true := by
  unfold sortable comparable at h
  simp only [Bool.and_eq_true, List.all_eq_true, Bool.or_eq_true] at h
  obtain ⟨⟨⟨h1, h2⟩, h3⟩, h4⟩ := h
  refine ⟨fun d hd d' hd' => h1 d hd d' hd', ?_, size_of h3, fun d hd => Nat.le_trans (depth_mem hd) (depth_list h2), plain_list h2⟩
  rcases h4 with h4 | h4
  · refine .inl fun d hd => ?_
    have := h4 d hd
    cases d <;> simp [ctup] at this
    rename_i xs
    cases xs with
    | nil => simp at this
    | cons x r => exact ⟨x, r, rfl⟩
  · refine .inr fun d hd => ?_
    have := h4 d hd
    cases d <;> simp [ntup] at this <;> simp
theorem allAlike_id {ds : List D} (h : PySem.W.AllAlike ds) : PySem.W.AllAlike (ds.map id) := by rw [List.map_id]; exact h
/-- sorted of values that stand for data, however they are collected -/
theorem sorted_D {pins : List (Addr × Obj)} {s : Shared} {σ : L2.St} {a : Addr} {us : List Value} {ds : List D} {Q : VK} (hu : X.A.units + 64 < cLine) (I : Inv X pins σ H s) (e : Same F H) (hs : sortable ds = true) (each : EachIs (EqR X.K F) us ds)
    (col : ∀ {R : List Value → Shared → Prop}, (∀ (h1 : Heap) (t1 : Nat), (∀ b o, s.heap.get? b = some o → h1.get? b = some o) → R us { s with heap := h1, toks := t1 }) → wpAny (model X.prog X.w) X.A.in1 (collect (.ref a)) R X.xe s)
    (q : okE X.K Q F H (.list (sortD ds))) : wpAny (model X.prog X.w) X.A (call (.builtin "sorted") [.ref a]) (EP X pins σ Q) X.xe s := by
  obtain ⟨hal, hk, hz, hdep, hpl⟩ := sortable_of hs
  have hl : us.length = ds.length := each.length
  have hL : us.length ≤ sizeLine := by rw [hl]; exact Nat.le_trans hz (by rw [sizeLine_eq]; decide)
  have hu2 : X.A.in1.in1.units = X.A.units + 2 := rfl
  have keep : ∀ h1 : Heap, (∀ b o, s.heap.get? b = some o → h1.get? b = some o) → ∀ b o, s.heap.get? b = some o → (sortingHeap (h1.push (seqObj "list" us.toArray 0)) h1.objs.size us).get? b = some o := fun h1 k1 b o eb =>
    sortingHeap_old (Nat.ne_of_lt (Heap.lt_size (k1 b o eb))) (Heap.get?_push_of_some _ (k1 b o eb))
  let κ : Heap → Nat → PyProof.Rows.KeyKind := fun h1 _ => dataKind (sortingHeap (h1.push (seqObj "list" us.toArray 0)) h1.objs.size us) ds
  refine sorted_gen (κ := κ) hL col (fun h1 t1 k1 => ?_) (fun h1 t1 k1 => ?_)
  · exact SortsAt.data (s := { s with heap := sortingHeap (h1.push (seqObj "list" us.toArray 0)) h1.objs.size us, toks := t1 }) (each_reads I e (keep h1 k1) each) hal hk fun d hd => by
      have := hdep d hd
      omega
  · have out : EachIs (EqR X.K F) (sortVals (κ h1 t1) false us us) (sortD ds) := by
      have := sortVals_data (h' := sortingHeap (h1.push (seqObj "list" us.toArray 0)) h1.objs.size us) (R := EqR X.K F) (enc := id) (vs := us) (bs := ds) false each (each_reads I e (keep h1 k1) each) (by rw [List.map_id]; exact hal)
      rw [List.map_id] at this
      exact this
    obtain ⟨xs, rv, dq⟩ := of_each out
    have hlen : xs.length = ds.length := by
      rw [dq.length]
      exact List.length_mergeSort ds
    have hat : (h1.push (seqObj "list" us.toArray 0)).get? h1.objs.size = some (seqObj "list" us.toArray 0) := Heap.get?_push_size _ rfl
    obtain ⟨ep, he'⟩ := sortedHeap_at (out := (sortVals (κ h1 t1) false us us).toArray) hat
    have I1 : Inv X pins σ H { s with heap := h1, toks := t1 } := I.kept k1
    refine ⟨.ref h1.objs.size, _, I1.laid (t' := t1) (o := .lst xs) (fun b ob eb => ?_) (Nat.le_refl _) ?_, rfl, new_lst e q dq _ (I1.hok.fresh (Nat.le_refl _))⟩
    · have hlt := Heap.lt_size eb
      rw [sortedHeap_old (Nat.ne_of_lt hlt) (by rw [size_push']; exact Nat.lt_succ_of_lt hlt)]
      exact Heap.get?_push_of_some _ eb
    · exact ⟨by rw [hlen]; exact Nat.le_trans hz (by rw [sizeLine_eq]; decide), _, ep, rv, he'⟩
theorem each_of_get {R : Value → D → Prop} : ∀ {us : List Value} {ds : List D}, us.length = ds.length → (∀ (i : Nat) (v : Value) (d : D), us[i]? = some v → ds[i]? = some d → R v d) → EachIs R us ds
  | [], [], _, _ => .nil
  | u :: us, d :: ds, hl, h => .cons (h 0 u d rfl rfl) (each_of_get (by simpa using hl) fun i v d hv hd => h (i + 1) v d (by simpa using hv) (by simpa using hd))
  | [], _ :: _, hl, _ => by simp at hl
  | _ :: _, [], hl, _ => by simp at hl
theorem KvP.length : ∀ {ks : List (Key × V)} {kvs : List (D × D)}, KvP K F ks kvs → ks.length = kvs.length
  | _, _, .nil => rfl
  | _, _, .cons _ t => by simp [KvP.length t]
theorem KvP.keyAt : ∀ {ks : List (Key × V)} {kvs : List (D × D)}, KvP K F ks kvs → ∀ {i : Nat} {p : D × D}, kvs[i]? = some p → ∃ k : Key, (∃ v, ks[i]? = some (k, v)) ∧ p.1 = keyD k
  | _, _, .nil, _, _, e => by simp at e
  | _, _, .cons a t, 0, _, e => by simp at e; subst e; exact ⟨_, ⟨_, rfl⟩, rfl⟩
  | _, _, .cons a t, i + 1, _, e => by
    obtain ⟨k, h1, h2⟩ := KvP.keyAt t (i := i) (by simpa using e)
    exact ⟨k, by simpa using h1, h2⟩
theorem kv_get' {ks : List (Key × V)} {vs : List (Key × Value)} (h : KV ks vs) {i : Nat} {k : Key} (e : ∃ v, ks[i]? = some (k, v)) : ∃ u, vs[i]? = some (k, u) := by
  obtain ⟨v, e⟩ := e
  obtain ⟨u, h1, _⟩ := kv_get h e
  exact ⟨u, h1⟩
/-- sorted, by data -/
def rD1 (K : PySem.W.Frag) (g : D → Res D) : List V → Hp → VK → Prop := fun xs H Q => ∃ F x dx d, xs = [x] ∧ Same F H ∧ Pk K F H x dx ∧ g dx = .ok d ∧ okE K Q F H d
theorem cr_sortedD (hc : X.calm = true) (hu : X.A.units + 64 < cLine) : CallR X (.builtin "sorted") (rD1 X.K (b1D .sorted)) := by
  intro pins s σ H xs us Q I r ⟨F, x, dx, d, ex, e, px, hg, q⟩
  subst ex
  obtain ⟨u, rfl, rx⟩ := vals1 r
  have hitems : ∀ ys, items dx = some ys → sortable ys = true → d = .list (sortD ys) → wpAny (model X.prog X.w) X.A (call (.builtin "sorted") [u]) (EP X pins σ Q) X.xe s := by
    intro ys hi hs hd
    subst hd
    have hz := size_line (Bool.and_eq_true_iff.mp (Bool.and_eq_true_iff.mp hs).1).2
    cases dx <;> simp [items] at hi
    · subst hi
      obtain ⟨l, xs, rfl, h1, a1⟩ := px.lst e
      cases rx
      obtain ⟨_, its, n, rv, hl, ho⟩ := Inv.rdL I h1
      exact sorted_D hu I e hs (each_of (sortable_of hs).2.2.2.2 rv a1) (fun {R} h => collect_list (vs := its) ⟨_, ho, rfl, n, rfl⟩ (h _ _ copy_keeps) (by rw [← rv.length, a1.length]; exact hz)) q
    · subst hi
      obtain ⟨l, xs, rfl, h1, a1⟩ := px.tup e
      cases rx
      obtain ⟨its, rv, ht, _⟩ := I.tuple h1
      exact sorted_D hu I e hs (each_of (sortable_of hs).2.2.2.2 rv a1) (fun {R} h => collect_tup (vs := its) ht (h _ _ copy_keeps) (by rw [← rv.length, a1.length]; exact hz)) q
  cases dx with
  | list ys =>
    obtain ⟨hs, rfl⟩ := ite_okb (show (if sortable ys = true then Res.ok (.list (sortD ys)) else .bad) = Res.ok d from hg)
    exact hitems ys rfl hs rfl
  | tuple ys =>
    obtain ⟨hs, rfl⟩ := ite_okb (show (if sortable ys = true then Res.ok (.list (sortD ys)) else .bad) = Res.ok d from hg)
    exact hitems ys rfl hs rfl
  | dict kvs =>
    obtain ⟨hs, rfl⟩ := ite_okb (show (if (okKeys kvs && sortable (kvs.map (·.1))) = true then Res.ok (.list (sortD (kvs.map (·.1)))) else .bad) = Res.ok d from hg)
    obtain ⟨ok, hs⟩ := Bool.and_eq_true_iff.mp hs
    obtain ⟨l, ks, rfl, h1, h2⟩ := px.dict e ok
    cases rx
    obtain ⟨z, lo, vs, rel, dd⟩ := h1.ok I.hok
    obtain ⟨es, ep, hraw, hsz, hat⟩ := Heap.DictOf.raw dd
    have h16 : es.size ≤ sizeLine := by rw [hsz, ← rel.length]; exact z
    have hks : ks.length = kvs.length := h2.length
    have each : EachIs (EqR X.K F) (es.toList.map (·.key)) (kvs.map (·.1)) := by
      refine each_of_get (by rw [List.length_map, List.length_map, Array.length_toList, hsz, ← rel.length, hks]) fun i v d hv hd => ?_
      rw [List.getElem?_map] at hv hd
      cases q1 : es.toList[i]? with
      | none => rw [q1] at hv; cases hv
      | some en =>
        rw [q1] at hv
        cases hv
        have hi : i < es.size := by
          have := (List.getElem?_eq_some_iff.mp q1).1
          rwa [Array.length_toList] at this
        have hen : es[i] = en := by
          rw [Array.getElem?_toList, Array.getElem?_eq_getElem hi] at q1
          exact Option.some.inj q1
        cases q2 : kvs[i]? with
        | none => rw [q2] at hd; cases hd
        | some p =>
          rw [q2] at hd
          cases hd
          obtain ⟨k, hk1, hk2⟩ := h2.keyAt q2
          obtain ⟨u, hu1⟩ := kv_get' rel hk1
          obtain ⟨g1, g2⟩ := hat i hi k u hu1
          have g1 : keyIs k en.key = true := by rw [← hen]; exact g1
          refine ⟨kV k, keyIs_rel g1, ?_⟩
          show Dq X.K F (kV k) p.1 ∧ p.1.plain = true
          rw [hk2]
          exact ⟨keyD_V k, by cases k <;> rfl⟩
    refine sorted_D hu I e hs each (fun {R} h => ?_) q
    refine kdu_collect (A := X.A.in1) (KdlSrc.rawDict lo) (I.ok.hd hc) hraw h16 fun h' tk acc hk hacc => ?_
    have hacc2 : acc.toList = es.toList.map (·.key) := by
      refine List.ext_getElem? fun i => ?_
      rw [Array.getElem?_toList, List.getElem?_map, Array.getElem?_toList]
      by_cases hi : i < es.size
      · have hia : i < acc.size := by rw [hacc.1]; exact hi
        obtain ⟨hi', ev⟩ := hacc.2 i acc[i] (Array.getElem?_eq_getElem hia)
        rw [Array.getElem?_eq_getElem hia, Array.getElem?_eq_getElem hi, ev]
        rfl
      · rw [Array.getElem?_eq_none (by rw [hacc.1]; omega), Array.getElem?_eq_none (by omega)]
        rfl
    rw [hacc2]
    exact h _ _ hk
  | _ => cases hg
end
end BW

namespace BW
open PySem PySem.W L2 PySem.Spec PyProof.Rows
section
variable {K : PySem.W.Frag} {F H : Hp} {v : V} {X : Cx}
theorem mapR_ok {α β : Type} {f : α → Res β} : ∀ {xs : List α} {ys : List β}, mapR f xs = .ok ys → xs.length = ys.length ∧ ∀ (i : Nat) (x : α), xs[i]? = some x → ∃ y, ys[i]? = some y ∧ f x = .ok y
  | [], ys, h => by cases h; exact ⟨rfl, fun i x e => by simp at e⟩
  | x :: xs, ys, h => by
    obtain ⟨y, h1, h2⟩ := bind_ok (show (f x >>= fun y => mapR f xs >>= fun ys => Res.ok (y :: ys)) = .ok ys from h)
    obtain ⟨ys', h3, h4⟩ := bind_ok h2
    cases h4
    obtain ⟨e1, e2⟩ := mapR_ok h3
    refine ⟨by simp [e1], fun i z e => ?_⟩
    cases i with
    | zero => simp at e; subst e; exact ⟨y, rfl, h1⟩
    | succ i => obtain ⟨w, a, b⟩ := e2 i z (by simpa using e); exact ⟨w, by simpa using a, b⟩
theorem asInt_ok {d : D} {i : Int} (h : asInt d = .ok i) : d = .int i := by cases d <;> simp [asInt] at h; exact congrArg _ h
theorem asBool_ok {d : D} {b : Bool} (h : asBool d = .ok b) : d = .bool b := by cases d <;> simp [asBool] at h; exact congrArg _ h
theorem ints_ok : ∀ {xs : List D} {ns : List Int}, mapR asInt xs = .ok ns → xs = ns.map .int
  | [], ns, h => by cases h; rfl
  | x :: xs, ns, h => by
    obtain ⟨y, h1, h2⟩ := bind_ok (show (asInt x >>= fun y => mapR asInt xs >>= fun ys => Res.ok (y :: ys)) = .ok ns from h)
    obtain ⟨ys', h3, h4⟩ := bind_ok h2
    cases h4
    rw [List.map_cons, asInt_ok h1, ints_ok h3]
theorem bools_ok : ∀ {xs : List D} {ns : List Bool}, mapR asBool xs = .ok ns → xs = ns.map .bool
  | [], ns, h => by cases h; rfl
  | x :: xs, ns, h => by
    obtain ⟨y, h1, h2⟩ := bind_ok (show (asBool x >>= fun y => mapR asBool xs >>= fun ys => Res.ok (y :: ys)) = .ok ns from h)
    obtain ⟨ys', h3, h4⟩ := bind_ok h2
    cases h4
    rw [List.map_cons, asBool_ok h1, bools_ok h3]
theorem DqAll.ints : ∀ {vs : List V} {ns : List Int}, DqAll K F vs (ns.map .int) → vs = ns.map V.int
  | _, [], h => by cases h; rfl
  | _, n :: ns, h => by
    rw [List.map_cons] at h
    cases h with
    | cons a t => cases a; rw [DqAll.ints t]; rfl
theorem DqAll.bls : ∀ {vs : List V} {ns : List Bool}, DqAll K F vs (ns.map .bool) → vs = ns.map V.bl
  | _, [], h => by cases h; rfl
  | _, n :: ns, h => by
    rw [List.map_cons] at h
    cases h with
    | cons a t => cases a; rw [DqAll.bls t]; rfl
def b1F : B1 → Value
  | .len => .builtin "len" | .abs => .builtin "abs" | .int => .type "int" | .tuple => .type "tuple" | .list => .type "list" | .sorted => .builtin "sorted"
  | .sum => .builtin "sum" | .min => .builtin "min" | .max => .builtin "max" | .all => .builtin "all" | .any => .builtin "any" | .setsorted => .none | .setlen => .none
theorem comparable_of {ds : List D} (h : comparable ds = true) (hn : ds.all notNone = true) : PySem.W.AlikeAll ds ∧ PyData.depthAll ds ≤ 60 ∧ PyData.plainAll ds = true := by
  unfold comparable at h
  simp only [Bool.and_eq_true, List.all_eq_true] at h hn
  refine ⟨⟨fun d hd d' hd' => h.1 d hd d' hd', fun d hd e => ?_⟩, depth_list h.2, plain_list h.2⟩
  have := hn d hd
  rw [e] at this
  cases this
theorem minmax_end {pins : List (Addr × Obj)} {s : Shared} {σ : L2.St} {Q : VK} {us : List Value} {xs : List V} {ds : List D} {r : D} (I : Inv X pins σ H s) (e : Same F H) (rv : Vals xs us) (a : DqAll X.K F xs ds) (hp : PyData.plainAll ds = true) (q : okE X.K Q F H r)
    {i : Nat} {u : Value} {h' : Heap} {tk : Nat} {bs : List Addr} (hu : us[i]? = some u) (hr : Reads h' u r bs) (hk : ∀ b o, s.heap.get? b = some o → h'.get? b = some o) : EP X pins σ Q u { s with heap := h', toks := tk } := by
  have hi : i < us.length := (List.getElem?_eq_some_iff.mp hu).1
  have hx : i < xs.length := by rw [rv.length]; exact hi
  obtain ⟨x, hx⟩ : ∃ x, xs[i]? = some x := ⟨xs[i], List.getElem?_eq_getElem hx⟩
  obtain ⟨u', hu', ru⟩ := rv.get hx
  rw [hu] at hu'
  cases hu'
  obtain ⟨d, hd, dq⟩ := a.get hx
  have I' : Inv X pins σ H { s with heap := h', toks := tk } := I.kept hk
  have hpl : d.plain = true := plain_mem hp (List.mem_of_getElem? hd)
  obtain ⟨as, hr2⟩ := Dq.reads I' hpl (dq.up e) ru
  have := PySem.SeqAt.plain_unique _ _ _ _ _ hpl hr2 hr
  subst this
  exact ⟨x, H, I', ru, q.fin e dq⟩
theorem readsAllOf {pins : List (Addr × Obj)} {s : Shared} {σ : L2.St} {us : List Value} {xs : List V} {ds : List D} (I : Inv X pins σ H s) (e : Same F H) (hp : PyData.plainAll ds = true) (rv : Vals xs us) (a : DqAll X.K F xs ds) : ∃ as, ReadsAll s.heap us ds as := DqAll.reads I hp (a.up e) rv
theorem cr_b1 (b : B1) (hb : b ≠ .setsorted ∧ b ≠ .setlen) (hc : X.calm = true) (hu : X.A.units + 64 < cLine) : CallR X (b1F b) (rD1 X.K (b1D b)) := by
  cases b with
  | sorted => exact cr_sortedD hc hu
  | setsorted => exact absurd rfl hb.1
  | setlen => exact absurd rfl hb.2
  | len =>
    intro pins s σ H xs us Q I r ⟨F, x, dx, d, ex, e, px, hg, q⟩
    subst ex
    cases dx with
    | list ds =>
      cases hg
      obtain ⟨l, xs, rfl, h1, a1⟩ := px.lst e
      exact call_len pins s σ H _ us Q I r ⟨_, xs.length, rfl, .inl ⟨xs, .inl h1, rfl⟩, by rw [a1.length]; exact q.fin e (.int _)⟩
    | tuple ds =>
      cases hg
      obtain ⟨l, xs, rfl, h1, a1⟩ := px.tup e
      exact call_len pins s σ H _ us Q I r ⟨_, xs.length, rfl, .inr ⟨xs, h1, rfl⟩, by rw [a1.length]; exact q.fin e (.int _)⟩
    | dict kvs =>
      obtain ⟨ok, hg⟩ := ite_okb (show (if okKeys kvs = true then Res.ok (.int kvs.length) else .bad) = Res.ok d from hg)
      cases hg
      obtain ⟨l, ks, rfl, h1, h2⟩ := px.dict e ok
      obtain ⟨u, rfl, rx⟩ := vals1 r
      cases rx
      exact d_len I h1 fun t s' I' => ⟨.int kvs.length, H, I', ⟨t, by rw [h2.length]⟩, q.fin e (.int _)⟩
    | str z =>
      obtain ⟨hz, rfl⟩ := ite_okb (show (if sizeOk z.length = true then Res.ok (.int z.length) else .bad) = Res.ok d from hg)
      cases px.str
      exact call_len pins s σ H _ us Q I r ⟨_, z.length, rfl, ⟨size_line hz, rfl⟩, q.fin e (.int _)⟩
    | _ => cases hg
  | abs =>
    intro pins s σ H xs us Q I r ⟨F, x, dx, d, ex, e, px, hg, q⟩
    subst ex
    cases dx <;> try cases hg
    cases px.int
    exact call_abs pins s σ H _ us Q I r ⟨_, rfl, q.fin e (.int _)⟩
  | int =>
    intro pins s σ H xs us Q I r ⟨F, x, dx, d, ex, e, px, hg, q⟩
    subst ex
    cases dx <;> try cases hg
    cases px.int
    exact call_int1 pins s σ H _ us Q I r (.inl ⟨_, rfl, q.fin e (.int _)⟩)
  | tuple =>
    intro pins s σ H xs us Q I r ⟨F, x, dx, d, ex, e, px, hg, q⟩
    subst ex
    cases dx <;> try cases hg
    · obtain ⟨l, xs, rfl, h1, a1⟩ := px.lst e
      exact call_tuple_of pins s σ H _ us Q I r ⟨l, xs, rfl, .inl ⟨.inl h1, new_tup e q a1⟩⟩
    · obtain ⟨l, xs, rfl, h1, a1⟩ := px.tup e
      exact call_tuple_of pins s σ H _ us Q I r ⟨l, xs, rfl, .inr ⟨h1, q.fin e px.tupF⟩⟩
  | list =>
    intro pins s σ H xs us Q I r ⟨F, x, dx, d, ex, e, px, hg, q⟩
    subst ex
    cases dx <;> try cases hg
    · obtain ⟨l, xs, rfl, h1, a1⟩ := px.lst e
      exact call_list_of pins s σ H _ us Q I r ⟨l, xs, rfl, .inl (.inl h1), new_lst e q a1⟩
    · obtain ⟨l, xs, rfl, h1, a1⟩ := px.tup e
      exact call_list_of pins s σ H _ us Q I r ⟨l, xs, rfl, .inr h1, new_lst e q a1⟩
  | sum =>
    intro pins s σ H xs us Q I r ⟨F, x, dx, d, ex, e, px, hg, q⟩
    subst ex
    cases dx with
    | list ds =>
      obtain ⟨ns, h1, h2⟩ := bind_ok (show (mapR asInt ds >>= fun ns => Res.ok (.int ns.sum)) = Res.ok d from hg)
      cases h2
      have := ints_ok h1
      subst this
      obtain ⟨l, xs, rfl, h1, a1⟩ := px.lst e
      have := a1.ints
      subst this
      exact cr_sum hc pins s σ H _ us Q I r ⟨l, ns, rfl, .inl h1, q.fin e (.int _)⟩
    | tuple ds =>
      obtain ⟨ns, h1, h2⟩ := bind_ok (show (mapR asInt ds >>= fun ns => Res.ok (.int ns.sum)) = Res.ok d from hg)
      cases h2
      have := ints_ok h1
      subst this
      obtain ⟨l, xs, rfl, h1, a1⟩ := px.tup e
      have := a1.ints
      subst this
      obtain ⟨u, rfl, rx⟩ := vals1 r
      cases rx
      obtain ⟨its, rv, ht, _⟩ := I.tuple h1
      have hi := rv.ints
      obtain ⟨zs, hx⟩ := hi.allInts.items
      have hn : numsOf its.toArray.toList = ns := hi.numsOf
      have hl : s.heap.IsTuple l its.toArray := ht
      rw [hx] at hl hn
      rw [nums_intItems] at hn
      refine ktm_sumG (I.ok.hd hc) hl fun h' tk t' hk => ?_
      refine ⟨.int ns.sum, H, I.kept hk, ⟨t', ?_⟩, q.fin e (.int _)⟩
      rw [preSum_eq, List.take_of_length_le (by simp), hn]
    | _ => cases hg
  | all =>
    intro pins s σ H xs us Q I r ⟨F, x, dx, d, ex, e, px, hg, q⟩
    subst ex
    cases dx with
    | list ds =>
      obtain ⟨ns, h1, h2⟩ := bind_ok (show (mapR asBool ds >>= fun ns => Res.ok (.bool (ns.all id))) = Res.ok d from hg)
      cases h2
      have := bools_ok h1
      subst this
      obtain ⟨l, xs, rfl, h1, a1⟩ := px.lst e
      have := a1.bls
      subst this
      exact cr_all hc pins s σ H _ us Q I r ⟨l, ns, rfl, .inl h1, q.fin e (.bl _)⟩
    | _ => cases hg
  | any =>
    intro pins s σ H xs us Q I r ⟨F, x, dx, d, ex, e, px, hg, q⟩
    subst ex
    cases dx with
    | list ds =>
      obtain ⟨ns, h1, h2⟩ := bind_ok (show (mapR asBool ds >>= fun ns => Res.ok (.bool (ns.any id))) = Res.ok d from hg)
      cases h2
      have := bools_ok h1
      subst this
      obtain ⟨l, xs, rfl, h1, a1⟩ := px.lst e
      have := a1.bls
      subst this
      exact cr_any hc pins s σ H _ us Q I r ⟨l, ns, rfl, .inl h1, q.fin e (.bl _)⟩
    | _ => cases hg
  | min =>
    intro pins s σ H xs us Q I r ⟨F, x, dx, d, ex, e, px, hg, q⟩
    subst ex
    obtain ⟨u, rfl, rx⟩ := vals1 r
    cases dx with
    | list ds =>
      cases ds with
      | nil => cases hg
      | cons y ys =>
        obtain ⟨hz, rfl⟩ := ite_okb (show (if (comparable (y :: ys) && (y :: ys).all notNone) = true then Res.ok (minD y ys) else .bad) = Res.ok d from hg)
        obtain ⟨z1, z2⟩ := Bool.and_eq_true_iff.mp hz
        obtain ⟨al, hd, hp⟩ := comparable_of z1 z2
        obtain ⟨l, xs, rfl, h1, a1⟩ := px.lst e
        cases rx
        obtain ⟨_, its, n, rv, hl, ho⟩ := Inv.rdL I h1
        obtain ⟨as, hr⟩ := readsAllOf I e hp rv a1
        exact min_list_data (vs := its.toArray) (I.ok.hd hc) ⟨_, ho, rfl, n, rfl⟩ hr al (by omega) fun i u h' tk bs hu' hr' hk => minmax_end I e rv a1 hp q (by simpa using hu') hr' hk
    | tuple ds =>
      cases ds with
      | nil => cases hg
      | cons y ys =>
        obtain ⟨hz, rfl⟩ := ite_okb (show (if (comparable (y :: ys) && (y :: ys).all notNone) = true then Res.ok (minD y ys) else .bad) = Res.ok d from hg)
        obtain ⟨z1, z2⟩ := Bool.and_eq_true_iff.mp hz
        obtain ⟨al, hd, hp⟩ := comparable_of z1 z2
        obtain ⟨l, xs, rfl, h1, a1⟩ := px.tup e
        cases rx
        obtain ⟨its, rv, ht, _⟩ := I.tuple h1
        obtain ⟨as, hr⟩ := readsAllOf I e hp rv a1
        exact min_tuple_data (vs := its.toArray) (I.ok.hd hc) ht hr al (by omega) fun i u h' tk bs hu' hr' hk => minmax_end I e rv a1 hp q (by simpa using hu') hr' hk
    | _ => cases hg
  | max =>
    intro pins s σ H xs us Q I r ⟨F, x, dx, d, ex, e, px, hg, q⟩
    subst ex
    obtain ⟨u, rfl, rx⟩ := vals1 r
    cases dx with
    | list ds =>
      cases ds with
      | nil => cases hg
      | cons y ys =>
        obtain ⟨hz, rfl⟩ := ite_okb (show (if (comparable (y :: ys) && (y :: ys).all notNone) = true then Res.ok (maxD y ys) else .bad) = Res.ok d from hg)
        obtain ⟨z1, z2⟩ := Bool.and_eq_true_iff.mp hz
        obtain ⟨al, hd, hp⟩ := comparable_of z1 z2
        obtain ⟨l, xs, rfl, h1, a1⟩ := px.lst e
        cases rx
        obtain ⟨_, its, n, rv, hl, ho⟩ := Inv.rdL I h1
        obtain ⟨as, hr⟩ := readsAllOf I e hp rv a1
        exact max_list_data (vs := its.toArray) (I.ok.hd hc) ⟨_, ho, rfl, n, rfl⟩ hr al (by omega) fun i u h' tk bs hu' hr' hk => minmax_end I e rv a1 hp q (by simpa using hu') hr' hk
    | tuple ds =>
      cases ds with
      | nil => cases hg
      | cons y ys =>
        obtain ⟨hz, rfl⟩ := ite_okb (show (if (comparable (y :: ys) && (y :: ys).all notNone) = true then Res.ok (maxD y ys) else .bad) = Res.ok d from hg)
        obtain ⟨z1, z2⟩ := Bool.and_eq_true_iff.mp hz
        obtain ⟨al, hd, hp⟩ := comparable_of z1 z2
        obtain ⟨l, xs, rfl, h1, a1⟩ := px.tup e
        cases rx
        obtain ⟨its, rv, ht, _⟩ := I.tuple h1
        obtain ⟨as, hr⟩ := readsAllOf I e hp rv a1
        exact max_tuple_data (vs := its.toArray) (I.ok.hd hc) ht hr al (by omega) fun i u h' tk bs hu' hr' hk => minmax_end I e rv a1 hp q (by simpa using hu') hr' hk
    | _ => cases hg
/-- two arguments -/
def rDD (K : PySem.W.Frag) (g : D → D → Res D) : List V → Hp → VK → Prop := fun xs H Q => ∃ F x y dx dy d, xs = [x, y] ∧ Same F H ∧ Pk K F H x dx ∧ Pk K F H y dy ∧ g dx dy = .ok d ∧ okE K Q F H d
def b2F : B2 → Value
  | .min2 => .builtin "min" | .max2 => .builtin "max"
theorem cr_b2 (b : B2) (hc : X.calm = true) : CallR X (b2F b) (rDD X.K (b2D b)) := by
  cases b with
  | min2 =>
    intro pins s σ H xs us Q I r ⟨F, x, y, dx, dy, d, ex, e, px, py, hg, q⟩
    subst ex
    cases dx <;> cases dy <;> try cases hg
    cases px.int; cases py.int
    exact call_min2 hc pins s σ H _ us Q I r ⟨_, _, rfl, q.fin e (.int _)⟩
  | max2 =>
    intro pins s σ H xs us Q I r ⟨F, x, y, dx, dy, d, ex, e, px, py, hg, q⟩
    subst ex
    cases dx <;> cases dy <;> try cases hg
    cases px.int; cases py.int
    exact call_max2 hc pins s σ H _ us Q I r ⟨_, _, rfl, q.fin e (.int _)⟩
end
end BW

namespace BW
open PySem PySem.W L2 PySem.Spec PyProof.Rows
/-! ### the operations raise nothing -/
def NoEx {α : Type} (r : Res α) : Prop := ∀ c, r ≠ .ex c
theorem NoEx.ok {α : Type} (a : α) : NoEx (Res.ok a) := fun c h => nomatch h
theorem NoEx.bad {α : Type} : NoEx (Res.bad : Res α) := fun c h => nomatch h
theorem NoEx.ite {α : Type} {c : Prop} [Decidable c] {a b : Res α} (ha : NoEx a) (hb : NoEx b) : NoEx (if c then a else b) := by
  by_cases h : c
  · rw [if_pos h]; exact ha
  · rw [if_neg h]; exact hb
theorem NoEx.bind {α β : Type} {x : Res α} {f : α → Res β} (hx : NoEx x) (hf : ∀ a, NoEx (f a)) : NoEx (x >>= f) := by
  cases x with
  | ok a => exact hf a
  | ex c => exact absurd rfl (hx c)
  | bad => exact NoEx.bad
theorem nx_opD (o : Op) (x y : D) : NoEx (opD o x y) := by
  unfold opD
  split <;> first | exact NoEx.ok _ | exact NoEx.bad | exact NoEx.ite (NoEx.ok _) NoEx.bad
theorem nx_ltD (x y : D) : NoEx (ltD x y) := by
  unfold ltD
  split
  · exact NoEx.ok _
  · exact NoEx.ite (NoEx.ok _) NoEx.bad
theorem nx_inD (x y : D) : NoEx (inD x y) := by
  unfold inD
  split
  · exact NoEx.ite (NoEx.ok _) NoEx.bad
  · split
    · split
      · exact NoEx.ite (NoEx.ok _) NoEx.bad
      · exact NoEx.bad
    · exact NoEx.bad
theorem nx_cmpB (o : Cmp) (x y : D) : NoEx (cmpB o x y) := by
  cases o
  · exact NoEx.ite (NoEx.ok _) NoEx.bad
  · exact NoEx.ite (NoEx.ok _) NoEx.bad
  · exact nx_ltD _ _
  · exact NoEx.bind (nx_ltD _ _) fun _ => NoEx.ok _
  · exact nx_ltD _ _
  · exact NoEx.bind (nx_ltD _ _) fun _ => NoEx.ok _
  · exact nx_inD _ _
  · exact NoEx.bind (nx_inD _ _) fun _ => NoEx.ok _
theorem nx_ixD (x y : D) : NoEx (ixD x y) := by
  unfold ixD
  split
  · split
    · exact NoEx.ok _
    · exact NoEx.bad
  · split
    · exact NoEx.ok _
    · exact NoEx.bad
  · refine NoEx.ite ?_ NoEx.bad
    split
    · exact NoEx.ok _
    · exact NoEx.bad
  · split
    · refine NoEx.ite ?_ NoEx.bad
      split
      · exact NoEx.ok _
      · exact NoEx.bad
    · exact NoEx.bad
  · exact NoEx.bad
theorem nx_asInt (d : D) : NoEx (asInt d) := by cases d <;> first | exact NoEx.ok _ | exact NoEx.bad
theorem nx_asBool (d : D) : NoEx (asBool d) := by cases d <;> first | exact NoEx.ok _ | exact NoEx.bad
theorem nx_mapR {α β : Type} {f : α → Res β} (h : ∀ a, NoEx (f a)) : ∀ xs : List α, NoEx (mapR f xs)
  | [] => NoEx.ok _
  | x :: xs => NoEx.bind (h x) fun _ => NoEx.bind (nx_mapR h xs) fun _ => NoEx.ok _
theorem nx_revD (x : D) : NoEx (revD x) := by cases x <;> first | exact NoEx.ok _ | exact NoEx.bad
theorem nx_slD (x : D) (l h : Option Int) : NoEx (slD x l h) := by
  unfold slD
  split <;> first | exact NoEx.ok _ | exact NoEx.bad
theorem nx_b1D (b : B1) (x : D) : NoEx (b1D b x) := by
  unfold b1D
  split <;> try first | exact NoEx.ok _ | exact NoEx.bad | exact NoEx.ite (NoEx.ok _) NoEx.bad | exact NoEx.bind (nx_mapR nx_asInt _) fun _ => NoEx.ok _ | exact NoEx.bind (nx_mapR nx_asBool _) fun _ => NoEx.ok _
  split
  · exact NoEx.bad
  · split <;> try first | exact NoEx.bad | exact NoEx.ite (NoEx.ok _) NoEx.bad
    · split
      · exact NoEx.bad
      · exact NoEx.ite (NoEx.ok _) NoEx.bad
    · split
      · exact NoEx.bad
      · exact NoEx.ite (NoEx.ok _) NoEx.bad
    · exact NoEx.bind (nx_mapR nx_asInt _) fun _ => NoEx.ite (NoEx.ok _) NoEx.bad
    · exact NoEx.bind (nx_mapR nx_asInt _) fun _ => NoEx.ite (NoEx.ok _) NoEx.bad
theorem nx_b2D (b : B2) (x y : D) : NoEx (b2D b x y) := by
  unfold b2D
  split <;> first | exact NoEx.ok _ | exact NoEx.bad
theorem rs.noex {β : Type} {W : WN} {σ : L2.St} {F H : Hp} {okb : Hp → Hp → β → Prop} {r : Res β} (h : rs W σ F H okb r) (n : NoEx r) : ∃ b, r = .ok b ∧ okb F H b := by
  cases r with
  | ok b => exact ⟨b, rfl, h⟩
  | ex c => exact absurd rfl (n c)
  | bad => exact h.elim

/-- what a context must have -/
structure XOk (X : Cx) : Prop where
  nd : X.N.Nodup
  calm : X.calm = true
  room : X.A.units + 64 < cLine
section
variable {X : Cx} {W : WN} {e a b c : Expr} {es : List Expr} {pos : Pos} {f g h : Env → Res D} {fa : Env → Res (List D)}
theorem PE.pk (x : PE X e (tE X.K W f)) : PE X e (tP X.K W f) := PE.weak x fun σ H Q ⟨F, env, R, h⟩ => ⟨F, env, R, by
  cases q : f env with
  | ok d => rw [q] at h; exact fun v H' F' y z => h v H' F' y (.dq z)
  | ex c => rw [q] at h; exact h
  | bad => rw [q] at h; exact h⟩
/-! ### constants and names -/
theorem c_int {i : Int} {j : Nat} : PE X (.Constant (.int i) j pos) (tE X.K W fun _ => .ok (.int i)) := PE.weak pe_int fun σ H Q ⟨F, env, R, h⟩ => h.end R.sub (.int i)
theorem c_bl {i : Bool} {j : Nat} : PE X (.Constant (.bool i) j pos) (tE X.K W fun _ => .ok (.bool i)) := PE.weak pe_bl fun σ H Q ⟨F, env, R, h⟩ => h.end R.sub (.bl i)
theorem c_str {i : Str} {j : Nat} : PE X (.Constant (.str i) j pos) (tE X.K W fun _ => .ok (.str i)) := PE.weak pe_str fun σ H Q ⟨F, env, R, h⟩ => h.end R.sub (.str i)
theorem c_non {j : Nat} : PE X (.Constant .none j pos) (tE X.K W fun _ => .ok .none) := PE.weak pe_non fun σ H Q ⟨F, env, R, h⟩ => h.end R.sub .non
theorem c_glob {x : Str} {v : V} {u : Value} {d : D} (hg : Gl X x) (hm : X.mg x = some u) (r : RelV v u) (q : ∀ F, Dq X.K F v d) (hd : (x == ("__debug__" : Str)) = false) : PE X (.Name x pos) (tE X.K W fun _ => .ok d) :=
  PE.weak (pe_glob hg hm r hd) fun σ H Q ⟨F, env, R, h⟩ => h.end R.sub (q F)
theorem slot_strict {K : PySem.W.Frag} {F H : Hp} {σ : L2.St} {env : Env} {i : Nat} {d : D} (R : RE K F H σ env) (h : strict env i = .ok d) : ∃ v, σ[i]? = some (some v) ∧ Dq K F v d := by
  have s := R.slot i
  unfold strict at h
  cases q : getS env i with
  | fz d' => rw [q] at h s; cases h; exact s
  | _ => rw [q] at h; cases h
theorem slot_peek {K : PySem.W.Frag} {F H : Hp} {σ : L2.St} {env : Env} {i : Nat} {d : D} (R : RE K F H σ env) (h : peek env i = .ok d) : ∃ v, σ[i]? = some (some v) ∧ Pk K F H v d := by
  have s := R.slot i
  unfold peek at h
  cases q : getS env i with
  | un => rw [q] at h; cases h
  | fz d' => rw [q] at h s; cases h; obtain ⟨v, e, z⟩ := s; exact ⟨v, e, .dq z⟩
  | ol ds => rw [q] at h s; cases h; obtain ⟨l, xs, e, z1, z2, z3⟩ := s; exact ⟨_, e, .ol rfl z1 z3⟩
  | od kvs => rw [q] at h s; cases h; obtain ⟨l, xs, e, z1, z2, z3⟩ := s; exact ⟨_, e, .od rfl z1 z3⟩
theorem nx_strict (σ : Env) (i : Nat) : NoEx (strict σ i) := by
  unfold strict
  split <;> first | exact NoEx.ok _ | exact NoEx.bad
theorem nx_peek (σ : Env) (i : Nat) : NoEx (peek σ i) := by
  unfold peek
  split <;> first | exact NoEx.ok _ | exact NoEx.bad
theorem c_v {i : Nat} {x : Str} (hN : X.N[i]? = some x) (hv : Vis X.env.scope x) (hd : (x == ("__debug__" : Str)) = false) (hcd : (x == ("__classdict__" : Str)) = false) : PE X (.Name x pos) (tE X.K W fun σ => strict σ i) :=
  PE.weak (pe_var hN hv hd hcd) fun σ H Q ⟨F, env, R, h⟩ => by
    obtain ⟨d, e, h⟩ := h.noex (nx_strict _ _)
    obtain ⟨v, e1, z⟩ := slot_strict R e
    exact ⟨v, e1, h.fin R.sub z⟩
theorem c_p {i : Nat} {x : Str} (hN : X.N[i]? = some x) (hv : Vis X.env.scope x) (hd : (x == ("__debug__" : Str)) = false) (hcd : (x == ("__classdict__" : Str)) = false) : PE X (.Name x pos) (tP X.K W fun σ => peek σ i) :=
  PE.weak (pe_var hN hv hd hcd) fun σ H Q ⟨F, env, R, h⟩ => by
    obtain ⟨d, e, h⟩ := h.noex (nx_peek _ _)
    obtain ⟨v, e1, z⟩ := slot_peek R e
    exact ⟨v, e1, h v H F (Ext.refl R.sub) z⟩
/-! ### operators -/
theorem c_op (o : Op) (ha : PE X a (tP X.K W f)) (hb : PE X b (tP X.K W g)) : PE X (.BinOp a (opM o) b pos) (tE X.K W fun σ => do let x ← f σ; let y ← g σ; opD o x y) :=
  PE.weak (pe_op (opR_D o) ha hb) fun σ H Q ⟨F, env, R, h⟩ => goP mnE R h fun dx v F1 H1 _ x1 R1 p1 h1 => goP mnE R1 h1 fun dy w F2 H2 _ x2 R2 p2 h2 => by
    obtain ⟨d, e, q⟩ := h2.noex (nx_opD _ _ _)
    exact ⟨F2, dx, dy, d, x2.sub, p1.ext x2, p2, e, q⟩
theorem nomarkM (b : Expr) (o : Cmp) (hin : o = .isin ∨ o = .notin → behindInMarks (cmpM o) b = false) : behindInMarks (cmpM o) b = false := by
  cases o <;> first | exact hin (.inl rfl) | exact hin (.inr rfl) | exact nomark b
theorem c_cmp (ok : XOk X) (o : Cmp) (ha : PE X a (tP X.K W f)) (hb : PE X b (tP X.K W g)) (hm : behindInMarks (cmpM o) b = false) : PE X (.Compare a [cmpM o] [b] pos) (tE X.K W fun σ => do let x ← f σ; let y ← g σ; cmpV o x y) :=
  PE.weak (pe_cmpR (cmpR_D o ok.room) ha hb hm) fun σ H Q ⟨F, env, R, h⟩ => goP mnE R h fun dx v F1 H1 _ x1 R1 p1 h1 => goP mnE R1 h1 fun dy w F2 H2 _ x2 R2 p2 h2 => by
    obtain ⟨d, e, q⟩ := h2.noex (NoEx.bind (nx_cmpB _ _ _) fun _ => NoEx.ok _)
    exact ⟨F2, dx, dy, d, x2.sub, p1.ext x2, p2, e, q⟩
/-- as a test -/
def evT (f : Env → Res D) : Env → Res Bool := fun σ => do let x ← f σ; asBool x
theorem bind_assoc' {α β γ : Type} (x : Res α) (f : α → Res β) (g : β → Res γ) : ((x >>= f) >>= g) = (x >>= fun a => f a >>= g) := by cases x <;> rfl
theorem c_cmpT (ok : XOk X) (o : Cmp) (ha : PE X a (tP X.K W f)) (hb : PE X b (tP X.K W g)) (hm : behindInMarks (cmpM o) b = false) : PT X (.Compare a [cmpM o] [b] pos) (tT X.K W (evT fun σ => do let x ← f σ; let y ← g σ; cmpV o x y)) :=
  PT.weak (pt_cmpR (cmpR_D o ok.room) ha hb hm) fun σ H Q ⟨F, env, R, h⟩ => by
    unfold evT at h
    rw [bind_assoc'] at h
    refine goP mnT R h fun dx v F1 H1 _ x1 R1 p1 h1 => ?_
    rw [bind_assoc'] at h1
    refine goP mnT R1 h1 fun dy w F2 H2 _ x2 R2 p2 h2 => ?_
    have h3 : rs W σ F2 H2 (okT Q) (cmpB o dx dy) := by
      cases q : cmpB o dx dy with
      | ok r => unfold cmpV at h2; rw [q] at h2; exact h2
      | ex c => exact absurd q (nx_cmpB _ _ _ c)
      | bad => unfold cmpV at h2; rw [q] at h2; exact h2
    obtain ⟨r, e, q⟩ := h3.noex (nx_cmpB _ _ _)
    refine ⟨F2, dx, dy, .bool r, x2.sub, p1.ext x2, p2, ?_, fun v' H' F' y z => ?_⟩
    · unfold cmpV; rw [e]; rfl
    · cases z; exact ⟨r, rfl, q H' F' y⟩
/-- a test from a value -/
theorem c_tst (ha : PE X a (tP X.K W f)) (he : ∀ whole, isTrue a X.env whole = (do let v ← whole; standAt a.pos; holding [v] (truthy v))) : PT X a (tT X.K W (evT f)) :=
  PT.weak (pt_val ha he) fun σ H Q ⟨F, env, R, h⟩ => goP mnT R h fun d v F1 H1 _ x1 R1 p1 h1 => by
    obtain ⟨r, e, q⟩ := h1.noex (nx_asBool _)
    have := asBool_ok e
    subst this
    cases p1.bl
    exact ⟨r, rfl, q H1 F1 (Ext.refl x1.sub)⟩
/-- a op b op' c -/
def evCh (o q : Cmp) (f g h : Env → Res D) : Env → Res D := fun σ => do
  let x ← f σ
  let y ← g σ
  let r ← cmpB o x y
  if r then do
    let z ← h σ
    let r' ← cmpB q y z
    .ok (.bool r')
  else .ok (.bool false)
theorem cmpV_of {o : Cmp} {x y : D} {r : Bool} (h : cmpB o x y = .ok r) : cmpV o x y = .ok (.bool r) := by unfold cmpV; rw [h]; rfl
theorem chain_read (o q : Cmp) {σ : L2.St} {H : Hp} {Q : VK} (h0 : tE X.K W (evCh o q f g h) σ H Q) : tChain (rD2 X.K (cmpV o)) (rD2 X.K (cmpV q)) (tP X.K W f) (tP X.K W g) (tP X.K W h) σ H Q := by
  obtain ⟨F, env, R, h0⟩ := h0
  refine goP mnE R h0 fun dx v F1 H1 _ x1 R1 p1 h1 => goP mnE R1 h1 fun dy w F2 H2 _ x2 R2 p2 h2 => ?_
  have nb := nx_cmpB o dx dy
  cases hr : cmpB o dx dy with
  | ex c => exact absurd hr (nb c)
  | bad => rw [hr] at h2; exact h2.elim
  | ok r =>
    rw [hr] at h2
    refine ⟨F2, dx, dy, .bool r, x2.sub, p1.ext x2, p2, cmpV_of hr, fun v' H' F' y3 z3 => ?_⟩
    cases z3
    refine ⟨r, rfl, ?_⟩
    cases r with
    | false =>
      refine iteF ?_
      exact (rs.ext mnE y3 h2).end y3.sub (.bl false)
    | true =>
      refine iteT ?_
      have h3 := rs.ext mnE y3 h2
      refine goP mnE (R2.ext y3) h3 fun dz w2 F4 H4 _ x4 R4 p4 h4 => ?_
      obtain ⟨d, e, q'⟩ := h4.noex (NoEx.bind (nx_cmpB _ _ _) fun _ => NoEx.ok _)
      exact ⟨F4, dy, dz, d, x4.sub, (p2.ext y3).ext x4, p4, e, q'⟩
theorem c_ch (ok : XOk X) (o q : Cmp) (ha : PE X a (tP X.K W f)) (hb : PE X b (tP X.K W g)) (hc : PE X c (tP X.K W h)) (hm : lastMarks [cmpM o, cmpM q] [b, c] = false) : PE X (.Compare a [cmpM o, cmpM q] [b, c] pos) (tE X.K W (evCh o q f g h)) :=
  PE.weak (pe_chain (cmpR_D o ok.room) (cmpR_D q ok.room) ha hb hc hm) fun σ H Q z => chain_read o q z
theorem bool_res (f : Env → Res D) (hb : ∀ env d, f env = .ok d → ∃ r, d = .bool r) {σ : L2.St} {H : Hp} {Q : Bool → Hp → Prop} (h : tT X.K W (evT f) σ H Q) : tE X.K W f σ H fun v H1 => ∃ k, v = .bl k ∧ Q k H1 := by
  obtain ⟨F, env, R, h⟩ := h
  refine goE mnT R h fun d v F1 H1 e x1 R1 p1 h1 => ?_
  obtain ⟨r, rfl⟩ := hb env d e
  cases p1
  exact ⟨r, rfl, h1 H1 F1 (Ext.refl x1.sub)⟩
theorem evCh_bool (o q : Cmp) (f g h : Env → Res D) (env : Env) (d : D) (e : evCh o q f g h env = .ok d) : ∃ r, d = .bool r := by
  unfold evCh at e
  obtain ⟨x, _, e⟩ := bind_ok e
  obtain ⟨y, _, e⟩ := bind_ok e
  obtain ⟨r, _, e⟩ := bind_ok e
  cases r with
  | false => cases e; exact ⟨_, rfl⟩
  | true =>
    obtain ⟨z, _, e⟩ := bind_ok e
    obtain ⟨r', _, e⟩ := bind_ok e
    cases e; exact ⟨_, rfl⟩
theorem c_chT (ok : XOk X) (o q : Cmp) (ha : PE X a (tP X.K W f)) (hb : PE X b (tP X.K W g)) (hc : PE X c (tP X.K W h)) (hm : lastMarks [cmpM o, cmpM q] [b, c] = false) : PT X (.Compare a [cmpM o, cmpM q] [b, c] pos) (tT X.K W (evT (evCh o q f g h))) :=
  PT.weak (pt_chain (cmpR_D o ok.room) (cmpR_D q ok.room) ha hb hc hm) fun σ H Q z => chain_read o q (bool_res _ (evCh_bool o q f g h) z)
/-! ### and, or, not -/
def evAnd (f g : Env → Res D) : Env → Res D := fun σ => do
  let x ← f σ
  let t ← asBool x
  if t then g σ else .ok (.bool false)
def evOr (f g : Env → Res D) : Env → Res D := fun σ => do
  let x ← f σ
  let t ← asBool x
  if t then .ok (.bool true) else g σ
theorem goB {β : Type} {okb : Hp → Hp → β → Prop} {K : PySem.W.Frag} {F H : Hp} {σ : L2.St} {d : D} {k : Bool → Res β} (h : rs W σ F H okb (asBool d >>= k)) : ∃ r, d = .bool r ∧ rs W σ F H okb (k r) := by
  cases q : asBool d with
  | ok r => rw [q] at h; exact ⟨r, asBool_ok q, h⟩
  | ex c => exact absurd q (nx_asBool _ c)
  | bad => rw [q] at h; exact h.elim
theorem c_and1 (ha : PE X a (tE X.K W f)) : PE X (.BoolOp .And [a] pos) (tE X.K W f) := pe_one ha
theorem c_or1 (ha : PE X a (tE X.K W f)) : PE X (.BoolOp .Or [a] pos) (tE X.K W f) := pe_one ha
theorem c_and {rest : List Expr} (ha : PE X a (tP X.K W f)) (hb : PE X (.BoolOp .And (b :: rest) pos) (tE X.K W g)) : PE X (.BoolOp .And (a :: b :: rest) pos) (tE X.K W (evAnd f g)) :=
  PE.weak (pe_and ha hb) fun σ H Q ⟨F, env, R, h⟩ => goP mnE R h fun d v F1 H1 _ x1 R1 p1 h1 => by
    obtain ⟨r, rfl, h2⟩ := goB (K := X.K) h1
    cases p1.bl
    refine ⟨r, rfl, ?_⟩
    cases r with
    | true => exact iteT ⟨F1, env, R1, h2⟩
    | false => exact iteF (h2.end x1.sub (.bl false))
theorem c_or {rest : List Expr} (ha : PE X a (tP X.K W f)) (hb : PE X (.BoolOp .Or (b :: rest) pos) (tE X.K W g)) : PE X (.BoolOp .Or (a :: b :: rest) pos) (tE X.K W (evOr f g)) :=
  PE.weak (pe_or ha hb) fun σ H Q ⟨F, env, R, h⟩ => goP mnE R h fun d v F1 H1 _ x1 R1 p1 h1 => by
    obtain ⟨r, rfl, h2⟩ := goB (K := X.K) h1
    cases p1.bl
    refine ⟨r, rfl, ?_⟩
    cases r with
    | true => exact iteT (h2.end x1.sub (.bl true))
    | false => exact iteF ⟨F1, env, R1, h2⟩
theorem c_not (ha : PE X a (tP X.K W f)) : PE X (.UnaryOp .Not a pos) (tE X.K W fun σ => do let x ← f σ; let t ← asBool x; .ok (.bool !t)) :=
  PE.weak (pe_not ha) fun σ H Q ⟨F, env, R, h⟩ => goP mnE R h fun d v F1 H1 _ x1 R1 p1 h1 => by
    obtain ⟨r, rfl, h2⟩ := goB (K := X.K) h1
    cases p1.bl
    exact ⟨r, rfl, h2.end x1.sub (.bl _)⟩
/-- as tests -/
theorem w_and1 (ha : PT X a (tT X.K W (evT f))) : PW X (.BoolOp .And [a] pos) (tT X.K W (evT f)) := pw_and1 ha
theorem w_or1 (ha : PT X a (tT X.K W (evT f))) : PW X (.BoolOp .Or [a] pos) (tT X.K W (evT f)) := pw_or1 ha
theorem evT_bind {β : Type} (f : Env → Res D) (env : Env) (k : Bool → Res β) : (evT f env >>= k) = (f env >>= fun x => asBool x >>= k) := bind_assoc' _ _ _
theorem ite_bind {α β : Type} (c : Bool) (x y : Res α) (k : α → Res β) : ((if c = true then x else y) >>= k) = if c = true then x >>= k else y >>= k := by cases c <;> rfl
theorem evT_and (f g : Env → Res D) (env : Env) : evT (evAnd f g) env = (evT f env >>= fun t => if t = true then evT g env else .ok false) := by
  rw [evT_bind]
  unfold evT evAnd
  rw [bind_assoc']
  congr 1
  funext x
  rw [bind_assoc']
  congr 1
  funext t
  rw [ite_bind]
  rfl
theorem evT_or (f g : Env → Res D) (env : Env) : evT (evOr f g) env = (evT f env >>= fun t => if t = true then .ok true else evT g env) := by
  rw [evT_bind]
  unfold evT evOr
  rw [bind_assoc']
  congr 1
  funext x
  rw [bind_assoc']
  congr 1
  funext t
  rw [ite_bind]
  rfl
theorem w_and {rest : List Expr} (ha : PT X a (tT X.K W (evT f))) (hb : PW X (.BoolOp .And (b :: rest) pos) (tT X.K W (evT g))) : PW X (.BoolOp .And (a :: b :: rest) pos) (tT X.K W (evT (evAnd f g))) :=
  PW.weak (pw_and ha hb) fun σ H Q ⟨F, env, R, h⟩ => by
    rw [evT_and] at h
    refine goT mnT R h fun r F1 H1 _ x1 R1 h2 => ?_
    cases r with
    | true => exact iteT ⟨F1, env, R1, h2⟩
    | false => exact iteF (h2 H1 F1 (Ext.refl x1.sub))
theorem w_or {rest : List Expr} (ha : PT X a (tT X.K W (evT f))) (hb : PW X (.BoolOp .Or (b :: rest) pos) (tT X.K W (evT g))) : PW X (.BoolOp .Or (a :: b :: rest) pos) (tT X.K W (evT (evOr f g))) :=
  PW.weak (pw_or ha hb) fun σ H Q ⟨F, env, R, h⟩ => by
    rw [evT_or] at h
    refine goT mnT R h fun r F1 H1 _ x1 R1 h2 => ?_
    cases r with
    | true => exact iteT (h2 H1 F1 (Ext.refl x1.sub))
    | false => exact iteF ⟨F1, env, R1, h2⟩
theorem c_notT (ha : PT X a (tT X.K W (evT f))) : PT X (.UnaryOp .Not a pos) (tT X.K W (evT fun σ => do let x ← f σ; let t ← asBool x; .ok (.bool !t))) :=
  PT.weak (pt_not ha) fun σ H Q ⟨F, env, R, h⟩ => by
    have e : evT (fun σ => do let x ← f σ; let t ← asBool x; .ok (.bool !t)) env = (evT f env >>= fun t => .ok !t) := by
      rw [evT_bind]
      unfold evT
      rw [bind_assoc']
      congr 1
      funext x
      rw [bind_assoc']
      rfl
    rw [e] at h
    exact goT mnT R h fun r F1 H1 _ x1 R1 h2 => h2 H1 F1 (Ext.refl x1.sub)
theorem c_neg (ha : PE X a (tP X.K W f)) : PE X (.UnaryOp .USub a pos) (tE X.K W fun σ => do let x ← f σ; let i ← asInt x; .ok (.int (-i))) :=
  PE.weak (pe_un un_neg ha) fun σ H Q ⟨F, env, R, h⟩ => goP mnE R h fun d v F1 H1 _ x1 R1 p1 h1 => by
    cases q : asInt d with
    | ok i =>
      rw [q] at h1
      have := asInt_ok q
      subst this
      cases p1.int
      exact ⟨i, rfl, h1.end x1.sub (.int _)⟩
    | ex c => exact absurd q (nx_asInt _ c)
    | bad => rw [q] at h1; exact h1.elim
theorem c_ite (hc : PT X c (tT X.K W (evT h))) (ha : PE X a (tE X.K W f)) (hb : PE X b (tE X.K W g)) : PE X (.IfExp c a b pos) (tE X.K W fun σ => do let x ← h σ; let t ← asBool x; if t then f σ else g σ) :=
  PE.weak (pe_ifExp hc ha hb) fun σ H Q ⟨F, env, R, z⟩ => by
    have z : rs W σ F H (okE X.K Q) (evT h env >>= fun t => if t = true then f env else g env) := by rw [evT_bind]; exact z
    refine goT mnE R z fun r F1 H1 _ x1 R1 h2 => ?_
    cases r with
    | true => exact iteT ⟨F1, env, R1, h2⟩
    | false => exact iteF ⟨F1, env, R1, h2⟩
theorem Pk.isnon {K : PySem.W.Frag} {F H : Hp} {v : V} {d : D} (p : Pk K F H v d) : decide (v = .non) = !notNone d := by
  cases p with
  | dq q => cases q <;> simp [notNone]
  | ol e _ _ => subst e; simp [notNone]
  | od e _ _ => subst e; simp [notNone]
theorem c_isN (ha : PE X a (tP X.K W f)) {j : Nat} {p2 : Pos} : PE X (.Compare a [.Is] [.Constant .none j p2] pos) (tE X.K W fun σ => do let x ← f σ; .ok (.bool !(notNone x))) :=
  PE.weak (pe_cmp (pc_isN ha) rfl) fun σ H Q ⟨F, env, R, h⟩ => goP mnE R h fun d v F1 H1 _ x1 R1 p1 h1 => by
    rw [p1.isnon]
    exact h1.end x1.sub (.bl _)
theorem c_notN (ha : PE X a (tP X.K W f)) {j : Nat} {p2 : Pos} : PE X (.Compare a [.IsNot] [.Constant .none j p2] pos) (tE X.K W fun σ => do let x ← f σ; .ok (.bool (notNone x))) :=
  PE.weak (pe_cmp (pc_notN ha) rfl) fun σ H Q ⟨F, env, R, h⟩ => goP mnE R h fun d v F1 H1 _ x1 R1 p1 h1 => by
    rw [p1.isnon, Bool.not_not]
    exact h1.end x1.sub (.bl _)
theorem c_isNT (ha : PE X a (tP X.K W f)) {j : Nat} {p2 : Pos} : PT X (.Compare a [.Is] [.Constant .none j p2] pos) (tT X.K W (evT fun σ => do let x ← f σ; .ok (.bool !(notNone x)))) :=
  PT.weak (pt_cmp (pc_isN ha) rfl) fun σ H Q ⟨F, env, R, h⟩ => by
    unfold evT at h
    rw [bind_assoc'] at h
    refine goP mnT R h fun d v F1 H1 _ x1 R1 p1 h1 => ⟨_, rfl, ?_⟩
    rw [p1.isnon]
    exact h1 H1 F1 (Ext.refl x1.sub)
theorem c_notNT (ha : PE X a (tP X.K W f)) {j : Nat} {p2 : Pos} : PT X (.Compare a [.IsNot] [.Constant .none j p2] pos) (tT X.K W (evT fun σ => do let x ← f σ; .ok (.bool (notNone x)))) :=
  PT.weak (pt_cmp (pc_notN ha) rfl) fun σ H Q ⟨F, env, R, h⟩ => by
    unfold evT at h
    rw [bind_assoc'] at h
    refine goP mnT R h fun d v F1 H1 _ x1 R1 p1 h1 => ⟨_, rfl, ?_⟩
    rw [p1.isnon, Bool.not_not]
    exact h1 H1 F1 (Ext.refl x1.sub)
/-! ### subscripts -/
theorem c_ix (ok : XOk X) (ha : PE X a (tP X.K W f)) (hb : PE X b (tP X.K W g)) (hs : PlainIx b) : PE X (.Subscript a b pos) (tE X.K W fun σ => do let x ← f σ; let y ← g σ; ixD x y) :=
  PE.weak (pe_ix (ixR_D ok.room) ha hb hs) fun σ H Q ⟨F, env, R, h⟩ => goP mnE R h fun dx v F1 H1 _ x1 R1 p1 h1 => goP mnE R1 h1 fun dy w F2 H2 _ x2 R2 p2 h2 => by
    obtain ⟨d, e, q⟩ := h2.noex (nx_ixD _ _)
    exact ⟨F2, dx, dy, d, x2.sub, p1.ext x2, p2, e, q⟩
theorem goI {β : Type} {okb : Hp → Hp → β → Prop} {F H : Hp} {σ : L2.St} {d : D} {k : Int → Res β} (h : rs W σ F H okb (asInt d >>= k)) : ∃ r, d = .int r ∧ rs W σ F H okb (k r) := by
  cases q : asInt d with
  | ok r => rw [q] at h; exact ⟨r, asInt_ok q, h⟩
  | ex c => exact absurd q (nx_asInt _ c)
  | bad => rw [q] at h; exact h.elim
theorem c_slf {p2 : Pos} (ha : PE X a (tP X.K W f)) (hb : PE X b (tP X.K W g)) : PE X (.Subscript a (.Slice (some b) none none p2) pos) (tE X.K W fun σ => do let x ← f σ; let y ← g σ; let i ← asInt y; slD x (some i) none) :=
  PE.weak (pe_slice slR_D ha (po_some hb) po_none) fun σ H Q ⟨F, env, R, h⟩ => goP mnE R h fun dx v F1 H1 _ x1 R1 p1 h1 => goP mnE R1 h1 fun dy w F2 H2 _ x2 R2 p2 h2 => by
    obtain ⟨i, rfl, h3⟩ := goI h2
    cases p2.int
    obtain ⟨d, e, q⟩ := h3.noex (nx_slD _ _ _)
    exact ⟨i, rfl, F2, dx, d, x2.sub, p1.ext x2, e, q⟩
theorem c_slt {p2 : Pos} (ha : PE X a (tP X.K W f)) (hb : PE X b (tP X.K W g)) : PE X (.Subscript a (.Slice none (some b) none p2) pos) (tE X.K W fun σ => do let x ← f σ; let y ← g σ; let i ← asInt y; slD x none (some i)) :=
  PE.weak (pe_slice slR_D ha po_none (po_some hb)) fun σ H Q ⟨F, env, R, h⟩ => goP mnE R h fun dx v F1 H1 _ x1 R1 p1 h1 => goP mnE R1 h1 fun dy w F2 H2 _ x2 R2 p2 h2 => by
    obtain ⟨i, rfl, h3⟩ := goI h2
    cases p2.int
    obtain ⟨d, e, q⟩ := h3.noex (nx_slD _ _ _)
    exact ⟨i, rfl, F2, dx, d, x2.sub, p1.ext x2, e, q⟩
theorem c_slb {p2 : Pos} (ha : PE X a (tP X.K W f)) (hb : PE X b (tP X.K W g)) (hc : PE X c (tP X.K W h)) : PE X (.Subscript a (.Slice (some b) (some c) none p2) pos) (tE X.K W fun σ => do let x ← f σ; let y ← g σ; let i ← asInt y; let z ← h σ; let j ← asInt z; slD x (some i) (some j)) :=
  PE.weak (pe_slice slR_D ha (po_some hb) (po_some hc)) fun σ H Q ⟨F, env, R, h⟩ => goP mnE R h fun dx v F1 H1 _ x1 R1 p1 h1 => goP mnE R1 h1 fun dy w F2 H2 _ x2 R2 p2 h2 => by
    obtain ⟨i, rfl, h3⟩ := goI h2
    cases p2.int
    refine ⟨i, rfl, goP mnE R2 h3 fun dz w3 F3 H3 _ x3 R3 p3 h4 => ?_⟩
    obtain ⟨j, rfl, h5⟩ := goI h4
    cases p3.int
    obtain ⟨d, e, q⟩ := h5.noex (nx_slD _ _ _)
    exact ⟨j, rfl, F3, dx, d, x3.sub, (p1.ext x2).ext x3, e, q⟩
theorem c_rev {k : Nat} {p1 p2 p3 : Pos} (ha : PE X a (tP X.K W f)) : PE X (.Subscript a (.Slice none none (some (.UnaryOp .USub (.Constant (.int 1) k p1) p2)) p3) pos) (tE X.K W fun σ => do let x ← f σ; revD x) :=
  PE.weak (pe_revA ha) fun σ H Q ⟨F, env, R, h⟩ => goP mnE R h fun dx v F1 H1 _ x1 R1 p1 h1 => by
    obtain ⟨d, e, q⟩ := h1.noex (nx_revD _)
    cases dx <;> try cases e
    · obtain ⟨l, xs, rfl, h2, a1⟩ := p1.lst x1.sub
      exact ⟨l, xs, rfl, .inl ⟨.inl h2, new_lst x1.sub q a1.rev⟩⟩
    · obtain ⟨l, xs, rfl, h2, a1⟩ := p1.tup x1.sub
      exact ⟨l, xs, rfl, .inr ⟨h2, new_tup x1.sub q a1.rev⟩⟩
/-! ### displays, argument lists -/
theorem c_nil : PA X [] (tA X.K W fun _ => .ok []) := PA.weak pa_nil fun σ H Q ⟨F, env, R, h⟩ => h [] H F (Ext.refl R.sub) .nil
theorem c_cons (ha : PE X e (tE X.K W f)) (hr : PA X es (tA X.K W fa)) (hs : starEach (e :: es) X.env = (false, eval e X.env) :: starEach es X.env) : PA X (e :: es) (tA X.K W fun σ => do let d ← f σ; let ds ← fa σ; .ok (d :: ds)) :=
  PA.weak (pa_cons ha hr hs) fun σ H Q ⟨F, env, R, h⟩ => goE mnA R h fun d v F1 H1 _ x1 R1 p1 h1 => goA mnA R1 h1 fun ds vs F2 H2 _ x2 R2 p2 h2 => h2 (v :: vs) H2 F2 (Ext.refl x2.sub) (.cons (p1.up x2.f) p2)
theorem c_tup {k : Nat} (ha : PA X es (tA X.K W fa)) (hl : ∀ env ds, fa env = .ok ds → ds.length ≤ 1000000) : PE X (.Tuple es k pos) (tE X.K W fun σ => do let ds ← fa σ; .ok (.tuple ds)) :=
  PE.weak (pe_tup ha) fun σ H Q ⟨F, env, R, h⟩ => goA mnE R h fun ds vs F1 H1 e x1 R1 p1 h1 =>
    ⟨by rw [p1.length]; exact Nat.le_trans (hl env ds e) (by rw [sizeLine_eq]; decide), new_tup x1.sub h1 p1⟩
theorem c_lst (ha : PA X es (tA X.K W fa)) (hl : ∀ env ds, fa env = .ok ds → ds.length ≤ 1000000) : PE X (.List es pos) (tE X.K W fun σ => do let ds ← fa σ; .ok (.list ds)) :=
  PE.weak (pe_lst ha) fun σ H Q ⟨F, env, R, h⟩ => goA mnE R h fun ds vs F1 H1 e x1 R1 p1 h1 =>
    ⟨by rw [p1.length]; exact Nat.le_trans (hl env ds e) (by rw [sizeLine_eq]; decide), new_lst x1.sub h1 p1⟩
end
end BW

namespace BW
open PySem PySem.W L2 PySem.Spec PyProof.Rows
/-! ### enumerate of a tuple -/
section
variable {prog : Program} {w : World} {A : Around} {E : Value → Shared → Prop} {s : Shared}
theorem meets_enumT (l : Addr) (items : Array Value) (n : Nat) (dct : Option Addr) (sl : Array (Option Value)) :
    Meets (Builtin.«enumerate.__new__» ⟨[.type "enumerate", .ref l], []⟩) (fun _ R s => s.heap.get? l = some { cls := .type "tuple", dict := dct, data := .seq items n, slots := sl } ∧
      R (.ok (.ret (.ref (s.heap.push { cls := .type "tuple_iterator", data := .fields #[.ref l, .int 0 0] }).objs.size)))
        { s with heap := (s.heap.push { cls := .type "tuple_iterator", data := .fields #[.ref l, .int 0 0] }).push { cls := .type "enumerate", data := .fields #[.none, .bool false, .ref s.heap.objs.size, rawInt 0, .none, .none] } }) :=
  .of_wp fun prog w A R s h => by
    obtain ⟨hp, g, d, tk, os⟩ := s; obtain ⟨hl, h⟩ := h
    have hsub := sub_enumerate
    have hT : Heap.IsTuple (Shared.heap ⟨hp, g, d, tk, os⟩) l items := ⟨_, hl, rfl, n, rfl⟩
    wp_walk using wpAny_loadPart' hl
    refine wpAny_stack_any fun st => wpAny_pure ?_
    split
    · rename_i c _ _ _ _ _
      cases (c == Value.type "enumerate")
      · wp_walk using wpAny_loadPart' hl, wpAny_pyIter_tuple hT
        exact ⟨_, rfl, h⟩
      · wp_walk using wpAny_loadPart' hl, wpAny_pyIter_tuple hT
        exact ⟨_, rfl, h⟩
    · wp_walk using wpAny_loadPart' hl, wpAny_pyIter_tuple hT
      exact ⟨_, rfl, h⟩
theorem call_enumT {l : Addr} {items : Array Value} {Q : Value → Shared → Prop} (hL : s.heap.IsTuple l items)
    (h : ∀ h', IsEnum h' (s.heap.objs.size + 1) s.heap.objs.size 0 .none → h'.IsTupleIter s.heap.objs.size l 0 →
      (∀ b o, s.heap.get? b = some o → h'.get? b = some o) → Q (.ref (s.heap.objs.size + 1)) { s with heap := h' }) :
    wpAny (model prog w) A (call (.type "enumerate") [.ref l]) Q E s := by
  obtain ⟨⟨c, dct, dt, sl⟩, hl, hc, n, hd⟩ := hL
  replace hc : c = .type "tuple" := hc
  replace hd : dt = .seq items n := hd
  subst hc hd
  refine callType_new PySem.F.called_enumerate (by decide) (PySem.F.typeCall_enumerate_1 _) (PySem.F.newCall_enumerate_1 _) (fun obj => PySem.F.args_object_init_2 obj _) PySem.F.entry_enumerate_new
    (meets_enumT l items n dct sl) ⟨hl, ?_⟩
  have hz : (s.heap.push { cls := .type "tuple_iterator", data := .fields #[.ref l, .int 0 0] }).objs.size = s.heap.objs.size + 1 := Heap.size_push ..
  show _ ∧ _
  rw [hz]
  have he : IsEnum ((s.heap.push { cls := .type "tuple_iterator", data := .fields #[.ref l, .int 0 0] }).push
      { cls := .type "enumerate", data := .fields #[.none, .bool false, .ref s.heap.objs.size, rawInt 0, .none, .none] }) (s.heap.objs.size + 1) s.heap.objs.size 0 .none := by
    have z := Heap.get?_push_size (s.heap.push { cls := .type "tuple_iterator", data := .fields #[.ref l, .int 0 0] })
      (o := { cls := .type "enumerate", data := .fields #[.none, .bool false, .ref s.heap.objs.size, rawInt 0, .none, .none] }) rfl
    rw [hz] at z; exact z
  exact ⟨⟨_, he, rfl⟩, h _ he ⟨_, Heap.get?_push_of_some _ (Heap.get?_push_size _ rfl), rfl, rfl⟩ fun b o x => Heap.get?_push_of_some _ (Heap.get?_push_of_some _ x)⟩
end
/-- a tuple's items with their numbers -/
def IteT (K : PySem.W.Frag) (a : Addr) : L2.It :=
  ⟨fun i H => ∃ (xs : List V) (x : V), SqT K H a xs ∧ xs[i]? = some x, fun i H v H' => ∃ T x, v = .ref T ∧ H T = none ∧ H' = upd H T (.tup [.int (i : Nat), x]) ∧ ∀ xs, SqT K H a xs → xs[i]? = some x, fun i H => ∃ xs : List V, SqT K H a xs ∧ xs.length = i⟩
theorem turn_enumT {P : Program} {w : World} {K : PySem.W.Frag} {elts : List Expr} {kk : Nat} {tpos : Pos} (a e it : Addr) :
    Turn P w K (.Tuple elts kk tpos) (IteT K a) [e, it] e (fun i h => (∃ old, IsEnum h e it (0 + (i : Int)) old) ∧ h.IsTupleIter it a i ∧ e ≠ it) where
  mem := by simp
  obj := fun i h st b hb => by
    obtain ⟨⟨old, he⟩, ⟨o, ho, hc, hd⟩, _⟩ := st
    have e' : b = e ∨ b = it := by simpa using hb
    rcases e' with z | z
    · rw [z]; exact ⟨_, he, fun v q => nomatch q⟩
    · rw [z]; exact ⟨o, ho, fun v q => by rw [hd] at q; cases q⟩
  keep := fun i h h' st k => let ⟨⟨old, he⟩, hi, hne⟩ := st; ⟨⟨old, k e (by simp) _ he⟩, hi.at fun o q => k it (by simp) o q, hne⟩
  item := by
    intro X hP hw hK hc i pins s σ H E I hf st hg
    subst hP hw hK
    obtain ⟨⟨old, he⟩, hit, hne⟩ := st
    obtain ⟨xs, x, hq, hx⟩ := hg
    obtain ⟨its, rv, p, hz⟩ := I.tuple hq
    obtain ⟨u, hu, ru⟩ := rv.get hx
    have hel : e < s.heap.objs.size := Heap.lt_size he
    have hil : it < s.heap.objs.size := by obtain ⟨_, q, _⟩ := hit; exact Heap.lt_size q
    have pt : s.heap.IsTuple a its.toArray := p
    have ha : a ≠ it := by
      rintro rfl
      obtain ⟨o1, q1, c1, _⟩ := hit
      obtain ⟨o2, q2, c2, _⟩ := pt
      rw [q1] at q2; cases q2; rw [c1] at c2; exact absurd c2 (by decide)
    have hae : a ≠ e := by
      rintro rfl
      obtain ⟨o2, q2, c2, _⟩ := pt
      have he' : s.heap.get? a = some _ := he
      rw [he'] at q2; cases q2; exact absurd c2 (by simp)
    have Dr := Draws.tuple (prog := X.prog) (w := X.w) (A := X.A.in1) (I.ok.hd hc) it a ha its.toArray
    have W := WalksT.enumFrom 0 Dr e hne (by simp; exact ⟨hne, fun z => hae z.symm⟩) (by simp)
    have hi : i < its.toArray.size := by
      have := (List.getElem?_eq_some_iff.mp hu).1
      simpa using this
    refine W.item i s _ _ hi ⟨⟨old, he⟩, hit, pt⟩ fun T vals h' tk hP hT hTu hm hk => ?_
    obtain ⟨t, y, hy, ev⟩ := hP
    have hy' : its[i]? = some y := by simpa using hy
    rw [hu] at hy'
    cases hy'
    subst ev
    refine ⟨_, rfl, W.go elts kk tpos i T { s with heap := h', toks := tk } _ _ hm fun h'' st' hk' => ?_⟩
    have hT2 : h''.IsTuple T #[.int (0 + (i : Int)) t, u] := hTu.at fun o q => hk' T o (W.apart i T h' hm) q
    have new : ObjOk X.prog X.w (upd H T (.tup [.int (i : Nat), x])) h'' T (.tup [.int (i : Nat), x]) :=
      ⟨by show 2 ≤ sizeLine; decide, [.int (0 + (i : Int)) t, u], .cons ⟨t, by rw [Int.zero_add]⟩ (.cons ru .nil), hT2⟩
    have I1 : Inv X pins σ (upd H T (.tup [.int (i : Nat), x])) { s with heap := h'', toks := tk } :=
      I.turnedNew (ch := [e, it]) (fun b ob hb q => hk' b ob hb (hk b ob hb q)) hf hT new
    refine ⟨.ref T, _, I1, rfl, ⟨T, x, rfl, I.hok.fresh hT, rfl, fun ys hy => by rw [I.tuple_inj hy hq]; exact hx⟩, ⟨?_, st'.2.1, hne⟩, fun b hb => ?_⟩
    · have e1 : (0 + ((i + 1 : Nat) : Int)) = 0 + ((i : Nat) : Int) + 1 := by omega
      exact st'.1
    · have hb' : b < s.heap.objs.size := by
        have e' : b = e ∨ b = it := by simpa using hb
        rcases e' with z | z
        · rw [z]; exact hel
        · rw [z]; exact hil
      rw [upd_ne (Nat.ne_of_lt (Nat.lt_of_lt_of_le hb' hT))]
      exact (hf b hb).1
  done := by
    intro X hP hw hK hc i pins s σ H E I hf st hg
    subst hP hw hK
    obtain ⟨⟨old, he⟩, hit, hne⟩ := st
    obtain ⟨xs, hq, hx⟩ := hg
    obtain ⟨its, rv, p, hz⟩ := I.tuple hq
    have pt : s.heap.IsTuple a its.toArray := p
    have ha : a ≠ it := by
      rintro rfl
      obtain ⟨o1, q1, c1, _⟩ := hit
      obtain ⟨o2, q2, c2, _⟩ := pt
      rw [q1] at q2; cases q2; rw [c1] at c2; exact absurd c2 (by decide)
    have hae : a ≠ e := by
      rintro rfl
      obtain ⟨o2, q2, c2, _⟩ := pt
      have he' : s.heap.get? a = some _ := he
      rw [he'] at q2; cases q2; exact absurd c2 (by simp)
    have Dr := Draws.tuple (prog := X.prog) (w := X.w) (A := X.A.in1) (I.ok.hd hc) it a ha its.toArray
    have W := WalksT.enumFrom 0 Dr e hne (by simp; exact ⟨hne, fun z => hae z.symm⟩) (by simp)
    have hi : i = its.toArray.size := by
      rw [List.size_toArray, ← rv.length]; exact hx.symm
    subst hi
    exact W.done s _ _ ⟨⟨old, he⟩, hit, pt⟩ fun h' tk hk => ⟨rfl, I.turnedL (t' := tk) (ch := [e, it]) hk hf⟩
  self := fun A i s Q E st h => let ⟨⟨_, he⟩, _⟩ := st; wpAny_pyIter_enum he h

/-! ### walks, by data -/
structure Wk (K : PySem.W.Frag) (J : L2.It) (S F0 : Hp) (ds : List D) : Prop where
  goes : ∀ i H, i < ds.length → Same S H → J.go i H
  stops : ∀ H, Same S H → J.stop ds.length H
  yld : ∀ i H x H', i < ds.length → Same S H → J.yld i H x H' → ∀ F, Same F0 F → Same F H → ∃ d F', ds[i]? = some d ∧ Ext F F' H H' ∧ Dq K F' x d
section
variable {K : PySem.W.Frag} {S F0 : Hp} {ds : List D} {a b : Addr} {xs ys : List V}
theorem Wk.down {J : L2.It} {S' : Hp} (w : Wk K J S F0 ds) (e : Same S S') : Wk K J S' F0 ds :=
  ⟨fun i H hi h => w.goes i H hi (e.trans h), fun H h => w.stops H (e.trans h), fun i H x H' hi h => w.yld i H x H' hi (e.trans h)⟩
theorem wk_list (h : Rd S a (.lst xs)) (q : DqAll K F0 xs ds) : Wk K (Itl K a) S F0 ds where
  goes := fun i H hi e => by
    rw [← q.length] at hi
    exact ⟨xs, xs[i], .inl (Same.rd e h), by simp [hi]⟩
  stops := fun H e => ⟨xs, .inl (Same.rd e h), by rw [q.length]; exact Nat.le_refl _⟩
  yld := fun i H x H' hi e y F eF s => by
    obtain ⟨rfl, hy⟩ := y
    obtain ⟨d, hd, dq⟩ := (q.up eF).get (hy xs (.inl (Same.rd e h)))
    exact ⟨d, F, hd, Ext.refl s, dq⟩
theorem wk_tup (h : SqT K S a xs) (q : DqAll K F0 xs ds) : Wk K (Itt K a) S F0 ds where
  goes := fun i H hi e => by
    rw [← q.length] at hi
    exact ⟨xs, xs[i], Same.sqT e h, by simp [hi]⟩
  stops := fun H e => ⟨xs, Same.sqT e h, by rw [q.length]; exact Nat.le_refl _⟩
  yld := fun i H x H' hi e y F eF s => by
    obtain ⟨rfl, hy⟩ := y
    obtain ⟨d, hd, dq⟩ := (q.up eF).get (hy xs (Same.sqT e h))
    exact ⟨d, F, hd, Ext.refl s, dq⟩
theorem wk_range {lo : Int} {n : Nat} : Wk K (Itr lo n) S F0 ((List.range n).map fun k => .int (lo + (k : Nat))) where
  goes := fun i H hi _ => by show i < n; simpa using hi
  stops := fun H _ => by simp [Itr]
  yld := fun i H x H' hi e y F eF s => by
    obtain ⟨rfl, rfl⟩ := y
    have hi : i < n := by simpa using hi
    exact ⟨.int (lo + i), F, by simp [hi], Ext.refl s, .int _⟩
theorem wk_rangeC {lo : Int} {n : Nat} : Wk K (Itc lo (-1) n) S F0 ((List.range n).map fun k => .int (lo - (k : Nat))) where
  goes := fun i H hi _ => by show i < n; simpa using hi
  stops := fun H _ => by simp [Itc]
  yld := fun i H x H' hi e y F eF s => by
    obtain ⟨rfl, rfl⟩ := y
    have hi : i < n := by simpa using hi
    refine ⟨.int (lo - i), F, by simp [hi], Ext.refl s, ?_⟩
    have : lo + (i : Int) * (-1) = lo - i := by omega
    rw [this]
    exact .int _
theorem enumD_get : ∀ (ds : List D) (n : Int) (i : Nat), (enumD n ds)[i]? = (ds[i]?).map fun d => .tuple [.int (n + i), d]
  | [], n, i => by simp [enumD]
  | d :: ds, n, 0 => by simp [enumD]
  | d :: ds, n, i + 1 => by
    simp only [enumD, List.getElem?_cons_succ, enumD_get ds (n + 1) i]
    have : n + 1 + (i : Int) = n + ((i + 1 : Nat) : Int) := by omega
    rw [this]
theorem enumD_length : ∀ (ds : List D) (n : Int), (enumD n ds).length = ds.length
  | [], _ => rfl
  | d :: ds, n => by simp [enumD, enumD_length ds (n + 1)]
/-- a new pair -/
theorem pair_new {F H : Hp} {T : Addr} {x y : V} {dx dy : D} (s : Same F H) (hT : H T = none) (qx : Dq K F x dx) (qy : Dq K F y dy) : ∃ F', Ext F F' H (upd H T (.tup [x, y])) ∧ Dq K F' (.ref T) (.tuple [dx, dy]) := by
  have e := Ext.laid (o := .tup [x, y]) s hT
  exact ⟨_, e, .tup (.inl (.inl upd_same)) (.cons (qx.up e.f) (.cons (qy.up e.f) .nil))⟩
theorem wk_enumL (h : Rd S a (.lst xs)) (q : DqAll K F0 xs ds) : Wk K (Ite K a) S F0 (enumD 0 ds) where
  goes := fun i H hi e => by
    rw [enumD_length, ← q.length] at hi
    exact ⟨xs, xs[i], .inl (Same.rd e h), by simp [hi]⟩
  stops := fun H e => ⟨xs, .inl (Same.rd e h), by rw [q.length, enumD_length]; exact Nat.le_refl _⟩
  yld := fun i H v H' hi e y F eF s => by
    obtain ⟨T, x, rfl, hT, rfl, hy⟩ := y
    obtain ⟨d, hd, dq⟩ := (q.up eF).get (hy xs (.inl (Same.rd e h)))
    obtain ⟨F', x', z⟩ := pair_new (x := .int (i : Nat)) s hT (.int _) dq
    exact ⟨_, F', by rw [enumD_get, hd]; simp only [Option.map_some, Int.zero_add], x', z⟩
theorem wk_enumT (h : SqT K S a xs) (q : DqAll K F0 xs ds) : Wk K (IteT K a) S F0 (enumD 0 ds) where
  goes := fun i H hi e => by
    rw [enumD_length, ← q.length] at hi
    exact ⟨xs, xs[i], Same.sqT e h, by simp [hi]⟩
  stops := fun H e => ⟨xs, Same.sqT e h, by rw [q.length, enumD_length]⟩
  yld := fun i H v H' hi e y F eF s => by
    obtain ⟨T, x, rfl, hT, rfl, hy⟩ := y
    obtain ⟨d, hd, dq⟩ := (q.up eF).get (hy xs (Same.sqT e h))
    obtain ⟨F', x', z⟩ := pair_new (x := .int (i : Nat)) s hT (.int _) dq
    exact ⟨_, F', by rw [enumD_get, hd]; simp only [Option.map_some, Int.zero_add], x', z⟩
theorem zipD_get : ∀ (ds es : List D) (i : Nat) (d e : D), ds[i]? = some d → es[i]? = some e → (zipD ds es)[i]? = some (.tuple [d, e])
  | [], _, _, _, _, h, _ => by simp at h
  | _ :: _, [], _, _, _, _, h => by simp at h
  | x :: ds, y :: es, 0, d, e, h1, h2 => by simp at h1 h2; subst h1 h2; rfl
  | x :: ds, y :: es, i + 1, d, e, h1, h2 => by
    simp only [zipD, List.getElem?_cons_succ] at h1 h2 ⊢
    exact zipD_get ds es i d e h1 h2
theorem zipD_length : ∀ ds es : List D, (zipD ds es).length = min ds.length es.length
  | [], _ => by simp [zipD]
  | _ :: _, [] => by simp [zipD]
  | x :: ds, y :: es => by simp only [zipD, List.length_cons, zipD_length ds es]; omega
theorem wk_zipL {es : List D} (h : Rd S a (.lst xs)) (h2 : Rd S b (.lst ys)) (q : DqAll K F0 xs ds) (q2 : DqAll K F0 ys es) : Wk K (Itz K a b) S F0 (zipD ds es) where
  goes := fun i H hi e => by
    rw [zipD_length, ← q.length, ← q2.length] at hi
    have i1 : i < xs.length := by omega
    have i2 : i < ys.length := by omega
    exact ⟨xs, ys, xs[i], ys[i], .inl (Same.rd e h), .inl (Same.rd e h2), by simp [i1], by simp [i2]⟩
  stops := fun H e => ⟨xs, ys, .inl (Same.rd e h), .inl (Same.rd e h2), by rw [q.length, q2.length, zipD_length]; omega⟩
  yld := fun i H v H' hi e y F eF s => by
    obtain ⟨T, x, z, rfl, hT, rfl, hy, hy2⟩ := y
    obtain ⟨d, hd, dq⟩ := (q.up eF).get (hy xs (.inl (Same.rd e h)))
    obtain ⟨d2, hd2, dq2⟩ := (q2.up eF).get (hy2 ys (.inl (Same.rd e h2)))
    obtain ⟨F', x', z⟩ := pair_new s hT dq dq2
    exact ⟨_, F', zipD_get _ _ _ _ _ hd hd2, x', z⟩
theorem wk_zipT {es : List D} (h : SqT K S a xs) (h2 : SqT K S b ys) (q : DqAll K F0 xs ds) (q2 : DqAll K F0 ys es) : Wk K (RZ.ItzT K a b) S F0 (zipD ds es) where
  goes := fun i H hi e => by
    rw [zipD_length, ← q.length, ← q2.length] at hi
    have i1 : i < xs.length := by omega
    have i2 : i < ys.length := by omega
    exact ⟨xs, ys, xs[i], ys[i], Same.sqT e h, Same.sqT e h2, by simp [i1], by simp [i2]⟩
  stops := fun H e => ⟨xs, ys, Same.sqT e h, Same.sqT e h2, by rw [q.length, q2.length, zipD_length]; omega⟩
  yld := fun i H v H' hi e y F eF s => by
    obtain ⟨T, x, z, rfl, hT, rfl, hy, hy2⟩ := y
    obtain ⟨d, hd, dq⟩ := (q.up eF).get (hy xs (Same.sqT e h))
    obtain ⟨d2, hd2, dq2⟩ := (q2.up eF).get (hy2 ys (Same.sqT e h2))
    obtain ⟨F', x', z⟩ := pair_new s hT dq dq2
    exact ⟨_, F', zipD_get _ _ _ _ _ hd hd2, x', z⟩
end

/-! ### what is walked -/
def itm (d : D) : Res (List D) := match items d with
  | some xs => .ok xs
  | none => .bad
/-- pk: the walked thing may be this def's own (a comprehension's source) -/
def okI (K : PySem.W.Frag) (pk : Bool) (R : L2.It → Hp → Prop) : Hp → Hp → List D → Prop := fun F H ds => ∀ J H' F', Ext F F' H H' → Wk K J (if pk then H' else F') F' ds → R J H'
theorem mnI {K : PySem.W.Frag} {pk : Bool} {R : L2.It → Hp → Prop} : Mn (okI K pk R) := fun _ _ _ _ _ x h J H' F' y q => h J H' F' (x.trans y) q
def tI (K : PySem.W.Frag) (W : WN) (pk : Bool) (f : Env → Res (List D)) : TI := fun σ H R => ∃ F env, RE K F H σ env ∧ rs W σ F H (okI K pk R) (f env)
theorem nx_itm (d : D) : NoEx (itm d) := by
  unfold itm
  split
  · exact NoEx.ok _
  · exact NoEx.bad
section
variable {X : Cx} {W : WN} {e a b c tg : Expr} {pos p : Pos} {f g h : Env → Res D}
theorem PI.weak {wi wi' : TI} {iter : Expr} (h : PI X tg iter wi) (w : ∀ σ H R, wi' σ H R → wi σ H R) : PI X tg iter wi' := ⟨fun pins s σ H R I q => h.run pins s σ H R I (w _ _ _ q)⟩
/-- frozen is enough for both -/
theorem Wk.any {K : PySem.W.Frag} {J : L2.It} {F H : Hp} {ds : List D} {pk : Bool} (w : Wk K J F F ds) (s : Same F H) : Wk K J (if pk = true then H else F) F ds := by
  cases pk
  · exact w
  · exact w.down s
def iSeq (K : PySem.W.Frag) (te : TE) : TI := fun σ H R => te σ H fun x H1 => ∃ a, x = .ref a ∧ ((∃ xs, SqL K H1 a xs ∧ R (Itl K a) H1) ∨ (∃ xs, SqT K H1 a xs ∧ R (Itt K a) H1))
theorem pi_seq {te : TE} (he : PE X e te) : PI X tg e (iSeq X.K te) := by
  refine ⟨fun pins s σ H R I h => ?_⟩
  refine thn (he.run pins s σ H _ I h) fun v s1 ⟨x, H1, I1, r1, a, ex, q1⟩ => ?_
  subst ex
  cases r1
  rcases q1 with ⟨xs, hq, q⟩ | ⟨xs, hq, q⟩
  · obtain ⟨its, rv, p, hz⟩ := I1.list hq
    exact wpAny_pyIter_list p.isList (pi_one (tk := s1.toks) I1 _ (turn_list a _) ⟨_, Heap.get?_push_size _ rfl, rfl, rfl⟩ q)
  · obtain ⟨its, rv, p, hz⟩ := I1.tuple hq
    exact wpAny_pyIter_tuple (show s1.heap.IsTuple a its.toArray from p) (pi_one (tk := s1.toks) I1 _ (turn_tuple a _) ⟨_, Heap.get?_push_size _ rfl, rfl, rfl⟩ q)
theorem goM {β : Type} {okb : Hp → Hp → β → Prop} {F H : Hp} {σ : L2.St} {d : D} {k : List D → Res β} (h : rs W σ F H okb (itm d >>= k)) : ∃ xs, items d = some xs ∧ rs W σ F H okb (k xs) := by
  unfold itm at h
  cases q : items d with
  | some xs => rw [q] at h; exact ⟨xs, rfl, h⟩
  | none => rw [q] at h; exact h.elim
theorem items_list {d : D} {xs : List D} (h : items d = some xs) : d = .list xs ∨ d = .tuple xs := by
  cases d <;> simp [items] at h <;> subst h
  · exact .inl rfl
  · exact .inr rfl
theorem bind_pure' {α : Type} (x : Res α) : (x >>= fun a => Res.ok a) = x := by cases x <;> rfl
theorem i_E (ha : PE X e (tE X.K W f)) {pk : Bool} : PI X tg e (tI X.K W pk fun σ => do let d ← f σ; itm d) :=
  PI.weak (pi_seq ha) fun σ H R ⟨F, env, RR, h⟩ => goE mnI RR h fun d v F1 H1 _ x1 R1 p1 h1 => by
    rw [← bind_pure' (itm d)] at h1
    obtain ⟨xs, hx, h2⟩ := goM h1
    rcases items_list hx with rfl | rfl
    · cases p1 with
      | lst z1 z2 => exact ⟨_, rfl, .inl ⟨_, .inl (Same.rd x1.sub z1), h2 _ H1 F1 (Ext.refl x1.sub) ((wk_list z1 z2).any x1.sub)⟩⟩
    · cases p1 with
      | tup z1 z2 => exact ⟨_, rfl, .inr ⟨_, Same.sqT x1.sub z1, h2 _ H1 F1 (Ext.refl x1.sub) ((wk_tup z1 z2).any x1.sub)⟩⟩
theorem i_P (ha : PE X e (tP X.K W f)) : PI X tg e (tI X.K W true fun σ => do let d ← f σ; itm d) :=
  PI.weak (pi_seq ha) fun σ H R ⟨F, env, RR, h⟩ => goP mnI RR h fun d v F1 H1 _ x1 R1 p1 h1 => by
    rw [← bind_pure' (itm d)] at h1
    obtain ⟨xs, hx, h2⟩ := goM h1
    rcases items_list hx with rfl | rfl
    · obtain ⟨l, vs, rfl, z1, z2⟩ := p1.lst x1.sub
      exact ⟨_, rfl, .inl ⟨_, .inl z1, h2 _ H1 F1 (Ext.refl x1.sub) (wk_list z1 z2)⟩⟩
    · obtain ⟨l, vs, rfl, z1, z2⟩ := p1.tup x1.sub
      exact ⟨_, rfl, .inr ⟨_, z1, h2 _ H1 F1 (Ext.refl x1.sub) (wk_tup z1 z2)⟩⟩
/-! ### ranges -/
theorem rngD_ok {x y z d : D} (h : rngD x y z = .ok d) : ∃ i j s, x = .int i ∧ y = .int j ∧ z = .int s ∧ (-(2 ^ 62) ≤ i ∧ i < 2 ^ 62 ∧ -(2 ^ 62) ≤ j ∧ j < 2 ^ 62) ∧
    ((s = 1 ∧ d = .list ((List.range (j - i).toNat).map fun k => .int (i + (k : Nat)))) ∨ (s = -1 ∧ d = .list ((List.range (i - j).toNat).map fun k => .int (i - (k : Nat))))) := by
  unfold rngD at h
  obtain ⟨i, e1, h⟩ := bind_ok h
  obtain ⟨j, e2, h⟩ := bind_ok h
  obtain ⟨s, e3, h⟩ := bind_ok h
  refine ⟨i, j, s, asInt_ok e1, asInt_ok e2, asInt_ok e3, ?_⟩
  dsimp only at h
  by_cases hs : s = 1
  · rw [if_pos hs] at h
    obtain ⟨hz, rfl⟩ := ite_okb h
    simp only [Bool.and_eq_true, decide_eq_true_eq] at hz
    exact ⟨⟨hz.1.1.1, hz.1.1.2, hz.1.2, hz.2⟩, .inl ⟨hs, rfl⟩⟩
  · rw [if_neg hs] at h
    by_cases hs2 : s = -1
    · rw [if_pos hs2] at h
      obtain ⟨hz, rfl⟩ := ite_okb h
      simp only [Bool.and_eq_true, decide_eq_true_eq] at hz
      exact ⟨⟨hz.1.1.1, hz.1.1.2, hz.1.2, hz.2⟩, .inr ⟨hs2, rfl⟩⟩
    · rw [if_neg hs2] at h; cases h
theorem nx_rngD (x y z : D) : NoEx (rngD x y z) := by
  unfold rngD
  refine NoEx.bind (nx_asInt _) fun _ => NoEx.bind (nx_asInt _) fun _ => NoEx.bind (nx_asInt _) fun _ => ?_
  exact NoEx.ite (NoEx.ite (NoEx.ok _) NoEx.bad) (NoEx.ite (NoEx.ite (NoEx.ok _) NoEx.bad) NoEx.bad)
theorem goR {β : Type} {okb : Hp → Hp → β → Prop} {F H : Hp} {σ : L2.St} {x y z : D} {k : D → Res β} (h : rs W σ F H okb (rngD x y z >>= k)) : ∃ d, rngD x y z = .ok d ∧ rs W σ F H okb (k d) := by
  cases q : rngD x y z with
  | ok d => rw [q] at h; exact ⟨d, rfl, h⟩
  | ex c => exact absurd q (nx_rngD _ _ _ c)
  | bad => rw [q] at h; exact h.elim
theorem i_range1 {pk : Bool} (hg : Gl X "range") (hm : X.mg "range" = none) (ha : PE X a (tP X.K W f)) (hs : starEach [a] X.env = [(false, eval a X.env)]) :
    PI X tg (.Call (.Name "range" p) [a] [] pos) (tI X.K W pk fun σ => do let y ← f σ; let d ← rngD (.int 0) y (.int 1); itm d) :=
  PI.weak (pi_range1 hg hm (pa_cons ha pa_nil hs) hs) fun σ H R ⟨F, env, RR, h⟩ => goP mnI RR h fun d v F1 H1 _ x1 R1 p1 h1 => by
    obtain ⟨r, e, h2⟩ := goR h1
    obtain ⟨i, j, s, e1, rfl, e3, hz, hd⟩ := rngD_ok e
    cases e1; cases e3
    cases p1.int
    rcases hd with ⟨_, rfl⟩ | ⟨e, _⟩
    · refine ⟨j, rfl, hz.2.2.1, hz.2.2.2, ?_⟩
      rw [show (j - 0).toNat = j.toNat by omega] at h2
      exact h2 _ H1 F1 (Ext.refl x1.sub) (wk_range.any x1.sub)
    · exact absurd e (by decide)
theorem i_range2 {pk : Bool} (hg : Gl X "range") (hm : X.mg "range" = none) (ha : PE X a (tP X.K W f)) (hb : PE X b (tP X.K W g)) (hs : starEach [a, b] X.env = [(false, eval a X.env), (false, eval b X.env)]) (hs2 : starEach [b] X.env = [(false, eval b X.env)]) :
    PI X tg (.Call (.Name "range" p) [a, b] [] pos) (tI X.K W pk fun σ => do let x ← f σ; let y ← g σ; let d ← rngD x y (.int 1); itm d) :=
  PI.weak (pi_range2 hg hm (pa_cons ha (pa_cons hb pa_nil hs2) (by rw [hs, hs2])) hs hs2) fun σ H R ⟨F, env, RR, h⟩ => goP mnI RR h fun d v F1 H1 _ x1 R1 p1 h1 => goP mnI R1 h1 fun d2 v2 F2 H2 _ x2 R2 p2 h2 => by
    obtain ⟨r, e, h3⟩ := goR h2
    obtain ⟨i, j, s, rfl, rfl, e3, hz, hd⟩ := rngD_ok e
    cases e3
    cases p1.int
    cases p2.int
    rcases hd with ⟨_, rfl⟩ | ⟨e, _⟩
    · exact ⟨i, j, rfl, hz, h3 _ H2 F2 (Ext.refl x2.sub) (wk_range.any x2.sub)⟩
    · exact absurd e (by decide)
theorem i_range3 {pk : Bool} (hg : Gl X "range") (hm : X.mg "range" = none) (ha : PE X a (tP X.K W f)) (hb : PE X b (tP X.K W g)) (hc : PE X c (tP X.K W h)) (hs : starEach [a, b, c] X.env = (false, eval a X.env) :: starEach [b, c] X.env) (hs2 : starEach [b, c] X.env = (false, eval b X.env) :: starEach [c] X.env) (hs3 : starEach [c] X.env = (false, eval c X.env) :: starEach [] X.env)
    (hpl : (backTo pos (starEach [b, c] X.env)).any (·.1) = false) :
    PI X tg (.Call (.Name "range" p) [a, b, c] [] pos) (tI X.K W pk fun σ => do let x ← f σ; let y ← g σ; let z ← h σ; let d ← rngD x y z; match z with | .int (-1) => itm d | _ => .bad) :=
  PI.weak (pi_range3 hg hm (pa_cons ha (pa_cons hb (pa_cons hc pa_nil hs3) hs2) hs) hs hpl) fun σ H R ⟨F, env, RR, h⟩ => goP mnI RR h fun d v F1 H1 _ x1 R1 p1 h1 => goP mnI R1 h1 fun d2 v2 F2 H2 _ x2 R2 p2 h2 => goP mnI R2 h2 fun d3 v3 F3 H3 _ x3 R3 p3 h3 => by
    obtain ⟨r, e, h4⟩ := goR h3
    obtain ⟨i, j, s, rfl, rfl, rfl, hz, hd⟩ := rngD_ok e
    cases p1.int
    cases p2.int
    cases p3.int
    rcases hd with ⟨rfl, rfl⟩ | ⟨rfl, rfl⟩
    · exact h4.elim
    · exact ⟨i, j, -1, (i - j).toNat, rfl, RgC.neg hz.1 hz.2.1 hz.2.2.1 hz.2.2.2, h4 _ H3 F3 (Ext.refl x3.sub) (wk_rangeC.any x3.sub)⟩
/-! ### enumerate, zip -/
def iEnumA (K : PySem.W.Frag) (ta : TA) : TI := fun σ H R => ta σ H fun vs H1 => ∃ a, vs = [.ref a] ∧ ((∃ xs, SqL K H1 a xs ∧ R (Ite K a) H1) ∨ (∃ xs, SqT K H1 a xs ∧ R (IteT K a) H1))
theorem pi_enumA {ta : TA} {tpos : Pos} {elts : List Expr} {kk : Nat} (hg : Gl X "enumerate") (hm : X.mg "enumerate" = none) (ha : PA X [e] ta) (hs : starEach [e] X.env = [(false, eval e X.env)]) :
    PI X (.Tuple elts kk tpos) (.Call (.Name "enumerate" p) [e] [] pos) (iEnumA X.K ta) := by
  refine ⟨fun pins s σ H R I h => ?_⟩
  refine Call_ (ld_blt I hg hm boot_enumerate (PyProof.Rows.callWith_type1 (thn (ha.run pos pins s σ H _ I h) fun us s1 ⟨vs, H1, I1, r1, q1⟩ => ?_) hs rfl))
  obtain ⟨a, ex, q⟩ := q1
  subst ex
  have hf : ∀ b, b ∈ [s1.heap.objs.size + 1, s1.heap.objs.size] → FpOk X pins H1 b := fun b hb => by
    have e' : b = s1.heap.objs.size + 1 ∨ b = s1.heap.objs.size := by simpa using hb
    have hle : s1.heap.objs.size ≤ b := by
      rcases e' with z | z
      · rw [z]; exact Nat.le_add_right _ _
      · rw [z]; exact Nat.le_refl _
    exact I1.fpOk hle (I1.hok.fresh hle)
  cases r1 with
  | cons r rr =>
    cases rr
    cases r
    rcases q with ⟨xs, hq, q⟩ | ⟨xs, hq, q⟩
    · obtain ⟨its, rv, p', hz⟩ := I1.list hq
      refine call_enumerate_list p'.isList fun h' he hit hsz hk => wpAny_pyIter_enum he ?_
      have I2 : Inv X pins σ H1 { s1 with heap := h' } := I1.kept (t' := s1.toks) hk
      exact ⟨s1.heap.objs.size + 1, [s1.heap.objs.size + 1, s1.heap.objs.size], _, _, H1, rfl, I2, turn_enum a (s1.heap.objs.size + 1) s1.heap.objs.size, ⟨⟨.none, he⟩, hit, Nat.succ_ne_self _⟩, hf, q⟩
    · obtain ⟨its, rv, p', hz⟩ := I1.tuple hq
      refine call_enumT (show s1.heap.IsTuple a its.toArray from p') fun h' he hit hk => wpAny_pyIter_enum he ?_
      have I2 : Inv X pins σ H1 { s1 with heap := h' } := I1.kept (t' := s1.toks) hk
      exact ⟨s1.heap.objs.size + 1, [s1.heap.objs.size + 1, s1.heap.objs.size], _, _, H1, rfl, I2, turn_enumT a (s1.heap.objs.size + 1) s1.heap.objs.size, ⟨⟨.none, he⟩, hit, Nat.succ_ne_self _⟩, hf, q⟩
theorem i_enum {tpos : Pos} {elts : List Expr} {kk : Nat} (hg : Gl X "enumerate") (hm : X.mg "enumerate" = none) (ha : PE X a (tE X.K W f)) {pk : Bool} (hs : starEach [a] X.env = [(false, eval a X.env)]) :
    PI X (.Tuple elts kk tpos) (.Call (.Name "enumerate" p) [a] [] pos) (tI X.K W pk fun σ => do let x ← f σ; let xs ← itm x; .ok (enumD 0 xs)) :=
  PI.weak (pi_enumA hg hm (pa_cons ha pa_nil hs) hs) fun σ H R ⟨F, env, RR, h⟩ => goE mnI RR h fun d v F1 H1 _ x1 R1 p1 h1 => by
    obtain ⟨xs, hx, h2⟩ := goM h1
    rcases items_list hx with rfl | rfl
    · cases p1 with
      | lst z1 z2 => exact ⟨_, rfl, .inl ⟨_, .inl (Same.rd x1.sub z1), h2 _ H1 F1 (Ext.refl x1.sub) ((wk_enumL z1 z2).any x1.sub)⟩⟩
    · cases p1 with
      | tup z1 z2 => exact ⟨_, rfl, .inr ⟨_, Same.sqT x1.sub z1, h2 _ H1 F1 (Ext.refl x1.sub) ((wk_enumT z1 z2).any x1.sub)⟩⟩
theorem i_enumP {tpos : Pos} {elts : List Expr} {kk : Nat} (hg : Gl X "enumerate") (hm : X.mg "enumerate" = none) (ha : PE X a (tP X.K W f)) (hs : starEach [a] X.env = [(false, eval a X.env)]) :
    PI X (.Tuple elts kk tpos) (.Call (.Name "enumerate" p) [a] [] pos) (tI X.K W true fun σ => do let x ← f σ; let xs ← itm x; .ok (enumD 0 xs)) :=
  PI.weak (pi_enumA hg hm (pa_cons ha pa_nil hs) hs) fun σ H R ⟨F, env, RR, h⟩ => goP mnI RR h fun d v F1 H1 _ x1 R1 p1 h1 => by
    obtain ⟨xs, hx, h2⟩ := goM h1
    rcases items_list hx with rfl | rfl
    · obtain ⟨l, vs, rfl, z1, z2⟩ := p1.lst x1.sub
      exact ⟨_, rfl, .inl ⟨_, .inl z1, h2 _ H1 F1 (Ext.refl x1.sub) (wk_enumL z1 z2)⟩⟩
    · obtain ⟨l, vs, rfl, z1, z2⟩ := p1.tup x1.sub
      exact ⟨_, rfl, .inr ⟨_, z1, h2 _ H1 F1 (Ext.refl x1.sub) (wk_enumT z1 z2)⟩⟩
def zpD (x y : D) : Res (List D) := match x, y with
  | .list xs, .list ys => .ok (zipD xs ys)
  | .tuple xs, .tuple ys => .ok (zipD xs ys)
  | _, _ => .bad
theorem nx_zpD (x y : D) : NoEx (zpD x y) := by
  unfold zpD
  split <;> first | exact NoEx.ok _ | exact NoEx.bad
theorem i_zip {tpos : Pos} {elts : List Expr} {kk : Nat} {pk : Bool} (hg : Gl X "zip") (hm : X.mg "zip" = none) (ha : PE X a (tE X.K W f)) (hb : PE X b (tE X.K W g)) (hs : starEach [a, b] X.env = (false, eval a X.env) :: starEach [b] X.env) (hs2 : starEach [b] X.env = (false, eval b X.env) :: starEach [] X.env) (hpl : (backTo pos (starEach [b] X.env)).any (·.1) = false) :
    PI X (.Tuple elts kk tpos) (.Call (.Name "zip" p) [a, b] [] pos) (tI X.K W pk fun σ => do let x ← f σ; let y ← g σ; zpD x y) :=
  PI.weak (RZ.pi_zipA hg hm (pa_cons ha (pa_cons hb pa_nil hs2) hs) hs hpl) fun σ H R ⟨F, env, RR, h⟩ => goE mnI RR h fun d v F1 H1 _ x1 R1 p1 h1 => goE mnI R1 h1 fun d2 v2 F2 H2 _ x2 R2 p2 h2 => by
    obtain ⟨r, e, h3⟩ := h2.noex (nx_zpD _ _)
    unfold zpD at e
    split at e
    · cases e
      cases p1 with
      | lst z1 z2 => cases p2 with
        | lst z3 z4 => exact ⟨_, _, _, _, rfl, .inl ⟨.inl (Same.rd x2.sub (Same.rd x2.f z1)), .inl (Same.rd x2.sub z3), h3 _ H2 F2 (Ext.refl x2.sub) ((wk_zipL (Same.rd x2.f z1) z3 (z2.up x2.f) z4).any x2.sub)⟩⟩
    · cases e
      cases p1 with
      | tup z1 z2 => cases p2 with
        | tup z3 z4 => exact ⟨_, _, _, _, rfl, .inr ⟨Same.sqT x2.sub (Same.sqT x2.f z1), Same.sqT x2.sub z3, h3 _ H2 F2 (Ext.refl x2.sub) ((wk_zipT (Same.sqT x2.f z1) z3 (z2.up x2.f) z4).any x2.sub)⟩⟩
    · cases e
theorem i_zipP {tpos : Pos} {elts : List Expr} {kk : Nat} (hg : Gl X "zip") (hm : X.mg "zip" = none) (ha : PE X a (tP X.K W f)) (hb : PE X b (tP X.K W g)) (hs : starEach [a, b] X.env = (false, eval a X.env) :: starEach [b] X.env) (hs2 : starEach [b] X.env = (false, eval b X.env) :: starEach [] X.env) (hpl : (backTo pos (starEach [b] X.env)).any (·.1) = false) :
    PI X (.Tuple elts kk tpos) (.Call (.Name "zip" p) [a, b] [] pos) (tI X.K W true fun σ => do let x ← f σ; let y ← g σ; zpD x y) :=
  PI.weak (RZ.pi_zipA hg hm (pa_cons ha (pa_cons hb pa_nil hs2) hs) hs hpl) fun σ H R ⟨F, env, RR, h⟩ => goP mnI RR h fun d v F1 H1 _ x1 R1 p1 h1 => goP mnI R1 h1 fun d2 v2 F2 H2 _ x2 R2 p2 h2 => by
    obtain ⟨r, e, h3⟩ := h2.noex (nx_zpD _ _)
    unfold zpD at e
    split at e
    · cases e
      obtain ⟨l, vs, rfl, z1, z2⟩ := (p1.ext x2).lst x2.sub
      obtain ⟨l2, vs2, rfl, z3, z4⟩ := p2.lst x2.sub
      exact ⟨_, _, _, _, rfl, .inl ⟨.inl z1, .inl z3, h3 _ H2 F2 (Ext.refl x2.sub) (wk_zipL z1 z3 z2 z4)⟩⟩
    · cases e
      obtain ⟨l, vs, rfl, z1, z2⟩ := (p1.ext x2).tup x2.sub
      obtain ⟨l2, vs2, rfl, z3, z4⟩ := p2.tup x2.sub
      exact ⟨_, _, _, _, rfl, .inr ⟨z1, z3, h3 _ H2 F2 (Ext.refl x2.sub) (wk_zipT z1 z3 z2 z4)⟩⟩
    · cases e
end
end BW

namespace BW
open PySem PySem.W L2 PySem.Spec PyProof.Rows
/-! ### slots that are set -/
theorem getS_set {env : Env} {i j : Nat} {s : Sl} : getS (setS env i s) j = if i = j ∧ i < env.length then s else getS env j := by
  unfold getS setS
  simp only [List.getD_eq_getElem?_getD, List.getElem?_set]
  by_cases h : i = j
  · subst h
    by_cases h2 : i < env.length
    · simp [h2]
    · simp [h2, List.getElem?_eq_none (Nat.le_of_not_lt h2)]
  · simp [h]
theorem RE.set {K : PySem.W.Frag} {F H : Hp} {σ : L2.St} {env : Env} (R : RE K F H σ env) (i : Nat) {v : V} {s : Sl} (q : SlotOk K F H (some (some v)) s) : RE K F H (σ.set i (some v)) (setS env i s) := by
  refine ⟨R.sub, by simp [setS, R.len], fun j => ?_⟩
  rw [getS_set]
  by_cases h : i = j ∧ i < env.length
  · obtain ⟨rfl, h2⟩ := h
    rw [if_pos ⟨rfl, h2⟩, List.getElem?_set_self (by rw [← R.len]; exact h2)]
    exact q
  · rw [if_neg h]
    by_cases e : i = j
    · subst e
      have h2 : ¬ i < env.length := fun z => h ⟨rfl, z⟩
      have : getS env i = .un := by unfold getS; rw [List.getD_eq_getElem?_getD, List.getElem?_eq_none (Nat.le_of_not_lt h2)]; rfl
      rw [this]; trivial
    · rw [List.getElem?_set_ne e]; exact R.slot j
theorem RE.un {K : PySem.W.Frag} {F H : Hp} {σ : L2.St} {env : Env} (R : RE K F H σ env) (i : Nat) (o : Option V) : RE K F H (σ.set i o) (setS env i .un) := by
  refine ⟨R.sub, by simp [setS, R.len], fun j => ?_⟩
  rw [getS_set]
  by_cases h : i = j ∧ i < env.length
  · rw [if_pos h]; trivial
  · rw [if_neg h]
    by_cases e : i = j
    · subst e
      have h2 : ¬ i < env.length := fun z => h ⟨rfl, z⟩
      have : getS env i = .un := by unfold getS; rw [List.getD_eq_getElem?_getD, List.getElem?_eq_none (Nat.le_of_not_lt h2)]; rfl
      rw [this]; trivial
    · rw [List.getElem?_set_ne e]; exact R.slot j
theorem RE.wipe {K : PySem.W.Frag} {F H : Hp} {σ : L2.St} {env : Env} (R : RE K F H σ env) : ∀ vs : List Nat, RE K F H (L2.wipe σ vs) (wipeS env vs)
  | [] => R
  | i :: vs => (R.wipe vs).un i none
/-- changed at these slots only -/
def Chg (l : List Nat) (σ σ' : L2.St) : Prop := σ'.length = σ.length ∧ ∀ i, i ∉ l → σ'[i]? = σ[i]?
theorem Chg.refl {l : List Nat} {σ : L2.St} : Chg l σ σ := ⟨rfl, fun _ _ => rfl⟩
theorem Chg.trans {l : List Nat} {σ σ' σ'' : L2.St} (a : Chg l σ σ') (b : Chg l σ' σ'') : Chg l σ σ'' := ⟨b.1.trans a.1, fun i h => (b.2 i h).trans (a.2 i h)⟩
theorem Chg.mono {l m : List Nat} {σ σ' : L2.St} (a : Chg l σ σ') (h : ∀ i ∈ l, i ∈ m) : Chg m σ σ' := ⟨a.1, fun i n => a.2 i fun z => n (h i z)⟩
theorem wipe_in {σ : L2.St} {i : Nat} : ∀ {vs : List Nat}, i ∈ vs → (L2.wipe σ vs)[i]? = if i < σ.length then some none else none
  | v :: vs, h => by
    unfold L2.wipe
    by_cases e : v = i
    · subst e
      by_cases z : v < σ.length
      · rw [if_pos z, List.getElem?_set_self (by rw [wipe_length]; exact z)]
      · rw [if_neg z, List.getElem?_eq_none (by rw [List.length_set, wipe_length]; exact Nat.le_of_not_lt z)]
    · rw [List.getElem?_set_ne e]
      rcases List.mem_cons.mp h with h | h
      · exact absurd h.symm e
      · exact wipe_in h
theorem Chg.wipe {vs : List Nat} {σ σ' : L2.St} (a : Chg vs σ σ') : L2.wipe σ' vs = L2.wipe σ vs := by
  apply List.ext_getElem?
  intro i
  by_cases h : i ∈ vs
  · rw [wipe_in h, wipe_in h, a.1]
  · rw [wipe_out h, wipe_out h, a.2 i h]
theorem wipe_chg (vs : List Nat) (σ : L2.St) : Chg vs σ (L2.wipe σ vs) := ⟨wipe_length σ vs, fun i h => wipe_out h⟩
theorem wipe_wipe (vs : List Nat) (σ : L2.St) : L2.wipe (L2.wipe σ vs) vs = L2.wipe σ vs := (wipe_chg vs σ).wipe

/-! ### targets -/
mutual
def Tg.sl : Tg → List Nat
  | .n i => [i]
  | .t ts => Tg.sls ts
def Tg.sls : List Tg → List Nat
  | [] => []
  | a :: ts => a.sl ++ Tg.sls ts
end
def tG (K : PySem.W.Frag) (T : Tg) : TG := fun v σ H Q => ∃ F env d env', RE K F H σ env ∧ Dq K F v d ∧ bindT T d env = .ok env' ∧ ∀ σ', RE K F H σ' env' → Chg T.sl σ σ' → Q σ' H
def tGs (K : PySem.W.Frag) (Ts : List Tg) : TGs := fun vs σ H Q => ∃ F env ds env', RE K F H σ env ∧ DqAll K F vs ds ∧ bindTs Ts ds env = .ok env' ∧ ∀ σ', RE K F H σ' env' → Chg (Tg.sls Ts) σ σ' → Q σ' H
section
variable {X : Cx} {W : WN} {pos : Pos} {e : Expr} {es : List Expr}
theorem PG.weak {t t' : TG} (h : PG X e t) (w : ∀ v σ H Q, t' v σ H Q → t v σ H Q) : PG X e t' := ⟨fun pins s σ H v u Q I r q => h.run pins s σ H v u Q I r (w _ _ _ _ q)⟩
theorem PGs.weak {t t' : TGs} (h : PGs X es t) (w : ∀ v σ H Q, t' v σ H Q → t v σ H Q) : PGs X es t' := ⟨fun pins s σ H v u Q I r q => h.run pins s σ H v u Q I r (w _ _ _ _ q)⟩
theorem g_n {i : Nat} {x : Str} (hN : X.N.Nodup) (hi : X.N[i]? = some x) (hx : Loc X.env.scope x) (hf : X.fn x = true ∨ X.env.scope.names.lookup x = some .local) : PG X (.Name x pos) (tG X.K (.n i)) :=
  PG.weak (pg_name hN hi hx hf) fun v σ H Q ⟨F, env, d, env', R, q, e, h⟩ => by
    cases e
    exact h _ (R.set i ⟨v, rfl, q⟩) ⟨by simp, fun j hj => by rw [List.getElem?_set_ne (fun z => hj (by simp [Tg.sl, z]))]⟩
theorem g_nil : PGs X [] (tGs X.K []) := PGs.weak pgs_nil fun v σ H Q ⟨F, env, ds, env', R, q, e, h⟩ => by
  cases q with
  | nil => cases e; exact ⟨rfl, h _ R Chg.refl⟩
  | cons a b => cases e
theorem g_cons {T : Tg} {Ts : List Tg} (h1 : PG X e (tG X.K T)) (h2 : PGs X es (tGs X.K Ts)) (hs : (assignEach (e :: es) X.env).map (·.2) = assign e X.env :: (assignEach es X.env).map (·.2)) : PGs X (e :: es) (tGs X.K (T :: Ts)) :=
  PGs.weak (pgs_cons h1 h2 hs) fun v σ H Q ⟨F, env, ds, env', R, q, e, h⟩ => by
    cases q with
    | nil => cases e
    | cons a b =>
      obtain ⟨env1, e1, e2⟩ := bind_ok e
      refine ⟨_, _, rfl, F, env, _, env1, R, a, e1, fun σ1 R1 c1 => ⟨F, env1, _, env', R1, b, e2, fun σ2 R2 c2 => h σ2 R2 ?_⟩⟩
      exact (c1.mono fun i hi => by simp [Tg.sls, hi]).trans (c2.mono fun i hi => by simp [Tg.sls, hi])
theorem bindTs_len : ∀ {Ts : List Tg} {ds : List D} {env env' : Env}, bindTs Ts ds env = .ok env' → ds.length = Ts.length
  | [], [], _, _, _ => rfl
  | [], _ :: _, _, _, e => by cases e
  | _ :: _, [], _, _, e => by cases e
  | T :: Ts, d :: ds, env, env', e => by
    obtain ⟨env1, e1, e2⟩ := bind_ok e
    simp [bindTs_len e2]
theorem g_t {k n : Nat} {Ts : List Tg} (hc : X.calm = true) (h : PGs X es (tGs X.K Ts)) (hl : Ts.length = n) (hn : (assignEach es X.env).length = n) (hst : (assignEach es X.env).findIdx? (·.1) = none) : PG X (.Tuple es k pos) (tG X.K (.t Ts)) := by
  refine ⟨fun pins s σ H v u Q I r ⟨F, env, d, env', R, q, e, hh⟩ => ?_⟩
  cases d with
  | tuple ds =>
    cases q with
    | tup z1 z2 => exact (pg_tup hc h hn hst).run pins s σ H _ u Q I r ⟨_, _, rfl, Same.sqT R.sub z1, by rw [z2.length, bindTs_len (show bindTs Ts ds env = .ok env' from e), hl], F, env, ds, env', R, z2, e, fun σ' R' c => hh σ' R' c⟩
  | list ds =>
    cases q with
    | lst z1 z2 => exact (pg_lst hc h hn hst).run pins s σ H _ u Q I r ⟨_, _, rfl, .inl (Same.rd R.sub z1), by rw [z2.length, bindTs_len (show bindTs Ts ds env = .ok env' from e), hl], F, env, ds, env', R, z2, e, fun σ' R' c => hh σ' R' c⟩
  | _ => cases e
end

/-! ### comprehensions -/
def W0 : WN := fun _ _ _ => False
theorem rs.quiet {β : Type} {W : WN} {σ : L2.St} {F H : Hp} {okb : Hp → Hp → β → Prop} {r : Res β} (h : rs W σ F H okb r.quiet) : rs W0 σ F H okb r := by
  cases r with
  | ok b => exact h
  | ex c => exact h.elim
  | bad => exact h
/-- the heap without the list that is made -/
theorem ext_mask {F1 H1 F Hb F4 H4 : Hp} {L : Addr} {o : HO} (x : Ext F1 F H1 Hb) (hb : Hb L = none) (h1 : H1 L = none) (y : Ext F F4 (upd Hb L o) H4) :
    ∃ Hc, Hc L = none ∧ Ext F1 F4 H1 Hc ∧ ∀ o', upd H4 L o' = upd Hc L o' := by
  have fD : F L = none := by
    cases q : F L with
    | none => rfl
    | some u => rw [x.sub _ _ q] at hb; cases hb
  have f4D : F4 L = none := y.none upd_same fD
  refine ⟨fun a => if a = L then none else H4 a, by simp, ⟨x.f.trans y.f, fun a u h => ?_, fun a u h => ?_, fun a u h => ?_⟩, fun o' => ?_⟩
  · have ne : a ≠ L := fun z => by rw [z, h1] at h; cases h
    simp only [ne, if_false]
    exact y.h _ _ (by rw [upd_ne ne]; exact x.h _ _ h)
  · have ne : a ≠ L := fun z => by rw [z, f4D] at h; cases h
    simp only [ne, if_false]
    exact y.sub _ _ h
  · rcases y.new a u h with z | z
    · exact x.new a u z
    · right
      cases q : H1 a with
      | none => rfl
      | some w =>
        have ne : a ≠ L := fun z => by rw [z, h1] at q; cases q
        rw [upd_ne ne, x.h _ _ q] at z; cases z
  · funext a
    unfold upd
    by_cases e : a = L
    · simp [e]
    · simp [e]
theorem compR_cons {f : D → Res (Option D)} {x : D} {r ys : List D} (h : compR f (x :: r) = .ok ys) : ∃ o zs, f x = .ok o ∧ compR f r = .ok zs ∧ ys = (match o with | some y => y :: zs | none => zs) := by
  unfold compR at h
  obtain ⟨o, e1, h⟩ := bind_ok h
  obtain ⟨zs, e2, h⟩ := bind_ok h
  refine ⟨o, zs, e1, e2, ?_⟩
  cases o with
  | some y => cases h; rfl
  | none => cases h; rfl
theorem nx_compR {f : D → Res (Option D)} (h : ∀ d, NoEx (f d)) : ∀ xs : List D, NoEx (compR f xs)
  | [] => NoEx.ok _
  | x :: xs => NoEx.bind (h x) fun o => NoEx.bind (nx_compR h xs) fun zs => by cases o <;> exact NoEx.ok _
theorem nx_quiet {α : Type} (r : Res α) : NoEx r.quiet := by
  cases r
  · exact NoEx.ok _
  · exact NoEx.bad
  · exact NoEx.bad
/-- one item of a comprehension -/
def compF (T : Tg) (fc : Env → Res Bool) (fe : Env → Res D) (vs : List Nat) (env : Env) : D → Res (Option D) := fun d => (do
  let σ' ← bindT T d (wipeS env vs)
  let b ← fc σ'
  if b then do
    let y ← fe σ'
    .ok (some y)
  else .ok none).quiet
def compD (fi : Env → Res (List D)) (T : Tg) (fc : Env → Res Bool) (fe : Env → Res D) (vs : List Nat) : Env → Res D := fun env => do
  let xs ← fi env
  let ys ← compR (compF T fc fe vs env) xs
  if sizeOk ys.length then .ok (.list ys) else .bad
theorem goX {β : Type} {W : WN} {okb : Hp → Hp → β → Prop} {F H : Hp} {σ : L2.St} {f : D → Res (Option D)} {xs : List D} {k : List D → Res β} (n : ∀ d, NoEx (f d)) (h : rs W σ F H okb (compR f xs >>= k)) : ∃ ys, compR f xs = .ok ys ∧ rs W σ F H okb (k ys) := by
  cases q : compR f xs with
  | ok d => rw [q] at h; exact ⟨d, rfl, h⟩
  | ex c => exact absurd q (nx_compR n _ c)
  | bad => rw [q] at h; exact h.elim
theorem quiet_ok' {α : Type} {r : Res α} {a : α} (h : r.quiet = .ok a) : r = .ok a := by
  cases r <;> first | exact h | cases h
section
variable {K : PySem.W.Frag} {F F' H H' : Hp}
/-- what is new and not frozen -/
inductive Fr (K : PySem.W.Frag) (F H : Hp) (l : Addr) : D → Prop
  | lst {xs : List V} {ds : List D} : H l = some (.lst xs) → DqAll K F xs ds → Fr K F H l (.list ds)
  | dk {ks : List (Key × V)} {kvs : List (D × D)} : H l = some (.dK ks) → KvP K F ks kvs → Fr K F H l (.dict kvs)
theorem Fr.ext {l : Addr} {d : D} (x : Ext F F' H H') (h : Fr K F H l d) : Fr K F' H' l d := by
  cases h with
  | lst a b => exact .lst (x.h _ _ a) (b.up x.f)
  | dk a b => exact .dk (x.h _ _ a) (b.up x.f)
end
/-- a value, or what is new and this def's own -/
def okV (K : PySem.W.Frag) (o : Bool) (Q : VK) : Hp → Hp → D → Prop := fun F H d => ∀ v H' F', Ext F F' H H' → (match o with | false => Dq K F' v d | true => ∃ l, v = .ref l ∧ H l = none ∧ F' l = none ∧ Fr K F' H' l d) → Q v H'
theorem mnV {K : PySem.W.Frag} {o : Bool} {Q : VK} : Mn (okV K o Q) := fun F F' H H' d x h v H'' F'' y q => h v H'' F'' (x.trans y) (by
  cases o with
  | false => exact q
  | true =>
    obtain ⟨l, e, n, m⟩ := q
    exact ⟨l, e, x.h.free n, m⟩)
def tV (K : PySem.W.Frag) (W : WN) (o : Bool) (f : Env → Res D) : TE := fun σ H Q => ∃ F env, RE K F H σ env ∧ rs W σ F H (okV K o Q) (f env)
section
variable {X : Cx} {W : WN}
theorem lc_rd {fi : Env → Res (List D)} {T : Tg} {fc : Env → Res Bool} {fe : Env → Res D} {vs : List Nat} (hT : ∀ i ∈ T.sl, i ∈ vs) (o : Bool) (σ : L2.St) (H : Hp) (Q : VK) (h : tV X.K W o (compD fi T fc fe vs) σ H Q) :
    tLc (tI X.K W true fi) (tG X.K T) (tT X.K W0 fc) (tE X.K W0 fe) vs σ H Q := by
  obtain ⟨F, env, R, h⟩ := h
  refine ⟨F, env, R, ?_⟩
  unfold compD at h
  cases q0 : fi env with
  | ex c => rw [q0] at h; exact h
  | bad => rw [q0] at h; exact h
  | ok ds =>
  rw [q0] at h
  intro J H1 F1 x1 wk L hL
  simp only [if_true] at wk
  have h := rs.ext (W := W) (σ := σ) mnV x1 h
  obtain ⟨ys, hy, h⟩ := goX (fun d => nx_quiet _) h
  have hz : sizeOk ys.length = true := by
    cases z : sizeOk ys.length with
    | true => rfl
    | false => rw [z] at h; exact h.elim
  rw [hz] at h
  have hz' : ys.length ≤ 1000000 := by simpa [sizeOk] using hz
  have R1 := R.ext x1
  let Pv : Nat → Hp → Prop := fun i Hc => ∃ F2 Hb acc accd rest, Hc = upd Hb L (.lst acc) ∧ Hb L = none ∧ Ext F1 F2 H1 Hb ∧ DqAll X.K F2 acc accd ∧ ys = accd ++ rest ∧ compR (compF T fc fe vs env) (ds.drop i) = .ok rest
  have start : Pv 0 (upd H1 L (.lst [])) := ⟨F1, H1, [], [], ys, rfl, hL, Ext.refl x1.sub, .nil, rfl, by rw [List.drop_zero]; exact hy⟩
  refine ⟨fun i m Hc => m = ds.length - i ∧ i ≤ ds.length ∧ Pv i Hc, ⟨ds.length, by simp, Nat.zero_le _, start⟩, ?_⟩
  rintro i m Hc ⟨rfl, hi, F2, Hb, acc, accd, rest, rfl, hbL, x2, qa, ey, er⟩
  have s2 : Same H1 (upd Hb L (.lst acc)) := fun a u z => by rw [upd_ne (ne_of_none z hL)]; exact x2.h _ _ z
  have s3 : Same F2 (upd Hb L (.lst acc)) := fun a u z => by rw [upd_ne (ne_of_none (x2.sub _ _ z) hbL)]; exact x2.sub _ _ z
  by_cases hlt : i < ds.length
  · refine .inr ⟨wk.goes i _ hlt s2, Pv (i + 1), fun H' p' => ⟨ds.length - (i + 1), by omega, rfl, hlt, p'⟩, fun x H' y => ?_⟩
    obtain ⟨d, F3, hd, x3, qd⟩ := wk.yld i _ x H' hlt s2 y F2 x2.f s3
    have edrop : ds.drop i = d :: ds.drop (i + 1) := by
      rw [List.drop_eq_getElem_cons hlt]
      rw [List.getElem?_eq_getElem hlt] at hd
      rw [Option.some.inj hd]
    rw [edrop] at er
    obtain ⟨oo, zs, e1, e2, e3⟩ := compR_cons er
    have e1 := quiet_ok' e1
    obtain ⟨env', eb, e1⟩ := bind_ok e1
    obtain ⟨b, ec, e1⟩ := bind_ok e1
    have xb : Ext F2 F2 Hb (upd Hb L (.lst acc)) := Ext.own x2.sub hbL
    have R3 : RE X.K F3 H' (L2.wipe σ vs) (wipeS env vs) := (((R1.ext x2).ext xb).ext x3).wipe vs
    refine ⟨F3, wipeS env vs, d, env', R3, qd, eb, fun σ2 R4 c4 => ⟨by rw [(c4.mono hT).wipe, wipe_wipe], ?_⟩⟩
    refine ⟨F3, env', R4, ?_⟩
    rw [ec]
    intro H5 F5 x5
    have y5 := x3.trans x5
    cases b with
    | false =>
      cases e1
      subst e3
      simp only [Bool.false_eq_true, if_false]
      obtain ⟨Hc, c1, c2, c3⟩ := ext_mask x2 hbL hL y5
      have hL5 : H5 L = some (.lst acc) := y5.h _ _ upd_same
      refine ⟨F5, Hc, acc, accd, rest, ?_, c1, c2, qa.up y5.f, ey, e2⟩
      rw [← c3]
      funext a
      unfold upd
      by_cases z : a = L
      · simp [z, hL5]
      · simp [z]
    | true =>
      obtain ⟨y', ee, e1⟩ := bind_ok (show (fe env' >>= fun y => Res.ok (some y)) = .ok oo from e1)
      cases e1
      subst e3
      simp only [if_true]
      refine ⟨F5, env', R4.ext x5, ?_⟩
      rw [ee]
      intro v6 H6 F6 x6 q6
      have y6 := y5.trans x6
      obtain ⟨Hc, c1, c2, c3⟩ := ext_mask x2 hbL hL y6
      have hl : acc.length < sizeLine := by
        have : accd.length < ys.length := by rw [ey]; simp
        rw [sizeLine_eq, qa.length]
        omega
      refine ⟨acc, y6.h _ _ upd_same, hl, F6, Hc, acc ++ [v6], accd ++ [y'], zs, c3 _, c1, c2, (qa.up y6.f).app (.cons q6 .nil), by rw [ey]; simp, e2⟩
  · have e : i = ds.length := by omega
    subst e
    refine .inl ⟨wk.stops _ s2, ?_⟩
    rw [List.drop_length] at er
    cases er
    have ey : ys = accd := by rw [ey]; simp
    subst ey
    cases o with
    | false =>
      have x3 := Ext.laid (o := .lst acc) x2.sub hbL
      exact h _ _ _ (x2.trans x3) (.lst (.inl upd_same) (qa.up x3.f))
    | true =>
      have x3 := Ext.own (o := .lst acc) x2.sub hbL
      have hF : F2 L = none := by
        cases q : F2 L with
        | none => rfl
        | some u => rw [x2.sub _ _ q] at hbL; cases hbL
      exact h _ _ _ (x2.trans x3) ⟨L, rfl, hL, hF, .lst upd_same qa⟩
theorem c_comp {o : Bool} {elt tg iter : Expr} {ifs : List Expr} {scope : Scope} {own : List (Str × Nat)} {pos : Pos} {fi : Env → Res (List D)} {T : Tg} {fc : Env → Res Bool} {fe : Env → Res D} (ok : XOk X) (hi : PI X tg iter (tI X.K W true fi)) (bo : BlkOk X.N X.env.scope scope own)
    (hg : ∀ (s : Shared) (H : Hp) (C : Addr) (cl : List (Str × Addr)) (fp : List Addr), PG (X.blk s H scope (compEnvC scope cl C X.env) fp) tg (tG X.K T)) (ht : ∀ (s : Shared) (H : Hp) (C : Addr) (cl : List (Str × Addr)) (fp : List Addr), PTs (X.blk s H scope (compEnvC scope cl C X.env) fp) ifs (tT X.K W0 fc))
    (he : ∀ (s : Shared) (H : Hp) (C : Addr) (cl : List (Str × Addr)) (fp : List Addr), PE (X.blk s H scope (compEnvC scope cl C X.env) fp) elt (tE X.K W0 fe)) (hs : ∀ x, foldedSetIterable iter X.env x = pure x) (hT : ∀ i ∈ T.sl, i ∈ own.map (·.2)) :
    PE X (.ListComp elt [⟨tg, iter, ifs, 0⟩] scope pos) (tV X.K W o (compD fi T fc fe (own.map (·.2)))) :=
  PE.weak (pe_lc ok.calm ok.nd hi bo hg ht he hs) fun σ H Q h => lc_rd hT o σ H Q h
theorem t_yes : PTs X [] (tT X.K W fun _ => .ok true) := ⟨fun pins s σ H Q I ⟨F, env, R, h⟩ => pts_nil.run pins s σ H Q I (h H F (Ext.refl R.sub))⟩
end
end BW

namespace BW
open PySem PySem.W L2 PySem.Spec PyProof.Rows
def b1S : B1 → Str
  | .len => "len" | .abs => "abs" | .int => "int" | .tuple => "tuple" | .list => "list" | .sorted => "sorted"
  | .sum => "sum" | .min => "min" | .max => "max" | .all => "all" | .any => "any" | .setsorted => "?" | .setlen => "?"
def b2S : B2 → Str
  | .min2 => "min" | .max2 => "max"
def tyS : Ty → Str
  | .int => "int" | .bool => "bool" | .str => "str" | .tuple => "tuple" | .list => "list" | .dict => "dict"
theorem bt_len : bootBuiltins "len" = some (.builtin "len") := by decide +kernel
theorem bt_abs : bootBuiltins "abs" = some (.builtin "abs") := by decide +kernel
theorem bt_int : bootBuiltins "int" = some (.type "int") := by decide +kernel
theorem bt_tuple : bootBuiltins "tuple" = some (.type "tuple") := by decide +kernel
theorem bt_list : bootBuiltins "list" = some (.type "list") := by decide +kernel
theorem bt_bool : bootBuiltins "bool" = some (.type "bool") := by decide +kernel
theorem bt_str : bootBuiltins "str" = some (.type "str") := by decide +kernel
theorem bt_dict : bootBuiltins "dict" = some (.type "dict") := by decide +kernel
theorem bt_sorted : bootBuiltins "sorted" = some (.builtin "sorted") := by decide +kernel
theorem bt_sum : bootBuiltins "sum" = some (.builtin "sum") := by decide +kernel
theorem bt_min : bootBuiltins "min" = some (.builtin "min") := by decide +kernel
theorem bt_max : bootBuiltins "max" = some (.builtin "max") := by decide +kernel
theorem bt_all : bootBuiltins "all" = some (.builtin "all") := by decide +kernel
theorem bt_any : bootBuiltins "any" = some (.builtin "any") := by decide +kernel
theorem bt_isi : bootBuiltins "isinstance" = some (.builtin "isinstance") := by decide +kernel
section
variable {X : Cx} {W : WN} {a c : Expr} {es : List Expr} {pos p : Pos} {f g h : Env → Res D} {fa : Env → Res (List D)}
theorem c_b1 (ok : XOk X) (b : B1) (hb : b ≠ .setsorted ∧ b ≠ .setlen) (hg : Gl X (b1S b)) (hm : X.mg (b1S b) = none) (ha : PE X a (tP X.K W f)) (hs : starEach [a] X.env = (false, eval a X.env) :: starEach [] X.env) :
    PE X (.Call (.Name (b1S b) p) [a] [] pos) (tE X.K W fun σ => do let x ← f σ; b1D b x) := by
  have key : PE X (.Call (.Name (b1S b) p) [a] [] pos) (tCB (rD1 X.K (b1D b)) (tCons (tP X.K W f) tNil)) := by
    have cr := cr_b1 b hb ok.calm ok.room
    have ha' := pa_cons ha pa_nil hs
    cases b with
    | setsorted => exact absurd rfl hb.1
    | setlen => exact absurd rfl hb.2
    | len => exact pe_callB cr hg hm bt_len ha' (by decide) (by decide) hs rfl
    | abs => exact pe_callB cr hg hm bt_abs ha' (by decide) (by decide) hs rfl
    | int => exact pe_callTy cr hg hm bt_int ha' (by decide) (by decide) hs rfl
    | tuple => exact pe_callTy cr hg hm bt_tuple ha' (by decide) (by decide) hs rfl
    | list => exact pe_callTy cr hg hm bt_list ha' (by decide) (by decide) hs rfl
    | sorted => exact pe_callB cr hg hm bt_sorted ha' (by decide) (by decide) hs rfl
    | sum => exact pe_callB cr hg hm bt_sum ha' (by decide) (by decide) hs rfl
    | min => exact pe_callB cr hg hm bt_min ha' (by decide) (by decide) hs rfl
    | max => exact pe_callB cr hg hm bt_max ha' (by decide) (by decide) hs rfl
    | all => exact pe_callB cr hg hm bt_all ha' (by decide) (by decide) hs rfl
    | any => exact pe_callB cr hg hm bt_any ha' (by decide) (by decide) hs rfl
  exact PE.weak key fun σ H Q ⟨F, env, R, h⟩ => goP mnE R h fun dx v F1 H1 _ x1 R1 p1 h1 => by
    obtain ⟨d, e, q⟩ := h1.noex (nx_b1D _ _)
    exact ⟨F1, v, dx, d, rfl, x1.sub, p1, e, q⟩
theorem c_b2 (ok : XOk X) (b : B2) (hg : Gl X (b2S b)) (hm : X.mg (b2S b) = none) (ha : PE X a (tP X.K W f)) (hc : PE X c (tP X.K W g)) (hs : starEach [a, c] X.env = (false, eval a X.env) :: starEach [c] X.env) (hs2 : starEach [c] X.env = (false, eval c X.env) :: starEach [] X.env) (hpl : (backTo pos (starEach [c] X.env)).any (·.1) = false) :
    PE X (.Call (.Name (b2S b) p) [a, c] [] pos) (tE X.K W fun σ => do let x ← f σ; let y ← g σ; b2D b x y) := by
  have key : PE X (.Call (.Name (b2S b) p) [a, c] [] pos) (tCB (rDD X.K (b2D b)) (tCons (tP X.K W f) (tCons (tP X.K W g) tNil))) := by
    have cr := cr_b2 (X := X) b ok.calm
    have ha' := pa_cons ha (pa_cons hc pa_nil hs2) hs
    cases b with
    | min2 => exact pe_callB cr hg hm bt_min ha' (by decide) (by decide) hs hpl
    | max2 => exact pe_callB cr hg hm bt_max ha' (by decide) (by decide) hs hpl
  exact PE.weak key fun σ H Q ⟨F, env, R, h⟩ => goP mnE R h fun dx v F1 H1 _ x1 R1 p1 h1 => goP mnE R1 h1 fun dy w F2 H2 _ x2 R2 p2 h2 => by
    obtain ⟨d, e, q⟩ := h2.noex (nx_b2D _ _ _)
    exact ⟨F2, v, w, dx, dy, d, rfl, x2.sub, p1.ext x2, p2, e, q⟩
/-! ### isinstance -/
theorem c_ty (t : Ty) (hg : Gl X (tyS t)) (hm : X.mg (tyS t) = none) : PE X (.Name (tyS t) p) (tC (.ty (tyN t))) := by
  cases t with
  | int => exact pe_bltn hg hm bt_int rfl (by decide) (by decide)
  | bool => exact pe_bltn hg hm bt_bool rfl (by decide) (by decide)
  | str => exact pe_bltn hg hm bt_str rfl (by decide) (by decide)
  | tuple => exact pe_bltn hg hm bt_tuple rfl (by decide) (by decide)
  | list => exact pe_bltn hg hm bt_list rfl (by decide) (by decide)
  | dict => exact pe_bltn hg hm bt_dict rfl (by decide) (by decide)
/-- the types of a tuple of types -/
inductive Tys (X : Cx) : List Expr → List Ty → Prop
  | nil : Tys X [] []
  | cons {t : Ty} {ts : List Ty} {p : Pos} {es : List Expr} : Gl X (tyS t) → X.mg (tyS t) = none → Tys X es ts → Tys X (.Name (tyS t) p :: es) (t :: ts)
theorem a_tys {ts : List Ty} (h : Tys X es ts) : PA X es (fun σ H Q => Q (ts.map fun t => V.ty (tyN t)) H) := by
  induction h with
  | nil => exact pa_nil
  | cons h1 h2 _ ih => exact pa_cons (c_ty _ h1 h2) ih rfl
theorem cls_all : ∀ ts : List Ty, Paired ClsV (ts.map fun t => V.ty (tyN t)) (ts.map fun t => Value.type (tyN t))
  | [] => .nil
  | t :: ts => .cons (.ty _) (cls_all ts)
theorem c_isiT {ts : List Ty} {k : Nat} {tp : Pos} (hl : ts.length ≤ 100) (hg : Gl X "isinstance") (hm : X.mg "isinstance" = none) (ha : PE X a (tP X.K W f)) (ht : Tys X es ts) (hs : starEach [a, .Tuple es k tp] X.env = (false, eval a X.env) :: starEach [.Tuple es k tp] X.env) :
    PE X (.Call (.Name "isinstance" p) [a, .Tuple es k tp] [] pos) (tE X.K W fun σ => do let x ← f σ; if okD x then .ok (.bool (ts.any fun t => tyD t x)) else .bad) := by
  have key := pe_callB (p := p) (pos := pos) call_isiT hg hm bt_isi (pa_cons ha (pa_cons (pe_tup (x1 := k) (pos := tp) (a_tys ht)) pa_nil rfl) hs) (by decide) (by decide) hs rfl
  exact PE.weak key fun σ H Q ⟨F, env, R, h⟩ => goP mnE R h fun dx v F1 H1 _ x1 R1 p1 h1 => by
    have ok : okD dx = true := by
      by_cases z : okD dx = true
      · exact z
      · rw [if_neg z] at h1; exact h1.elim
    rw [if_pos ok] at h1
    refine ⟨by rw [List.length_map, sizeLine_eq]; omega, fun q hq => ?_⟩
    have x2 := Ext.own (o := .tup (ts.map fun t => V.ty (tyN t))) x1.sub hq
    exact ⟨v, q, _, _, _, _, rfl, upd_same, cls_all ts, (p1.ext x2).tyX ok x2.sub, ty_any dx ts, h1 _ _ _ x2 (.bl _)⟩
theorem c_isi {t : Ty} {tp : Pos} (hg : Gl X "isinstance") (hm : X.mg "isinstance" = none) (ha : PE X a (tP X.K W f)) (hg2 : Gl X (tyS t)) (hm2 : X.mg (tyS t) = none) (hs : starEach [a, .Name (tyS t) tp] X.env = (false, eval a X.env) :: starEach [.Name (tyS t) tp] X.env) :
    PE X (.Call (.Name "isinstance" p) [a, .Name (tyS t) tp] [] pos) (tE X.K W fun σ => do let x ← f σ; if okD x then .ok (.bool ([t].any fun t => tyD t x)) else .bad) := by
  have key := pe_callB (p := p) (pos := pos) call_isi hg hm bt_isi (pa_cons ha (pa_cons (c_ty t hg2 hm2) pa_nil rfl) hs) (by decide) (by decide) hs rfl
  exact PE.weak key fun σ H Q ⟨F, env, R, h⟩ => goP mnE R h fun dx v F1 H1 _ x1 R1 p1 h1 => by
    have ok : okD dx = true := by
      by_cases z : okD dx = true
      · exact z
      · rw [if_neg z] at h1; exact h1.elim
    rw [if_pos ok] at h1
    refine ⟨v, _, _, _, _, rfl, .ty _, p1.tyX ok x1.sub, ?_, h1 _ _ _ (Ext.refl x1.sub) (.bl _)⟩
    rw [kit_ty (ty_all t dx)]
    simp
/-! ### defs of one's own -/
/-- the wish of an exception by its class's name -/
def WofX (C : Str → Value) (w : WX) : WN := fun c σ H => w (C c) none σ H
/-- what a def promises: its answer on data -/
def spF (K : PySem.W.Frag) (C : Str → Value) (n : Nat) (r : List D → Res D) : Sp := fun vs H Q E => vs.length = n ∧ ∃ F ds, Same F H ∧ DqAll K F vs ds ∧ rs (fun c _ H' => E (C c) none H') [] F H (okE K Q) (r ds)
variable {C : Str → Value} {w : WX}
theorem c_call {e : Expr} {k n : Nat} {fA : Addr} {fd : FuncData} {ps : List Str} {x : Str} {r : List D → Res D} (F : FnOk X.prog X.w X.K X.mg X.base (L2.CX X.prog X.w) k fA fd ps (spF X.K C n r)) (hr : Room k X.A) (hg : Gl X x) (hm : X.mg x = some (.ref fA)) (hk : PySem.W.keepIn X.K (.ref fA) = true) (hb : Binds X.K fd ps []) (tk : Takes X w)
    (ha : PA X (e :: es) (tA X.K (WofX C w) fa)) (hl : ∀ env ds, fa env = .ok ds → ds.length = n) (hdb : (x == ("__debug__" : Str)) = false) (he : starEach (e :: es) X.env = (false, eval e X.env) :: starEach es X.env) (hpl : (backTo pos (starEach es X.env)).any (·.1) = false) :
    PE X (.Call (.Name x p) (e :: es) [] pos) (tE X.K (WofX C w) fun σ => do let ds ← fa σ; r ds) :=
  PE.weak (pe_callS (E := WE w) F hr hg hm hk hb (fun σ => passAt tk σ) ha hdb he hpl) fun σ H Q ⟨F0, env, R, h⟩ => goA mnE R h fun ds vs F1 H1 e1 x1 R1 p1 h1 =>
    ⟨by rw [p1.length]; exact hl _ _ e1, F1, ds, x1.sub, p1, by
      cases q : r ds with
      | ok d => rw [q] at h1; exact h1
      | ex c => rw [q] at h1; exact h1
      | bad => rw [q] at h1; exact h1⟩
theorem takes0 {X : Cx} : Takes X (fun _ _ _ _ => False) := fun u s' h => by
  obtain ⟨_, _, _, _, _, _, _, _, _, _, _, _, _, _, _, _, z⟩ := h
  exact z.elim
end
end BW

namespace BW
open PySem PySem.W L2 PySem.Spec PyProof.Rows
/-! ### the state of a def between its statements -/
def Own (σ : L2.St) (env : Env) (i : Nat) (l : Addr) : Prop := σ[i]? = some (some (.ref l)) ∧ ((∃ ds, getS env i = .ol ds) ∨ ∃ kvs, getS env i = .od kvs)
structure RS (K : PySem.W.Frag) (F0 H0 F H : Hp) (σ : L2.St) (env : Env) : Prop where
  re : RE K F H σ env
  x : Ext F0 F H0 H
  new : ∀ i l, Own σ env i l → H0 l = none
  apart : ∀ i j l, Own σ env i l → Own σ env j l → i = j
section
variable {K : PySem.W.Frag} {F0 H0 F F' H H' : Hp} {σ : L2.St} {env : Env}
theorem RS.ext (R : RS K F0 H0 F H σ env) (x : Ext F F' H H') : RS K F0 H0 F' H' σ env := ⟨R.re.ext x, R.x.trans x, R.new, R.apart⟩
theorem Own.obj (R : RS K F0 H0 F H σ env) {i : Nat} {l : Addr} (o : Own σ env i l) : F l = none ∧ ((∃ ds xs, getS env i = .ol ds ∧ H l = some (.lst xs) ∧ DqAll K F xs ds) ∨ ∃ kvs ks, getS env i = .od kvs ∧ H l = some (.dK ks) ∧ KvP K F ks kvs) := by
  have s := R.re.slot i
  rcases o with ⟨e, ⟨ds, q⟩ | ⟨kvs, q⟩⟩
  · rw [q, e] at s
    obtain ⟨l', xs, e', h1, h2, h3⟩ := s
    cases e'
    exact ⟨h2, .inl ⟨ds, xs, q, h1, h3⟩⟩
  · rw [q, e] at s
    obtain ⟨l', xs, e', h1, h2, h3⟩ := s
    cases e'
    exact ⟨h2, .inr ⟨kvs, xs, q, h1, h3⟩⟩
theorem RS.ol (R : RS K F0 H0 F H σ env) {i : Nat} {ds : List D} (q : getS env i = .ol ds) : ∃ l xs, σ[i]? = some (some (.ref l)) ∧ Own σ env i l ∧ H l = some (.lst xs) ∧ F l = none ∧ H0 l = none ∧ DqAll K F xs ds := by
  have s := R.re.slot i
  rw [q] at s
  obtain ⟨l, xs, e, h1, h2, h3⟩ := s
  have o : Own σ env i l := ⟨e, .inl ⟨ds, q⟩⟩
  exact ⟨l, xs, e, o, h1, h2, R.new i l o, h3⟩
theorem RS.od (R : RS K F0 H0 F H σ env) {i : Nat} {ds : List (D × D)} (q : getS env i = .od ds) : ∃ l xs, σ[i]? = some (some (.ref l)) ∧ Own σ env i l ∧ H l = some (.dK xs) ∧ F l = none ∧ H0 l = none ∧ KvP K F xs ds := by
  have s := R.re.slot i
  rw [q] at s
  obtain ⟨l, xs, e, h1, h2, h3⟩ := s
  have o : Own σ env i l := ⟨e, .inr ⟨ds, q⟩⟩
  exact ⟨l, xs, e, o, h1, h2, R.new i l o, h3⟩
/-- a slot's owned list or dict is new; what stands elsewhere is older -/
theorem own_set {i j : Nat} {v : V} {s : Sl} {l : Addr} (hl : env.length = σ.length) (o : Own (σ.set i (some v)) (setS env i s) j l) : (j = i ∧ i < env.length ∧ v = .ref l ∧ ((∃ ds, s = .ol ds) ∨ ∃ kvs, s = .od kvs)) ∨ (j ≠ i ∧ Own σ env j l) := by
  obtain ⟨e, q⟩ := o
  rw [getS_set] at q
  by_cases h : i = j
  · subst h
    by_cases h2 : i < env.length
    · rw [if_pos ⟨rfl, h2⟩] at q
      rw [List.getElem?_set_self (by rw [← hl]; exact h2)] at e
      cases e
      exact .inl ⟨rfl, h2, rfl, q⟩
    · rw [List.getElem?_eq_none (by rw [List.length_set, ← hl]; exact Nat.le_of_not_lt h2)] at e
      cases e
  · rw [if_neg (fun z => h z.1)] at q
    rw [List.getElem?_set_ne h] at e
    exact .inr ⟨fun z => h z.symm, e, q⟩
theorem RS.fz (R : RS K F0 H0 F H σ env) (i : Nat) {v : V} {d : D} (q : Dq K F v d) : RS K F0 H0 F H (σ.set i (some v)) (setS env i (.fz d)) := by
  refine ⟨R.re.set i ⟨v, rfl, q⟩, R.x, fun j l o => ?_, fun j k l o o' => ?_⟩
  · rcases own_set R.re.len o with ⟨_, _, _, ⟨_, z⟩ | ⟨_, z⟩⟩ | ⟨_, o⟩
    · cases z
    · cases z
    · exact R.new j l o
  · rcases own_set R.re.len o with ⟨_, _, _, ⟨_, z⟩ | ⟨_, z⟩⟩ | ⟨_, o⟩
    · cases z
    · cases z
    · rcases own_set R.re.len o' with ⟨_, _, _, ⟨_, z⟩ | ⟨_, z⟩⟩ | ⟨_, o'⟩
      · cases z
      · cases z
      · exact R.apart j k l o o'
/-- what a value is that a name is set to -/
def Vk (K : PySem.W.Frag) (H0 F H : Hp) (v : V) : Bool → D → Prop
  | false, d => Dq K F v d
  | true, d => ∃ l, v = .ref l ∧ H0 l = none ∧ F l = none ∧ Fr K F H l d
theorem Vk.ext {v : V} {o : Bool} {d : D} (x : Ext F F' H H') (h : Vk K H0 F H v o d) : Vk K H0 F' H' v o d := by
  cases o with
  | false => exact Dq.up x.f h
  | true =>
    obtain ⟨l, e, h0, hF, q⟩ := h
    refine ⟨l, e, h0, ?_, q.ext x⟩
    cases q with
    | lst a b => exact x.none a hF
    | dk a b => exact x.none a hF
theorem RS.put (R : RS K F0 H0 F H σ env) (i : Nat) {v : V} {o : Bool} {d : D} {s : Sl} (q : Vk K H0 F H v o d) (e : toSl o d = .ok s) (hn : o = true → ∀ j l, v = .ref l → ¬ Own σ env j l) : RS K F0 H0 F H (σ.set i (some v)) (setS env i s) := by
  cases o with
  | false => cases e; exact R.fz i q
  | true =>
    obtain ⟨l, rfl, h0, hF, q⟩ := q
    have key : SlotOk K F H (some (some (.ref l))) s ∧ ((∃ ds, s = .ol ds) ∨ ∃ kvs, s = .od kvs) := by
      cases q with
      | lst a b => cases e; exact ⟨⟨l, _, rfl, a, hF, b⟩, .inl ⟨_, rfl⟩⟩
      | dk a b => cases e; exact ⟨⟨l, _, rfl, a, hF, b⟩, .inr ⟨_, rfl⟩⟩
    refine ⟨R.re.set i key.1, R.x, fun j l' o => ?_, fun j k l' o o' => ?_⟩
    · rcases own_set R.re.len o with ⟨_, _, e', _⟩ | ⟨_, o⟩
      · cases e'; exact h0
      · exact R.new j l' o
    · rcases own_set R.re.len o with ⟨z, _, e', _⟩ | ⟨z, o⟩
      · cases e'
        rcases own_set R.re.len o' with ⟨z', _, _, _⟩ | ⟨_, o'⟩
        · rw [z, z']
        · exact absurd o' (hn rfl k _ rfl)
      · rcases own_set R.re.len o' with ⟨z', _, e', _⟩ | ⟨_, o'⟩
        · cases e'; exact absurd o (hn rfl j _ rfl)
        · exact R.apart j k l' o o'
/-- an owned list or dict is written -/
theorem RS.mut (R : RS K F0 H0 F H σ env) {i : Nat} {l : Addr} {u : HO} {s : Sl} (o : Own σ env i l) (hs : SlotOk K F (upd H l u) (some (some (.ref l))) s) : RS K F0 H0 F (upd H l u) σ (setS env i s) := by
  obtain ⟨hF, _⟩ := o.obj R
  have h0 := R.new i l o
  have ei : σ.set i (some (.ref l)) = σ := by
    apply List.ext_getElem?
    intro j
    by_cases h : i = j
    · subst h
      rw [List.getElem?_set_self (by rw [← Nat.not_le]; intro z; have o1 := o.1; rw [List.getElem?_eq_none z] at o1; cases o1), o.1]
    · rw [List.getElem?_set_ne h]
  have sub : Same F (upd H l u) := fun a w h => by
    have ne : a ≠ l := fun z => by rw [z, hF] at h; cases h
    rw [upd_ne ne]; exact R.re.sub _ _ h
  have x : Ext F0 F H0 (upd H l u) := ⟨R.x.f, fun a w h => by
    have ne : a ≠ l := fun z => by rw [z, h0] at h; cases h
    rw [upd_ne ne]; exact R.x.h _ _ h, sub, R.x.new⟩
  have ow : ∀ j l', Own σ (setS env i s) j l' → Own σ env j l' := fun j l' z => by
    rw [← ei] at z
    rcases own_set R.re.len z with ⟨rfl, _, e, _⟩ | ⟨_, z⟩
    · cases e; exact o
    · exact z
  refine ⟨⟨sub, by simp [setS, R.re.len], fun j => ?_⟩, x, fun j l' z => R.new j l' (ow j l' z), fun j k l' z z' => R.apart j k l' (ow _ _ z) (ow _ _ z')⟩
  rw [getS_set]
  by_cases h : i = j ∧ i < env.length
  · rw [if_pos h, ← h.1, o.1]; exact hs
  · rw [if_neg h]
    have ne : i ≠ j := fun z => h ⟨z, by rw [R.re.len, ← Nat.not_le]; intro w; have o1 := o.1; rw [List.getElem?_eq_none w] at o1; cases o1⟩
    have sj := R.re.slot j
    cases q : getS env j with
    | un => trivial
    | fz d => rw [q] at sj; exact sj
    | ol ds =>
      rw [q] at sj
      obtain ⟨l', xs, e, h1, h2, h3⟩ := sj
      have : l' ≠ l := fun z => by subst z; exact ne (R.apart i j l' o ⟨e, .inl ⟨_, q⟩⟩)
      exact ⟨l', xs, e, by rw [upd_ne this]; exact h1, h2, h3⟩
    | od ds =>
      rw [q] at sj
      obtain ⟨l', xs, e, h1, h2, h3⟩ := sj
      have : l' ≠ l := fun z => by subst z; exact ne (R.apart i j l' o ⟨e, .inr ⟨_, q⟩⟩)
      exact ⟨l', xs, e, by rw [upd_ne this]; exact h1, h2, h3⟩
/-- an owned list is frozen -/
theorem RS.freeze (R : RS K F0 H0 F H σ env) {i : Nat} {ds : List D} (q : getS env i = .ol ds) : ∃ F', Same F F' ∧ RS K F0 H0 F' H σ (setS env i (.fz (.list ds))) := by
  obtain ⟨l, xs, e, o, h1, h2, h3, h4⟩ := R.ol q
  have ff : Same F (upd F l (.lst xs)) := fun a w h => by
    have ne : a ≠ l := fun z => by rw [z, h2] at h; cases h
    rw [upd_ne ne]; exact h
  have sub : Same (upd F l (.lst xs)) H := fun a w h => by
    by_cases z : a = l
    · subst z; rw [upd_same] at h; cases h; exact h1
    · rw [upd_ne z] at h; exact R.re.sub _ _ h
  have ei : σ.set i (some (.ref l)) = σ := by
    apply List.ext_getElem?
    intro j
    by_cases h : i = j
    · subst h
      rw [List.getElem?_set_self (by rw [← Nat.not_le]; intro z; rw [List.getElem?_eq_none z] at e; cases e), e]
    · rw [List.getElem?_set_ne h]
  have ow : ∀ j l', Own σ (setS env i (.fz (.list ds))) j l' → j ≠ i ∧ Own σ env j l' := fun j l' z => by
    rw [← ei] at z
    rcases own_set R.re.len z with ⟨_, _, _, ⟨_, z⟩ | ⟨_, z⟩⟩ | z
    · cases z
    · cases z
    · exact z
  refine ⟨_, ff, ⟨sub, by simp [setS, R.re.len], fun j => ?_⟩, ⟨R.x.f.trans ff, R.x.h, sub, fun a w h => ?_⟩, fun j l' z => R.new j l' (ow j l' z).2, fun j k l' z z' => R.apart j k l' (ow _ _ z).2 (ow _ _ z').2⟩
  · rw [getS_set]
    by_cases h : i = j ∧ i < env.length
    · rw [if_pos h, ← h.1, e]
      exact ⟨_, rfl, .lst (.inl upd_same) (h4.up ff)⟩
    · rw [if_neg h]
      have ne : i ≠ j := fun z => h ⟨z, by rw [R.re.len, ← Nat.not_le]; intro w; rw [List.getElem?_eq_none w] at e; cases e⟩
      have sj := R.re.slot j
      cases q' : getS env j with
      | un => trivial
      | fz d => rw [q'] at sj; obtain ⟨v, a, b⟩ := sj; exact ⟨v, a, b.up ff⟩
      | ol ds =>
        rw [q'] at sj
        obtain ⟨l', xs', e', g1, g2, g3⟩ := sj
        have : l' ≠ l := fun z => by subst z; exact ne (R.apart i j l' o ⟨e', .inl ⟨_, q'⟩⟩)
        exact ⟨l', xs', e', g1, by rw [upd_ne this]; exact g2, g3.up ff⟩
      | od ds =>
        rw [q'] at sj
        obtain ⟨l', xs', e', g1, g2, g3⟩ := sj
        have : l' ≠ l := fun z => by subst z; exact ne (R.apart i j l' o ⟨e', .inr ⟨_, q'⟩⟩)
        exact ⟨l', xs', e', g1, by rw [upd_ne this]; exact g2, g3.up ff⟩
  · by_cases z : a = l
    · subst z; exact .inr h3
    · rw [upd_ne z] at h; exact R.x.new a w h
/-- an owned dict is frozen -/
theorem RS.freezeD (R : RS K F0 H0 F H σ env) {i : Nat} {ds : List (D × D)} (q : getS env i = .od ds) : ∃ F', Same F F' ∧ RS K F0 H0 F' H σ (setS env i (.fz (.dict ds))) := by
  obtain ⟨l, xs, e, o, h1, h2, h3, h4⟩ := R.od q
  have ff : Same F (upd F l (.dK xs)) := fun a w h => by
    have ne : a ≠ l := fun z => by rw [z, h2] at h; cases h
    rw [upd_ne ne]; exact h
  have sub : Same (upd F l (.dK xs)) H := fun a w h => by
    by_cases z : a = l
    · subst z; rw [upd_same] at h; cases h; exact h1
    · rw [upd_ne z] at h; exact R.re.sub _ _ h
  have ei : σ.set i (some (.ref l)) = σ := by
    apply List.ext_getElem?
    intro j
    by_cases h : i = j
    · subst h
      rw [List.getElem?_set_self (by rw [← Nat.not_le]; intro z; rw [List.getElem?_eq_none z] at e; cases e), e]
    · rw [List.getElem?_set_ne h]
  have ow : ∀ j l', Own σ (setS env i (.fz (.dict ds))) j l' → j ≠ i ∧ Own σ env j l' := fun j l' z => by
    rw [← ei] at z
    rcases own_set R.re.len z with ⟨_, _, _, ⟨_, z⟩ | ⟨_, z⟩⟩ | z
    · cases z
    · cases z
    · exact z
  refine ⟨_, ff, ⟨sub, by simp [setS, R.re.len], fun j => ?_⟩, ⟨R.x.f.trans ff, R.x.h, sub, fun a w h => ?_⟩, fun j l' z => R.new j l' (ow j l' z).2, fun j k l' z z' => R.apart j k l' (ow _ _ z).2 (ow _ _ z').2⟩
  · rw [getS_set]
    by_cases h : i = j ∧ i < env.length
    · rw [if_pos h, ← h.1, e]
      exact ⟨_, rfl, .dK (.inl upd_same) (h4.up ff)⟩
    · rw [if_neg h]
      have ne : i ≠ j := fun z => h ⟨z, by rw [R.re.len, ← Nat.not_le]; intro w; rw [List.getElem?_eq_none w] at e; cases e⟩
      have sj := R.re.slot j
      cases q' : getS env j with
      | un => trivial
      | fz d => rw [q'] at sj; obtain ⟨v, a, b⟩ := sj; exact ⟨v, a, b.up ff⟩
      | ol ds =>
        rw [q'] at sj
        obtain ⟨l', xs', e', g1, g2, g3⟩ := sj
        have : l' ≠ l := fun z => by subst z; exact ne (R.apart i j l' o ⟨e', .inl ⟨_, q'⟩⟩)
        exact ⟨l', xs', e', g1, by rw [upd_ne this]; exact g2, g3.up ff⟩
      | od ds =>
        rw [q'] at sj
        obtain ⟨l', xs', e', g1, g2, g3⟩ := sj
        have : l' ≠ l := fun z => by subst z; exact ne (R.apart i j l' o ⟨e', .inr ⟨_, q'⟩⟩)
        exact ⟨l', xs', e', g1, by rw [upd_ne this]; exact g2, g3.up ff⟩
  · by_cases z : a = l
    · subst z; exact .inr h3
    · rw [upd_ne z] at h; exact R.x.new a w h
mutual
/-- targets set values only -/
theorem bindT_own : ∀ (T : Tg) (d : D) (env env' : Env), bindT T d env = .ok env' → ∀ i, (∀ d, getS env' i ≠ .fz d) → getS env' i ≠ .un → i ∉ T.sl ∧ getS env' i = getS env i
  | .n j, d, env, env', e, i, h, h2 => by
    cases e
    rw [getS_set] at h h2 ⊢
    by_cases z : j = i ∧ j < env.length
    · rw [if_pos z] at h; exact absurd rfl (h d)
    · rw [if_neg z] at h h2 ⊢
      refine ⟨fun m => ?_, rfl⟩
      have m : i = j := by simpa [Tg.sl] using m
      refine h2 ?_
      have : ¬ i < env.length := fun w => z ⟨m.symm, by rw [← m]; exact w⟩
      unfold getS; rw [List.getD_eq_getElem?_getD, List.getElem?_eq_none (Nat.le_of_not_lt this)]; rfl
  | .t Ts, .tuple ds, env, env', e, i, h, h2 => bindTs_own Ts ds env env' e i h h2
  | .t Ts, .list ds, env, env', e, i, h, h2 => bindTs_own Ts ds env env' e i h h2
  | .t _, .none, _, _, e, _, _, _ => by cases e
  | .t _, .bool _, _, _, e, _, _, _ => by cases e
  | .t _, .int _, _, _, e, _, _, _ => by cases e
  | .t _, .str _, _, _, e, _, _, _ => by cases e
  | .t _, .dict _, _, _, e, _, _, _ => by cases e
theorem bindTs_own : ∀ (Ts : List Tg) (ds : List D) (env env' : Env), bindTs Ts ds env = .ok env' → ∀ i, (∀ d, getS env' i ≠ .fz d) → getS env' i ≠ .un → i ∉ Tg.sls Ts ∧ getS env' i = getS env i
  | [], [], env, env', e, i, h, h2 => by cases e; exact ⟨by simp [Tg.sls], rfl⟩
  | [], _ :: _, _, _, e, _, _, _ => by cases e
  | _ :: _, [], _, _, e, _, _, _ => by cases e
  | T :: Ts, d :: ds, env, env', e, i, h, h2 => by
    obtain ⟨env1, e1, e2⟩ := bind_ok e
    obtain ⟨a1, a2⟩ := bindTs_own Ts ds env1 env' e2 i h h2
    rw [a2] at h h2
    obtain ⟨b1, b2⟩ := bindT_own T d env env1 e1 i h h2
    exact ⟨by simp [Tg.sls, a1, b1], by rw [a2, b2]⟩
end
theorem RS.bindT (R : RS K F0 H0 F H σ env) {T : Tg} {d : D} {env' : Env} {σ' : L2.St} (e : bindT T d env = .ok env') (R' : RE K F H σ' env') (c : Chg T.sl σ σ') : RS K F0 H0 F H σ' env' := by
  have ow : ∀ j l, Own σ' env' j l → Own σ env j l := fun j l ⟨e1, q⟩ => by
    obtain ⟨n, g⟩ := bindT_own T d env env' e j (fun d z => by rcases q with ⟨_, q⟩ | ⟨_, q⟩ <;> rw [z] at q <;> cases q) (fun z => by rcases q with ⟨_, q⟩ | ⟨_, q⟩ <;> rw [z] at q <;> cases q)
    rw [g] at q
    rw [c.2 j n] at e1
    exact ⟨e1, q⟩
  exact ⟨R', R.x, fun j l o => R.new j l (ow j l o), fun j k l o o' => R.apart j k l (ow j l o) (ow k l o')⟩
theorem nx_bindT : ∀ (T : Tg) (d : D) (env : Env), NoEx (BW.bindT T d env) := by
  intro T d env c h
  exact bindT_noex T d env c h
where
  bindT_noex : ∀ (T : Tg) (d : D) (env : Env) (c : Str), BW.bindT T d env ≠ .ex c
    | .n _, _, _, _, h => by cases h
    | .t Ts, .tuple ds, env, c, h => bindTs_noex Ts ds env c h
    | .t Ts, .list ds, env, c, h => bindTs_noex Ts ds env c h
    | .t _, .none, _, _, h => by cases h
    | .t _, .bool _, _, _, h => by cases h
    | .t _, .int _, _, _, h => by cases h
    | .t _, .str _, _, _, h => by cases h
    | .t _, .dict _, _, _, h => by cases h
  bindTs_noex : ∀ (Ts : List Tg) (ds : List D) (env : Env) (c : Str), BW.bindTs Ts ds env ≠ .ex c
    | [], [], _, _, h => by cases h
    | [], _ :: _, _, _, h => by cases h
    | _ :: _, [], _, _, h => by cases h
    | T :: Ts, d :: ds, env, c, h => by
      unfold BW.bindTs at h
      cases q : BW.bindT T d env with
      | ok e => rw [q] at h; exact bindTs_noex Ts ds e c h
      | ex c' => exact bindT_noex T d env c' q
      | bad => rw [q] at h; cases h
end

/-! ### statements' readings -/
section
variable (K : PySem.W.Frag) (W : WN) (F0 H0 : Hp)
def sR (F : Hp) (D : Ends) : SR → Prop
  | .nx env => ∀ σ' H' F', Same F F' → RS K F0 H0 F' H' σ' env → D.nx σ' H'
  | .bk env => ∀ σ' H' F', Same F F' → RS K F0 H0 F' H' σ' env → D.bk σ' H'
  | .ct env => ∀ σ' H' F', Same F F' → RS K F0 H0 F' H' σ' env → D.ct σ' H'
  | .rt d => ∀ v H' F', Same F F' → Ext F0 F' H0 H' → Dq K F' v d → D.rt v H'
  | .ex c => ∀ σ' H' F', Same F F' → Ext F0 F' H0 H' → W c σ' H'
  | .bad => False
def tS (f : Env → SR) : TS := fun D σ H => ∃ F env, RS K F0 H0 F H σ env ∧ sR K W F0 H0 F D (f env)
end
section
variable {K : PySem.W.Frag} {W : WN} {F0 H0 F F' H : Hp} {σ : L2.St} {env : Env} {D : Ends} {f : Env → Res BW.D} {β : Type}
theorem sR.up {r : SR} (s : Same F F') (h : sR K W F0 H0 F D r) : sR K W F0 H0 F' D r := by
  cases r with
  | nx e => exact fun σ' H' F2 z => h σ' H' F2 (s.trans z)
  | bk e => exact fun σ' H' F2 z => h σ' H' F2 (s.trans z)
  | ct e => exact fun σ' H' F2 z => h σ' H' F2 (s.trans z)
  | rt d => exact fun v H' F2 z => h v H' F2 (s.trans z)
  | ex c => exact fun σ' H' F2 z => h σ' H' F2 (s.trans z)
  | bad => exact h
theorem gS {f : Env → Res BW.D} {P : VK} {k : BW.D → SR} (R : RS K F0 H0 F H σ env) (h : sR K W F0 H0 F D ((f env).sr k)) (cont : ∀ d v F1 H1, f env = .ok d → Ext F F1 H H1 → RS K F0 H0 F1 H1 σ env → Dq K F1 v d → sR K W F0 H0 F1 D (k d) → P v H1) : tE K W f σ H P := by
  refine ⟨F, env, R.re, ?_⟩
  cases q : f env with
  | ok d => rw [q] at h; exact fun v H' F' x z => cont d v F' H' q x (R.ext x) z (sR.up x.f h)
  | ex c => rw [q] at h; exact fun H' s => by obtain ⟨F', x, _⟩ := Ext.grown R.re.sub s; exact h σ H' F' x.f (R.x.trans x)
  | bad => rw [q] at h; exact h
theorem gSP {f : Env → Res BW.D} {P : VK} {k : BW.D → SR} (R : RS K F0 H0 F H σ env) (h : sR K W F0 H0 F D ((f env).sr k)) (cont : ∀ d v F1 H1, f env = .ok d → Ext F F1 H H1 → RS K F0 H0 F1 H1 σ env → Pk K F1 H1 v d → sR K W F0 H0 F1 D (k d) → P v H1) : tP K W f σ H P := by
  refine ⟨F, env, R.re, ?_⟩
  cases q : f env with
  | ok d => rw [q] at h; exact fun v H' F' x z => cont d v F' H' q x (R.ext x) z (sR.up x.f h)
  | ex c => rw [q] at h; exact fun H' s => by obtain ⟨F', x, _⟩ := Ext.grown R.re.sub s; exact h σ H' F' x.f (R.x.trans x)
  | bad => rw [q] at h; exact h
theorem gST {f : Env → Res Bool} {P : Bool → Hp → Prop} {k : Bool → SR} (R : RS K F0 H0 F H σ env) (h : sR K W F0 H0 F D ((f env).sr k)) (cont : ∀ d F1 H1, f env = .ok d → Ext F F1 H H1 → RS K F0 H0 F1 H1 σ env → sR K W F0 H0 F1 D (k d) → P d H1) : tT K W f σ H P := by
  refine ⟨F, env, R.re, ?_⟩
  cases q : f env with
  | ok d => rw [q] at h; exact fun H' F' x => cont d F' H' q x (R.ext x) (sR.up x.f h)
  | ex c => rw [q] at h; exact fun H' s => by obtain ⟨F', x, _⟩ := Ext.grown R.re.sub s; exact h σ H' F' x.f (R.x.trans x)
  | bad => rw [q] at h; exact h
theorem gSI {f : Env → Res (List BW.D)} {P : L2.It → Hp → Prop} {k : List BW.D → SR} (R : RS K F0 H0 F H σ env) (h : sR K W F0 H0 F D ((f env).sr k)) (cont : ∀ d J F1 H1, f env = .ok d → Ext F F1 H H1 → RS K F0 H0 F1 H1 σ env → Wk K J F1 F1 d → sR K W F0 H0 F1 D (k d) → P J H1) : tI K W false f σ H P := by
  refine ⟨F, env, R.re, ?_⟩
  cases q : f env with
  | ok d => rw [q] at h; exact fun J H' F' x z => cont d J F' H' q x (R.ext x) z (sR.up x.f h)
  | ex c => rw [q] at h; exact fun H' s => by obtain ⟨F', x, _⟩ := Ext.grown R.re.sub s; exact h σ H' F' x.f (R.x.trans x)
  | bad => rw [q] at h; exact h
theorem sr_noex {α : Type} {r : Res α} {k : α → SR} (h : sR K W F0 H0 F D (r.sr k)) (n : NoEx r) : ∃ a, r = .ok a ∧ sR K W F0 H0 F D (k a) := by
  cases r with
  | ok a => exact ⟨a, rfl, h⟩
  | ex c => exact absurd rfl (n c)
  | bad => exact h.elim
end
end BW

namespace BW
open PySem PySem.W L2 PySem.Spec PyProof.Rows
section
variable {X : Cx} {W : WN} {F0 H0 : Hp} {a b c e : Expr} {es : List Expr} {pos : Pos} {f g : Env → Res D} {fa : Env → Res (List D)} {st : Stmt} {sts as bs : List Stmt} {fs gs : Env → SR}
/-! ### in a row -/
theorem s_nil : PSs X [] (tS X.K W F0 H0 fun σ => .nx σ) := PSs.weak pss_nil fun D σ H ⟨F, env, R, h⟩ => h σ H F (Same.refl F) R
theorem s_cons (h1 : PS X st (tS X.K W F0 H0 fs)) (h2 : PSs X sts (tS X.K W F0 H0 gs)) : PSs X (st :: sts) (tS X.K W F0 H0 fun σ => (fs σ).andThen gs) :=
  PSs.weak (pss_cons h1 h2) fun D σ H ⟨F, env, R, h⟩ => ⟨F, env, R, by
    dsimp only at h
    cases q : fs env with
    | nx e => rw [q] at h; exact fun σ' H' F' s R' => ⟨F', e, R', sR.up s h⟩
    | rt d => rw [q] at h; exact h
    | bk e => rw [q] at h; exact h
    | ct e => rw [q] at h; exact h
    | ex c => rw [q] at h; exact h
    | bad => rw [q] at h; exact h⟩
/-- a list is frozen ahead of the rest -/
theorem s_fr {i : Nat} (h : PSs X sts (tS X.K W F0 H0 gs)) : PSs X sts (tS X.K W F0 H0 fun σ => (match getS σ i with | .ol ds => SR.nx (setS σ i (.fz (.list ds))) | .od kvs => .nx (setS σ i (.fz (.dict kvs))) | _ => .nx σ).andThen gs) :=
  PSs.weak h fun D σ H ⟨F, env, R, hh⟩ => by
    dsimp only at hh
    cases q : getS env i with
    | ol ds =>
      rw [q] at hh
      obtain ⟨F', s, R'⟩ := R.freeze q
      exact ⟨F', _, R', sR.up s hh⟩
    | un => rw [q] at hh; exact ⟨F, env, R, hh⟩
    | fz d => rw [q] at hh; exact ⟨F, env, R, hh⟩
    | od d =>
      rw [q] at hh
      obtain ⟨F', s, R'⟩ := R.freezeD q
      exact ⟨F', _, R', sR.up s hh⟩
theorem s_pass : PS X (.Pass pos) (tS X.K W F0 H0 fun σ => .nx σ) := PS.weak ps_pass fun D σ H ⟨F, env, R, h⟩ => h σ H F (Same.refl F) R
theorem s_doc {x : Str} {j : Nat} {pos' : Pos} : PS X (.Expr (.Constant (.str x) j pos) pos') (tS X.K W F0 H0 fun σ => .nx σ) := PS.weak ps_doc fun D σ H ⟨F, env, R, h⟩ => h σ H F (Same.refl F) R
theorem s_brk : PS X (.Break pos) (tS X.K W F0 H0 fun σ => .bk σ) := PS.weak ps_break fun D σ H ⟨F, env, R, h⟩ => h σ H F (Same.refl F) R
theorem s_cnt : PS X (.Continue pos) (tS X.K W F0 H0 fun σ => .ct σ) := PS.weak ps_continue fun D σ H ⟨F, env, R, h⟩ => h σ H F (Same.refl F) R
theorem s_ret (he : PE X e (tE X.K W f)) : PS X (.Return (some e) pos) (tS X.K W F0 H0 fun σ => (f σ).sr .rt) := PS.weak (ps_ret he) fun D σ H ⟨F, env, R, h⟩ => gS R h fun d v F1 H1 _ x1 R1 q h1 => h1 v H1 F1 (Same.refl _) R1.x q
theorem s_retN : PS X (.Return none pos) (tS X.K W F0 H0 fun σ => .rt .none) := PS.weak ps_retN fun D σ H ⟨F, env, R, h⟩ => h .non H F (Same.refl _) R.x .non
theorem s_xp (he : PE X e (tE X.K W f)) (hs : swapsWith e none pos.line X.env = pure false) : PS X (.Expr e pos) (tS X.K W F0 H0 fun σ => (f σ).sr fun _ => .nx σ) := PS.weak (ps_expr he hs) fun D σ H ⟨F, env, R, h⟩ => gS R h fun d v F1 H1 _ x1 R1 q h1 => h1 σ H1 F1 (Same.refl _) R1
theorem s_if (hc : PT X c (tT X.K W (evT f))) (ha : PSs X as (tS X.K W F0 H0 fs)) (hb : PSs X bs (tS X.K W F0 H0 gs)) : PS X (.If c as bs pos) (tS X.K W F0 H0 fun σ => (f σ).sr fun d => (asBool d).sr fun t => if t then fs σ else gs σ) :=
  PS.weak (ps_if hc ha hb) fun D σ H ⟨F, env, R, h⟩ => by
    have e : ((f env).sr fun d => (asBool d).sr fun t => if t then fs env else gs env) = (evT f env).sr fun t => if t then fs env else gs env := by
      unfold evT
      cases f env <;> rfl
    dsimp only at h
    rw [e] at h
    refine gST R h fun t F1 H1 _ x1 R1 h1 => ?_
    cases t with
    | true => exact ⟨F1, env, R1, h1⟩
    | false => exact ⟨F1, env, R1, h1⟩
/-! ### names are set -/
theorem v_E (he : PE X e (tE X.K W f)) : PE X e (tV X.K W false f) := he
theorem RS.notOwn {K : PySem.W.Frag} {F0 H0 F H : Hp} {σ : L2.St} {env : Env} (R : RS K F0 H0 F H σ env) {l : Addr} (n : H l = none) {j : Nat} : ¬ Own σ env j l := fun ow => by
  obtain ⟨_, ⟨_, _, _, z, _⟩ | ⟨_, _, _, z, _⟩⟩ := ow.obj R
  · rw [n] at z; cases z
  · rw [n] at z; cases z
theorem gSV {K : PySem.W.Frag} {F H : Hp} {σ : L2.St} {env : Env} {D : Ends} {o : Bool} {P : VK} {k : BW.D → SR} (R : RS K F0 H0 F H σ env) (h : sR K W F0 H0 F D ((f env).sr k)) (cont : ∀ d v F1 H1, f env = .ok d → Ext F F1 H H1 → RS K F0 H0 F1 H1 σ env → Vk K H0 F1 H1 v o d → (o = true → ∀ l, v = .ref l → H l = none) → sR K W F0 H0 F1 D (k d) → P v H1) : tV K W o f σ H P := by
  refine ⟨F, env, R.re, ?_⟩
  cases q : f env with
  | ok d =>
    rw [q] at h
    intro v H' F' x z
    refine cont d v F' H' q x (R.ext x) ?_ (fun ho l e => ?_) (sR.up x.f h)
    · cases o with
      | false => exact z
      | true =>
        obtain ⟨l, e, n, m⟩ := z
        exact ⟨l, e, R.x.h.free n, m⟩
    · subst ho
      obtain ⟨l', e', n, m⟩ := z
      rw [e] at e'
      cases e'
      exact n
  | ex c => rw [q] at h; exact fun H' s => by obtain ⟨F', x, _⟩ := Ext.grown R.re.sub s; exact h σ H' F' x.f (R.x.trans x)
  | bad => rw [q] at h; exact h
theorem nx_toSl (o : Bool) (d : D) : NoEx (toSl o d) := by cases o <;> cases d <;> first | exact NoEx.ok _ | exact NoEx.bad
theorem s_set {i : Nat} {x : Str} {p' : Pos} {o : Bool} (hN : X.N.Nodup) (hi : X.N[i]? = some x) (hx : Loc X.env.scope x) (hf : X.fn x = true ∨ X.env.scope.names.lookup x = some .local) (he : PE X e (tV X.K W o f)) (hs : swapsWith e (some (.Name x p')) pos.line X.env = pure false) :
    PS X (.Assign [.Name x p'] e pos) (tS X.K W F0 H0 fun σ => (f σ).sr fun d => (toSl o d).sr fun s => .nx (setS σ i s)) :=
  PS.weak (ps_set hN hi hx he hs hf) fun D σ H ⟨F, env, R, h⟩ => gSV R h fun d v F1 H1 _ x1 R1 q n h1 => by
    obtain ⟨s, e, h2⟩ := sr_noex h1 (nx_toSl _ _)
    exact h2 _ H1 F1 (Same.refl _) (R1.put i q e fun ho j l el => R.notOwn (n ho l el))
theorem s_unp {T : Tg} (he : PE X e (tE X.K W f)) (hg : PG X a (tG X.K T)) (hs : swapsWithSole [a] e pos.line X.env = pure false) (hw : swappedStores [a] e X.env = pure none) (h1 : (assignEach [a] X.env).map (·.2) = [assign a X.env]) :
    PS X (.Assign [a] e pos) (tS X.K W F0 H0 fun σ => (f σ).sr fun d => (bindT T d σ).sr .nx) :=
  PS.weak (ps_asg he hg hs hw h1) fun D σ H ⟨F, env, R, h⟩ => gS R h fun d v F1 H1 _ x1 R1 q h1 => by
    obtain ⟨env', e, h2⟩ := sr_noex h1 (nx_bindT _ _ _)
    exact ⟨F1, env, d, env', R1.re, q, e, fun σ' R' c => h2 σ' H1 F1 (Same.refl _) (R1.bindT e R' c)⟩
/-! ### loops -/
theorem s_for {iter tg : Expr} {body : List Stmt} {fi : Env → Res (List D)} {T : Tg} (ok : XOk X) (hp : PassesOwn (model X.prog X.w) X.A X.env X.xe) (hi : PI X tg iter (tI X.K W false fi)) (hg : PG X tg (tG X.K T)) (hb : PSs X body (tS X.K W F0 H0 fs)) (hs : ∀ x, foldedSetIterable iter X.env x = pure x) :
    PS X (.For tg iter body [] pos) (tS X.K W F0 H0 fun σ => (fi σ).sr fun xs => forR (fun d σ => (bindT T d σ).sr fs) xs σ) :=
  PS.weak (ps_for hp ok.calm hi hg hb hs) fun D σ H ⟨F, env, R, h⟩ => gSI R h fun ds J F1 H1 _ x1 R1 wk h1 => by
    refine ⟨fun i m σ H => m = ds.length - i ∧ i ≤ ds.length ∧ ∃ F2 env2, Same F1 F2 ∧ RS X.K F0 H0 F2 H σ env2 ∧ sR X.K W F0 H0 F2 D (forR (fun d σ => (bindT T d σ).sr fs) (ds.drop i) env2), ⟨ds.length, by simp, Nat.zero_le _, F1, env, Same.refl _, R1, by rw [List.drop_zero]; exact h1⟩, ?_⟩
    rintro i m σ H ⟨rfl, hi, F2, env2, s2, R2, h2⟩
    have s3 : Same F1 H := s2.trans R2.re.sub
    by_cases hlt : i < ds.length
    · refine .inr ⟨wk.goes i H hlt s3, fun σ' H' => ∃ F3 env3, Same F1 F3 ∧ RS X.K F0 H0 F3 H' σ' env3 ∧ sR X.K W F0 H0 F3 D (forR (fun d σ => (bindT T d σ).sr fs) (ds.drop (i + 1)) env3), fun σ' H' p => ⟨ds.length - (i + 1), by omega, rfl, hlt, p⟩, fun x H' y => ?_⟩
      obtain ⟨d, F3, hd, x3, qd⟩ := wk.yld i H x H' hlt s3 y F2 s2 R2.re.sub
      have R3 := R2.ext x3
      have h3 := sR.up x3.f h2
      have edrop : ds.drop i = d :: ds.drop (i + 1) := by
        rw [List.drop_eq_getElem_cons hlt]
        rw [List.getElem?_eq_getElem hlt] at hd
        rw [Option.some.inj hd]
      rw [edrop] at h3
      unfold forR at h3
      cases eb : bindT T d env2 with
      | ex c => exact absurd eb (nx_bindT _ _ _ c)
      | bad => rw [eb] at h3; exact h3.elim
      | ok env3 =>
        rw [eb] at h3
        refine ⟨F3, env2, d, env3, R3.re, qd, eb, fun σ' R' c => ⟨F3, env3, R3.bindT eb R' c, ?_⟩⟩
        have h3 : sR X.K W F0 H0 F3 D (match fs env3 with | .nx σ' => forR (fun d σ => (bindT T d σ).sr fs) (ds.drop (i + 1)) σ' | .ct σ' => forR (fun d σ => (bindT T d σ).sr fs) (ds.drop (i + 1)) σ' | .bk σ' => .nx σ' | y => y) := h3
        cases q : fs env3 with
        | nx e => rw [q] at h3; exact fun σ' H' F' s R' => ⟨F', e, s2.trans (x3.f.trans s), R', sR.up s h3⟩
        | ct e => rw [q] at h3; exact fun σ' H' F' s R' => ⟨F', e, s2.trans (x3.f.trans s), R', sR.up s h3⟩
        | bk e => rw [q] at h3; exact h3
        | rt d => rw [q] at h3; exact h3
        | ex c => rw [q] at h3; exact h3
        | bad => rw [q] at h3; exact h3
    · have e : i = ds.length := by omega
      subst e
      refine .inl ⟨wk.stops H s3, ?_⟩
      rw [List.drop_length] at h2
      exact h2 σ H F2 (Same.refl _) R2
theorem s_while {body : List Stmt} {fc : Env → Res Bool} {n : Nat} (hp : PassesOwn (model X.prog X.w) X.A X.env X.xe) (hc : PT X c (tT X.K W fc)) (hb : PSs X body (tS X.K W F0 H0 fs)) :
    PS X (.While c body [] pos) (tS X.K W F0 H0 fun σ => whileR fc fs n σ) :=
  PS.weak (ps_while hp hc hb) fun D σ H ⟨F, env, R, h⟩ => by
    refine ⟨fun m σ H => ∃ F env, RS X.K F0 H0 F H σ env ∧ sR X.K W F0 H0 F D (whileR fc fs m env), ⟨n, F, env, R, h⟩, ?_⟩
    rintro m σ H ⟨F, env, R, h⟩
    cases m with
    | zero => exact h.elim
    | succ m =>
      unfold whileR at h
      refine gST R h fun t F1 H1 _ x1 R1 h1 => ?_
      cases t with
      | false => exact h1 σ H1 F1 (Same.refl _) R1
      | true =>
        simp only [if_true] at h1 ⊢
        refine ⟨fun σ' H' => ∃ F3 env3, RS X.K F0 H0 F3 H' σ' env3 ∧ sR X.K W F0 H0 F3 D (whileR fc fs m env3), fun σ' H' p => ⟨m, Nat.lt_succ_self _, p⟩, F1, env, R1, ?_⟩
        cases q : fs env with
        | nx e => rw [q] at h1; exact fun σ' H' F' s R' => ⟨F', e, R', sR.up s h1⟩
        | ct e => rw [q] at h1; exact fun σ' H' F' s R' => ⟨F', e, R', sR.up s h1⟩
        | bk e => rw [q] at h1; exact h1
        | rt d => rw [q] at h1; exact h1
        | ex c => rw [q] at h1; exact h1
        | bad => rw [q] at h1; exact h1
/-! ### own lists -/
theorem own_var {i : Nat} {x : Str} (hN : X.N[i]? = some x) (hv : Vis X.env.scope x) (hd : (x == ("__debug__" : Str)) = false) (hcd : (x == ("__classdict__" : Str)) = false) : PE X (.Name x pos) (tVar i) := pe_var hN hv hd hcd
/-- what a slot must hold -/
theorem s_ol {i : Nat} {k : List D → Env → SR} {t : TS} (h : PS X st t) (w : ∀ D σ H F env ds l xs, RS X.K F0 H0 F H σ env → getS env i = .ol ds → σ[i]? = some (some (.ref l)) → Own σ env i l → H l = some (.lst xs) → DqAll X.K F xs ds → sR X.K W F0 H0 F D (k ds env) → t D σ H) :
    PS X st (tS X.K W F0 H0 fun σ => match getS σ i with | .ol ds => k ds σ | _ => .bad) :=
  PS.weak h fun D σ H ⟨F, env, R, hh⟩ => by
    dsimp only at hh
    cases q : getS env i with
    | ol ds =>
      rw [q] at hh
      obtain ⟨l, xs, e, o, h1, h2, h3, h4⟩ := R.ol q
      exact w D σ H F env ds l xs R q e o h1 h4 hh
    | un => rw [q] at hh; exact hh.elim
    | fz d => rw [q] at hh; exact hh.elim
    | od d => rw [q] at hh; exact hh.elim
theorem s_app {i : Nat} {x : Str} {ap cp p' : Pos} (hN : X.N[i]? = some x) (hv : Vis X.env.scope x) (hd : (x == ("__debug__" : Str)) = false) (hcd : (x == ("__classdict__" : Str)) = false) (he : PE X e (tE X.K W f)) (hb : attributeBase (.Name x p') "append" X.env (eval (.Name x p') X.env) = eval (.Name x p') X.env)
    (hfew : ((backTo cp (starEach [e] X.env)).all (fun x => !x.1) && (backToKw cp (keywordEach [] X.env)).all (fun x => x.1.isSome) && decide (([e] : List Expr).length + ([] : List Keyword).length + (if ([] : List Keyword).isEmpty then 0 else 1) < 30)) = true)
    (hl : (ap.endLine == cp.line) = true) (hs : starEach [e] X.env = (false, eval e X.env) :: starEach [] X.env) (hsw : swapsWith (.Call (.Attribute (.Name x p') "append" ap) [e] [] cp) none pos.line X.env = pure false) :
    PS X (.Expr (.Call (.Attribute (.Name x p') "append" ap) [e] [] cp) pos) (tS X.K W F0 H0 fun σ => match getS σ i with | .ol ds => (f σ).sr fun d => if sizeOk ds.length then .nx (setS σ i (.ol (ds ++ [d]))) else .bad | _ => .bad) :=
  s_ol (ps_expr (pe_bm PySem.F.plainAttrs_list PySem.F.slot_list_append PySem.F.type_list_append mt_append (pe_var hN hv hd hcd) (pa_cons he pa_nil hs) hb hfew hl hs rfl) hsw) fun D σ H F env ds l xs R q e o h1 h4 h => by
    refine ⟨_, e, .inl ⟨rfl, xs, .inl (.inl h1)⟩, ?_⟩
    refine gS R h fun d v F1 H1 _ x1 R1 q1 h2 => ?_
    have g1 := x1.h _ _ h1
    by_cases hz : sizeOk ds.length = true
    · rw [if_pos hz] at h2
      have hF : F1 l = none := (o.obj R1).1
      refine ⟨l, xs, v, rfl, rfl, g1, by rw [h4.length]; exact size_lt hz, ?_⟩
      exact h2 σ _ F1 (Same.refl _) (R1.mut o ⟨l, _, rfl, upd_same, hF, (h4.up x1.f).app (.cons q1 .nil)⟩)
    · rw [if_neg hz] at h2; exact h2.elim
/-- xs.extend(ys), ys a list that may be read -/
def rExtR : V → List V → Hp → VK → Prop := fun x vs H Q => ∃ l b xs zs, x = .ref l ∧ vs = [.ref b] ∧ H l = some (.lst xs) ∧ Rd H b (.lst zs) ∧ xs.length + zs.length ≤ sizeLine ∧ Q .non (upd H l (.lst (xs ++ zs)))
theorem mt_extR : MtM X "list.extend" rExtR := by
  intro pins s σ H x vs v us Q I rx rv h
  obtain ⟨l, b, xs, zs, rfl, rfl, hH, hB, hz, q⟩ := h
  cases rx
  obtain ⟨u, rfl, ru⟩ := rv.one
  cases ru
  obtain ⟨z, its, n, r, hl, e⟩ := I.lstM hH
  obtain ⟨z2, its2, n2, r2, hl2, e2⟩ := Inv.rdL I hB
  have hsz : its.toArray.size + its2.toArray.size ≤ sizeLine := by rw [List.size_toArray, List.size_toArray]; omega
  have hlong : ¬ (!its.toArray.isEmpty && Builtin.List.listTooLong (its.toArray.size + its2.toArray.size)) = true := by
    rw [notLongL hsz, Bool.and_false]
    exact Bool.false_ne_true
  refine call_meets F.slot_list_extend ⟨_, e, rfl⟩ F.entry_list_extend (F.args_list_extend_2 _ _)
    (AutoSeq1.list_extend_list_list_0 l its.toArray n b its2.toArray n2 hlong (by rw [List.size_toArray]; omega) (by omega)) ⟨e, e2, ?_⟩
  refine ⟨.non, _, I.lset (its' := its ++ its2) hH e (by simp) (r.append r2) ?_, rfl, q⟩
  rw [List.length_append]
  omega
theorem s_ext {i : Nat} {x : Str} {ap cp p' : Pos} (hN : X.N[i]? = some x) (hv : Vis X.env.scope x) (hd : (x == ("__debug__" : Str)) = false) (hcd : (x == ("__classdict__" : Str)) = false) (he : PE X e (tE X.K W f)) (hb : attributeBase (.Name x p') "extend" X.env (eval (.Name x p') X.env) = eval (.Name x p') X.env)
    (hfew : ((backTo cp (starEach [e] X.env)).all (fun x => !x.1) && (backToKw cp (keywordEach [] X.env)).all (fun x => x.1.isSome) && decide (([e] : List Expr).length + ([] : List Keyword).length + (if ([] : List Keyword).isEmpty then 0 else 1) < 30)) = true)
    (hl : (ap.endLine == cp.line) = true) (hs : starEach [e] X.env = (false, eval e X.env) :: starEach [] X.env) (hsw : swapsWith (.Call (.Attribute (.Name x p') "extend" ap) [e] [] cp) none pos.line X.env = pure false) :
    PS X (.Expr (.Call (.Attribute (.Name x p') "extend" ap) [e] [] cp) pos) (tS X.K W F0 H0 fun σ => match getS σ i with | .ol ds => (f σ).sr fun d => (match d with | .list ys => if sizeOk (ds.length + ys.length) then .nx (setS σ i (.ol (ds ++ ys))) else .bad | _ => .bad) | _ => .bad) :=
  s_ol (ps_expr (pe_bm PySem.F.plainAttrs_list PySem.F.slot_list_extend PySem.F.type_list_extend mt_extR (pe_var hN hv hd hcd) (pa_cons he pa_nil hs) hb hfew hl hs rfl) hsw) fun D σ H F env ds l xs R q e o h1 h4 h => by
    refine ⟨_, e, .inl ⟨rfl, xs, .inl (.inl h1)⟩, ?_⟩
    refine gS R h fun d v F1 H1 _ x1 R1 q1 h2 => ?_
    have g1 := x1.h _ _ h1
    cases d with
    | list ys =>
      dsimp only at h2
      by_cases hz : sizeOk (ds.length + ys.length) = true
      · rw [if_pos hz] at h2
        have hF : F1 l = none := (o.obj R1).1
        cases q1 with
        | lst z1 z2 =>
          refine ⟨l, _, xs, _, rfl, rfl, g1, Same.rd x1.sub z1, by rw [h4.length, z2.length]; exact size_line hz, ?_⟩
          exact h2 σ _ F1 (Same.refl _) (R1.mut o ⟨l, _, rfl, upd_same, hF, (h4.up x1.f).app z2⟩)
      · rw [if_neg hz] at h2; exact h2.elim
    | _ => exact h2.elim
/-! ### xs[i] = v -/
theorem nx_sr {α : Type} (d : D) : NoEx (asInt d) := nx_asInt d
def gIx (K : PySem.W.Frag) (W : WN) (i : Nat) (fx : Env → Res D) : TG := gSub (tVar i) (tE K W fx) rSetL
theorem keyD_eqv (k : Key) : ∀ {ks : List (Key × V)} {kvs : List (D × D)} {K : PySem.W.Frag} {F : Hp} {v : V} {d : D}, KvP K F ks kvs → Dq K F v d → KvP K F (ks.map (fun kv => if kv.1 = k then (kv.1, v) else kv)) (kvs.map (fun q => if PyData.eqv q.1 (keyD k) then (q.1, d) else q))
  | _, _, _, _, _, _, .nil, _ => .nil
  | _, _, _, _, _, _, .cons (k := k') a t, q => by
    simp only [List.map_cons, eqv_keyD]
    by_cases h : k' = k
    · simp only [h, if_true, decide_true]
      exact .cons q (keyD_eqv k t q)
    · simp only [h, if_false, decide_false]
      exact .cons a (keyD_eqv k t q)
theorem KvP.app {K : PySem.W.Frag} {F : Hp} : ∀ {ks : List (Key × V)} {kvs : List (D × D)} {js : List (Key × V)} {jvs : List (D × D)}, KvP K F ks kvs → KvP K F js jvs → KvP K F (ks ++ js) (kvs ++ jvs)
  | _, _, _, _, .nil, h => h
  | _, _, _, _, .cons a t, h => .cons a (t.app h)
theorem KvP.put {K : PySem.W.Frag} {F : Hp} {ks : List (Key × V)} {kvs : List (D × D)} {v : V} {d : D} (h : KvP K F ks kvs) (k : Key) (q : Dq K F v d) : KvP K F (putK ks k v) (putD kvs (keyD k) d) := by
  have e : (ks.any fun kv => decide (kv.1 = k)) = (kvs.any fun q => PyData.eqv q.1 (keyD k)) := by
    exact (KvP.any' k h).symm
  unfold putK putD
  rw [e]
  split
  · exact keyD_eqv k h q
  · exact h.app (.cons q .nil)
theorem s_setix {i : Nat} {x : Str} {ix : Expr} {p' : Pos} (ok : XOk X) (hN : X.N[i]? = some x) (hv : Vis X.env.scope x) (hd : (x == ("__debug__" : Str)) = false) (hcd : (x == ("__classdict__" : Str)) = false) (he : PE X e (tE X.K W f)) (hx : PE X ix (tE X.K W g))
    (ha : ∀ v, assign (.Subscript (.Name x p') ix pos) X.env v = (do
      let ov ← holding [v] (eval (.Name x p') X.env)
      let iv ← holding [v, ov] (eval ix X.env)
      standAt pos
      holding [v, ov, iv] (setItem ov iv v)
      release [v, ov, iv] []))
    {spos : Pos} (hs : swapsWithSole [.Subscript (.Name x p') ix pos] e spos.line X.env = pure false) (hw : swappedStores [.Subscript (.Name x p') ix pos] e X.env = pure none) (h1 : (assignEach [.Subscript (.Name x p') ix pos] X.env).map (·.2) = [assign (.Subscript (.Name x p') ix pos) X.env]) :
    PS X (.Assign [.Subscript (.Name x p') ix pos] e spos) (tS X.K W F0 H0 fun σ => match getS σ i with
      | .ol ds => (f σ).sr fun d => (g σ).sr fun j => (asInt j).sr fun k => (match listIx ds k with
        | some m => .nx (setS σ i (.ol (ds.set m d)))
        | none => .bad)
      | .od kvs => (f σ).sr fun d => (g σ).sr fun j => (match keyOf j with
        | some _ => if sizeOk kvs.length then .nx (setS σ i (.od (putD kvs j d))) else .bad
        | none => .bad)
      | _ => .bad) := by
  have hu : X.A.units + 1 < cLine := by have := ok.room; omega
  have k1 := ps_asg (pos := spos) he (pg_sub (pe_var (pos := p') hN hv hd hcd) hx set_list ha) hs hw h1
  have k2 := ps_asg (pos := spos) he (pg_sub (pe_var (pos := p') hN hv hd hcd) hx (L2.set_dict hu) ha) hs hw h1
  refine ⟨fun pins s σ H D I ⟨F, env, R, hh⟩ => ?_⟩
  dsimp only at hh
  cases q : getS env i with
  | un => rw [q] at hh; exact hh.elim
  | fz d => rw [q] at hh; exact hh.elim
  | ol ds =>
    rw [q] at hh
    refine k1.run pins s σ H D I ?_
    obtain ⟨l, xs, e, o, h1, h2, h3, h4⟩ := R.ol q
    refine gS R hh fun d v F1 H1 _ x1 R1 q1 h2 => ?_
    refine ⟨_, e, gS R1 h2 fun j w F2 H2 _ x2 R2 q2 h5 => ?_⟩
    obtain ⟨k, ej, h6⟩ := sr_noex h5 (nx_asInt _)
    cases asInt_ok ej
    cases q2
    have g1 := x2.h _ _ (x1.h _ _ h1)
    have hF : F2 l = none := (o.obj R2).1
    cases em : listIx ds k with
    | none => rw [em] at h6; exact h6.elim
    | some m =>
      rw [em] at h6
      refine ⟨l, xs, k, m, rfl, rfl, g1, by rw [h4.length]; exact em, ?_⟩
      exact h6 σ _ F2 (Same.refl _) (R2.mut o ⟨l, _, rfl, upd_same, hF, ((h4.up x1.f).up x2.f).set (q1.up x2.f) m⟩)
  | od kvs =>
    rw [q] at hh
    refine k2.run pins s σ H D I ?_
    obtain ⟨l, xs, e, o, h1, h2, h3, h4⟩ := R.od q
    refine gS R hh fun d v F1 H1 _ x1 R1 q1 h2 => ?_
    refine ⟨_, e, gS R1 h2 fun j w F2 H2 _ x2 R2 q2 h5 => ?_⟩
    have g1 := x2.h _ _ (x1.h _ _ h1)
    have hF : F2 l = none := (o.obj R2).1
    cases ek : keyOf j with
    | none => rw [ek] at h5; exact h5.elim
    | some k =>
      rw [ek] at h5
      dsimp only at h5
      by_cases hz : sizeOk kvs.length = true
      · rw [if_pos hz] at h5
        cases keyOf_some ek
        have ew : w = kV k := (Pk.dq q2 : Pk X.K F2 H2 w (keyD k)).key
        subst ew
        have hlen := size_lt hz
        rw [← h4.length] at hlen
        exact ⟨l, _, rfl, DPut.k g1 hlen, h5 σ _ F2 (Same.refl _) (R2.mut o ⟨l, _, rfl, upd_same, hF, ((h4.up x1.f).up x2.f).put k (q1.up x2.f)⟩)⟩
      · rw [if_neg hz] at h5; exact h5.elim
end
end BW

namespace BW
open PySem PySem.W L2 PySem.Spec PyProof.Rows
/-! ### new lists and dicts that are this def's own -/
theorem vF_sr {α : Type} {o : Bool} {f : Env → Res D} {σ : Env} {k : Sl → SR} : ((vF o f σ).sr fun d => (toSl o d).sr k) = (f σ).sr fun d => (toSl o d).sr k := by
  cases o with
  | false => rfl
  | true =>
    show ((f σ >>= freshD).sr fun d => (toSl true d).sr k) = (f σ).sr fun d => (toSl true d).sr k
    cases f σ with
    | ok d => cases d <;> rfl
    | ex c => rfl
    | bad => rfl
theorem nx_freshD (d : D) : NoEx (freshD d) := by cases d <;> first | exact NoEx.ok _ | exact NoEx.bad
section
variable {X : Cx} {W : WN} {F0 H0 : Hp} {a b c e : Expr} {es : List Expr} {pos : Pos} {f g : Env → Res D} {fa : Env → Res (List D)} {st : Stmt} {sts as bs : List Stmt} {fs gs : Env → SR}
theorem new_lstV {K : PySem.W.Frag} {F H : Hp} {Q : VK} {ds : List D} {xs : List V} (e : Same F H) (h : okV K true Q F H (.list ds)) (q : DqAll K F xs ds) : ∀ p, H p = none → Q (.ref p) (upd H p (.lst xs)) := fun p hp => by
  have hF : F p = none := by
    cases z : F p with
    | none => rfl
    | some u => rw [e _ _ z] at hp; cases hp
  exact h _ _ F (Ext.own e hp) ⟨p, rfl, hp, hF, .lst upd_same q⟩
theorem PE.weakV {e : Expr} {o : Bool} {f f' : Env → Res D} (h : PE X e (tV X.K W o f)) (w : ∀ σ, f' σ = f σ ∨ f' σ = .bad) : PE X e (tV X.K W o f') := PE.weak h fun σ H Q ⟨F, env, R, hh⟩ => ⟨F, env, R, by
  rcases w env with z | z
  · rw [z] at hh; exact hh
  · rw [z] at hh; exact hh.elim⟩
theorem v_lst (ha : PA X es (tA X.K W fa)) (hl : ∀ env ds, fa env = .ok ds → ds.length ≤ 1000000) : PE X (.List es pos) (tV X.K W true fun σ => do let ds ← fa σ; .ok (.list ds)) :=
  PE.weak (pe_lst ha) fun σ H Q ⟨F, env, R, h⟩ => goA mnV R h fun ds vs F1 H1 e x1 R1 p1 h1 =>
    ⟨by rw [p1.length]; exact Nat.le_trans (hl env ds e) (by rw [sizeLine_eq]; decide), new_lstV x1.sub h1 p1⟩
theorem opF_inv {o : Op} {x y d : D} (h : opD o x y >>= freshD = .ok d) : (o = .add ∧ ∃ xs ys, x = .list xs ∧ y = .list ys ∧ sizeOk (xs.length + ys.length) = true ∧ d = .list (xs ++ ys)) ∨
    (o = .mul ∧ ∃ xs j, x = .list xs ∧ y = .int j ∧ 0 ≤ j ∧ j ≤ 1000000 ∧ sizeOk (xs.length * j.toNat) = true ∧ d = .list (List.replicate j.toNat xs).flatten) := by
  obtain ⟨d', e1, e2⟩ := bind_ok h
  unfold opD at e1
  split at e1 <;> first
    | (cases e1; cases e2; done)
    | (cases e1; done)
    | (obtain ⟨_, rfl⟩ := ite_okb e1; cases e2; done)
    | skip
  · obtain ⟨hz, rfl⟩ := ite_okb e1
    cases e2
    exact .inl ⟨rfl, _, _, rfl, rfl, hz, rfl⟩
  · obtain ⟨hz, rfl⟩ := ite_okb e1
    cases e2
    simp only [Bool.and_eq_true, decide_eq_true_eq] at hz
    exact .inr ⟨rfl, _, _, rfl, rfl, hz.1.1, hz.1.2, hz.2, rfl⟩
theorem v_op (o : Op) (ho : o = .add ∨ o = .mul) (ha : PE X a (tP X.K W f)) (hb : PE X b (tP X.K W g)) : PE X (.BinOp a (opM o) b pos) (tV X.K W true fun σ => (do let x ← f σ; let y ← g σ; opD o x y) >>= freshD) := by
  have hb2 : ∀ σ, ((do let x ← f σ; let y ← g σ; opD o x y) >>= freshD) = (do let x ← f σ; let y ← g σ; (opD o x y >>= freshD)) := fun σ => by
    cases f σ <;> first | rfl | skip
    cases g σ <;> rfl
  have key : ∀ σ H Q, tV X.K W true (fun σ => (do let x ← f σ; let y ← g σ; opD o x y) >>= freshD) σ H Q → tP X.K W f σ H fun x H1 => tP X.K W g σ H1 fun y H2 => ∃ F2 dx dy d, Same F2 H2 ∧ Pk X.K F2 H2 x dx ∧ Pk X.K F2 H2 y dy ∧ opD o dx dy >>= freshD = .ok d ∧ okV X.K true Q F2 H2 d := by
    intro σ H Q ⟨F, env, R, h⟩
    dsimp only at h
    rw [hb2] at h
    refine goP mnV R h fun dx v F1 H1 _ x1 R1 p1 h1 => goP mnV R1 h1 fun dy w F2 H2 _ x2 R2 p2 h2 => ?_
    obtain ⟨d, e, q⟩ := h2.noex (NoEx.bind (nx_opD _ _ _) nx_freshD)
    exact ⟨F2, dx, dy, d, x2.sub, p1.ext x2, p2, e, q⟩
  rcases ho with rfl | rfl
  · refine PE.weak (pe_op (r := fun x y H2 Q => ∃ F2 dx dy d, Same F2 H2 ∧ Pk X.K F2 H2 x dx ∧ Pk X.K F2 H2 y dy ∧ opD .add dx dy >>= freshD = .ok d ∧ okV X.K true Q F2 H2 d) ?_ ha hb) key
    intro pins s σ H x y v u Q I rx ry ⟨F2, dx, dy, d, s2, p1, p2, e, q⟩
    rcases opF_inv e with ⟨_, xs, ys, rfl, rfl, hz, rfl⟩ | ⟨z, _⟩
    · obtain ⟨l, vs, rfl, z1, z2⟩ := p1.lst s2
      obtain ⟨l2, vs2, rfl, z3, z4⟩ := p2.lst s2
      exact op_catR pins s σ H _ _ v u Q I rx ry ⟨l, l2, vs, vs2, rfl, rfl, z1, z3, by rw [z2.length, z4.length]; exact size_line hz, new_lstV s2 q (z2.app z4)⟩
    · cases z
  · refine PE.weak (pe_op (r := fun x y H2 Q => ∃ F2 dx dy d, Same F2 H2 ∧ Pk X.K F2 H2 x dx ∧ Pk X.K F2 H2 y dy ∧ opD .mul dx dy >>= freshD = .ok d ∧ okV X.K true Q F2 H2 d) ?_ ha hb) key
    intro pins s σ H x y v u Q I rx ry ⟨F2, dx, dy, d, s2, p1, p2, e, q⟩
    rcases opF_inv e with ⟨z, _⟩ | ⟨_, xs, j, rfl, rfl, hj, hj2, hz, rfl⟩
    · cases z
    · obtain ⟨l, vs, rfl, z1, z2⟩ := p1.lst s2
      cases p2.int
      exact op_repR pins s σ H _ _ v u Q I rx ry ⟨l, j, vs, rfl, rfl, z1, by omega, by omega, by rw [z2.length]; exact size_line hz, new_lstV s2 q (z2.rep _)⟩
/-- {} -/
theorem v_dnil : PE X (.Dict [] [] pos) (tV X.K W true fun _ => .ok (.dict [])) := PE.weak pe_dnewK fun σ H Q ⟨F, env, R, h⟩ => by
  intro p hp
  have hF : F p = none := by
    cases z : F p with
    | none => rfl
    | some u => rw [R.sub _ _ z] at hp; cases hp
  exact h _ _ F (Ext.own R.sub hp) ⟨p, rfl, hp, hF, .dk upd_same .nil⟩
theorem s_setLc {o : Bool} {i : Nat} {y : Str} {py : Pos} {elt tg iter : Expr} {ifs : List Expr} {scope : Scope} {own : List (Str × Nat)} {spos : Pos} {fi : Env → Res (List D)} {T : Tg} {fc : Env → Res Bool} {fe : Env → Res D} (ok : XOk X) (hy : X.N[i]? = some y) (hyl : X.env.scope.names.lookup y = some .local)
    (hsw : swapsWith (.ListComp elt [⟨tg, iter, ifs, 0⟩] scope pos) (some (.Name y py)) spos.line X.env = pure true) (hi : PI X tg iter (tI X.K W true fi)) (bo : BlkOk X.N X.env.scope scope own)
    (hg : ∀ (s : Shared) (H : Hp) (C : Addr) (cl : List (Str × Addr)) (fp : List Addr), PG (X.blk s H scope (compEnvC scope cl C X.env) fp) tg (tG X.K T)) (ht : ∀ (s : Shared) (H : Hp) (C : Addr) (cl : List (Str × Addr)) (fp : List Addr), PTs (X.blk s H scope (compEnvC scope cl C X.env) fp) ifs (tT X.K W0 fc))
    (he : ∀ (s : Shared) (H : Hp) (C : Addr) (cl : List (Str × Addr)) (fp : List Addr), PE (X.blk s H scope (compEnvC scope cl C X.env) fp) elt (tE X.K W0 fe)) (hs : ∀ x, foldedSetIterable iter X.env x = pure x) (hT : ∀ i ∈ T.sl, i ∈ own.map (·.2)) :
    PS X (.Assign [.Name y py] (.ListComp elt [⟨tg, iter, ifs, 0⟩] scope pos) spos) (tS X.K W F0 H0 fun σ => (compD fi T fc fe (own.map (·.2)) σ).sr fun d => (toSl o d).sr fun s => .nx (setS σ i s)) :=
  PS.weak (ps_setLc ok.calm ok.nd hy hyl hsw hi bo hg ht he hs) fun D σ H ⟨F, env, R, h⟩ => lc_rd hT o σ H _ (gSV R h fun d v F1 H1 _ x1 R1 q n h1 => by
    obtain ⟨s, e, h2⟩ := sr_noex h1 (nx_toSl _ _)
    exact h2 _ H1 F1 (Same.refl _) (R1.put i q e fun ho j l el => R.notOwn (n ho l el)))
/-! ### more statements -/
theorem ipD (o : Op) (ho : augOk o = true) : PIp X (opM o) (fun x y H Q => ∃ i j k, x = .int i ∧ y = .int j ∧ opD o (.int i) (.int j) = .ok (.int k) ∧ Q (.int k) H) := by
  intro pins s σ H x y v u Q I rx ry ⟨i, j, k, hx, hy, e, q⟩
  cases o <;> try cases ho
  · cases e; exact iop_add pins s σ H x y v u Q I rx ry ⟨i, j, hx, hy, q⟩
  · cases e; exact iop_sub pins s σ H x y v u Q I rx ry ⟨i, j, hx, hy, q⟩
  · obtain ⟨hz, e⟩ := ite_ok (show (if (smallI i || smallI j) = true then Res.ok (PyData.int (i * j)) else .bad) = .ok (.int k) from e)
    cases e
    refine iop_mul pins s σ H x y v u Q I rx ry ⟨i, j, hx, hy, ?_, q⟩
    rcases Bool.or_eq_true_iff.mp hz with z | z
    · exact .inl (smallI_of z)
    · exact .inr (smallI_of z)
theorem opD_int {o : Op} {i j : Int} {d : D} (h : opD o (.int i) (.int j) = .ok d) : ∃ k, d = .int k := by
  cases o <;> simp only [opD] at h <;> first | (cases h; exact ⟨_, rfl⟩) | (obtain ⟨_, rfl⟩ := ite_ok h; exact ⟨_, rfl⟩)
theorem s_aug {i : Nat} {x : Str} {p' : Pos} {o : Op} (ok : XOk X) (hi : X.N[i]? = some x) (hx : Loc X.env.scope x) (hf : X.fn x = true ∨ X.env.scope.names.lookup x = some .local) (ho : augOk o = true) (he : PE X e (tE X.K W f)) :
    PS X (.AugAssign (.Name x p') (opM o) e pos) (tS X.K W F0 H0 fun σ => (strict σ i).sr fun x => (f σ).sr fun y => match x, y with
      | .int _, .int _ => if augOk o then (opD o x y).sr fun d => .nx (setS σ i (.fz d)) else .bad
      | _, _ => .bad) :=
  PS.weak (ps_aug ok.nd hi hx he (ipD o ho) hf) fun D σ H ⟨F, env, R, h⟩ => by
    obtain ⟨d, e1, h1⟩ := sr_noex h (nx_strict _ _)
    obtain ⟨v, e2, q⟩ := slot_strict R.re e1
    refine ⟨v, e2, gS R h1 fun d2 w F1 H1 _ x1 R1 q2 h2 => ?_⟩
    cases d <;> try (exact h2.elim)
    cases d2 <;> try (exact h2.elim)
    dsimp only at h2
    rw [if_pos ho] at h2
    obtain ⟨d3, e3, h3⟩ := sr_noex h2 (nx_opD _ _ _)
    obtain ⟨k, rfl⟩ := opD_int e3
    cases q
    cases q2
    exact ⟨_, _, k, rfl, rfl, e3, h3 _ H1 F1 (Same.refl _) (R1.fz i (.int k))⟩
theorem s_par {i j : Nat} {x y : Str} {px py pt : Pos} {kt k2 : Nat} {pt2 : Pos} {o1 o2 : Bool} (ok : XOk X) (hi : X.N[i]? = some x) (hj : X.N[j]? = some y) (hij : i ≠ j) (hx : X.env.scope.names.lookup x = some .local) (hy : X.env.scope.names.lookup y = some .local)
    (ha : PE X a (tV X.K W o1 f)) (hb : PE X b (tV X.K W o2 g)) (s1 : starEach [a, b] X.env = (false, eval a X.env) :: starEach [b] X.env) (s2 : starEach [b] X.env = (false, eval b X.env) :: starEach [] X.env)
    (hw : swappedStores [.Tuple [.Name x px, .Name y py] kt pt] (.Tuple [a, b] k2 pt2) X.env = pure (some [x, y]))
    (hs : swapsWithSole [.Tuple [.Name x px, .Name y py] kt pt] (.Tuple [a, b] k2 pt2) pos.line X.env = pure false) :
    PS X (.Assign [.Tuple [.Name x px, .Name y py] kt pt] (.Tuple [a, b] k2 pt2) pos) (tS X.K W F0 H0 fun σ => (f σ).sr fun d1 => (g σ).sr fun d2 => (toSl o1 d1).sr fun s1 => (toSl o2 d2).sr fun s2 => .nx (setS (setS σ i s1) j s2)) :=
  PS.weak (ps_par ok.calm ok.nd hi hj hij hx hy (pa_cons ha (pa_cons hb pa_nil s2) s1) hw hs) fun D σ H ⟨F, env, R, h⟩ =>
    gSV R h fun d1 v F1 H1 _ x1 R1 q1 n1 h1 => gSV R1 h1 fun d2 w F2 H2 _ x2 R2 q2 n2 h2 => by
      obtain ⟨t1, e1, h3⟩ := sr_noex h2 (nx_toSl _ _)
      obtain ⟨t2, e2, h4⟩ := sr_noex h3 (nx_toSl _ _)
      refine ⟨v, w, rfl, h4 _ H2 F2 (Same.refl _) ((R2.put i (q1.ext x2) e1 fun ho j l el => R.notOwn (n1 ho l el)).put j q2 e2 fun ho k l el ow => ?_)⟩
      have z1 := n2 ho l el
      rcases own_set R2.re.len ow with ⟨_, _, ev, z⟩ | ⟨_, z⟩
      · cases o1 with
        | false => cases e1; rcases z with ⟨_, z⟩ | ⟨_, z⟩ <;> cases z
        | true =>
          obtain ⟨l2, e2', _, m2, z2⟩ := q1
          rw [ev] at e2'
          cases e2'
          cases z2 with
          | lst z2 _ => rw [z1] at z2; cases z2
          | dk z2 _ => rw [z1] at z2; cases z2
      · exact R1.notOwn z1 z
end
end BW

namespace BW
open PySem PySem.W L2 PySem.Spec PyProof.Rows
section
variable {X : Cx} {W : WN} {F0 H0 : Hp} {a b c e : Expr} {es : List Expr} {pos tpos : Pos} {f g : Env → Res D} {st : Stmt}
/-! ### xs[i] op= e -/
def rGetL : V → V → Hp → VK → Prop := fun x y H Q => ∃ p xs i v, x = .ref p ∧ y = .int i ∧ H p = some (.lst xs) ∧ atI xs i = some v ∧ Q v H
theorem get_listO : PGet X rGetL := by
  intro pins s σ H o i ov iv Q I ro ri ⟨p, xs, k, z, h1, h2, hp, he, q⟩
  subst h1 h2
  cases ro
  obtain ⟨t, rfl⟩ := ri
  obtain ⟨its, r, pl, hz⟩ := I.list (.inl (.inl hp))
  obtain ⟨j, e1, e2, e3, e4, e5⟩ := atI_get he
  obtain ⟨w, ew, rw'⟩ := r.get e2
  have hl := r.length
  have hn := line63
  have fin : EP X pins σ Q w s := ⟨z, H, I, rw', q⟩
  by_cases h0 : 0 ≤ k
  · have hj : k.toNat = j := by
      rw [seqIndex_of h0 e5] at e1
      exact Option.some.inj e1
    exact wpAny_getItem_list pl.isList h0 (by omega) (by rw [hj]; simpa using ew) fin
  · have hj : (k + (its.toArray.size : Int)).toNat = j := by
      rw [seqIndex_neg (by omega) e4] at e1
      rw [List.size_toArray, ← hl]
      exact Option.some.inj e1
    exact wpAny_getItem_list_neg pl.isList (by omega) (by rw [List.size_toArray] <;> omega) (by omega) (by rw [hj]; simpa using ew) fin
theorem atI_of_ix {α : Type} {xs : List α} {i : Int} {j : Nat} {v : α} (h : ixN xs.length i = some j) (h2 : xs[j]? = some v) : atI xs i = some v := by
  unfold atI
  rw [h]
  exact h2
def augIx (f : Env → Res D) (o : Op) (σ : Env) (i : Nat) (ds : List D) (m : Nat) : SR := match ds[m]? with
  | some (.int u) => (f σ).sr fun y => (asInt y).sr fun w => if augOk o then (opD o (.int u) (.int w)).sr fun d => .nx (setS σ i (.ol (ds.set m d))) else .bad
  | _ => .bad
theorem s_augix {i : Nat} {x : Str} {ix : Expr} {p' : Pos} {o : Op} (hN : X.N[i]? = some x) (hv : Vis X.env.scope x) (hd : (x == ("__debug__" : Str)) = false) (hcd : (x == ("__classdict__" : Str)) = false) (ho : augOk o = true) (he : PE X e (tE X.K W f)) (hx : PE X ix (tE X.K W g))
    (ha : ∀ ov iv new, augStore ix ov iv new = (do holding [new, ov, iv] (setItem ov iv new); release [new, ov, iv] []; pure .next)) :
    PS X (.AugAssign (.Subscript (.Name x p') ix tpos) (opM o) e pos) (tS X.K W F0 H0 fun σ => match getS σ i with
      | .ol ds => (g σ).sr fun j => (asInt j).sr fun k => match listIx ds k with
        | some m => augIx f o σ i ds m
        | none => .bad
      | _ => .bad) :=
  PS.weak (ps_augS (pe_var (pos := p') hN hv hd hcd) hx get_listO he (ipD o ho) set_list ha) fun D σ H ⟨F, env, R, hh⟩ => by
    dsimp only at hh
    cases q : getS env i with
    | un => rw [q] at hh; exact hh.elim
    | fz d => rw [q] at hh; exact hh.elim
    | od d => rw [q] at hh; exact hh.elim
    | ol ds =>
      rw [q] at hh
      obtain ⟨l, xs, e, ow, h1, h2, h3, h4⟩ := R.ol q
      refine ⟨_, e, gS R hh fun j w F1 H1 _ x1 R1 q1 h5 => ?_⟩
      obtain ⟨k, ej, h6⟩ := sr_noex h5 (nx_asInt _)
      cases asInt_ok ej
      cases q1
      have g1 := x1.h _ _ h1
      cases em : listIx ds k with
      | none => rw [em] at h6; exact h6.elim
      | some m =>
        rw [em] at h6
        unfold augIx at h6
        cases eu : ds[m]? with
        | none => simp only [eu] at h6; exact h6.elim
        | some du =>
          simp only [eu] at h6
          cases du <;> try (exact h6.elim)
          rename_i u
          dsimp only at h6
          have h4' := h4.up x1.f
          obtain ⟨vu, ev, qu⟩ := h4'.get' eu
          cases qu
          have em' : ixN xs.length k = some m := by rw [h4.length]; exact em
          refine ⟨l, xs, k, _, rfl, rfl, g1, atI_of_ix em' ev, gS R1 h6 fun d2 w2 F2 H2 _ x2 R2 q2 h7 => ?_⟩
          obtain ⟨w3, ew, h8⟩ := sr_noex h7 (nx_asInt _)
          cases asInt_ok ew
          cases q2
          rw [if_pos ho] at h8
          obtain ⟨d3, e3, h9⟩ := sr_noex h8 (nx_opD _ _ _)
          obtain ⟨z, rfl⟩ := opD_int e3
          have hF : F2 l = none := (ow.obj R2).1
          refine ⟨_, _, z, rfl, rfl, e3, l, xs, k, m, rfl, rfl, x2.h _ _ g1, em', ?_⟩
          exact h9 σ _ F2 (Same.refl _) (R2.mut ow ⟨l, _, rfl, upd_same, hF, (h4'.up x2.f).set (.int z) m⟩)
/-! ### y = xs.pop() -/
theorem s_pop {i j : Nat} {x y : Str} {ap cp p' py : Pos} (nd : X.N.Nodup) (hij : i ≠ j) (hN : X.N[i]? = some x) (hv : Vis X.env.scope x) (hd : (x == ("__debug__" : Str)) = false) (hcd : (x == ("__classdict__" : Str)) = false) (hi : X.N[j]? = some y) (hx : Loc X.env.scope y) (hf : X.fn y = true ∨ X.env.scope.names.lookup y = some .local)
    (hb : attributeBase (.Name x p') "pop" X.env (eval (.Name x p') X.env) = eval (.Name x p') X.env) (hl : (ap.endLine == cp.line) = true) (hs : swapsWith (.Call (.Attribute (.Name x p') "pop" ap) [] [] cp) (some (.Name y py)) pos.line X.env = pure false) :
    PS X (.Assign [.Name y py] (.Call (.Attribute (.Name x p') "pop" ap) [] [] cp) pos) (tS X.K W F0 H0 fun σ => match getS σ i with
      | .ol ds => (match ds[ds.length - 1]? with
        | some d => .nx (setS (setS σ i (.ol ds.dropLast)) j (.fz d))
        | none => .bad)
      | _ => .bad) :=
  PS.weak (ps_set nd hi hx (pe_bm0 PySem.F.plainAttrs_list PySem.F.slot_list_pop PySem.F.type_list_pop mt_pop (pe_var hN hv hd hcd) hb hl) hs hf) fun D σ H ⟨F, env, R, hh⟩ => by
    dsimp only at hh
    cases q : getS env i with
    | un => rw [q] at hh; exact hh.elim
    | fz d => rw [q] at hh; exact hh.elim
    | od d => rw [q] at hh; exact hh.elim
    | ol ds =>
      rw [q] at hh
      obtain ⟨l, xs, e, ow, h1, h2, h3, h4⟩ := R.ol q
      cases eu : ds[ds.length - 1]? with
      | none => simp only [eu] at hh; exact hh.elim
      | some d =>
        simp only [eu] at hh
        obtain ⟨v, ev, qv⟩ := h4.get' eu
        refine ⟨_, e, .inl ⟨rfl, xs, .inl (.inl h1)⟩, l, xs, v, rfl, rfl, h1, by rw [h4.length]; exact ev, ?_⟩
        have hdl : DqAll X.K F xs.dropLast ds.dropLast := by
          rw [List.dropLast_eq_take, List.dropLast_eq_take, h4.length]
          exact h4.take _
        have RM : RS X.K F0 H0 F (upd H l (.lst xs.dropLast)) σ (setS env i (.ol ds.dropLast)) := R.mut ow ⟨l, _, rfl, upd_same, (ow.obj R).1, hdl⟩
        exact hh _ _ F (Same.refl _) (RM.fz j qv)
end
end BW

namespace BW
open PySem PySem.W L2 PySem.Spec PyProof.Rows
/-- one item of a dict comprehension -/
def dcompF (T : Tg) (fc : Env → Res Bool) (fk fv : Env → Res D) (vs : List Nat) (env : Env) : D → Res (Option (D × D)) := fun d => (do
  let σ' ← bindT T d (wipeS env vs)
  let b ← fc σ'
  if b then do
    let y ← fk σ'
    let z ← fv σ'
    .ok (some (y, z))
  else .ok none).quiet
def dcompD (fi : Env → Res (List D)) (T : Tg) (fc : Env → Res Bool) (fk fv : Env → Res D) (vs : List Nat) : Env → Res D := fun env => do
  let xs ← fi env
  let ys ← dcompR (dcompF T fc fk fv vs env) xs []
  .ok (.dict ys)
theorem nx_dcompR {f : D → Res (Option (D × D))} (h : ∀ d, NoEx (f d)) : ∀ (xs : List D) (acc : List (D × D)), NoEx (dcompR f xs acc)
  | [], _ => NoEx.ok _
  | x :: xs, acc => NoEx.bind (h x) fun o => by
    cases o with
    | none => exact nx_dcompR h xs acc
    | some q => exact NoEx.ite (nx_dcompR h xs _) NoEx.bad
section
variable {X : Cx} {W : WN} {F0 H0 : Hp}
theorem goXd {β : Type} {okb : Hp → Hp → β → Prop} {F H : Hp} {σ : L2.St} {f : D → Res (Option (D × D))} {xs : List D} {k : List (D × D) → Res β} (n : ∀ d, NoEx (f d)) (h : rs W σ F H okb (dcompR f xs [] >>= k)) : ∃ ys, dcompR f xs [] = .ok ys ∧ rs W σ F H okb (k ys) := by
  cases q : dcompR f xs [] with
  | ok d => rw [q] at h; exact ⟨d, rfl, h⟩
  | ex c => exact absurd q (nx_dcompR n _ _ c)
  | bad => rw [q] at h; exact h.elim
theorem dc_rd {fi : Env → Res (List D)} {T : Tg} {fc : Env → Res Bool} {fk fv : Env → Res D} {vs : List Nat} (hT : ∀ i ∈ T.sl, i ∈ vs) (o : Bool) (σ : L2.St) (H : Hp) (Q : VK) (h : tV X.K W o (dcompD fi T fc fk fv vs) σ H Q) :
    tDc (tI X.K W true fi) (tG X.K T) (tT X.K W0 fc) (tE X.K W0 fk) (tE X.K W0 fv) vs σ H Q := by
  obtain ⟨F, env, R, h⟩ := h
  refine ⟨F, env, R, ?_⟩
  unfold dcompD at h
  cases q0 : fi env with
  | ex c => rw [q0] at h; exact h
  | bad => rw [q0] at h; exact h
  | ok ds =>
  rw [q0] at h
  intro J H1 F1 x1 wk L hL
  simp only [if_true] at wk
  have h := rs.ext (W := W) (σ := σ) mnV x1 h
  obtain ⟨ys, hy, h⟩ := goXd (fun d => nx_quiet _) h
  have R1 := R.ext x1
  let Pv : Nat → Hp → Prop := fun i Hc => ∃ F2 Hb acc accd, Hc = upd Hb L (.dK acc) ∧ Hb L = none ∧ Ext F1 F2 H1 Hb ∧ KvP X.K F2 acc accd ∧ dcompR (dcompF T fc fk fv vs env) (ds.drop i) accd = .ok ys
  have start : Pv 0 (upd H1 L (.dK [])) := ⟨F1, H1, [], [], rfl, hL, Ext.refl x1.sub, .nil, by rw [List.drop_zero]; exact hy⟩
  refine ⟨fun i m Hc => m = ds.length - i ∧ i ≤ ds.length ∧ Pv i Hc, ⟨ds.length, by simp, Nat.zero_le _, start⟩, ?_⟩
  rintro i m Hc ⟨rfl, hi, F2, Hb, acc, accd, rfl, hbL, x2, qa, er⟩
  have s2 : Same H1 (upd Hb L (.dK acc)) := fun a u z => by rw [upd_ne (ne_of_none z hL)]; exact x2.h _ _ z
  have s3 : Same F2 (upd Hb L (.dK acc)) := fun a u z => by rw [upd_ne (ne_of_none (x2.sub _ _ z) hbL)]; exact x2.sub _ _ z
  by_cases hlt : i < ds.length
  · refine .inr ⟨wk.goes i _ hlt s2, Pv (i + 1), fun H' p' => ⟨ds.length - (i + 1), by omega, rfl, hlt, p'⟩, fun x H' y => ?_⟩
    obtain ⟨d, F3, hd, x3, qd⟩ := wk.yld i _ x H' hlt s2 y F2 x2.f s3
    have edrop : ds.drop i = d :: ds.drop (i + 1) := by
      rw [List.drop_eq_getElem_cons hlt]
      rw [List.getElem?_eq_getElem hlt] at hd
      rw [Option.some.inj hd]
    rw [edrop] at er
    unfold dcompR at er
    obtain ⟨oo, e1, e2⟩ := bind_ok er
    have e1 := quiet_ok' e1
    obtain ⟨env', eb, e1⟩ := bind_ok e1
    obtain ⟨b, ec, e1⟩ := bind_ok e1
    have xb : Ext F2 F2 Hb (upd Hb L (.dK acc)) := Ext.own x2.sub hbL
    have R3 : RE X.K F3 H' (L2.wipe σ vs) (wipeS env vs) := (((R1.ext x2).ext xb).ext x3).wipe vs
    refine ⟨F3, wipeS env vs, d, env', R3, qd, eb, fun σ2 R4 c4 => ⟨by rw [(c4.mono hT).wipe, wipe_wipe], ?_⟩⟩
    refine ⟨F3, env', R4, ?_⟩
    rw [ec]
    intro H5 F5 x5
    have y5 := x3.trans x5
    cases b with
    | false =>
      cases e1
      simp only [Bool.false_eq_true, if_false]
      obtain ⟨Hc, c1, c2, c3⟩ := ext_mask x2 hbL hL y5
      have hL5 : H5 L = some (.dK acc) := y5.h _ _ upd_same
      refine ⟨F5, Hc, acc, accd, ?_, c1, c2, qa.up y5.f, e2⟩
      rw [← c3]
      funext a
      unfold upd
      by_cases z : a = L
      · simp [z, hL5]
      · simp [z]
    | true =>
      obtain ⟨y', ee, e1⟩ := bind_ok (show (fk env' >>= fun y => fv env' >>= fun z => Res.ok (some (y, z))) = .ok oo from e1)
      obtain ⟨z', ez, e1⟩ := bind_ok e1
      cases e1
      simp only [if_true]
      obtain ⟨hz, e2⟩ : ((keyOf y').isSome && sizeOk accd.length) = true ∧ dcompR (dcompF T fc fk fv vs env) (ds.drop (i + 1)) (putD accd y' z') = .ok ys := by
        have e2 : (if ((keyOf y').isSome && sizeOk accd.length) = true then dcompR (dcompF T fc fk fv vs env) (ds.drop (i + 1)) (putD accd y' z') else .bad) = .ok ys := e2
        by_cases z : ((keyOf y').isSome && sizeOk accd.length) = true
        · rw [if_pos z] at e2; exact ⟨z, e2⟩
        · rw [if_neg z] at e2; cases e2
      obtain ⟨hk, hs⟩ := Bool.and_eq_true_iff.mp hz
      obtain ⟨kk, hk⟩ := Option.isSome_iff_exists.mp hk
      cases keyOf_some hk
      refine ⟨F5, env', R4.ext x5, ?_⟩
      rw [ee]
      intro v6 H6 F6 x6 q6
      have y6 := y5.trans x6
      refine ⟨F6, env', (R4.ext x5).ext x6, ?_⟩
      rw [ez]
      intro v7 H7 F7 x7 q7
      have y7 := y6.trans x7
      obtain ⟨Hc, c1, c2, c3⟩ := ext_mask x2 hbL hL y7
      have hl : acc.length < sizeLine := by rw [qa.length]; exact size_lt hs
      refine ⟨acc, kk, (Pk.dq q6 : Pk X.K F6 H6 v6 (keyD kk)).key, y7.h _ _ upd_same, hl, F7, Hc, _, _, c3 _, c1, c2, (qa.up y7.f).put kk q7, e2⟩
  · have e : i = ds.length := by omega
    subst e
    refine .inl ⟨wk.stops _ s2, ?_⟩
    rw [List.drop_length] at er
    cases er
    cases o with
    | false =>
      have x3 := Ext.laid (o := .dK acc) x2.sub hbL
      exact h _ _ _ (x2.trans x3) (.dK (.inl upd_same) (qa.up x3.f))
    | true =>
      have x3 := Ext.own (o := .dK acc) x2.sub hbL
      have hF : F2 L = none := by
        cases q : F2 L with
        | none => rfl
        | some u => rw [x2.sub _ _ q] at hbL; cases hbL
      exact h _ _ _ (x2.trans x3) ⟨L, rfl, hL, hF, .dk upd_same qa⟩
section
variable {o : Bool} {kx vx tg iter : Expr} {ifs : List Expr} {scope : Scope} {own : List (Str × Nat)} {pos : Pos} {fi : Env → Res (List D)} {T : Tg} {fc : Env → Res Bool} {fk fv : Env → Res D} (ok : XOk X) (hi : PI X tg iter (tI X.K W true fi)) (bo : BlkOk X.N X.env.scope scope own)
    (hg : ∀ (s : Shared) (H : Hp) (C : Addr) (cl : List (Str × Addr)) (fp : List Addr), PG (X.blk s H scope (compEnvC scope cl C X.env) fp) tg (tG X.K T)) (ht : ∀ (s : Shared) (H : Hp) (C : Addr) (cl : List (Str × Addr)) (fp : List Addr), PTs (X.blk s H scope (compEnvC scope cl C X.env) fp) ifs (tT X.K W0 fc))
    (hk : ∀ (s : Shared) (H : Hp) (C : Addr) (cl : List (Str × Addr)) (fp : List Addr), PE (X.blk s H scope (compEnvC scope cl C X.env) fp) kx (tE X.K W0 fk))
    (he : ∀ (s : Shared) (H : Hp) (C : Addr) (cl : List (Str × Addr)) (fp : List Addr), PE (X.blk s H scope (compEnvC scope cl C X.env) fp) vx (tE X.K W0 fv)) (hs : ∀ x, foldedSetIterable iter X.env x = pure x) (hT : ∀ i ∈ T.sl, i ∈ own.map (·.2))
include ok hi bo hg ht hk he hs hT
theorem c_dcomp : PE X (.DictComp kx vx [⟨tg, iter, ifs, 0⟩] scope pos) (tV X.K W o (dcompD fi T fc fk fv (own.map (·.2)))) :=
  PE.weak (pe_dc ok.calm ok.nd hi bo hg ht hk he hs) fun σ H Q h => dc_rd hT o σ H Q h
/-- name = {..} on one line, the name a local -/
theorem s_setDc {i : Nat} {y : Str} {py : Pos} {spos : Pos} (hy : X.N[i]? = some y) (hyl : X.env.scope.names.lookup y = some .local)
    (hsw : swapsWith (.DictComp kx vx [⟨tg, iter, ifs, 0⟩] scope pos) (some (.Name y py)) spos.line X.env = pure true) :
    PS X (.Assign [.Name y py] (.DictComp kx vx [⟨tg, iter, ifs, 0⟩] scope pos) spos) (tS X.K W F0 H0 fun σ => (dcompD fi T fc fk fv (own.map (·.2)) σ).sr fun d => (toSl o d).sr fun s => .nx (setS σ i s)) := by
  refine ⟨fun pins s σ H D I ⟨F, env, R, hh⟩ => ?_⟩
  rw [exec_Assign_Name_used _ _ _ _ hsw]
  refine wpAny_bind (wpAny_standAt (wpAny_bind ?_))
  show wpAny _ X.A (do let _ ← comprehension (.DictComp kx vx [⟨tg, iter, ifs, 0⟩] scope pos) scope X.env (firstIterPos [⟨tg, iter, ifs, 0⟩] pos) newDict false (eval iter X.env) (some (assign (.Name y py) X.env))) _ _ s
  have h : tDc (tI X.K W true fi) (tG X.K T) (tT X.K W0 fc) (tE X.K W0 fk) (tE X.K W0 fv) (own.map (·.2)) σ H (fun x H1 => gName i x σ H1 D.nx) :=
    dc_rd hT o σ H _ (gSV R hh fun d v F1 H1 _ x1 R1 q n h1 => by
      obtain ⟨s, e, h2⟩ := sr_noex h1 (nx_toSl _ _)
      exact h2 _ H1 F1 (Same.refl _) (R1.put i q e fun ho j l el => R.notOwn (n ho l el)))
  refine wpAny_bind (thn (dc_core (Qf := fun _ s' => SP X pins D .next s') ok.calm ok.nd I hi bo hg ht hk he hs h fun L C s' m H' I' q hn f => ?_) fun _ s' hq => wpAny_pure (wpAny_pure hq))
  show wpAny _ _ (assign (.Name y py) X.env (.ref L)) _ _ _
  refine wpAny_assign_Name (store_ok2 (v := V.ref L) I' ok.nd hy (.inl hyl) rfl (fun s2 I2 ⟨a, sb, ha⟩ => ?_) (.inr hyl))
  obtain ⟨f0, f1, f2, f3, f4, f5⟩ := f
  have haC : C ≠ a := by
    rcases ha with z | z
    · rw [z]; exact f1
    · exact fun e => f4 y a z e.symm
  refine ⟨m, hn.sameBut sb haC, fun h3 sb3 => ?_⟩
  exact ⟨_, H', I2.turned (t' := s2.toks) (fun b o hb e => (sb3.2 b hb).trans e) f0 f1 f3 f4 f5, q⟩
end
/-! ### d.update(e) -/
def mergeK (ks js : List (Key × V)) : List (Key × V) := js.foldl (fun acc q => putK acc q.1 q.2) ks
theorem mergeK_kv : ∀ {js : List (Key × V)} {jvs : List (Key × Value)} {ks : List (Key × V)} {vs : List (Key × Value)}, KV js jvs → KV ks vs → KV (mergeK ks js) (PySem.merged vs jvs)
  | _, _, _, _, .nil, h => h
  | _, _, _, _, .cons (a := (k, v)) (b := (k', u)) ⟨e, r⟩ t, h => by
    have e : k = k' := e
    subst e
    have := mergeK_kv t (KV.put h k r)
    exact this
theorem KvP.merge {K : PySem.W.Frag} {F : Hp} : ∀ {js : List (Key × V)} {jvs : List (D × D)} {ks : List (Key × V)} {kvs : List (D × D)}, KvP K F js jvs → KvP K F ks kvs → KvP K F (mergeK ks js) (mergeD kvs jvs)
  | _, _, _, _, .nil, h => h
  | _, _, _, _, .cons (k := k) a t, h => by
    have := KvP.merge t (h.put k a)
    exact this
theorem putK_len (ks : List (Key × V)) (k : Key) (v : V) : (putK ks k v).length ≤ ks.length + 1 := by
  unfold putK
  split <;> simp
theorem mergeK_len : ∀ (js ks : List (Key × V)), (mergeK ks js).length ≤ ks.length + js.length
  | [], ks => Nat.le_refl _
  | q :: js, ks => by
    have h1 := mergeK_len js (putK ks q.1 q.2)
    have h2 := putK_len ks q.1 q.2
    simp only [List.length_cons]
    show (mergeK (putK ks q.1 q.2) js).length ≤ _
    omega
def rUpd : V → List V → Hp → VK → Prop := fun x vs H Q => ∃ l b ks js, x = .ref l ∧ vs = [.ref b] ∧ l ≠ b ∧ H l = some (.dK ks) ∧ Rd H b (.dK js) ∧ ks.length + js.length ≤ sizeLine ∧ Q .non (upd H l (.dK (mergeK ks js)))
theorem mt_upd : MtM X "dict.update" rUpd := by
  intro pins s σ H x vs v us Q I rx rv ⟨l, b, ks, js, ex, ev, ne, hl, hb, hz, q⟩
  subst ex ev
  cases rx
  obtain ⟨u, rfl, ru⟩ := rv.one
  cases ru
  obtain ⟨z1, lo1, vs1, r1, d1⟩ := dk_of I.hok hl
  obtain ⟨z2, lo2, vs2, r2, d2⟩ := hb.ok I.hok
  refine call_meetsIn PySem.F.slot_dict_update d1.typeIs PySem.F.entry_dict_update (PySem.F.args_dict_update_2 _ _) (PySem.meets_dict_update _ l b ne lo2)
    ⟨vs1, vs2, d1, d2, by rw [← r1.length, ← r2.length]; exact hz, fun h' hm _ hs => ?_⟩
  have hm' : ObjOk X.prog X.w (upd H l (.dK (mergeK ks js))) h' l (.dK (mergeK ks js)) := ⟨Nat.le_trans (mergeK_len js ks) hz, lo1, _, mergeK_kv r2 r1, hm⟩
  obtain ⟨od, _, _, eo, _⟩ := hm
  exact ⟨.non, _, I.write (x := l) (e := l) (t' := s.toks) (by rw [hl]; exact trivial) (.inl rfl) (fun b' u hb' hu => (hs.2 b' hb').trans hu) ⟨od, eo⟩ hm', rfl, q⟩
/-- what a slot must hold -/
theorem s_od {st : Stmt} {i : Nat} {k : List (D × D) → Env → SR} {t : TS} (h : PS X st t) (w : ∀ D σ H F env kvs l ks, RS X.K F0 H0 F H σ env → getS env i = .od kvs → σ[i]? = some (some (.ref l)) → Own σ env i l → H l = some (.dK ks) → KvP X.K F ks kvs → sR X.K W F0 H0 F D (k kvs env) → t D σ H) :
    PS X st (tS X.K W F0 H0 fun σ => match getS σ i with | .od kvs => k kvs σ | _ => .bad) :=
  PS.weak h fun D σ H ⟨F, env, R, hh⟩ => by
    dsimp only at hh
    cases q : getS env i with
    | od kvs =>
      rw [q] at hh
      obtain ⟨l, xs, e, o, h1, h2, h3, h4⟩ := R.od q
      exact w D σ H F env kvs l xs R q e o h1 h4 hh
    | un => rw [q] at hh; exact hh.elim
    | fz d => rw [q] at hh; exact hh.elim
    | ol d => rw [q] at hh; exact hh.elim
theorem s_upd {e : Expr} {f : Env → Res D} {i : Nat} {x : Str} {ap cp p' pos : Pos} (hN : X.N[i]? = some x) (hv : Vis X.env.scope x) (hd : (x == ("__debug__" : Str)) = false) (hcd : (x == ("__classdict__" : Str)) = false) (he : PE X e (tE X.K W f)) (hb : attributeBase (.Name x p') "update" X.env (eval (.Name x p') X.env) = eval (.Name x p') X.env)
    (hfew : ((backTo cp (starEach [e] X.env)).all (fun x => !x.1) && (backToKw cp (keywordEach [] X.env)).all (fun x => x.1.isSome) && decide (([e] : List Expr).length + ([] : List Keyword).length + (if ([] : List Keyword).isEmpty then 0 else 1) < 30)) = true)
    (hl : (ap.endLine == cp.line) = true) (hs : starEach [e] X.env = (false, eval e X.env) :: starEach [] X.env) (hsw : swapsWith (.Call (.Attribute (.Name x p') "update" ap) [e] [] cp) none pos.line X.env = pure false) :
    PS X (.Expr (.Call (.Attribute (.Name x p') "update" ap) [e] [] cp) pos) (tS X.K W F0 H0 fun σ => match getS σ i with | .od kvs => (f σ).sr fun d => (match d with | .dict js => if okKeys js && sizeOk (kvs.length + js.length) then .nx (setS σ i (.od (mergeD kvs js))) else .bad | _ => .bad) | _ => .bad) :=
  s_od (ps_expr (pe_bm PySem.F.plainAttrs_dict PySem.F.slot_dict_update PySem.F.type_dict_update mt_upd (pe_var hN hv hd hcd) (pa_cons he pa_nil hs) hb hfew hl hs rfl) hsw) fun D σ H F env kvs l ks R q e o h1 h4 h => by
    refine ⟨_, e, .inr (.inr (.inl ⟨rfl, .inl ⟨ks, h1⟩⟩)), ?_⟩
    refine gS R h fun d v F1 H1 _ x1 R1 q1 h2 => ?_
    have g1 := x1.h _ _ h1
    cases d with
    | dict js =>
      dsimp only at h2
      by_cases hz : (okKeys js && sizeOk (kvs.length + js.length)) = true
      · rw [if_pos hz] at h2
        obtain ⟨ok, hz⟩ := Bool.and_eq_true_iff.mp hz
        have hF : F1 l = none := (o.obj R1).1
        obtain ⟨b, jk, rfl, z1, z2⟩ := (Pk.dq q1 : Pk X.K F1 H1 v (.dict js)).dict x1.sub ok
        have ne : l ≠ b := fun z => by
          subst z
          cases q1 with
          | dK a _ =>
            rcases a with a | ⟨_, a⟩ <;> (rw [hF] at a; cases a)
          | scr a _ => simp [okKeys, keyOf] at ok
        refine ⟨l, b, ks, jk, rfl, rfl, ne, g1, z1, by rw [h4.length, z2.length]; exact size_line hz, ?_⟩
        exact h2 σ _ F1 (Same.refl _) (R1.mut o ⟨l, _, rfl, upd_same, hF, KvP.merge z2 (h4.up x1.f)⟩)
      · rw [if_neg hz] at h2; exact h2.elim
    | _ => exact h2.elim
end
end BW

namespace BW
open PySem PySem.W L2 PySem.Spec PyProof.Rows
section
variable {P : Program} {w : World} {A : Around} {E : Value → Shared → Prop} {s : Shared}
/-- the heap with a new empty set -/
abbrev newSetH (w : World) (h : Heap) : Heap := h.push { cls := .type "set", dict := none, data := .set #[] 0 (.fresh 0 0 (!w.params.followText "set-order")) }
/-- its filling from a list of ints -/
theorem set_fill {B A0 : Around} {l : Addr} {items : Array Value} (ns : List Int) {R : Value → Shared → Prop} {R' : Value → Shared → Prop} (hh : B.handled = none) (hl : s.heap.IsList l items) (hit : IntsAre items.toList ns) (hb : ns.length + 1 < scanBound)
    (h : ∀ (h' : Heap) (tk c : Nat), SetR w h' s.heap.objs.size (fun j => decide (j ∈ ns)) c → c ≤ ns.length → (∀ b o, s.heap.get? b = some o → h'.get? b = some o) → R .none { s with heap := h', toks := tk }) :
    wpAny (model P w) B (Builtin.«set.__init__» ⟨[.ref s.heap.objs.size, .ref l], []⟩) (fun fin s' => match fin with | .done f => wants R R' (.ok f) s' | .again c' => c'.quiet = true ∧ codeAny (model P w) A0 c' (wants R R') s') (fun e s' => wants R R' (.error e) s') { s with heap := newSetH w s.heap } := by
  have hisz : items.size = ns.length := by
    have q := IntsAre.length hit
    rw [Array.length_toList] at q
    exact q
  have hS : (newSetH w s.heap).get? s.heap.objs.size = some { cls := .type "set", dict := none, data := .set #[] 0 (.fresh 0 0 (!w.params.followText "set-order")) } := Heap.get?_push_size _ rfl
  obtain ⟨ol, hol, hcl, nl, hdl⟩ := hl
  obtain ⟨ocls, odict, odata, oslots⟩ := ol
  simp only at hcl hdl
  subst hcl; subst hdl
  have hol' := Heap.get?_push_of_some { cls := .type "set", dict := none, data := .set #[] 0 (.fresh 0 0 (!w.params.followText "set-order")) } hol
  have hsls := F.sub_list_set
  have hslf := F.sub_list_frozenset
  have hne : (Value.type "list" == Value.type "dict") = false := by decide
  have hl1 : (newSetH w s.heap).IsList l items := ⟨_, hol', rfl, nl, rfl⟩
  unfold Builtin.«set.__init__» noKeywords Builtin.Frozenset.updateFrom
  generalize hPI : pyIter = PI
  wp_walk
  subst hPI
  refine wpAny_pyIter_list hl1 ?_
  refine wpAny_bind (wpAny_runValue ?_)
  have hlS : l < s.heap.objs.size := Heap.lt_size hol
  have hh3 : B.in1.handled = none := by simp [hh]
  have hz1 : (newSetH w s.heap).objs.size = s.heap.objs.size + 1 := Heap.size_push ..
  have hneI : l ≠ (newSetH w s.heap).objs.size := by rw [hz1]; exact Nat.ne_of_lt (Nat.lt_succ_of_lt hlS)
  have hSf : s.heap.objs.size ∉ [(newSetH w s.heap).objs.size, l] := by
    rw [hz1]
    simp only [List.mem_cons, List.not_mem_nil, or_false, not_or]
    exact ⟨Nat.ne_of_lt (Nat.lt_succ_self _), Nat.ne_of_gt hlS⟩
  have hval : ∀ (i : Nat) (v : Value), items[i]? = some v → ∃ k t, ns[i]? = some k ∧ v = .int k t := fun i v hv => by
    have hi : i < ns.length := by rw [← hisz]; exact (Array.getElem?_eq_some_iff.mp hv).1
    obtain ⟨t, e⟩ := PyProof.Rows.IntsAre.int_at hit i v (by rw [Array.getElem?_toList]; exact hv)
    exact ⟨ns[i], t, List.getElem?_eq_getElem hi, by rw [e, List.getD_eq_getElem?_getD, List.getElem?_eq_getElem hi]; rfl⟩
  refine set_update_ints ((Walks.list hh3 _ l hneI items).toS) s.heap.objs.size hSf ns hisz hb hval (items.size - 0) 0 _ rfl (Nat.zero_le _) ?hst ?hS0 ?hR
  case hst => exact ⟨⟨_, Heap.get?_push_size _ rfl, rfl, rfl⟩, (hl1.push _)⟩
  case hS0 => exact ⟨0, Nat.le_refl 0, setR_new_at (Heap.get?_push_of_some _ hS)⟩
  case hR =>
  intro s' c hm hc hR
  obtain ⟨h', g2, d', tk', os'⟩ := s'
  have eg : g2 = s.gens := hm.gens
  have ed : d' = s.drawn := hm.drawn
  have eo : os' = s.os := hm.os
  subst eg; subst ed; subst eo
  show wpAny _ _ _ _ _ _
  refine wpAny_pure ?_
  show wpAny _ _ (ret Value.none) _ _ _
  rw [hisz] at hc
  refine wpAny_pure (h h' tk' c hR hc fun b o e => ?_)
  have hb0 : b < s.heap.objs.size := Heap.lt_size e
  have hb1 : b ≠ s.heap.objs.size := Nat.ne_of_lt hb0
  have hb2 : b ≠ (newSetH w s.heap).objs.size := by rw [hz1]; exact Nat.ne_of_lt (Nat.lt_succ_of_lt hb0)
  exact hm.heap b o (by simp only [List.mem_cons, List.not_mem_nil, or_false, not_or]; exact ⟨hb1, hb2⟩) (Heap.get?_push_of_some _ (Heap.get?_push_of_some _ e))
/-- set(xs), xs a list of ints -/
theorem call_set_ints {l : Addr} {items : Array Value} (ns : List Int) {Q : Value → Shared → Prop} (hh : A.handled = none) (hl : s.heap.IsList l items) (hit : IntsAre items.toList ns) (hb : ns.length + 1 < scanBound)
    (h : ∀ (h' : Heap) (tk c : Nat), SetR w h' s.heap.objs.size (fun j => decide (j ∈ ns)) c → c ≤ ns.length → (∀ b o, s.heap.get? b = some o → h'.get? b = some o) → Q (.ref s.heap.objs.size) { s with heap := h', toks := tk }) :
    wpAny (model P w) A (call (.type "set") [.ref l]) Q E s := by
  obtain ⟨c, tl, hmro⟩ := F.called_set.mro
  have hmade := F.called_set.made
  have hsub := F.called_set.sub
  refine wpAny_call (codeAny_of_tree ?_)
  show wpAny _ _ (callAny (.type "set") _) _ _ _
  refine wpAny_pure ⟨Code.quiet_builtin _ (by decide +kernel), codeAny_builtin F.entry_type_call ?_⟩
  rw [Around.under_plain (weight_type_call_type "set" [.ref l] []) rfl]
  have h1 := F.called_set.notType
  have h2 := F.called_set.canCreate
  have hct := F.typeCall_set_1 (.ref l)
  repeat (any_goals (first | assumption | wp_step))
  refine codeAny_mono (code_set_led1 (.ref l) (E := E) (Q₁ := fun obj s₁ => obj = .ref s.heap.objs.size ∧ s₁ = { s with heap := newSetH w s.heap }) ⟨rfl, rfl⟩) fun r s₁ hr => ?_
  cases r with
  | error e => exact hr
  | ok fl =>
    cases fl with
    | ret obj =>
      obtain ⟨rfl, rfl⟩ := hr
      have hT : Shared.TypeIs { s with heap := newSetH w s.heap } (.ref s.heap.objs.size) "set" := ⟨_, Heap.get?_push_size _ rfl, rfl⟩
      have hli := F.called_set.init.lookup
      have hbi := F.called_set.init.bind (.ref s.heap.objs.size)
      repeat (any_goals (first | assumption | wp_step))
      refine codeAny_mono (codeAny_call_builtin (R := wants (fun r s₂ => r = .none ∧ Q (.ref s.heap.objs.size) s₂) E) F.called_set.init.plain F.entry_set_init (check_set_init_1 hT (set_fill (s := s) ns (by simp [hh]) hl hit hb fun h' tk c a b k => ⟨rfl, h h' tk c a b k⟩))) fun r₂ s₂ hr₂ => ?_
      cases r₂ with
      | error e => exact hr₂
      | ok fl₂ =>
        cases fl₂ with
        | ret r =>
          obtain ⟨rfl, hr₂⟩ := hr₂
          repeat (any_goals (first | assumption | wp_step))
        | _ => exact hr₂.elim
    | _ => exact hr.elim
end
section
variable {X : Cx}
/-- set(xs), a list or tuple of ints -/
def rSetI (K : PySem.W.Frag) (w : World) : List V → Hp → VK → Prop := fun xs H Q => ∃ (a : Addr) (ns : List Int), xs = [.ref a] ∧ (SqL K H a (ns.map V.int) ∨ SqT K H a (ns.map V.int)) ∧ ns.length ≤ 60 ∧ ∀ p c, H p = none → c ≤ ns.length → Q (.ref p) (upd H p (SetO w p (fun j => decide (j ∈ ns)) c))
theorem cr_setI (hc : X.calm = true) : CallR X (.type "set") (rSetI X.K X.w) := by
  intro pins s σ H xs us Q I r ⟨a, ns, ex, hs, hl, q⟩
  subst ex
  obtain ⟨u, rfl, rx⟩ := vals1 r
  cases rx
  have hb : ns.length + 1 < scanBound := by unfold scanBound; omega
  have fin : ∀ (h' : Heap) (tk c : Nat), SetR X.w h' s.heap.objs.size (fun j => decide (j ∈ ns)) c → c ≤ ns.length → (∀ b o, s.heap.get? b = some o → h'.get? b = some o) → EP X pins σ Q (.ref s.heap.objs.size) { s with heap := h', toks := tk } := fun h' tk c R hcl k =>
    ⟨.ref s.heap.objs.size, _, I.laid (t' := tk) k (Nat.le_refl _) (setO_new R), rfl, q _ c (I.hok.fresh (Nat.le_refl _)) hcl⟩
  rcases hs with hs | hs
  · obtain ⟨its, rv, pl, hz⟩ := I.list hs
    exact call_set_ints ns (I.ok.hd hc) pl.isList (by simpa using RZ.intsAre_vals rv) hb fin
  · obtain ⟨its, rv, pt, hz⟩ := I.tuple hs
    exact call_set_tupI ns (I.ok.hd hc) (show s.heap.IsTuple a its.toArray from pt) (by simpa using RZ.intsAre_vals rv) hb fin
theorem eraseDups_nodup : ∀ (l : List Int), l.eraseDups.Nodup
  | [] => by simp
  | a :: l => by
    rw [List.eraseDups_cons]
    refine List.nodup_cons.mpr ⟨?_, eraseDups_nodup _⟩
    rw [List.mem_eraseDups]
    simp
termination_by l => l.length
decreasing_by simp only [List.length_cons]; exact Nat.lt_succ_of_le (List.length_filter_le _ _)
theorem setI_perm (ns : List Int) : (setI ns).Perm ns.eraseDups := List.mergeSort_perm _ _
theorem setI_mem {ns : List Int} {k : Int} : k ∈ setI ns ↔ k ∈ ns := by rw [(setI_perm ns).mem_iff, List.mem_eraseDups]
theorem setI_nodup (ns : List Int) : (setI ns).Nodup := (setI_perm ns).nodup_iff.mpr (eraseDups_nodup ns)
theorem setI_sorted (ns : List Int) : (setI ns).Pairwise (· < ·) := by
  have h1 : (setI ns).Pairwise (fun a b => decide (a ≤ b) = true) := List.pairwise_mergeSort (le := fun a b => decide (a ≤ b)) (fun a b c h1 h2 => by simp only [decide_eq_true_eq] at *; omega) (fun a b => by simp only [Bool.or_eq_true, decide_eq_true_eq]; omega) _
  have h2 : (setI ns).Pairwise (· ≠ ·) := setI_nodup ns
  exact h1.imp₂ (fun a b h z => by simp only [decide_eq_true_eq] at h; omega) h2
/-- ascending lists of the same members are the same -/
theorem asc_unique : ∀ {l m : List Int}, l.Pairwise (· < ·) → m.Pairwise (· < ·) → (∀ k, k ∈ l ↔ k ∈ m) → l = m
  | [], [], _, _, _ => rfl
  | [], b :: m, _, _, h => by have := (h b).mpr (by simp); simp at this
  | a :: l, [], _, _, h => by have := (h a).mp (by simp); simp at this
  | a :: l, b :: m, h1, h2, h => by
    obtain ⟨h1, h1'⟩ := List.pairwise_cons.mp h1
    obtain ⟨h2, h2'⟩ := List.pairwise_cons.mp h2
    have e : a = b := by
      rcases List.mem_cons.mp ((h a).mp (by simp)) with e | e
      · exact e
      · rcases List.mem_cons.mp ((h b).mpr (by simp)) with e' | e'
        · exact e'.symm
        · have := h1 b e'; have := h2 a e; omega
    subst e
    rw [asc_unique h1' h2' fun k => ?_]
    have hk := h k
    simp only [List.mem_cons] at hk
    constructor
    · intro hl
      rcases hk.mp (.inr hl) with e | e
      · subst e; have := h1 _ hl; omega
      · exact e
    · intro hl
      rcases hk.mpr (.inr hl) with e | e
      · subst e; have := h2 _ hl; omega
      · exact e
theorem bt_set : bootBuiltins "set" = some (.type "set") := by decide +kernel
variable {W : WN} {a : Expr} {pos p p2 q : Pos} {f : Env → Res D}
/-- the ints of what is walked -/
theorem items_ints {dx : D} {xs : List D} {ns : List Int} {K : PySem.W.Frag} {F H : Hp} {v : V} (s : Same F H) (px : Pk K F H v dx) (hi : items dx = some xs) (hn : mapR asInt xs = .ok ns) : ∃ l, v = .ref l ∧ (SqL K H l (ns.map V.int) ∨ SqT K H l (ns.map V.int)) := by
  have e := ints_ok hn
  rcases items_list hi with rfl | rfl
  · obtain ⟨l, vs, rfl, h1, h2⟩ := px.lst s
    rw [e] at h2
    rw [DqAll.ints h2] at h1
    exact ⟨l, rfl, .inl (.inl h1)⟩
  · obtain ⟨l, vs, rfl, h1, h2⟩ := px.tup s
    rw [e] at h2
    rw [DqAll.ints h2] at h1
    exact ⟨l, rfl, .inr h1⟩
theorem setsorted_ok {dx d : D} (h : b1D .setsorted dx = .ok d) : ∃ xs ns, items dx = some xs ∧ mapR asInt xs = .ok ns ∧ ns.length ≤ 60 ∧ d = .list ((setI ns).map .int) := by
  have h' : (match items dx with | none => Res.bad | some xs => (do let ns ← mapR asInt xs; if decide (ns.length ≤ 60) = true then .ok (.list ((setI ns).map .int)) else .bad : Res D)) = .ok d := by
    cases dx <;> exact h
  cases hi : items dx with
  | none => rw [hi] at h'; cases h'
  | some xs =>
    rw [hi] at h'
    obtain ⟨ns, e1, e2⟩ := bind_ok h'
    obtain ⟨z, e2⟩ := ite_okb e2
    exact ⟨xs, ns, rfl, e1, of_decide_eq_true z, e2.symm⟩
theorem setlen_ok {dx d : D} (h : b1D .setlen dx = .ok d) : ∃ xs ns, items dx = some xs ∧ mapR asInt xs = .ok ns ∧ ns.length ≤ 60 ∧ d = .int (setI ns).length := by
  have h' : (match items dx with | none => Res.bad | some xs => (do let ns ← mapR asInt xs; if decide (ns.length ≤ 60) = true then .ok (.int (setI ns).length) else .bad : Res D)) = .ok d := by
    cases dx <;> exact h
  cases hi : items dx with
  | none => rw [hi] at h'; cases h'
  | some xs =>
    rw [hi] at h'
    obtain ⟨ns, e1, e2⟩ := bind_ok h'
    obtain ⟨z, e2⟩ := ite_okb e2
    exact ⟨xs, ns, rfl, e1, of_decide_eq_true z, e2.symm⟩
theorem c_sset (ok : XOk X) (hg : Gl X "sorted") (hm : X.mg "sorted" = none) (hg2 : Gl X "set") (hm2 : X.mg "set" = none) (ha : PE X a (tP X.K W f)) (hs : starEach [a] X.env = (false, eval a X.env) :: starEach [] X.env) :
    PE X (.Call (.Name "sorted" p) [.Call (.Name "set" p2) [a] [] q] [] pos) (tE X.K W fun σ => do let x ← f σ; b1D .setsorted x) := by
  have k1 := pe_callTy (p := p2) (pos := q) (cr_setI ok.calm) hg2 hm2 bt_set (pa_cons ha pa_nil hs) (by decide) (by decide) hs rfl
  have k2 := pe_callB (p := p) (pos := pos) (cr_sortedSet ok.calm) hg hm bt_sorted (pa_cons k1 pa_nil rfl) (by decide) (by decide) rfl rfl
  refine PE.weak k2 fun σ H Q ⟨F, env, R, h⟩ => goP mnE R h fun dx v F1 H1 _ x1 R1 p1 h1 => ?_
  obtain ⟨d, e, qq⟩ := h1.noex (nx_b1D _ _)
  obtain ⟨xs, ns, hi, hn, hl, rfl⟩ := setsorted_ok e
  obtain ⟨l, rfl, sq⟩ := items_ints x1.sub p1 hi hn
  refine ⟨l, ns, rfl, sq, hl, fun P c hP hcl => ⟨P, _, c, rfl, upd_same, by omega, fun ms Pq pw mem len hq => ?_⟩⟩
  have em : ms = setI ns := asc_unique pw (setI_sorted ns) fun k => by rw [mem k, setI_mem]; simp
  subst em
  have y1 := Ext.own (o := SetO X.w P (fun j => decide (j ∈ ns)) c) x1.sub hP
  have y2 := Ext.laid (o := .lst ((setI ns).map V.int)) y1.sub hq
  exact qq _ _ _ (y1.trans y2) (.lst (.inl upd_same) (dq_intsF _))
where dq_intsF {K : PySem.W.Frag} {F : Hp} : ∀ ns : List Int, DqAll K F (ns.map V.int) (ns.map .int)
  | [] => .nil
  | n :: ns => .cons (.int n) (dq_intsF ns)
/-- len(set) -/
def rLenSet (w : World) : List V → Hp → VK → Prop := fun vs H Q => ∃ (b : Addr) (ns : List Int) (c : Nat), vs = [V.ref b] ∧ H b = some (SetO w b (fun j => decide (j ∈ ns)) c) ∧ c ≤ 60 ∧ Q (.int (setI ns).length) H
theorem cr_lenSet : CallR X (.builtin "len") (rLenSet X.w) := by
  intro pins s σ H vs us Q I r ⟨b, ns, c, ev, hb, hc, qq⟩
  subst ev
  obtain ⟨u, rfl, rx⟩ := vals1 r
  cases rx
  obtain ⟨o, es, ep, t, ho, hex, hd, g, nd, hm, hbd, hf, hn, hr, hl⟩ := setO_get I hb
  have en : es.size = (setI ns).length := by
    have h1 : (es.toList.map L2.keyOf).Perm (setI ns) := by
      refine (List.perm_ext_iff_of_nodup nd (setI_nodup ns)).mpr fun k => ?_
      rw [← hm k, setI_mem]
      simp
    have := h1.length_eq
    rw [List.length_map, Array.length_toList] at this
    exact this
  exact call_len_set ho hex hd hf (by omega) ⟨.int (setI ns).length, H, I.tok _, ⟨_, by rw [en]⟩, qq⟩
theorem c_lset (ok : XOk X) (hg : Gl X "len") (hm : X.mg "len" = none) (hg2 : Gl X "set") (hm2 : X.mg "set" = none) (ha : PE X a (tP X.K W f)) (hs : starEach [a] X.env = (false, eval a X.env) :: starEach [] X.env) :
    PE X (.Call (.Name "len" p) [.Call (.Name "set" p2) [a] [] q] [] pos) (tE X.K W fun σ => do let x ← f σ; b1D .setlen x) := by
  have k1 := pe_callTy (p := p2) (pos := q) (cr_setI ok.calm) hg2 hm2 bt_set (pa_cons ha pa_nil hs) (by decide) (by decide) hs rfl
  have k2 := pe_callB (p := p) (pos := pos) cr_lenSet hg hm bt_len (pa_cons k1 pa_nil rfl) (by decide) (by decide) rfl rfl
  refine PE.weak k2 fun σ H Q ⟨F, env, R, h⟩ => goP mnE R h fun dx v F1 H1 _ x1 R1 p1 h1 => ?_
  obtain ⟨d, e, qq⟩ := h1.noex (nx_b1D _ _)
  obtain ⟨xs, ns, hi, hn, hl, rfl⟩ := setlen_ok e
  obtain ⟨l, rfl, sq⟩ := items_ints x1.sub p1 hi hn
  refine ⟨l, ns, rfl, sq, hl, fun P c hP hcl => ⟨P, ns, c, rfl, upd_same, by omega, ?_⟩⟩
  have y1 := Ext.own (o := SetO X.w P (fun j => decide (j ∈ ns)) c) x1.sub hP
  exact qq _ _ _ y1 (.int _)
end
end BW

namespace BW
open PySem PySem.W L2 PySem.Spec PyProof.Rows
/-- what is known of the exceptions' classes -/
def ClsOk (K : PySem.W.Frag) (C : Str → Value) (sub : Str → Str → Option Bool) : Prop := ∀ c x b, sub c x = some b → PySem.W.exmOne K (C c) (C x) = some b ∧ PySem.W.kitOne K (C c) (C x) = some b ∧ ∃ Dx, C c = .ref Dx ∧ ExcC K Dx
/-- a constant, as a value -/
def scalV : D → Option V
  | .none => some .non
  | .bool b => some (.bl b)
  | .int i => some (.int i)
  | .str x => some (.str x)
  | _ => none
theorem scalV_q {K : PySem.W.Frag} {F : Hp} {d : D} {v : V} (h : scalV d = some v) : Dq K F v d := by
  cases d <;> cases h
  · exact .non
  · exact .bl _
  · exact .int _
  · exact .str _
def scalE (d : D) (j : Nat) (p : Pos) : Expr := match d with
  | .bool b => .Constant (.bool b) j p
  | .int i => .Constant (.int i) j p
  | .str x => .Constant (.str x) j p
  | _ => .Constant .none j p
theorem pe_scal {X : Cx} {d : D} {v : V} {j : Nat} {p : Pos} (h : scalV d = some v) : PE X (scalE d j p) (tC v) := by
  cases d <;> cases h
  · exact pe_non
  · exact pe_bl
  · exact pe_int
  · exact pe_str
section
variable {X : Cx} {C : Str → Value} {w : WX} {sub : Str → Str → Option Bool} {F0 H0 : Hp} {e : Expr} {pos pos' np : Pos} {body : List Stmt} {fb : Env → SR}
theorem s_raise {c : Str} (ok : XOk X) (tk : Takes X w) (he : PMk X e (fun _ H Q => Q (C c) none H)) : PS X (.Raise (some e) none pos) (tS X.K (WofX C w) F0 H0 fun _ => .ex c) :=
  PS.weak (ps_raise ok.calm tk he) fun D σ H ⟨F, env, R, h⟩ => h σ H F (Same.refl _) R.x
/-- an except clause: a constant is answered -/
def tsK (v : V) : Addr → Value → Option Addr → TS := fun _ _ _ D _ H => D.rt v H
inductive HdsR (X : Cx) (C : Str → Value) : List ExceptHandler → List (Str × HR) → List (Value × (Addr → Value → Option Addr → TS)) → Prop
  | nil : HdsR X C [] [] []
  | cons {x : Str} {d : D} {v : V} {j : Nat} {p np rp pos' : Pos} {hds : List ExceptHandler} {rs : List (Str × HR)} {l : List (Value × (Addr → Value → Option Addr → TS))} : Names X x (C x) → scalV d = some v → HdsR X C hds rs l →
      HdsR X C (.ExceptHandler (some (.Name x np)) none [.Return (some (scalE d j p)) rp] pos' :: hds) ((x, .k d) :: rs) ((C x, tsK v) :: l)
theorem HdsR.ok {hds : List ExceptHandler} {rs : List (Str × HR)} {l : List (Value × (Addr → Value → Option Addr → TS))} (h : HdsR X C hds rs l) : HdsOk X hds l := by
  induction h with
  | nil => exact .nil
  | cons hn hv _ ih =>
    refine .cons hn (fun a oe cls d pn hz hf => ?_) ih
    exact PSs.weak (pss_one (ps_ret (pe_scal hv))) fun D σ H h => h
theorem wish_many (ck : ClsOk X.K C sub) {F : Hp} {D : Ends} {c : Str} {hds : List ExceptHandler} {rs : List (Str × HR)} {l : List (Value × (Addr → Value → Option Addr → TS))} (h : HdsR X C hds rs l) (hh : sR X.K (WofX C w) F0 H0 F D (handleR sub rs c)) :
    sR X.K (WofX C (wMany X.K w D l)) F0 H0 F D (.ex c) := by
  induction h with
  | nil => exact hh
  | @cons x d v j p np rp pos' hds rs l hn hv _ ih =>
    unfold handleR at hh
    cases q : sub c x with
    | none => rw [q] at hh; exact hh.elim
    | some b =>
      obtain ⟨e1, _, _⟩ := ck c x b q
      rw [q] at hh
      cases b with
      | true =>
        dsimp only at hh
        exact fun σ' H' F' s x => ⟨true, e1, fun _ a _ => hh v H' F' s x (scalV_q hv), fun z => nomatch z⟩
      | false =>
        dsimp only at hh
        exact fun σ' H' F' s x => ⟨false, e1, (fun z => nomatch z), fun _ => ih hh σ' H' F' s x⟩
theorem s_try {h₀ : ExceptHandler} {hds : List ExceptHandler} {rs : List (Str × HR)} {l : List (Value × (Addr → Value → Option Addr → TS))} (ck : ClsOk X.K C sub) (hs : X.stack = X.env :: X.outer) (hf : X.env.frame = some X.env.locals) (tk : Takes X w)
    (hb : ∀ (W : WX) (pn : List (Addr × Obj)) (xe : Value → Shared → Prop), Takes (X.tr pn xe) W → PassesOwn (model X.prog X.w) X.A X.env xe → PSs (X.tr pn xe) body (tS X.K (WofX C W) F0 H0 fb))
    (hh : HdsR X C (h₀ :: hds) rs l) : PS X (.Try body (h₀ :: hds) [] [] pos) (tS X.K (WofX C w) F0 H0 fun σ => tryR sub rs (fb σ)) :=
  PS.weak (ps_try_many hs hf tk hb hh.ok) fun D σ H ⟨F, env, R, h⟩ => ⟨F, env, R, by
    dsimp only at h
    cases q : fb env with
    | nx e => rw [q] at h; exact h
    | rt e => rw [q] at h; exact h
    | bk e => rw [q] at h; exact h
    | ct e => rw [q] at h; exact h
    | bad => rw [q] at h; exact h
    | ex c => rw [q] at h; exact wish_many ck hh h⟩
/-! ### except X as e: by isinstance(e, Y) -/
/-- isinstance(e, Y), e the error of the suite at slot i -/
def tIsE (K : PySem.W.Frag) (i : Nat) (cv : Value) (a : Addr) (cls : Value) (d : Option Addr) : TE := fun σ H Q => ∃ Dx b, cls = .ref Dx ∧ d = none ∧ ExcC K Dx ∧ (∃ σ0 : L2.St, σ = σ0.set i (some (.ref a))) ∧ PySem.W.kitOne K (.ref Dx) cv = some b ∧ Q (.bl b) H
theorem pe_isE {x n : Str} {i : Nat} {a : Addr} {oe : Obj} {cls : Value} {d : Option Addr} {pn : List (Addr × Obj)} {c' : Addr} {p p1 p2 pos : Pos} (hz : Zc cls d oe) (hf : ∃ vs, oe.data = .fields vs) (hN : X.N[i]? = some n) (hv : Vis X.env.scope n) (hd : (n == ("__debug__" : Str)) = false) (hcd : (n == ("__classdict__" : Str)) = false)
    (hg : Gl X "isinstance") (hm : X.mg "isinstance" = none) (gx : Gl X x) (mx : X.mg x = some (.ref c')) (hdx : (x == ("__debug__" : Str)) = false) : PE (X.suite a ((a, oe) :: pn)) (.Call (.Name "isinstance" p) [.Name n p1, .Name x p2] [] pos) (tIsE X.K i (.ref c') a cls d) := by
  refine ⟨fun pins s σ H Q I ⟨Dx, b, e1, e2, ec, es, ek, q⟩ => ?_⟩
  subst e1 e2
  have es : σ[i]? = some (some (.ref a)) := by
    obtain ⟨σ0, rfl⟩ := es
    have hi : i < X.N.length := (List.getElem?_eq_some_iff.mp hN).1
    have hl := I.len
    rw [List.length_set] at hl
    exact List.getElem?_set_self (by rw [hl]; exact hi)
  have ha : PA (X.suite a ((a, oe) :: pn)) [.Name n p1, .Name x p2] (tCons (tVar i) (tCons (tC (.ref c')) tNil)) := pa_cons (pe_var (X := X.suite a ((a, oe) :: pn)) hN hv hd hcd) (pa_cons (pe_glob (X := X.suite a ((a, oe) :: pn)) (v := .ref c') gx mx rfl hdx) pa_nil rfl) rfl
  exact (pe_callB (X := X.suite a ((a, oe) :: pn)) (call_isE ec hz hf) hg hm bt_isi ha (by decide) (by decide) rfl rfl).run pins s σ H Q I ⟨_, es, .ref c', .ref c', b, rfl, (fun u r => r), ek, q⟩
/-- return isinstance(e, Y) -/
def tsIs (K : PySem.W.Frag) (i : Nat) (cv : Value) (v1 v2 : V) : Addr → Value → Option Addr → TS := fun a cls d D σ H => tIsE K i cv a cls d σ H fun v H' => (v = .bl true ∧ D.rt v1 H') ∨ (v = .bl false ∧ D.rt v2 H')
theorem su_is {x n : Str} {i : Nat} {a : Addr} {oe : Obj} {cls : Value} {d : Option Addr} {pn : List (Addr × Obj)} {c' : Addr} {p p1 p2 pos rp : Pos} (hz : Zc cls d oe) (hf : ∃ vs, oe.data = .fields vs) (hN : X.N[i]? = some n) (hv : Vis X.env.scope n) (hd : (n == ("__debug__" : Str)) = false) (hcd : (n == ("__classdict__" : Str)) = false)
    (hg : Gl X "isinstance") (hm : X.mg "isinstance" = none) (gx : Gl X x) (mx : X.mg x = some (.ref c')) (hdx : (x == ("__debug__" : Str)) = false) : PSs (X.suite a ((a, oe) :: pn)) [.Return (some (.Call (.Name "isinstance" p) [.Name n p1, .Name x p2] [] pos)) rp] (tsIs X.K i (.ref c') (.bl true) (.bl false) a cls d) :=
  PSs.weak (pss_one (ps_ret (pe_isE hz hf hN hv hd hcd hg hm gx mx hdx))) fun D σ H ⟨Dx, b, e1, e2, ec, es, ek, q⟩ => ⟨Dx, b, e1, e2, ec, es, ek, by
    rcases q with ⟨e, q⟩ | ⟨e, q⟩
    · rw [e]; exact q
    · rw [e]; exact q⟩
theorem su_isIf {x n : Str} {i : Nat} {a : Addr} {oe : Obj} {cls : Value} {d : Option Addr} {pn : List (Addr × Obj)} {c' : Addr} {d1 d2 : D} {v1 v2 : V} {j1 j2 : Nat} {p p1 p2 pos rp q1 q2 q3 : Pos} (h1 : scalV d1 = some v1) (h2 : scalV d2 = some v2) (hz : Zc cls d oe) (hf : ∃ vs, oe.data = .fields vs) (hN : X.N[i]? = some n) (hv : Vis X.env.scope n) (hd : (n == ("__debug__" : Str)) = false) (hcd : (n == ("__classdict__" : Str)) = false)
    (hg : Gl X "isinstance") (hm : X.mg "isinstance" = none) (gx : Gl X x) (mx : X.mg x = some (.ref c')) (hdx : (x == ("__debug__" : Str)) = false) : PSs (X.suite a ((a, oe) :: pn)) [.Return (some (.IfExp (.Call (.Name "isinstance" p) [.Name n p1, .Name x p2] [] pos) (scalE d1 j1 q1) (scalE d2 j2 q2) q3)) rp] (tsIs X.K i (.ref c') v1 v2 a cls d) :=
  PSs.weak (pss_one (ps_ret (pe_ifExp (pt_val (pe_isE hz hf hN hv hd hcd hg hm gx mx hdx)) (pe_scal h1) (pe_scal h2)))) fun D σ H ⟨Dx, b, e1, e2, ec, es, ek, q⟩ => by
    refine ⟨Dx, b, e1, e2, ec, es, ek, b, rfl, ?_⟩
    rcases q with ⟨e, q⟩ | ⟨e, q⟩
    · cases e; exact q
    · cases e; exact q
theorem s_tryAs {x n y : Str} {i : Nat} {c' : Addr} {v1 v2 : V} {d1 d2 : D} {st : Stmt} (ck : ClsOk X.K C sub) (h1 : scalV d1 = some v1) (h2 : scalV d2 = some v2) (hs : X.stack = X.env :: X.outer) (hf : X.env.frame = some X.env.locals) (tk : Takes X w) (hN : X.N.Nodup) (hi : X.N[i]? = some n) (hln : X.env.kindOf n = some .local) (hc : Names X x (C x)) (hy : C y = .ref c')
    (hb : ∀ (W : WX) (pn : List (Addr × Obj)) (xe : Value → Shared → Prop), Takes (X.tr pn xe) W → PassesOwn (model X.prog X.w) X.A X.env xe → PSs (X.tr pn xe) body (tS X.K (WofX C W) F0 H0 fb))
    (hsu : ∀ (a : Addr) (oe : Obj) (cls : Value) (d : Option Addr) (pn : List (Addr × Obj)), Zc cls d oe → (∃ vs, oe.data = .fields vs) → PSs (X.suite a ((a, oe) :: pn)) [st] (tsIs X.K i (.ref c') v1 v2 a cls d)) :
    PS X (.Try body [.ExceptHandler (some (.Name x np)) (some n) [st] pos'] [] [] pos) (tS X.K (WofX C w) F0 H0 fun σ => tryR sub [(x, .is y d1 d2)] (fb σ)) :=
  PS.weak (ps_try_as hs hf hN hi hln hc tk hb hsu) fun D σ H ⟨F, env, R, h⟩ => ⟨F, env, R, by
    dsimp only at h
    cases q : fb env with
    | nx e => rw [q] at h; exact h
    | rt e => rw [q] at h; exact h
    | bk e => rw [q] at h; exact h
    | ct e => rw [q] at h; exact h
    | bad => rw [q] at h; exact h
    | ex c =>
      rw [q] at h
      intro σ' H' F' s x'
      have h : sR X.K (WofX C w) F0 H0 F D (handleR sub [(x, .is y d1 d2)] c) := h
      unfold handleR at h
      cases q1 : sub c x with
      | none => rw [q1] at h; exact h.elim
      | some b =>
        obtain ⟨e1, _, _⟩ := ck c x b q1
        rw [q1] at h
        cases b with
        | false => exact ⟨false, e1, (fun z => nomatch z), fun _ => h σ' H' F' s x'⟩
        | true =>
          refine ⟨true, e1, fun _ a na => ?_, fun z => nomatch z⟩
          dsimp only at h
          cases q2 : sub c y with
          | none => rw [q2] at h; exact h.elim
          | some b2 =>
            obtain ⟨_, e2, Dx, e3, e4⟩ := ck c y b2 q2
            rw [q2] at h
            dsimp only at h
            rw [e3, hy] at e2
            refine ⟨Dx, b2, e3, rfl, e4, ?_, e2, ?_⟩
            · exact ⟨σ', rfl⟩
            · cases b2 with
              | true => exact .inl ⟨rfl, h v1 H' F' s x' (scalV_q h1)⟩
              | false => exact .inr ⟨rfl, h v2 H' F' s x' (scalV_q h2)⟩⟩
end
end BW

namespace BW
open PySem PySem.W L2 PySem.Spec PyProof.Rows
/-! ### clauses with a name and clauses without, mixed -/
abbrev Cl := Value × (Addr → Value → Option Addr → TS)
/-- the ends of a suite whose name is emptied behind it -/
def tidyE (i : Nat) (D : Ends) : Ends := { nx := fun τ G => D.nx (τ.set i none) G, rt := D.rt, bk := fun τ G => D.bk (τ.set i none) G, ct := fun τ G => D.ct (τ.set i none) G }
/-- what is wished of an exception, clause by clause; i: the slot of a clause's name, emptied when its suite is left -/
def wMix (K : PySem.W.Frag) (W0 : WX) (D : Ends) : List (Option Nat × Cl) → WX
  | [] => W0
  | (o, cl, su) :: r => fun cls dx σ H => ∃ b, PySem.W.exmOne K cls cl = some b ∧ (b = false → wMix K W0 D r cls dx σ H) ∧
      (b = true → ∀ a, H a = none → match o with
        | none => su a cls dx D σ H
        | some i => su a cls dx (tidyE i D) (σ.set i (some (.ref a))) H)
inductive MixOk (X : Cx) : List ExceptHandler → List (Option Nat × Cl) → Prop
  | nil : MixOk X [] []
  | bare {x : Str} {cl : Value} {su : Addr → Value → Option Addr → TS} {st : Stmt} {sts : List Stmt} {p1 p2 : Pos} {hs : List ExceptHandler} {l : List (Option Nat × Cl)} : Names X x cl →
      (∀ (a : Addr) (ob : Obj) (cls : Value) (dx : Option Addr) (pn : List (Addr × Obj)), Zc cls dx ob → (∃ vs, ob.data = .fields vs) → PSs (X.suite a ((a, ob) :: pn)) (st :: sts) (su a cls dx)) → MixOk X hs l →
      MixOk X (.ExceptHandler (some (.Name x p1)) none (st :: sts) p2 :: hs) ((none, cl, su) :: l)
  | named {x y : Str} {i : Nat} {cl : Value} {su : Addr → Value → Option Addr → TS} {st : Stmt} {sts : List Stmt} {p1 p2 : Pos} {hs : List ExceptHandler} {l : List (Option Nat × Cl)} : Names X x cl → X.N[i]? = some y → X.env.kindOf y = some .local →
      (∀ (a : Addr) (ob : Obj) (cls : Value) (dx : Option Addr) (pn : List (Addr × Obj)), Zc cls dx ob → (∃ vs, ob.data = .fields vs) → PSs (X.suite a ((a, ob) :: pn)) (st :: sts) (su a cls dx)) → MixOk X hs l →
      MixOk X (.ExceptHandler (some (.Name x p1)) (some y) (st :: sts) p2 :: hs) ((some i, cl, su) :: l)
section
variable {X : Cx} {body : List Stmt} {hd : ExceptHandler} {hds : List ExceptHandler} {l : List (Option Nat × Cl)} {pos : Pos} {tb : WX → TS} {W0 : WX}
theorem ps_try_mix (nd : X.N.Nodup) (hst : X.stack = X.env :: X.outer) (hfm : X.env.frame = some X.env.locals) (tk : Takes X W0)
    (hb : ∀ (W : WX) (pn : List (Addr × Obj)) (xe : Value → Shared → Prop), Takes (X.tr pn xe) W → PassesOwn (model X.prog X.w) X.A X.env xe → PSs (X.tr pn xe) body (tb W))
    (hh : MixOk X (hd :: hds) l) : PS X (.Try body (hd :: hds) [] [] pos) (fun D σ H => tb (wMix X.K W0 D l) D σ H) := by
  constructor
  intro pins st0 σ0 Hs D inv hyp
  have okx := inv.ok
  have fr1 : X.A.frames = some (X.env :: X.outer) := by rw [okx.frames, hst]
  apply wpAny_Try_except
  apply wpAny_mono ((hb (wMix X.K W0 D l) (X.pn ++ pins)
    (fun er q1 => wpAny (model X.prog X.w) X.A (noteFrame er X.env)
      (fun _ q2 => wpAny (model X.prog X.w) X.A (setFlight er none)
        (fun _ q3 => wpAny (model X.prog X.w) X.A (handleBy er X.env (hd :: hds)) (SP X pins D) X.xe q3) X.xe q2) X.xe q1)
    (fun u sC caught => ?_) PassesOwn.looking).run [] st0 σ0 Hs D (inv.toTry _) hyp)
  · intro fl sE res
    cases fl with
    | next => obtain ⟨τ, G, jj, qq⟩ := res; exact wpAny_execs_nil ⟨τ, G, jj.ofTry okx, qq⟩
    | brk => obtain ⟨τ, G, jj, qq⟩ := res; exact ⟨τ, G, jj.ofTry okx, qq⟩
    | cont => obtain ⟨τ, G, jj, qq⟩ := res; exact ⟨τ, G, jj.ofTry okx, qq⟩
    | ret u => obtain ⟨vv, τ, G, jj, rr, qq⟩ := res; exact ⟨vv, τ, G, jj.ofTry okx, rr, qq⟩
  · exact fun _ _ z => z
  · obtain ⟨ad, B, sI, pinsI, τ, G, cls, dx, rfl, jTry, nb, up0, sky0, free, os, ag, wish⟩ := caught
    have jb : Inv X pins τ G sI := jTry.ofTry okx
    have sky1 : Sky B (X.env :: X.outer) ad (Zc cls dx) X.env.locals sC.heap := hst ▸ sky0
    change wpAny (model X.prog X.w) X.A (noteFrame (.ref ad) X.env) _ _ _
    apply Sky.land Zc.steady fr1 hfm sky1
    intro hA fa upA
    have jA : Inv X pins τ G { sC with heap := hA } := jb.landed nb fa.1 (up0.trans upA) os ag
    obtain ⟨obA, fsA, getA, zcA, datA⟩ := fa.there
    have away : ad ∉ frs (X.env :: X.outer) := by
      intro hm
      obtain ⟨_, ob2, get2, nofields⟩ := fa.2.2.1.mem hm
      rw [getA] at get2
      cases get2
      exact nofields _ datA
    have notLoc : ad ≠ X.env.locals := fun z => away (List.mem_filterMap.mpr ⟨X.env, by simp, by rw [hfm, z]⟩)
    have notFs : ad ∉ X.fs := by
      intro hm
      obtain ⟨e1, m1, m2⟩ := List.mem_filterMap.mp hm
      exact away (List.mem_filterMap.mpr ⟨e1, by simp [m1], m2⟩)
    have suA := jA.suite getA datA free notLoc notFs
    have walk : ∀ {hs' : List ExceptHandler} {l' : List (Option Nat × Cl)}, MixOk X hs' l' → wMix X.K W0 D l' cls dx τ G → wpAny (model X.prog X.w) X.A (handleBy (.ref ad) X.env hs') (SP X pins D) X.xe { sC with heap := hA } := by
      intro hs' l' mk
      -- the clause's test
      have look : PySem.W.Looks (model X.prog X.w) hA (typeOf (.ref ad)) cls := fun _ _ _ _ kp q => wpAny_typeOf_ref (kp _ _ getA) (by rw [zcA.1]; exact q)
      have test : ∀ {x : Str} {cl : Value} {p1 : Pos} {Q : Value → Shared → Prop} {E : Value → Shared → Prop}, Names X x cl → Q cl { sC with heap := hA } → wpAny (model X.prog X.w) (X.A.mark (some (.ref ad))) (eval (.Name x p1) X.env) Q E { sC with heap := hA } := by
        intro x cl p1 Q E nm q
        obtain ⟨g1, g2, g3 | ⟨g3, g4, g5⟩⟩ := nm
        · exact ld_glob (X := X.suite ad ((ad, obA) :: (X.pn ++ pins))) suA g1 g3 q g2
        · exact ld_blt (X := X.suite ad ((ad, obA) :: (X.pn ++ pins))) suA g1 g3 g4 q g5 g2
      induction mk with
      | nil =>
        intro wi
        apply wpAny_handleBy_nil
        obtain ⟨_, _, _, obF, vsF, T, oT, tsF, _, _, datF, oneF, _⟩ := id fa
        obtain ⟨_, _, _, _, _, _, _, _, getF, _, _, _, _⟩ := id fa
        unfold PySem.passOn
        have land : wpAny (model X.prog X.w) X.A (setFlight (.ref ad) X.env.frame) (fun _ s4 => wpAny (model X.prog X.w) X.A (throw (.ref ad) : Sem Flow) (SP X pins D) X.xe s4) X.xe { sC with heap := hA } := by
          rw [hfm]
          apply HandSPX.setFlight_upZ fa
          intro hB hhB upB
          apply wpAny_throw
          exact tk _ _ ⟨ad, B, sI, pins, τ, G, cls, dx, rfl, jb, nb, (up0.trans upA).trans upB, .inr (.inr (hst ▸ hhB)), free, os, ag, wi⟩
        obtain ⟨k1, k2, k3, oe, vs, T', oT', ts', he, hz, hdd, h1, hr⟩ := id fa
        apply wpAny_bind
        apply wpAny_field he hdd h1
        rw [if_neg (by simp)]
        first
          | exact wpAny_bind (wpAny_pure (wpAny_bind land))
          | exact wpAny_bind land
      | bare nm hsu _ ih =>
        intro wi
        obtain ⟨b, one, no, yes⟩ := wi
        apply wpAny_handleBy_cons (codeAny_handlers_test ?_) (by intro q; cases q)
        apply test nm
        apply (PySem.W.exm_one (M := model X.prog X.w) jA.kIn look one).here
        cases b with
        | false => exact ih (no rfl)
        | true =>
          apply codeAny_handlers_suite
          apply HandSPX.lands_againZ fa
          intro hB fb upB
          have jB : Inv X pins τ G { sC with heap := hB } := jb.landed nb fb.1 ((up0.trans upA).trans upB) os ag
          obtain ⟨obB, _, getB, zcB, datB⟩ := fb.there
          have suB := jB.suite getB datB free notLoc notFs
          apply wpAny_mono ((hsu ad obB cls dx (X.pn ++ pins) zcB ⟨_, datB⟩).run [] _ _ G _ suB (yes rfl ad free))
          · intro fl sE res
            cases fl with
            | next => obtain ⟨τ', G', su', qq⟩ := res; exact ⟨_, _, su'.unsuite okx, qq⟩
            | brk => obtain ⟨τ', G', su', qq⟩ := res; exact ⟨_, _, su'.unsuite okx, qq⟩
            | cont => obtain ⟨τ', G', su', qq⟩ := res; exact ⟨_, _, su'.unsuite okx, qq⟩
            | ret u => obtain ⟨vv, τ', G', su', rr, qq⟩ := res; exact ⟨_, _, _, su'.unsuite okx, rr, qq⟩
          · exact fun _ _ z => z.elim
      | @named x y i cl su s1 sts p1 p2 hs2 l2 nm hN hk hsu _ ih =>
        intro wi
        obtain ⟨b, one, no, yes⟩ := wi
        apply wpAny_handleBy_cons (codeAny_handlers_test ?_) (by intro q; cases q)
        apply test nm
        apply (PySem.W.exm_one (M := model X.prog X.w) jA.kIn look one).here
        cases b with
        | false => exact ih (no rfl)
        | true =>
          apply codeAny_handlers_suite_as
          apply HandSPX.lands_againZ fa
          intro hB fb upB
          have jB : Inv X pins τ G { sC with heap := hB } := jb.landed nb fb.1 ((up0.trans upA).trans upB) os ag
          obtain ⟨obB, _, getB, zcB, datB⟩ := fb.there
          have suB := jB.suite getB datB free notLoc notFs
          refine store_ok (X := X.suite ad ((ad, obB) :: (X.pn ++ pins))) (v := .ref ad) suB nd hN (.inl hk) rfl (fun sN suN => ?_) (.inr hk)
          apply wpAny_mono ((hsu ad obB cls dx (X.pn ++ pins) zcB ⟨_, datB⟩).run [] sN _ G _ suN (yes rfl ad free))
          · intro fl sE res
            have out : ∀ {τ' : L2.St} {G' : Hp} {Q : Shared → Prop}, Inv (X.suite ad ((ad, obB) :: (X.pn ++ pins))) [] τ' G' sE → (∀ s7, Inv X pins (τ'.set i none) G' s7 → Q s7) →
                wpAny (model X.prog X.w) X.A (do bindName X.env y .none; unbindBehindTheSuite X.env y p2) (fun _ s7 => Q s7) X.xe sE := fun su' hq => gone_ok (su'.unsuite okx) nd hN hk hq
            cases fl with
            | next => obtain ⟨τ', G', su', qq⟩ := res; exact out su' fun _ j7 => ⟨_, _, j7, qq⟩
            | brk => obtain ⟨τ', G', su', qq⟩ := res; exact out su' fun _ j7 => ⟨_, _, j7, qq⟩
            | cont => obtain ⟨τ', G', su', qq⟩ := res; exact out su' fun _ j7 => ⟨_, _, j7, qq⟩
            | ret u => obtain ⟨vv, τ', G', su', rr, qq⟩ := res; exact out su' fun _ j7 => ⟨_, _, _, j7, rr, qq⟩
          · exact fun _ _ z => z.elim
    exact walk hh wish
end
section
variable {X : Cx} {C : Str → Value} {sub : Str → Str → Option Bool} {w : WX} {F0 H0 : Hp} {body : List Stmt} {pos : Pos} {fb : Env → SR}
/-- the clauses by their form -/
inductive HdsM (X : Cx) (C : Str → Value) : List ExceptHandler → List (Str × HR) → List (Option Nat × Cl) → Prop
  | nil : HdsM X C [] [] []
  | k {x : Str} {d : D} {v : V} {j : Nat} {p np rp pos' : Pos} {hds : List ExceptHandler} {rs : List (Str × HR)} {l : List (Option Nat × Cl)} : Names X x (C x) → scalV d = some v → HdsM X C hds rs l →
      HdsM X C (.ExceptHandler (some (.Name x np)) none [.Return (some (scalE d j p)) rp] pos' :: hds) ((x, .k d) :: rs) ((none, C x, tsK v) :: l)
  | is {x n y : Str} {i : Nat} {c' : Addr} {d1 d2 : D} {v1 v2 : V} {st : Stmt} {np pos' : Pos} {hds : List ExceptHandler} {rs : List (Str × HR)} {l : List (Option Nat × Cl)} : Names X x (C x) → X.N[i]? = some n → X.env.kindOf n = some .local → C y = .ref c' → scalV d1 = some v1 → scalV d2 = some v2 →
      (∀ (a : Addr) (oe : Obj) (cls : Value) (d : Option Addr) (pn : List (Addr × Obj)), Zc cls d oe → (∃ vs, oe.data = .fields vs) → PSs (X.suite a ((a, oe) :: pn)) [st] (tsIs X.K i (.ref c') v1 v2 a cls d)) → HdsM X C hds rs l →
      HdsM X C (.ExceptHandler (some (.Name x np)) (some n) [st] pos' :: hds) ((x, .is y d1 d2) :: rs) ((some i, C x, tsIs X.K i (.ref c') v1 v2) :: l)
theorem HdsM.ok {hds : List ExceptHandler} {rs : List (Str × HR)} {l : List (Option Nat × Cl)} (h : HdsM X C hds rs l) : MixOk X hds l := by
  induction h with
  | nil => exact .nil
  | k hn hv _ ih => exact .bare hn (fun a oe cls d pn hz hf => PSs.weak (pss_one (ps_ret (pe_scal hv))) fun D σ H h => h) ih
  | is hn hi hk _ _ _ hsu _ ih => exact .named hn hi hk hsu ih
theorem wish_mix (ck : ClsOk X.K C sub) {F : Hp} {D : Ends} {c : Str} {hds : List ExceptHandler} {rs : List (Str × HR)} {l : List (Option Nat × Cl)} (h : HdsM X C hds rs l) (hh : sR X.K (WofX C w) F0 H0 F D (handleR sub rs c)) :
    sR X.K (WofX C (wMix X.K w D l)) F0 H0 F D (.ex c) := by
  induction h with
  | nil => exact hh
  | @k x d v j p np rp pos' hds rs l hn hv _ ih =>
    unfold handleR at hh
    cases q : sub c x with
    | none => rw [q] at hh; exact hh.elim
    | some b =>
      obtain ⟨e1, _, _⟩ := ck c x b q
      rw [q] at hh
      cases b with
      | true => exact fun σ' H' F' s x => ⟨true, e1, (fun z => nomatch z), fun _ a _ => hh v H' F' s x (scalV_q hv)⟩
      | false => exact fun σ' H' F' s x => ⟨false, e1, (fun _ => ih hh σ' H' F' s x), fun z => nomatch z⟩
  | @is x n y i c' d1 d2 v1 v2 st np pos' hds rs l hn hi hk hy h1 h2 hsu _ ih =>
    unfold handleR at hh
    cases q : sub c x with
    | none => rw [q] at hh; exact hh.elim
    | some b =>
      obtain ⟨e1, _, _⟩ := ck c x b q
      rw [q] at hh
      cases b with
      | false => exact fun σ' H' F' s x => ⟨false, e1, (fun _ => ih hh σ' H' F' s x), fun z => nomatch z⟩
      | true =>
        refine fun σ' H' F' s x' => ⟨true, e1, (fun z => nomatch z), fun _ a na => ?_⟩
        dsimp only at hh
        cases q2 : sub c y with
        | none => rw [q2] at hh; exact hh.elim
        | some b2 =>
          obtain ⟨_, e2, Dx, e3, e4⟩ := ck c y b2 q2
          rw [q2] at hh
          dsimp only at hh
          rw [e3, hy] at e2
          refine ⟨Dx, b2, e3, rfl, e4, ⟨σ', rfl⟩, e2, ?_⟩
          cases b2 with
          | true => exact .inl ⟨rfl, hh v1 H' F' s x' (scalV_q h1)⟩
          | false => exact .inr ⟨rfl, hh v2 H' F' s x' (scalV_q h2)⟩
theorem s_tryM {h₀ : ExceptHandler} {hds : List ExceptHandler} {rs : List (Str × HR)} {l : List (Option Nat × Cl)} (ck : ClsOk X.K C sub) (nd : X.N.Nodup) (hs : X.stack = X.env :: X.outer) (hf : X.env.frame = some X.env.locals) (tk : Takes X w)
    (hb : ∀ (W : WX) (pn : List (Addr × Obj)) (xe : Value → Shared → Prop), Takes (X.tr pn xe) W → PassesOwn (model X.prog X.w) X.A X.env xe → PSs (X.tr pn xe) body (tS X.K (WofX C W) F0 H0 fb))
    (hh : HdsM X C (h₀ :: hds) rs l) : PS X (.Try body (h₀ :: hds) [] [] pos) (tS X.K (WofX C w) F0 H0 fun σ => tryR sub rs (fb σ)) :=
  PS.weak (ps_try_mix nd hs hf tk hb hh.ok) fun D σ H ⟨F, env, R, h⟩ => ⟨F, env, R, by
    dsimp only at h
    cases q : fb env with
    | ex c => rw [q] at h; exact wish_mix ck hh h
    | _ => rw [q] at h; exact h⟩
end
end BW

namespace BW
open PySem PySem.W L2 PySem.Spec PyProof.Rows
section
variable {X : Cx} {W : WN} {F0 H0 : Hp} {a b c e : Expr} {pos p pa p2 ap cp : Pos} {f g : Env → Res D} {st : Stmt} {sts : List Stmt} {gs : Env → SR}
/-! ### what is not covered: nothing is promised -/
theorem c_any : PE X e (tE X.K W fun _ => .bad) := ⟨fun pins s σ H Q I ⟨_, _, _, h⟩ => h.elim⟩
theorem t_any : PT X e (tT X.K W fun _ => .bad) := ⟨fun pins s σ H Q I ⟨_, _, _, h⟩ => h.elim⟩
theorem w_any : PW X e (tT X.K W fun _ => .bad) := ⟨fun wh pins s σ H Q I ⟨_, _, _, h⟩ => h.elim⟩
theorem s_any : PS X st (tS X.K W F0 H0 fun _ => .bad) := ⟨fun pins s σ H D I ⟨_, _, _, h⟩ => h.elim⟩
/-! ### slots are forgotten -/
theorem RS.wipe {K : PySem.W.Frag} {F H : Hp} {σ : L2.St} {env : Env} (R : RS K F0 H0 F H σ env) : ∀ is : List Nat, RS K F0 H0 F H σ (wipeS env is)
  | [] => R
  | i :: is => by
    have R := R.wipe is
    have key : ∀ j, getS (setS (wipeS env is) i .un) j = if i = j ∧ i < (wipeS env is).length then .un else getS (wipeS env is) j := fun j => getS_set ..
    have ow : ∀ j l, Own σ (setS (wipeS env is) i .un) j l → Own σ (wipeS env is) j l := fun j l ⟨e, q⟩ => by
      rw [key j] at q
      by_cases h : i = j ∧ i < (wipeS env is).length
      · rw [if_pos h] at q
        rcases q with ⟨_, q⟩ | ⟨_, q⟩ <;> cases q
      · rw [if_neg h] at q
        exact ⟨e, q⟩
    refine ⟨⟨R.re.sub, by simp [wipeS, setS, R.re.len], fun j => ?_⟩, R.x, fun j l o => R.new j l (ow j l o), fun j k l o o' => R.apart j k l (ow _ _ o) (ow _ _ o')⟩
    show SlotOk K F H (σ[j]?) (getS (setS (wipeS env is) i .un) j)
    rw [key j]
    split
    · trivial
    · exact R.re.slot j
theorem s_wipe {is : List Nat} (h : PSs X sts (tS X.K W F0 H0 gs)) : PSs X sts (tS X.K W F0 H0 fun σ => gs (wipeS σ is)) :=
  PSs.weak h fun D σ H ⟨F, env, R, hh⟩ => ⟨F, _, R.wipe is, hh⟩
/-! ### list(range(..)), tuple(range(..)) -/
theorem rl_data {K : PySem.W.Frag} {F : Hp} {i j : Int} : DqAll K F (rgV i j) ((List.range (j - i).toNat).map fun k => .int (i + (k : Nat))) := by
  unfold rgV
  generalize List.range (j - i).toNat = L
  induction L with
  | nil => exact .nil
  | cons a L ih => exact .cons (.int _) ih
theorem rlD_ok {t : Bool} {x y d : D} (h : rlD t x y = .ok d) : ∃ i j, x = .int i ∧ y = .int j ∧ RgOk i j ∧ d = (if t then .tuple ((List.range (j - i).toNat).map fun k => .int (i + (k : Nat))) else .list ((List.range (j - i).toNat).map fun k => .int (i + (k : Nat)))) := by
  unfold rlD rngD at h
  obtain ⟨i, rfl⟩ : ∃ i, x = .int i := by cases x <;> first | exact ⟨_, rfl⟩ | cases h
  obtain ⟨j, rfl⟩ : ∃ j, y = .int j := by cases y <;> first | exact ⟨_, rfl⟩ | cases h
  refine ⟨i, j, rfl, rfl, ?_⟩
  simp only [asInt, Res.ok_bind, if_true] at h
  split at h
  · rename_i hc
    simp only [Res.ok_bind] at h
    split at h
    · rename_i hs
      simp only [sizeOk, List.length_map, List.length_range, decide_eq_true_eq] at hs
      simp only [Bool.and_eq_true, decide_eq_true_eq] at hc
      refine ⟨⟨by omega, by omega, by omega, by omega, by omega⟩, ?_⟩
      cases t <;> simpa using h.symm
    · cases h
  · simp at h
theorem rlD_noex {t : Bool} {x y : D} : NoEx (rlD t x y) := fun c h => by
  unfold rlD rngD at h
  obtain ⟨i, rfl⟩ : ∃ i, x = .int i := by cases x <;> first | exact ⟨_, rfl⟩ | cases h
  obtain ⟨j, rfl⟩ : ∃ j, y = .int j := by cases y <;> first | exact ⟨_, rfl⟩ | cases h
  simp only [asInt, Res.ok_bind, if_true] at h
  split at h
  · simp only [Res.ok_bind] at h
    split at h <;> cases h
  · cases h
theorem c_rl2 (ok : XOk X) (t : Bool) (hg : Gl X (if t then "tuple" else "list")) (hm : X.mg (if t then "tuple" else "list") = none) (hg2 : Gl X "range") (hm2 : X.mg "range" = none) (ha : PE X a (tP X.K W f)) (hb : PE X b (tP X.K W g))
    (hs : starEach [.Call (.Name "range" p2) [a, b] [] pa] X.env = (false, eval (.Call (.Name "range" p2) [a, b] [] pa) X.env) :: starEach [] X.env) (hs1 : starEach [a, b] X.env = (false, eval a X.env) :: starEach [b] X.env) (hs2 : starEach [b] X.env = (false, eval b X.env) :: starEach [] X.env) (hpl : (backTo pa (starEach [b] X.env)).any (·.1) = false) :
    PE X (.Call (.Name (if t then "tuple" else "list") p) [.Call (.Name "range" p2) [a, b] [] pa] [] pos) (tE X.K W fun σ => do let x ← f σ; let y ← g σ; rlD t x y) := by
  have pr := prg_2 (p := p2) (pos := pa) hg2 hm2 ha hb hs1 hs2 hpl
  cases t with
  | true =>
    refine PE.weak (pe_tupRg ok.calm hg hm pr hs) fun σ H Q ⟨F, env, R, h⟩ => goP mnE R h fun dx v F1 H1 _ x1 R1 p1 h1 => goP mnE R1 h1 fun dy w F2 H2 _ x2 R2 p2 h2 => ?_
    obtain ⟨d, e, q⟩ := h2.noex rlD_noex
    obtain ⟨i, j, rfl, rfl, ro, rfl⟩ := rlD_ok e
    cases (p1.ext x2).int
    cases p2.int
    exact ⟨i, j, rfl, rfl, ro, new_tup x2.sub q rl_data⟩
  | false =>
    refine PE.weak (pe_listRg ok.calm hg hm pr hs) fun σ H Q ⟨F, env, R, h⟩ => goP mnE R h fun dx v F1 H1 _ x1 R1 p1 h1 => goP mnE R1 h1 fun dy w F2 H2 _ x2 R2 p2 h2 => ?_
    obtain ⟨d, e, q⟩ := h2.noex rlD_noex
    obtain ⟨i, j, rfl, rfl, ro, rfl⟩ := rlD_ok e
    cases (p1.ext x2).int
    cases p2.int
    exact ⟨i, j, rfl, rfl, ro, new_lst x2.sub q rl_data⟩
theorem c_rl1 (ok : XOk X) (t : Bool) (hg : Gl X (if t then "tuple" else "list")) (hm : X.mg (if t then "tuple" else "list") = none) (hg2 : Gl X "range") (hm2 : X.mg "range" = none) (hb : PE X b (tP X.K W g))
    (hs : starEach [.Call (.Name "range" p2) [b] [] pa] X.env = (false, eval (.Call (.Name "range" p2) [b] [] pa) X.env) :: starEach [] X.env) (hs2 : starEach [b] X.env = (false, eval b X.env) :: starEach [] X.env) :
    PE X (.Call (.Name (if t then "tuple" else "list") p) [.Call (.Name "range" p2) [b] [] pa] [] pos) (tE X.K W fun σ => do let y ← g σ; rlD t (.int 0) y) := by
  have pr := prg_1 (p := p2) (pos := pa) hg2 hm2 hb hs2
  cases t with
  | true =>
    refine PE.weak (pe_tupRg ok.calm hg hm pr hs) fun σ H Q ⟨F, env, R, h⟩ => goP mnE R h fun dy w F2 H2 _ x2 R2 p2 h2 => ?_
    obtain ⟨d, e, q⟩ := h2.noex rlD_noex
    obtain ⟨i, j, e1, rfl, ro, rfl⟩ := rlD_ok e
    cases e1
    cases p2.int
    exact ⟨j, rfl, ro, new_tup x2.sub q rl_data⟩
  | false =>
    refine PE.weak (pe_listRg ok.calm hg hm pr hs) fun σ H Q ⟨F, env, R, h⟩ => goP mnE R h fun dy w F2 H2 _ x2 R2 p2 h2 => ?_
    obtain ⟨d, e, q⟩ := h2.noex rlD_noex
    obtain ⟨i, j, e1, rfl, ro, rfl⟩ := rlD_ok e
    cases e1
    cases p2.int
    exact ⟨j, rfl, ro, new_lst x2.sub q rl_data⟩
/-! ### xs.index(y), ''.join(xs) -/
theorem room65 {k : Nat} {A : Around} (r : Room k A) : A.units + 65 < cLine := by have := r.un; omega
theorem nx_idxD (xs : List D) (y : D) : NoEx (idxD xs y) := by
  unfold idxD
  split
  · split <;> first | exact NoEx.ok _ | exact NoEx.bad
  · exact NoEx.bad
theorem Pk.dp {K : PySem.W.Frag} {F H : Hp} {v : V} {d : D} (e : Same F H) (h : Pk K F H v d) (hp : d.plain = true) : Dp K H v d := by
  cases h with
  | dq q => exact (q.up e).dp _ _ hp
  | ol a b q => subst a; exact .lst (.inl (.inl b)) ((q.up e).dp _ _ (by simpa [PyData.plain] using hp))
  | od a b q => simp [PyData.plain] at hp
theorem c_idx (hu : X.A.units + 65 < cLine) (ha : PE X a (tP X.K W f)) (hb : PE X b (tP X.K W g)) (hbase : attributeBase a "index" X.env (eval a X.env) = eval a X.env) (hs : starEach [b] X.env = (false, eval b X.env) :: starEach [] X.env)
    (hfew : ((backTo cp (starEach [b] X.env)).all (fun x => !x.1) && (backToKw cp (keywordEach [] X.env)).all (fun x => x.1.isSome) && decide (([b] : List Expr).length + ([] : List Keyword).length + (if ([] : List Keyword).isEmpty then 0 else 1) < 30)) = true)
    (hl : (ap.endLine == cp.line) = true) : PE X (.Call (.Attribute a "index" ap) [b] [] cp) (tE X.K W fun σ => do let x ← f σ; let xs ← asL x; let y ← g σ; idxD xs y) :=
  PE.weak (pe_bm PySem.F.plainAttrs_list PySem.F.slot_list_index PySem.F.type_list_index (mt_indexD hu) ha (pa_cons hb pa_nil hs) hbase hfew hl hs rfl) fun σ H Q ⟨F, env, R, h⟩ => goP mnE R h fun dx v F1 H1 _ x1 R1 p1 h1 => by
    obtain ⟨ds, rfl⟩ : ∃ ds, dx = .list ds := by cases dx <;> first | exact ⟨_, rfl⟩ | exact h1.elim
    obtain ⟨l, xs, rfl, hr, ha⟩ := p1.lst x1.sub
    simp only [asL, Res.ok_bind] at h1
    refine ⟨.inl ⟨rfl, xs, .inl hr⟩, goP mnE R1 h1 fun dy w F2 H2 _ x2 R2 p2 h2 => ?_⟩
    obtain ⟨d, e, q⟩ := h2.noex (nx_idxD _ _)
    unfold idxD at e
    split at e
    · rename_i hc
      simp only [Bool.and_eq_true] at hc
      obtain ⟨⟨⟨c1, c2⟩, c3⟩, c4⟩ := hc
      have hp : ∀ {z : D}, sm z = true → z.plain = true := fun z => by unfold BW.sm at z; simp only [Bool.and_eq_true] at z; exact z.1
      split at e
      · rename_i j hj
        cases e
        rw [List.findIdx?_eq_some_iff_getElem] at hj
        obtain ⟨hlt, h5, h6⟩ := hj
        have dy' : Dp X.K H2 w dy := p2.dp x2.sub (hp c4)
        have dl : Dp X.K H2 (.ref l) (.list ds) := (Pk.ext x2 p1).dp x2.sub (hp c3)
        refine ⟨l, w, dy, ds, j, ds[j], rfl, rfl, dl, dy', c1, c2, List.getElem?_eq_getElem hlt, h5, fun m z hm hz => ?_, q.fin x2.sub (.int _)⟩
        have := h6 m hm
        rw [List.getElem?_eq_getElem (by omega)] at hz
        cases hz
        simpa using this
      · cases e
    · cases e
theorem strs_data {K : PySem.W.Frag} {F : Hp} : ∀ {ds : List D} {vs : List V} {zs : List Str}, DqAll K F vs ds → mapR asStr ds = .ok zs → vs = zs.map V.str
  | [], _, _, .nil, h => by cases h; rfl
  | d :: ds, _, zs, .cons h1 h2, h => by
    unfold mapR at h
    obtain ⟨z, rfl⟩ : ∃ z, d = .str z := by cases d <;> first | exact ⟨_, rfl⟩ | cases h
    simp only [asStr, Res.ok_bind] at h
    cases q : mapR asStr ds with
    | ok ys =>
      rw [q] at h
      cases h
      cases h1
      rw [strs_data h2 q]
      rfl
    | ex _ => rw [q] at h; cases h
    | bad => rw [q] at h; cases h
theorem nx_strs : ∀ ds : List D, NoEx (mapR asStr ds)
  | [] => NoEx.ok _
  | d :: ds => by
    unfold mapR
    refine NoEx.bind ?_ fun _ => NoEx.bind (nx_strs ds) fun _ => NoEx.ok _
    cases d <;> first | exact NoEx.ok _ | exact NoEx.bad
theorem nx_joinD (x : Str) (y : D) : NoEx (joinD x y) := by
  unfold joinD
  split
  · refine NoEx.bind (nx_strs _) fun zs => ?_
    split <;> first | exact NoEx.ok _ | exact NoEx.bad
  · exact NoEx.bad
theorem c_join {x : Str} {j : Nat} (hb : PE X b (tP X.K W g)) (hbase : attributeBase (.Constant (.str x) j p) "join" X.env (eval (.Constant (.str x) j p) X.env) = eval (.Constant (.str x) j p) X.env) (hs : starEach [b] X.env = (false, eval b X.env) :: starEach [] X.env)
    (hfew : ((backTo cp (starEach [b] X.env)).all (fun x => !x.1) && (backToKw cp (keywordEach [] X.env)).all (fun x => x.1.isSome) && decide (([b] : List Expr).length + ([] : List Keyword).length + (if ([] : List Keyword).isEmpty then 0 else 1) < 30)) = true)
    (hl : (ap.endLine == cp.line) = true) : PE X (.Call (.Attribute (.Constant (.str x) j p) "join" ap) [b] [] cp) (tE X.K W fun σ => do let y ← g σ; joinD x y) :=
  PE.weak (pe_bm PySem.F.plainAttrs_str PySem.F.slot_str_join PySem.F.type_str_join mt_join pe_str (pa_cons hb pa_nil hs) hbase hfew hl hs rfl) fun σ H Q ⟨F, env, R, h⟩ =>
    ⟨rfl, goP mnE R h fun dy w F2 H2 _ x2 R2 p2 h2 => by
      obtain ⟨d, e, q⟩ := h2.noex (nx_joinD _ _)
      unfold joinD at e
      have fin : ∀ {vs : List V} {ys : List D} {l : Addr}, DqAll X.K H2 vs ys → (SqL X.K H2 l vs ∨ SqT X.K H2 l vs) → w = .ref l → (do let zs ← mapR asStr ys; if decide ((zs.map (·.length)).sum + zs.length * x.length ≤ 1000000) then .ok (.str (Txt.join x zs)) else .bad : Res D) = .ok d → ∃ a p, ∃ ys : List Str, V.str x = .str a ∧ [w] = [.ref p] ∧ (SqL X.K H2 p (ys.map V.str) ∨ SqT X.K H2 p (ys.map V.str)) ∧ (ys.map (·.length)).sum + ys.length * a.length ≤ 16777216 ∧ Q (.str (Txt.join a ys)) H2 := fun {vs ys l} hd hl hw e => by
        cases q2 : mapR asStr ys with
        | ex _ => rw [q2] at e; cases e
        | bad => rw [q2] at e; cases e
        | ok zs =>
          rw [q2] at e
          simp only [Res.ok_bind] at e
          split at e
          · rename_i hz
            cases e
            have := strs_data hd q2
            subst this
            refine ⟨x, l, zs, rfl, by rw [hw], hl, ?_, q.fin x2.sub (.str _)⟩
            have := of_decide_eq_true hz
            omega
          · cases e
      have hd : (∃ ys, dy = .list ys) ∨ ∃ ys, dy = .tuple ys := by cases dy <;> first | exact .inl ⟨_, rfl⟩ | exact .inr ⟨_, rfl⟩ | cases e
      rcases hd with ⟨ys, rfl⟩ | ⟨ys, rfl⟩
      · obtain ⟨l, xs, rfl, hr, ha⟩ := p2.lst x2.sub
        exact fin (ha.up x2.sub) (.inl (.inl hr)) rfl e
      · obtain ⟨l, xs, rfl, hr, ha⟩ := p2.tup x2.sub
        exact fin (ha.up x2.sub) (.inr hr) rfl e⟩
end
end BW

namespace BW
open PySem PySem.W L2 PySem.Spec PyProof.Rows
/-! ### the text against its form -/
/-- what the module holds: defs (place, number of parameters), constants -/
structure GC where
  fns : List (Str × Nat × Nat)
  con : List (Str × D)
  exc : List Str
/-- plain: one of these -/
def plainE : Expr → Bool
  | .Starred _ _ => false
  | _ => true
theorem star_plain {e : Expr} {es : List Expr} {env : PySem.Env} (h : plainE e = true) : starEach (e :: es) env = (false, eval e env) :: starEach es env := by
  cases e <;> first | rfl | exact absurd h Bool.false_ne_true
theorem back_plain {env : PySem.Env} {pos : Pos} : ∀ {es : List Expr}, es.all plainE = true → (backTo pos (starEach es env)).any (·.1) = false
  | [], _ => rfl
  | e :: es, h => by
    simp only [List.all_cons, Bool.and_eq_true] at h
    rw [star_plain h.1]
    show (false || (backTo pos (starEach es env)).any (·.1)) = false
    rw [back_plain h.2]
    rfl
def plainTg : Expr → Bool
  | .Starred _ _ => false
  | _ => true
theorem asg_plain {e : Expr} {es : List Expr} {env : PySem.Env} (h : plainTg e = true) : assignEach (e :: es) env = (false, assign e env) :: assignEach es env := by
  cases e <;> first | rfl | exact absurd h Bool.false_ne_true
def notSet : Expr → Bool
  | .Set _ _ _ => false
  | _ => true
theorem fold_notSet {e : Expr} {env : PySem.Env} (h : notSet e = true) (x : Value) : foldedSetIterable e env x = pure x := by
  cases e <;> first | rfl | exact absurd h Bool.false_ne_true
def tstB : Expr → Bool
  | .UnaryOp .Not _ _ => false
  | .BoolOp _ _ _ => false
  | .IfExp _ _ _ _ => false
  | .Compare _ _ _ _ => false
  | _ => true
theorem tst_plain {e : Expr} {env : PySem.Env} (h : tstB e = true) (whole : Sem Value) : isTrue e env whole = (do let v ← whole; standAt e.pos; holding [v] (truthy v)) := by
  cases e with
  | UnaryOp op a p => cases op <;> first | rfl | exact absurd h Bool.false_ne_true
  | BoolOp _ _ _ => exact absurd h Bool.false_ne_true
  | IfExp _ _ _ _ => exact absurd h Bool.false_ne_true
  | Compare _ _ _ _ => exact absurd h Bool.false_ne_true
  | _ => rfl
def ixB : Expr → Bool
  | .Slice _ _ _ _ => false
  | _ => true
theorem ix_plain {e : Expr} (h : ixB e = true) : PlainIx e := by
  cases e <;> first | exact absurd h Bool.false_ne_true | (intro o i; rfl)
def visB (sc : Scope) (x : Str) : Bool := match sc.names.lookup x with
  | some .local => true
  | some .cell => true
  | some .free => true
  | _ => false
theorem vis_of {sc : Scope} {x : Str} (h : visB sc x = true) : Vis sc x := by
  unfold visB at h
  split at h <;> first | exact .inl (by assumption) | exact .inr (.inl (by assumption)) | exact .inr (.inr (by assumption)) | exact absurd h Bool.false_ne_true
def locB (sc : Scope) (x : Str) : Bool := match sc.names.lookup x with
  | some .local => true
  | some .cell => true
  | _ => false
theorem loc_of {sc : Scope} {x : Str} (h : locB sc x = true) : Loc sc x := by
  unfold locB at h
  split at h <;> first | exact .inl (by assumption) | exact .inr (by assumption) | exact absurd h Bool.false_ne_true
def slotB (N : List Str) (sc : Scope) (x : Str) (i : Nat) : Bool := decide (N[i]? = some x) && visB sc x && !(x == ("__debug__" : Str)) && !(x == ("__classdict__" : Str))
theorem slot_of {N : List Str} {sc : Scope} {x : Str} {i : Nat} (h : slotB N sc x i = true) : N[i]? = some x ∧ Vis sc x ∧ (x == ("__debug__" : Str)) = false ∧ (x == ("__classdict__" : Str)) = false := by
  unfold slotB at h
  simp only [Bool.and_eq_true, decide_eq_true_eq, Bool.not_eq_true'] at h
  exact ⟨h.1.1.1, vis_of h.1.1.2, h.1.2, h.2⟩
def glB (sc : Scope) (x : Str) : Bool := decide (sc.names.lookup x = some .globalImplicit) && !(x == ("__debug__" : Str))
/-- scalars alike -/
def scEq : D → D → Bool
  | .none, .none => true
  | .bool a, .bool b => a == b
  | .int a, .int b => decide (a = b)
  | .str a, .str b => decide (a = b)
  | _, _ => false
theorem scEq_of {a b : D} (h : scEq a b = true) : a = b ∧ ∃ v, scalV a = some v := by
  cases a <;> cases b <;> first | exact absurd h Bool.false_ne_true | skip
  · exact ⟨rfl, _, rfl⟩
  · exact ⟨congrArg _ (by simpa [scEq] using h), _, rfl⟩
  · exact ⟨congrArg _ (by simpa [scEq] using h), _, rfl⟩
  · exact ⟨congrArg _ (by simpa [scEq] using h), _, rfl⟩
mutual
/-- data alike (no dict) -/
def dEq : D → D → Bool
  | .none, .none => true
  | .bool a, .bool b => a == b
  | .int a, .int b => decide (a = b)
  | .str a, .str b => decide (a = b)
  | .tuple a, .tuple b => dEqs a b
  | .list a, .list b => dEqs a b
  | _, _ => false
def dEqs : List D → List D → Bool
  | [], [] => true
  | a :: as, b :: bs => dEq a b && dEqs as bs
  | _, _ => false
end
mutual
theorem dEq_of : ∀ {a b : D}, dEq a b = true → a = b
  | .none, b, h => by cases b <;> first | rfl | exact absurd h Bool.false_ne_true
  | .bool x, b, h => by
    cases b <;> first | exact absurd h Bool.false_ne_true | skip
    exact congrArg _ (by simpa [dEq] using h)
  | .int x, b, h => by
    cases b <;> first | exact absurd h Bool.false_ne_true | skip
    exact congrArg _ (by simpa [dEq] using h)
  | .str x, b, h => by
    cases b <;> first | exact absurd h Bool.false_ne_true | skip
    exact congrArg _ (by simpa [dEq] using h)
  | .tuple x, b, h => by
    cases b <;> first | exact absurd h Bool.false_ne_true | skip
    exact congrArg _ (dEqs_of h)
  | .list x, b, h => by
    cases b <;> first | exact absurd h Bool.false_ne_true | skip
    exact congrArg _ (dEqs_of h)
  | .dict x, b, h => by cases b <;> exact absurd h Bool.false_ne_true
theorem dEqs_of : ∀ {a b : List D}, dEqs a b = true → a = b
  | [], [], _ => rfl
  | [], _ :: _, h => absurd h Bool.false_ne_true
  | _ :: _, [], h => absurd h Bool.false_ne_true
  | a :: as, b :: bs, h => by
    have h : dEq a b = true ∧ dEqs as bs = true := by simpa [dEqs] using h
    rw [dEq_of h.1, dEqs_of h.2]
end
def ckK (G : GC) (sc : Scope) (e : Expr) (d : D) : Bool := match e with
  | .Constant .none _ _ => scEq .none d
  | .Constant (.bool b) _ _ => scEq (.bool b) d
  | .Constant (.int b) _ _ => scEq (.int b) d
  | .Constant (.str b) _ _ => scEq (.str b) d
  | .Name x _ => glB sc x && (match G.con.lookup x with | some d' => dEq d' d | none => false)
  | _ => false
def ckL (r : Expr → E → Bool) : List Expr → List E → Bool
  | [], [] => true
  | e :: es, i :: is => plainE e && r e i && ckL r es is
  | _, _ => false
def ckTys (sc : Scope) : List Expr → List Ty → Bool
  | [], [] => true
  | .Name x _ :: es, t :: ts => decide (x = tyS t) && glB sc x && ckTys sc es ts
  | _, _ => false
/-- what the built-in names are -/
def biNames : List Str := ["len", "abs", "int", "tuple", "list", "sorted", "sum", "min", "max", "all", "any", "isinstance", "range", "enumerate", "zip", "bool", "str", "dict", "set"]
inductive Md | e | p | t | w
abbrev Ck := Md → List Str → Scope → Expr → E → Bool
mutual
def ckG (lc : Str → Bool) (N : List Str) (sc : Scope) : Expr → Tg → Bool
  | .Name x _, .n i => decide (N[i]? = some x) && locB sc x && (lc x || decide (sc.names.lookup x = some .local))
  | .Tuple es _ _, .t ts => ckGs lc N sc es ts
  | _, _ => false
def ckGs (lc : Str → Bool) (N : List Str) (sc : Scope) : List Expr → List Tg → Bool
  | [], [] => true
  | e :: es, t :: ts => plainTg e && ckG lc N sc e t && ckGs lc N sc es ts
  | _, _ => false
end
/-- what is walked; pk: the walked thing may be this def's own -/
def ckI (r : Ck) (N : List Str) (sc : Scope) (pk : Bool) (tg e : Expr) : E → Bool
  | .rng a b c => (match e with
    | .Call (.Name x _) [y] [] _ => decide (x = ("range" : Str)) && glB sc x && (match a with | .k (.int 0) => true | _ => false) && (match c with | .k (.int 1) => true | _ => false) && plainE y && r .p N sc y b
    | .Call (.Name x _) [y, z] [] _ => decide (x = ("range" : Str)) && glB sc x && (match c with | .k (.int 1) => true | _ => false) && plainE y && plainE z && r .p N sc y a && r .p N sc z b
    | .Call (.Name x _) [y, z, u] [] _ => decide (x = ("range" : Str)) && glB sc x && (match c with | .neg (.k (.int 1)) => true | _ => false) && plainE y && plainE z && plainE u && r .p N sc y a && r .p N sc z b && r .p N sc u c
    | _ => false)
  | .enm a => (match e, tg with
    | .Call (.Name x _) [y] [] _, .Tuple _ _ _ => decide (x = ("enumerate" : Str)) && glB sc x && plainE y && r (if pk then .p else .e) N sc y a
    | _, _ => false)
  | .zip a b => (match e, tg with
    | .Call (.Name x _) [y, z] [] _, .Tuple _ _ _ => decide (x = ("zip" : Str)) && glB sc x && plainE y && plainE z && r (if pk then .p else .e) N sc y a && r (if pk then .p else .e) N sc z b
    | _, _ => false)
  | E => r (if pk then .p else .e) N sc e E
def ownS (N : List Str) (own : List Nat) : List (Str × Nat) := own.filterMap fun i => (N[i]?).map fun x => (x, i)
/-- a comprehension -/
def ckComp (r : Ck) (N : List Str) (sc : Scope) (e : Expr) (elt : E) (T : Tg) (it c : E) (own : List Nat) : Bool := match e with
  | .ListComp x [⟨tg, iter, ifs, 0⟩] scope _ =>
    blkC N sc scope (ownS N own) && decide ((ownS N own).map (·.2) = own) && notSet iter && T.sl.all (fun i => decide (i ∈ own)) && ckI r N sc true tg iter it && ckG (fun x => scope.names.lookup x == some .cell) N (relS scope sc) tg T && r .e N (relS scope sc) x elt &&
      (match ifs with
      | [] => (match c with | .k (.bool true) => true | _ => false)
      | [t] => r .t N (relS scope sc) t c
      | _ => false)
  | _ => false
/-- a dict comprehension -/
def ckDComp (r : Ck) (N : List Str) (sc : Scope) (e : Expr) (kx vx : E) (T : Tg) (it c : E) (own : List Nat) : Bool := match e with
  | .DictComp x y [⟨tg, iter, ifs, 0⟩] scope _ =>
    blkC N sc scope (ownS N own) && decide ((ownS N own).map (·.2) = own) && notSet iter && T.sl.all (fun i => decide (i ∈ own)) && ckI r N sc true tg iter it && ckG (fun x => scope.names.lookup x == some .cell) N (relS scope sc) tg T && r .e N (relS scope sc) x kx && r .e N (relS scope sc) y vx &&
      (match ifs with
      | [] => (match c with | .k (.bool true) => true | _ => false)
      | [t] => r .t N (relS scope sc) t c
      | _ => false)
  | _ => false
def ckB1 (r : Ck) (N : List Str) (sc : Scope) (e : Expr) (b : B1) (a : E) : Bool := match b with
  | .setsorted => (match e with | .Call (.Name x _) [.Call (.Name z _) [y] [] _] [] _ => decide (x = ("sorted" : Str)) && decide (z = ("set" : Str)) && glB sc x && glB sc z && plainE y && r .p N sc y a | _ => false)
  | .setlen => (match e with | .Call (.Name x _) [.Call (.Name z _) [y] [] _] [] _ => decide (x = ("len" : Str)) && decide (z = ("set" : Str)) && glB sc x && glB sc z && plainE y && r .p N sc y a | _ => false)
  | b => (match e with | .Call (.Name x _) [y] [] _ => decide (x = b1S b) && decide (b ≠ .setsorted ∧ b ≠ .setlen) && glB sc x && plainE y && r .p N sc y a | _ => false)
def ckE1 (G : GC) (r : Ck) (N : List Str) (sc : Scope) (e : Expr) : E → Bool
  | .k d => ckK G sc e d
  | .v i => (match e with | .Name x _ => slotB N sc x i | _ => false)
  | .p _ => false
  | .tup es => (match e with | .Tuple xs _ _ => ckL (r .e N sc) xs es && decide (es.length ≤ 1000) | _ => false)
  | .lst es => (match e with | .List xs _ => ckL (r .e N sc) xs es && decide (es.length ≤ 1000) | _ => false)
  | .op o a b => (match e with | .BinOp x q y _ => decide (q = opM o) && r .p N sc x a && r .p N sc y b | _ => false)
  | .cmp o a b => (match e with | .Compare x [q] [y] _ => decide (q = cmpM o) && !behindInMarks (cmpM o) y && r .p N sc x a && r .p N sc y b | _ => false)
  | .ch o q a b c => (match e with | .Compare x [o', q'] [y, z] _ => decide (o' = cmpM o) && decide (q' = cmpM q) && !lastMarks [cmpM o, cmpM q] [y, z] && r .p N sc x a && r .p N sc y b && r .p N sc z c | _ => false)
  | .and a b => (match e with
    | .BoolOp .And (x :: y :: rest) p => r .p N sc x a && (match rest with | [] => r .e N sc y b | _ => r .e N sc (.BoolOp .And (y :: rest) p) b)
    | _ => false)
  | .or a b => (match e with
    | .BoolOp .Or (x :: y :: rest) p => r .p N sc x a && (match rest with | [] => r .e N sc y b | _ => r .e N sc (.BoolOp .Or (y :: rest) p) b)
    | _ => false)
  | .not a => (match e with | .UnaryOp .Not x _ => r .p N sc x a | _ => false)
  | .neg a => (match e with | .UnaryOp .USub x _ => r .p N sc x a | _ => false)
  | .ite c a b => (match e with | .IfExp x y z _ => r .t N sc x c && r .e N sc y a && r .e N sc z b | _ => false)
  | .isN a => (match e with | .Compare x [.Is] [.Constant .none _ _] _ => r .p N sc x a | _ => false)
  | .notN a => (match e with | .Compare x [.IsNot] [.Constant .none _ _] _ => r .p N sc x a | _ => false)
  | .ix a b => (match e with | .Subscript x y _ => ixB y && r .p N sc x a && r .p N sc y b | _ => false)
  | .slf a l => (match e with | .Subscript x (.Slice (some y) none none _) _ => r .p N sc x a && r .p N sc y l | _ => false)
  | .slt a h => (match e with | .Subscript x (.Slice none (some y) none _) _ => r .p N sc x a && r .p N sc y h | _ => false)
  | .slb a l h => (match e with | .Subscript x (.Slice (some y) (some z) none _) _ => r .p N sc x a && r .p N sc y l && r .p N sc z h | _ => false)
  | .rev a => (match e with | .Subscript x (.Slice none none (some (.UnaryOp .USub (.Constant (.int 1) _ _) _)) _) _ => r .p N sc x a | _ => false)
  | .call f es => (match e with
    | .Call (.Name x _) (a :: as) [] _ => glB sc x && decide (G.fns.lookup x = some (f, es.length)) && ckL (r .e N sc) (a :: as) es
    | _ => false)
  | .b1 b a => ckB1 r N sc e b a
  | .b2 b a c => (match e with | .Call (.Name x _) [y, z] [] _ => decide (x = b2S b) && glB sc x && plainE y && plainE z && r .p N sc y a && r .p N sc z c | _ => false)
  | .isi a ts => (match e with
    | .Call (.Name x _) [y, .Tuple es _ _] [] _ => decide (x = ("isinstance" : Str)) && glB sc x && plainE y && decide (ts.length ≤ 100) && ckTys sc es ts && r .p N sc y a
    | .Call (.Name x _) [y, .Name z _] [] _ => decide (x = ("isinstance" : Str)) && glB sc x && plainE y && glB sc z && (match ts with | [t] => decide (z = tyS t) | _ => false) && r .p N sc y a
    | _ => false)
  | .comp elt T it c own => ckComp r N sc e elt T it c own
  | .dcomp kx vx T it c own => ckDComp r N sc e kx vx T it c own
  | .any => true
  | .rl t a b => (match e with
    | .Call (.Name x _) [.Call (.Name z _) [y] [] _] [] _ => decide (x = (if t then "tuple" else "list" : Str)) && decide (z = ("range" : Str)) && glB sc x && glB sc z && (match a with | .k (.int 0) => true | _ => false) && plainE y && r .p N sc y b
    | .Call (.Name x _) [.Call (.Name z _) [y, u] [] _] [] _ => decide (x = (if t then "tuple" else "list" : Str)) && decide (z = ("range" : Str)) && glB sc x && glB sc z && plainE y && plainE u && r .p N sc y a && r .p N sc u b
    | _ => false)
  | .idx a b => (match e with
    | .Call (.Attribute (.Name x p') y ap) [z] [] cp => decide (y = ("index" : Str)) && plainE z && (ap.endLine == cp.line) && r .p N sc (.Name x p') a && r .p N sc z b
    | _ => false)
  | .join a b => (match e with
    | .Call (.Attribute (.Constant (.str x) j p') y ap) [z] [] cp => decide (y = ("join" : Str)) && decide (x = a) && plainE z && (ap.endLine == cp.line) && r .p N sc z b
    | _ => false)
  | _ => false
def ckT0 (r : Ck) (N : List Str) (sc : Scope) (e : Expr) (E : E) : Bool := match e with
  | .BoolOp _ _ _ => r .w N sc e E
  | .UnaryOp .Not x _ => (match E with | .not a => r .t N sc x a | _ => false)
  | .Compare x [o] [y] _ => (match E with
    | .cmp o' a b => decide (o = cmpM o') && !behindInMarks (cmpM o') y && r .p N sc x a && r .p N sc y b
    | .isN a => (match o, y with | .Is, .Constant .none _ _ => r .p N sc x a | _, _ => false)
    | .notN a => (match o, y with | .IsNot, .Constant .none _ _ => r .p N sc x a | _, _ => false)
    | _ => false)
  | .Compare x [o, q] [y, z] _ => (match E with
    | .ch o' q' a b c => decide (o = cmpM o') && decide (q = cmpM q') && !lastMarks [cmpM o', cmpM q'] [y, z] && r .p N sc x a && r .p N sc y b && r .p N sc z c
    | _ => false)
  | e => tstB e && r .p N sc e E
def isAny : E → Bool
  | .any => true
  | _ => false
def ckT1 (r : Ck) (N : List Str) (sc : Scope) (e : Expr) (E : E) : Bool := isAny E || ckT0 r N sc e E
def ckW0 (r : Ck) (N : List Str) (sc : Scope) (e : Expr) (E : E) : Bool := match e with
  | .BoolOp .And [x] _ => r .t N sc x E
  | .BoolOp .Or [x] _ => r .t N sc x E
  | .BoolOp .And (x :: y :: rest) p => (match E with | .and a b => r .t N sc x a && r .w N sc (.BoolOp .And (y :: rest) p) b | _ => false)
  | .BoolOp .Or (x :: y :: rest) p => (match E with | .or a b => r .t N sc x a && r .w N sc (.BoolOp .Or (y :: rest) p) b | _ => false)
  | _ => false
def ckW1 (r : Ck) (N : List Str) (sc : Scope) (e : Expr) (E : E) : Bool := isAny E || ckW0 r N sc e E
def ck (G : GC) : Nat → Ck
  | 0, _, _, _, _, _ => false
  | n + 1, .e, N, sc, e, E => ckE1 G (ck G n) N sc e E
  | n + 1, .p, N, sc, e, E => (match E with
    | .p i => (match e with | .Name x _ => slotB N sc x i | _ => false)
    | E => ckE1 G (ck G n) N sc e E)
  | n + 1, .t, N, sc, e, E => ckT1 (ck G n) N sc e E
  | n + 1, .w, N, sc, e, E => ckW1 (ck G n) N sc e E

/-! ### what the module's names hold -/
structure GX (P : Program) (wd : World) (K : PySem.W.Frag) (mg : Str → Option Value) (base : Heap) (G : GC) (C : Str → Value) (sub : Str → Str → Option Bool) (fe : FE) (k : Nat) : Prop where
  bi : ∀ x ∈ biNames, mg x = none
  con : ∀ x d, G.con.lookup x = some d → ∃ v u, mg x = some u ∧ RelV v u ∧ ∀ F : Hp, Dq K F v d
  fns : ∀ x i n, G.fns.lookup x = some (i, n) → ∃ f fd ps, mg x = some (.ref f) ∧ PySem.W.keepIn K (.ref f) = true ∧ Binds K fd ps [] ∧ FnOk P wd K mg base (L2.CX P wd) k f fd ps (spF K C n (fe i))
  ck : ClsOk K C sub
  exc : ∀ x ∈ G.exc, ∃ Cx bmB B newId initId, C x = .ref Cx ∧ PySem.ExcBaseFacts B newId initId bmB ∧ PySem.W.excIn K Cx bmB newId = true ∧ mg x = some (.ref Cx) ∧ PySem.W.keepIn K (.ref Cx) = true ∧ PySem.W.subIn K (.ref Cx) (.type "BaseException") = some true ∧ PySem.W.typeIn K (.ref Cx) = some (.type "type")
structure EC (X : Cx) (G : GC) (C : Str → Value) (sub : Str → Str → Option Bool) (fe : FE) (k : Nat) (w : WX) (N : List Str) (sc : Scope) : Prop where
  ok : XOk X
  n : X.N = N
  se : X.env.scope = sc
  tk : Takes X w
  hr : Room k X.A
  gx : GX X.prog X.w X.K X.mg X.base G C sub fe k
section
variable {X : Cx} {G : GC} {C : Str → Value} {sub : Str → Str → Option Bool} {fe : FE} {k : Nat} {w : WX} {N : List Str} {sc : Scope}
theorem EC.gl (c : EC X G C sub fe k w N sc) {x : Str} (h : glB sc x = true) : Gl X x ∧ (x == ("__debug__" : Str)) = false := by
  unfold glB at h
  simp only [Bool.and_eq_true, decide_eq_true_eq, Bool.not_eq_true'] at h
  refine ⟨?_, h.2⟩
  show X.env.scope.names.lookup x = some .globalImplicit
  rw [c.se]
  exact h.1
theorem EC.slot (c : EC X G C sub fe k w N sc) {x : Str} {i : Nat} (h : slotB N sc x i = true) : X.N[i]? = some x ∧ Vis X.env.scope x ∧ (x == ("__debug__" : Str)) = false ∧ (x == ("__classdict__" : Str)) = false := by
  rw [c.n, c.se]
  exact slot_of h
theorem EC.blk (c : EC X G C sub fe k w N sc) (scope : Scope) (s : Shared) (H : Hp) (A : Addr) (cl : List (Str × Addr)) (fp : List Addr) : EC (X.blk s H scope (compEnvC scope cl A X.env) fp) G C sub fe k (fun _ _ _ _ => False) N (relS scope sc) :=
  ⟨⟨c.ok.nd, c.ok.calm, c.ok.room⟩, c.n, by rw [← c.se]; rfl, takes0, c.hr, c.gx⟩
/-! ### targets -/
mutual
theorem ckG_ok {lc : Str → Bool} (hc : X.calm = true) (nd : X.N.Nodup) (hn : X.N = N) (hs : X.env.scope = sc) (hl : ∀ x, lc x = true → X.fn x = true) : ∀ (e : Expr) (T : Tg), ckG lc N sc e T = true → PG X e (tG X.K T)
  | .Name x p, .n i, h => by
    unfold ckG at h
    simp only [Bool.and_eq_true, decide_eq_true_eq, Bool.or_eq_true] at h
    refine g_n nd (by rw [hn]; exact h.1.1) (by rw [hs]; exact loc_of h.1.2) ?_
    rcases h.2 with z | z
    · exact .inl (hl _ z)
    · exact .inr (by rw [hs]; exact z)
  | .Tuple es k p, .t ts, h => by
    unfold ckG at h
    exact g_t hc (ckGs_ok hc nd hn hs hl es ts h) rfl (ckGs_len es ts h).1 (ckGs_len es ts h).2
  | .Tuple es k p, .n i, h => by simp [ckG] at h
  | .Name x p, .t ts, h => by simp [ckG] at h
  | .BoolOp .., _, h => by simp [ckG] at h
  | .NamedExpr .., _, h => by simp [ckG] at h
  | .BinOp .., _, h => by simp [ckG] at h
  | .UnaryOp .., _, h => by simp [ckG] at h
  | .Lambda .., _, h => by simp [ckG] at h
  | .IfExp .., _, h => by simp [ckG] at h
  | .Dict .., _, h => by simp [ckG] at h
  | .Set .., _, h => by simp [ckG] at h
  | .ListComp .., _, h => by simp [ckG] at h
  | .SetComp .., _, h => by simp [ckG] at h
  | .DictComp .., _, h => by simp [ckG] at h
  | .GeneratorExp .., _, h => by simp [ckG] at h
  | .Await .., _, h => by simp [ckG] at h
  | .Yield .., _, h => by simp [ckG] at h
  | .YieldFrom .., _, h => by simp [ckG] at h
  | .Compare .., _, h => by simp [ckG] at h
  | .Call .., _, h => by simp [ckG] at h
  | .FormattedValue .., _, h => by simp [ckG] at h
  | .JoinedStr .., _, h => by simp [ckG] at h
  | .Constant .., _, h => by simp [ckG] at h
  | .Attribute .., _, h => by simp [ckG] at h
  | .Subscript .., _, h => by simp [ckG] at h
  | .Starred .., _, h => by simp [ckG] at h
  | .List .., _, h => by simp [ckG] at h
  | .Slice .., _, h => by simp [ckG] at h
theorem ckGs_ok {lc : Str → Bool} (hc : X.calm = true) (nd : X.N.Nodup) (hn : X.N = N) (hs : X.env.scope = sc) (hl : ∀ x, lc x = true → X.fn x = true) : ∀ (es : List Expr) (Ts : List Tg), ckGs lc N sc es Ts = true → PGs X es (tGs X.K Ts)
  | [], [], _ => g_nil
  | e :: es, t :: ts, h => by
    unfold ckGs at h
    simp only [Bool.and_eq_true] at h
    exact g_cons (ckG_ok hc nd hn hs hl e t h.1.2) (ckGs_ok hc nd hn hs hl es ts h.2) (by rw [asg_plain h.1.1]; rfl)
  | [], _ :: _, h => by simp [ckGs] at h
  | _ :: _, [], h => by simp [ckGs] at h
theorem ckGs_len {lc : Str → Bool} {env : PySem.Env} : ∀ (es : List Expr) (Ts : List Tg), ckGs lc N sc es Ts = true → (assignEach es env).length = Ts.length ∧ (assignEach es env).findIdx? (·.1) = none
  | [], [], _ => ⟨rfl, rfl⟩
  | e :: es, t :: ts, h => by
    unfold ckGs at h
    simp only [Bool.and_eq_true] at h
    obtain ⟨a, b⟩ := ckGs_len (env := env) es ts h.2
    rw [asg_plain h.1.1]
    refine ⟨by simp [a], ?_⟩
    rw [List.findIdx?_cons]
    simp [b]
  | [], _ :: _, h => by simp [ckGs] at h
  | _ :: _, [], h => by simp [ckGs] at h
end
end
end BW

namespace BW
open PySem PySem.W L2 PySem.Spec PyProof.Rows
section
variable {G : GC} {C : Str → Value} {sub : Str → Str → Option Bool} {fe : FE} {k : Nat}
/-- what a check of an expression promises -/
def CkOk (G : GC) (C : Str → Value) (sub : Str → Str → Option Bool) (fe : FE) (k : Nat) (r : Ck) : Prop :=
  ∀ (X : Cx) (w : WX) (N : List Str) (sc : Scope), EC X G C sub fe k w N sc → ∀ (e : Expr) (i : E),
    (r .e N sc e i = true → PE X e (tE X.K (WofX C w) (ev fe i))) ∧ (r .p N sc e i = true → PE X e (tP X.K (WofX C w) (ev fe i))) ∧
    (r .t N sc e i = true → PT X e (tT X.K (WofX C w) (evT (ev fe i)))) ∧ (r .w N sc e i = true → PW X e (tT X.K (WofX C w) (evT (ev fe i))))
variable {X : Cx} {w : WX} {N : List Str} {sc : Scope} {r : Ck}
theorem CkOk.e (h : CkOk G C sub fe k r) (c : EC X G C sub fe k w N sc) {e : Expr} {i : E} (x : r .e N sc e i = true) : PE X e (tE X.K (WofX C w) (ev fe i)) := (h X w N sc c e i).1 x
theorem CkOk.p (h : CkOk G C sub fe k r) (c : EC X G C sub fe k w N sc) {e : Expr} {i : E} (x : r .p N sc e i = true) : PE X e (tP X.K (WofX C w) (ev fe i)) := (h X w N sc c e i).2.1 x
theorem CkOk.t (h : CkOk G C sub fe k r) (c : EC X G C sub fe k w N sc) {e : Expr} {i : E} (x : r .t N sc e i = true) : PT X e (tT X.K (WofX C w) (evT (ev fe i))) := (h X w N sc c e i).2.2.1 x
theorem CkOk.pw (h : CkOk G C sub fe k r) (c : EC X G C sub fe k w N sc) {e : Expr} {i : E} (x : r .w N sc e i = true) : PW X e (tT X.K (WofX C w) (evT (ev fe i))) := (h X w N sc c e i).2.2.2 x
theorem PE.fn {X : Cx} {W : WN} {e : Expr} {f g : Env → Res D} (h : PE X e (tE X.K W f)) (q : f = g) : PE X e (tE X.K W g) := q ▸ h
theorem PI.fn {X : Cx} {W : WN} {tg e : Expr} {pk : Bool} {f g : Env → Res (List D)} (h : PI X tg e (tI X.K W pk f)) (q : f = g) : PI X tg e (tI X.K W pk g) := q ▸ h
theorem PA.fn {X : Cx} {W : WN} {e : List Expr} {f g : Env → Res (List D)} (h : PA X e (tA X.K W f)) (q : f = g) : PA X e (tA X.K W g) := q ▸ h
/-! ### lists of expressions -/
theorem ckL_ok (h : CkOk G C sub fe k r) (c : EC X G C sub fe k w N sc) : ∀ {es : List Expr} {is : List E}, ckL (r .e N sc) es is = true → PA X es (tA X.K (WofX C w) (evs fe is))
  | [], [], _ => PA.fn c_nil (by funext σ; simp [evs])
  | e :: es, i :: is, x => by
    simp only [ckL, Bool.and_eq_true] at x
    exact PA.fn (c_cons (h.e c x.1.2) (ckL_ok h c x.2) (star_plain x.1.1)) (by funext σ; simp [evs])
  | [], _ :: _, x => by simp [ckL] at x
  | _ :: _, [], x => by simp [ckL] at x
theorem ckL_plain {f : Expr → E → Bool} : ∀ {es : List Expr} {is : List E}, ckL f es is = true → es.all plainE = true ∧ es.length = is.length
  | [], [], _ => ⟨rfl, rfl⟩
  | e :: es, i :: is, x => by
    simp only [ckL, Bool.and_eq_true] at x
    obtain ⟨a, b⟩ := ckL_plain x.2
    exact ⟨by simp [x.1.1, a], by simp [b]⟩
  | [], _ :: _, x => by simp [ckL] at x
  | _ :: _, [], x => by simp [ckL] at x
theorem evs_len : ∀ {is : List E} {env : Env} {ds : List D}, evs fe is env = .ok ds → ds.length = is.length
  | [], _, _, h => by simp only [evs] at h; cases h; rfl
  | i :: is, env, ds, h => by
    simp only [evs] at h
    obtain ⟨d, _, h⟩ := bind_ok h
    obtain ⟨ds', e, h⟩ := bind_ok h
    cases h
    simp [evs_len e]
theorem ckTys_ok (c : EC X G C sub fe k w N sc) : ∀ {es : List Expr} {ts : List Ty}, ckTys sc es ts = true → Tys X es ts
  | [], [], _ => .nil
  | .Name x _ :: es, t :: ts, h => by
    simp only [ckTys, Bool.and_eq_true, decide_eq_true_eq] at h
    obtain ⟨⟨rfl, h1⟩, h2⟩ := h
    exact .cons (c.gl h1).1 (c.gx.bi _ (by cases t <;> decide)) (ckTys_ok c h2)
  | [], _ :: _, h => by simp [ckTys] at h
  | e :: _, [], h => by cases e <;> simp [ckTys] at h
  | .BoolOp .. :: _, _ :: _, h => by simp [ckTys] at h
  | .NamedExpr .. :: _, _ :: _, h => by simp [ckTys] at h
  | .BinOp .. :: _, _ :: _, h => by simp [ckTys] at h
  | .UnaryOp .. :: _, _ :: _, h => by simp [ckTys] at h
  | .Lambda .. :: _, _ :: _, h => by simp [ckTys] at h
  | .IfExp .. :: _, _ :: _, h => by simp [ckTys] at h
  | .Dict .. :: _, _ :: _, h => by simp [ckTys] at h
  | .Set .. :: _, _ :: _, h => by simp [ckTys] at h
  | .ListComp .. :: _, _ :: _, h => by simp [ckTys] at h
  | .SetComp .. :: _, _ :: _, h => by simp [ckTys] at h
  | .DictComp .. :: _, _ :: _, h => by simp [ckTys] at h
  | .GeneratorExp .. :: _, _ :: _, h => by simp [ckTys] at h
  | .Await .. :: _, _ :: _, h => by simp [ckTys] at h
  | .Yield .. :: _, _ :: _, h => by simp [ckTys] at h
  | .YieldFrom .. :: _, _ :: _, h => by simp [ckTys] at h
  | .Compare .. :: _, _ :: _, h => by simp [ckTys] at h
  | .Call .. :: _, _ :: _, h => by simp [ckTys] at h
  | .FormattedValue .. :: _, _ :: _, h => by simp [ckTys] at h
  | .JoinedStr .. :: _, _ :: _, h => by simp [ckTys] at h
  | .Constant .. :: _, _ :: _, h => by simp [ckTys] at h
  | .Attribute .. :: _, _ :: _, h => by simp [ckTys] at h
  | .Subscript .. :: _, _ :: _, h => by simp [ckTys] at h
  | .Starred .. :: _, _ :: _, h => by simp [ckTys] at h
  | .List .. :: _, _ :: _, h => by simp [ckTys] at h
  | .Tuple .. :: _, _ :: _, h => by simp [ckTys] at h
  | .Slice .. :: _, _ :: _, h => by simp [ckTys] at h
theorem few_plain {a : Expr} {cp : Pos} {env : PySem.Env} (h : plainE a = true) : ((backTo cp (starEach [a] env)).all (fun x => !x.1) && (backToKw cp (keywordEach [] env)).all (fun x => x.1.isSome) && decide (([a] : List Expr).length + ([] : List Keyword).length + (if ([] : List Keyword).isEmpty then 0 else 1) < 30)) = true := by
  rw [star_plain h]
  rfl
/-! ### constants -/
theorem ckK_ok (c : EC X G C sub fe k w N sc) {e : Expr} {d : D} (h : ckK G sc e d = true) : PE X e (tE X.K (WofX C w) (ev fe (.k d))) := by
  have hf : (ev fe (.k d)) = fun _ => .ok d := by funext σ; simp [ev]
  rw [hf]
  unfold ckK at h
  split at h
  · obtain ⟨rfl, _⟩ := scEq_of h; exact c_non
  · obtain ⟨rfl, _⟩ := scEq_of h; exact c_bl
  · obtain ⟨rfl, _⟩ := scEq_of h; exact c_int
  · obtain ⟨rfl, _⟩ := scEq_of h; exact c_str
  · simp only [Bool.and_eq_true] at h
    obtain ⟨h1, h2⟩ := h
    split at h2
    · rename_i x _ d' hl
      have := dEq_of h2
      subst this
      obtain ⟨v, u, m, rv, sv⟩ := c.gx.con _ _ hl
      exact c_glob (c.gl h1).1 m rv sv (c.gl h1).2
    · cases h2
  · cases h
/-! ### what is walked -/
theorem bi_of (c : EC X G C sub fe k w N sc) (x : Str) (h : x ∈ biNames) : X.mg x = none := c.gx.bi x h
theorem ckI_ok (h : CkOk G C sub fe k r) (c : EC X G C sub fe k w N sc) {pk : Bool} {tg e : Expr} {i : E} (x : ckI r N sc pk tg e i = true) : PI X tg e (tI X.K (WofX C w) pk fun σ => do let d ← ev fe i σ; itm d) := by
  have gen : ∀ {i : E}, r (if pk then .p else .e) N sc e i = true → PI X tg e (tI X.K (WofX C w) pk fun σ => do let d ← ev fe i σ; itm d) := fun {i} x => by
    cases pk with
    | true => exact i_P (h.p c x)
    | false => exact i_E (h.e c x)
  cases i with
  | rng a b cc =>
    simp only [ckI] at x
    split at x
    · rename_i x0 _ y _
      simp only [Bool.and_eq_true, decide_eq_true_eq] at x
      obtain ⟨⟨⟨⟨⟨rfl, x1⟩, x2⟩, x3⟩, x4⟩, x5⟩ := x
      split at x2
      · split at x3
        · refine PI.fn (i_range1 (c.gl x1).1 (bi_of c _ (by decide)) (h.p c x5) (star_plain x4)) ?_
          funext σ
          simp only [ev, Res.ok_bind]
          cases ev fe b σ <;> rfl
        · cases x3
      · cases x2
    · simp only [Bool.and_eq_true, decide_eq_true_eq] at x
      obtain ⟨⟨⟨⟨⟨⟨rfl, x1⟩, x2⟩, x3⟩, x4⟩, x5⟩, x6⟩ := x
      split at x2
      · refine PI.fn (i_range2 (c.gl x1).1 (bi_of c _ (by decide)) (h.p c x5) (h.p c x6) (by rw [star_plain x3, star_plain x4]; rfl) (star_plain x4)) ?_
        funext σ
        simp only [ev]
        cases ev fe a σ <;> first | rfl | skip
        cases ev fe b σ <;> rfl
      · cases x2
    · simp only [Bool.and_eq_true, decide_eq_true_eq] at x
      obtain ⟨⟨⟨⟨⟨⟨⟨⟨rfl, x1⟩, x2⟩, x3⟩, x4⟩, x5⟩, x6⟩, x7⟩, x8⟩ := x
      split at x2
      · refine PI.fn (i_range3 (c.gl x1).1 (bi_of c _ (by decide)) (h.p c x6) (h.p c x7) (h.p c x8) (star_plain x3) (star_plain x4) (star_plain x5) (back_plain (by simp [x4, x5]))) ?_
        funext σ
        simp only [ev, Res.ok_bind]
        cases ev fe a σ <;> first | rfl | skip
        cases ev fe b σ <;> rfl
      · cases x2
    · cases x
  | enm a =>
    simp only [ckI] at x
    split at x
    · simp only [Bool.and_eq_true, decide_eq_true_eq] at x
      obtain ⟨⟨⟨rfl, x1⟩, x2⟩, x3⟩ := x
      have e : (fun σ => (do let x ← ev fe a σ; let xs ← itm x; .ok (enumD 0 xs) : Res (List D))) = (fun σ => (do let d ← ev fe (.enm a) σ; itm d : Res (List D))) := by
        funext σ
        simp only [ev]
        cases ev fe a σ with
        | ok d => cases d <;> rfl
        | ex _ => rfl
        | bad => rfl
      cases pk with
      | true => exact PI.fn (i_enumP (c.gl x1).1 (bi_of c _ (by decide)) (h.p c x3) (star_plain x2)) e
      | false => exact PI.fn (i_enum (c.gl x1).1 (bi_of c _ (by decide)) (h.e c x3) (star_plain x2)) e
    · cases x
  | zip a b =>
    simp only [ckI] at x
    split at x
    · simp only [Bool.and_eq_true, decide_eq_true_eq] at x
      obtain ⟨⟨⟨⟨⟨rfl, x1⟩, x2⟩, x3⟩, x4⟩, x5⟩ := x
      have e : (fun σ => (do let x ← ev fe a σ; let y ← ev fe b σ; zpD x y : Res (List D))) = (fun σ => (do let d ← ev fe (.zip a b) σ; itm d : Res (List D))) := by
        funext σ
        simp only [ev]
        cases ev fe a σ with
        | ok d =>
          cases ev fe b σ with
          | ok d2 => cases d <;> cases d2 <;> rfl
          | ex _ => rfl
          | bad => rfl
        | ex _ => rfl
        | bad => rfl
      cases pk with
      | true => exact PI.fn (i_zipP (c.gl x1).1 (bi_of c _ (by decide)) (h.p c x4) (h.p c x5) (star_plain x2) (star_plain x3) (back_plain (by simp [x3]))) e
      | false => exact PI.fn (i_zip (c.gl x1).1 (bi_of c _ (by decide)) (h.e c x4) (h.e c x5) (star_plain x2) (star_plain x3) (back_plain (by simp [x3]))) e
    · cases x
  | _ => exact gen x
theorem ckComp_ok (h : CkOk G C sub fe k r) (c : EC X G C sub fe k w N sc) {o : Bool} {e : Expr} {elt it cc : E} {T : Tg} {own : List Nat} (x : ckComp r N sc e elt T it cc own = true) : PE X e (tV X.K (WofX C w) o (ev fe (.comp elt T it cc own))) := by
  unfold ckComp at x
  split at x
  · rename_i x0 tg iter ifs scope p
    simp only [Bool.and_eq_true, decide_eq_true_eq, List.all_eq_true] at x
    obtain ⟨⟨⟨⟨⟨⟨⟨x1, x2⟩, x3⟩, x4⟩, x5⟩, x6⟩, x7⟩, x8⟩ := x
    have bo : BlkOk X.N X.env.scope scope (ownS N own) := by rw [c.n, c.se]; exact blkOk_by x1
    have hg : ∀ (s : Shared) (H : Hp) (A : Addr) (cl : List (Str × Addr)) (fp : List Addr), PG (X.blk s H scope (compEnvC scope cl A X.env) fp) tg (tG X.K T) := fun s H A cl fp =>
      ckG_ok (X := X.blk s H scope (compEnvC scope cl A X.env) fp) c.ok.calm c.ok.nd c.n (c.blk scope s H A cl fp).se (fun x z => z) tg T x6
    have ht : ∀ (s : Shared) (H : Hp) (A : Addr) (cl : List (Str × Addr)) (fp : List Addr), PTs (X.blk s H scope (compEnvC scope cl A X.env) fp) ifs (tT X.K W0 (evT (ev fe cc))) := fun s H A cl fp => by
      split at x8
      · split at x8
        · have : (evT (ev fe (.k (.bool true)))) = fun _ => Res.ok true := by funext σ; simp [evT, ev, asBool]
          rw [this]
          exact t_yes (X := X.blk s H scope (compEnvC scope cl A X.env) fp)
        · cases x8
      · exact pts_one (h.t (c.blk scope s H A cl fp) x8)
      · cases x8
    have he : ∀ (s : Shared) (H : Hp) (A : Addr) (cl : List (Str × Addr)) (fp : List Addr), PE (X.blk s H scope (compEnvC scope cl A X.env) fp) x0 (tE X.K W0 (ev fe elt)) := fun s H A cl fp => h.e (c.blk scope s H A cl fp) x7
    have key := c_comp (o := o) (W := WofX C w) (pos := p) c.ok (ckI_ok h c x5) bo hg ht he (fold_notSet x3) (by rw [x2]; exact x4)
    rw [x2] at key
    refine PE.weak key fun σ H Q ⟨F, env, R, hh⟩ => ⟨F, env, R, ?_⟩
    have e : compD (fun σ => do let d ← ev fe it σ; itm d) T (evT (ev fe cc)) (ev fe elt) own env = ev fe (.comp elt T it cc own) env := by
      unfold compD
      simp only [ev]
      cases ev fe it env with
      | ex _ => rfl
      | bad => rfl
      | ok d =>
        have ef : compF T (evT (ev fe cc)) (ev fe elt) own env = fun d => (do
          let σ' ← bindT T d (wipeS env own)
          let t ← ev fe cc σ'
          let b ← asBool t
          if b then do
            let y ← ev fe elt σ'
            .ok (some y)
          else .ok none).quiet := by
          funext d
          unfold compF evT
          congr 1
          cases bindT T d (wipeS env own) with
          | ex _ => rfl
          | bad => rfl
          | ok σ' => simp only [Res.ok_bind, bind_assoc']
        rw [ef]
        cases d <;> rfl
    rw [e]
    exact hh
  · cases x
/-- the parts of a dict comprehension -/
structure DcParts (X : Cx) (C : Str → Value) (w : WX) (fe : FE) (x y tg iter : Expr) (ifs : List Expr) (scope : Scope) (own : List (Str × Nat)) (kx vx : E) (T : Tg) (it cc : E) : Prop where
  hi : PI X tg iter (tI X.K (WofX C w) true fun σ => do let d ← ev fe it σ; itm d)
  bo : BlkOk X.N X.env.scope scope own
  hg : ∀ (s : Shared) (H : Hp) (A : Addr) (cl : List (Str × Addr)) (fp : List Addr), PG (X.blk s H scope (compEnvC scope cl A X.env) fp) tg (tG X.K T)
  ht : ∀ (s : Shared) (H : Hp) (A : Addr) (cl : List (Str × Addr)) (fp : List Addr), PTs (X.blk s H scope (compEnvC scope cl A X.env) fp) ifs (tT X.K W0 (evT (ev fe cc)))
  hk : ∀ (s : Shared) (H : Hp) (A : Addr) (cl : List (Str × Addr)) (fp : List Addr), PE (X.blk s H scope (compEnvC scope cl A X.env) fp) x (tE X.K W0 (ev fe kx))
  he : ∀ (s : Shared) (H : Hp) (A : Addr) (cl : List (Str × Addr)) (fp : List Addr), PE (X.blk s H scope (compEnvC scope cl A X.env) fp) y (tE X.K W0 (ev fe vx))
  hs : ∀ x, foldedSetIterable iter X.env x = pure x
  hT : ∀ i ∈ T.sl, i ∈ own.map (·.2)
theorem dcD_ev {kx vx it cc : E} {T : Tg} {own : List Nat} : dcompD (fun σ => do let d ← ev fe it σ; itm d) T (evT (ev fe cc)) (ev fe kx) (ev fe vx) own = ev fe (.dcomp kx vx T it cc own) := by
  funext env
  unfold dcompD
  simp only [ev]
  cases ev fe it env with
  | ex _ => rfl
  | bad => rfl
  | ok d =>
    have ef : dcompF T (evT (ev fe cc)) (ev fe kx) (ev fe vx) own env = fun d => (do
      let σ' ← bindT T d (wipeS env own)
      let t ← ev fe cc σ'
      let b ← asBool t
      if b then do
        let y ← ev fe kx σ'
        let z ← ev fe vx σ'
        .ok (some (y, z))
      else .ok none).quiet := by
      funext d
      unfold dcompF evT
      congr 1
      cases bindT T d (wipeS env own) with
      | ex _ => rfl
      | bad => rfl
      | ok σ' => simp only [Res.ok_bind, bind_assoc']
    rw [ef]
    cases d <;> rfl
theorem ckDComp_parts (h : CkOk G C sub fe k r) (c : EC X G C sub fe k w N sc) {e : Expr} {kx vx it cc : E} {T : Tg} {own : List Nat} (x : ckDComp r N sc e kx vx T it cc own = true) :
    ∃ x0 y0 tg iter ifs scope p, e = .DictComp x0 y0 [⟨tg, iter, ifs, 0⟩] scope p ∧ (ownS N own).map (·.2) = own ∧ DcParts X C w fe x0 y0 tg iter ifs scope (ownS N own) kx vx T it cc := by
  unfold ckDComp at x
  split at x
  · rename_i x0 y0 tg iter ifs scope p
    simp only [Bool.and_eq_true, decide_eq_true_eq, List.all_eq_true] at x
    obtain ⟨⟨⟨⟨⟨⟨⟨⟨x1, x2⟩, x3⟩, x4⟩, x5⟩, x6⟩, x7⟩, x7'⟩, x8⟩ := x
    refine ⟨x0, y0, tg, iter, ifs, scope, p, rfl, x2, ckI_ok h c x5, by rw [c.n, c.se]; exact blkOk_by x1, fun s H A cl fp => ?_, fun s H A cl fp => ?_, fun s H A cl fp => h.e (c.blk scope s H A cl fp) x7, fun s H A cl fp => h.e (c.blk scope s H A cl fp) x7', fold_notSet x3, by rw [x2]; exact x4⟩
    · exact ckG_ok (X := X.blk s H scope (compEnvC scope cl A X.env) fp) c.ok.calm c.ok.nd c.n (c.blk scope s H A cl fp).se (fun x z => z) tg T x6
    · split at x8
      · split at x8
        · have : (evT (ev fe (.k (.bool true)))) = fun _ => Res.ok true := by funext σ; simp [evT, ev, asBool]
          rw [this]
          exact t_yes (X := X.blk s H scope (compEnvC scope cl A X.env) fp)
        · cases x8
      · exact pts_one (h.t (c.blk scope s H A cl fp) x8)
      · cases x8
  · cases x
theorem ckDComp_ok (h : CkOk G C sub fe k r) (c : EC X G C sub fe k w N sc) {o : Bool} {e : Expr} {kx vx it cc : E} {T : Tg} {own : List Nat} (x : ckDComp r N sc e kx vx T it cc own = true) : PE X e (tV X.K (WofX C w) o (ev fe (.dcomp kx vx T it cc own))) := by
  obtain ⟨x0, y0, tg, iter, ifs, scope, p, rfl, e2, q⟩ := ckDComp_parts h c x
  have key := c_dcomp (o := o) (W := WofX C w) (pos := p) c.ok q.hi q.bo q.hg q.ht q.hk q.he q.hs q.hT
  rw [e2, dcD_ev] at key
  exact key
theorem ckE1_ok (h : CkOk G C sub fe k r) (c : EC X G C sub fe k w N sc) {e : Expr} {i : E} (x : ckE1 G r N sc e i = true) : PE X e (tE X.K (WofX C w) (ev fe i)) := by
  cases i with
  | k d => exact ckK_ok c x
  | v i =>
    simp only [ckE1] at x
    split at x
    · obtain ⟨h1, h2, h3, h4⟩ := c.slot x
      exact PE.fn (c_v h1 h2 h3 h4) (by funext σ; simp [ev])
    · cases x
  | p i => cases x
  | tup es =>
    simp only [ckE1] at x
    split at x
    · simp only [Bool.and_eq_true, decide_eq_true_eq] at x
      exact PE.fn (c_tup (ckL_ok h c x.1) fun env ds e => by rw [evs_len e]; omega) (by funext σ; simp [ev])
    · cases x
  | lst es =>
    simp only [ckE1] at x
    split at x
    · simp only [Bool.and_eq_true, decide_eq_true_eq] at x
      exact PE.fn (c_lst (ckL_ok h c x.1) fun env ds e => by rw [evs_len e]; omega) (by funext σ; simp [ev])
    · cases x
  | op o a b =>
    simp only [ckE1] at x
    split at x
    · simp only [Bool.and_eq_true, decide_eq_true_eq] at x
      obtain ⟨⟨rfl, x1⟩, x2⟩ := x
      exact PE.fn (c_op o (h.p c x1) (h.p c x2)) (by funext σ; simp [ev])
    · cases x
  | cmp o a b =>
    simp only [ckE1] at x
    split at x
    · simp only [Bool.and_eq_true, decide_eq_true_eq, Bool.not_eq_true'] at x
      obtain ⟨⟨⟨rfl, x0⟩, x1⟩, x2⟩ := x
      exact PE.fn (c_cmp c.ok o (h.p c x1) (h.p c x2) x0) (by funext σ; simp [ev, cmpV])
    · cases x
  | ch o q a b cc =>
    simp only [ckE1] at x
    split at x
    · simp only [Bool.and_eq_true, decide_eq_true_eq, Bool.not_eq_true'] at x
      obtain ⟨⟨⟨⟨⟨rfl, rfl⟩, x0⟩, x1⟩, x2⟩, x3⟩ := x
      exact PE.fn (c_ch c.ok o q (h.p c x1) (h.p c x2) (h.p c x3) x0) (by funext σ; simp [ev, evCh])
    · cases x
  | and a b =>
    simp only [ckE1] at x
    split at x
    · rename_i x0 y0 rest p
      simp only [Bool.and_eq_true] at x
      obtain ⟨x1, x2⟩ := x
      have hb : PE X (.BoolOp .And (y0 :: rest) p) (tE X.K (WofX C w) (ev fe b)) := by
        split at x2
        · exact c_and1 (h.e c x2)
        · exact h.e c x2
      exact PE.fn (c_and (h.p c x1) hb) (by funext σ; simp [ev, evAnd])
    · cases x
  | or a b =>
    simp only [ckE1] at x
    split at x
    · rename_i x0 y0 rest p
      simp only [Bool.and_eq_true] at x
      obtain ⟨x1, x2⟩ := x
      have hb : PE X (.BoolOp .Or (y0 :: rest) p) (tE X.K (WofX C w) (ev fe b)) := by
        split at x2
        · exact c_or1 (h.e c x2)
        · exact h.e c x2
      exact PE.fn (c_or (h.p c x1) hb) (by funext σ; simp [ev, evOr])
    · cases x
  | not a =>
    simp only [ckE1] at x
    split at x
    · exact PE.fn (c_not (h.p c x)) (by funext σ; simp [ev])
    · cases x
  | neg a =>
    simp only [ckE1] at x
    split at x
    · exact PE.fn (c_neg (h.p c x)) (by funext σ; simp [ev])
    · cases x
  | ite cc a b =>
    simp only [ckE1] at x
    split at x
    · simp only [Bool.and_eq_true] at x
      exact PE.fn (c_ite (h.t c x.1.1) (h.e c x.1.2) (h.e c x.2)) (by funext σ; simp [ev])
    · cases x
  | isN a =>
    simp only [ckE1] at x
    split at x
    · exact PE.fn (c_isN (h.p c x)) (by funext σ; simp [ev])
    · cases x
  | notN a =>
    simp only [ckE1] at x
    split at x
    · exact PE.fn (c_notN (h.p c x)) (by funext σ; simp [ev])
    · cases x
  | ix a b =>
    simp only [ckE1] at x
    split at x
    · simp only [Bool.and_eq_true] at x
      exact PE.fn (c_ix c.ok (h.p c x.1.2) (h.p c x.2) (ix_plain x.1.1)) (by funext σ; simp [ev])
    · cases x
  | slf a l =>
    simp only [ckE1] at x
    split at x
    · simp only [Bool.and_eq_true] at x
      exact PE.fn (c_slf (h.p c x.1) (h.p c x.2)) (by funext σ; simp [ev])
    · cases x
  | slt a l =>
    simp only [ckE1] at x
    split at x
    · simp only [Bool.and_eq_true] at x
      exact PE.fn (c_slt (h.p c x.1) (h.p c x.2)) (by funext σ; simp [ev])
    · cases x
  | slb a l hh =>
    simp only [ckE1] at x
    split at x
    · simp only [Bool.and_eq_true] at x
      exact PE.fn (c_slb (h.p c x.1.1) (h.p c x.1.2) (h.p c x.2)) (by funext σ; simp [ev])
    · cases x
  | rev a =>
    simp only [ckE1] at x
    split at x
    · exact PE.fn (c_rev (h.p c x)) (by funext σ; simp [ev])
    · cases x
  | call f es =>
    simp only [ckE1] at x
    split at x
    · simp only [Bool.and_eq_true, decide_eq_true_eq] at x
      obtain ⟨⟨x1, x2⟩, x3⟩ := x
      obtain ⟨fA, fd, ps, m, kp, bd, fn⟩ := c.gx.fns _ _ _ x2
      obtain ⟨p1, p2⟩ := ckL_plain x3
      rw [List.all_cons, Bool.and_eq_true] at p1
      exact PE.fn (c_call fn c.hr (c.gl x1).1 m kp bd c.tk (ckL_ok h c x3) (fun env ds e => by rw [evs_len e]) (c.gl x1).2 (star_plain p1.1) (back_plain p1.2)) (by funext σ; simp [ev])
    · cases x
  | b1 b a =>
    simp only [ckE1] at x
    unfold ckB1 at x
    split at x
    · split at x
      · simp only [Bool.and_eq_true, decide_eq_true_eq] at x
        obtain ⟨⟨⟨⟨⟨rfl, rfl⟩, x1⟩, x2⟩, x3⟩, x4⟩ := x
        exact PE.fn (c_sset c.ok (c.gl x1).1 (bi_of c _ (by decide)) (c.gl x2).1 (bi_of c _ (by decide)) (h.p c x4) (star_plain x3)) (by funext σ; simp [ev])
      · cases x
    · split at x
      · simp only [Bool.and_eq_true, decide_eq_true_eq] at x
        obtain ⟨⟨⟨⟨⟨rfl, rfl⟩, x1⟩, x2⟩, x3⟩, x4⟩ := x
        exact PE.fn (c_lset c.ok (c.gl x1).1 (bi_of c _ (by decide)) (c.gl x2).1 (bi_of c _ (by decide)) (h.p c x4) (star_plain x3)) (by funext σ; simp [ev])
      · cases x
    · split at x
      · simp only [Bool.and_eq_true, decide_eq_true_eq] at x
        obtain ⟨⟨⟨⟨rfl, x1⟩, x2⟩, x3⟩, x4⟩ := x
        refine PE.fn (c_b1 c.ok b x1 (c.gl x2).1 (bi_of c _ ?_) (h.p c x4) (star_plain x3)) (by funext σ; simp [ev])
        cases b <;> first | decide | exact absurd rfl x1.1 | exact absurd rfl x1.2
      · cases x
  | b2 b a cc =>
    simp only [ckE1] at x
    split at x
    · simp only [Bool.and_eq_true, decide_eq_true_eq] at x
      obtain ⟨⟨⟨⟨⟨rfl, x2⟩, x3⟩, x4⟩, x5⟩, x6⟩ := x
      refine PE.fn (c_b2 c.ok b (c.gl x2).1 (bi_of c _ ?_) (h.p c x5) (h.p c x6) (star_plain x3) (star_plain x4) (back_plain (by simp [x4]))) (by funext σ; simp [ev])
      cases b <;> decide
    · cases x
  | isi a ts =>
    simp only [ckE1] at x
    split at x
    · simp only [Bool.and_eq_true, decide_eq_true_eq] at x
      obtain ⟨⟨⟨⟨⟨rfl, x1⟩, x2⟩, x3⟩, x4⟩, x5⟩ := x
      exact PE.fn (c_isiT x3 (c.gl x1).1 (bi_of c _ (by decide)) (h.p c x5) (ckTys_ok c x4) (star_plain x2)) (by funext σ; simp [ev])
    · simp only [Bool.and_eq_true, decide_eq_true_eq] at x
      obtain ⟨⟨⟨⟨⟨rfl, x1⟩, x2⟩, x3⟩, x4⟩, x5⟩ := x
      split at x4
      · rename_i t
        have x4 := of_decide_eq_true x4
        subst x4
        exact PE.fn (c_isi (c.gl x1).1 (bi_of c _ (by decide)) (h.p c x5) (c.gl x3).1 (bi_of c _ (by cases t <;> decide)) (star_plain x2)) (by funext σ; simp [ev])
      · cases x4
    · cases x
  | rng _ _ _ => cases x
  | enm _ => cases x
  | zip _ _ => cases x
  | comp elt T it cc own => exact ckComp_ok (o := false) h c x
  | dnil => cases x
  | dcomp kx vx T it cc own => exact ckDComp_ok (o := false) h c x
  | any => exact PE.fn c_any (by funext σ; simp [ev])
  | rl t a b =>
    simp only [ckE1] at x
    split at x
    · simp only [Bool.and_eq_true, decide_eq_true_eq] at x
      obtain ⟨⟨⟨⟨⟨⟨rfl, rfl⟩, x1⟩, x2⟩, x3⟩, x4⟩, x5⟩ := x
      split at x3
      · exact PE.fn (c_rl1 c.ok t (c.gl x1).1 (bi_of c _ (by cases t <;> decide)) (c.gl x2).1 (bi_of c _ (by decide)) (h.p c x5) (star_plain rfl) (star_plain x4)) (by funext σ; simp [ev])
      · cases x3
    · simp only [Bool.and_eq_true, decide_eq_true_eq] at x
      obtain ⟨⟨⟨⟨⟨⟨⟨rfl, rfl⟩, x1⟩, x2⟩, x3⟩, x4⟩, x5⟩, x6⟩ := x
      exact PE.fn (c_rl2 c.ok t (c.gl x1).1 (bi_of c _ (by cases t <;> decide)) (c.gl x2).1 (bi_of c _ (by decide)) (h.p c x5) (h.p c x6) (star_plain rfl) (star_plain x3) (star_plain x4) (back_plain (by simp [x4]))) (by funext σ; simp [ev])
    · cases x
  | idx a b =>
    simp only [ckE1] at x
    split at x
    · simp only [Bool.and_eq_true, decide_eq_true_eq] at x
      obtain ⟨⟨⟨⟨rfl, x1⟩, x3⟩, x4⟩, x5⟩ := x
      exact PE.fn (c_idx (room65 c.hr) (h.p c x4) (h.p c x5) rfl (star_plain x1) (few_plain x1) x3) (by funext σ; simp [ev])
    · cases x
  | join a b =>
    simp only [ckE1] at x
    split at x
    · simp only [Bool.and_eq_true, decide_eq_true_eq] at x
      obtain ⟨⟨⟨⟨rfl, rfl⟩, x1⟩, x3⟩, x5⟩ := x
      exact PE.fn (c_join (h.p c x5) rfl (star_plain x1) (few_plain x1) x3) (by funext σ; simp [ev])
    · cases x
theorem isAny_of {e : E} (h : isAny e = true) : e = .any := by cases e <;> first | rfl | exact absurd h Bool.false_ne_true
theorem ckT0_ok (h : CkOk G C sub fe k r) (c : EC X G C sub fe k w N sc) {e : Expr} {i : E} (x : ckT0 r N sc e i = true) : PT X e (tT X.K (WofX C w) (evT (ev fe i))) := by
  unfold ckT0 at x
  split at x
  · exact (h.pw c x).pt
  · split at x
    · rename_i a
      have := c_notT (pos := by assumption) (h.t c x)
      refine PT.weak this fun σ H Q ⟨F, env, R, hh⟩ => ⟨F, env, R, ?_⟩
      simpa [ev] using hh
    · cases x
  · split at x
    · rename_i o' a b
      simp only [Bool.and_eq_true, decide_eq_true_eq, Bool.not_eq_true'] at x
      obtain ⟨⟨⟨rfl, x0⟩, x1⟩, x2⟩ := x
      have e : (fun σ => (do let x ← ev fe a σ; let y ← ev fe b σ; cmpV o' x y : Res D)) = ev fe (.cmp o' a b) := by funext σ; simp [ev, cmpV]
      rw [← e]
      exact c_cmpT c.ok o' (h.p c x1) (h.p c x2) x0
    · rename_i a
      split at x
      · have e : (fun σ => (do let x ← ev fe a σ; .ok (.bool !(notNone x)) : Res D)) = ev fe (.isN a) := by funext σ; simp [ev]
        rw [← e]
        exact c_isNT (h.p c x)
      · cases x
    · rename_i a
      split at x
      · have e : (fun σ => (do let x ← ev fe a σ; .ok (.bool (notNone x)) : Res D)) = ev fe (.notN a) := by funext σ; simp [ev]
        rw [← e]
        exact c_notNT (h.p c x)
      · cases x
    · cases x
  · split at x
    · rename_i o' q' a b cc
      simp only [Bool.and_eq_true, decide_eq_true_eq, Bool.not_eq_true'] at x
      obtain ⟨⟨⟨⟨⟨rfl, rfl⟩, x0⟩, x1⟩, x2⟩, x3⟩ := x
      have e : evCh o' q' (ev fe a) (ev fe b) (ev fe cc) = ev fe (.ch o' q' a b cc) := by funext σ; simp [ev, evCh]
      rw [← e]
      exact c_chT c.ok o' q' (h.p c x1) (h.p c x2) (h.p c x3) x0
    · cases x
  · simp only [Bool.and_eq_true] at x
    exact c_tst (h.p c x.2) (tst_plain x.1)
theorem ckT1_ok (h : CkOk G C sub fe k r) (c : EC X G C sub fe k w N sc) {e : Expr} {i : E} (x : ckT1 r N sc e i = true) : PT X e (tT X.K (WofX C w) (evT (ev fe i))) := by
  unfold ckT1 at x
  rw [Bool.or_eq_true] at x
  rcases x with x | x
  · rw [isAny_of x, show evT (ev fe E.any) = fun _ => .bad by funext σ; simp [evT, ev]]; exact t_any
  · exact ckT0_ok h c x
theorem ckW0_ok (h : CkOk G C sub fe k r) (c : EC X G C sub fe k w N sc) {e : Expr} {i : E} (x : ckW0 r N sc e i = true) : PW X e (tT X.K (WofX C w) (evT (ev fe i))) := by
  unfold ckW0 at x
  split at x
  · exact w_and1 (h.t c x)
  · exact w_or1 (h.t c x)
  · split at x
    · rename_i a b
      simp only [Bool.and_eq_true] at x
      have e : evAnd (ev fe a) (ev fe b) = ev fe (.and a b) := by funext σ; simp [ev, evAnd]
      rw [← e]
      exact w_and (h.t c x.1) (h.pw c x.2)
    · cases x
  · split at x
    · rename_i a b
      simp only [Bool.and_eq_true] at x
      have e : evOr (ev fe a) (ev fe b) = ev fe (.or a b) := by funext σ; simp [ev, evOr]
      rw [← e]
      exact w_or (h.t c x.1) (h.pw c x.2)
    · cases x
  · cases x
theorem ckW1_ok (h : CkOk G C sub fe k r) (c : EC X G C sub fe k w N sc) {e : Expr} {i : E} (x : ckW1 r N sc e i = true) : PW X e (tT X.K (WofX C w) (evT (ev fe i))) := by
  unfold ckW1 at x
  rw [Bool.or_eq_true] at x
  rcases x with x | x
  · rw [isAny_of x, show evT (ev fe E.any) = fun _ => .bad by funext σ; simp [evT, ev]]; exact w_any
  · exact ckW0_ok h c x
theorem ck_ok : ∀ n : Nat, CkOk G C sub fe k (ck G n)
  | 0 => fun X w N sc c e i => ⟨(fun x => nomatch x), (fun x => nomatch x), (fun x => nomatch x), (fun x => nomatch x)⟩
  | n + 1 => fun X w N sc c e i => ⟨fun x => ckE1_ok (ck_ok n) c x, fun x => by
      simp only [ck] at x
      split at x
      · split at x
        · obtain ⟨h1, h2, h3, h4⟩ := c.slot x
          rename_i j _ _ _
          have e : (fun σ => peek σ j) = ev fe (.p j) := by funext σ; simp only [ev]
          rw [← e]
          exact c_p h1 h2 h3 h4
        · cases x
      · exact PE.pk (ckE1_ok (ck_ok n) c x), fun x => ckT1_ok (ck_ok n) c x, fun x => ckW1_ok (ck_ok n) c x⟩
end
end BW

namespace BW
open PySem PySem.W L2 PySem.Spec PyProof.Rows
def notComp : Expr → Bool
  | .ListComp _ _ _ _ => false
  | .SetComp _ _ _ _ => false
  | .DictComp _ _ _ _ _ => false
  | _ => true
theorem swaps_plain {e : Expr} {t : Option Expr} {l : Nat} {env : PySem.Env} (h : notComp e = true) : swapsWith e t l env = pure false := by
  cases e <;> first | rfl | exact absurd h Bool.false_ne_true
/-- name = [..]: is the store swapped with the list -/
def swB (sc : Scope) (x : Str) (p : Pos) (scope : Scope) (vp : Pos) : Bool := decide (sc.names.lookup x = some .local) && (p.line == vp.line) && !(scope.names.any fun (n, k) => n == x && (k == .local || k == .cell))
theorem sw_comp {elt : Expr} {gs : List Comprehension} {scope : Scope} {vp p : Pos} {x : Str} {l : Nat} {env : PySem.Env} (hk : env.scope.kind = .function) : swapsWith (.ListComp elt gs scope vp) (some (.Name x p)) l env = pure (swB env.scope x p scope vp) := by
  have hb : env.blockKind = .function := by unfold Env.blockKind; rw [hk]; rfl
  unfold swapsWith swB
  simp only [hb, Expr.pos]
  have : (env.kindOf x == some NameKind.local) = decide (List.lookup x env.scope.names = some NameKind.local) := by
    show (List.lookup x env.scope.names == some NameKind.local) = _
    by_cases h : List.lookup x env.scope.names = some NameKind.local <;> simp [h]
  rw [this]
  rfl
theorem sw_dcomp {a b : Expr} {gs : List Comprehension} {scope : Scope} {vp p : Pos} {x : Str} {l : Nat} {env : PySem.Env} (hk : env.scope.kind = .function) : swapsWith (.DictComp a b gs scope vp) (some (.Name x p)) l env = pure (swB env.scope x p scope vp) := by
  have hb : env.blockKind = .function := by unfold Env.blockKind; rw [hk]; rfl
  unfold swapsWith swB
  simp only [hb, Expr.pos]
  have : (env.kindOf x == some NameKind.local) = decide (List.lookup x env.scope.names = some NameKind.local) := by
    show (List.lookup x env.scope.names == some NameKind.local) = _
    by_cases h : List.lookup x env.scope.names = some NameKind.local <;> simp [h]
  rw [this]
  rfl
theorem dcomp_fresh {fi : Env → Res (List D)} {T : Tg} {fc : Env → Res Bool} {fk fv : Env → Res D} {vs : List Nat} {σ : Env} : dcompD fi T fc fk fv vs σ >>= freshD = dcompD fi T fc fk fv vs σ := by
  unfold dcompD
  cases fi σ with
  | ex _ => rfl
  | bad => rfl
  | ok d =>
    simp only [Res.ok_bind]
    cases dcompR (dcompF T fc fk fv vs σ) d [] <;> rfl
def notTup : Expr → Bool
  | .Tuple _ _ _ => false
  | _ => true
theorem swst_plain {tg e : Expr} {env : PySem.Env} (h : notTup e = true) : swappedStores [tg] e env = pure none := by
  cases e <;> first | exact absurd h Bool.false_ne_true | (cases tg <;> rfl)
def swNames (sc : Scope) (ts : List Expr) : List Str := ts.filterMap fun
  | .Name id pos => if sc.names.lookup id == some .local && pos.line == (ts.head?.map (·.pos.line)).getD 0 then some id else none
  | _ => none
/-- several names are set, and not one by one -/
def swNone (sc : Scope) (tg a : Expr) : Bool := match a with
  | .Tuple _ _ _ => (match tg with | .Tuple ts _ _ => decide (ts.length ≠ 2 ∧ ts.length ≠ 3) || decide ((swNames sc ts).length ≠ ts.length) | _ => false)
  | _ => true
theorem swNone_of {tg a : Expr} {env : PySem.Env} (h : swNone env.scope tg a = true) : swappedStores [tg] a env = pure none := by
  unfold swNone at h
  split at h
  · rename_i vs k p
    split at h
    · rename_i ts k2 p2
      rw [Bool.or_eq_true, decide_eq_true_eq, decide_eq_true_eq] at h
      unfold swappedStores
      dsimp only
      split
      · rfl
      · rename_i hc
        split
        · rfl
        · have hn : (swNames env.scope ts).length ≠ ts.length := by
            rcases h with h | h
            · exfalso
              apply hc
              have h1 := h.1
              have h2 := h.2
              simp [h1, h2]
            · exact h
          refine if_pos ?_
          rw [Bool.or_eq_true]
          exact .inl (bne_iff_ne.mpr hn)
    · cases h
  · rename_i hne
    unfold swappedStores
    split
    · rename_i x y he
      exfalso
      split at he
      · exact hne _ _ _ rfl
      · exact hne _ _ _ rfl
      · cases he
    · rfl
theorem swst_sub {a b e : Expr} {p : Pos} {env : PySem.Env} : swappedStores [.Subscript a b p] e env = pure none := by cases e <;> rfl
/-- x, y = a, b -/
def parB (sc : Scope) (x y : Str) (px py : Pos) (a b : Expr) : Bool :=
  decide (sc.names.lookup x = some .local) && decide (sc.names.lookup y = some .local) && (py.line == px.line) && !(x == y) && !([a, b].all (foldedForSure 8)) && !([a, b].all (constantsAlone 8)) && plainE a && plainE b
theorem par_of {x y : Str} {px py pt pt2 : Pos} {kt k2 : Nat} {a b : Expr} {env : PySem.Env} (hk : env.scope.kind = .function) (h : parB env.scope x y px py a b = true) :
    swappedStores [.Tuple [.Name x px, .Name y py] kt pt] (.Tuple [a, b] k2 pt2) env = pure (some [x, y]) := by
  have hb : env.blockKind = .function := by unfold Env.blockKind; rw [hk]; rfl
  unfold parB at h
  simp only [Bool.and_eq_true, decide_eq_true_eq, Bool.not_eq_true', beq_iff_eq, beq_eq_false_iff_ne] at h
  obtain ⟨⟨⟨⟨⟨⟨⟨h1, h2⟩, h3⟩, h4⟩, h5⟩, h6⟩, h7⟩, h8⟩ := h
  have k1 : env.kindOf x = some .local := h1
  have k2' : env.kindOf y = some .local := h2
  have st : ([a, b].any fun | .Starred .. => true | _ => false) = false := by
    cases a <;> first | exact absurd h7 Bool.false_ne_true | (cases b <;> first | exact absurd h8 Bool.false_ne_true | rfl)
  have er : [x, y].eraseDups = [x, y] := by
    have h9 : (y == x) = false := beq_eq_false_iff_ne.mpr fun e => h4 e.symm
    simp [List.eraseDups_cons, h9]
  unfold swappedStores
  simp [hb, st, Expr.pos, k1, k2', h3, er, h5, h6]
  intro z
  exfalso
  rcases z with z | z
  · cases a <;> first | exact absurd h7 Bool.false_ne_true | cases z
  · cases b <;> first | exact absurd h8 Bool.false_ne_true | cases z
/-! ### statements against their form -/
/-- a value, or a new list or dict -/
def ckV (G : GC) (r : Ck) (N : List Str) (sc : Scope) (o : Bool) (e : Expr) (i : E) : Bool := match o with
  | false => r .e N sc e i
  | true => (match i with
    | .lst es => (match e with | .List xs _ => ckL (r .e N sc) xs es && decide (es.length ≤ 1000) | _ => false)
    | .op o a b => (match e with | .BinOp x q y _ => decide (q = opM o) && decide (o = .add ∨ o = .mul) && r .p N sc x a && r .p N sc y b | _ => false)
    | .comp elt T it c own => ckComp r N sc e elt T it c own
    | .dnil => (match e with | .Dict [] [] _ => true | _ => false)
    | .dcomp kx vx T it c own => ckDComp r N sc e kx vx T it c own
    | _ => false)
/-- name = value -/
def ckSet (G : GC) (r : Ck) (N : List Str) (sc : Scope) (o : Bool) (s : Stmt) (j : Nat) (i : E) : Bool := match s with
  | .Assign [.Name x p'] e _ => decide (N[j]? = some x) && locB sc x && (match e with
    | .ListComp _ [⟨_, _, _, 0⟩] scope vp => (match i with
      | .comp elt T it c own => ckComp r N sc e elt T it c own
      | _ => false)
    | .DictComp _ _ [⟨_, _, _, 0⟩] scope vp => (match i with
      | .dcomp kx vx T it c own => ckDComp r N sc e kx vx T it c own
      | _ => false)
    | e => notComp e && ckV G r N sc o e i)
  | _ => false
def ckHs (G : GC) (sc : Scope) : List ExceptHandler → List (Str × HR) → Bool
  | [], [] => true
  | .ExceptHandler (some (.Name x _)) none [.Return (some (.Constant c _ _)) _] _ :: hs, (y, .k d) :: rs => decide (x = y) && decide (x ∈ G.exc) && glB sc x &&
    (match c with | .bool b => scEq (.bool b) d | .int b => scEq (.int b) d | .str b => scEq (.str b) d | .none => scEq .none d | _ => false) && ckHs G sc hs rs
  | _, _ => false
def ckSs (r : Stmt → S → Bool) : List Stmt → List S → Bool
  | ss, .fr _ :: is => ckSs r ss is
  | ss, .wipe _ :: is => ckSs r ss is
  | s :: ss, i :: is => r s i && ckSs r ss is
  | [], [] => true
  | _, _ => false
def ckPar (G : GC) (r : Ck) (N : List Str) (sc : Scope) (s : Stmt) (is : List (Nat × Bool)) (es : List E) : Bool := match is, es with
  | [(j1, o1), (j2, o2)], [e1, e2] => (match s with
    | .Assign [.Tuple [.Name x px, .Name y py] _ _] (.Tuple [a, b] _ _) _ => parB sc x y px py a b && decide (N[j1]? = some x) && decide (N[j2]? = some y) && decide (j1 ≠ j2) && ckV G r N sc o1 a e1 && ckV G r N sc o2 b e2
    | _ => false)
  | _, _ => false
def ckIs (nm c : Str) (r : Expr) (d1 d2 : D) : Bool := match r with
  | .Call (.Name f _) [.Name e' _, .Name c' _] [] _ => decide (f = ("isinstance" : Str)) && decide (e' = nm) && decide (c' = c) && scEq (.bool true) d1 && scEq (.bool false) d2
  | .IfExp (.Call (.Name f _) [.Name e' _, .Name c' _] [] _) (.Constant (.str s1) _ _) (.Constant (.str s2) _ _) _ => decide (f = ("isinstance" : Str)) && decide (e' = nm) && decide (c' = c) && scEq (.str s1) d1 && scEq (.str s2) d2
  | _ => false
def ckTr0 (G : GC) (sc : Scope) (N : List Str) (rb : List Stmt → Bool) (s : Stmt) (hs : List (Str × HR)) : Bool := match hs with
  | [(y, .is c d1 d2)] => (match s with
    | .Try body [.ExceptHandler (some (.Name x _)) (some nm) [.Return (some r) _] _] [] [] _ => decide (x = y) && decide (x ∈ G.exc) && decide (c ∈ G.exc) && glB sc x && glB sc c && glB sc "isinstance" && (match N.findIdx? (· == nm) with | some j => slotB N sc nm j | none => false) && decide (sc.names.lookup nm = some .local) && rb body && ckIs nm c r d1 d2
    | _ => false)
  | hs => (match s with | .Try body (h0 :: hds) [] [] _ => ckHs G sc (h0 :: hds) hs && rb body | _ => false)
def ckHsM (G : GC) (sc : Scope) (N : List Str) : List ExceptHandler → List (Str × HR) → Bool
  | [], [] => true
  | .ExceptHandler (some (.Name x _)) none [.Return (some (.Constant c _ _)) _] _ :: hs, (y, .k d) :: rs => decide (x = y) && decide (x ∈ G.exc) && glB sc x &&
    (match c with | .bool b => scEq (.bool b) d | .int b => scEq (.int b) d | .str b => scEq (.str b) d | .none => scEq .none d | _ => false) && ckHsM G sc N hs rs
  | .ExceptHandler (some (.Name x _)) (some nm) [.Return (some r) _] _ :: hs, (y, .is c d1 d2) :: rs => decide (x = y) && decide (x ∈ G.exc) && decide (c ∈ G.exc) && glB sc x && glB sc c && glB sc "isinstance" && (match N.findIdx? (· == nm) with | some j => slotB N sc nm j | none => false) && decide (sc.names.lookup nm = some .local) && ckIs nm c r d1 d2 && ckHsM G sc N hs rs
  | _, _ => false
def ckTr (G : GC) (sc : Scope) (N : List Str) (rb : List Stmt → Bool) (s : Stmt) (hs : List (Str × HR)) : Bool := ckTr0 G sc N rb s hs || (match s with | .Try body (h0 :: hds) [] [] _ => ckHsM G sc N (h0 :: hds) hs && rb body | _ => false)
def ckS (G : GC) (N : List Str) (sc : Scope) (m : Nat) : Nat → Stmt → S → Bool
  | 0, _, _ => false
  | n + 1, s, i => match i with
    | .set j e => ckSet G (ck G m) N sc false s j e
    | .setO j e => ckSet G (ck G m) N sc true s j e
    | .unp T e => (match s with | .Assign [tg] a _ => plainTg tg && notComp a && swNone sc tg a && ckG (fun _ => true) N sc tg T && ck G m .e N sc a e | _ => false)
    | .par is es => ckPar G (ck G m) N sc s is es
    | .setix j x e => (match s with | .Assign [.Subscript (.Name y _) ix _] a _ => slotB N sc y j && notComp a && ixB ix && ck G m .e N sc a e && ck G m .e N sc ix x | _ => false)
    | .aug j o e => (match s with | .AugAssign (.Name x _) q a _ => decide (N[j]? = some x) && locB sc x && decide (q = opM o) && augOk o && ck G m .e N sc a e | _ => false)
    | .app j e => (match s with | .Expr (.Call (.Attribute (.Name x _) y ap) [a] [] cp) _ => decide (y = ("append" : Str)) && slotB N sc x j && plainE a && (ap.endLine == cp.line) && ck G m .e N sc a e | _ => false)
    | .ext j e => (match s with | .Expr (.Call (.Attribute (.Name x _) y ap) [a] [] cp) _ => decide (y = ("extend" : Str)) && slotB N sc x j && plainE a && (ap.endLine == cp.line) && ck G m .e N sc a e | _ => false)
    | .upd j e => (match s with | .Expr (.Call (.Attribute (.Name x _) y ap) [a] [] cp) _ => decide (y = ("update" : Str)) && slotB N sc x j && plainE a && (ap.endLine == cp.line) && ck G m .e N sc a e | _ => false)
    | .xp e => (match s with | .Expr a _ => notComp a && ck G m .e N sc a e | _ => false)
    | .ret e => (match s with | .Return (some a) _ => ck G m .e N sc a e | .Return none _ => (match e with | .k .none => true | _ => false) | _ => false)
    | .raise c => (match s with | .Raise (some (.Call (.Name x _) [.Constant (.str _) _ _] [] _)) none _ => decide (x = c) && decide (x ∈ G.exc) && glB sc x | _ => false)
    | .ite c a b => (match s with | .If t as bs _ => ck G m .t N sc t c && ckSs (ckS G N sc m n) as a && ckSs (ckS G N sc m n) bs b | _ => false)
    | .for T it b => (match s with | .For tg iter body [] _ => notSet iter && ckG (fun _ => true) N sc tg T && ckI (ck G m) N sc false tg iter it && ckSs (ckS G N sc m n) body b | _ => false)
    | .while c b => (match s with | .While t body [] _ => ck G m .t N sc t c && ckSs (ckS G N sc m n) body b | _ => false)
    | .brk => (match s with | .Break _ => true | _ => false)
    | .cnt => (match s with | .Continue _ => true | _ => false)
    | .pass => (match s with | .Pass _ => true | .Expr (.Constant (.str _) _ _) _ => true | _ => false)
    | .tr b hs => ckTr G sc N (fun ss => ckSs (ckS G N sc m n) ss b) s hs
    | .any => true
    | .augix j x o e => (match s with | .AugAssign (.Subscript (.Name y _) ix _) q a _ => slotB N sc y j && ixB ix && decide (q = opM o) && augOk o && ck G m .e N sc a e && ck G m .e N sc ix x | _ => false)
    | .pop j i => (match s with | .Assign [.Name y _] (.Call (.Attribute (.Name x _) z ap) [] [] cp) _ => decide (z = ("pop" : Str)) && slotB N sc x i && decide (N[j]? = some y) && locB sc y && (ap.endLine == cp.line) && decide (i ≠ j) | _ => false)
    | _ => false
structure SC (X : Cx) (G : GC) (C : Str → Value) (sub : Str → Str → Option Bool) (fe : FE) (k : Nat) (w : WX) (N : List Str) (sc : Scope) : Prop extends EC X G C sub fe k w N sc where
  po : PassesOwn (model X.prog X.w) X.A X.env X.xe
  kd : sc.kind = .function
  fn : ∀ x, X.fn x = true
  st : X.stack = X.env :: X.outer
  fr : X.env.frame = some X.env.locals
section
variable {G : GC} {C : Str → Value} {sub : Str → Str → Option Bool} {fe : FE} {k : Nat} {X : Cx} {w : WX} {N : List Str} {sc : Scope} {F0 H0 : Hp}
theorem PS.fn {X : Cx} {K : PySem.W.Frag} {W : WN} {s : Stmt} {f g : Env → SR} (h : PS X s (tS K W F0 H0 f)) (q : ∀ σ, f σ = g σ) : PS X s (tS K W F0 H0 g) := by
  have : f = g := funext q
  exact this ▸ h
theorem PSs.fn {X : Cx} {K : PySem.W.Frag} {W : WN} {s : List Stmt} {f g : Env → SR} (h : PSs X s (tS K W F0 H0 f)) (q : ∀ σ, f σ = g σ) : PSs X s (tS K W F0 H0 g) := by
  have : f = g := funext q
  exact this ▸ h
theorem SC.loc (c : SC X G C sub fe k w N sc) {x : Str} (h : locB sc x = true) : Loc X.env.scope x ∧ (X.fn x = true ∨ X.env.scope.names.lookup x = some .local) := ⟨by rw [c.se]; exact loc_of h, .inl (c.fn x)⟩
theorem ckV_ok (c : SC X G C sub fe k w N sc) {m : Nat} {o : Bool} {e : Expr} {i : E} (x : ckV G (ck G m) N sc o e i = true) : PE X e (tV X.K (WofX C w) o (vF o (ev fe i))) := by
  have hk : CkOk G C sub fe k (ck G m) := ck_ok m
  have c' := c.toEC
  cases o with
  | false => exact v_E (hk.e c' x)
  | true =>
    unfold ckV at x
    dsimp only at x
    split at x
    · split at x
      · rename_i es _ xs _
        simp only [Bool.and_eq_true, decide_eq_true_eq] at x
        have e : (fun σ => (do let ds ← evs fe es σ; .ok (.list ds) : Res D)) = vF true (ev fe (.lst es)) := by
          funext σ
          simp only [vF, ev]
          cases evs fe es σ <;> rfl
        rw [← e]
        exact v_lst (ckL_ok hk c' x.1) fun env ds e => by rw [evs_len e]; omega
      · cases x
    · split at x
      · rename_i o a b _ _ _ _ _
        simp only [Bool.and_eq_true, decide_eq_true_eq] at x
        obtain ⟨⟨⟨rfl, x0⟩, x1⟩, x2⟩ := x
        have e : (fun σ => ((do let x ← ev fe a σ; let y ← ev fe b σ; opD o x y) >>= freshD : Res D)) = vF true (ev fe (.op o a b)) := by
          funext σ
          simp only [vF, ev]
        rw [← e]
        exact v_op o x0 (hk.p c' x1) (hk.p c' x2)
      · cases x
    · rename_i elt T it cc own
      have key := ckComp_ok (o := true) hk c' x
      have e : ∀ σ, ev fe (.comp elt T it cc own) σ >>= freshD = ev fe (.comp elt T it cc own) σ := fun σ => by
        simp only [ev]
        cases ev fe it σ with
        | ex _ => rfl
        | bad => rfl
        | ok d =>
          simp only [Res.ok_bind]
          cases items d with
          | none => rfl
          | some xs =>
            dsimp only
            cases compR _ xs with
            | ex _ => rfl
            | bad => rfl
            | ok ys =>
              simp only [Res.ok_bind]
              split <;> rfl
      have e2 : vF true (ev fe (.comp elt T it cc own)) = ev fe (.comp elt T it cc own) := funext e
      rw [e2]
      exact key
    · split at x
      · have e : (fun _ => (.ok (.dict []) : Res D)) = vF true (ev fe .dnil) := by funext σ; simp only [vF, ev]; rfl
        rw [← e]
        exact v_dnil
      · cases x
    · rename_i kx vx T it cc own
      have key := ckDComp_ok (o := true) hk c' x
      have e : ∀ σ, ev fe (.dcomp kx vx T it cc own) σ >>= freshD = ev fe (.dcomp kx vx T it cc own) σ := fun σ => by
        rw [← dcD_ev]
        exact dcomp_fresh
      have e2 : vF true (ev fe (.dcomp kx vx T it cc own)) = ev fe (.dcomp kx vx T it cc own) := funext e
      rw [e2]
      exact key
    · cases x
end
end BW

namespace BW
open PySem PySem.W L2 PySem.Spec PyProof.Rows
section
variable {G : GC} {C : Str → Value} {sub : Str → Str → Option Bool} {fe : FE} {k : Nat} {X : Cx} {w : WX} {N : List Str} {sc : Scope} {F0 H0 : Hp}
theorem ckSet_ok (c : SC X G C sub fe k w N sc) {m : Nat} {o : Bool} {s : Stmt} {j : Nat} {i : E} (x : ckSet G (ck G m) N sc o s j i = true) : PS X s (tS X.K (WofX C w) F0 H0 fun σ => (ev fe i σ).sr fun d => (toSl o d).sr fun s => .nx (setS σ j s)) := by
  have hk : CkOk G C sub fe k (ck G m) := ck_ok m
  have c' := c.toEC
  have kd : X.env.scope.kind = .function := by rw [c.se]; exact c.kd
  unfold ckSet at x
  split at x
  · rename_i x0 p' e p
    simp only [Bool.and_eq_true, decide_eq_true_eq] at x
    obtain ⟨⟨x1, x2⟩, x3⟩ := x
    obtain ⟨l1, l2⟩ := c.loc x2
    split at x3
    · rename_i x5 tg iter ifs scope vp
      split at x3
      · rename_i elt T it cc own
        cases hsw : swB X.env.scope x0 p' scope vp with
        | false => exact s_set c.ok.nd (by rw [c.n]; exact x1) l1 l2 (ckComp_ok hk c' x3) (by rw [sw_comp kd, hsw])
        | true =>
          have hyl : X.env.scope.names.lookup x0 = some .local := by
            unfold swB at hsw
            simp only [Bool.and_eq_true, decide_eq_true_eq] at hsw
            exact hsw.1.1
          unfold ckComp at x3
          simp only [Bool.and_eq_true, decide_eq_true_eq, List.all_eq_true] at x3
          obtain ⟨⟨⟨⟨⟨⟨⟨y1, y2⟩, y3⟩, y4⟩, y5⟩, y6⟩, y7⟩, y8⟩ := x3
          have bo : BlkOk X.N X.env.scope scope (ownS N own) := by rw [c.n, c.se]; exact blkOk_by y1
          have hg : ∀ (s : Shared) (H : Hp) (A : Addr) (cl : List (Str × Addr)) (fp : List Addr), PG (X.blk s H scope (compEnvC scope cl A X.env) fp) tg (tG X.K T) := fun s H A cl fp =>
            ckG_ok (X := X.blk s H scope (compEnvC scope cl A X.env) fp) c.ok.calm c.ok.nd c.n (c'.blk scope s H A cl fp).se (fun x z => z) tg T y6
          have ht : ∀ (s : Shared) (H : Hp) (A : Addr) (cl : List (Str × Addr)) (fp : List Addr), PTs (X.blk s H scope (compEnvC scope cl A X.env) fp) ifs (tT X.K W0 (evT (ev fe cc))) := fun s H A cl fp => by
            split at y8
            · split at y8
              · have : (evT (ev fe (.k (.bool true)))) = fun _ => Res.ok true := by funext σ; simp [evT, ev, asBool]
                rw [this]
                exact t_yes (X := X.blk s H scope (compEnvC scope cl A X.env) fp)
              · cases y8
            · exact pts_one (hk.t (c'.blk scope s H A cl fp) y8)
            · cases y8
          have he : ∀ (s : Shared) (H : Hp) (A : Addr) (cl : List (Str × Addr)) (fp : List Addr), PE (X.blk s H scope (compEnvC scope cl A X.env) fp) x5 (tE X.K W0 (ev fe elt)) := fun s H A cl fp => hk.e (c'.blk scope s H A cl fp) y7
          have key := s_setLc (o := o) (W := WofX C w) (F0 := F0) (H0 := H0) (spos := p) c.ok (by rw [c.n]; exact x1) hyl (by rw [sw_comp kd, hsw]) (ckI_ok hk c' y5) bo hg ht he (fold_notSet y3) (by rw [y2]; exact y4)
          rw [y2] at key
          refine PS.fn key fun env => ?_
          have e : compD (fun σ => do let d ← ev fe it σ; itm d) T (evT (ev fe cc)) (ev fe elt) own env = ev fe (.comp elt T it cc own) env := by
            unfold compD
            simp only [ev]
            cases ev fe it env with
            | ex _ => rfl
            | bad => rfl
            | ok d =>
              have ef : compF T (evT (ev fe cc)) (ev fe elt) own env = fun d => (do
                let σ' ← bindT T d (wipeS env own)
                let t ← ev fe cc σ'
                let b ← asBool t
                if b then do
                  let y ← ev fe elt σ'
                  .ok (some y)
                else .ok none).quiet := by
                funext d
                unfold compF evT
                congr 1
                cases bindT T d (wipeS env own) with
                | ex _ => rfl
                | bad => rfl
                | ok σ' => simp only [Res.ok_bind, bind_assoc']
              rw [ef]
              cases d <;> rfl
          rw [e]
      · cases x3
    · rename_i kx0 vx0 tg0 iter0 ifs0 scope vp
      split at x3
      · rename_i kx vx T it cc own
        cases hsw : swB X.env.scope x0 p' scope vp with
        | false => exact s_set c.ok.nd (by rw [c.n]; exact x1) l1 l2 (ckDComp_ok hk c' x3) (by rw [sw_dcomp kd, hsw])
        | true =>
          have hyl : X.env.scope.names.lookup x0 = some .local := by
            unfold swB at hsw
            simp only [Bool.and_eq_true, decide_eq_true_eq] at hsw
            exact hsw.1.1
          obtain ⟨x5, y5, tg, iter, ifs, sc5, p5, e5, e2, qq⟩ := ckDComp_parts hk c' x3
          cases e5
          have key := s_setDc (o := o) (W := WofX C w) (F0 := F0) (H0 := H0) (spos := p) c.ok qq.hi qq.bo qq.hg qq.ht qq.hk qq.he qq.hs qq.hT (by rw [c.n]; exact x1) hyl (by rw [sw_dcomp kd, hsw])
          rw [e2, dcD_ev] at key
          exact key
      · cases x3
    · simp only [Bool.and_eq_true] at x3
      exact PS.fn (s_set c.ok.nd (by rw [c.n]; exact x1) l1 l2 (ckV_ok c x3.2) (swaps_plain x3.1)) fun σ => vF_sr (α := Unit)
  · cases x
theorem ckHs_ok (c : SC X G C sub fe k w N sc) : ∀ {hs : List ExceptHandler} {rs : List (Str × HR)}, ckHs G sc hs rs = true → ∃ l, HdsR X C hs rs l := by
  intro hs rs
  induction hs generalizing rs with
  | nil => intro x; cases rs with | nil => exact ⟨[], .nil⟩ | cons => cases x
  | cons h hs ih =>
    intro x
    unfold ckHs at x
    split at x
    · rename_i e1 e2; cases e2
    · rename_i x0 _ cst _ _ _ _ hs' y d rs' e
      cases e
      simp only [Bool.and_eq_true, decide_eq_true_eq] at x
      obtain ⟨⟨⟨⟨rfl, x1⟩, x2⟩, x3⟩, x4⟩ := x
      obtain ⟨l, hl⟩ := ih x4
      obtain ⟨Cx, _, _, _, _, hC, _, _, hm, _⟩ := c.gx.exc _ x1
      have hn : Names X x0 (C x0) := ⟨(c.toEC.gl x2).1, (c.toEC.gl x2).2, .inl (by rw [hC]; exact hm)⟩
      split at x3
      · obtain ⟨rfl, v, sv⟩ := scEq_of x3; exact ⟨_, .cons (d := .bool _) hn sv hl⟩
      · obtain ⟨rfl, v, sv⟩ := scEq_of x3; exact ⟨_, .cons (d := .int _) hn sv hl⟩
      · obtain ⟨rfl, v, sv⟩ := scEq_of x3; exact ⟨_, .cons (d := .str _) hn sv hl⟩
      · obtain ⟨rfl, v, sv⟩ := scEq_of x3; exact ⟨_, .cons (d := .none) hn sv hl⟩
      · cases x3
    · cases x
theorem ckHsM_ok (c : SC X G C sub fe k w N sc) : ∀ {hs : List ExceptHandler} {rs : List (Str × HR)}, ckHsM G sc N hs rs = true → ∃ l, HdsM X C hs rs l := by
  intro hs rs
  have c' := c.toEC
  induction hs generalizing rs with
  | nil => intro x; cases rs with | nil => exact ⟨[], .nil⟩ | cons => cases x
  | cons h hs ih =>
    intro x
    unfold ckHsM at x
    split at x
    · rename_i e1 e2; cases e2
    · rename_i x0 _ cst _ _ _ _ hs' y d rs' e
      cases e
      simp only [Bool.and_eq_true, decide_eq_true_eq] at x
      obtain ⟨⟨⟨⟨rfl, x1⟩, x2⟩, x3⟩, x4⟩ := x
      obtain ⟨l, hl⟩ := ih x4
      obtain ⟨Cx, _, _, _, _, hC, _, _, hm, _⟩ := c.gx.exc _ x1
      have hn : Names X x0 (C x0) := ⟨(c'.gl x2).1, (c'.gl x2).2, .inl (by rw [hC]; exact hm)⟩
      split at x3
      · obtain ⟨rfl, v, sv⟩ := scEq_of x3; exact ⟨_, .k (d := .bool _) hn sv hl⟩
      · obtain ⟨rfl, v, sv⟩ := scEq_of x3; exact ⟨_, .k (d := .int _) hn sv hl⟩
      · obtain ⟨rfl, v, sv⟩ := scEq_of x3; exact ⟨_, .k (d := .str _) hn sv hl⟩
      · obtain ⟨rfl, v, sv⟩ := scEq_of x3; exact ⟨_, .k (d := .none) hn sv hl⟩
      · cases x3
    · rename_i x0 _ nm r _ _ hs' y cc d1 d2 rs' e
      cases e
      simp only [Bool.and_eq_true, decide_eq_true_eq] at x
      obtain ⟨⟨⟨⟨⟨⟨⟨⟨⟨rfl, x1⟩, x2⟩, x3⟩, x4⟩, x5⟩, x6⟩, x7⟩, x9⟩, x10⟩ := x
      obtain ⟨l, hl⟩ := ih x10
      obtain ⟨Cx, _, _, _, _, hC, _, _, hm, _⟩ := c.gx.exc _ x1
      obtain ⟨Cy, _, _, _, _, hCy, _, _, hmy, _⟩ := c.gx.exc _ x2
      have hn : Names X x0 (C x0) := ⟨(c'.gl x3).1, (c'.gl x3).2, .inl (by rw [hC]; exact hm)⟩
      split at x6
      · rename_i jn _
        obtain ⟨h1, h2, h3, h4⟩ := c'.slot x6
        have hk : X.env.kindOf nm = some .local := by show X.env.scope.names.lookup _ = _; rw [c.se]; exact x7
        unfold ckIs at x9
        split at x9
        · simp only [Bool.and_eq_true, decide_eq_true_eq] at x9
          obtain ⟨⟨⟨⟨rfl, rfl⟩, rfl⟩, q1⟩, q2⟩ := x9
          obtain ⟨rfl, _⟩ := scEq_of q1
          obtain ⟨rfl, _⟩ := scEq_of q2
          exact ⟨_, .is (d1 := .bool true) (d2 := .bool false) (v1 := .bl true) (v2 := .bl false) hn h1 hk hCy rfl rfl (fun a oe cls d pn hz hf => su_is hz hf h1 h2 h3 h4 (c'.gl x5).1 (bi_of c' _ (by decide)) (c'.gl x4).1 hmy (c'.gl x4).2) hl⟩
        · simp only [Bool.and_eq_true, decide_eq_true_eq] at x9
          obtain ⟨⟨⟨⟨rfl, rfl⟩, rfl⟩, q1⟩, q2⟩ := x9
          obtain ⟨rfl, _⟩ := scEq_of q1
          obtain ⟨rfl, _⟩ := scEq_of q2
          exact ⟨_, .is (d1 := .str _) (d2 := .str _) (v1 := .str _) (v2 := .str _) hn h1 hk hCy rfl rfl (fun a oe cls d pn hz hf => su_isIf (d1 := .str _) (d2 := .str _) rfl rfl hz hf h1 h2 h3 h4 (c'.gl x5).1 (bi_of c' _ (by decide)) (c'.gl x4).1 hmy (c'.gl x4).2) hl⟩
        · cases x9
      · cases x6
    · cases x
/-- what a check of a statement promises -/
def CkS (G : GC) (C : Str → Value) (sub : Str → Str → Option Bool) (fe : FE) (k : Nat) (N : List Str) (sc : Scope) (n : Nat) (r : Stmt → S → Bool) : Prop :=
  ∀ (X : Cx) (w : WX) (F0 H0 : Hp), SC X G C sub fe k w N sc → ∀ s i, r s i = true → PS X s (tS X.K (WofX C w) F0 H0 (ex1 fe sub n i))
theorem ckSs_ok {n : Nat} {r : Stmt → S → Bool} (h : CkS G C sub fe k N sc n r) (c : SC X G C sub fe k w N sc) : ∀ (is : List S) (ss : List Stmt), ckSs r ss is = true → PSs X ss (tS X.K (WofX C w) F0 H0 (exs fe sub n is))
  | [], [], _ => PSs.fn s_nil fun σ => by simp [exs]
  | [], _ :: _, x => by simp [ckSs] at x
  | i :: is, ss, x => by
    have key : (∃ j, i = .fr j ∧ ckSs r ss is = true) ∨ (∃ j, i = .wipe j ∧ ckSs r ss is = true) ∨ ∃ s ss', ss = s :: ss' ∧ r s i = true ∧ ckSs r ss' is = true := by
      cases ss with
      | nil =>
        cases i with
        | fr j => exact .inl ⟨j, rfl, by simpa [ckSs] using x⟩
        | wipe j => exact .inr (.inl ⟨j, rfl, by simpa [ckSs] using x⟩)
        | _ => simp [ckSs] at x
      | cons s ss' =>
        cases i with
        | fr j => exact .inl ⟨j, rfl, by simpa [ckSs] using x⟩
        | wipe j => exact .inr (.inl ⟨j, rfl, by simpa [ckSs] using x⟩)
        | _ => exact .inr (.inr ⟨s, ss', rfl, by simpa [ckSs] using x⟩)
    rcases key with ⟨j, rfl, h2⟩ | ⟨j, rfl, h2⟩ | ⟨s, ss', rfl, h1, h2⟩
    · refine PSs.fn (s_fr (i := j) (ckSs_ok h c is ss h2)) fun σ => ?_
      simp only [exs, ex1]
      all_goals (cases getS σ j <;> rfl)
    · refine PSs.fn (s_wipe (is := j) (ckSs_ok h c is ss h2)) fun σ => ?_
      simp only [exs, ex1]
      rfl
    · refine PSs.fn (s_cons (h X w F0 H0 c s i h1) (ckSs_ok h c is ss' h2)) fun σ => ?_
      simp only [exs]
theorem SC.tr (c : SC X G C sub fe k w N sc) (W : WX) (pn : List (Addr × Obj)) (xe : Value → Shared → Prop) (tk : Takes (X.tr pn xe) W) (po : PassesOwn (model X.prog X.w) X.A X.env xe) : SC (X.tr pn xe) G C sub fe k W N sc :=
  ⟨⟨⟨c.ok.nd, c.ok.calm, c.ok.room⟩, c.n, c.se, tk, c.hr, c.gx⟩, po, c.kd, c.fn, c.st, c.fr⟩
theorem asg_sub {o ix : Expr} {pos : Pos} {env : PySem.Env} (h : ixB ix = true) (v : Value) : assign (.Subscript o ix pos) env v = (do
      let ov ← holding [v] (eval o env)
      let iv ← holding [v, ov] (eval ix env)
      standAt pos
      holding [v, ov, iv] (setItem ov iv v)
      release [v, ov, iv] []) := by
  cases ix <;> first | exact absurd h Bool.false_ne_true | rfl
theorem augSt_of {ix : Expr} (h : ixB ix = true) (ov iv new : Value) : augStore ix ov iv new = (do holding [new, ov, iv] (setItem ov iv new); release [new, ov, iv] []; pure .next) := by
  cases ix <;> first | exact absurd h Bool.false_ne_true | rfl
theorem ckS_ok {m n : Nat} : ∀ q : Nat, CkS G C sub fe k N sc n (ckS G N sc m q)
  | 0 => fun X w F0 H0 c s i x => by cases x
  | q + 1 => fun X w F0 H0 c s i x => by
    have hk : CkOk G C sub fe k (ck G m) := ck_ok m
    have c' := c.toEC
    have kd : X.env.scope.kind = .function := by rw [c.se]; exact c.kd
    have hb : ∀ {is : List S} {ss : List Stmt}, ckSs (ckS G N sc m q) ss is = true → PSs X ss (tS X.K (WofX C w) F0 H0 (exs fe sub n is)) := fun {is ss} x => ckSs_ok (ckS_ok q) c is ss x
    cases i with
    | set j e => exact PS.fn (ckSet_ok c x) fun σ => by simp only [ex1, toSl]; cases ev fe e σ <;> rfl
    | setO j e => exact PS.fn (ckSet_ok c x) fun σ => by simp only [ex1]
    | unp T e =>
      simp only [ckS] at x
      split at x
      · simp only [Bool.and_eq_true] at x
        obtain ⟨⟨⟨⟨x1, x2⟩, x3⟩, x4⟩, x5⟩ := x
        exact PS.fn (s_unp (hk.e c' x5) (ckG_ok c.ok.calm c.ok.nd c.n c.se (fun x _ => c.fn x) _ _ x4) (swaps_plain x2) (swNone_of (by rw [c.se]; exact x3)) (by rw [asg_plain x1]; rfl)) fun σ => by simp only [ex1]
      · cases x
    | par is es =>
      simp only [ckS] at x
      unfold ckPar at x
      split at x
      · rename_i j1 o1 j2 o2 e1 e2
        split at x
        · rename_i x0 px y py kt pt a b k2 pt2 p
          simp only [Bool.and_eq_true, decide_eq_true_eq] at x
          obtain ⟨⟨⟨⟨⟨x1, x2⟩, x3⟩, x4⟩, x5⟩, x6⟩ := x
          have x1' : parB X.env.scope x0 y px py a b = true := by rw [c.se]; exact x1
          have x1c := x1'
          unfold parB at x1'
          simp only [Bool.and_eq_true, decide_eq_true_eq] at x1'
          obtain ⟨⟨⟨⟨⟨⟨⟨z1, z2⟩, z3⟩, z4⟩, z5⟩, z6⟩, z7⟩, z8⟩ := x1'
          refine PS.fn (s_par (W := WofX C w) (F0 := F0) (H0 := H0) (pos := p) c.ok (by rw [c.n]; exact x2) (by rw [c.n]; exact x3) x4 z1 z2 (ckV_ok c x5) (ckV_ok c x6) (star_plain z7) (star_plain z8) (par_of kd x1c) rfl) fun σ => ?_
          simp only [ex1, evP]
          cases vF o1 (ev fe e1) σ with
          | ex _ => rfl
          | bad => rfl
          | ok d1 =>
            cases vF o2 (ev fe e2) σ with
            | ex _ => rfl
            | bad => rfl
            | ok d2 =>
              show ((toSl o1 d1).sr fun s1 => (toSl o2 d2).sr fun s2 => SR.nx (setS (setS σ j1 s1) j2 s2)) = (parR [(j1, o1), (j2, o2)] [d1, d2] σ).sr .nx
              unfold parR
              cases toSl o1 d1 with
              | ex _ => rfl
              | bad => rfl
              | ok t1 =>
                simp only [parR, Res.ok_bind]
                cases toSl o2 d2 <;> rfl
        · cases x
      · cases x
    | setix j ix e =>
      simp only [ckS] at x
      split at x
      · simp only [Bool.and_eq_true] at x
        obtain ⟨⟨⟨⟨x1, x2⟩, x0⟩, x3⟩, x4⟩ := x
        obtain ⟨h1, h2, h3, h4⟩ := c'.slot x1
        exact PS.fn (s_setix c.ok h1 h2 h3 h4 (hk.e c' x3) (hk.e c' x4) (asg_sub x0) (by unfold swapsWithSole; exact swaps_plain x2) swst_sub rfl) fun σ => by
          simp only [ex1]
          all_goals (cases getS σ j <;> rfl)
      · cases x
    | aug j o e =>
      simp only [ckS] at x
      split at x
      · simp only [Bool.and_eq_true, decide_eq_true_eq] at x
        obtain ⟨⟨⟨⟨x1, x2⟩, rfl⟩, x4⟩, x5⟩ := x
        obtain ⟨l1, l2⟩ := c.loc x2
        exact PS.fn (s_aug c.ok (by rw [c.n]; exact x1) l1 l2 x4 (hk.e c' x5)) fun σ => by
          simp only [ex1]
          all_goals rfl
      · cases x
    | app j e =>
      simp only [ckS] at x
      split at x
      · simp only [Bool.and_eq_true, decide_eq_true_eq] at x
        obtain ⟨⟨⟨⟨rfl, x1⟩, x2⟩, x3⟩, x4⟩ := x
        obtain ⟨h1, h2, h3, h4⟩ := c'.slot x1
        exact PS.fn (s_app h1 h2 h3 h4 (hk.e c' x4) rfl (few_plain x2) x3 (star_plain x2) rfl) fun σ => by
          simp only [ex1]
          all_goals (cases getS σ j <;> rfl)
      · cases x
    | ext j e =>
      simp only [ckS] at x
      split at x
      · simp only [Bool.and_eq_true, decide_eq_true_eq] at x
        obtain ⟨⟨⟨⟨rfl, x1⟩, x2⟩, x3⟩, x4⟩ := x
        obtain ⟨h1, h2, h3, h4⟩ := c'.slot x1
        exact PS.fn (s_ext h1 h2 h3 h4 (hk.e c' x4) rfl (few_plain x2) x3 (star_plain x2) rfl) fun σ => by
          simp only [ex1]
          all_goals (cases getS σ j <;> rfl)
      · cases x
    | xp e =>
      simp only [ckS] at x
      split at x
      · simp only [Bool.and_eq_true] at x
        exact PS.fn (s_xp (hk.e c' x.2) (swaps_plain x.1)) fun σ => by simp only [ex1]
      · cases x
    | ret e =>
      simp only [ckS] at x
      split at x
      · exact PS.fn (s_ret (hk.e c' x)) fun σ => by simp only [ex1]
      · split at x
        · exact PS.fn s_retN fun σ => by simp only [ex1, ev]; rfl
        · cases x
      · cases x
    | raise cn =>
      simp only [ckS] at x
      split at x
      · rename_i x0 pp1 s1 jj1 pp2 pp3 pp4
        simp only [Bool.and_eq_true, decide_eq_true_eq] at x
        obtain ⟨⟨rfl, x1⟩, x2⟩ := x
        obtain ⟨Cx, bmB, B, newId, initId, hC, fF, q1, hm, kp, sb, ty⟩ := c.gx.exc _ x1
        have pm := pmk_own (X := X) (m := s1) (j := jj1) (p := pp1) (p2 := pp2) (pos := pp3) fF q1 hm kp (raises_own sb ty) (c'.gl x2).1 (c'.gl x2).2
        rw [← hC] at pm
        exact PS.fn (s_raise (c := x0) c.ok c.tk pm) fun σ => by simp only [ex1]
      · cases x
    | ite cc a b =>
      simp only [ckS] at x
      split at x
      · simp only [Bool.and_eq_true] at x
        exact PS.fn (s_if (hk.t c' x.1.1) (hb x.1.2) (hb x.2)) fun σ => by simp only [ex1]
      · cases x
    | «for» T it b =>
      simp only [ckS] at x
      split at x
      · simp only [Bool.and_eq_true] at x
        obtain ⟨⟨⟨x1, x2⟩, x3⟩, x4⟩ := x
        refine PS.fn (s_for c.ok c.po (ckI_ok hk c' x3) (ckG_ok c.ok.calm c.ok.nd c.n c.se (fun x _ => c.fn x) _ _ x2) (hb x4) (fold_notSet x1)) fun σ => ?_
        simp only [ex1]
        cases ev fe it σ with
        | ex _ => rfl
        | bad => rfl
        | ok d => cases d <;> rfl
      · cases x
    | «while» cc b =>
      simp only [ckS] at x
      split at x
      · simp only [Bool.and_eq_true] at x
        exact PS.fn (s_while (n := n) c.po (hk.t c' x.1) (hb x.2)) fun σ => by simp only [ex1]; rfl
      · cases x
    | brk =>
      simp only [ckS] at x
      split at x
      · exact PS.fn s_brk fun σ => by simp only [ex1]
      · cases x
    | cnt =>
      simp only [ckS] at x
      split at x
      · exact PS.fn s_cnt fun σ => by simp only [ex1]
      · cases x
    | pass =>
      simp only [ckS] at x
      split at x
      · exact PS.fn s_pass fun σ => by simp only [ex1]
      · exact PS.fn s_doc fun σ => by simp only [ex1]
      · cases x
    | tr b hs =>
      simp only [ckS] at x
      unfold ckTr at x
      rw [Bool.or_eq_true] at x
      have hbt : ∀ {body : List Stmt}, ckSs (ckS G N sc m q) body b = true → ∀ (W : WX) (pn : List (Addr × Obj)) (xe : Value → Shared → Prop), Takes (X.tr pn xe) W → PassesOwn (model X.prog X.w) X.A X.env xe → PSs (X.tr pn xe) body (tS X.K (WofX C W) F0 H0 (exs fe sub n b)) := fun {body} x W pn xe tk po =>
        ckSs_ok (X := X.tr pn xe) (ckS_ok q) (c.tr W pn xe tk po) b body x
      rcases x with x | x
      rotate_left
      · split at x
        · simp only [Bool.and_eq_true] at x
          obtain ⟨l, hl⟩ := ckHsM_ok c x.1
          exact PS.fn (s_tryM c.gx.ck c.ok.nd c.st c.fr c.tk (hbt x.2) hl) fun σ => by simp only [ex1]
        · cases x
      unfold ckTr0 at x
      split at x
      · split at x
        · simp only [Bool.and_eq_true, decide_eq_true_eq] at x
          obtain ⟨⟨⟨⟨⟨⟨⟨⟨⟨rfl, x1⟩, x2⟩, x3⟩, x4⟩, x5⟩, x6⟩, x7⟩, x8⟩, x9⟩ := x
          obtain ⟨Cx, _, _, _, _, hC, _, _, hm, _⟩ := c.gx.exc _ x1
          obtain ⟨Cy, _, _, _, _, hCy, _, _, hmy, _⟩ := c.gx.exc _ x2
          split at x6
          · rename_i jn _
            obtain ⟨h1, h2, h3, h4⟩ := c'.slot x6
            have hn := (show Names X _ (C _) from ⟨(c'.gl x3).1, (c'.gl x3).2, .inl (by rw [hC]; exact hm)⟩)
            unfold ckIs at x9
            split at x9
            · simp only [Bool.and_eq_true, decide_eq_true_eq] at x9
              obtain ⟨⟨⟨⟨rfl, rfl⟩, rfl⟩, q1⟩, q2⟩ := x9
              obtain ⟨rfl, _⟩ := scEq_of q1
              obtain ⟨rfl, _⟩ := scEq_of q2
              exact PS.fn (s_tryAs (d1 := .bool true) (d2 := .bool false) (v1 := .bl true) (v2 := .bl false) c.gx.ck rfl rfl c.st c.fr c.tk c.ok.nd h1 (by show X.env.scope.names.lookup _ = _; rw [c.se]; exact x7) hn hCy (hbt x8) fun a oe cls d pn hz hf => su_is hz hf h1 h2 h3 h4 (c'.gl x5).1 (bi_of c' _ (by decide)) (c'.gl x4).1 hmy (c'.gl x4).2) fun σ => by simp only [ex1]
            · simp only [Bool.and_eq_true, decide_eq_true_eq] at x9
              obtain ⟨⟨⟨⟨rfl, rfl⟩, rfl⟩, q1⟩, q2⟩ := x9
              obtain ⟨rfl, _⟩ := scEq_of q1
              obtain ⟨rfl, _⟩ := scEq_of q2
              exact PS.fn (s_tryAs (d1 := .str _) (d2 := .str _) (v1 := .str _) (v2 := .str _) c.gx.ck rfl rfl c.st c.fr c.tk c.ok.nd h1 (by show X.env.scope.names.lookup _ = _; rw [c.se]; exact x7) hn hCy (hbt x8) fun a oe cls d pn hz hf => su_isIf (d1 := .str _) (d2 := .str _) rfl rfl hz hf h1 h2 h3 h4 (c'.gl x5).1 (bi_of c' _ (by decide)) (c'.gl x4).1 hmy (c'.gl x4).2) fun σ => by simp only [ex1]
            · cases x9
          · cases x6
        · cases x
      · split at x
        · simp only [Bool.and_eq_true] at x
          obtain ⟨l, hl⟩ := ckHs_ok c x.1
          exact PS.fn (s_try c.gx.ck c.st c.fr c.tk (hbt x.2) hl) fun σ => by simp only [ex1]
        · cases x
    | augix j ixx o e =>
      simp only [ckS] at x
      split at x
      · simp only [Bool.and_eq_true, decide_eq_true_eq] at x
        obtain ⟨⟨⟨⟨⟨x1, x2⟩, rfl⟩, x3⟩, x4⟩, x5⟩ := x
        obtain ⟨h1, h2, h3, h4⟩ := c'.slot x1
        exact PS.fn (s_augix h1 h2 h3 h4 x3 (hk.e c' x4) (hk.e c' x5) (augSt_of x2)) fun σ => by
          simp only [ex1]
          all_goals (cases getS σ j <;> rfl)
      · cases x
    | pop j i =>
      simp only [ckS] at x
      split at x
      · simp only [Bool.and_eq_true, decide_eq_true_eq] at x
        obtain ⟨⟨⟨⟨⟨rfl, x1⟩, x2⟩, x3⟩, x4⟩, x5⟩ := x
        obtain ⟨h1, h2, h3, h4⟩ := c'.slot x1
        obtain ⟨l1, l2⟩ := c.loc x3
        exact PS.fn (s_pop c.ok.nd x5 h1 h2 h3 h4 (by rw [c.n]; exact x2) l1 l2 rfl x4 rfl) fun σ => by
          simp only [ex1]
          all_goals (cases getS σ i <;> rfl)
      · cases x
    | upd j e =>
      simp only [ckS] at x
      split at x
      · simp only [Bool.and_eq_true, decide_eq_true_eq] at x
        obtain ⟨⟨⟨⟨rfl, x1⟩, x2⟩, x3⟩, x4⟩ := x
        obtain ⟨h1, h2, h3, h4⟩ := c'.slot x1
        exact PS.fn (s_upd h1 h2 h3 h4 (hk.e c' x4) rfl (few_plain x2) x3 (star_plain x2) rfl) fun σ => by
          simp only [ex1]
          all_goals (cases getS σ j <;> rfl)
      · cases x
    | fr j => cases x
    | wipe j => cases x
    | any => exact PS.fn s_any fun σ => by simp only [ex1]
end
end BW

namespace BW
open PySem PySem.W L2 PySem.Spec PyProof.Rows
/-! ### defs -/
/-- a def's form: its name, its names (the parameters first), its body -/
structure DI where
  nm : Str
  ps : List Str
  N : List Str
  body : List S
def ansR : SR → Res D
  | .rt d => .ok d
  | .nx _ => .ok .none
  | .ex c => .ex c
  | _ => .bad
def runD (fe : FE) (sub : Str → Str → Option Bool) (n : Nat) (d : DI) (ds : List D) : Res D :=
  if ds.length = d.ps.length then ansR (exs fe sub n d.body (ds.map .fz ++ List.replicate (d.N.length - ds.length) .un)) else .bad
def feN (sub : Str → Str → Option Bool) (n : Nat) (T : List DI) : Nat → FE
  | 0, _, _ => .bad
  | k + 1, i, ds => match T[i]? with
    | some d => runD (feN sub n T k) sub n d ds
    | none => .bad
section
variable {P : Program} {wd : World} {K : PySem.W.Frag} {mg : Str → Option Value} {base : Heap} {G : GC} {C : Str → Value} {sub : Str → Str → Option Bool}
theorem start_slot {F H : Hp} {N : List Str} {vs : List V} {ds : List D} (s : Same F H) (h : DqAll K F vs ds) (hl : vs.length ≤ N.length) : RE K F H (L2.start N vs) (ds.map .fz ++ List.replicate (N.length - ds.length) .un) := by
  refine ⟨s, by simp [L2.start, h.length], fun i => ?_⟩
  unfold L2.start getS
  rw [List.getD_eq_getElem?_getD]
  have el := h.length
  by_cases hi : i < ds.length
  · have hv : i < vs.length := by rw [el]; exact hi
    have e1 : (vs.map some ++ List.replicate (N.length - vs.length) none)[i]? = (vs.map some)[i]? := List.getElem?_append_left (by simpa using hv)
    have e2 : (ds.map Sl.fz ++ List.replicate (N.length - ds.length) .un)[i]? = (ds.map Sl.fz)[i]? := List.getElem?_append_left (by simpa using hi)
    rw [e1, e2, List.getElem?_map, List.getElem?_map]
    obtain ⟨v, e, q⟩ := h.get' (List.getElem?_eq_getElem hi)
    rw [e, List.getElem?_eq_getElem hi]
    exact ⟨v, rfl, q⟩
  · have e2 : (ds.map Sl.fz ++ List.replicate (N.length - ds.length) Sl.un)[i]?.getD .un = .un := by
      rw [List.getElem?_append_right (by simpa using hi), List.getElem?_replicate]
      split <;> rfl
    rw [e2]
    trivial
theorem start_RS {F H : Hp} {N : List Str} {vs : List V} {ds : List D} (s : Same F H) (h : DqAll K F vs ds) (hl : vs.length ≤ N.length) : RS K F H F H (L2.start N vs) (ds.map .fz ++ List.replicate (N.length - ds.length) .un) := by
  have no : ∀ i, (∀ xs, getS (ds.map Sl.fz ++ List.replicate (N.length - ds.length) .un) i ≠ .ol xs) ∧ ∀ xs, getS (ds.map Sl.fz ++ List.replicate (N.length - ds.length) .un) i ≠ .od xs := fun i => by
    unfold getS
    rw [List.getD_eq_getElem?_getD]
    by_cases hi : i < ds.length
    · rw [List.getElem?_append_left (by simpa using hi), List.getElem?_map, List.getElem?_eq_getElem hi]
      exact ⟨fun xs z => (nomatch z), fun xs z => (nomatch z)⟩
    · rw [List.getElem?_append_right (by simpa using hi), List.getElem?_replicate]
      split <;> exact ⟨fun xs z => (nomatch z), fun xs z => (nomatch z)⟩
  have nw : ∀ i l, ¬ Own (L2.start N vs) (ds.map Sl.fz ++ List.replicate (N.length - ds.length) .un) i l := fun i l ⟨_, z⟩ => by
    rcases z with ⟨xs, z⟩ | ⟨xs, z⟩
    · exact (no i).1 xs z
    · exact (no i).2 xs z
  exact ⟨start_slot s h hl, Ext.refl s, fun i l o => absurd o (nw i l), fun i j l o _ => absurd o (nw i l)⟩
/-- one def, a level up -/
theorem fn_step {x qual : Str} {st : Stmt} {f : Addr} {fd : FuncData} {k m n q : Nat} {fe : FE} {d : DI} (F : L2.Fun K x qual st f fd) (S : FnScope d.N d.ps (defScope st)) (gx : GX P wd K mg base G C sub fe k) (hck : ckSs (ckS G d.N (defScope st) m q) (defBody st) d.body = true) :
    FnOk P wd K mg base (L2.CX P wd) (k + 1) f fd d.ps (spF K C d.ps.length (runD fe sub n d)) := by
  have hps : d.ps.length ≤ d.N.length := by have := congrArg List.length S.pre; rw [List.length_take] at this; omega
  refine F.okX S (fun vs H Q E h => h.1) fun cdv A outer s H vs Q E hr ⟨hl, F0, ds, sm, qa, h⟩ => ?_
  have hd : ds.length = d.ps.length := by rw [← qa.length]; exact hl
  unfold runD at h
  rw [if_pos hd] at h
  have sc : SC (cxOf (L2.CX P wd) P wd K mg base d.N qual (defScope st) f cdv A outer s H E) G C sub fe k (fun cls dd _ H => E cls dd H) d.N (defScope st) :=
    ⟨⟨⟨S.nd, rfl, by have := hr.un; show (A.deeper _).units + 64 < cLine; omega⟩, rfl, rfl, takes_of rfl rfl rfl rfl, hr, gx⟩, passes_of rfl, S.kind, fun _ => rfl, rfl, rfl⟩
  refine ⟨_, ckSs_ok (F0 := F0) (H0 := H) (n := n) (ckS_ok (m := m) q) sc d.body (defBody st) hck, F0, _, start_RS sm qa (by rw [hl]; exact hps), ?_⟩
  cases e : exs fe sub n d.body (ds.map .fz ++ List.replicate (d.N.length - ds.length) .un) with
  | nx env' => rw [e] at h; exact fun σ' H' F' s R => h .non H' F' R.x .non
  | rt r => rw [e] at h; exact fun v H' F' s x q => h v H' F' x q
  | ex c => rw [e] at h; exact fun σ' H' F' s x => h H' x.h
  | bk env' => rw [e] at h; exact h.elim
  | ct env' => rw [e] at h; exact h.elim
  | bad => rw [e] at h; exact h.elim
end
/-- what is known of a def of the table -/
structure DefOk (K : PySem.W.Frag) (G : GC) (m q : Nat) (d : DI) (f : Addr) (fd : FuncData) : Prop where
  kp : PySem.W.keepIn K (.ref f) = true
  bd : Binds K fd d.ps []
  ex : ∃ st : Stmt, L2.Fun K d.nm d.nm st f fd ∧ FnScope d.N d.ps (defScope st) ∧ ckSs (ckS G d.N (defScope st) m q) (defBody st) d.body = true
/-- what is known of an error's class -/
structure ExcOk (K : PySem.W.Frag) (mg : Str → Option Value) (C : Str → Value) (x : Str) : Prop where
  ex : ∃ Cx bmB B newId initId, C x = .ref Cx ∧ PySem.ExcBaseFacts B newId initId bmB ∧ PySem.W.excIn K Cx bmB newId = true ∧ mg x = some (.ref Cx) ∧ PySem.W.keepIn K (.ref Cx) = true ∧ PySem.W.subIn K (.ref Cx) (.type "BaseException") = some true ∧ PySem.W.typeIn K (.ref Cx) = some (.type "type")
section
variable {P : Program} {wd : World} {K : PySem.W.Frag} {mg : Str → Option Value} {base : Heap} {G : GC} {C : Str → Value} {sub : Str → Str → Option Bool} {m q n : Nat} {T : List DI}
theorem fn0_ok {f : Addr} {fd : FuncData} {ps : List Str} : FnOk P wd K mg base (L2.CX P wd) 0 f fd ps (spF K C ps.length fun _ => .bad) :=
  ⟨fun vs H Q E h => h.1, fun A outer s H args us vs Q E hr e0 hb r ⟨_, _, _, _, _, h⟩ => h.elim⟩
/-- the module: its defs, constants, errors -/
structure ModOk (K : PySem.W.Frag) (mg : Str → Option Value) (G : GC) (C : Str → Value) (sub : Str → Str → Option Bool) (m q : Nat) (T : List DI) : Prop where
  fns : ∀ e ∈ G.fns, ∃ d f fd, T[e.2.1]? = some d ∧ DefOk K G m q d f fd ∧ mg e.1 = some (.ref f) ∧ d.ps.length = e.2.2
  bi : ∀ x ∈ biNames, mg x = none
  con : ∀ e ∈ G.con, ∃ v u, mg e.1 = some u ∧ RelV v u ∧ ∀ F : Hp, Dq K F v e.2
  ck : ClsOk K C sub
  exc : ∀ x ∈ G.exc, ExcOk K mg C x
theorem all_fn (M : ModOk K mg G C sub m q T) : ∀ k : Nat, (∀ i d f fd, T[i]? = some d → DefOk K G m q d f fd → FnOk P wd K mg base (L2.CX P wd) k f fd d.ps (spF K C d.ps.length (feN sub n T k i))) ∧ GX P wd K mg base G C sub (feN sub n T k) k
  | 0 => by
    have h0 : ∀ i d f fd, T[i]? = some d → DefOk K G m q d f fd → FnOk P wd K mg base (L2.CX P wd) 0 f fd d.ps (spF K C d.ps.length (feN sub n T 0 i)) := fun i d f fd e D => fn0_ok
    refine ⟨h0, M.bi, fun x d e => M.con _ (PySem.mem_of_lookup e), fun x i a e => ?_, M.ck, fun x hx => (M.exc x hx).ex⟩
    obtain ⟨d, f, fd, h1, h2, h3, h4⟩ := M.fns _ (PySem.mem_of_lookup e)
    exact ⟨f, fd, d.ps, h3, h2.kp, h2.bd, by rw [show a = d.ps.length from h4.symm]; exact h0 i d f fd h1 h2⟩
  | k + 1 => by
    obtain ⟨_, gx⟩ := all_fn M k
    have h0 : ∀ i d f fd, T[i]? = some d → DefOk K G m q d f fd → FnOk P wd K mg base (L2.CX P wd) (k + 1) f fd d.ps (spF K C d.ps.length (feN sub n T (k + 1) i)) := fun i d f fd e D => by
      obtain ⟨st, h4, h5, h6⟩ := D.ex
      have : feN sub n T (k + 1) i = runD (feN sub n T k) sub n d := by
        funext ds
        simp only [feN, e]
      rw [this]
      exact fn_step h4 h5 gx h6
    refine ⟨h0, M.bi, fun x d e => M.con _ (PySem.mem_of_lookup e), fun x i a e => ?_, M.ck, fun x hx => (M.exc x hx).ex⟩
    obtain ⟨d, f, fd, h1, h2, h3, h4⟩ := M.fns _ (PySem.mem_of_lookup e)
    exact ⟨f, fd, d.ps, h3, h2.kp, h2.bd, by rw [show a = d.ps.length from h4.symm]; exact h0 i d f fd h1 h2⟩
/-! ### the law -/
/-- the script, as data: it is only sliced -/
def scrD (ns : List Int) : D := .dict [(.none, .list (ns.map .int))]
/-- the law's promise, where its answer is True -/
def spL (r : List D → Res D) (K : PySem.W.Frag) : Sp := fun vs H Q _ => vs.length = 1 ∧ ∃ F ds, Same F H ∧ DqAll K F vs ds ∧ r ds = .ok (.bool true) ∧ okE K Q F H (.bool true)
theorem spL_of {r : List D → Res D} {k : Nat} {f : Addr} {fd : FuncData} {ps : List Str} (hp : ps.length = 1) (F : FnOk P wd K mg base (L2.CX P wd) k f fd ps (spF K C 1 r)) : FnOk P wd K mg base (L2.CX P wd) k f fd ps (spL r K) :=
  ⟨fun vs H Q E h => h.1.trans hp.symm, fun A outer s H args us vs Q E hr e0 hb rv ⟨hl, F0, ds, sm, qa, e, ok⟩ => F.run A outer s H args us vs Q E hr e0 hb rv ⟨hl, F0, ds, sm, qa, by rw [e]; exact ok⟩⟩
theorem dq_ints {F : Hp} : ∀ ns : List Int, DqAll K F (ns.map V.int) (ns.map .int)
  | [] => .nil
  | n :: ns => .cons (.int n) (dq_ints ns)
theorem bw_walk {l : PySem.W.OpenLaw} {q0 : Program} {loose : List Str} {XP : (Str → Option Value) → Heap → Prop} {YP : World → Heap → Prop} {d : DefRec} {K : Params → PySem.W.Frag} {x : Str} {k : Nat} {r : List D → Res D}
    (hlaw : ∀ ns : List Int, ns.length ≤ 63 → r [scrD ns] = .ok (.bool true)) (hn : l.most = some 63) (hdf : d.params.defaults = []) (hr : Room k callerA) (hY : ∀ (w : World) (h : Heap), YP w h → (K w.params).In h)
    (F : ∀ (w : World) (mg : Str → Option Value) (fa : Addr) (h : Heap), (K w.params).In h → h.Ns mainGlobals mg → mg d.name = some (.ref fa) →
      ∃ fd : FuncData, (∀ (s : Shared) (u : Value), BindsTo s fd ⟨[u], []⟩ [(x, u)]) ∧ ∀ base : Heap, (K w.params).In base → base.Ns mainGlobals mg → FnOk l.prog w (K w.params) mg base (L2.CX l.prog w) k fa fd [x] (spL r (K w.params))) :
    PySem.W.WalkO q0 loose XP YP l.row.toRowW d [] (fun f vs => PySem.call f vs) :=
  L2.walk_of (n := 63) (k := k) (x := x) (CX := fun w => L2.CX l.prog w) (sp := fun w => spL r (K w.params)) hn (by decide) hdf hr hY F
    (fun w H a ns hl _ hS => ⟨rfl, H, [scrD ns], Same.refl H, .cons (.scr hS (dq_ints ns)) .nil, hlaw ns hl, fun v H' F' x q => by cases q; rfl⟩)
    fun w H s e s' h => by
      obtain ⟨_, _, _, _, _, _, _, _, _, _, _, _, z⟩ := h
      exact z.elim
/-! ### words for the facts -/
def scB (N P : List Str) (sc : Scope) : Bool := decide (sc.kind = .function) && !sc.isCoroutine && !sc.isGenerator && decide N.Nodup && decide (N.take P.length = P) && P.all (fun x => locB sc x) && sc.names.all (fun y => !decide (y.2 = .free))
theorem scope_by {N P : List Str} {sc : Scope} (h : scB N P sc = true) : FnScope N P sc := by
  unfold scB at h
  simp only [Bool.and_eq_true, Bool.not_eq_true', decide_eq_true_eq, List.all_eq_true, decide_eq_false_iff_not] at h
  obtain ⟨⟨⟨⟨⟨⟨h1, h2⟩, h3⟩, h4⟩, h5⟩, h6⟩, h7⟩ := h
  exact ⟨h1, h2, h3, h4, h5, fun x hx => loc_of (h6 x hx), h7⟩
theorem def_mk {st : Stmt} {d : DI} {f : Addr} {oc : Value} {od an : Option Addr} {osl : Array (Option Value)} {kV doc pm cdv ct : Value}
    (l : K.lookup f = some ⟨oc, od, .func (PySem.W.fnOf d.nm d.nm (defArgs st) (defBody st) (defScope st) .none kV doc pm an cdv ct), osl⟩) (c : PySem.W.codeIn K cdv d.nm = true) (k : PySem.W.keepIn K (.ref f) = true)
    (hb : ∀ us : List Value, us.length = d.ps.length → bindArgs (PySem.W.fnOf d.nm d.nm (defArgs st) (defBody st) (defScope st) .none kV doc pm an cdv ct) ⟨us, []⟩ = pure (d.ps.zip us)) (hs : scB d.N d.ps (defScope st) = true) (hc : ckSs (ckS G d.N (defScope st) m q) (defBody st) d.body = true) :
    DefOk K G m q d f (PySem.W.fnOf d.nm d.nm (defArgs st) (defBody st) (defScope st) .none kV doc pm an cdv ct) :=
  ⟨k, .all hb, st, L2.fun_mk l c k, scope_by hs, hc⟩
theorem exm_by {c x : Addr} {b : Bool} (h1 : PySem.W.subIn K (.ref x) (.type "BaseException") = some true) (h2 : PySem.W.isClsIn K x = true) (h3 : PySem.W.typeIn K (.ref x) = some (.type "type")) (h4 : PySem.W.subIn K (.ref c) (.ref x) = some b) (h5 : c = x → b = true) :
    PySem.W.exmOne K (.ref c) (.ref x) = some b ∧ PySem.W.kitOne K (.ref c) (.ref x) = some b := by
  have e1 : (PySem.W.subIn K (.ref x) (.type "BaseException") == some true) = true := by rw [h1] <;> rfl
  have e2 : ((PySem.W.clsIn K x).isSome && PySem.W.typeIn K (.ref x) == some (.type "type")) = true := by
    have h2' : (PySem.W.clsIn K x).isSome = true := h2
    rw [h2', h3] <;> rfl
  have ek : PySem.W.kitCls K (.ref c) (.ref x) = some b := by
    show (if ((PySem.W.clsIn K x).isSome && PySem.W.typeIn K (.ref x) == some (.type "type")) = true then PySem.W.subIn K (.ref c) (.ref x) else none) = some b
    rw [if_pos e2]
    exact h4
  constructor
  · show (if (PySem.W.subIn K (.ref x) (.type "BaseException") == some true) = true then PySem.W.kitCls K (.ref c) (.ref x) else none) = some b
    rw [if_pos e1]
    exact ek
  · show (if (Value.ref c == Value.ref x) = true then some true else PySem.W.kitCls K (.ref c) (.ref x)) = some b
    by_cases e : (Value.ref c == Value.ref x) = true
    · rw [if_pos e]
      have e : Value.ref c = Value.ref x := by simpa using e
      rw [h5 (Value.ref.inj e)]
    · rw [if_neg e]
      exact ek
end
end BW

namespace BW
open PySem PySem.W L2
/-! ### words for plain laws -/
@[simp] theorem getS_0 (s : Sl) (l : Env) : getS (s :: l) 0 = s := rfl
@[simp] theorem getS_s (s : Sl) (l : Env) (i : Nat) : getS (s :: l) (i + 1) = getS l i := rfl
@[simp] theorem setS_0 (s t : Sl) (l : Env) : setS (s :: l) 0 t = t :: l := rfl
@[simp] theorem setS_s (s t : Sl) (l : Env) (i : Nat) : setS (s :: l) (i + 1) t = s :: setS l i t := rfl
@[simp] theorem sr_ok {α : Type} (a : α) (f : α → SR) : (Res.ok a).sr f = f a := rfl
@[simp] theorem nx_then (σ : Env) (f : Env → SR) : (SR.nx σ).andThen f = f σ := rfl
@[simp] theorem rt_then (d : D) (f : Env → SR) : (SR.rt d).andThen f = .rt d := rfl
@[simp] theorem ex_then (c : Str) (f : Env → SR) : (SR.ex c).andThen f = .ex c := rfl
@[simp] theorem bk_then (σ : Env) (f : Env → SR) : (SR.bk σ).andThen f = .bk σ := rfl
@[simp] theorem ct_then (σ : Env) (f : Env → SR) : (SR.ct σ).andThen f = .ct σ := rfl
@[simp] theorem ex_sr {α : Type} (c : Str) (f : α → SR) : (Res.ex c : Res α).sr f = .ex c := rfl
@[simp] theorem asBool_b (b : Bool) : asBool (.bool b) = .ok b := rfl
@[simp] theorem asInt_i (i : Int) : asInt (.int i) = .ok i := rfl
@[simp] theorem items_l (xs : List D) : items (.list xs) = some xs := rfl
@[simp] theorem items_t (xs : List D) : items (.tuple xs) = some xs := rfl
theorem feN_succ {sub : Str → Str → Option Bool} {n : Nat} {T : List DI} {k i : Nat} {d : DI} {ds : List D} (h : T[i]? = some d) : feN sub n T (k + 1) i ds = runD (feN sub n T k) sub n d ds := by
  simp only [feN, h]
theorem run_env {fe : FE} {sub : Str → Str → Option Bool} {n : Nat} {d : DI} {ds : List D} (env : Env) (hl : ds.length = d.ps.length) (he : ds.map Sl.fz ++ List.replicate (d.N.length - ds.length) .un = env) : runD fe sub n d ds = ansR (exs fe sub n d.body env) := by
  unfold runD
  rw [if_pos hl, he]
/-- a comprehension over what a list encodes -/
theorem compR_map {α : Type} {f : D → Res (Option D)} (enc : α → D) (g : α → Option D) : ∀ (L : List α), (∀ a ∈ L, f (enc a) = .ok (g a)) → compR f (L.map enc) = .ok (L.filterMap g)
  | [], _ => rfl
  | a :: L, h => by
    rw [List.map_cons, compR, h a (by simp), compR_map enc g L fun b hb => h b (by simp [hb])]
    simp only [Res.ok_bind]
    cases q : g a with
    | none => rw [List.filterMap_cons_none q]
    | some y => rw [List.filterMap_cons_some q]
theorem dcompR_map {α : Type} {f : D → Res (Option (D × D))} (enc : α → D) (g : α → Option (D × D)) : ∀ (L : List α) (acc : List (D × D)), (∀ a ∈ L, f (enc a) = .ok (g a)) → (∀ a ∈ L, ∀ q, g a = some q → (keyOf q.1).isSome = true) → acc.length + L.length ≤ 1000000 →
    dcompR f (L.map enc) acc = .ok ((L.filterMap g).foldl (fun acc q => putD acc q.1 q.2) acc)
  | [], acc, _, _, _ => rfl
  | a :: L, acc, h, hk, hz => by
    simp only [List.length_cons] at hz
    rw [List.map_cons, dcompR, h a (by simp)]
    simp only [Res.ok_bind]
    cases q : g a with
    | none =>
      rw [List.filterMap_cons_none q]
      exact dcompR_map enc g L acc (fun b hb => h b (by simp [hb])) (fun b hb => hk b (by simp [hb])) (by omega)
    | some y =>
      rw [List.filterMap_cons_some q, List.foldl_cons]
      have e1 := hk a (by simp) y q
      have e2 : sizeOk acc.length = true := by unfold sizeOk; rw [decide_eq_true_eq]; omega
      dsimp only
      rw [e1, e2]
      have hl : (putD acc y.1 y.2).length ≤ acc.length + 1 := by unfold putD; split <;> simp
      exact dcompR_map enc g L _ (fun b hb => h b (by simp [hb])) (fun b hb => hk b (by simp [hb])) (by omega)
/-- a comprehension, evaluated -/
theorem ev_comp {α : Type} {fe : FE} {elt it c : E} {tg : Tg} {own : List Nat} {σ : Env} {dx : D} (enc : α → D) (L : List α) (g : α → Option D) (hi : ev fe it σ = .ok dx) (hx : items dx = some (L.map enc)) (hz : L.length ≤ 1000000)
    (h : ∀ a ∈ L, (do
        let σ' ← bindT tg (enc a) (wipeS σ own)
        let t ← ev fe c σ'
        let b ← asBool t
        if b then do
          let y ← ev fe elt σ'
          .ok (some y)
        else .ok none) = Res.ok (g a)) : ev fe (.comp elt tg it c own) σ = .ok (.list (L.filterMap g)) := by
  simp only [ev, hi, Res.ok_bind, hx]
  rw [compR_map enc g L fun a ha => by rw [h a ha]; rfl]
  simp only [Res.ok_bind]
  have : sizeOk (L.filterMap g).length = true := by
    unfold sizeOk
    rw [decide_eq_true_eq]
    exact Nat.le_trans (List.length_filterMap_le _ _) hz
  rw [if_pos this]
/-- a for, turn by turn -/
theorem forR_inv {f : D → Env → SR} {P : Nat → Env → Prop} : ∀ (xs : List D) (i : Nat) (σ : Env), (∀ j d σ, xs[j]? = some d → P (i + j) σ → ∃ σ', f d σ = .nx σ' ∧ P (i + j + 1) σ') → P i σ → ∃ σ', forR f xs σ = .nx σ' ∧ P (i + xs.length) σ'
  | [], i, σ, _, p => ⟨σ, rfl, p⟩
  | d :: xs, i, σ, h, p => by
    obtain ⟨σ1, e1, p1⟩ := h 0 d σ rfl p
    obtain ⟨σ2, e2, p2⟩ := forR_inv xs (i + 1) σ1 (fun j d' σ' hd p' => by
      have := h (j + 1) d' σ' (by simpa using hd) (by rw [show i + (j + 1) = i + 1 + j by omega]; exact p')
      rw [show i + (j + 1) = i + 1 + j by omega] at this
      exact this) p1
    exact ⟨σ2, by unfold forR; rw [e1]; exact e2, by rw [List.length_cons, show i + (xs.length + 1) = i + 1 + xs.length by omega]; exact p2⟩
theorem forR_cons {f : D → Env → SR} {d : D} {xs : List D} {σ σ' : Env} (h : f d σ = .nx σ') : forR f (d :: xs) σ = forR f xs σ' := by
  simp only [forR, h]
theorem forR_rt {f : D → Env → SR} {d r : D} {xs : List D} {σ : Env} (h : f d σ = .rt r) : forR f (d :: xs) σ = .rt r := by
  simp only [forR, h]
/-! ### operators on ints -/
@[simp] theorem op_add_i (i j : Int) : opD .add (.int i) (.int j) = .ok (.int (i + j)) := rfl
@[simp] theorem op_sub_i (i j : Int) : opD .sub (.int i) (.int j) = .ok (.int (i - j)) := rfl
theorem op_mul_r (i j : Int) (h : smallI j = true) : opD .mul (.int i) (.int j) = .ok (.int (i * j)) := by
  show (if (smallI i || smallI j) = true then _ else _) = _
  rw [h, Bool.or_true]; rfl
theorem op_mul_l (i j : Int) (h : smallI i = true) : opD .mul (.int i) (.int j) = .ok (.int (i * j)) := by
  show (if (smallI i || smallI j) = true then _ else _) = _
  rw [h, Bool.true_or]; rfl
theorem op_mod_i (i j : Int) (h : 0 < j) : opD .mod (.int i) (.int j) = .ok (.int (i % j)) := by
  show (if decide (0 < j) = true then _ else _) = _
  rw [if_pos (by simpa using h)]
theorem op_fdiv_i (i j : Int) (h : 0 < j) (h2 : j < 1073741824) : opD .fdiv (.int i) (.int j) = .ok (.int (i / j)) := by
  show (if (decide (0 < j) && decide (j < 1073741824)) = true then _ else _) = _
  rw [if_pos (by simp [h, h2])]
@[simp] theorem b1_int (i : Int) : b1D .int (.int i) = .ok (.int i) := rfl
@[simp] theorem b1_abs (i : Int) : b1D .abs (.int i) = .ok (.int (if i < 0 then -i else i)) := rfl
@[simp] theorem b1_lenl (xs : List D) : b1D .len (.list xs) = .ok (.int xs.length) := rfl
@[simp] theorem b1_lent (xs : List D) : b1D .len (.tuple xs) = .ok (.int xs.length) := rfl
@[simp] theorem b1_tupl (xs : List D) : b1D .tuple (.list xs) = .ok (.tuple xs) := rfl
@[simp] theorem b1_tupt (xs : List D) : b1D .tuple (.tuple xs) = .ok (.tuple xs) := rfl
@[simp] theorem b1_listt (xs : List D) : b1D .list (.tuple xs) = .ok (.list xs) := rfl
@[simp] theorem b1_listl (xs : List D) : b1D .list (.list xs) = .ok (.list xs) := rfl
@[simp] theorem lt_i (i j : Int) : cmpB .lt (.int i) (.int j) = .ok (decide (i < j)) := rfl
@[simp] theorem gt_i (i j : Int) : cmpB .gt (.int i) (.int j) = .ok (decide (j < i)) := rfl
@[simp] theorem le_i (i j : Int) : cmpB .le (.int i) (.int j) = .ok (decide (i ≤ j)) := by
  show Res.ok (!decide (j < i)) = _
  congr 1
  by_cases h : j < i
  · simp [h]
  · simp [h]; omega
@[simp] theorem ge_i (i j : Int) : cmpB .ge (.int i) (.int j) = .ok (decide (j ≤ i)) := by
  show Res.ok (!decide (i < j)) = _
  congr 1
  by_cases h : i < j
  · simp [h]
  · simp [h]; omega
theorem rng1 (n : Int) (h1 : -(2 ^ 62) ≤ n) (h2 : n < 2 ^ 62) : rngD (.int 0) (.int n) (.int 1) = .ok (.list ((List.range n.toNat).map fun k => .int (k : Nat))) := by
  unfold rngD
  simp only [asInt_i, Res.ok_bind, if_true]
  rw [if_pos (by simp only [Bool.and_eq_true, decide_eq_true_eq]; omega)]
  simp
@[simp] theorem strict_0 (d : D) (l : Env) : strict (.fz d :: l) 0 = .ok d := rfl
@[simp] theorem strict_s (s : Sl) (l : Env) (i : Nat) : strict (s :: l) (i + 1) = strict l i := rfl
@[simp] theorem peek_0 (d : D) (l : Env) : peek (.fz d :: l) 0 = .ok d := rfl
@[simp] theorem peek_0l (d : List D) (l : Env) : peek (.ol d :: l) 0 = .ok (.list d) := rfl
@[simp] theorem peek_0d (d : List (D × D)) (l : Env) : peek (.od d :: l) 0 = .ok (.dict d) := rfl
@[simp] theorem peek_s (s : Sl) (l : Env) (i : Nat) : peek (s :: l) (i + 1) = peek l i := rfl
@[simp] theorem bindT_n (i : Nat) (d : D) (σ : Env) : bindT (.n i) d σ = .ok (setS σ i (.fz d)) := by unfold bindT; rfl
theorem size_ok {n : Nat} (h : n ≤ 1000000) : sizeOk n = true := by unfold sizeOk; rw [decide_eq_true_eq]; exact h
/-! ### the draws -/
def drI : List S := [
          .ite (.cmp .gt (.v 6) (.k (.int 0))) [
            .app 2 (.op .mod (.b1 .int (.v 6)) (.k (.int 1009))),
            .set 6 (.op .fdiv (.v 6) (.k (.int 1009)))] []]
def dr1 : List S := [
      .set 6 (.b1 .abs (.v 4)),
      .set 3 (.op .mod (.b1 .int (.op .add (.op .add (.op .mul (.v 3) (.k (.int 48271))) (.v 6)) (.k (.int 11)))) (.k (.int 2147483647))),
      .ite (.cmp .ge (.v 6) (.op .pow (.k (.int 10)) (.k (.int 18)))) [
        .for (.n 5) (.rng (.k (.int 0)) (.k (.int 60)) (.k (.int 1))) drI] [
        .app 2 (.op .mod (.op .fdiv (.b1 .int (.op .add (.op .mul (.v 3) (.k (.int 16807))) (.k (.int 5)))) (.k (.int 3))) (.k (.int 65521)))]]
def dr2 : List S := [
      .ite (.cmp .lt (.b1 .len (.p 2)) (.v 1)) [
        .set 3 (.op .mod (.b1 .int (.op .add (.op .add (.op .mul (.v 3) (.k (.int 69621))) (.v 5)) (.k (.int 1)))) (.k (.int 2147483647))),
        .app 2 (.op .mod (.op .fdiv (.b1 .int (.v 3)) (.k (.int 7))) (.k (.int 65521)))] []]
def dDraws : DI := ⟨"_law_draws", ["script", "many"], ["script", "many", "draws", "seed", "cell", "k", "number"], [
    .setO 2 (.lst []),
    .set 3 (.k (.int 7)),
    .for (.n 4) (.slt (.v 0) (.k (.int 63))) dr1,
    .for (.n 5) (.rng (.k (.int 0)) (.v 1) (.k (.int 1))) dr2,
    .ret (.slt (.p 2) (.v 1))]⟩
/-- the state of the draws' loops: at most n draws so far -/
def DrI (scr many : D) (n : Nat) (σ : Env) : Prop := ∃ (draws : List Int) (seed : Int) (a b c : Sl), σ = [.fz scr, .fz many, .ol (draws.map .int), .fz (.int seed), a, b, c] ∧ draws.length ≤ n ∧ ∀ d ∈ draws, 0 ≤ d ∧ d < 65521
def DrN (scr many : D) (n : Nat) (σ : Env) : Prop := ∃ (draws : List Int) (seed num : Int) (a b : Sl), σ = [.fz scr, .fz many, .ol (draws.map .int), .fz (.int seed), a, b, .fz (.int num)] ∧ draws.length ≤ n ∧ ∀ d ∈ draws, 0 ≤ d ∧ d < 65521
section
variable {fe : FE} {sub : Str → Str → Option Bool} {n : Nat}
theorem drI_ok {scr many : D} {m : Nat} (hm : m ≤ 500000) {σ : Env} {d : D} (h : DrN scr many m σ) : ∃ σ', exs fe sub n drI (setS σ 5 (.fz d)) = .nx σ' ∧ DrN scr many (m + 1) σ' := by
  obtain ⟨draws, seed, num, a, b, rfl, hl, hd⟩ := h
  by_cases c : 0 < num
  · refine ⟨_, ?_, draws ++ [num % 1009], seed, num / 1009, a, .fz d, rfl, by simp; omega, ?_⟩
    · simp [drI, exs, ex1, ev, c, op_mod_i, op_fdiv_i, size_ok (show draws.length ≤ 1000000 by omega)]
    · intro x hx
      rcases List.mem_append.mp hx with hx | hx
      · exact hd x hx
      · have : x = num % 1009 := by simpa using hx
        omega
  · exact ⟨_, by simp [drI, exs, ex1, ev, c], draws, seed, num, a, .fz d, rfl, by omega, hd⟩
theorem pow18 : opD .pow (.int 10) (.int 18) = .ok (.int 1000000000000000000) := by rfl
theorem dr1_ok {scr many : D} {m : Nat} (hm : m ≤ 400000) {σ : Env} {c : Int} (h : DrI scr many m σ) : ∃ σ', exs fe sub n dr1 (setS σ 4 (.fz (.int c))) = .nx σ' ∧ DrI scr many (m + 60) σ' := by
  obtain ⟨draws, seed, a, b, z, rfl, hl, hd⟩ := h
  by_cases big : (1000000000000000000 : Int) ≤ (if c < 0 then -c else c)
  · have r60 : rngD (.int 0) (.int 60) (.int 1) = .ok (.list ((List.range 60).map fun k => .int (k : Nat))) := rng1 60 (by decide) (by decide)
    have st : DrN scr many (m + 0) [.fz scr, .fz many, .ol (draws.map .int), .fz (.int ((seed * 48271 + (if c < 0 then -c else c) + 11) % 2147483647)), .fz (.int c), b, .fz (.int (if c < 0 then -c else c))] := ⟨draws, _, _, _, _, rfl, by omega, hd⟩
    obtain ⟨σ', e, p⟩ := forR_inv (f := fun d σ => (bindT (.n 5) d σ).sr fun σ' => exs fe sub n drI σ') (P := fun i σ => DrN scr many (m + i) σ) ((List.range 60).map fun k => .int (k : Nat)) 0 _ (fun j d σ hj hp => by
      have hjl : j < 60 := by
        have := (List.getElem?_eq_some_iff.mp hj).1
        simpa using this
      rw [show 0 + j = j by omega] at hp
      obtain ⟨σ', e, p⟩ := drI_ok (fe := fe) (sub := sub) (n := n) (by omega) (d := d) hp
      exact ⟨σ', by simpa using e, by rw [show m + (0 + j + 1) = m + j + 1 by omega]; exact p⟩) st
    obtain ⟨draws', seed', num', a', b', rfl, hl', hd'⟩ := p
    refine ⟨_, ?_, draws', seed', a', b', .fz (.int num'), rfl, by simpa using hl', hd'⟩
    simp only [bindT_n, sr_ok] at e
    simp [dr1, exs, ex1, ev, op_mul_r _ 48271 rfl, op_mod_i, pow18, big, r60, e]
  · have hs := size_ok (show draws.length ≤ 1000000 by omega)
    refine ⟨_, by simp [dr1, exs, ex1, ev, op_mul_r _ 48271 rfl, op_mul_r _ 16807 rfl, op_mod_i, op_fdiv_i, pow18, big, hs]; rfl, draws ++ [_], _, _, _, _, by simp; exact ⟨rfl, rfl, rfl, rfl, rfl⟩, by simp; omega, ?_⟩
    intro x hx
    rcases List.mem_append.mp hx with hx | hx
    · exact hd x hx
    · have hx := List.mem_singleton.mp hx
      rw [hx]
      omega
theorem dr2_ok {scr : D} {many : Int} {m i : Nat} (hm : m ≤ 500000) {σ : Env} {d : Int} (h : ∃ (draws : List Int) (seed : Int) (a b c : Sl), σ = [.fz scr, .fz (.int many), .ol (draws.map .int), .fz (.int seed), a, b, c] ∧ draws.length ≤ m ∧ (i ≤ draws.length ∨ many ≤ draws.length) ∧ ∀ d ∈ draws, 0 ≤ d ∧ d < 65521) :
    ∃ σ', exs fe sub n dr2 (setS σ 5 (.fz (.int d))) = .nx σ' ∧ ∃ (draws : List Int) (seed : Int) (a b c : Sl), σ' = [.fz scr, .fz (.int many), .ol (draws.map .int), .fz (.int seed), a, b, c] ∧ draws.length ≤ m + 1 ∧ (i + 1 ≤ draws.length ∨ many ≤ draws.length) ∧ ∀ d ∈ draws, 0 ≤ d ∧ d < 65521 := by
  obtain ⟨draws, seed, a, b, c, rfl, hl, hi, hd⟩ := h
  by_cases big : (draws.length : Int) < many
  · have hs := size_ok (show draws.length ≤ 1000000 by omega)
    refine ⟨_, by simp [dr2, exs, ex1, ev, op_mul_r _ 69621 rfl, op_mod_i, op_fdiv_i, big, hs]; rfl, draws ++ [_], _, _, _, _, by simp; exact ⟨rfl, rfl, rfl, rfl, rfl⟩, by simp; omega, .inl (by simp; omega), ?_⟩
    intro x hx
    rcases List.mem_append.mp hx with hx | hx
    · exact hd x hx
    · have hx := List.mem_singleton.mp hx
      rw [hx]
      omega
  · exact ⟨[.fz scr, .fz (.int many), .ol (draws.map .int), .fz (.int seed), a, .fz (.int d), c], by simp [dr2, exs, ex1, ev, big], draws, seed, _, _, _, rfl, by omega, .inr (by omega), hd⟩
theorem cutD_take {α : Type} (xs : List α) (k : Nat) : cutD xs none (some (k : Int)) = xs.take k := by
  unfold cutD
  rw [HT.sIx_none, HT.sIx_nat]
  simp only [List.drop_zero, Nat.sub_zero]
  by_cases h : k ≤ xs.length
  · rw [Nat.min_eq_left h]
  · rw [Nat.min_eq_right (by omega), List.take_of_length_le (Nat.le_refl _), List.take_of_length_le (by omega)]
theorem draws_a (ns : List Int) (hl : ns.length ≤ 63) (scr many : D) : ∃ (dr : List Int) (seed : Int) (a b c : Sl), forR (fun d σ => exs fe sub n dr1 (setS σ 4 (.fz d))) ((ns.take 63).map .int) [.fz scr, .fz many, .ol [], .fz (.int 7), .un, .un, .un] = .nx [.fz scr, .fz many, .ol (dr.map .int), .fz (.int seed), a, b, c] ∧ dr.length ≤ 3780 ∧ ∀ d ∈ dr, 0 ≤ d ∧ d < 65521 := by
  obtain ⟨σ1, e1, p1⟩ := forR_inv (f := fun d σ => exs fe sub n dr1 (setS σ 4 (.fz d))) (P := fun i σ => DrI scr many (i * 60) σ) ((ns.take 63).map .int) 0 [.fz scr, .fz many, .ol [], .fz (.int 7), .un, .un, .un] (fun j d σ hj hp => by
    rw [List.getElem?_map] at hj
    obtain ⟨c, hc, rfl⟩ := Option.map_eq_some_iff.mp hj
    have hjl := (List.getElem?_eq_some_iff.mp hc).1
    rw [List.length_take] at hjl
    obtain ⟨σ', e, p⟩ := dr1_ok (fe := fe) (sub := sub) (n := n) (m := (0 + j) * 60) (by omega) (c := c) hp
    exact ⟨σ', e, by rw [show (0 + j + 1) * 60 = (0 + j) * 60 + 60 by omega]; exact p⟩) ⟨[], 7, .un, .un, .un, rfl, Nat.zero_le _, fun d h => nomatch h⟩
  obtain ⟨dr, seed, a, b, c, rfl, hdl, hdd⟩ := p1
  refine ⟨dr, seed, a, b, c, e1, ?_, hdd⟩
  rw [List.length_map, List.length_take] at hdl
  omega
theorem draws_b (scr : D) (many : Nat) (hm : many ≤ 100000) (dr : List Int) (seed : Int) (a b c : Sl) (hl : dr.length ≤ 3780) (hd : ∀ d ∈ dr, 0 ≤ d ∧ d < 65521) :
    ∃ (dr' : List Int) (seed' : Int) (a' b' c' : Sl), forR (fun d σ => exs fe sub n dr2 (setS σ 5 (.fz d))) ((List.range many).map fun k => .int (k : Nat)) [.fz scr, .fz (.int many), .ol (dr.map .int), .fz (.int seed), a, b, c] = .nx [.fz scr, .fz (.int many), .ol (dr'.map .int), .fz (.int seed'), a', b', c'] ∧ many ≤ dr'.length ∧ ∀ d ∈ dr', 0 ≤ d ∧ d < 65521 := by
  obtain ⟨σ2, e2, p2⟩ := forR_inv (f := fun d σ => exs fe sub n dr2 (setS σ 5 (.fz d))) (P := fun i σ => ∃ (draws : List Int) (seed : Int) (a b c : Sl), σ = [.fz scr, .fz (.int many), .ol (draws.map .int), .fz (.int seed), a, b, c] ∧ draws.length ≤ 3780 + i ∧ (i ≤ draws.length ∨ (many : Int) ≤ draws.length) ∧ ∀ d ∈ draws, 0 ≤ d ∧ d < 65521)
    ((List.range many).map fun k => .int (k : Nat)) 0 [.fz scr, .fz (.int many), .ol (dr.map .int), .fz (.int seed), a, b, c] (fun j d σ hj hp => by
      rw [List.getElem?_map] at hj
      obtain ⟨k, hk, rfl⟩ := Option.map_eq_some_iff.mp hj
      have hjl := (List.getElem?_eq_some_iff.mp hk).1
      rw [List.length_range] at hjl
      obtain ⟨σ', e, p⟩ := dr2_ok (fe := fe) (sub := sub) (n := n) (m := 3780 + (0 + j)) (i := 0 + j) (by omega) (d := (k : Nat)) hp
      exact ⟨σ', e, p⟩) ⟨dr, seed, a, b, c, rfl, by omega, .inl (by omega), hd⟩
  obtain ⟨dr2, seed2, a2, b2, c2, rfl, hl2, hi2, hd2⟩ := p2
  refine ⟨dr2, seed2, a2, b2, c2, e2, ?_, hd2⟩
  rw [List.length_map, List.length_range] at hi2
  omega
theorem slD_scr (ns : List Int) (k : Nat) : slD (scrD ns) none (some (k : Int)) = .ok (.list ((ns.take k).map .int)) := by
  show Res.ok (PyData.list (cutD (ns.map .int) none (some (k : Int)))) = _
  rw [cutD_take, List.map_take]
theorem slD_take (xs : List D) (k : Nat) : slD (.list xs) none (some (k : Int)) = .ok (.list (xs.take k)) := by
  show Res.ok (PyData.list (cutD xs none (some (k : Int)))) = _
  rw [cutD_take]
end
end BW

namespace BW
open PySem PySem.W L2
section
variable {fe : FE} {sub : Str → Str → Option Bool} {n : Nat}
theorem draws_ok (ns : List Int) (hl : ns.length ≤ 63) (many : Nat) (hm : many ≤ 100000) : ∃ draws : List Int, runD fe sub n dDraws [scrD ns, .int many] = .ok (.list (draws.map .int)) ∧ draws.length = many ∧ ∀ d ∈ draws, 0 ≤ d ∧ d < 65521 := by
  have e0 := run_env (fe := fe) (sub := sub) (n := n) (d := dDraws) (ds := [scrD ns, .int many]) [.fz (scrD ns), .fz (.int many), .un, .un, .un, .un, .un] rfl rfl
  obtain ⟨dr, seed, a, b, c, e1, h1, h2⟩ := draws_a (fe := fe) (sub := sub) (n := n) ns hl (scrD ns) (.int many)
  obtain ⟨dr', seed', a', b', c', e2, h3, h4⟩ := draws_b (fe := fe) (sub := sub) (n := n) (scrD ns) many hm dr seed a b c h1 h2
  refine ⟨dr'.take many, ?_, by rw [List.length_take]; omega, fun d hd => h4 d (List.mem_of_mem_take hd)⟩
  have es := slD_scr ns 63
  have er := rng1 many (by omega) (by omega)
  rw [Int.toNat_natCast] at er
  have et := slD_take (dr'.map .int) many
  rw [e0]
  generalize hscr : scrD ns = scr at *
  rw [show ((63 : Nat) : Int) = 63 from rfl] at es
  simp -implicitDefEqProofs only [dDraws, exs, ex1, ev, evs, toSl, Res.ok_bind, sr_ok, setS_0, setS_s, nx_then, strict_0, strict_s, asInt_i, es, items_l, bindT_n, e1, er, e2, peek_0l, peek_s, et, rt_then]
  show Res.ok _ = _
  rw [List.map_take]
end
/-! ### comprehensions by plain lists -/
theorem ev_map {α : Type} {fe : FE} {elt it : E} {tg : Tg} {own : List Nat} {σ : Env} {dx : D} (enc : α → D) (L : List α) (h : α → D) (hi : ev fe it σ = .ok dx) (hx : items dx = some (L.map enc)) (hz : L.length ≤ 1000000)
    (hh : ∀ a ∈ L, (do let σ' ← bindT tg (enc a) (wipeS σ own); ev fe elt σ') = Res.ok (h a)) : ev fe (.comp elt tg it (.k (.bool true)) own) σ = .ok (.list (L.map h)) := by
  rw [ev_comp enc L (fun a => some (h a)) hi hx hz fun a ha => ?_]
  · rw [List.filterMap_eq_map']
  · have := hh a ha
    cases q : bindT tg (enc a) (wipeS σ own) with
    | ok σ' =>
      rw [q] at this
      simp only [Res.ok_bind] at this ⊢
      simp [ev, this]
    | ex c => rw [q] at this; cases this
    | bad => rw [q] at this; cases this
theorem fm_ite {α β : Type} (p : α → Bool) (h : α → β) : ∀ L : List α, L.filterMap (fun a => if p a = true then some (h a) else none) = (L.filter p).map h
  | [] => rfl
  | a :: L => by
    by_cases q : p a = true
    · simp [q, fm_ite p h L]
    · simp [q, fm_ite p h L]
theorem ev_filter {α : Type} {fe : FE} {elt it c : E} {tg : Tg} {own : List Nat} {σ : Env} {dx : D} (enc : α → D) (L : List α) (p : α → Bool) (h : α → D) (hi : ev fe it σ = .ok dx) (hx : items dx = some (L.map enc)) (hz : L.length ≤ 1000000)
    (hc : ∀ a ∈ L, (do let σ' ← bindT tg (enc a) (wipeS σ own); ev fe c σ') = Res.ok (.bool (p a)))
    (hh : ∀ a ∈ L, p a = true → (do let σ' ← bindT tg (enc a) (wipeS σ own); ev fe elt σ') = Res.ok (h a)) : ev fe (.comp elt tg it c own) σ = .ok (.list ((L.filter p).map h)) := by
  rw [ev_comp enc L (fun a => if p a = true then some (h a) else none) hi hx hz fun a ha => ?_]
  · rw [fm_ite]
  · have h1 := hc a ha
    have h2 := hh a ha
    cases q : bindT tg (enc a) (wipeS σ own) with
    | ok σ' =>
      rw [q] at h1 h2
      simp only [Res.ok_bind] at h1 h2 ⊢
      rw [h1]
      simp only [Res.ok_bind, asBool_b]
      by_cases z : p a = true
      · rw [z]
        simp [h2 z]
      · simp [z]
    | ex c => rw [q] at h1; cases h1
    | bad => rw [q] at h1; cases h1
theorem mapR_bools {α : Type} (p : α → Bool) : ∀ L : List α, mapR asBool (L.map fun a => .bool (p a)) = .ok (L.map p)
  | [] => rfl
  | a :: L => by simp [mapR, mapR_bools p L]
theorem b1_all {α : Type} (p : α → Bool) (L : List α) : b1D .all (.list (L.map fun a => .bool (p a))) = .ok (.bool (L.all p)) := by
  show (do let bs ← mapR asBool (L.map fun a => .bool (p a)); .ok (.bool (bs.all id)) : Res D) = _
  rw [mapR_bools]
  simp
theorem b1_any {α : Type} (p : α → Bool) (L : List α) : b1D .any (.list (L.map fun a => .bool (p a))) = .ok (.bool (L.any p)) := by
  show (do let bs ← mapR asBool (L.map fun a => .bool (p a)); .ok (.bool (bs.any id)) : Res D) = _
  rw [mapR_bools]
  simp
@[simp] theorem wipeS_nil (σ : Env) : wipeS σ [] = σ := rfl
@[simp] theorem wipeS_cons (σ : Env) (i : Nat) (r : List Nat) : wipeS σ (i :: r) = setS (wipeS σ r) i .un := rfl
/-! ### one step of the evaluator at a time (comprehensions stay closed) -/
section
variable (fe : FE) (sub : Str → Str → Option Bool) (n : Nat) (σ : Env)
@[simp] theorem e_k (d : D) : ev fe (.k d) σ = .ok d := by rw [ev]
@[simp] theorem e_v (i : Nat) : ev fe (.v i) σ = strict σ i := by rw [ev]
@[simp] theorem e_p (i : Nat) : ev fe (.p i) σ = peek σ i := by rw [ev]
@[simp] theorem e_tup (es : List E) : ev fe (.tup es) σ = (do let ds ← evs fe es σ; .ok (.tuple ds)) := by rw [ev]
@[simp] theorem e_lst (es : List E) : ev fe (.lst es) σ = (do let ds ← evs fe es σ; .ok (.list ds)) := by rw [ev]
@[simp] theorem e_nil : evs fe [] σ = .ok [] := by rw [evs]
@[simp] theorem e_cons (e : E) (es : List E) : evs fe (e :: es) σ = (do let d ← ev fe e σ; let ds ← evs fe es σ; .ok (d :: ds)) := by rw [evs]
@[simp] theorem e_op (o : Op) (a b : E) : ev fe (.op o a b) σ = (do let x ← ev fe a σ; let y ← ev fe b σ; opD o x y) := by rw [ev]
@[simp] theorem e_cmp (o : Cmp) (a b : E) : ev fe (.cmp o a b) σ = (do let x ← ev fe a σ; let y ← ev fe b σ; let r ← cmpB o x y; .ok (.bool r)) := by rw [ev]
@[simp] theorem e_ch (o q : Cmp) (a b c : E) : ev fe (.ch o q a b c) σ = (do
    let x ← ev fe a σ
    let y ← ev fe b σ
    let r ← cmpB o x y
    if r then do
      let z ← ev fe c σ
      let r' ← cmpB q y z
      .ok (.bool r')
    else .ok (.bool false)) := by rw [ev]
@[simp] theorem e_and (a b : E) : ev fe (.and a b) σ = (do let x ← ev fe a σ; let t ← asBool x; if t then ev fe b σ else .ok (.bool false)) := by rw [ev]
@[simp] theorem e_or (a b : E) : ev fe (.or a b) σ = (do let x ← ev fe a σ; let t ← asBool x; if t then .ok (.bool true) else ev fe b σ) := by rw [ev]
@[simp] theorem e_not (a : E) : ev fe (.not a) σ = (do let x ← ev fe a σ; let t ← asBool x; .ok (.bool !t)) := by rw [ev]
@[simp] theorem e_neg (a : E) : ev fe (.neg a) σ = (do let x ← ev fe a σ; let i ← asInt x; .ok (.int (-i))) := by rw [ev]
@[simp] theorem e_ite (c a b : E) : ev fe (.ite c a b) σ = (do let x ← ev fe c σ; let t ← asBool x; if t then ev fe a σ else ev fe b σ) := by rw [ev]
@[simp] theorem e_isN (a : E) : ev fe (.isN a) σ = (do let x ← ev fe a σ; .ok (.bool !(notNone x))) := by rw [ev]
@[simp] theorem e_notN (a : E) : ev fe (.notN a) σ = (do let x ← ev fe a σ; .ok (.bool (notNone x))) := by rw [ev]
@[simp] theorem e_ix (a b : E) : ev fe (.ix a b) σ = (do let x ← ev fe a σ; let y ← ev fe b σ; ixD x y) := by rw [ev]
@[simp] theorem e_slf (a l : E) : ev fe (.slf a l) σ = (do let x ← ev fe a σ; let y ← ev fe l σ; let i ← asInt y; slD x (some i) none) := by rw [ev]
@[simp] theorem e_slt (a h : E) : ev fe (.slt a h) σ = (do let x ← ev fe a σ; let z ← ev fe h σ; let j ← asInt z; slD x none (some j)) := by rw [ev]
@[simp] theorem e_slb (a l h : E) : ev fe (.slb a l h) σ = (do let x ← ev fe a σ; let y ← ev fe l σ; let i ← asInt y; let z ← ev fe h σ; let j ← asInt z; slD x (some i) (some j)) := by rw [ev]
@[simp] theorem e_rev (a : E) : ev fe (.rev a) σ = (do let x ← ev fe a σ; revD x) := by rw [ev]
@[simp] theorem e_call (f : Nat) (es : List E) : ev fe (.call f es) σ = (do let ds ← evs fe es σ; fe f ds) := by rw [ev]
@[simp] theorem e_b1 (b : B1) (a : E) : ev fe (.b1 b a) σ = (do let x ← ev fe a σ; b1D b x) := by rw [ev]
@[simp] theorem e_b2 (b : B2) (a c : E) : ev fe (.b2 b a c) σ = (do let x ← ev fe a σ; let y ← ev fe c σ; b2D b x y) := by rw [ev]
@[simp] theorem e_isi (a : E) (ts : List Ty) : ev fe (.isi a ts) σ = (do let x ← ev fe a σ; if okD x then .ok (.bool (ts.any fun t => tyD t x)) else .bad) := by rw [ev]
@[simp] theorem e_rng (a b c : E) : ev fe (.rng a b c) σ = (do let x ← ev fe a σ; let y ← ev fe b σ; let z ← ev fe c σ; rngD x y z) := by rw [ev]
@[simp] theorem e_dnil : ev fe .dnil σ = .ok (.dict []) := by rw [ev]
theorem e_enm {a : E} {xs : List D} {x : D} (h : ev fe a σ = .ok x) (hx : items x = some xs) : ev fe (.enm a) σ = .ok (.list (enumD 0 xs)) := by
  rw [ev, h]
  simp only [Res.ok_bind, hx]
theorem e_zipT {a b : E} {xs ys : List D} (h : ev fe a σ = .ok (.tuple xs)) (h2 : ev fe b σ = .ok (.tuple ys)) : ev fe (.zip a b) σ = .ok (.list (zipD xs ys)) := by
  rw [ev, h, h2]
  rfl
theorem e_zipL {a b : E} {xs ys : List D} (h : ev fe a σ = .ok (.list xs)) (h2 : ev fe b σ = .ok (.list ys)) : ev fe (.zip a b) σ = .ok (.list (zipD xs ys)) := by
  rw [ev, h, h2]
  rfl
@[simp] theorem x_nil : exs fe sub n [] σ = .nx σ := by rw [exs]
@[simp] theorem x_cons (s : S) (r : List S) : exs fe sub n (s :: r) σ = (ex1 fe sub n s σ).andThen (exs fe sub n r) := by rw [exs]
@[simp] theorem x_set (i : Nat) (e : E) : ex1 fe sub n (.set i e) σ = (ev fe e σ).sr fun d => .nx (setS σ i (.fz d)) := by rw [ex1]
@[simp] theorem x_setO (i : Nat) (e : E) : ex1 fe sub n (.setO i e) σ = (ev fe e σ).sr fun d => (toSl true d).sr fun s => .nx (setS σ i s) := by rw [ex1]
@[simp] theorem x_unp (T : Tg) (e : E) : ex1 fe sub n (.unp T e) σ = (ev fe e σ).sr fun d => (bindT T d σ).sr .nx := by rw [ex1]
@[simp] theorem x_xp (e : E) : ex1 fe sub n (.xp e) σ = (ev fe e σ).sr fun _ => .nx σ := by rw [ex1]
@[simp] theorem x_ret (e : E) : ex1 fe sub n (.ret e) σ = (ev fe e σ).sr .rt := by rw [ex1]
@[simp] theorem x_raise (c : Str) : ex1 fe sub n (.raise c) σ = .ex c := by rw [ex1]
@[simp] theorem x_ite (c : E) (a b : List S) : ex1 fe sub n (.ite c a b) σ = (ev fe c σ).sr fun d => (asBool d).sr fun t => if t then exs fe sub n a σ else exs fe sub n b σ := by rw [ex1]
theorem x_for {T : Tg} {it : E} {b : List S} {x : D} {xs : List D} (h : ev fe it σ = .ok x) (hx : items x = some xs) : ex1 fe sub n (.for T it b) σ = forR (fun d σ => (bindT T d σ).sr fun σ' => exs fe sub n b σ') xs σ := by
  rw [ex1, h]
  simp only [sr_ok, hx]
@[simp] theorem x_app {i : Nat} {e : E} : ex1 fe sub n (.app i e) σ = (match getS σ i with | .ol ds => (ev fe e σ).sr fun d => if sizeOk ds.length then .nx (setS σ i (.ol (ds ++ [d]))) else .bad | _ => .bad) := by rw [ex1]; all_goals rfl
@[simp] theorem x_tr (b : List S) (hs : List (Str × HR)) : ex1 fe sub n (.tr b hs) σ = tryR sub hs (exs fe sub n b σ) := by rw [ex1]
@[simp] theorem x_brk : ex1 fe sub n .brk σ = .bk σ := by rw [ex1]
@[simp] theorem x_cnt : ex1 fe sub n .cnt σ = .ct σ := by rw [ex1]
@[simp] theorem x_pass : ex1 fe sub n .pass σ = .nx σ := by rw [ex1]
end
/-! ### data: plain, not deep -/
theorem plainAll_map {α : Type} {f : α → D} : ∀ {L : List α}, (∀ a ∈ L, (f a).plain = true) → PyData.plainAll (L.map f) = true
  | [], _ => rfl
  | a :: L, h => by
    simp only [List.map_cons, PyData.plainAll, Bool.and_eq_true]
    exact ⟨h a (by simp), plainAll_map fun b hb => h b (by simp [hb])⟩
theorem depthAll_map {α : Type} {f : α → D} {m : Nat} : ∀ {L : List α}, (∀ a ∈ L, (f a).depth ≤ m) → PyData.depthAll (L.map f) ≤ m
  | [], _ => Nat.zero_le _
  | a :: L, h => by
    simp only [List.map_cons, PyData.depthAll]
    exact Nat.max_le.mpr ⟨h a (by simp), depthAll_map fun b hb => h b (by simp [hb])⟩
/-- plain, at most m deep -/
def Sm (m : Nat) (d : D) : Prop := d.plain = true ∧ d.depth ≤ m
theorem Sm.sm {m : Nat} {d : D} (h : Sm m d) (hm : m ≤ 60) : sm d = true := by
  unfold BW.sm
  rw [h.1, Bool.true_and, decide_eq_true_eq]
  exact Nat.le_trans h.2 hm
theorem Sm.int (i : Int) : Sm 0 (.int i) := ⟨rfl, Nat.le_refl _⟩
theorem Sm.str (x : Str) : Sm 0 (.str x) := ⟨rfl, Nat.le_refl _⟩
theorem Sm.bool (x : Bool) : Sm 0 (.bool x) := ⟨rfl, Nat.le_refl _⟩
theorem Sm.none : Sm 0 .none := ⟨rfl, Nat.le_refl _⟩
theorem Sm.le {m k : Nat} {d : D} (h : Sm m d) (hm : m ≤ k) : Sm k d := ⟨h.1, Nat.le_trans h.2 hm⟩
theorem Sm.list {α : Type} {f : α → D} {m : Nat} {L : List α} (h : ∀ a ∈ L, Sm m (f a)) : Sm (m + 1) (.list (L.map f)) := by
  refine ⟨?_, ?_⟩
  · rw [PyData.plain]; exact plainAll_map fun a ha => (h a ha).1
  · rw [PyData.depth]; exact Nat.succ_le_succ (depthAll_map fun a ha => (h a ha).2)
theorem Sm.tup {α : Type} {f : α → D} {m : Nat} {L : List α} (h : ∀ a ∈ L, Sm m (f a)) : Sm (m + 1) (.tuple (L.map f)) := by
  refine ⟨?_, ?_⟩
  · rw [PyData.plain]; exact plainAll_map fun a ha => (h a ha).1
  · rw [PyData.depth]; exact Nat.succ_le_succ (depthAll_map fun a ha => (h a ha).2)
theorem Sm.tuple2 {m : Nat} {a b : D} (h1 : Sm m a) (h2 : Sm m b) : Sm (m + 1) (.tuple [a, b]) := Sm.tup (f := id) (L := [a, b]) fun x hx => by
  rcases List.mem_cons.mp hx with rfl | hx
  · exact h1
  · rw [List.mem_singleton.mp hx]; exact h2
theorem eq_self {m : Nat} {d : D} (h : Sm m d) (hm : m ≤ 60) : cmpB .eq d d = .ok true := by
  show (if (sm d && sm d) = true then _ else _) = _
  rw [h.sm hm, Bool.and_self, if_pos rfl, SeqAt.eqv_refl_plain d h.1]
theorem ne_self {m : Nat} {d : D} (h : Sm m d) (hm : m ≤ 60) : cmpB .ne d d = .ok false := by
  show (if (sm d && sm d) = true then _ else _) = _
  rw [h.sm hm, Bool.and_self, if_pos rfl, SeqAt.eqv_refl_plain d h.1]
  rfl
theorem eq_i (i j : Int) : cmpB .eq (.int i) (.int j) = .ok (decide (i = j)) := by
  show Res.ok (i == j) = Res.ok (decide (i = j))
  congr 1
theorem in_ints {x : D} {ns : List Int} (l : Int) (hx : items x = some (ns.map .int)) : cmpB .isin (.int l) x = .ok (ns.contains l) := by
  show inD (.int l) x = _
  unfold inD
  rw [hx]
  dsimp only
  rw [if_pos (by rw [(Sm.int l).sm (by decide), (Sm.list (f := PyData.int) (L := ns) fun a _ => Sm.int a).sm (by decide)]; rfl)]
  congr 1
  induction ns generalizing x with
  | nil => rfl
  | cons a ns ih =>
    simp only [List.map_cons, List.any_cons, List.contains_cons]
    rw [ih (x := .list (ns.map .int)) rfl]
    congr 1
    show (a == l) = (l == a)
    by_cases h : a = l
    · rw [h]
    · rw [beq_eq_false_iff_ne.mpr h, beq_eq_false_iff_ne.mpr (Ne.symm h)]
theorem notin_ints {x : D} {ns : List Int} (l : Int) (hx : items x = some (ns.map .int)) : cmpB .notin (.int l) x = .ok (!ns.contains l) := by
  have h := in_ints l hx
  show (do let r ← inD (.int l) x; .ok !r : Res Bool) = _
  rw [show inD (.int l) x = .ok (ns.contains l) from h]
  rfl
theorem comp_ints (ns : List Int) : (comparable (ns.map .int) && (ns.map PyData.int).all notNone) = true := by
  unfold comparable
  rw [Bool.and_eq_true, Bool.and_eq_true]
  refine ⟨⟨?_, (Sm.list (f := PyData.int) (L := ns) fun a _ => Sm.int a).sm (by decide)⟩, ?_⟩
  · rw [List.all_eq_true]
    intro a ha
    rw [List.all_eq_true]
    intro b hb
    obtain ⟨i, _, rfl⟩ := List.mem_map.mp ha
    obtain ⟨j, _, rfl⟩ := List.mem_map.mp hb
    rfl
  · rw [List.all_eq_true]
    intro a ha
    obtain ⟨i, _, rfl⟩ := List.mem_map.mp ha
    rfl
theorem min_ints {x : D} {n : Int} {ns : List Int} (hx : items x = some ((n :: ns).map .int)) : b1D .min x = .ok (.int (ns.foldl min n)) := by
  have h := comp_ints (n :: ns)
  have e : (if (comparable ((n :: ns).map .int) && ((n :: ns).map PyData.int).all notNone) = true then Res.ok (minD (.int n) (ns.map .int)) else .bad) = .ok (.int (ns.foldl min n)) := by rw [if_pos h, minD_ints]
  rcases items_list hx with rfl | rfl <;> exact e
theorem max_ints {x : D} {n : Int} {ns : List Int} (hx : items x = some ((n :: ns).map .int)) : b1D .max x = .ok (.int (ns.foldl max n)) := by
  have h := comp_ints (n :: ns)
  have e : (if (comparable ((n :: ns).map .int) && ((n :: ns).map PyData.int).all notNone) = true then Res.ok (maxD (.int n) (ns.map .int)) else .bad) = .ok (.int (ns.foldl max n)) := by rw [if_pos h, maxD_ints]
  rcases items_list hx with rfl | rfl <;> exact e
/-! ### dicts, sorted ints -/
theorem ev_dmap {α : Type} {fe : FE} {kx vx it : E} {tg : Tg} {own : List Nat} {σ : Env} {dx : D} (enc : α → D) (L : List α) (hk hv : α → D) (hi : ev fe it σ = .ok dx) (hx : items dx = some (L.map enc)) (hz : L.length ≤ 1000000) (hok : ∀ a ∈ L, (keyOf (hk a)).isSome = true)
    (h1 : ∀ a ∈ L, (do let σ' ← bindT tg (enc a) (wipeS σ own); ev fe kx σ') = Res.ok (hk a)) (h2 : ∀ a ∈ L, (do let σ' ← bindT tg (enc a) (wipeS σ own); ev fe vx σ') = Res.ok (hv a)) :
    ev fe (.dcomp kx vx tg it (.k (.bool true)) own) σ = .ok (.dict (mergeD [] (L.map fun a => (hk a, hv a)))) := by
  simp only [ev, hi, Res.ok_bind, hx]
  rw [dcompR_map enc (fun a => some (hk a, hv a)) L [] (fun a ha => ?_) (fun a ha q hq => by cases hq; exact hok a ha) (by simpa using hz)]
  · rw [List.filterMap_eq_map']
    rfl
  · have g1 := h1 a ha
    have g2 := h2 a ha
    cases q : bindT tg (enc a) (wipeS σ own) with
    | ok σ' =>
      rw [q] at g1 g2
      simp only [Res.ok_bind] at g1 g2 ⊢
      simp [g1, g2]
    | ex c => rw [q] at g1; cases g1
    | bad => rw [q] at g1; cases g1
@[simp] theorem x_upd (fe : FE) (sub : Str → Str → Option Bool) (n : Nat) (σ : Env) (i : Nat) (e : E) : ex1 fe sub n (.upd i e) σ = (match getS σ i with
    | .od kvs => (ev fe e σ).sr fun d => match d with
      | .dict js => if okKeys js && sizeOk (kvs.length + js.length) then .nx (setS σ i (.od (mergeD kvs js))) else .bad
      | _ => .bad
    | _ => .bad) := by rw [ex1]; all_goals rfl
theorem sortD_ints (ns : List Int) : sortD (ns.map .int) = (ns.mergeSort (fun a b => decide (a ≤ b))).map .int := by
  unfold sortD
  symm
  apply List.map_mergeSort
  intro a _ b _
  have h := congrFun (congrFun (dataLe_int (β := Int) fun b => b) a) b
  exact h.symm
theorem sortable_ints {ns : List Int} (hz : ns.length ≤ 1000000) : sortable (ns.map .int) = true := by
  unfold sortable
  rw [Bool.and_eq_true, Bool.and_eq_true]
  refine ⟨⟨(Bool.and_eq_true_iff.mp (comp_ints ns)).1, by rw [List.length_map]; exact size_ok hz⟩, ?_⟩
  rw [Bool.or_eq_true]
  right
  rw [List.all_eq_true]
  intro a ha
  obtain ⟨i, _, rfl⟩ := List.mem_map.mp ha
  rfl
/-- a dict of ints, each with the same value -/
def intKv (v : D) (ks : List Int) : List (D × D) := ks.map fun i => (.int i, v)
def addI (ks : List Int) (i : Int) : List Int := if ks.contains i then ks else ks ++ [i]
theorem putD_int (v : D) (ks : List Int) (i : Int) : putD (intKv v ks) (.int i) v = intKv v (addI ks i) := by
  have h : ((intKv v ks).any fun q => PyData.eqv q.1 (.int i)) = ks.contains i := by
    induction ks with
    | nil => rfl
    | cons k ks ih =>
      simp only [intKv, List.map_cons, List.any_cons, List.contains_cons] at ih ⊢
      rw [ih]
      congr 1
      show (k == i) = (i == k)
      by_cases h : k = i
      · rw [h]
      · rw [beq_eq_false_iff_ne.mpr h, beq_eq_false_iff_ne.mpr (Ne.symm h)]
  unfold putD addI
  rw [h]
  by_cases c : ks.contains i = true
  · rw [if_pos c, if_pos c]
    unfold intKv
    rw [List.map_map]
    apply List.map_congr_left
    intro k _
    simp only [Function.comp]
    split <;> rfl
  · rw [if_neg c, if_neg c]
    simp [intKv]
theorem mergeD_int (v : D) : ∀ (js ks : List Int), mergeD (intKv v ks) (intKv v js) = intKv v (js.foldl addI ks)
  | [], _ => rfl
  | j :: js, ks => by
    have ih := mergeD_int v js (addI ks j)
    unfold mergeD at ih ⊢
    simp only [intKv, List.map_cons, List.foldl_cons] at ih ⊢
    rw [← ih]
    congr 1
    exact putD_int v ks j
theorem mem_addI {ks : List Int} {i k : Int} : k ∈ addI ks i ↔ k ∈ ks ∨ k = i := by
  unfold addI
  by_cases c : ks.contains i = true
  · rw [if_pos c]
    constructor
    · exact .inl
    · rintro (h | rfl)
      · exact h
      · simpa using c
  · rw [if_neg c]
    simp
theorem mem_foldI {k : Int} : ∀ {js ks : List Int}, k ∈ js.foldl addI ks ↔ k ∈ ks ∨ k ∈ js
  | [], ks => by simp
  | j :: js, ks => by rw [List.foldl_cons, mem_foldI, mem_addI, List.mem_cons, or_assoc]
theorem nodup_addI {ks : List Int} {i : Int} (h : ks.Nodup) : (addI ks i).Nodup := by
  unfold addI
  by_cases c : ks.contains i = true
  · rw [if_pos c]; exact h
  · rw [if_neg c]
    rw [List.nodup_append]
    refine ⟨h, by simp, fun a ha b hb => ?_⟩
    rw [List.mem_singleton.mp hb]
    rintro rfl
    exact c (by simpa using ha)
theorem nodup_foldI : ∀ {js ks : List Int}, ks.Nodup → (js.foldl addI ks).Nodup
  | [], _, h => h
  | j :: js, ks, h => by
    rw [List.foldl_cons]
    exact nodup_foldI (js := js) (nodup_addI h)
theorem len_addI (ks : List Int) (i : Int) : (addI ks i).length ≤ ks.length + 1 := by
  unfold addI
  split <;> simp
theorem len_foldI : ∀ (js ks : List Int), (js.foldl addI ks).length ≤ ks.length + js.length
  | [], _ => Nat.le_refl _
  | j :: js, ks => by
    have h1 := len_foldI js (addI ks j)
    have h2 := len_addI ks j
    simp only [List.foldl_cons, List.length_cons]
    omega
theorem okKeys_int (v : D) (ks : List Int) : okKeys (intKv v ks) = true := by
  unfold okKeys intKv
  rw [List.all_eq_true]
  intro q hq
  obtain ⟨i, _, rfl⟩ := List.mem_map.mp hq
  rfl
/-- sorted(a dict of ints), the keys each once -/
theorem sorted_kv (v : D) {ks : List Int} (h : ks.Nodup) (hz : ks.length ≤ 1000000) : b1D .sorted (.dict (intKv v ks)) = .ok (.list ((setI ks).map .int)) := by
  have e : (intKv v ks).map (·.1) = ks.map .int := by simp [intKv]
  show (if (okKeys (intKv v ks) && sortable ((intKv v ks).map (·.1))) = true then Res.ok (PyData.list (sortD ((intKv v ks).map (·.1)))) else .bad) = _
  rw [e, okKeys_int, sortable_ints hz, Bool.and_self, if_pos rfl, sortD_ints]
  congr 3
  refine asc_unique ?_ (setI_sorted ks) fun k => by rw [(List.mergeSort_perm _ _).mem_iff, setI_mem]
  have h1 := List.pairwise_mergeSort (le := fun a b : Int => decide (a ≤ b)) (fun a b c h1 h2 => by simp only [decide_eq_true_eq] at *; omega) (fun a b => by simp only [Bool.or_eq_true, decide_eq_true_eq]; omega) ks
  have h2 : (ks.mergeSort (fun a b => decide (a ≤ b))).Pairwise (· ≠ ·) := (List.mergeSort_perm ks _).nodup_iff.mpr h
  exact h1.imp₂ (fun a b h z => by simp only [decide_eq_true_eq] at h; omega) h2
@[simp] theorem x_ext (fe : FE) (sub : Str → Str → Option Bool) (n : Nat) (σ : Env) (i : Nat) (e : E) : ex1 fe sub n (.ext i e) σ = (match getS σ i with
    | .ol ds => (ev fe e σ).sr fun d => match d with
      | .list xs => if sizeOk (ds.length + xs.length) then .nx (setS σ i (.ol (ds ++ xs))) else .bad
      | _ => .bad
    | _ => .bad) := by rw [ex1]; all_goals rfl
theorem eraseDups_len : ∀ (l : List Int), l.eraseDups.length ≤ l.length
  | [] => by simp
  | a :: l => by
    rw [List.eraseDups_cons]
    simp only [List.length_cons]
    exact Nat.succ_le_succ (Nat.le_trans (eraseDups_len _) (List.length_filter_le _ _))
termination_by l => l.length
decreasing_by simp only [List.length_cons]; exact Nat.lt_succ_of_le (List.length_filter_le _ _)
theorem setI_len (ns : List Int) : (setI ns).length ≤ ns.length := by
  rw [(setI_perm ns).length_eq]
  exact eraseDups_len ns
theorem dataLt_row (a b : List Int) : dataLt (.tuple (a.map .int)) (.tuple (b.map .int)) = decide (a < b) := by
  rw [dataLt_tuple]
  exact dataLt_ints a b
end BW

namespace BW
open PySem PySem.W L2
/-! ### loops and comprehensions, by name -/
section
variable (fe : FE) (sub : Str → Str → Option Bool) (n : Nat) (σ : Env)
def forB (T : Tg) (b : List S) : D → Env → SR := fun d σ => (bindT T d σ).sr fun σ' => exs fe sub n b σ'
@[simp] theorem x_forB (T : Tg) (it : E) (b : List S) : ex1 fe sub n (.for T it b) σ = (ev fe it σ).sr fun x => match items x with | none => .bad | some xs => forR (forB fe sub n T b) xs σ := by rw [ex1]; all_goals rfl
def compG (elt : E) (tg : Tg) (c : E) (own : List Nat) (σ : Env) (d : D) : Res (Option D) := (do
  let σ' ← bindT tg d (wipeS σ own)
  let t ← ev fe c σ'
  let b ← asBool t
  if b then do
    let y ← ev fe elt σ'
    .ok (some y)
  else .ok none : Res (Option D)).quiet
@[simp] theorem e_comp (elt it c : E) (tg : Tg) (own : List Nat) : ev fe (.comp elt tg it c own) σ = (do
    let x ← ev fe it σ
    match items x with
    | none => .bad
    | some xs => do
      let ys ← compR (compG fe elt tg c own σ) xs
      if sizeOk ys.length then .ok (.list ys) else .bad) := by rw [ev]; all_goals rfl
def dcompG (kx vx : E) (tg : Tg) (c : E) (own : List Nat) (σ : Env) (d : D) : Res (Option (D × D)) := (do
  let σ' ← bindT tg d (wipeS σ own)
  let t ← ev fe c σ'
  let b ← asBool t
  if b then do
    let y ← ev fe kx σ'
    let z ← ev fe vx σ'
    .ok (some (y, z))
  else .ok none : Res (Option (D × D))).quiet
@[simp] theorem e_dcomp (kx vx it c : E) (tg : Tg) (own : List Nat) : ev fe (.dcomp kx vx tg it c own) σ = (do
    let x ← ev fe it σ
    match items x with
    | none => .bad
    | some xs => do
      let ys ← dcompR (dcompG fe kx vx tg c own σ) xs []
      .ok (.dict ys)) := by rw [ev]; all_goals rfl
@[simp] theorem e_enm' (a : E) : ev fe (.enm a) σ = (do let x ← ev fe a σ; match items x with | some xs => .ok (.list (enumD 0 xs)) | none => .bad) := by rw [ev]; all_goals rfl
@[simp] theorem e_zip' (a b : E) : ev fe (.zip a b) σ = (do let x ← ev fe a σ; let y ← ev fe b σ; match x, y with | .list xs, .list ys => .ok (.list (zipD xs ys)) | .tuple xs, .tuple ys => .ok (.list (zipD xs ys)) | _, _ => .bad) := by rw [ev]; all_goals rfl
@[simp] theorem e_rl (t : Bool) (a b : E) : ev fe (.rl t a b) σ = (do let x ← ev fe a σ; let y ← ev fe b σ; rlD t x y) := by rw [ev]
@[simp] theorem e_idx (a b : E) : ev fe (.idx a b) σ = (do let x ← ev fe a σ; let xs ← asL x; let y ← ev fe b σ; idxD xs y) := by rw [ev]
@[simp] theorem e_join (a : Str) (b : E) : ev fe (.join a b) σ = (do let y ← ev fe b σ; joinD a y) := by rw [ev]
@[simp] theorem x_fr (i : Nat) : ex1 fe sub n (.fr i) σ = (match getS σ i with | .ol ds => .nx (setS σ i (.fz (.list ds))) | .od kvs => .nx (setS σ i (.fz (.dict kvs))) | _ => .nx σ) := by rw [ex1]; all_goals rfl
@[simp] theorem x_wipe (is : List Nat) : ex1 fe sub n (.wipe is) σ = .nx (wipeS σ is) := by rw [ex1]
@[simp] theorem x_par (is : List (Nat × Bool)) (es : List E) : ex1 fe sub n (.par is es) σ = (evP fe is es σ).sr fun ds => (parR is ds σ).sr .nx := by rw [ex1]
@[simp] theorem evP_nil (r : List (Nat × Bool)) : evP fe r [] σ = .ok [] := by cases r <;> rfl
@[simp] theorem evP_f (i : Nat) (r : List (Nat × Bool)) (e : E) (es : List E) : evP fe ((i, false) :: r) (e :: es) σ = (do let d ← ev fe e σ; let ds ← evP fe r es σ; .ok (d :: ds)) := rfl
@[simp] theorem evP_t (i : Nat) (r : List (Nat × Bool)) (e : E) (es : List E) : evP fe ((i, true) :: r) (e :: es) σ = (do let d ← (ev fe e σ >>= freshD); let ds ← evP fe r es σ; .ok (d :: ds)) := rfl
@[simp] theorem parR_nil : parR [] [] σ = .ok σ := rfl
@[simp] theorem parR_f (i : Nat) (r : List (Nat × Bool)) (d : D) (ds : List D) : parR ((i, false) :: r) (d :: ds) σ = parR r ds (setS σ i (.fz d)) := rfl
@[simp] theorem parR_t (i : Nat) (r : List (Nat × Bool)) (d : List D) (ds : List D) : parR ((i, true) :: r) (.list d :: ds) σ = parR r ds (setS σ i (.ol d)) := rfl
def augD (o : Op) (x y : D) : Res D := match x, y with
  | .int i, .int j => if augOk o then opD o (.int i) (.int j) else .bad
  | _, _ => .bad
@[simp] theorem x_aug (i : Nat) (o : Op) (e : E) : ex1 fe sub n (.aug i o e) σ = (strict σ i).sr fun x => (ev fe e σ).sr fun y => (augD o x y).sr fun d => .nx (setS σ i (.fz d)) := by
  rw [ex1]
  cases strict σ i with
  | ex c => rfl
  | bad => rfl
  | ok x =>
    cases ev fe e σ with
    | ex c => rfl
    | bad => rfl
    | ok y =>
      simp only [sr_ok, augD]
      cases x <;> cases y <;> first | rfl | (dsimp only; split <;> rfl)
@[simp] theorem augD_add (i j : Int) : augD .add (.int i) (.int j) = .ok (.int (i + j)) := rfl
@[simp] theorem augD_sub (i j : Int) : augD .sub (.int i) (.int j) = .ok (.int (i - j)) := rfl
def whC (c : E) : Env → Res Bool := fun σ => do let d ← ev fe c σ; asBool d
def whB (b : List S) : Env → SR := fun σ => exs fe sub n b σ
@[simp] theorem x_while (c : E) (b : List S) : ex1 fe sub n (.while c b) σ = whileR (whC fe c) (whB fe sub n b) n σ := by rw [ex1]; all_goals rfl
def setixS (σ : Env) (i : Nat) (s : Sl) (j d : D) : SR := match s with
  | .ol ds => (asInt j).sr fun k => match listIx ds k with
    | some m => .nx (setS σ i (.ol (ds.set m d)))
    | none => .bad
  | .od kvs => match keyOf j with
    | some _ => if sizeOk kvs.length then .nx (setS σ i (.od (putD kvs j d))) else .bad
    | none => .bad
  | _ => .bad
@[simp] theorem x_setix (i : Nat) (x e : E) : ex1 fe sub n (.setix i x e) σ = (match getS σ i with
    | .ol ds => (ev fe e σ).sr fun d => (ev fe x σ).sr fun j => setixS σ i (.ol ds) j d
    | .od kvs => (ev fe e σ).sr fun d => (ev fe x σ).sr fun j => setixS σ i (.od kvs) j d
    | _ => .bad) := by
  rw [ex1]
  all_goals (cases getS σ i <;> rfl)
@[simp] theorem setixS_nat (i : Nat) (ds : List D) (k : Nat) (d : D) (h : k < ds.length) : setixS σ i (.ol ds) (.int (k : Int)) d = .nx (setS σ i (.ol (ds.set k d))) := by
  show (match listIx ds (k : Int) with | some m => SR.nx (setS σ i (.ol (ds.set m d))) | none => .bad) = _
  have : listIx ds (k : Int) = some k := by
    unfold listIx ixN
    rw [if_pos (by omega), if_pos (by omega), Int.toNat_natCast]
  rw [this]
@[simp] theorem x_extS (i : Nat) (e : E) : ex1 fe sub n (.ext i e) σ = (match getS σ i with
    | .ol ds => (ev fe e σ).sr fun d => match d with
      | .list xs => if sizeOk (ds.length + xs.length) then .nx (setS σ i (.ol (ds ++ xs))) else .bad
      | _ => .bad
    | _ => .bad) := by
  rw [ex1]
  all_goals (cases getS σ i <;> rfl)
@[simp] theorem x_pop (j i : Nat) : ex1 fe sub n (.pop j i) σ = (match getS σ i with
    | .ol ds => (match ds[ds.length - 1]? with
      | some d => .nx (setS (setS σ i (.ol ds.dropLast)) j (.fz d))
      | none => .bad)
    | _ => .bad) := by
  rw [ex1]
  all_goals (cases getS σ i <;> rfl)
@[simp] theorem x_augix (i : Nat) (x : E) (o : Op) (e : E) : ex1 fe sub n (.augix i x o e) σ = (match getS σ i with
    | .ol ds => (ev fe x σ).sr fun j => (asInt j).sr fun k => (match listIx ds k with
      | some m => augIx (ev fe e) o σ i ds m
      | none => .bad)
    | _ => .bad) := by
  rw [ex1]
  all_goals (cases getS σ i <;> rfl)
end
@[simp] theorem compR_nil {α β : Type} (f : α → Res (Option β)) : compR f [] = .ok [] := rfl
theorem compR_congr {α β : Type} {f g : α → Res (Option β)} : ∀ {L : List α}, (∀ a ∈ L, f a = g a) → compR f L = compR g L
  | [], _ => rfl
  | a :: L, h => by rw [compR, compR, h a (by simp), compR_congr fun b hb => h b (by simp [hb])]
@[simp] theorem compR_mapL {α β γ : Type} (f : β → Res (Option γ)) (enc : α → β) : ∀ L : List α, compR f (L.map enc) = compR (fun a => f (enc a)) L
  | [] => rfl
  | a :: L => by rw [List.map_cons, compR, compR, compR_mapL f enc L]
theorem compR_ok {α β : Type} {f : α → Res (Option β)} {L : List α} {g : α → β} (h : ∀ a ∈ L, f a = .ok (some (g a))) : compR f L = .ok (L.map g) := by
  rw [compR_congr h]
  induction L with
  | nil => rfl
  | cons a L ih => rw [compR, ih fun b hb => h b (by simp [hb])]; rfl
theorem compR_okf {α β : Type} {f : α → Res (Option β)} {L : List α} {p : α → Bool} {g : α → β} (h : ∀ a ∈ L, f a = .ok (if p a then some (g a) else none)) : compR f L = .ok ((L.filter p).map g) := by
  rw [compR_congr h]
  induction L with
  | nil => rfl
  | cons a L ih =>
    rw [compR, ih fun b hb => h b (by simp [hb])]
    by_cases q : p a = true <;> simp [q]
theorem zipD_map {α β : Type} (f : α → D) (g : β → D) : ∀ (a : List α) (b : List β), zipD (a.map f) (b.map g) = (a.zip b).map fun p => .tuple [f p.1, g p.2]
  | [], _ => by simp [zipD]
  | _ :: _, [] => by simp [zipD]
  | x :: a, y :: b => by simp [zipD, zipD_map f g a b]
theorem zipD_tail {α : Type} (f : α → D) (a : List α) : zipD (a.map f) (a.map f).tail = (a.zip a.tail).map fun p => .tuple [f p.1, f p.2] := by
  rw [← List.map_tail, zipD_map]
theorem cut_drop {α : Type} (xs : List α) : cutD xs (some 1) none = xs.tail := by
  rw [← List.drop_one]
  show cutD xs (some ((1 : Nat) : Int)) none = _
  unfold cutD
  rw [HT.sIx_nat, HT.sIx_none]
  cases xs with
  | nil => rfl
  | cons a r => rw [show min 1 (a :: r).length = 1 by simp]; exact List.take_of_length_le (by simp)
theorem cutD_drop {α : Type} (xs : List α) (k : Nat) : cutD xs (some (k : Int)) none = xs.drop k := by
  unfold cutD
  rw [HT.sIx_nat, HT.sIx_none]
  by_cases h : k ≤ xs.length
  · rw [Nat.min_eq_left h]; exact List.take_of_length_le (by simp)
  · rw [Nat.min_eq_right (by omega), List.drop_of_length_le (Nat.le_refl _), List.drop_of_length_le (by omega)]; simp
theorem slT_take (xs : List D) (k : Nat) : slD (.tuple xs) none (some (k : Int)) = .ok (.tuple (xs.take k)) := by
  show Res.ok (PyData.tuple (cutD xs none (some (k : Int)))) = _
  rw [cutD_take]
theorem slT_drop (xs : List D) (k : Nat) : slD (.tuple xs) (some (k : Int)) none = .ok (.tuple (xs.drop k)) := by
  show Res.ok (PyData.tuple (cutD xs (some (k : Int)) none)) = _
  rw [cutD_drop]
theorem slL_drop (xs : List D) (k : Nat) : slD (.list xs) (some (k : Int)) none = .ok (.list (xs.drop k)) := by
  show Res.ok (PyData.list (cutD xs (some (k : Int)) none)) = _
  rw [cutD_drop]
theorem add_tup (xs ys : List D) (h : xs.length + ys.length ≤ 1000000) : opD .add (.tuple xs) (.tuple ys) = .ok (.tuple (xs ++ ys)) := by
  show (if sizeOk (xs.length + ys.length) = true then Res.ok (PyData.tuple (xs ++ ys)) else .bad) = _
  rw [if_pos (size_ok h)]
theorem add_lst (xs ys : List D) (h : xs.length + ys.length ≤ 1000000) : opD .add (.list xs) (.list ys) = .ok (.list (xs ++ ys)) := by
  show (if sizeOk (xs.length + ys.length) = true then Res.ok (PyData.list (xs ++ ys)) else .bad) = _
  rw [if_pos (size_ok h)]
@[simp] theorem rev_tup (xs : List D) : revD (.tuple xs) = .ok (.tuple xs.reverse) := rfl
@[simp] theorem rev_lst (xs : List D) : revD (.list xs) = .ok (.list xs.reverse) := rfl
@[simp] theorem sl_tailT (xs : List D) : slD (.tuple xs) (some 1) none = .ok (.tuple xs.tail) := by simp [slD, cut_drop]
@[simp] theorem sl_tailL (xs : List D) : slD (.list xs) (some 1) none = .ok (.list xs.tail) := by simp [slD, cut_drop]
@[simp] theorem compR_some {α β : Type} (g : α → β) : ∀ L : List α, compR (fun a => .ok (some (g a))) L = .ok (L.map g)
  | [] => rfl
  | a :: L => by rw [compR, compR_some g L]; rfl
theorem compR_if {α β : Type} (p : α → Bool) (g : α → β) : ∀ L : List α, compR (fun a => if p a = true then .ok (some (g a)) else .ok none) L = .ok ((L.filter p).map g)
  | [] => rfl
  | a :: L => by
    rw [compR, compR_if p g L]
    by_cases h : p a = true
    · simp [h]
    · simp [h]
@[simp] theorem compR_ifP {α β : Type} (p : α → Prop) [DecidablePred p] (g : α → β) (L : List α) : compR (fun a => if p a then .ok (some (g a)) else .ok none) L = .ok ((L.filter fun a => decide (p a)).map g) := by
  have := compR_if (fun a => decide (p a)) g L
  simpa using this
/-- a comprehension without a condition -/
theorem compG_t (fe : FE) (elt : E) (tg : Tg) (own : List Nat) (σ : Env) (d : D) : compG fe elt tg (.k (.bool true)) own σ d = (do let σ' ← bindT tg d (wipeS σ own); let y ← ev fe elt σ'; .ok (some y) : Res (Option D)).quiet := by
  unfold compG
  cases bindT tg d (wipeS σ own) <;> simp
@[simp] theorem quiet_ite {α : Type} (c : Prop) [Decidable c] (a b : Res α) : (if c then a else b).quiet = if c then a.quiet else b.quiet := by split <;> rfl
/-! ### loops, turn by turn -/
/-- E i: the names ahead of the turn i -/
theorem forR_ix {α : Type} {f : D → Env → SR} (enc : α → D) : ∀ (L : List α) (E : Nat → Env), (∀ i (hi : i < L.length), f (enc L[i]) (E i) = .nx (E (i + 1))) → forR f (L.map enc) (E 0) = .nx (E L.length)
  | [], E, _ => rfl
  | a :: L, E, h => by
    have h0 : f (enc a) (E 0) = .nx (E 1) := h 0 (by simp)
    rw [List.map_cons, forR_cons h0]
    exact forR_ix enc L (fun i => E (i + 1)) fun i hi => h (i + 1) (by simpa using hi)
theorem forR_fold {α st : Type} {f : D → Env → SR} (enc : α → D) (E : st → Env) (g : st → α → st) : ∀ (L : List α) (s : st), (∀ a ∈ L, ∀ s, f (enc a) (E s) = .nx (E (g s a))) → forR f (L.map enc) (E s) = .nx (E (L.foldl g s))
  | [], s, _ => rfl
  | a :: L, s, h => by
    rw [List.map_cons, forR_cons (h a (by simp) s), List.foldl_cons]
    exact forR_fold enc E g L (g s a) fun b hb => h b (by simp [hb])
/-- turns that all leave the names as they were, but where one returns -/
theorem forR_find {α : Type} {f : D → Env → SR} (enc : α → D) (σ : Env) (r : α → Option D) : ∀ (L : List α), (∀ a ∈ L, f (enc a) σ = match r a with | some d => .rt d | none => .nx σ) → forR f (L.map enc) σ = match L.findSome? r with | some d => .rt d | none => .nx σ
  | [], _ => rfl
  | a :: L, h => by
    have h1 := h a (by simp)
    cases q : r a with
    | some d =>
      rw [q] at h1
      rw [List.map_cons, forR_rt h1, List.findSome?_cons_of_isSome (by rw [q]; rfl), q]
    | none =>
      rw [q] at h1
      rw [List.map_cons, forR_cons h1, forR_find enc σ r L fun b hb => h b (by simp [hb])]
      simp [List.findSome?, q]
theorem forR_same {f : D → Env → SR} (σ : Env) : ∀ (L : List D), (∀ a ∈ L, f a σ = .nx σ) → forR f L σ = .nx σ
  | [], _ => rfl
  | a :: L, h => by rw [forR_cons (h a (by simp)), forR_same σ L fun b hb => h b (by simp [hb])]
theorem forR_brk {f : D → Env → SR} {d : D} {xs : List D} {σ σ' : Env} (h : f d σ = .bk σ') : forR f (d :: xs) σ = .nx σ' := by
  simp only [forR, h]
theorem whileR_ix {c : Env → Res Bool} {f : Env → SR} : ∀ (N fuel : Nat) (E : Nat → Env), N < fuel → (∀ i, i < N → c (E i) = .ok true ∧ f (E i) = .nx (E (i + 1))) → c (E N) = .ok false → whileR c f fuel (E 0) = .nx (E N)
  | 0, fuel + 1, E, _, _, h => by simp [whileR, h]
  | N + 1, fuel + 1, E, hl, h1, h2 => by
    obtain ⟨a, b⟩ := h1 0 (by omega)
    rw [whileR, a]
    simp only [sr_ok, if_true, b]
    exact whileR_ix N fuel (fun i => E (i + 1)) (by omega) (fun i hi => h1 (i + 1) (by omega)) h2
theorem forR_foldI {α st : Type} {f : D → Env → SR} (enc : α → D) (E : st → Env) (g : st → α → st) (I : st → Prop) : ∀ (L : List α) (s : st), I s → (∀ a ∈ L, ∀ s, I s → f (enc a) (E s) = .nx (E (g s a)) ∧ I (g s a)) → forR f (L.map enc) (E s) = .nx (E (L.foldl g s)) ∧ I (L.foldl g s)
  | [], s, i, _ => ⟨rfl, i⟩
  | a :: L, s, i, h => by
    obtain ⟨h1, h2⟩ := h a (by simp) s i
    rw [List.map_cons, forR_cons h1, List.foldl_cons]
    exact forR_foldI enc E g I L (g s a) h2 fun b hb => h b (by simp [hb])
theorem whileR_meas {c : Env → Res Bool} {f : Env → SR} (I : Env → Nat → Prop) (F : Env → Prop) (h : ∀ σ m, I σ m → (c σ = .ok false ∧ F σ) ∨ (c σ = .ok true ∧ ∃ σ' m', f σ = .nx σ' ∧ I σ' m' ∧ m' < m)) : ∀ (m : Nat) (σ : Env) (fuel : Nat), I σ m → m < fuel → ∃ σ', whileR c f fuel σ = .nx σ' ∧ F σ' := fun m => by
  induction m using Nat.strongRecOn with
  | _ m ih =>
    intro σ fuel i hl
    obtain ⟨fuel, rfl⟩ : ∃ n, fuel = n + 1 := ⟨fuel - 1, by omega⟩
    rcases h σ m i with ⟨h1, h2⟩ | ⟨h1, σ', m', h2, h3, h4⟩
    · exact ⟨σ, by rw [whileR, h1]; simp, h2⟩
    · obtain ⟨σ'', e, q⟩ := ih m' h4 σ' fuel h3 (by omega)
      refine ⟨σ'', ?_, q⟩
      rw [whileR, h1]
      simp only [sr_ok, if_true, h2]
      exact e
/-- rows are appended -/
theorem forR_app {α : Type} {f : D → Env → SR} (enc : α → D) (E : List D → Env) (h : α → List D) (N : Nat) : ∀ (L : List α) (acc : List D), (∀ a ∈ L, (h a).length ≤ 1) → (∀ a ∈ L, ∀ acc : List D, acc.length ≤ N → f (enc a) (E acc) = .nx (E (acc ++ h a))) → acc.length + L.length ≤ N → forR f (L.map enc) (E acc) = .nx (E (acc ++ L.flatMap h))
  | [], acc, _, _, _ => by simp [forR]
  | a :: L, acc, h1, hf, hz => by
    simp only [List.length_cons] at hz
    have := h1 a (by simp)
    rw [List.map_cons, forR_cons (hf a (by simp) acc (by omega)), forR_app enc E h N L _ (fun b hb => h1 b (by simp [hb])) (fun b hb => hf b (by simp [hb])) (by simp; omega)]
    simp
theorem flatMap_if {α β : Type} (q : α → Bool) (x : α → β) : ∀ L : List α, L.flatMap (fun a => if q a then [x a] else []) = (L.filter q).map x
  | [] => rfl
  | a :: L => by
    rw [List.flatMap_cons, flatMap_if q x L]
    by_cases h : q a = true <;> simp [h]
/-- a loop that is left at the first that passes -/
theorem forR_until {α : Type} {f : D → Env → SR} (enc : α → D) (σ : Env) (q : α → Bool) (E : α → Env) : ∀ L : List α, (∀ a ∈ L, q a = false → f (enc a) σ = .nx σ) → (∀ a ∈ L, q a = true → f (enc a) σ = .bk (E a)) → forR f (L.map enc) σ = match L.find? q with | some a => .nx (E a) | none => .nx σ
  | [], _, _ => rfl
  | a :: L, h1, h2 => by
    cases h : q a with
    | true =>
      rw [List.map_cons, forR_brk (h2 a (by simp) h), List.find?_cons_of_pos h]
    | false =>
      rw [List.map_cons, forR_cons (h1 a (by simp) h), List.find?_cons_of_neg (by simp [h]), forR_until enc σ q E L (fun b hb => h1 b (by simp [hb])) (fun b hb => h2 b (by simp [hb]))]
theorem nodup_len {α : Type} [DecidableEq α] : ∀ {A B : List α}, A.Nodup → (∀ a ∈ A, a ∈ B) → A.length ≤ B.length
  | [], _, _, _ => Nat.zero_le _
  | a :: A, B, hn, hs => by
    obtain ⟨h1, h2⟩ := List.nodup_cons.mp hn
    have hb := hs a (by simp)
    have := nodup_len (A := A) (B := B.erase a) h2 fun x hx => (List.mem_erase_of_ne (show x ≠ a from fun e => h1 (by rw [← e]; exact hx))).mpr (hs x (by simp [hx]))
    rw [List.length_erase_of_mem hb] at this
    have := List.length_pos_of_mem hb
    simp only [List.length_cons]
    omega
/-! ### numbers from 0 on -/
abbrev natD (k : Nat) : D := .int (k : Int)
theorem enumD_from {α : Type} (f : α → D) (d : α) : ∀ (L : List α) (n : Nat), enumD (n : Int) (L.map f) = (List.range L.length).map fun i => .tuple [natD (n + i), f (L.getD i d)]
  | [], n => rfl
  | a :: L, n => by
    rw [List.map_cons, enumD, List.length_cons, List.range_succ_eq_map, List.map_cons, List.map_map]
    have := enumD_from f d L (n + 1)
    rw [show ((n : Int) + 1) = ((n + 1 : Nat) : Int) by omega, this]
    congr 1
    apply List.map_congr_left
    intro i _
    simp only [Function.comp, List.getD_cons_succ]
    rw [show n + 1 + i = n + (i + 1) by omega]
theorem enumD_map {α : Type} (f : α → D) (d : α) (L : List α) : enumD 0 (L.map f) = (List.range L.length).map fun i => .tuple [natD i, f (L.getD i d)] := by
  have := enumD_from f d L 0
  simpa using this
theorem in_nats {x : D} {ns : List Nat} (l : Nat) (hx : items x = some (ns.map natD)) : cmpB .isin (.int (l : Int)) x = .ok (ns.contains l) := by
  have h := in_ints (x := x) (ns := ns.map fun k : Nat => (k : Int)) (l : Int) (by rw [hx, List.map_map]; rfl)
  rw [h]
  congr 1
  clear h hx
  induction ns with
  | nil => rfl
  | cons a ns ih =>
    rw [List.map_cons, List.contains_cons, List.contains_cons, ih]
    congr 1
    by_cases e : l = a
    · subst e; rw [beq_self_eq_true, beq_self_eq_true]
    · have : ¬ (l : Int) = (a : Int) := fun z => e (Int.ofNat.inj z)
      rw [beq_eq_false_iff_ne.mpr e]
      exact beq_eq_false_iff_ne.mpr this
@[simp] theorem in_natL (l : Nat) (ns : List Nat) : cmpB .isin (.int (l : Int)) (.list (ns.map natD)) = .ok (ns.contains l) := in_nats l rfl
@[simp] theorem in_natT (l : Nat) (ns : List Nat) : cmpB .isin (.int (l : Int)) (.tuple (ns.map natD)) = .ok (ns.contains l) := in_nats l rfl
@[simp] theorem notin_natL (l : Nat) (ns : List Nat) : cmpB .notin (.int (l : Int)) (.list (ns.map natD)) = .ok (!ns.contains l) := by
  show (do let r ← inD (.int (l : Int)) (.list (ns.map natD)); .ok !r : Res Bool) = _
  rw [show inD (.int (l : Int)) (.list (ns.map natD)) = .ok (ns.contains l) from in_natL l ns]; rfl
@[simp] theorem notin_natT (l : Nat) (ns : List Nat) : cmpB .notin (.int (l : Int)) (.tuple (ns.map natD)) = .ok (!ns.contains l) := by
  show (do let r ← inD (.int (l : Int)) (.tuple (ns.map natD)); .ok !r : Res Bool) = _
  rw [show inD (.int (l : Int)) (.tuple (ns.map natD)) = .ok (ns.contains l) from in_natT l ns]; rfl
@[simp] theorem eq_ii (i j : Int) : cmpB .eq (.int i) (.int j) = .ok (decide (i = j)) := eq_i i j
@[simp] theorem ne_ii (i j : Int) : cmpB .ne (.int i) (.int j) = .ok (!decide (i = j)) := by
  show Res.ok (!(i == j)) = Res.ok (!decide (i = j))
  congr 2
@[simp] theorem eq_ss (i j : Str) : cmpB .eq (.str i) (.str j) = .ok (decide (i = j)) := by
  show Res.ok (i == j) = Res.ok (decide (i = j))
  congr 1
@[simp] theorem ne_ss (i j : Str) : cmpB .ne (.str i) (.str j) = .ok (!decide (i = j)) := by
  show Res.ok (!(i == j)) = Res.ok (!decide (i = j))
  congr 2
theorem rng_nat (n : Nat) (h : n ≤ 1000000) : rngD (.int 0) (.int (n : Int)) (.int 1) = .ok (.list ((List.range n).map natD)) := by
  rw [rng1 n (by omega) (by omega), Int.toNat_natCast]
/-- range(a, b) -/
theorem rng_map (a m : Nat) : (List.range m).map (fun k => PyData.int ((a : Int) + (k : Nat))) = (List.range' a m).map natD := by
  rw [List.range'_eq_map_range, List.map_map]
  exact List.map_congr_left fun x _ => congrArg PyData.int (Int.natCast_add a x).symm
theorem rngD_one (i j : Int) (h : (decide (-(2 ^ 62) ≤ i) && decide (i < 2 ^ 62) && decide (-(2 ^ 62) ≤ j) && decide (j < 2 ^ 62)) = true) : rngD (.int i) (.int j) (.int 1) = .ok (.list ((List.range (j - i).toNat).map fun k => .int (i + (k : Nat)))) := by
  unfold rngD
  simp only [asInt_i, Res.ok_bind, if_true]
  rw [if_pos h]
theorem rng_ab (a b : Nat) (ha : a ≤ 1000000) (hb : b ≤ 1000000) : rngD (.int (a : Int)) (.int (b : Int)) (.int 1) = .ok (.list ((List.range' a (b - a)).map natD)) := by
  rw [rngD_one _ _ (by simp only [Bool.and_eq_true, decide_eq_true_eq]; omega), show ((b : Int) - (a : Int)).toNat = b - a by omega, rng_map]
theorem shl_one (k : Nat) (h : k ≤ 1000) : opD .shl (.int 1) (.int (k : Int)) = .ok (.int ((2 ^ k : Nat) : Int)) := by
  show (if (decide (0 ≤ (k : Int)) && decide ((k : Int) ≤ 1000000) && decide ((1 : Int).natAbs < 2 ^ 64)) = true then Res.ok (PyData.int (1 * 2 ^ (k : Int).toNat)) else .bad) = _
  rw [if_pos (by simp only [Bool.and_eq_true, decide_eq_true_eq]; refine ⟨⟨by omega, by omega⟩, by decide⟩)]
  rw [Int.toNat_natCast, Int.one_mul, Int.natCast_pow]
  rfl
theorem shr_nat (n k : Nat) : opD .shr (.int (n : Int)) (.int (k : Int)) = .ok (.int ((n / 2 ^ k : Nat) : Int)) := by
  show (if decide (0 ≤ (k : Int)) = true then Res.ok (PyData.int ((n : Int) / 2 ^ (k : Int).toNat)) else .bad) = _
  rw [if_pos (by simp)]
  rw [Int.toNat_natCast, Int.natCast_ediv, Int.natCast_pow]
  rfl
theorem band_one (n : Nat) : opD .band (.int (n : Int)) (.int 1) = .ok (.int ((n % 2 : Nat) : Int)) := by
  show Res.ok (PyData.int (Builtin.bitAnd (n : Int) 1)) = _
  congr 2
  show ((Nat.land n 1 : Nat) : Int) = _
  rw [show Nat.land n 1 = n % 2 from Nat.and_one_is_mod n]
theorem mul_rep (d : D) (N : Nat) (h : N ≤ 1000000) : opD .mul (.list [d]) (.int (N : Int)) = .ok (.list (List.replicate N d)) := by
  show (if (decide (0 ≤ (N : Int)) && decide ((N : Int) ≤ 1000000) && sizeOk ([d].length * (N : Int).toNat)) = true then Res.ok (PyData.list (List.replicate (N : Int).toNat [d]).flatten) else .bad) = _
  rw [if_pos (by simp only [Bool.and_eq_true, decide_eq_true_eq]; exact ⟨⟨by omega, by omega⟩, size_ok (by simp; omega)⟩), Int.toNat_natCast]
  congr 2
  induction N with
  | zero => rfl
  | succ N ih => rw [List.replicate_succ, List.flatten_cons, ih (by omega)]; rfl
theorem mul_repT (d : D) (N : Nat) (h1 : 1 ≤ N) (h : N ≤ 1000) : opD .mul (.tuple [d]) (.int (N : Int)) = .ok (.tuple (List.replicate N d)) := by
  show (if (decide (1 ≤ (N : Int)) && decide ((N : Int) ≤ 1000) && ![d].isEmpty && decide ([d].length ≤ 1000)) = true then Res.ok (PyData.tuple (List.replicate (N : Int).toNat [d]).flatten) else .bad) = _
  rw [if_pos (by simp only [Bool.and_eq_true, decide_eq_true_eq]; refine ⟨⟨⟨by omega, by omega⟩, rfl⟩, by simp⟩), Int.toNat_natCast]
  congr 2
  clear h1 h
  induction N with
  | zero => rfl
  | succ N ih => rw [List.replicate_succ, List.flatten_cons, ih]; rfl
theorem rngD_neg (i j : Int) (h : (decide (-(2 ^ 62) ≤ i) && decide (i < 2 ^ 62) && decide (-(2 ^ 62) ≤ j) && decide (j < 2 ^ 62)) = true) : rngD (.int i) (.int j) (.int (-1)) = .ok (.list ((List.range (i - j).toNat).map fun k => .int (i - (k : Nat)))) := by
  unfold rngD
  simp only [asInt_i, Res.ok_bind, if_true]
  rw [if_neg (by decide), if_pos h]
theorem rng_down (a : Nat) (h : a ≤ 1000000) : rngD (.int (a : Int)) (.int (-1)) (.int (-1)) = .ok (.list ((List.range (a + 1)).map fun k => natD (a - k))) := by
  rw [rngD_neg _ _ (by simp only [Bool.and_eq_true, decide_eq_true_eq]; omega), show ((a : Int) - -1).toNat = a + 1 by omega]
  have : (List.range (a + 1)).map (fun k => PyData.int ((a : Int) - (k : Nat))) = (List.range (a + 1)).map fun k => natD (a - k) := List.map_congr_left fun x hx => by
    rw [List.mem_range] at hx
    exact congrArg PyData.int (by omega)
  rw [this]
theorem ixL_nat {α : Type} (enc : α → D) (L : List α) (k : Nat) (h : k < L.length) : ixD (.list (L.map enc)) (.int (k : Int)) = .ok (enc L[k]) := by
  show (match atI (L.map enc) (k : Int) with | some d => Res.ok d | none => .bad) = _
  have : atI (L.map enc) (k : Int) = some (enc L[k]) := by
    exact atI_nat (by rw [List.getElem?_map, List.getElem?_eq_getElem h]; rfl)
  rw [this]
theorem ixT_nat {α : Type} (enc : α → D) (L : List α) (k : Nat) (h : k < L.length) : ixD (.tuple (L.map enc)) (.int (k : Int)) = .ok (enc L[k]) := by
  show (match atI (L.map enc) (k : Int) with | some d => Res.ok d | none => .bad) = _
  have : atI (L.map enc) (k : Int) = some (enc L[k]) := by
    exact atI_nat (by rw [List.getElem?_map, List.getElem?_eq_getElem h]; rfl)
  rw [this]
@[simp] theorem sum_map {α : Type} (g : α → Int) (L : List α) : b1D .sum (.list (L.map fun a => .int (g a))) = .ok (.int (L.map g).sum) := by
  show (do let ns ← mapR asInt (L.map fun a => PyData.int (g a)); .ok (.int ns.sum) : Res D) = _
  have : mapR asInt (L.map fun a => PyData.int (g a)) = .ok (L.map g) := by
    induction L with
    | nil => rfl
    | cons a L ih => simp [mapR, ih]
  rw [this]; rfl
@[simp] theorem all_map {α : Type} (p : α → Bool) (L : List α) : b1D .all (.list (L.map fun a => .bool (p a))) = .ok (.bool (L.all p)) := b1_all p L
@[simp] theorem any_map {α : Type} (p : α → Bool) (L : List α) : b1D .any (.list (L.map fun a => .bool (p a))) = .ok (.bool (L.any p)) := b1_any p L
@[simp] theorem b2_max (i j : Int) : b2D .max2 (.int i) (.int j) = .ok (.int (max i j)) := by
  show Res.ok (PyData.int (if j > i then j else i)) = _
  congr 2
  split <;> omega
@[simp] theorem b2_min (i j : Int) : b2D .min2 (.int i) (.int j) = .ok (.int (min i j)) := by
  show Res.ok (PyData.int (if j < i then j else i)) = _
  congr 2
  split <;> omega
@[simp] theorem ix_0 (x : D) (xs : List D) : ixD (.tuple (x :: xs)) (.int 0) = .ok x := by simp [ixD, atI, ixN]
@[simp] theorem ix_1 (x y : D) (xs : List D) : ixD (.tuple (x :: y :: xs)) (.int 1) = .ok y := by
  show (match atI (x :: y :: xs) ((1 : Nat) : Int) with | some d => Res.ok d | none => .bad) = _
  rw [atI_nat (v := _) rfl]
@[simp] theorem ix_2 (x y z : D) (xs : List D) : ixD (.tuple (x :: y :: z :: xs)) (.int 2) = .ok z := by
  show (match atI (x :: y :: z :: xs) ((2 : Nat) : Int) with | some d => Res.ok d | none => .bad) = _
  rw [atI_nat (v := _) rfl]
@[simp] theorem ixl_0 (x : D) (xs : List D) : ixD (.list (x :: xs)) (.int 0) = .ok x := by simp [ixD, atI, ixN]
theorem sz_filterL {α : Type} {p : α → Bool} {L : List α} (h : L.length ≤ 1000000) : sizeOk (L.filter p).length = true := size_ok (Nat.le_trans (List.length_filter_le _ _) h)
theorem sz_filterR {n : Nat} {p : Nat → Bool} (h : n ≤ 1000000) : sizeOk ((List.range n).filter p).length = true := sz_filterL (by simpa using h)
theorem sz_map {α β : Type} {f : α → β} {L : List α} (h : sizeOk L.length = true) : sizeOk (L.map f).length = true := by rw [List.length_map]; exact h
theorem sz_filter {α : Type} {p : α → Bool} {L : List α} (h : sizeOk L.length = true) : sizeOk (L.filter p).length = true := size_ok (Nat.le_trans (List.length_filter_le _ _) (size_of h))
@[simp] theorem ansR_rt (d : D) : ansR (.rt d) = .ok d := rfl
@[simp] theorem ansR_nx (σ : Env) : ansR (.nx σ) = .ok .none := rfl
@[simp] theorem ansR_ex (c : Str) : ansR (.ex c) = .ex c := rfl
@[simp] theorem bindT_t (ts : List Tg) (ds : List D) (σ : Env) : bindT (.t ts) (.tuple ds) σ = bindTs ts ds σ := by rw [bindT]
@[simp] theorem bindT_l (ts : List Tg) (ds : List D) (σ : Env) : bindT (.t ts) (.list ds) σ = bindTs ts ds σ := by rw [bindT]
@[simp] theorem bindTs_n (σ : Env) : bindTs [] [] σ = .ok σ := by rw [bindTs]
@[simp] theorem bindTs_c (t : Tg) (ts : List Tg) (d : D) (ds : List D) (σ : Env) : bindTs (t :: ts) (d :: ds) σ = (do let σ' ← bindT t d σ; bindTs ts ds σ') := by rw [bindTs]
@[simp] theorem toSl_l (ds : List D) : toSl true (.list ds) = .ok (.ol ds) := rfl
@[simp] theorem toSl_d (ds : List (D × D)) : toSl true (.dict ds) = .ok (.od ds) := rfl
/-! ### the evaluator, by simp -/
end BW

namespace Wt
open PySem PySem.W L2 BW
abbrev i_is_whole : Nat := 0
abbrev i_ascends : Nat := 1
abbrev i_is_node : Nat := 2
abbrev i_is_tree : Nat := 3
abbrev i_check_tree : Nat := 4
abbrev i_check_buffer : Nat := 5
abbrev i_leaves_of : Nat := 6
abbrev i_loads : Nat := 7
abbrev i_delays_of : Nat := 8
abbrev i_loads_below : Nat := 9
abbrev i_delays : Nat := 10
abbrev i_worst_of : Nat := 11
abbrev i_worst : Nat := 12
abbrev i_delays_with : Nat := 13
abbrev i_options : Nat := 14
abbrev i_best_buffers : Nat := 15
abbrev i_law_draws : Nat := 16
abbrev i_law_tree : Nat := 17
abbrev i_law_above : Nat := 18
abbrev i_law_below : Nat := 19
abbrev i_law_leaves : Nat := 20
abbrev i_law_is_tree : Nat := 21
abbrev i_law_refused : Nat := 22
abbrev i_law_load : Nat := 23
abbrev i_law_delay : Nat := 24
abbrev i_law_buffer : Nat := 25
abbrev i_law_error : Nat := 26
/-- is_whole: 0=value 1=least 2=most -/
abbrev e_is_whole (value_ least_ most_ : Sl := .un) : BW.Env := [value_, least_, most_]
def b_is_whole : List BW.S := [
    .ret (.and (.isi (.v 0) [.int]) (.and (.not (.isi (.v 0) [.bool])) (.ch .le .le (.v 1) (.v 0) (.v 2))))]
def d_is_whole : BW.DI := ⟨"is_whole", ["value", "least", "most"], ["value", "least", "most"], b_is_whole⟩
/-- ascends: 0=values 1=one 2=later -/
abbrev e_ascends (values_ one_ later_ : Sl := .un) : BW.Env := [values_, one_, later_]
def b_ascends : List BW.S := [
    .ret (.b1 .all (.comp (.cmp .lt (.v 1) (.v 2)) (.t [.n 1, .n 2]) (.zip (.v 0) (.slf (.v 0) (.k (.int 1)))) (.k (.bool true)) [1, 2]))]
def d_ascends : BW.DI := ⟨"ascends", ["values"], ["values", "one", "later"], b_ascends⟩
/-- _is_node: 0=number 1=value -/
abbrev e_is_node (number_ value_ : Sl := .un) : BW.Env := [number_, value_]
def b_is_node : List BW.S := [
    .ite (.or (.not (.isi (.v 1) [.tuple])) (.or (.cmp .ne (.b1 .len (.v 1)) (.k (.int 3))) (.not (.call i_is_whole [.ix (.v 1) (.k (.int 2)), .k (.int 0), .k (.int 1000)])))) [
      .ret (.k (.bool false))] [],
    .ite (.cmp .eq (.v 0) (.k (.int 0))) [
      .ret (.and (.isN (.ix (.v 1) (.k (.int 0)))) (.call i_is_whole [.ix (.v 1) (.k (.int 1)), .k (.int 0), .k (.int 0)]))] [],
    .ret (.and (.call i_is_whole [.ix (.v 1) (.k (.int 0)), .k (.int 0), .op .sub (.v 0) (.k (.int 1))]) (.call i_is_whole [.ix (.v 1) (.k (.int 1)), .k (.int 0), .k (.int 1000)]))]
def d_is_node : BW.DI := ⟨"_is_node", ["number", "value"], ["number", "value"], b_is_node⟩
/-- is_tree: 0=value 1=number 2=one -/
abbrev e_is_tree (value_ number_ one_ : Sl := .un) : BW.Env := [value_, number_, one_]
def b_is_tree : List BW.S := [
    .ite (.or (.not (.isi (.v 0) [.tuple])) (.not (.ch .le .le (.k (.int 1)) (.b1 .len (.v 0)) (.k (.int 9))))) [
      .ret (.k (.bool false))] [],
    .ret (.b1 .all (.comp (.call i_is_node [.v 1, .v 2]) (.t [.n 1, .n 2]) (.enm (.v 0)) (.k (.bool true)) [1, 2]))]
def d_is_tree : BW.DI := ⟨"is_tree", ["value"], ["value", "number", "one"], b_is_tree⟩
/-- check_tree: 0=value -/
abbrev e_check_tree (value_ : Sl := .un) : BW.Env := [value_]
def b_check_tree : List BW.S := [
    .ite (.not (.call i_is_tree [.v 0])) [
      .raise "BadTree"] []]
def d_check_tree : BW.DI := ⟨"check_tree", ["value"], ["value"], b_check_tree⟩
/-- check_buffer: 0=value 1=one -/
abbrev e_check_buffer (value_ one_ : Sl := .un) : BW.Env := [value_, one_]
def b_check_buffer : List BW.S := [
    .ite (.or (.not (.isi (.v 0) [.tuple])) (.or (.cmp .ne (.b1 .len (.v 0)) (.k (.int 3))) (.not (.b1 .all (.comp (.call i_is_whole [.v 1, .k (.int 0), .k (.int 1000)]) (.n 1) (.v 0) (.k (.bool true)) [1]))))) [
      .raise "BadBuffer"] []]
def d_check_buffer : BW.DI := ⟨"check_buffer", ["value"], ["value", "one"], b_check_buffer⟩
/-- leaves_of: 0=tree 1=parents 2=one 3=number -/
abbrev e_leaves_of (tree_ parents_ one_ number_ : Sl := .un) : BW.Env := [tree_, parents_, one_, number_]
def b_leaves_of : List BW.S := [
    .setO 1 (.dcomp (.ix (.v 2) (.k (.int 0))) (.k (.bool true)) (.n 2) (.v 0) (.k (.bool true)) [2]),
    .ret (.comp (.v 3) (.n 3) (.rng (.k (.int 0)) (.b1 .len (.v 0)) (.k (.int 1))) (.cmp .notin (.v 3) (.p 1)) [3])]
def d_leaves_of : BW.DI := ⟨"leaves_of", ["tree"], ["tree", "parents", "one", "number"], b_leaves_of⟩
/-- _loads: 0=tree 1=buffer 2=nodes 3=found 4=number 5=one -/
abbrev e_loads (tree_ buffer_ nodes_ found_ number_ one_ : Sl := .un) : BW.Env := [tree_, buffer_, nodes_, found_, number_, one_]
def b_loads_1 : List BW.S := [
    .augix 3 (.ix (.ix (.v 0) (.v 4)) (.k (.int 0))) .add (.ite (.cmp .isin (.v 4) (.v 2)) (.ix (.v 1) (.k (.int 1))) (.ix (.p 3) (.v 4))),
    .wipe [4]]
def b_loads : List BW.S := [
    .setO 3 (.comp (.ix (.v 5) (.k (.int 2))) (.n 5) (.v 0) (.k (.bool true)) [5]),
    .for (.n 4) (.rng (.op .sub (.b1 .len (.v 0)) (.k (.int 1))) (.k (.int 0)) (.neg (.k (.int 1)))) b_loads_1,
    .fr 3,
    .ret (.v 3)]
def d_loads : BW.DI := ⟨"_loads", ["tree", "buffer", "nodes"], ["tree", "buffer", "nodes", "found", "number", "one"], b_loads⟩
/-- delays_of: 0=tree 1=buffer 2=nodes 3=loads 4=found 5=number 6=parent 7=resistance 8=_load -/
abbrev e_delays_of (tree_ buffer_ nodes_ loads_ found_ number_ parent_ resistance_ _load_ : Sl := .un) : BW.Env := [tree_, buffer_, nodes_, loads_, found_, number_, parent_, resistance_, _load_]
def b_delays_of_1 : List BW.S := [
    .unp (.t [.n 6, .n 7, .n 8]) (.ix (.v 0) (.v 5)),
    .ite (.cmp .isin (.v 5) (.v 2)) [
      .app 4 (.op .add (.op .add (.op .add (.ix (.p 4) (.v 6)) (.op .mul (.v 7) (.ix (.v 1) (.k (.int 1))))) (.ix (.v 1) (.k (.int 2)))) (.op .mul (.ix (.v 1) (.k (.int 0))) (.ix (.v 3) (.v 5))))] [
      .app 4 (.op .add (.ix (.p 4) (.v 6)) (.op .mul (.v 7) (.ix (.v 3) (.v 5))))],
    .wipe [5, 6, 7, 8]]
def b_delays_of : List BW.S := [
    .set 3 (.call i_loads [.v 0, .v 1, .v 2]),
    .setO 4 (.lst [.k (.int 0)]),
    .for (.n 5) (.rng (.k (.int 1)) (.b1 .len (.v 0)) (.k (.int 1))) b_delays_of_1,
    .fr 4,
    .ret (.v 4)]
def d_delays_of : BW.DI := ⟨"delays_of", ["tree", "buffer", "nodes"], ["tree", "buffer", "nodes", "loads", "found", "number", "parent", "resistance", "_load"], b_delays_of⟩
/-- loads_below: 0=tree -/
abbrev e_loads_below (tree_ : Sl := .un) : BW.Env := [tree_]
def b_loads_below : List BW.S := [
    .xp (.call i_check_tree [.v 0]),
    .ret (.b1 .tuple (.call i_loads [.v 0, .tup [.k (.int 0), .k (.int 0), .k (.int 0)], .tup []]))]
def d_loads_below : BW.DI := ⟨"loads_below", ["tree"], ["tree"], b_loads_below⟩
/-- delays: 0=tree -/
abbrev e_delays (tree_ : Sl := .un) : BW.Env := [tree_]
def b_delays : List BW.S := [
    .xp (.call i_check_tree [.v 0]),
    .ret (.b1 .tuple (.call i_delays_of [.v 0, .tup [.k (.int 0), .k (.int 0), .k (.int 0)], .tup []]))]
def d_delays : BW.DI := ⟨"delays", ["tree"], ["tree"], b_delays⟩
/-- worst_of: 0=tree 1=found 2=best 3=leaf -/
abbrev e_worst_of (tree_ found_ best_ leaf_ : Sl := .un) : BW.Env := [tree_, found_, best_, leaf_]
def b_worst_of_1 : List BW.S := [
    .ite (.or (.isN (.v 2)) (.cmp .gt (.ix (.v 1) (.v 3)) (.ix (.v 2) (.k (.int 0))))) [
      .set 2 (.tup [.ix (.v 1) (.v 3), .v 3])] [],
    .wipe [3]]
def b_worst_of : List BW.S := [
    .set 2 (.k .none),
    .for (.n 3) (.call i_leaves_of [.v 0]) b_worst_of_1,
    .ret (.v 2)]
def d_worst_of : BW.DI := ⟨"worst_of", ["tree", "found"], ["tree", "found", "best", "leaf"], b_worst_of⟩
/-- worst: 0=tree -/
abbrev e_worst (tree_ : Sl := .un) : BW.Env := [tree_]
def b_worst : List BW.S := [
    .xp (.call i_check_tree [.v 0]),
    .ret (.call i_worst_of [.v 0, .call i_delays_of [.v 0, .tup [.k (.int 0), .k (.int 0), .k (.int 0)], .tup []]])]
def d_worst : BW.DI := ⟨"worst", ["tree"], ["tree"], b_worst⟩
/-- delays_with: 0=tree 1=buffer 2=nodes 3=one -/
abbrev e_delays_with (tree_ buffer_ nodes_ one_ : Sl := .un) : BW.Env := [tree_, buffer_, nodes_, one_]
def b_delays_with : List BW.S := [
    .xp (.call i_check_tree [.v 0]),
    .xp (.call i_check_buffer [.v 1]),
    .ite (.or (.not (.isi (.v 2) [.tuple])) (.not (.b1 .all (.comp (.call i_is_whole [.v 3, .k (.int 1), .op .sub (.b1 .len (.v 0)) (.k (.int 1))]) (.n 3) (.v 2) (.k (.bool true)) [3])))) [
      .raise "BadNodes"] [],
    .ite (.not (.call i_ascends [.v 2])) [
      .raise "BadNodes"] [],
    .ret (.b1 .tuple (.call i_delays_of [.v 0, .v 1, .v 2]))]
def d_delays_with : BW.DI := ⟨"delays_with", ["tree", "buffer", "nodes"], ["tree", "buffer", "nodes", "one"], b_delays_with⟩
/-- options: 0=tree 1=buffer 2=rows -/
abbrev e_options (tree_ buffer_ rows_ : Sl := .un) : BW.Env := [tree_, buffer_, rows_]
def b_options : List BW.S := [
    .xp (.call i_check_tree [.v 0]),
    .xp (.call i_check_buffer [.v 1]),
    .ret (.b1 .tuple (.comp (.b1 .tuple (.v 2)) (.n 2) (.any) (.k (.bool true)) [2]))]
def d_options : BW.DI := ⟨"options", ["tree", "buffer"], ["tree", "buffer", "rows"], b_options⟩
/-- best_buffers: 0=tree 1=buffer 2=best 3=numbers 4=many 5=size 6=nodes 7=_load 8=delay -/
abbrev e_best_buffers (tree_ buffer_ best_ numbers_ many_ size_ nodes_ _load_ delay_ : Sl := .un) : BW.Env := [tree_, buffer_, best_, numbers_, many_, size_, nodes_, _load_, delay_]
def b_best_buffers_2 : List BW.S := [
    .ite (.cmp .eq (.ix (.call i_worst_of [.v 0, .call i_delays_of [.v 0, .v 1, .v 6]]) (.k (.int 0))) (.v 2)) [
      .ret (.tup [.v 2, .v 6])] [],
    .wipe [6]]
def b_best_buffers_1 : List BW.S := [
    .set 5 (.b1 .len (.any)),
    .for (.n 6) (.any) b_best_buffers_2,
    .wipe [4, 5, 6]]
def b_best_buffers : List BW.S := [
    .xp (.call i_check_tree [.v 0]),
    .xp (.call i_check_buffer [.v 1]),
    .set 2 (.b1 .min (.comp (.v 8) (.t [.n 7, .n 8]) (.ix (.any) (.k (.int 0))) (.k (.bool true)) [7, 8])),
    .set 3 (.rl false (.k (.int 1)) (.b1 .len (.v 0))),
    .for (.n 4) (.rng (.k (.int 0)) (.b1 .len (.v 0)) (.k (.int 1))) b_best_buffers_1,
    .ret (.tup [.v 2, .tup []])]
def d_best_buffers : BW.DI := ⟨"best_buffers", ["tree", "buffer"], ["tree", "buffer", "best", "numbers", "many", "size", "nodes", "_load", "delay"], b_best_buffers⟩
/-- _law_draws: 0=script 1=many 2=draws 3=seed 4=cell 5=k 6=number -/
abbrev e_law_draws (script_ many_ draws_ seed_ cell_ k_ number_ : Sl := .un) : BW.Env := [script_, many_, draws_, seed_, cell_, k_, number_]
def b_law_draws_3 : List BW.S := [
    .ite (.cmp .lt (.b1 .len (.p 2)) (.v 1)) [
      .set 3 (.op .mod (.b1 .int (.op .add (.op .add (.op .mul (.v 3) (.k (.int 69621))) (.v 5)) (.k (.int 1)))) (.k (.int 2147483647))),
      .app 2 (.op .mod (.op .fdiv (.b1 .int (.v 3)) (.k (.int 7))) (.k (.int 65521)))] []]
def b_law_draws_2 : List BW.S := [
    .ite (.cmp .gt (.v 6) (.k (.int 0))) [
      .app 2 (.op .mod (.b1 .int (.v 6)) (.k (.int 1009))),
      .set 6 (.op .fdiv (.v 6) (.k (.int 1009)))] []]
def b_law_draws_1 : List BW.S := [
    .set 6 (.b1 .abs (.v 4)),
    .set 3 (.op .mod (.b1 .int (.op .add (.op .add (.op .mul (.v 3) (.k (.int 48271))) (.v 6)) (.k (.int 11)))) (.k (.int 2147483647))),
    .ite (.cmp .ge (.v 6) (.op .pow (.k (.int 10)) (.k (.int 18)))) [
      .for (.n 5) (.rng (.k (.int 0)) (.k (.int 60)) (.k (.int 1))) b_law_draws_2] [
      .app 2 (.op .mod (.op .fdiv (.b1 .int (.op .add (.op .mul (.v 3) (.k (.int 16807))) (.k (.int 5)))) (.k (.int 3))) (.k (.int 65521)))]]
def b_law_draws : List BW.S := [
    .setO 2 (.lst []),
    .set 3 (.k (.int 7)),
    .for (.n 4) (.slt (.v 0) (.k (.int 63))) b_law_draws_1,
    .for (.n 5) (.rng (.k (.int 0)) (.v 1) (.k (.int 1))) b_law_draws_3,
    .ret (.slt (.p 2) (.v 1))]
def d_law_draws : BW.DI := ⟨"_law_draws", ["script", "many"], ["script", "many", "draws", "seed", "cell", "k", "number"], b_law_draws⟩
/-- _law_tree: 0=draws 1=most 2=many 3=kind 4=found 5=k 6=draw -/
abbrev e_law_tree (draws_ most_ many_ kind_ found_ k_ draw_ : Sl := .un) : BW.Env := [draws_, most_, many_, kind_, found_, k_, draw_]
def b_law_tree_1 : List BW.S := [
    .set 6 (.op .fdiv (.b1 .int (.ix (.v 0) (.op .add (.k (.int 2)) (.op .mod (.v 5) (.op .sub (.b1 .len (.v 0)) (.k (.int 2))))))) (.op .add (.k (.int 1)) (.op .fdiv (.v 5) (.op .sub (.b1 .len (.v 0)) (.k (.int 2)))))),
    .app 4 (.tup [.op .mod (.v 6) (.v 5), .op .mod (.op .fdiv (.v 6) (.k (.int 9))) (.ix (.lst [.k (.int 9), .k (.int 1001), .k (.int 3)]) (.v 3)), .op .mod (.op .fdiv (.v 6) (.k (.int 9009))) (.ix (.lst [.k (.int 9), .k (.int 1001), .k (.int 2)]) (.v 3))]),
    .wipe [5, 6]]
def b_law_tree : List BW.S := [
    .set 2 (.op .add (.k (.int 1)) (.op .mod (.b1 .int (.ix (.v 0) (.k (.int 0)))) (.v 1))),
    .set 3 (.op .mod (.b1 .int (.ix (.v 0) (.k (.int 1)))) (.k (.int 3))),
    .setO 4 (.lst [.tup [.k .none, .k (.int 0), .op .mod (.b1 .int (.ix (.v 0) (.k (.int 2)))) (.ix (.lst [.k (.int 9), .k (.int 1001), .k (.int 2)]) (.v 3))]]),
    .for (.n 5) (.rng (.k (.int 1)) (.v 2) (.k (.int 1))) b_law_tree_1,
    .ret (.b1 .tuple (.p 4))]
def d_law_tree : BW.DI := ⟨"_law_tree", ["draws", "most"], ["draws", "most", "many", "kind", "found", "k", "draw"], b_law_tree⟩
/-- _law_above: 0=tree 1=k 2=found 3=turn -/
abbrev e_law_above (tree_ k_ found_ turn_ : Sl := .un) : BW.Env := [tree_, k_, found_, turn_]
def b_law_above_1 : List BW.S := [
    .ite (.and (.notN (.v 1)) (.cmp .ne (.v 1) (.k (.int 0)))) [
      .app 2 (.v 1),
      .set 1 (.ix (.ix (.v 0) (.v 1)) (.k (.int 0)))] [],
    .wipe [3]]
def b_law_above : List BW.S := [
    .setO 2 (.lst []),
    .for (.n 3) (.rng (.k (.int 0)) (.b1 .len (.v 0)) (.k (.int 1))) b_law_above_1,
    .fr 2,
    .ret (.v 2)]
def d_law_above : BW.DI := ⟨"_law_above", ["tree", "k"], ["tree", "k", "found", "turn"], b_law_above⟩
/-- _law_below: 0=tree 1=k 2=n -/
abbrev e_law_below (tree_ k_ n_ : Sl := .un) : BW.Env := [tree_, k_, n_]
def b_law_below : List BW.S := [
    .ret (.comp (.v 2) (.n 2) (.rng (.k (.int 0)) (.b1 .len (.v 0)) (.k (.int 1))) (.or (.cmp .eq (.v 2) (.v 1)) (.or (.cmp .eq (.v 1) (.k (.int 0))) (.cmp .isin (.v 1) (.call i_law_above [.v 0, .v 2])))) [2])]
def d_law_below : BW.DI := ⟨"_law_below", ["tree", "k"], ["tree", "k", "n"], b_law_below⟩
/-- _law_leaves: 0=tree 1=k 2=one -/
abbrev e_law_leaves (tree_ k_ one_ : Sl := .un) : BW.Env := [tree_, k_, one_]
def b_law_leaves : List BW.S := [
    .ret (.comp (.v 1) (.n 1) (.rng (.k (.int 0)) (.b1 .len (.v 0)) (.k (.int 1))) (.not (.b1 .any (.comp (.cmp .eq (.ix (.v 2) (.k (.int 0))) (.v 1)) (.n 2) (.v 0) (.k (.bool true)) [2]))) [1])]
def d_law_leaves : BW.DI := ⟨"_law_leaves", ["tree"], ["tree", "k", "one"], b_law_leaves⟩
/-- _law_is_tree: 0=value 1=k 2=one 3=part -/
abbrev e_law_is_tree (value_ k_ one_ part_ : Sl := .un) : BW.Env := [value_, k_, one_, part_]
def b_law_is_tree_1 : List BW.S := [
    .set 2 (.ix (.v 0) (.v 1)),
    .ite (.or (.not (.isi (.v 2) [.tuple])) (.or (.cmp .ne (.b1 .len (.v 2)) (.k (.int 3))) (.not (.b1 .all (.comp (.and (.isi (.v 3) [.int]) (.and (.not (.isi (.v 3) [.bool])) (.ch .le .le (.k (.int 0)) (.v 3) (.k (.int 1000))))) (.n 3) (.slf (.v 2) (.k (.int 1))) (.k (.bool true)) [3]))))) [
      .ret (.k (.bool false))] [],
    .ite (.and (.cmp .eq (.v 1) (.k (.int 0))) (.or (.notN (.ix (.v 2) (.k (.int 0)))) (.cmp .ne (.ix (.v 2) (.k (.int 1))) (.k (.int 0))))) [
      .ret (.k (.bool false))] [],
    .ite (.and (.cmp .gt (.v 1) (.k (.int 0))) (.or (.not (.isi (.ix (.v 2) (.k (.int 0))) [.int])) (.or (.isi (.ix (.v 2) (.k (.int 0))) [.bool]) (.not (.ch .le .lt (.k (.int 0)) (.ix (.v 2) (.k (.int 0))) (.v 1)))))) [
      .ret (.k (.bool false))] [],
    .wipe [1, 2]]
def b_law_is_tree : List BW.S := [
    .ite (.or (.not (.isi (.v 0) [.tuple])) (.not (.ch .le .le (.k (.int 1)) (.b1 .len (.v 0)) (.k (.int 9))))) [
      .ret (.k (.bool false))] [],
    .for (.n 1) (.rng (.k (.int 0)) (.b1 .len (.v 0)) (.k (.int 1))) b_law_is_tree_1,
    .ret (.k (.bool true))]
def d_law_is_tree : BW.DI := ⟨"_law_is_tree", ["value"], ["value", "k", "one", "part"], b_law_is_tree⟩
/-- _law_refused: 0=way 1=value 2=e -/
abbrev e_law_refused (way_ value_ e_ : Sl := .un) : BW.Env := [way_, value_, e_]
def b_law_refused : List BW.S := [
    .tr [
      .ite (.cmp .eq (.v 0) (.k (.int 0))) [
        .xp (.call i_loads_below [.v 1])] [
        .ite (.cmp .eq (.v 0) (.k (.int 1))) [
          .xp (.call i_delays [.v 1])] [
          .ite (.cmp .eq (.v 0) (.k (.int 2))) [
            .xp (.call i_worst [.v 1])] [
            .ite (.cmp .eq (.v 0) (.k (.int 3))) [
              .xp (.call i_delays_with [.v 1, .k .none, .k .none])] [
              .ite (.cmp .eq (.v 0) (.k (.int 4))) [
                .xp (.call i_best_buffers [.v 1, .k .none])] [
                .xp (.call i_options [.v 1, .k .none])]]]]]] [("BoardError", .is "BadTree" (.bool true) (.bool false))],
    .ret (.k (.bool false))]
def d_law_refused : BW.DI := ⟨"_law_refused", ["way", "value"], ["way", "value", "e"], b_law_refused⟩
/-- _law_load: 0=tree 1=buffer 2=nodes 3=k 4=found 5=n -/
abbrev e_law_load (tree_ buffer_ nodes_ k_ found_ n_ : Sl := .un) : BW.Env := [tree_, buffer_, nodes_, k_, found_, n_]
def b_law_load_1 : List BW.S := [
    .ite (.cmp .eq (.ix (.ix (.v 0) (.v 5)) (.k (.int 0))) (.v 3)) [
      .set 4 (.op .add (.v 4) (.ite (.cmp .isin (.v 5) (.v 2)) (.ix (.v 1) (.k (.int 1))) (.call i_law_load [.v 0, .v 1, .v 2, .v 5])))] [],
    .wipe [5]]
def b_law_load : List BW.S := [
    .set 4 (.ix (.ix (.v 0) (.v 3)) (.k (.int 2))),
    .for (.n 5) (.rng (.op .add (.v 3) (.k (.int 1))) (.b1 .len (.v 0)) (.k (.int 1))) b_law_load_1,
    .ret (.v 4)]
def d_law_load : BW.DI := ⟨"_law_load", ["tree", "buffer", "nodes", "k"], ["tree", "buffer", "nodes", "k", "found", "n"], b_law_load⟩
/-- _law_delay: 0=tree 1=buffer 2=nodes 3=k 4=own 5=found -/
abbrev e_law_delay (tree_ buffer_ nodes_ k_ own_ found_ : Sl := .un) : BW.Env := [tree_, buffer_, nodes_, k_, own_, found_]
def b_law_delay : List BW.S := [
    .ite (.cmp .eq (.v 3) (.k (.int 0))) [
      .ret (.k (.int 0))] [],
    .set 4 (.call i_law_load [.v 0, .v 1, .v 2, .v 3]),
    .set 5 (.call i_law_delay [.v 0, .v 1, .v 2, .ix (.ix (.v 0) (.v 3)) (.k (.int 0))]),
    .ite (.cmp .isin (.v 3) (.v 2)) [
      .ret (.op .add (.op .add (.op .add (.v 5) (.op .mul (.ix (.ix (.v 0) (.v 3)) (.k (.int 1))) (.ix (.v 1) (.k (.int 1))))) (.ix (.v 1) (.k (.int 2)))) (.op .mul (.ix (.v 1) (.k (.int 0))) (.v 4)))] [],
    .ret (.op .add (.v 5) (.op .mul (.ix (.ix (.v 0) (.v 3)) (.k (.int 1))) (.v 4)))]
def d_law_delay : BW.DI := ⟨"_law_delay", ["tree", "buffer", "nodes", "k"], ["tree", "buffer", "nodes", "k", "own", "found"], b_law_delay⟩
/-- _law_buffer: 0=draws 1=k -/
abbrev e_law_buffer (draws_ k_ : Sl := .un) : BW.Env := [draws_, k_]
def b_law_buffer : List BW.S := [
    .ret (.b1 .tuple (.comp (.op .mod (.b1 .int (.ix (.v 0) (.v 1))) (.ix (.lst [.k (.int 9), .k (.int 4), .k (.int 30)]) (.v 1))) (.n 1) (.rng (.k (.int 0)) (.k (.int 3)) (.k (.int 1))) (.k (.bool true)) [1]))]
def d_law_buffer : BW.DI := ⟨"_law_buffer", ["draws"], ["draws", "k"], b_law_buffer⟩
/-- _law_error: 0=way 1=tree 2=buffer 3=nodes 4=e -/
abbrev e_law_error (way_ tree_ buffer_ nodes_ e_ : Sl := .un) : BW.Env := [way_, tree_, buffer_, nodes_, e_]
def b_law_error : List BW.S := [
    .tr [
      .ite (.cmp .eq (.v 0) (.k (.int 0))) [
        .xp (.call i_delays_with [.v 1, .v 2, .v 3])] [
        .ite (.cmp .eq (.v 0) (.k (.int 1))) [
          .xp (.call i_best_buffers [.v 1, .v 2])] [
          .xp (.call i_options [.v 1, .v 2])]]] [("BadBuffer", .k (.str "buffer")), ("BoardError", .is "BadNodes" (.str "nodes") (.str "other"))],
    .ret (.k (.str "none"))]
def d_law_error : BW.DI := ⟨"_law_error", ["way", "tree", "buffer", "nodes"], ["way", "tree", "buffer", "nodes", "e"], b_law_error⟩
def T : List BW.DI := [d_is_whole, d_ascends, d_is_node, d_is_tree, d_check_tree, d_check_buffer, d_leaves_of, d_loads, d_delays_of, d_loads_below, d_delays, d_worst_of, d_worst, d_delays_with, d_options, d_best_buffers, d_law_draws, d_law_tree, d_law_above, d_law_below, d_law_leaves, d_law_is_tree, d_law_refused, d_law_load, d_law_delay, d_law_buffer, d_law_error]
abbrev fuel : Nat := 1000000000
structure Md where
  sub : Str → Str → Option Bool
  R : List BW.DI
def EE (m : Md) (k : Nat) : FE := feN m.sub fuel (T ++ m.R) k
theorem r_is_whole (m : Md) (k : Nat) (value_ least_ most_ : BW.D) : EE m (k + 1) i_is_whole [value_, least_, most_] = ansR (exs (EE m k) m.sub fuel b_is_whole [.fz value_, .fz least_, .fz most_]) := by
  unfold EE; rw [feN_succ (d := d_is_whole) rfl, run_env [.fz value_, .fz least_, .fz most_] rfl rfl]; rfl
theorem r_ascends (m : Md) (k : Nat) (values_ : BW.D) : EE m (k + 1) i_ascends [values_] = ansR (exs (EE m k) m.sub fuel b_ascends [.fz values_, .un, .un]) := by
  unfold EE; rw [feN_succ (d := d_ascends) rfl, run_env [.fz values_, .un, .un] rfl rfl]; rfl
theorem r_is_node (m : Md) (k : Nat) (number_ value_ : BW.D) : EE m (k + 1) i_is_node [number_, value_] = ansR (exs (EE m k) m.sub fuel b_is_node [.fz number_, .fz value_]) := by
  unfold EE; rw [feN_succ (d := d_is_node) rfl, run_env [.fz number_, .fz value_] rfl rfl]; rfl
theorem r_is_tree (m : Md) (k : Nat) (value_ : BW.D) : EE m (k + 1) i_is_tree [value_] = ansR (exs (EE m k) m.sub fuel b_is_tree [.fz value_, .un, .un]) := by
  unfold EE; rw [feN_succ (d := d_is_tree) rfl, run_env [.fz value_, .un, .un] rfl rfl]; rfl
theorem r_check_tree (m : Md) (k : Nat) (value_ : BW.D) : EE m (k + 1) i_check_tree [value_] = ansR (exs (EE m k) m.sub fuel b_check_tree [.fz value_]) := by
  unfold EE; rw [feN_succ (d := d_check_tree) rfl, run_env [.fz value_] rfl rfl]; rfl
theorem r_check_buffer (m : Md) (k : Nat) (value_ : BW.D) : EE m (k + 1) i_check_buffer [value_] = ansR (exs (EE m k) m.sub fuel b_check_buffer [.fz value_, .un]) := by
  unfold EE; rw [feN_succ (d := d_check_buffer) rfl, run_env [.fz value_, .un] rfl rfl]; rfl
theorem r_leaves_of (m : Md) (k : Nat) (tree_ : BW.D) : EE m (k + 1) i_leaves_of [tree_] = ansR (exs (EE m k) m.sub fuel b_leaves_of [.fz tree_, .un, .un, .un]) := by
  unfold EE; rw [feN_succ (d := d_leaves_of) rfl, run_env [.fz tree_, .un, .un, .un] rfl rfl]; rfl
theorem r_loads (m : Md) (k : Nat) (tree_ buffer_ nodes_ : BW.D) : EE m (k + 1) i_loads [tree_, buffer_, nodes_] = ansR (exs (EE m k) m.sub fuel b_loads [.fz tree_, .fz buffer_, .fz nodes_, .un, .un, .un]) := by
  unfold EE; rw [feN_succ (d := d_loads) rfl, run_env [.fz tree_, .fz buffer_, .fz nodes_, .un, .un, .un] rfl rfl]; rfl
theorem r_delays_of (m : Md) (k : Nat) (tree_ buffer_ nodes_ : BW.D) : EE m (k + 1) i_delays_of [tree_, buffer_, nodes_] = ansR (exs (EE m k) m.sub fuel b_delays_of [.fz tree_, .fz buffer_, .fz nodes_, .un, .un, .un, .un, .un, .un]) := by
  unfold EE; rw [feN_succ (d := d_delays_of) rfl, run_env [.fz tree_, .fz buffer_, .fz nodes_, .un, .un, .un, .un, .un, .un] rfl rfl]; rfl
theorem r_loads_below (m : Md) (k : Nat) (tree_ : BW.D) : EE m (k + 1) i_loads_below [tree_] = ansR (exs (EE m k) m.sub fuel b_loads_below [.fz tree_]) := by
  unfold EE; rw [feN_succ (d := d_loads_below) rfl, run_env [.fz tree_] rfl rfl]; rfl
theorem r_delays (m : Md) (k : Nat) (tree_ : BW.D) : EE m (k + 1) i_delays [tree_] = ansR (exs (EE m k) m.sub fuel b_delays [.fz tree_]) := by
  unfold EE; rw [feN_succ (d := d_delays) rfl, run_env [.fz tree_] rfl rfl]; rfl
theorem r_worst_of (m : Md) (k : Nat) (tree_ found_ : BW.D) : EE m (k + 1) i_worst_of [tree_, found_] = ansR (exs (EE m k) m.sub fuel b_worst_of [.fz tree_, .fz found_, .un, .un]) := by
  unfold EE; rw [feN_succ (d := d_worst_of) rfl, run_env [.fz tree_, .fz found_, .un, .un] rfl rfl]; rfl
theorem r_worst (m : Md) (k : Nat) (tree_ : BW.D) : EE m (k + 1) i_worst [tree_] = ansR (exs (EE m k) m.sub fuel b_worst [.fz tree_]) := by
  unfold EE; rw [feN_succ (d := d_worst) rfl, run_env [.fz tree_] rfl rfl]; rfl
theorem r_delays_with (m : Md) (k : Nat) (tree_ buffer_ nodes_ : BW.D) : EE m (k + 1) i_delays_with [tree_, buffer_, nodes_] = ansR (exs (EE m k) m.sub fuel b_delays_with [.fz tree_, .fz buffer_, .fz nodes_, .un]) := by
  unfold EE; rw [feN_succ (d := d_delays_with) rfl, run_env [.fz tree_, .fz buffer_, .fz nodes_, .un] rfl rfl]; rfl
theorem r_options (m : Md) (k : Nat) (tree_ buffer_ : BW.D) : EE m (k + 1) i_options [tree_, buffer_] = ansR (exs (EE m k) m.sub fuel b_options [.fz tree_, .fz buffer_, .un]) := by
  unfold EE; rw [feN_succ (d := d_options) rfl, run_env [.fz tree_, .fz buffer_, .un] rfl rfl]; rfl
theorem r_best_buffers (m : Md) (k : Nat) (tree_ buffer_ : BW.D) : EE m (k + 1) i_best_buffers [tree_, buffer_] = ansR (exs (EE m k) m.sub fuel b_best_buffers [.fz tree_, .fz buffer_, .un, .un, .un, .un, .un, .un, .un]) := by
  unfold EE; rw [feN_succ (d := d_best_buffers) rfl, run_env [.fz tree_, .fz buffer_, .un, .un, .un, .un, .un, .un, .un] rfl rfl]; rfl
theorem r_law_draws (m : Md) (k : Nat) (script_ many_ : BW.D) : EE m (k + 1) i_law_draws [script_, many_] = ansR (exs (EE m k) m.sub fuel b_law_draws [.fz script_, .fz many_, .un, .un, .un, .un, .un]) := by
  unfold EE; rw [feN_succ (d := d_law_draws) rfl, run_env [.fz script_, .fz many_, .un, .un, .un, .un, .un] rfl rfl]; rfl
theorem r_law_tree (m : Md) (k : Nat) (draws_ most_ : BW.D) : EE m (k + 1) i_law_tree [draws_, most_] = ansR (exs (EE m k) m.sub fuel b_law_tree [.fz draws_, .fz most_, .un, .un, .un, .un, .un]) := by
  unfold EE; rw [feN_succ (d := d_law_tree) rfl, run_env [.fz draws_, .fz most_, .un, .un, .un, .un, .un] rfl rfl]; rfl
theorem r_law_above (m : Md) (k : Nat) (tree_ k_ : BW.D) : EE m (k + 1) i_law_above [tree_, k_] = ansR (exs (EE m k) m.sub fuel b_law_above [.fz tree_, .fz k_, .un, .un]) := by
  unfold EE; rw [feN_succ (d := d_law_above) rfl, run_env [.fz tree_, .fz k_, .un, .un] rfl rfl]; rfl
theorem r_law_below (m : Md) (k : Nat) (tree_ k_ : BW.D) : EE m (k + 1) i_law_below [tree_, k_] = ansR (exs (EE m k) m.sub fuel b_law_below [.fz tree_, .fz k_, .un]) := by
  unfold EE; rw [feN_succ (d := d_law_below) rfl, run_env [.fz tree_, .fz k_, .un] rfl rfl]; rfl
theorem r_law_leaves (m : Md) (k : Nat) (tree_ : BW.D) : EE m (k + 1) i_law_leaves [tree_] = ansR (exs (EE m k) m.sub fuel b_law_leaves [.fz tree_, .un, .un]) := by
  unfold EE; rw [feN_succ (d := d_law_leaves) rfl, run_env [.fz tree_, .un, .un] rfl rfl]; rfl
theorem r_law_is_tree (m : Md) (k : Nat) (value_ : BW.D) : EE m (k + 1) i_law_is_tree [value_] = ansR (exs (EE m k) m.sub fuel b_law_is_tree [.fz value_, .un, .un, .un]) := by
  unfold EE; rw [feN_succ (d := d_law_is_tree) rfl, run_env [.fz value_, .un, .un, .un] rfl rfl]; rfl
theorem r_law_refused (m : Md) (k : Nat) (way_ value_ : BW.D) : EE m (k + 1) i_law_refused [way_, value_] = ansR (exs (EE m k) m.sub fuel b_law_refused [.fz way_, .fz value_, .un]) := by
  unfold EE; rw [feN_succ (d := d_law_refused) rfl, run_env [.fz way_, .fz value_, .un] rfl rfl]; rfl
theorem r_law_load (m : Md) (k : Nat) (tree_ buffer_ nodes_ k_ : BW.D) : EE m (k + 1) i_law_load [tree_, buffer_, nodes_, k_] = ansR (exs (EE m k) m.sub fuel b_law_load [.fz tree_, .fz buffer_, .fz nodes_, .fz k_, .un, .un]) := by
  unfold EE; rw [feN_succ (d := d_law_load) rfl, run_env [.fz tree_, .fz buffer_, .fz nodes_, .fz k_, .un, .un] rfl rfl]; rfl
theorem r_law_delay (m : Md) (k : Nat) (tree_ buffer_ nodes_ k_ : BW.D) : EE m (k + 1) i_law_delay [tree_, buffer_, nodes_, k_] = ansR (exs (EE m k) m.sub fuel b_law_delay [.fz tree_, .fz buffer_, .fz nodes_, .fz k_, .un, .un]) := by
  unfold EE; rw [feN_succ (d := d_law_delay) rfl, run_env [.fz tree_, .fz buffer_, .fz nodes_, .fz k_, .un, .un] rfl rfl]; rfl
theorem r_law_buffer (m : Md) (k : Nat) (draws_ : BW.D) : EE m (k + 1) i_law_buffer [draws_] = ansR (exs (EE m k) m.sub fuel b_law_buffer [.fz draws_, .un]) := by
  unfold EE; rw [feN_succ (d := d_law_buffer) rfl, run_env [.fz draws_, .un] rfl rfl]; rfl
theorem r_law_error (m : Md) (k : Nat) (way_ tree_ buffer_ nodes_ : BW.D) : EE m (k + 1) i_law_error [way_, tree_, buffer_, nodes_] = ansR (exs (EE m k) m.sub fuel b_law_error [.fz way_, .fz tree_, .fz buffer_, .fz nodes_, .un]) := by
  unfold EE; rw [feN_succ (d := d_law_error) rfl, run_env [.fz way_, .fz tree_, .fz buffer_, .fz nodes_, .un] rfl rfl]; rfl
end Wt

namespace BW
open PySem PySem.W L2
/-! ### least of pairs -/
abbrev pE (p : Int × Nat) : D := .tuple [.int p.1, natD p.2]
def ltP (p q : Int × Nat) : Bool := decide (p.1 < q.1) || (decide (p.1 = q.1) && decide (p.2 < q.2))
theorem eqv_int (i j : Int) : PyData.eqv (.int i) (.int j) = decide (i = j) := by
  show (i == j) = decide (i = j)
  by_cases h : i = j
  · simp [h]
  · simp [h]
theorem dataLt_ii (i j : Int) : dataLt (.int i) (.int j) = decide (i < j) := by
  have h := dataLt_int i j
  exact h
theorem dataLt_pE (p q : Int × Nat) : dataLt (pE p) (pE q) = ltP p q := by
  have h := dataLt_pair (x := .int p.1) (y := natD p.2) (x' := .int q.1) (y' := natD q.2) rfl rfl
  show dataLt (.tuple [.int p.1, natD p.2]) (.tuple [.int q.1, natD q.2]) = _
  rw [h, eqv_int, eqv_int, dataLt_ii, dataLt_ii]
  unfold ltP
  by_cases h1 : p.1 = q.1
  · by_cases h2 : p.2 = q.2
    · simp [h1, h2]
    · have h3 : ¬ (p.2 : Int) = q.2 := by omega
      simp [h1, h3]
  · simp [h1]
def minP (a : Int × Nat) (L : List (Int × Nat)) : Int × Nat := L.foldl (fun m x => if ltP x m then x else m) a
theorem minD_pE (a : Int × Nat) : ∀ L : List (Int × Nat), minD (pE a) (L.map pE) = pE (minP a L) := fun L => by
  unfold minD minP
  induction L generalizing a with
  | nil => rfl
  | cons x L ih =>
    rw [List.map_cons, List.foldl_cons, List.foldl_cons, dataLt_pE, ← ih]
    congr 1
    split <;> rfl
theorem minP_fst (a : Int × Nat) : ∀ L : List (Int × Nat), (minP a L).1 = (L.map (·.1)).foldl min a.1 := fun L => by
  unfold minP
  induction L generalizing a with
  | nil => rfl
  | cons x L ih =>
    rw [List.foldl_cons, ih, List.map_cons, List.foldl_cons]
    congr 1
    unfold ltP
    by_cases h : x.1 < a.1
    · simp [h]; omega
    · by_cases h2 : x.1 = a.1
      · simp only [h, h2]
        split <;> simp_all <;> omega
      · simp [h, h2]; omega
theorem comp_pE (L : List (Int × Nat)) : (comparable (L.map pE) && (L.map pE).all notNone) = true := by
  unfold comparable
  rw [Bool.and_eq_true, Bool.and_eq_true]
  refine ⟨⟨?_, (Sm.list (f := pE) (L := L) fun a _ => Sm.tuple2 (Sm.int _) (Sm.int _)).sm (by decide)⟩, ?_⟩
  · rw [List.all_eq_true]
    intro a ha
    rw [List.all_eq_true]
    intro b hb
    obtain ⟨i, _, rfl⟩ := List.mem_map.mp ha
    obtain ⟨j, _, rfl⟩ := List.mem_map.mp hb
    rfl
  · rw [List.all_eq_true]
    intro a ha
    obtain ⟨i, _, rfl⟩ := List.mem_map.mp ha
    rfl
theorem min_pairs (a : Int × Nat) (L : List (Int × Nat)) : b1D .min (.list ((a :: L).map pE)) = .ok (pE (minP a L)) := by
  have h := comp_pE (a :: L)
  have e : b1D .min (.list ((a :: L).map pE)) = if (comparable ((a :: L).map pE) && ((a :: L).map pE).all notNone) = true then Res.ok (minD (pE a) (L.map pE)) else .bad := rfl
  rw [e, if_pos h, minD_pE]
end BW

namespace Wt
open PySem PySem.W L2 BW
variable {m : Md} {k : Nat}
/-! ### wholes, ascending -/
def isWh : BW.D → Int → Int → Bool
  | .int i, a, b => decide (a ≤ i) && decide (i ≤ b)
  | _, _, _ => false
theorem whole_ok (d : BW.D) (ok : okD d = true) (a b : Int) : EE m (k + 1) i_is_whole [d, .int a, .int b] = .ok (.bool (isWh d a b)) := by
  rw [r_is_whole]
  cases d with
  | int v => by_cases h : a ≤ v <;> simp -implicitDefEqProofs (disch := first | omega | (simp only [List.length_map, List.length_cons, List.length_nil, List.length_append, List.length_range, List.length_replicate, List.length_tail, List.length_reverse]; omega)) only [getS_0, getS_s, setS_0, setS_s, sr_ok, nx_then, rt_then, ex_then, bk_then, ct_then, ex_sr, asBool_b, asInt_i, items_l, items_t, Res.ok_bind, Res.ex_bind, Res.bad_bind, Res.quiet_ok, op_add_i, op_sub_i, b1_int, b1_abs, b1_lenl, b1_lent, b1_tupl, b1_tupt, b1_listt, b1_listl, lt_i, gt_i, le_i, ge_i, strict_0, strict_s, peek_0, peek_0l, peek_0d, peek_s, bindT_n, bindT_t, bindT_l, bindTs_n, bindTs_c, wipeS_nil, wipeS_cons, e_k, e_v, e_p, e_tup, e_lst, e_nil, e_cons, e_op, e_cmp, e_ch, e_and, e_or, e_not, e_neg, e_ite, e_isN, e_notN, e_ix, e_slf, e_slt, e_slb, e_rev, e_call, e_b1, e_b2, e_isi, e_rng, e_dnil, e_comp, e_dcomp, e_enm', e_zip', e_rl, e_idx, e_join, x_nil, x_cons, x_set, x_setO, x_unp, x_xp, x_ret, x_raise, x_ite, x_forB, x_app, x_tr, x_brk, x_cnt, x_pass, x_fr, x_wipe, x_par, evP_nil, evP_f, evP_t, parR_nil, parR_f, parR_t, x_aug, x_augix, x_setix, setixS_nat, x_extS, x_pop, augD_add, augD_sub, x_while, compR_nil, compR_mapL, compR_some, quiet_ite, in_natL, in_natT, notin_natL, notin_natT, eq_ii, ne_ii, eq_ss, ne_ss, sum_map, all_map, any_map, b2_max, b2_min, ix_0, ix_1, ix_2, ixl_0, ansR_rt, ansR_nx, ansR_ex, toSl_l, toSl_d, sl_tailT, sl_tailL, size_ok, sz_filterL, compG_t, rng_nat, rng_ab, shl_one, shr_nat, band_one, op_mod_i, op_fdiv_i, zipD_map, zipD_tail, add_tup, add_lst, rev_tup, rev_lst, mul_repT, if_true, if_false, ite_true, ite_false, Bool.not_true, Bool.not_false, Bool.false_eq_true, decide_eq_true_eq, decide_true, decide_false, Bool.and_true, Bool.true_and, Bool.or_true, Bool.true_or, Bool.and_false, Bool.false_and, Bool.or_false, Bool.false_or, reduceCtorEq, List.map_cons, List.map_nil, List.length_map, List.length_cons, List.length_nil, List.nil_append, List.cons_append, List.length_range, List.length_append, sz_filterR, Nat.reduceAdd, Int.cast_ofNat_Int, Int.reduceEq, Int.reduceLT, Int.reduceLE, b_is_whole, okD, tyD, List.any_cons, List.any_nil, h, isWh]
  | bool v => simp -implicitDefEqProofs (disch := first | omega | (simp only [List.length_map, List.length_cons, List.length_nil, List.length_append, List.length_range, List.length_replicate, List.length_tail, List.length_reverse]; omega)) only [getS_0, getS_s, setS_0, setS_s, sr_ok, nx_then, rt_then, ex_then, bk_then, ct_then, ex_sr, asBool_b, asInt_i, items_l, items_t, Res.ok_bind, Res.ex_bind, Res.bad_bind, Res.quiet_ok, op_add_i, op_sub_i, b1_int, b1_abs, b1_lenl, b1_lent, b1_tupl, b1_tupt, b1_listt, b1_listl, lt_i, gt_i, le_i, ge_i, strict_0, strict_s, peek_0, peek_0l, peek_0d, peek_s, bindT_n, bindT_t, bindT_l, bindTs_n, bindTs_c, wipeS_nil, wipeS_cons, e_k, e_v, e_p, e_tup, e_lst, e_nil, e_cons, e_op, e_cmp, e_ch, e_and, e_or, e_not, e_neg, e_ite, e_isN, e_notN, e_ix, e_slf, e_slt, e_slb, e_rev, e_call, e_b1, e_b2, e_isi, e_rng, e_dnil, e_comp, e_dcomp, e_enm', e_zip', e_rl, e_idx, e_join, x_nil, x_cons, x_set, x_setO, x_unp, x_xp, x_ret, x_raise, x_ite, x_forB, x_app, x_tr, x_brk, x_cnt, x_pass, x_fr, x_wipe, x_par, evP_nil, evP_f, evP_t, parR_nil, parR_f, parR_t, x_aug, x_augix, x_setix, setixS_nat, x_extS, x_pop, augD_add, augD_sub, x_while, compR_nil, compR_mapL, compR_some, quiet_ite, in_natL, in_natT, notin_natL, notin_natT, eq_ii, ne_ii, eq_ss, ne_ss, sum_map, all_map, any_map, b2_max, b2_min, ix_0, ix_1, ix_2, ixl_0, ansR_rt, ansR_nx, ansR_ex, toSl_l, toSl_d, sl_tailT, sl_tailL, size_ok, sz_filterL, compG_t, rng_nat, rng_ab, shl_one, shr_nat, band_one, op_mod_i, op_fdiv_i, zipD_map, zipD_tail, add_tup, add_lst, rev_tup, rev_lst, mul_repT, if_true, if_false, ite_true, ite_false, Bool.not_true, Bool.not_false, Bool.false_eq_true, decide_eq_true_eq, decide_true, decide_false, Bool.and_true, Bool.true_and, Bool.or_true, Bool.true_or, Bool.and_false, Bool.false_and, Bool.or_false, Bool.false_or, reduceCtorEq, List.map_cons, List.map_nil, List.length_map, List.length_cons, List.length_nil, List.nil_append, List.cons_append, List.length_range, List.length_append, sz_filterR, Nat.reduceAdd, Int.cast_ofNat_Int, Int.reduceEq, Int.reduceLT, Int.reduceLE, b_is_whole, okD, tyD, List.any_cons, List.any_nil, isWh]
  | dict kvs => have : okKeys kvs = true := ok; simp -implicitDefEqProofs (disch := first | omega | (simp only [List.length_map, List.length_cons, List.length_nil, List.length_append, List.length_range, List.length_replicate, List.length_tail, List.length_reverse]; omega)) only [getS_0, getS_s, setS_0, setS_s, sr_ok, nx_then, rt_then, ex_then, bk_then, ct_then, ex_sr, asBool_b, asInt_i, items_l, items_t, Res.ok_bind, Res.ex_bind, Res.bad_bind, Res.quiet_ok, op_add_i, op_sub_i, b1_int, b1_abs, b1_lenl, b1_lent, b1_tupl, b1_tupt, b1_listt, b1_listl, lt_i, gt_i, le_i, ge_i, strict_0, strict_s, peek_0, peek_0l, peek_0d, peek_s, bindT_n, bindT_t, bindT_l, bindTs_n, bindTs_c, wipeS_nil, wipeS_cons, e_k, e_v, e_p, e_tup, e_lst, e_nil, e_cons, e_op, e_cmp, e_ch, e_and, e_or, e_not, e_neg, e_ite, e_isN, e_notN, e_ix, e_slf, e_slt, e_slb, e_rev, e_call, e_b1, e_b2, e_isi, e_rng, e_dnil, e_comp, e_dcomp, e_enm', e_zip', e_rl, e_idx, e_join, x_nil, x_cons, x_set, x_setO, x_unp, x_xp, x_ret, x_raise, x_ite, x_forB, x_app, x_tr, x_brk, x_cnt, x_pass, x_fr, x_wipe, x_par, evP_nil, evP_f, evP_t, parR_nil, parR_f, parR_t, x_aug, x_augix, x_setix, setixS_nat, x_extS, x_pop, augD_add, augD_sub, x_while, compR_nil, compR_mapL, compR_some, quiet_ite, in_natL, in_natT, notin_natL, notin_natT, eq_ii, ne_ii, eq_ss, ne_ss, sum_map, all_map, any_map, b2_max, b2_min, ix_0, ix_1, ix_2, ixl_0, ansR_rt, ansR_nx, ansR_ex, toSl_l, toSl_d, sl_tailT, sl_tailL, size_ok, sz_filterL, compG_t, rng_nat, rng_ab, shl_one, shr_nat, band_one, op_mod_i, op_fdiv_i, zipD_map, zipD_tail, add_tup, add_lst, rev_tup, rev_lst, mul_repT, if_true, if_false, ite_true, ite_false, Bool.not_true, Bool.not_false, Bool.false_eq_true, decide_eq_true_eq, decide_true, decide_false, Bool.and_true, Bool.true_and, Bool.or_true, Bool.true_or, Bool.and_false, Bool.false_and, Bool.or_false, Bool.false_or, reduceCtorEq, List.map_cons, List.map_nil, List.length_map, List.length_cons, List.length_nil, List.nil_append, List.cons_append, List.length_range, List.length_append, sz_filterR, Nat.reduceAdd, Int.cast_ofNat_Int, Int.reduceEq, Int.reduceLT, Int.reduceLE, b_is_whole, okD, this, tyD, List.any_cons, List.any_nil, isWh]
  | _ => simp -implicitDefEqProofs (disch := first | omega | (simp only [List.length_map, List.length_cons, List.length_nil, List.length_append, List.length_range, List.length_replicate, List.length_tail, List.length_reverse]; omega)) only [getS_0, getS_s, setS_0, setS_s, sr_ok, nx_then, rt_then, ex_then, bk_then, ct_then, ex_sr, asBool_b, asInt_i, items_l, items_t, Res.ok_bind, Res.ex_bind, Res.bad_bind, Res.quiet_ok, op_add_i, op_sub_i, b1_int, b1_abs, b1_lenl, b1_lent, b1_tupl, b1_tupt, b1_listt, b1_listl, lt_i, gt_i, le_i, ge_i, strict_0, strict_s, peek_0, peek_0l, peek_0d, peek_s, bindT_n, bindT_t, bindT_l, bindTs_n, bindTs_c, wipeS_nil, wipeS_cons, e_k, e_v, e_p, e_tup, e_lst, e_nil, e_cons, e_op, e_cmp, e_ch, e_and, e_or, e_not, e_neg, e_ite, e_isN, e_notN, e_ix, e_slf, e_slt, e_slb, e_rev, e_call, e_b1, e_b2, e_isi, e_rng, e_dnil, e_comp, e_dcomp, e_enm', e_zip', e_rl, e_idx, e_join, x_nil, x_cons, x_set, x_setO, x_unp, x_xp, x_ret, x_raise, x_ite, x_forB, x_app, x_tr, x_brk, x_cnt, x_pass, x_fr, x_wipe, x_par, evP_nil, evP_f, evP_t, parR_nil, parR_f, parR_t, x_aug, x_augix, x_setix, setixS_nat, x_extS, x_pop, augD_add, augD_sub, x_while, compR_nil, compR_mapL, compR_some, quiet_ite, in_natL, in_natT, notin_natL, notin_natT, eq_ii, ne_ii, eq_ss, ne_ss, sum_map, all_map, any_map, b2_max, b2_min, ix_0, ix_1, ix_2, ixl_0, ansR_rt, ansR_nx, ansR_ex, toSl_l, toSl_d, sl_tailT, sl_tailL, size_ok, sz_filterL, compG_t, rng_nat, rng_ab, shl_one, shr_nat, band_one, op_mod_i, op_fdiv_i, zipD_map, zipD_tail, add_tup, add_lst, rev_tup, rev_lst, mul_repT, if_true, if_false, ite_true, ite_false, Bool.not_true, Bool.not_false, Bool.false_eq_true, decide_eq_true_eq, decide_true, decide_false, Bool.and_true, Bool.true_and, Bool.or_true, Bool.true_or, Bool.and_false, Bool.false_and, Bool.or_false, Bool.false_or, reduceCtorEq, List.map_cons, List.map_nil, List.length_map, List.length_cons, List.length_nil, List.nil_append, List.cons_append, List.length_range, List.length_append, sz_filterR, Nat.reduceAdd, Int.cast_ofNat_Int, Int.reduceEq, Int.reduceLT, Int.reduceLE, b_is_whole, okD, tyD, List.any_cons, List.any_nil, isWh]
def adjI (L : List Int) : Bool := (L.zip L.tail).all fun p => decide (p.1 < p.2)
theorem ascends_int (L : List Int) (hz : L.length ≤ 1000) : EE m (k + 1) i_ascends [.tuple (L.map .int)] = .ok (.bool (adjI L)) := by
  rw [r_ascends]
  have : (L.zip L.tail).length ≤ 1000 := by simp; omega
  simp -implicitDefEqProofs (disch := first | omega | (simp only [List.length_map, List.length_cons, List.length_nil, List.length_append, List.length_range, List.length_replicate, List.length_tail, List.length_reverse]; omega)) only [getS_0, getS_s, setS_0, setS_s, sr_ok, nx_then, rt_then, ex_then, bk_then, ct_then, ex_sr, asBool_b, asInt_i, items_l, items_t, Res.ok_bind, Res.ex_bind, Res.bad_bind, Res.quiet_ok, op_add_i, op_sub_i, b1_int, b1_abs, b1_lenl, b1_lent, b1_tupl, b1_tupt, b1_listt, b1_listl, lt_i, gt_i, le_i, ge_i, strict_0, strict_s, peek_0, peek_0l, peek_0d, peek_s, bindT_n, bindT_t, bindT_l, bindTs_n, bindTs_c, wipeS_nil, wipeS_cons, e_k, e_v, e_p, e_tup, e_lst, e_nil, e_cons, e_op, e_cmp, e_ch, e_and, e_or, e_not, e_neg, e_ite, e_isN, e_notN, e_ix, e_slf, e_slt, e_slb, e_rev, e_call, e_b1, e_b2, e_isi, e_rng, e_dnil, e_comp, e_dcomp, e_enm', e_zip', e_rl, e_idx, e_join, x_nil, x_cons, x_set, x_setO, x_unp, x_xp, x_ret, x_raise, x_ite, x_forB, x_app, x_tr, x_brk, x_cnt, x_pass, x_fr, x_wipe, x_par, evP_nil, evP_f, evP_t, parR_nil, parR_f, parR_t, x_aug, x_augix, x_setix, setixS_nat, x_extS, x_pop, augD_add, augD_sub, x_while, compR_nil, compR_mapL, compR_some, quiet_ite, in_natL, in_natT, notin_natL, notin_natT, eq_ii, ne_ii, eq_ss, ne_ss, sum_map, all_map, any_map, b2_max, b2_min, ix_0, ix_1, ix_2, ixl_0, ansR_rt, ansR_nx, ansR_ex, toSl_l, toSl_d, sl_tailT, sl_tailL, size_ok, sz_filterL, compG_t, rng_nat, rng_ab, shl_one, shr_nat, band_one, op_mod_i, op_fdiv_i, zipD_map, zipD_tail, add_tup, add_lst, rev_tup, rev_lst, mul_repT, if_true, if_false, ite_true, ite_false, Bool.not_true, Bool.not_false, Bool.false_eq_true, decide_eq_true_eq, decide_true, decide_false, Bool.and_true, Bool.true_and, Bool.or_true, Bool.true_or, Bool.and_false, Bool.false_and, Bool.or_false, Bool.false_or, reduceCtorEq, List.map_cons, List.map_nil, List.length_map, List.length_cons, List.length_nil, List.nil_append, List.cons_append, List.length_range, List.length_append, sz_filterR, Nat.reduceAdd, Int.cast_ofNat_Int, Int.reduceEq, Int.reduceLT, Int.reduceLE, b_ascends]
  rfl
def asc (L : List Nat) : Prop := L.Pairwise (· < ·)
theorem asc_adj : ∀ L : List Nat, asc L → adjI (L.map fun k : Nat => (k : Int)) = true
  | [], _ => rfl
  | [a], _ => rfl
  | a :: b :: L, h => by
    have h1 : asc (b :: L) := (List.pairwise_cons.mp h).2
    have h2 := asc_adj (b :: L) h1
    have h3 : a < b := (List.pairwise_cons.mp h).1 b (by simp)
    unfold adjI at h2 ⊢
    simp only [List.map_cons, List.tail_cons, List.zip_cons_cons, List.all_cons, Bool.and_eq_true, decide_eq_true_eq] at h2 ⊢
    exact ⟨by omega, h2⟩
theorem nat_int (L : List Nat) : L.map natD = (L.map fun k : Nat => (k : Int)).map PyData.int := by rw [List.map_map]; rfl
/-! ### trees -/
structure Tr where
  n : Nat
  p : Nat → Nat
  r : Nat → Nat
  l : Nat → Nat
def nodeD (t : Tr) (i : Nat) : BW.D := .tuple [if i = 0 then .none else natD (t.p i), natD (t.r i), natD (t.l i)]
def tD (t : Tr) : BW.D := .tuple ((List.range t.n).map (nodeD t))
structure Good (t : Tr) : Prop where
  n1 : 1 ≤ t.n
  n9 : t.n ≤ 9
  r0 : t.r 0 = 0
  p : ∀ i, 0 < i → i < t.n → t.p i < i
  r : ∀ i, i < t.n → t.r i ≤ 1000
  l : ∀ i, i < t.n → t.l i ≤ 1000
theorem tD_len (t : Tr) : b1D .len (tD t) = .ok (.int t.n) := by unfold tD; simp
theorem tD_ix (t : Tr) (i : Nat) (h : i < t.n) : ixD (tD t) (.int (i : Int)) = .ok (nodeD t i) := by
  unfold tD
  rw [ixT_nat (nodeD t) _ i (by simpa using h), List.getElem_range]
theorem node0 (t : Tr) (i : Nat) (h : 0 < i) : ixD (nodeD t i) (.int 0) = .ok (natD (t.p i)) := by
  unfold nodeD
  rw [if_neg (by omega)]; simp
theorem node1 (t : Tr) (i : Nat) : ixD (nodeD t i) (.int 1) = .ok (natD (t.r i)) := by unfold nodeD; simp
theorem node2 (t : Tr) (i : Nat) : ixD (nodeD t i) (.int 2) = .ok (natD (t.l i)) := by unfold nodeD; simp
theorem is_node_ok {t : Tr} (g : Good t) (i : Nat) (hi : i < t.n) : EE m (k + 2) i_is_node [natD i, nodeD t i] = .ok (.bool true) := by
  rw [r_is_node]
  have hl := g.l i hi
  have hr := g.r i hi
  have w1 := whole_ok (m := m) (k := k) (natD (t.l i)) rfl 0 1000
  have w2 := whole_ok (m := m) (k := k) (natD (t.r i)) rfl 0 1000
  have e1 : isWh (natD (t.l i)) 0 1000 = true := by simp [isWh]; omega
  have e2 : isWh (natD (t.r i)) 0 1000 = true := by simp [isWh]; omega
  rw [e1] at w1
  rw [e2] at w2
  by_cases h0 : i = 0
  · subst h0
    have w3 := whole_ok (m := m) (k := k) (natD (t.r 0)) rfl 0 0
    have e3 : isWh (natD (t.r 0)) 0 0 = true := by simp [isWh, g.r0]
    have ez : ((0 : Nat) : Int) = 0 := rfl
    rw [e3] at w3
    simp -implicitDefEqProofs (disch := first | omega | (simp only [List.length_map, List.length_cons, List.length_nil, List.length_append, List.length_range, List.length_replicate, List.length_tail, List.length_reverse]; omega)) only [getS_0, getS_s, setS_0, setS_s, sr_ok, nx_then, rt_then, ex_then, bk_then, ct_then, ex_sr, asBool_b, asInt_i, items_l, items_t, Res.ok_bind, Res.ex_bind, Res.bad_bind, Res.quiet_ok, op_add_i, op_sub_i, b1_int, b1_abs, b1_lenl, b1_lent, b1_tupl, b1_tupt, b1_listt, b1_listl, lt_i, gt_i, le_i, ge_i, strict_0, strict_s, peek_0, peek_0l, peek_0d, peek_s, bindT_n, bindT_t, bindT_l, bindTs_n, bindTs_c, wipeS_nil, wipeS_cons, e_k, e_v, e_p, e_tup, e_lst, e_nil, e_cons, e_op, e_cmp, e_ch, e_and, e_or, e_not, e_neg, e_ite, e_isN, e_notN, e_ix, e_slf, e_slt, e_slb, e_rev, e_call, e_b1, e_b2, e_isi, e_rng, e_dnil, e_comp, e_dcomp, e_enm', e_zip', e_rl, e_idx, e_join, x_nil, x_cons, x_set, x_setO, x_unp, x_xp, x_ret, x_raise, x_ite, x_forB, x_app, x_tr, x_brk, x_cnt, x_pass, x_fr, x_wipe, x_par, evP_nil, evP_f, evP_t, parR_nil, parR_f, parR_t, x_aug, x_augix, x_setix, setixS_nat, x_extS, x_pop, augD_add, augD_sub, x_while, compR_nil, compR_mapL, compR_some, quiet_ite, in_natL, in_natT, notin_natL, notin_natT, eq_ii, ne_ii, eq_ss, ne_ss, sum_map, all_map, any_map, b2_max, b2_min, ix_0, ix_1, ix_2, ixl_0, ansR_rt, ansR_nx, ansR_ex, toSl_l, toSl_d, sl_tailT, sl_tailL, size_ok, sz_filterL, compG_t, rng_nat, rng_ab, shl_one, shr_nat, band_one, op_mod_i, op_fdiv_i, zipD_map, zipD_tail, add_tup, add_lst, rev_tup, rev_lst, mul_repT, if_true, if_false, ite_true, ite_false, Bool.not_true, Bool.not_false, Bool.false_eq_true, decide_eq_true_eq, decide_true, decide_false, Bool.and_true, Bool.true_and, Bool.or_true, Bool.true_or, Bool.and_false, Bool.false_and, Bool.or_false, Bool.false_or, reduceCtorEq, List.map_cons, List.map_nil, List.length_map, List.length_cons, List.length_nil, List.nil_append, List.cons_append, List.length_range, List.length_append, sz_filterR, Nat.reduceAdd, Int.cast_ofNat_Int, Int.reduceEq, Int.reduceLT, Int.reduceLE, b_is_node, nodeD, ez, okD, tyD, List.any_cons, List.any_nil, w1, w3, notNone]
  · have hp := g.p i (by omega) hi
    have w3 := whole_ok (m := m) (k := k) (natD (t.p i)) rfl 0 ((i : Int) - 1)
    have e3 : isWh (natD (t.p i)) 0 ((i : Int) - 1) = true := by simp [isWh]; omega
    have ei : ¬ (i : Int) = 0 := by omega
    rw [e3] at w3
    simp -implicitDefEqProofs (disch := first | omega | (simp only [List.length_map, List.length_cons, List.length_nil, List.length_append, List.length_range, List.length_replicate, List.length_tail, List.length_reverse]; omega)) only [getS_0, getS_s, setS_0, setS_s, sr_ok, nx_then, rt_then, ex_then, bk_then, ct_then, ex_sr, asBool_b, asInt_i, items_l, items_t, Res.ok_bind, Res.ex_bind, Res.bad_bind, Res.quiet_ok, op_add_i, op_sub_i, b1_int, b1_abs, b1_lenl, b1_lent, b1_tupl, b1_tupt, b1_listt, b1_listl, lt_i, gt_i, le_i, ge_i, strict_0, strict_s, peek_0, peek_0l, peek_0d, peek_s, bindT_n, bindT_t, bindT_l, bindTs_n, bindTs_c, wipeS_nil, wipeS_cons, e_k, e_v, e_p, e_tup, e_lst, e_nil, e_cons, e_op, e_cmp, e_ch, e_and, e_or, e_not, e_neg, e_ite, e_isN, e_notN, e_ix, e_slf, e_slt, e_slb, e_rev, e_call, e_b1, e_b2, e_isi, e_rng, e_dnil, e_comp, e_dcomp, e_enm', e_zip', e_rl, e_idx, e_join, x_nil, x_cons, x_set, x_setO, x_unp, x_xp, x_ret, x_raise, x_ite, x_forB, x_app, x_tr, x_brk, x_cnt, x_pass, x_fr, x_wipe, x_par, evP_nil, evP_f, evP_t, parR_nil, parR_f, parR_t, x_aug, x_augix, x_setix, setixS_nat, x_extS, x_pop, augD_add, augD_sub, x_while, compR_nil, compR_mapL, compR_some, quiet_ite, in_natL, in_natT, notin_natL, notin_natT, eq_ii, ne_ii, eq_ss, ne_ss, sum_map, all_map, any_map, b2_max, b2_min, ix_0, ix_1, ix_2, ixl_0, ansR_rt, ansR_nx, ansR_ex, toSl_l, toSl_d, sl_tailT, sl_tailL, size_ok, sz_filterL, compG_t, rng_nat, rng_ab, shl_one, shr_nat, band_one, op_mod_i, op_fdiv_i, zipD_map, zipD_tail, add_tup, add_lst, rev_tup, rev_lst, mul_repT, if_true, if_false, ite_true, ite_false, Bool.not_true, Bool.not_false, Bool.false_eq_true, decide_eq_true_eq, decide_true, decide_false, Bool.and_true, Bool.true_and, Bool.or_true, Bool.true_or, Bool.and_false, Bool.false_and, Bool.or_false, Bool.false_or, reduceCtorEq, List.map_cons, List.map_nil, List.length_map, List.length_cons, List.length_nil, List.nil_append, List.cons_append, List.length_range, List.length_append, sz_filterR, Nat.reduceAdd, Int.cast_ofNat_Int, Int.reduceEq, Int.reduceLT, Int.reduceLE, b_is_node, nodeD, h0, ei, okD, tyD, List.any_cons, List.any_nil, w1, w2, w3]
theorem enum_tree (t : Tr) : enumD 0 ((List.range t.n).map (nodeD t)) = (List.range t.n).map fun i => .tuple [natD i, nodeD t i] := by
  rw [enumD_map (nodeD t) 0, List.length_range]
  apply List.map_congr_left
  intro i hi
  have := List.mem_range.mp hi
  simp [this]
theorem is_tree_ok {t : Tr} (g : Good t) : EE m (k + 3) i_is_tree [tD t] = .ok (.bool true) := by
  rw [r_is_tree]
  have h1 : (1 : Int) ≤ t.n := by have := g.n1; omega
  have h9 : (t.n : Int) ≤ 9 := by have := g.n9; omega
  have h9' := g.n9
  have hok : okD (tD t) = true := rfl
  have hty : tyD .tuple (tD t) = true := rfl
  have hi : items (tD t) = some ((List.range t.n).map (nodeD t)) := rfl
  simp -implicitDefEqProofs (disch := first | omega | (simp only [List.length_map, List.length_cons, List.length_nil, List.length_append, List.length_range, List.length_replicate, List.length_tail, List.length_reverse]; omega)) only [getS_0, getS_s, setS_0, setS_s, sr_ok, nx_then, rt_then, ex_then, bk_then, ct_then, ex_sr, asBool_b, asInt_i, items_l, items_t, Res.ok_bind, Res.ex_bind, Res.bad_bind, Res.quiet_ok, op_add_i, op_sub_i, b1_int, b1_abs, b1_lenl, b1_lent, b1_tupl, b1_tupt, b1_listt, b1_listl, lt_i, gt_i, le_i, ge_i, strict_0, strict_s, peek_0, peek_0l, peek_0d, peek_s, bindT_n, bindT_t, bindT_l, bindTs_n, bindTs_c, wipeS_nil, wipeS_cons, e_k, e_v, e_p, e_tup, e_lst, e_nil, e_cons, e_op, e_cmp, e_ch, e_and, e_or, e_not, e_neg, e_ite, e_isN, e_notN, e_ix, e_slf, e_slt, e_slb, e_rev, e_call, e_b1, e_b2, e_isi, e_rng, e_dnil, e_comp, e_dcomp, e_enm', e_zip', e_rl, e_idx, e_join, x_nil, x_cons, x_set, x_setO, x_unp, x_xp, x_ret, x_raise, x_ite, x_forB, x_app, x_tr, x_brk, x_cnt, x_pass, x_fr, x_wipe, x_par, evP_nil, evP_f, evP_t, parR_nil, parR_f, parR_t, x_aug, x_augix, x_setix, setixS_nat, x_extS, x_pop, augD_add, augD_sub, x_while, compR_nil, compR_mapL, compR_some, quiet_ite, in_natL, in_natT, notin_natL, notin_natT, eq_ii, ne_ii, eq_ss, ne_ss, sum_map, all_map, any_map, b2_max, b2_min, ix_0, ix_1, ix_2, ixl_0, ansR_rt, ansR_nx, ansR_ex, toSl_l, toSl_d, sl_tailT, sl_tailL, size_ok, sz_filterL, compG_t, rng_nat, rng_ab, shl_one, shr_nat, band_one, op_mod_i, op_fdiv_i, zipD_map, zipD_tail, add_tup, add_lst, rev_tup, rev_lst, mul_repT, if_true, if_false, ite_true, ite_false, Bool.not_true, Bool.not_false, Bool.false_eq_true, decide_eq_true_eq, decide_true, decide_false, Bool.and_true, Bool.true_and, Bool.or_true, Bool.true_or, Bool.and_false, Bool.false_and, Bool.or_false, Bool.false_or, reduceCtorEq, List.map_cons, List.map_nil, List.length_map, List.length_cons, List.length_nil, List.nil_append, List.cons_append, List.length_range, List.length_append, sz_filterR, Nat.reduceAdd, Int.cast_ofNat_Int, Int.reduceEq, Int.reduceLT, Int.reduceLE, b_is_tree, hok, hty, List.any_cons, List.any_nil, tD_len, h1, h9, hi, enum_tree]
  rw [compR_ok (g := fun _ => .bool true)]
  · simp -implicitDefEqProofs (disch := first | omega | (simp only [List.length_map, List.length_cons, List.length_nil, List.length_append, List.length_range, List.length_replicate, List.length_tail, List.length_reverse]; omega)) only [getS_0, getS_s, setS_0, setS_s, sr_ok, nx_then, rt_then, ex_then, bk_then, ct_then, ex_sr, asBool_b, asInt_i, items_l, items_t, Res.ok_bind, Res.ex_bind, Res.bad_bind, Res.quiet_ok, op_add_i, op_sub_i, b1_int, b1_abs, b1_lenl, b1_lent, b1_tupl, b1_tupt, b1_listt, b1_listl, lt_i, gt_i, le_i, ge_i, strict_0, strict_s, peek_0, peek_0l, peek_0d, peek_s, bindT_n, bindT_t, bindT_l, bindTs_n, bindTs_c, wipeS_nil, wipeS_cons, e_k, e_v, e_p, e_tup, e_lst, e_nil, e_cons, e_op, e_cmp, e_ch, e_and, e_or, e_not, e_neg, e_ite, e_isN, e_notN, e_ix, e_slf, e_slt, e_slb, e_rev, e_call, e_b1, e_b2, e_isi, e_rng, e_dnil, e_comp, e_dcomp, e_enm', e_zip', e_rl, e_idx, e_join, x_nil, x_cons, x_set, x_setO, x_unp, x_xp, x_ret, x_raise, x_ite, x_forB, x_app, x_tr, x_brk, x_cnt, x_pass, x_fr, x_wipe, x_par, evP_nil, evP_f, evP_t, parR_nil, parR_f, parR_t, x_aug, x_augix, x_setix, setixS_nat, x_extS, x_pop, augD_add, augD_sub, x_while, compR_nil, compR_mapL, compR_some, quiet_ite, in_natL, in_natT, notin_natL, notin_natT, eq_ii, ne_ii, eq_ss, ne_ss, sum_map, all_map, any_map, b2_max, b2_min, ix_0, ix_1, ix_2, ixl_0, ansR_rt, ansR_nx, ansR_ex, toSl_l, toSl_d, sl_tailT, sl_tailL, size_ok, sz_filterL, compG_t, rng_nat, rng_ab, shl_one, shr_nat, band_one, op_mod_i, op_fdiv_i, zipD_map, zipD_tail, add_tup, add_lst, rev_tup, rev_lst, mul_repT, if_true, if_false, ite_true, ite_false, Bool.not_true, Bool.not_false, Bool.false_eq_true, decide_eq_true_eq, decide_true, decide_false, Bool.and_true, Bool.true_and, Bool.or_true, Bool.true_or, Bool.and_false, Bool.false_and, Bool.or_false, Bool.false_or, reduceCtorEq, List.map_cons, List.map_nil, List.length_map, List.length_cons, List.length_nil, List.nil_append, List.cons_append, List.length_range, List.length_append, sz_filterR, Nat.reduceAdd, Int.cast_ofNat_Int, Int.reduceEq, Int.reduceLT, Int.reduceLE]
    simp
  · intro i hi
    have hi := List.mem_range.mp hi
    simp -implicitDefEqProofs (disch := first | omega | (simp only [List.length_map, List.length_cons, List.length_nil, List.length_append, List.length_range, List.length_replicate, List.length_tail, List.length_reverse]; omega)) only [getS_0, getS_s, setS_0, setS_s, sr_ok, nx_then, rt_then, ex_then, bk_then, ct_then, ex_sr, asBool_b, asInt_i, items_l, items_t, Res.ok_bind, Res.ex_bind, Res.bad_bind, Res.quiet_ok, op_add_i, op_sub_i, b1_int, b1_abs, b1_lenl, b1_lent, b1_tupl, b1_tupt, b1_listt, b1_listl, lt_i, gt_i, le_i, ge_i, strict_0, strict_s, peek_0, peek_0l, peek_0d, peek_s, bindT_n, bindT_t, bindT_l, bindTs_n, bindTs_c, wipeS_nil, wipeS_cons, e_k, e_v, e_p, e_tup, e_lst, e_nil, e_cons, e_op, e_cmp, e_ch, e_and, e_or, e_not, e_neg, e_ite, e_isN, e_notN, e_ix, e_slf, e_slt, e_slb, e_rev, e_call, e_b1, e_b2, e_isi, e_rng, e_dnil, e_comp, e_dcomp, e_enm', e_zip', e_rl, e_idx, e_join, x_nil, x_cons, x_set, x_setO, x_unp, x_xp, x_ret, x_raise, x_ite, x_forB, x_app, x_tr, x_brk, x_cnt, x_pass, x_fr, x_wipe, x_par, evP_nil, evP_f, evP_t, parR_nil, parR_f, parR_t, x_aug, x_augix, x_setix, setixS_nat, x_extS, x_pop, augD_add, augD_sub, x_while, compR_nil, compR_mapL, compR_some, quiet_ite, in_natL, in_natT, notin_natL, notin_natT, eq_ii, ne_ii, eq_ss, ne_ss, sum_map, all_map, any_map, b2_max, b2_min, ix_0, ix_1, ix_2, ixl_0, ansR_rt, ansR_nx, ansR_ex, toSl_l, toSl_d, sl_tailT, sl_tailL, size_ok, sz_filterL, compG_t, rng_nat, rng_ab, shl_one, shr_nat, band_one, op_mod_i, op_fdiv_i, zipD_map, zipD_tail, add_tup, add_lst, rev_tup, rev_lst, mul_repT, if_true, if_false, ite_true, ite_false, Bool.not_true, Bool.not_false, Bool.false_eq_true, decide_eq_true_eq, decide_true, decide_false, Bool.and_true, Bool.true_and, Bool.or_true, Bool.true_or, Bool.and_false, Bool.false_and, Bool.or_false, Bool.false_or, reduceCtorEq, List.map_cons, List.map_nil, List.length_map, List.length_cons, List.length_nil, List.nil_append, List.cons_append, List.length_range, List.length_append, sz_filterR, Nat.reduceAdd, Int.cast_ofNat_Int, Int.reduceEq, Int.reduceLT, Int.reduceLE, is_node_ok g i hi]
theorem check_tree_ok {t : Tr} (g : Good t) : EE m (k + 4) i_check_tree [tD t] = .ok .none := by
  rw [r_check_tree]
  simp -implicitDefEqProofs (disch := first | omega | (simp only [List.length_map, List.length_cons, List.length_nil, List.length_append, List.length_range, List.length_replicate, List.length_tail, List.length_reverse]; omega)) only [getS_0, getS_s, setS_0, setS_s, sr_ok, nx_then, rt_then, ex_then, bk_then, ct_then, ex_sr, asBool_b, asInt_i, items_l, items_t, Res.ok_bind, Res.ex_bind, Res.bad_bind, Res.quiet_ok, op_add_i, op_sub_i, b1_int, b1_abs, b1_lenl, b1_lent, b1_tupl, b1_tupt, b1_listt, b1_listl, lt_i, gt_i, le_i, ge_i, strict_0, strict_s, peek_0, peek_0l, peek_0d, peek_s, bindT_n, bindT_t, bindT_l, bindTs_n, bindTs_c, wipeS_nil, wipeS_cons, e_k, e_v, e_p, e_tup, e_lst, e_nil, e_cons, e_op, e_cmp, e_ch, e_and, e_or, e_not, e_neg, e_ite, e_isN, e_notN, e_ix, e_slf, e_slt, e_slb, e_rev, e_call, e_b1, e_b2, e_isi, e_rng, e_dnil, e_comp, e_dcomp, e_enm', e_zip', e_rl, e_idx, e_join, x_nil, x_cons, x_set, x_setO, x_unp, x_xp, x_ret, x_raise, x_ite, x_forB, x_app, x_tr, x_brk, x_cnt, x_pass, x_fr, x_wipe, x_par, evP_nil, evP_f, evP_t, parR_nil, parR_f, parR_t, x_aug, x_augix, x_setix, setixS_nat, x_extS, x_pop, augD_add, augD_sub, x_while, compR_nil, compR_mapL, compR_some, quiet_ite, in_natL, in_natT, notin_natL, notin_natT, eq_ii, ne_ii, eq_ss, ne_ss, sum_map, all_map, any_map, b2_max, b2_min, ix_0, ix_1, ix_2, ixl_0, ansR_rt, ansR_nx, ansR_ex, toSl_l, toSl_d, sl_tailT, sl_tailL, size_ok, sz_filterL, compG_t, rng_nat, rng_ab, shl_one, shr_nat, band_one, op_mod_i, op_fdiv_i, zipD_map, zipD_tail, add_tup, add_lst, rev_tup, rev_lst, mul_repT, if_true, if_false, ite_true, ite_false, Bool.not_true, Bool.not_false, Bool.false_eq_true, decide_eq_true_eq, decide_true, decide_false, Bool.and_true, Bool.true_and, Bool.or_true, Bool.true_or, Bool.and_false, Bool.false_and, Bool.or_false, Bool.false_or, reduceCtorEq, List.map_cons, List.map_nil, List.length_map, List.length_cons, List.length_nil, List.nil_append, List.cons_append, List.length_range, List.length_append, sz_filterR, Nat.reduceAdd, Int.cast_ofNat_Int, Int.reduceEq, Int.reduceLT, Int.reduceLE, b_check_tree, is_tree_ok g]
/-! ### buffers -/
def bfD (b : Nat × Nat × Nat) : BW.D := .tuple [natD b.1, natD b.2.1, natD b.2.2]
def bufOk : BW.D → Bool
  | .tuple [a, b, c] => isWh a 0 1000 && isWh b 0 1000 && isWh c 0 1000
  | _ => false
theorem check_buffer_gen (v : BW.D) (ok : okD v = true) (oks : ∀ ds, v = .tuple ds → ds.length ≤ 100 ∧ ∀ d ∈ ds, okD d = true) : EE m (k + 2) i_check_buffer [v] = if bufOk v then .ok .none else .ex "BadBuffer" := by
  rw [r_check_buffer]
  by_cases ht : ∃ ds, v = .tuple ds
  · obtain ⟨ds, rfl⟩ := ht
    obtain ⟨hz, ho⟩ := oks ds rfl
    by_cases hl : ds.length = 3
    · obtain ⟨a, b, c, rfl⟩ : ∃ a b c, ds = [a, b, c] := by
        match ds, hl with
        | [a, b, c], _ => exact ⟨a, b, c, rfl⟩
      have hc : compR (compG (EE m (k + 1)) (.call i_is_whole [.v 1, .k (.int 0), .k (.int 1000)]) (.n 1) (.k (.bool true)) [1] [.fz (.tuple [a, b, c]), .un]) [a, b, c] = .ok [PyData.bool (isWh a 0 1000), PyData.bool (isWh b 0 1000), PyData.bool (isWh c 0 1000)] := by
        refine compR_ok (g := fun d => PyData.bool (isWh d 0 1000)) fun d hd => ?_
        simp -implicitDefEqProofs (disch := first | omega | (simp only [List.length_map, List.length_cons, List.length_nil, List.length_append, List.length_range, List.length_replicate, List.length_tail, List.length_reverse]; omega)) only [getS_0, getS_s, setS_0, setS_s, sr_ok, nx_then, rt_then, ex_then, bk_then, ct_then, ex_sr, asBool_b, asInt_i, items_l, items_t, Res.ok_bind, Res.ex_bind, Res.bad_bind, Res.quiet_ok, op_add_i, op_sub_i, b1_int, b1_abs, b1_lenl, b1_lent, b1_tupl, b1_tupt, b1_listt, b1_listl, lt_i, gt_i, le_i, ge_i, strict_0, strict_s, peek_0, peek_0l, peek_0d, peek_s, bindT_n, bindT_t, bindT_l, bindTs_n, bindTs_c, wipeS_nil, wipeS_cons, e_k, e_v, e_p, e_tup, e_lst, e_nil, e_cons, e_op, e_cmp, e_ch, e_and, e_or, e_not, e_neg, e_ite, e_isN, e_notN, e_ix, e_slf, e_slt, e_slb, e_rev, e_call, e_b1, e_b2, e_isi, e_rng, e_dnil, e_comp, e_dcomp, e_enm', e_zip', e_rl, e_idx, e_join, x_nil, x_cons, x_set, x_setO, x_unp, x_xp, x_ret, x_raise, x_ite, x_forB, x_app, x_tr, x_brk, x_cnt, x_pass, x_fr, x_wipe, x_par, evP_nil, evP_f, evP_t, parR_nil, parR_f, parR_t, x_aug, x_augix, x_setix, setixS_nat, x_extS, x_pop, augD_add, augD_sub, x_while, compR_nil, compR_mapL, compR_some, quiet_ite, in_natL, in_natT, notin_natL, notin_natT, eq_ii, ne_ii, eq_ss, ne_ss, sum_map, all_map, any_map, b2_max, b2_min, ix_0, ix_1, ix_2, ixl_0, ansR_rt, ansR_nx, ansR_ex, toSl_l, toSl_d, sl_tailT, sl_tailL, size_ok, sz_filterL, compG_t, rng_nat, rng_ab, shl_one, shr_nat, band_one, op_mod_i, op_fdiv_i, zipD_map, zipD_tail, add_tup, add_lst, rev_tup, rev_lst, mul_repT, if_true, if_false, ite_true, ite_false, Bool.not_true, Bool.not_false, Bool.false_eq_true, decide_eq_true_eq, decide_true, decide_false, Bool.and_true, Bool.true_and, Bool.or_true, Bool.true_or, Bool.and_false, Bool.false_and, Bool.or_false, Bool.false_or, reduceCtorEq, List.map_cons, List.map_nil, List.length_map, List.length_cons, List.length_nil, List.nil_append, List.cons_append, List.length_range, List.length_append, sz_filterR, Nat.reduceAdd, Int.cast_ofNat_Int, Int.reduceEq, Int.reduceLT, Int.reduceLE, compG_t, whole_ok d (ho d hd)]
      have hall : b1D .all (.list [.bool (isWh a 0 1000), .bool (isWh b 0 1000), .bool (isWh c 0 1000)]) = .ok (.bool (bufOk (.tuple [a, b, c]))) := by
        show Res.ok (PyData.bool ([isWh a 0 1000, isWh b 0 1000, isWh c 0 1000].all id)) = _
        simp [bufOk, Bool.and_assoc]
      cases q : bufOk (.tuple [a, b, c])
      · rw [q] at hall; simp -implicitDefEqProofs (disch := first | omega | (simp only [List.length_map, List.length_cons, List.length_nil, List.length_append, List.length_range, List.length_replicate, List.length_tail, List.length_reverse]; omega)) only [getS_0, getS_s, setS_0, setS_s, sr_ok, nx_then, rt_then, ex_then, bk_then, ct_then, ex_sr, asBool_b, asInt_i, items_l, items_t, Res.ok_bind, Res.ex_bind, Res.bad_bind, Res.quiet_ok, op_add_i, op_sub_i, b1_int, b1_abs, b1_lenl, b1_lent, b1_tupl, b1_tupt, b1_listt, b1_listl, lt_i, gt_i, le_i, ge_i, strict_0, strict_s, peek_0, peek_0l, peek_0d, peek_s, bindT_n, bindT_t, bindT_l, bindTs_n, bindTs_c, wipeS_nil, wipeS_cons, e_k, e_v, e_p, e_tup, e_lst, e_nil, e_cons, e_op, e_cmp, e_ch, e_and, e_or, e_not, e_neg, e_ite, e_isN, e_notN, e_ix, e_slf, e_slt, e_slb, e_rev, e_call, e_b1, e_b2, e_isi, e_rng, e_dnil, e_comp, e_dcomp, e_enm', e_zip', e_rl, e_idx, e_join, x_nil, x_cons, x_set, x_setO, x_unp, x_xp, x_ret, x_raise, x_ite, x_forB, x_app, x_tr, x_brk, x_cnt, x_pass, x_fr, x_wipe, x_par, evP_nil, evP_f, evP_t, parR_nil, parR_f, parR_t, x_aug, x_augix, x_setix, setixS_nat, x_extS, x_pop, augD_add, augD_sub, x_while, compR_nil, compR_mapL, compR_some, quiet_ite, in_natL, in_natT, notin_natL, notin_natT, eq_ii, ne_ii, eq_ss, ne_ss, sum_map, all_map, any_map, b2_max, b2_min, ix_0, ix_1, ix_2, ixl_0, ansR_rt, ansR_nx, ansR_ex, toSl_l, toSl_d, sl_tailT, sl_tailL, size_ok, sz_filterL, compG_t, rng_nat, rng_ab, shl_one, shr_nat, band_one, op_mod_i, op_fdiv_i, zipD_map, zipD_tail, add_tup, add_lst, rev_tup, rev_lst, mul_repT, if_true, if_false, ite_true, ite_false, Bool.not_true, Bool.not_false, Bool.false_eq_true, decide_eq_true_eq, decide_true, decide_false, Bool.and_true, Bool.true_and, Bool.or_true, Bool.true_or, Bool.and_false, Bool.false_and, Bool.or_false, Bool.false_or, reduceCtorEq, List.map_cons, List.map_nil, List.length_map, List.length_cons, List.length_nil, List.nil_append, List.cons_append, List.length_range, List.length_append, sz_filterR, Nat.reduceAdd, Int.cast_ofNat_Int, Int.reduceEq, Int.reduceLT, Int.reduceLE, b_check_buffer, okD, tyD, List.any_cons, List.any_nil, hc, hall]
      · rw [q] at hall; simp -implicitDefEqProofs (disch := first | omega | (simp only [List.length_map, List.length_cons, List.length_nil, List.length_append, List.length_range, List.length_replicate, List.length_tail, List.length_reverse]; omega)) only [getS_0, getS_s, setS_0, setS_s, sr_ok, nx_then, rt_then, ex_then, bk_then, ct_then, ex_sr, asBool_b, asInt_i, items_l, items_t, Res.ok_bind, Res.ex_bind, Res.bad_bind, Res.quiet_ok, op_add_i, op_sub_i, b1_int, b1_abs, b1_lenl, b1_lent, b1_tupl, b1_tupt, b1_listt, b1_listl, lt_i, gt_i, le_i, ge_i, strict_0, strict_s, peek_0, peek_0l, peek_0d, peek_s, bindT_n, bindT_t, bindT_l, bindTs_n, bindTs_c, wipeS_nil, wipeS_cons, e_k, e_v, e_p, e_tup, e_lst, e_nil, e_cons, e_op, e_cmp, e_ch, e_and, e_or, e_not, e_neg, e_ite, e_isN, e_notN, e_ix, e_slf, e_slt, e_slb, e_rev, e_call, e_b1, e_b2, e_isi, e_rng, e_dnil, e_comp, e_dcomp, e_enm', e_zip', e_rl, e_idx, e_join, x_nil, x_cons, x_set, x_setO, x_unp, x_xp, x_ret, x_raise, x_ite, x_forB, x_app, x_tr, x_brk, x_cnt, x_pass, x_fr, x_wipe, x_par, evP_nil, evP_f, evP_t, parR_nil, parR_f, parR_t, x_aug, x_augix, x_setix, setixS_nat, x_extS, x_pop, augD_add, augD_sub, x_while, compR_nil, compR_mapL, compR_some, quiet_ite, in_natL, in_natT, notin_natL, notin_natT, eq_ii, ne_ii, eq_ss, ne_ss, sum_map, all_map, any_map, b2_max, b2_min, ix_0, ix_1, ix_2, ixl_0, ansR_rt, ansR_nx, ansR_ex, toSl_l, toSl_d, sl_tailT, sl_tailL, size_ok, sz_filterL, compG_t, rng_nat, rng_ab, shl_one, shr_nat, band_one, op_mod_i, op_fdiv_i, zipD_map, zipD_tail, add_tup, add_lst, rev_tup, rev_lst, mul_repT, if_true, if_false, ite_true, ite_false, Bool.not_true, Bool.not_false, Bool.false_eq_true, decide_eq_true_eq, decide_true, decide_false, Bool.and_true, Bool.true_and, Bool.or_true, Bool.true_or, Bool.and_false, Bool.false_and, Bool.or_false, Bool.false_or, reduceCtorEq, List.map_cons, List.map_nil, List.length_map, List.length_cons, List.length_nil, List.nil_append, List.cons_append, List.length_range, List.length_append, sz_filterR, Nat.reduceAdd, Int.cast_ofNat_Int, Int.reduceEq, Int.reduceLT, Int.reduceLE, b_check_buffer, okD, tyD, List.any_cons, List.any_nil, hc, hall]
    · have e1 : ¬ (ds.length : Int) = 3 := by omega
      have er : bufOk (.tuple ds) = false := by
        unfold bufOk
        split
        · rename_i e; cases e; exact absurd rfl hl
        · rfl
      simp -implicitDefEqProofs (disch := first | omega | (simp only [List.length_map, List.length_cons, List.length_nil, List.length_append, List.length_range, List.length_replicate, List.length_tail, List.length_reverse]; omega)) only [getS_0, getS_s, setS_0, setS_s, sr_ok, nx_then, rt_then, ex_then, bk_then, ct_then, ex_sr, asBool_b, asInt_i, items_l, items_t, Res.ok_bind, Res.ex_bind, Res.bad_bind, Res.quiet_ok, op_add_i, op_sub_i, b1_int, b1_abs, b1_lenl, b1_lent, b1_tupl, b1_tupt, b1_listt, b1_listl, lt_i, gt_i, le_i, ge_i, strict_0, strict_s, peek_0, peek_0l, peek_0d, peek_s, bindT_n, bindT_t, bindT_l, bindTs_n, bindTs_c, wipeS_nil, wipeS_cons, e_k, e_v, e_p, e_tup, e_lst, e_nil, e_cons, e_op, e_cmp, e_ch, e_and, e_or, e_not, e_neg, e_ite, e_isN, e_notN, e_ix, e_slf, e_slt, e_slb, e_rev, e_call, e_b1, e_b2, e_isi, e_rng, e_dnil, e_comp, e_dcomp, e_enm', e_zip', e_rl, e_idx, e_join, x_nil, x_cons, x_set, x_setO, x_unp, x_xp, x_ret, x_raise, x_ite, x_forB, x_app, x_tr, x_brk, x_cnt, x_pass, x_fr, x_wipe, x_par, evP_nil, evP_f, evP_t, parR_nil, parR_f, parR_t, x_aug, x_augix, x_setix, setixS_nat, x_extS, x_pop, augD_add, augD_sub, x_while, compR_nil, compR_mapL, compR_some, quiet_ite, in_natL, in_natT, notin_natL, notin_natT, eq_ii, ne_ii, eq_ss, ne_ss, sum_map, all_map, any_map, b2_max, b2_min, ix_0, ix_1, ix_2, ixl_0, ansR_rt, ansR_nx, ansR_ex, toSl_l, toSl_d, sl_tailT, sl_tailL, size_ok, sz_filterL, compG_t, rng_nat, rng_ab, shl_one, shr_nat, band_one, op_mod_i, op_fdiv_i, zipD_map, zipD_tail, add_tup, add_lst, rev_tup, rev_lst, mul_repT, if_true, if_false, ite_true, ite_false, Bool.not_true, Bool.not_false, Bool.false_eq_true, decide_eq_true_eq, decide_true, decide_false, Bool.and_true, Bool.true_and, Bool.or_true, Bool.true_or, Bool.and_false, Bool.false_and, Bool.or_false, Bool.false_or, reduceCtorEq, List.map_cons, List.map_nil, List.length_map, List.length_cons, List.length_nil, List.nil_append, List.cons_append, List.length_range, List.length_append, sz_filterR, Nat.reduceAdd, Int.cast_ofNat_Int, Int.reduceEq, Int.reduceLT, Int.reduceLE, b_check_buffer, okD, tyD, List.any_cons, List.any_nil, e1, er]
  · have e : tyD .tuple v = false := by cases v <;> first | rfl | exact absurd ⟨_, rfl⟩ ht
    have e2 : bufOk v = false := by cases v <;> first | rfl | exact absurd ⟨_, rfl⟩ ht
    simp -implicitDefEqProofs (disch := first | omega | (simp only [List.length_map, List.length_cons, List.length_nil, List.length_append, List.length_range, List.length_replicate, List.length_tail, List.length_reverse]; omega)) only [getS_0, getS_s, setS_0, setS_s, sr_ok, nx_then, rt_then, ex_then, bk_then, ct_then, ex_sr, asBool_b, asInt_i, items_l, items_t, Res.ok_bind, Res.ex_bind, Res.bad_bind, Res.quiet_ok, op_add_i, op_sub_i, b1_int, b1_abs, b1_lenl, b1_lent, b1_tupl, b1_tupt, b1_listt, b1_listl, lt_i, gt_i, le_i, ge_i, strict_0, strict_s, peek_0, peek_0l, peek_0d, peek_s, bindT_n, bindT_t, bindT_l, bindTs_n, bindTs_c, wipeS_nil, wipeS_cons, e_k, e_v, e_p, e_tup, e_lst, e_nil, e_cons, e_op, e_cmp, e_ch, e_and, e_or, e_not, e_neg, e_ite, e_isN, e_notN, e_ix, e_slf, e_slt, e_slb, e_rev, e_call, e_b1, e_b2, e_isi, e_rng, e_dnil, e_comp, e_dcomp, e_enm', e_zip', e_rl, e_idx, e_join, x_nil, x_cons, x_set, x_setO, x_unp, x_xp, x_ret, x_raise, x_ite, x_forB, x_app, x_tr, x_brk, x_cnt, x_pass, x_fr, x_wipe, x_par, evP_nil, evP_f, evP_t, parR_nil, parR_f, parR_t, x_aug, x_augix, x_setix, setixS_nat, x_extS, x_pop, augD_add, augD_sub, x_while, compR_nil, compR_mapL, compR_some, quiet_ite, in_natL, in_natT, notin_natL, notin_natT, eq_ii, ne_ii, eq_ss, ne_ss, sum_map, all_map, any_map, b2_max, b2_min, ix_0, ix_1, ix_2, ixl_0, ansR_rt, ansR_nx, ansR_ex, toSl_l, toSl_d, sl_tailT, sl_tailL, size_ok, sz_filterL, compG_t, rng_nat, rng_ab, shl_one, shr_nat, band_one, op_mod_i, op_fdiv_i, zipD_map, zipD_tail, add_tup, add_lst, rev_tup, rev_lst, mul_repT, if_true, if_false, ite_true, ite_false, Bool.not_true, Bool.not_false, Bool.false_eq_true, decide_eq_true_eq, decide_true, decide_false, Bool.and_true, Bool.true_and, Bool.or_true, Bool.true_or, Bool.and_false, Bool.false_and, Bool.or_false, Bool.false_or, reduceCtorEq, List.map_cons, List.map_nil, List.length_map, List.length_cons, List.length_nil, List.nil_append, List.cons_append, List.length_range, List.length_append, sz_filterR, Nat.reduceAdd, Int.cast_ofNat_Int, Int.reduceEq, Int.reduceLT, Int.reduceLE, b_check_buffer, ok, List.any_cons, List.any_nil, e, e2]
def GoodB (b : Nat × Nat × Nat) : Prop := b.1 ≤ 1000 ∧ b.2.1 ≤ 1000 ∧ b.2.2 ≤ 1000
theorem check_buffer_ok {b : Nat × Nat × Nat} (g : GoodB b) : EE m (k + 2) i_check_buffer [bfD b] = .ok .none := by
  rw [check_buffer_gen (bfD b) rfl (fun ds e => by cases e; exact ⟨by simp, fun d hd => by simp at hd; rcases hd with rfl | rfl | rfl <;> rfl⟩), if_pos]
  obtain ⟨h1, h2, h3⟩ := g
  simp [bfD, bufOk, isWh]
  omega
/-! ### loads -/
section
variable (t : Tr) (b1 : Nat) (S : List Nat)
/-- the load below a node, behind its buffer -/
def LD (i : Nat) : Nat := if t.n ≤ i then 0 else t.l i + (((List.range t.n).filter fun c => decide (i < c) && decide (t.p c = i)).map fun c => if i < c then (if S.contains c then b1 else LD c) else 0).sum
termination_by t.n - i
decreasing_by omega
def XL (c : Nat) : Nat := if S.contains c then b1 else LD t b1 S c
/-- what has come together of the nodes above j -/
def AL (j i : Nat) : Nat := t.l i + (((List.range t.n).filter fun c => decide (j < c) && decide (0 < c) && decide (t.p c = i)).map (XL t b1 S)).sum
end
theorem LD_eq {t : Tr} {b1 : Nat} {S : List Nat} {i : Nat} (h : i < t.n) : LD t b1 S i = t.l i + (((List.range t.n).filter fun c => decide (i < c) && decide (t.p c = i)).map (XL t b1 S)).sum := by
  rw [LD, if_neg (by omega)]
  congr 2
  apply List.map_congr_left
  intro c hc
  have := (List.mem_filter.mp hc).2
  simp only [Bool.and_eq_true, decide_eq_true_eq] at this
  rw [if_pos this.1]
  rfl
theorem AL_done {t : Tr} (g : Good t) {b1 : Nat} {S : List Nat} {i j : Nat} (h : i < t.n) (hj : j ≤ i) : AL t b1 S j i = LD t b1 S i := by
  rw [LD_eq h]
  unfold AL
  congr 3
  apply List.filter_congr
  intro c hc
  have hc := List.mem_range.mp hc
  by_cases e : t.p c = i
  · by_cases h0 : 0 < c
    · have := g.p c h0 hc
      simp [e, h0]
      omega
    · have : c = 0 := by omega
      subst this
      simp
  · simp [e]
theorem AL_step {t : Tr} (g : Good t) {b1 : Nat} {S : List Nat} {j : Nat} (h0 : 0 < j) (h : j < t.n) (i : Nat) : AL t b1 S (j - 1) i = AL t b1 S j i + (if t.p j = i then XL t b1 S j else 0) := by
  unfold AL
  rw [Nat.add_assoc]
  congr 1
  have key : ∀ L : List Nat, L.Nodup → ((L.filter fun c => decide (j - 1 < c) && decide (0 < c) && decide (t.p c = i)).map (XL t b1 S)).sum = ((L.filter fun c => decide (j < c) && decide (0 < c) && decide (t.p c = i)).map (XL t b1 S)).sum + (if j ∈ L then (if t.p j = i then XL t b1 S j else 0) else 0) := fun L => by
    induction L with
    | nil => intro _; simp
    | cons c L ih =>
      intro hn
      obtain ⟨n1, n2⟩ := List.nodup_cons.mp hn
      have ih := ih n2
      by_cases e : c = j
      · subst e
        have h3 : c - 1 < c := by omega
        rw [if_neg n1] at ih
        by_cases q : t.p c = i
        · simp only [List.filter_cons, q, h3, h0, decide_true, Bool.and_self, if_true, Nat.lt_irrefl, decide_false, Bool.false_and, Bool.false_eq_true, if_false, List.map_cons, List.sum_cons, List.mem_cons, true_or, ih]
          omega
        · simp only [List.filter_cons, q, decide_false, Bool.and_false, Bool.false_eq_true, if_false, ih]
          simp
      · have h1 : (decide (j - 1 < c) && decide (0 < c) && decide (t.p c = i)) = (decide (j < c) && decide (0 < c) && decide (t.p c = i)) := by
          congr 2
          exact decide_eq_decide.mpr (by omega)
        have h2 : (j ∈ c :: L) ↔ (j ∈ L) := ⟨fun z => (List.mem_cons.mp z).resolve_left (fun q => e q.symm), List.mem_cons_of_mem _⟩
        rw [List.filter_cons, List.filter_cons, h1]
        simp only [h2]
        split
        · simp only [List.map_cons, List.sum_cons, ih]; omega
        · exact ih
  rw [key _ List.nodup_range, if_pos (List.mem_range.mpr h)]
theorem AL_top {t : Tr} {b1 : Nat} {S : List Nat} (i : Nat) : AL t b1 S (t.n - 1) i = t.l i := by
  unfold AL
  have : (List.range t.n).filter (fun c => decide (t.n - 1 < c) && decide (0 < c) && decide (t.p c = i)) = [] := by
    rw [List.filter_eq_nil_iff]
    intro c hc
    have := List.mem_range.mp hc
    simp
    omega
  rw [this]
  simp
/-- range(n - 1, 0, -1) -/
theorem rng_down0 (a : Nat) (h : a ≤ 1000000) : rngD (.int (a : Int)) (.int 0) (.int (-1)) = .ok (.list ((List.range a).map fun k => natD (a - k))) := by
  rw [rngD_neg _ _ (by simp only [Bool.and_eq_true, decide_eq_true_eq]; omega), show ((a : Int) - 0).toNat = a by omega]
  have : (List.range a).map (fun k => PyData.int ((a : Int) - (k : Nat))) = (List.range a).map fun k => natD (a - k) := List.map_congr_left fun x hx => by
    rw [List.mem_range] at hx
    exact congrArg PyData.int (by omega)
  rw [this]
theorem listIx_nat (ds : List BW.D) (i : Nat) (h : i < ds.length) : listIx ds (i : Int) = some i := by
  unfold listIx ixN
  rw [if_pos (by omega), if_pos (by omega), Int.toNat_natCast]
theorem loads_turn {t : Tr} (g : Good t) (b : Nat × Nat × Nat) (S : List Nat) (x : BW.D) (hx : items x = some (S.map natD)) (j : Nat) (h0 : 0 < j) (h : j < t.n) :
    forB (EE m k) m.sub fuel (.n 4) b_loads_1 (natD j) [.fz (tD t), .fz (bfD b), .fz x, .ol ((List.range t.n).map fun i => natD (AL t b.2.1 S j i)), .un, .un] =
      .nx [.fz (tD t), .fz (bfD b), .fz x, .ol ((List.range t.n).map fun i => natD (AL t b.2.1 S (j - 1) i)), .un, .un] := by
  have hp := g.p j h0 h
  have e1 := tD_ix t j h
  have e2 := node0 t j h0
  have e3 : ixD (bfD b) (.int 1) = .ok (natD b.2.1) := by unfold bfD; simp
  have e4 : cmpB .isin (natD j) x = .ok (S.contains j) := in_nats j hx
  have e5 := ixL_nat (fun i => natD (AL t b.2.1 S j i)) (List.range t.n) j (by simpa using h)
  rw [List.getElem_range, AL_done g h (Nat.le_refl j)] at e5
  have e6 := listIx_nat ((List.range t.n).map fun i => natD (AL t b.2.1 S j i)) (t.p j) (by simp; omega)
  have e7 : ((List.range t.n).map fun i => natD (AL t b.2.1 S j i))[t.p j]? = some (natD (AL t b.2.1 S j (t.p j))) := by
    rw [List.getElem?_map, List.getElem?_range (by omega)]; rfl
  have hset : ((List.range t.n).map fun i => natD (AL t b.2.1 S j i)).set (t.p j) (.int ((AL t b.2.1 S j (t.p j) : Int) + (XL t b.2.1 S j : Int))) = (List.range t.n).map fun i => natD (AL t b.2.1 S (j - 1) i) := by
    apply List.ext_getElem
    · simp
    · intro i h1 h2
      have hi : i < t.n := by simpa using h2
      rw [List.getElem_set]
      simp only [List.getElem_map, List.getElem_range]
      rw [AL_step g h0 h i]
      by_cases q : t.p j = i
      · subst q; rw [if_pos rfl, if_pos rfl]
        show PyData.int _ = PyData.int _
        congr 1
      · rw [if_neg q, if_neg q]; rfl
  by_cases hs : S.contains j = true
  · have hX : XL t b.2.1 S j = b.2.1 := if_pos hs
    rw [hX] at hset
    simp -implicitDefEqProofs (disch := first | omega | (simp only [List.length_map, List.length_cons, List.length_nil, List.length_append, List.length_range, List.length_replicate, List.length_tail, List.length_reverse]; omega)) only [getS_0, getS_s, setS_0, setS_s, sr_ok, nx_then, rt_then, ex_then, bk_then, ct_then, ex_sr, asBool_b, asInt_i, items_l, items_t, Res.ok_bind, Res.ex_bind, Res.bad_bind, Res.quiet_ok, op_add_i, op_sub_i, b1_int, b1_abs, b1_lenl, b1_lent, b1_tupl, b1_tupt, b1_listt, b1_listl, lt_i, gt_i, le_i, ge_i, strict_0, strict_s, peek_0, peek_0l, peek_0d, peek_s, bindT_n, bindT_t, bindT_l, bindTs_n, bindTs_c, wipeS_nil, wipeS_cons, e_k, e_v, e_p, e_tup, e_lst, e_nil, e_cons, e_op, e_cmp, e_ch, e_and, e_or, e_not, e_neg, e_ite, e_isN, e_notN, e_ix, e_slf, e_slt, e_slb, e_rev, e_call, e_b1, e_b2, e_isi, e_rng, e_dnil, e_comp, e_dcomp, e_enm', e_zip', e_rl, e_idx, e_join, x_nil, x_cons, x_set, x_setO, x_unp, x_xp, x_ret, x_raise, x_ite, x_forB, x_app, x_tr, x_brk, x_cnt, x_pass, x_fr, x_wipe, x_par, evP_nil, evP_f, evP_t, parR_nil, parR_f, parR_t, x_aug, x_augix, x_setix, setixS_nat, x_extS, x_pop, augD_add, augD_sub, x_while, compR_nil, compR_mapL, compR_some, quiet_ite, in_natL, in_natT, notin_natL, notin_natT, eq_ii, ne_ii, eq_ss, ne_ss, sum_map, all_map, any_map, b2_max, b2_min, ix_0, ix_1, ix_2, ixl_0, ansR_rt, ansR_nx, ansR_ex, toSl_l, toSl_d, sl_tailT, sl_tailL, size_ok, sz_filterL, compG_t, rng_nat, rng_ab, shl_one, shr_nat, band_one, op_mod_i, op_fdiv_i, zipD_map, zipD_tail, add_tup, add_lst, rev_tup, rev_lst, mul_repT, if_true, if_false, ite_true, ite_false, Bool.not_true, Bool.not_false, Bool.false_eq_true, decide_eq_true_eq, decide_true, decide_false, Bool.and_true, Bool.true_and, Bool.or_true, Bool.true_or, Bool.and_false, Bool.false_and, Bool.or_false, Bool.false_or, reduceCtorEq, List.map_cons, List.map_nil, List.length_map, List.length_cons, List.length_nil, List.nil_append, List.cons_append, List.length_range, List.length_append, sz_filterR, Nat.reduceAdd, Int.cast_ofNat_Int, Int.reduceEq, Int.reduceLT, Int.reduceLE, forB, b_loads_1, e1, e2, e3, e4, hs, e5, e6, augIx, e7, augOk, hset]
  · have hs : S.contains j = false := by simpa using hs
    have hX : XL t b.2.1 S j = LD t b.2.1 S j := if_neg (by rw [hs]; exact Bool.false_ne_true)
    rw [hX] at hset
    simp -implicitDefEqProofs (disch := first | omega | (simp only [List.length_map, List.length_cons, List.length_nil, List.length_append, List.length_range, List.length_replicate, List.length_tail, List.length_reverse]; omega)) only [getS_0, getS_s, setS_0, setS_s, sr_ok, nx_then, rt_then, ex_then, bk_then, ct_then, ex_sr, asBool_b, asInt_i, items_l, items_t, Res.ok_bind, Res.ex_bind, Res.bad_bind, Res.quiet_ok, op_add_i, op_sub_i, b1_int, b1_abs, b1_lenl, b1_lent, b1_tupl, b1_tupt, b1_listt, b1_listl, lt_i, gt_i, le_i, ge_i, strict_0, strict_s, peek_0, peek_0l, peek_0d, peek_s, bindT_n, bindT_t, bindT_l, bindTs_n, bindTs_c, wipeS_nil, wipeS_cons, e_k, e_v, e_p, e_tup, e_lst, e_nil, e_cons, e_op, e_cmp, e_ch, e_and, e_or, e_not, e_neg, e_ite, e_isN, e_notN, e_ix, e_slf, e_slt, e_slb, e_rev, e_call, e_b1, e_b2, e_isi, e_rng, e_dnil, e_comp, e_dcomp, e_enm', e_zip', e_rl, e_idx, e_join, x_nil, x_cons, x_set, x_setO, x_unp, x_xp, x_ret, x_raise, x_ite, x_forB, x_app, x_tr, x_brk, x_cnt, x_pass, x_fr, x_wipe, x_par, evP_nil, evP_f, evP_t, parR_nil, parR_f, parR_t, x_aug, x_augix, x_setix, setixS_nat, x_extS, x_pop, augD_add, augD_sub, x_while, compR_nil, compR_mapL, compR_some, quiet_ite, in_natL, in_natT, notin_natL, notin_natT, eq_ii, ne_ii, eq_ss, ne_ss, sum_map, all_map, any_map, b2_max, b2_min, ix_0, ix_1, ix_2, ixl_0, ansR_rt, ansR_nx, ansR_ex, toSl_l, toSl_d, sl_tailT, sl_tailL, size_ok, sz_filterL, compG_t, rng_nat, rng_ab, shl_one, shr_nat, band_one, op_mod_i, op_fdiv_i, zipD_map, zipD_tail, add_tup, add_lst, rev_tup, rev_lst, mul_repT, if_true, if_false, ite_true, ite_false, Bool.not_true, Bool.not_false, Bool.false_eq_true, decide_eq_true_eq, decide_true, decide_false, Bool.and_true, Bool.true_and, Bool.or_true, Bool.true_or, Bool.and_false, Bool.false_and, Bool.or_false, Bool.false_or, reduceCtorEq, List.map_cons, List.map_nil, List.length_map, List.length_cons, List.length_nil, List.nil_append, List.cons_append, List.length_range, List.length_append, sz_filterR, Nat.reduceAdd, Int.cast_ofNat_Int, Int.reduceEq, Int.reduceLT, Int.reduceLE, forB, b_loads_1, e1, e2, e3, e4, hs, e5, e6, augIx, e7, augOk, hset]
theorem loads_ok {t : Tr} (g : Good t) (b : Nat × Nat × Nat) (S : List Nat) (x : BW.D) (hx : items x = some (S.map natD)) : EE m (k + 1) i_loads [tD t, bfD b, x] = .ok (.list ((List.range t.n).map fun i => natD (LD t b.2.1 S i))) := by
  rw [r_loads]
  have h1 := g.n1
  have h9 := g.n9
  have hf := forR_ix (f := forB (EE m k) m.sub fuel (.n 4) b_loads_1) (fun j => natD (t.n - 1 - j)) (List.range (t.n - 1)) (fun i => [.fz (tD t), .fz (bfD b), .fz x, .ol ((List.range t.n).map fun c => natD (AL t b.2.1 S (t.n - 1 - i) c)), .un, .un]) fun i hi => by
    rw [List.length_range] at hi
    rw [List.getElem_range]
    have := loads_turn (m := m) (k := k) g b S x hx (t.n - 1 - i) (by omega) (by omega)
    rw [show t.n - 1 - i - 1 = t.n - 1 - (i + 1) by omega] at this
    exact this
  rw [List.length_range] at hf
  have e0 : ((List.range t.n).map fun c => natD (AL t b.2.1 S (t.n - 1 - 0) c)) = (List.range t.n).map fun c => natD (t.l c) := List.map_congr_left fun c _ => by rw [Nat.sub_zero, AL_top]
  have e1 : ((List.range t.n).map fun c => natD (AL t b.2.1 S (t.n - 1 - (t.n - 1)) c)) = (List.range t.n).map fun c => natD (LD t b.2.1 S c) := List.map_congr_left fun c hc => by rw [Nat.sub_self, AL_done g (List.mem_range.mp hc) (Nat.zero_le _)]
  rw [e0, e1] at hf
  have er := rng_down0 (t.n - 1) (by omega)
  rw [show ((t.n - 1 : Nat) : Int) = (t.n : Int) - 1 by omega] at er
  have hi : items (tD t) = some ((List.range t.n).map (nodeD t)) := rfl
  simp -implicitDefEqProofs (disch := first | omega | (simp only [List.length_map, List.length_cons, List.length_nil, List.length_append, List.length_range, List.length_replicate, List.length_tail, List.length_reverse]; omega)) only [getS_0, getS_s, setS_0, setS_s, sr_ok, nx_then, rt_then, ex_then, bk_then, ct_then, ex_sr, asBool_b, asInt_i, items_l, items_t, Res.ok_bind, Res.ex_bind, Res.bad_bind, Res.quiet_ok, op_add_i, op_sub_i, b1_int, b1_abs, b1_lenl, b1_lent, b1_tupl, b1_tupt, b1_listt, b1_listl, lt_i, gt_i, le_i, ge_i, strict_0, strict_s, peek_0, peek_0l, peek_0d, peek_s, bindT_n, bindT_t, bindT_l, bindTs_n, bindTs_c, wipeS_nil, wipeS_cons, e_k, e_v, e_p, e_tup, e_lst, e_nil, e_cons, e_op, e_cmp, e_ch, e_and, e_or, e_not, e_neg, e_ite, e_isN, e_notN, e_ix, e_slf, e_slt, e_slb, e_rev, e_call, e_b1, e_b2, e_isi, e_rng, e_dnil, e_comp, e_dcomp, e_enm', e_zip', e_rl, e_idx, e_join, x_nil, x_cons, x_set, x_setO, x_unp, x_xp, x_ret, x_raise, x_ite, x_forB, x_app, x_tr, x_brk, x_cnt, x_pass, x_fr, x_wipe, x_par, evP_nil, evP_f, evP_t, parR_nil, parR_f, parR_t, x_aug, x_augix, x_setix, setixS_nat, x_extS, x_pop, augD_add, augD_sub, x_while, compR_nil, compR_mapL, compR_some, quiet_ite, in_natL, in_natT, notin_natL, notin_natT, eq_ii, ne_ii, eq_ss, ne_ss, sum_map, all_map, any_map, b2_max, b2_min, ix_0, ix_1, ix_2, ixl_0, ansR_rt, ansR_nx, ansR_ex, toSl_l, toSl_d, sl_tailT, sl_tailL, size_ok, sz_filterL, compG_t, rng_nat, rng_ab, shl_one, shr_nat, band_one, op_mod_i, op_fdiv_i, zipD_map, zipD_tail, add_tup, add_lst, rev_tup, rev_lst, mul_repT, if_true, if_false, ite_true, ite_false, Bool.not_true, Bool.not_false, Bool.false_eq_true, decide_eq_true_eq, decide_true, decide_false, Bool.and_true, Bool.true_and, Bool.or_true, Bool.true_or, Bool.and_false, Bool.false_and, Bool.or_false, Bool.false_or, reduceCtorEq, List.map_cons, List.map_nil, List.length_map, List.length_cons, List.length_nil, List.nil_append, List.cons_append, List.length_range, List.length_append, sz_filterR, Nat.reduceAdd, Int.cast_ofNat_Int, Int.reduceEq, Int.reduceLT, Int.reduceLE, b_loads, hi, node2, tD_len, er, hf]
end Wt

namespace Wt
open PySem PySem.W L2 BW
variable {m : Md} {k : Nat}
/-! ### delays -/
theorem small_nat (a : Nat) (h : a ≤ 1000) : smallI (a : Int) = true := by
  unfold smallI
  simp only [Bool.and_eq_true, decide_eq_true_eq]
  omega
theorem op_mul_n (a c : Nat) (h : a ≤ 1000) : opD .mul (.int (a : Int)) (.int (c : Int)) = .ok (.int ((a : Int) * (c : Int))) := op_mul_l _ _ (small_nat a h)
/-- the time of a node -/
def DL (t : Tr) (b : Nat × Nat × Nat) (S : List Nat) (i : Nat) : Nat :=
  if i = 0 then 0 else
    (if t.p i < i then DL t b S (t.p i) else 0) + (if S.contains i then t.r i * b.2.1 + b.2.2 + b.1 * LD t b.2.1 S i else t.r i * LD t b.2.1 S i)
termination_by i
theorem DL_0 (t : Tr) (b : Nat × Nat × Nat) (S : List Nat) : DL t b S 0 = 0 := by rw [DL, if_pos rfl]
theorem DL_s {t : Tr} {b : Nat × Nat × Nat} {S : List Nat} {i : Nat} (h0 : 0 < i) (h : t.p i < i) : DL t b S i = DL t b S (t.p i) + (if S.contains i then t.r i * b.2.1 + b.2.2 + b.1 * LD t b.2.1 S i else t.r i * LD t b.2.1 S i) := by
  rw [DL, if_neg (by omega), if_pos h]
theorem node_s (t : Tr) (i : Nat) (h : 0 < i) : nodeD t i = .tuple [natD (t.p i), natD (t.r i), natD (t.l i)] := by
  unfold nodeD
  rw [if_neg (by omega)]
theorem delays_turn {t : Tr} (g : Good t) {b : Nat × Nat × Nat} (gb : GoodB b) (S : List Nat) (x : BW.D) (hx : items x = some (S.map natD)) (i : Nat) (h0 : 0 < i) (h : i < t.n) :
    forB (EE m k) m.sub fuel (.n 5) b_delays_of_1 (natD i) [.fz (tD t), .fz (bfD b), .fz x, .fz (.list ((List.range t.n).map fun i => natD (LD t b.2.1 S i))), .ol ((List.range i).map fun i => natD (DL t b S i)), .un, .un, .un, .un] =
      .nx [.fz (tD t), .fz (bfD b), .fz x, .fz (.list ((List.range t.n).map fun i => natD (LD t b.2.1 S i))), .ol ((List.range (i + 1)).map fun i => natD (DL t b S i)), .un, .un, .un, .un] := by
  have hp := g.p i h0 h
  have h9 := g.n9
  have hr1 := g.r i h
  have hb0 := gb.1
  have e1 := tD_ix t i h
  rw [node_s t i h0] at e1
  have e3 : ixD (bfD b) (.int 1) = .ok (natD b.2.1) := by unfold bfD; simp
  have e3a : ixD (bfD b) (.int 0) = .ok (natD b.1) := by unfold bfD; simp
  have e3b : ixD (bfD b) (.int 2) = .ok (natD b.2.2) := by unfold bfD; simp
  have e4 : cmpB .isin (natD i) x = .ok (S.contains i) := in_nats i hx
  have e5 := ixL_nat (fun i => natD (DL t b S i)) (List.range i) (t.p i) (by simpa using hp)
  rw [List.getElem_range] at e5
  have e6 := ixL_nat (fun i => natD (LD t b.2.1 S i)) (List.range t.n) i (by simpa using h)
  rw [List.getElem_range] at e6
  have hr : (List.range (i + 1)).map (fun i => natD (DL t b S i)) = (List.range i).map (fun i => natD (DL t b S i)) ++ [natD (DL t b S i)] := by
    rw [List.range_succ, List.map_append]; rfl
  rw [hr, DL_s h0 hp]
  by_cases hs : S.contains i = true
  · rw [if_pos hs]
    have : ∀ a c d e : Nat, natD (a + (c + d + e)) = .int ((a : Int) + c + d + e) := fun a c d e => by simp [Int.add_assoc]
    rw [this]
    simp -implicitDefEqProofs (disch := first | omega | (simp only [List.length_map, List.length_cons, List.length_nil, List.length_append, List.length_range, List.length_replicate, List.length_tail, List.length_reverse]; omega)) only [getS_0, getS_s, setS_0, setS_s, sr_ok, nx_then, rt_then, ex_then, bk_then, ct_then, ex_sr, asBool_b, asInt_i, items_l, items_t, Res.ok_bind, Res.ex_bind, Res.bad_bind, Res.quiet_ok, op_add_i, op_sub_i, b1_int, b1_abs, b1_lenl, b1_lent, b1_tupl, b1_tupt, b1_listt, b1_listl, lt_i, gt_i, le_i, ge_i, strict_0, strict_s, peek_0, peek_0l, peek_0d, peek_s, bindT_n, bindT_t, bindT_l, bindTs_n, bindTs_c, wipeS_nil, wipeS_cons, e_k, e_v, e_p, e_tup, e_lst, e_nil, e_cons, e_op, e_cmp, e_ch, e_and, e_or, e_not, e_neg, e_ite, e_isN, e_notN, e_ix, e_slf, e_slt, e_slb, e_rev, e_call, e_b1, e_b2, e_isi, e_rng, e_dnil, e_comp, e_dcomp, e_enm', e_zip', e_rl, e_idx, e_join, x_nil, x_cons, x_set, x_setO, x_unp, x_xp, x_ret, x_raise, x_ite, x_forB, x_app, x_tr, x_brk, x_cnt, x_pass, x_fr, x_wipe, x_par, evP_nil, evP_f, evP_t, parR_nil, parR_f, parR_t, x_aug, x_augix, x_setix, setixS_nat, x_extS, x_pop, augD_add, augD_sub, x_while, compR_nil, compR_mapL, compR_some, quiet_ite, in_natL, in_natT, notin_natL, notin_natT, eq_ii, ne_ii, eq_ss, ne_ss, sum_map, all_map, any_map, b2_max, b2_min, ix_0, ix_1, ix_2, ixl_0, ansR_rt, ansR_nx, ansR_ex, toSl_l, toSl_d, sl_tailT, sl_tailL, size_ok, sz_filterL, compG_t, rng_nat, rng_ab, shl_one, shr_nat, band_one, op_mod_i, op_fdiv_i, zipD_map, zipD_tail, add_tup, add_lst, rev_tup, rev_lst, mul_repT, if_true, if_false, ite_true, ite_false, Bool.not_true, Bool.not_false, Bool.false_eq_true, decide_eq_true_eq, decide_true, decide_false, Bool.and_true, Bool.true_and, Bool.or_true, Bool.true_or, Bool.and_false, Bool.false_and, Bool.or_false, Bool.false_or, reduceCtorEq, List.map_cons, List.map_nil, List.length_map, List.length_cons, List.length_nil, List.nil_append, List.cons_append, List.length_range, List.length_append, sz_filterR, Nat.reduceAdd, Int.cast_ofNat_Int, Int.reduceEq, Int.reduceLT, Int.reduceLE, forB, b_delays_of_1, e1, e3, e3a, e3b, e4, hs, e5, e6, op_mul_n, Int.natCast_mul]
  · have hs : S.contains i = false := by simpa using hs
    rw [hs, if_neg Bool.false_ne_true]
    have : ∀ a c : Nat, natD (a + c) = .int ((a : Int) + c) := fun a c => by simp
    rw [this]
    simp -implicitDefEqProofs (disch := first | omega | (simp only [List.length_map, List.length_cons, List.length_nil, List.length_append, List.length_range, List.length_replicate, List.length_tail, List.length_reverse]; omega)) only [getS_0, getS_s, setS_0, setS_s, sr_ok, nx_then, rt_then, ex_then, bk_then, ct_then, ex_sr, asBool_b, asInt_i, items_l, items_t, Res.ok_bind, Res.ex_bind, Res.bad_bind, Res.quiet_ok, op_add_i, op_sub_i, b1_int, b1_abs, b1_lenl, b1_lent, b1_tupl, b1_tupt, b1_listt, b1_listl, lt_i, gt_i, le_i, ge_i, strict_0, strict_s, peek_0, peek_0l, peek_0d, peek_s, bindT_n, bindT_t, bindT_l, bindTs_n, bindTs_c, wipeS_nil, wipeS_cons, e_k, e_v, e_p, e_tup, e_lst, e_nil, e_cons, e_op, e_cmp, e_ch, e_and, e_or, e_not, e_neg, e_ite, e_isN, e_notN, e_ix, e_slf, e_slt, e_slb, e_rev, e_call, e_b1, e_b2, e_isi, e_rng, e_dnil, e_comp, e_dcomp, e_enm', e_zip', e_rl, e_idx, e_join, x_nil, x_cons, x_set, x_setO, x_unp, x_xp, x_ret, x_raise, x_ite, x_forB, x_app, x_tr, x_brk, x_cnt, x_pass, x_fr, x_wipe, x_par, evP_nil, evP_f, evP_t, parR_nil, parR_f, parR_t, x_aug, x_augix, x_setix, setixS_nat, x_extS, x_pop, augD_add, augD_sub, x_while, compR_nil, compR_mapL, compR_some, quiet_ite, in_natL, in_natT, notin_natL, notin_natT, eq_ii, ne_ii, eq_ss, ne_ss, sum_map, all_map, any_map, b2_max, b2_min, ix_0, ix_1, ix_2, ixl_0, ansR_rt, ansR_nx, ansR_ex, toSl_l, toSl_d, sl_tailT, sl_tailL, size_ok, sz_filterL, compG_t, rng_nat, rng_ab, shl_one, shr_nat, band_one, op_mod_i, op_fdiv_i, zipD_map, zipD_tail, add_tup, add_lst, rev_tup, rev_lst, mul_repT, if_true, if_false, ite_true, ite_false, Bool.not_true, Bool.not_false, Bool.false_eq_true, decide_eq_true_eq, decide_true, decide_false, Bool.and_true, Bool.true_and, Bool.or_true, Bool.true_or, Bool.and_false, Bool.false_and, Bool.or_false, Bool.false_or, reduceCtorEq, List.map_cons, List.map_nil, List.length_map, List.length_cons, List.length_nil, List.nil_append, List.cons_append, List.length_range, List.length_append, sz_filterR, Nat.reduceAdd, Int.cast_ofNat_Int, Int.reduceEq, Int.reduceLT, Int.reduceLE, forB, b_delays_of_1, e1, e3, e3a, e3b, e4, hs, e5, e6, op_mul_n, Int.natCast_mul]
def dsD (t : Tr) (b : Nat × Nat × Nat) (S : List Nat) : List BW.D := (List.range t.n).map fun i => natD (DL t b S i)
theorem delays_of_ok {t : Tr} (g : Good t) {b : Nat × Nat × Nat} (gb : GoodB b) (S : List Nat) (x : BW.D) (hx : items x = some (S.map natD)) : EE m (k + 2) i_delays_of [tD t, bfD b, x] = .ok (.list (dsD t b S)) := by
  rw [r_delays_of]
  have h1 := g.n1
  have h9 := g.n9
  have hf := forR_ix (f := forB (EE m (k + 1)) m.sub fuel (.n 5) b_delays_of_1) natD (List.range' 1 (t.n - 1)) (fun i => [.fz (tD t), .fz (bfD b), .fz x, .fz (.list ((List.range t.n).map fun i => natD (LD t b.2.1 S i))), .ol ((List.range (i + 1)).map fun i => natD (DL t b S i)), .un, .un, .un, .un]) fun i hi => by
    rw [List.length_range'] at hi
    rw [List.getElem_range', Nat.one_mul, Nat.add_comm 1 i]
    exact delays_turn g gb S x hx (i + 1) (by omega) (by omega)
  rw [List.length_range', show t.n - 1 + 1 = t.n by omega] at hf
  have e0 : (List.range (0 + 1)).map (fun i => natD (DL t b S i)) = [.int 0] := by simp [DL_0]
  rw [e0] at hf
  have er := rng_ab 1 t.n (by omega) (by omega)
  rw [show ((1 : Nat) : Int) = 1 from rfl] at er
  simp -implicitDefEqProofs (disch := first | omega | (simp only [List.length_map, List.length_cons, List.length_nil, List.length_append, List.length_range, List.length_replicate, List.length_tail, List.length_reverse]; omega)) only [getS_0, getS_s, setS_0, setS_s, sr_ok, nx_then, rt_then, ex_then, bk_then, ct_then, ex_sr, asBool_b, asInt_i, items_l, items_t, Res.ok_bind, Res.ex_bind, Res.bad_bind, Res.quiet_ok, op_add_i, op_sub_i, b1_int, b1_abs, b1_lenl, b1_lent, b1_tupl, b1_tupt, b1_listt, b1_listl, lt_i, gt_i, le_i, ge_i, strict_0, strict_s, peek_0, peek_0l, peek_0d, peek_s, bindT_n, bindT_t, bindT_l, bindTs_n, bindTs_c, wipeS_nil, wipeS_cons, e_k, e_v, e_p, e_tup, e_lst, e_nil, e_cons, e_op, e_cmp, e_ch, e_and, e_or, e_not, e_neg, e_ite, e_isN, e_notN, e_ix, e_slf, e_slt, e_slb, e_rev, e_call, e_b1, e_b2, e_isi, e_rng, e_dnil, e_comp, e_dcomp, e_enm', e_zip', e_rl, e_idx, e_join, x_nil, x_cons, x_set, x_setO, x_unp, x_xp, x_ret, x_raise, x_ite, x_forB, x_app, x_tr, x_brk, x_cnt, x_pass, x_fr, x_wipe, x_par, evP_nil, evP_f, evP_t, parR_nil, parR_f, parR_t, x_aug, x_augix, x_setix, setixS_nat, x_extS, x_pop, augD_add, augD_sub, x_while, compR_nil, compR_mapL, compR_some, quiet_ite, in_natL, in_natT, notin_natL, notin_natT, eq_ii, ne_ii, eq_ss, ne_ss, sum_map, all_map, any_map, b2_max, b2_min, ix_0, ix_1, ix_2, ixl_0, ansR_rt, ansR_nx, ansR_ex, toSl_l, toSl_d, sl_tailT, sl_tailL, size_ok, sz_filterL, compG_t, rng_nat, rng_ab, shl_one, shr_nat, band_one, op_mod_i, op_fdiv_i, zipD_map, zipD_tail, add_tup, add_lst, rev_tup, rev_lst, mul_repT, if_true, if_false, ite_true, ite_false, Bool.not_true, Bool.not_false, Bool.false_eq_true, decide_eq_true_eq, decide_true, decide_false, Bool.and_true, Bool.true_and, Bool.or_true, Bool.true_or, Bool.and_false, Bool.false_and, Bool.or_false, Bool.false_or, reduceCtorEq, List.map_cons, List.map_nil, List.length_map, List.length_cons, List.length_nil, List.nil_append, List.cons_append, List.length_range, List.length_append, sz_filterR, Nat.reduceAdd, Int.cast_ofNat_Int, Int.reduceEq, Int.reduceLT, Int.reduceLE, b_delays_of, loads_ok g b S x hx, tD_len, er, hf]
  rfl
structure GoodS (n : Nat) (S : List Nat) : Prop where
  asc : asc S
  in_ : ∀ s ∈ S, 1 ≤ s ∧ s < n
  len : S.length ≤ 9
theorem whole_nat (s n : Nat) (h1 : 1 ≤ s) (h : s < n) : isWh (natD s) 1 ((n : Int) - 1) = true := by
  simp only [isWh, Bool.and_eq_true, decide_eq_true_eq]
  omega
theorem okD_bf (b : Nat × Nat × Nat) : okD (bfD b) = true := rfl
theorem delays_with_ok {t : Tr} (g : Good t) {b : Nat × Nat × Nat} (gb : GoodB b) {S : List Nat} (gs : GoodS t.n S) : EE m (k + 5) i_delays_with [tD t, bfD b, .tuple (S.map natD)] = .ok (.tuple (dsD t b S)) := by
  rw [r_delays_with]
  have hl := gs.len
  have ha : EE m (k + 4) i_ascends [.tuple (S.map natD)] = .ok (.bool true) := by
    rw [nat_int, ascends_int _ (by simp; omega), asc_adj S gs.asc]
  simp -implicitDefEqProofs (disch := first | omega | (simp only [List.length_map, List.length_cons, List.length_nil, List.length_append, List.length_range, List.length_replicate, List.length_tail, List.length_reverse]; omega)) only [getS_0, getS_s, setS_0, setS_s, sr_ok, nx_then, rt_then, ex_then, bk_then, ct_then, ex_sr, asBool_b, asInt_i, items_l, items_t, Res.ok_bind, Res.ex_bind, Res.bad_bind, Res.quiet_ok, op_add_i, op_sub_i, b1_int, b1_abs, b1_lenl, b1_lent, b1_tupl, b1_tupt, b1_listt, b1_listl, lt_i, gt_i, le_i, ge_i, strict_0, strict_s, peek_0, peek_0l, peek_0d, peek_s, bindT_n, bindT_t, bindT_l, bindTs_n, bindTs_c, wipeS_nil, wipeS_cons, e_k, e_v, e_p, e_tup, e_lst, e_nil, e_cons, e_op, e_cmp, e_ch, e_and, e_or, e_not, e_neg, e_ite, e_isN, e_notN, e_ix, e_slf, e_slt, e_slb, e_rev, e_call, e_b1, e_b2, e_isi, e_rng, e_dnil, e_comp, e_dcomp, e_enm', e_zip', e_rl, e_idx, e_join, x_nil, x_cons, x_set, x_setO, x_unp, x_xp, x_ret, x_raise, x_ite, x_forB, x_app, x_tr, x_brk, x_cnt, x_pass, x_fr, x_wipe, x_par, evP_nil, evP_f, evP_t, parR_nil, parR_f, parR_t, x_aug, x_augix, x_setix, setixS_nat, x_extS, x_pop, augD_add, augD_sub, x_while, compR_nil, compR_mapL, compR_some, quiet_ite, in_natL, in_natT, notin_natL, notin_natT, eq_ii, ne_ii, eq_ss, ne_ss, sum_map, all_map, any_map, b2_max, b2_min, ix_0, ix_1, ix_2, ixl_0, ansR_rt, ansR_nx, ansR_ex, toSl_l, toSl_d, sl_tailT, sl_tailL, size_ok, sz_filterL, compG_t, rng_nat, rng_ab, shl_one, shr_nat, band_one, op_mod_i, op_fdiv_i, zipD_map, zipD_tail, add_tup, add_lst, rev_tup, rev_lst, mul_repT, if_true, if_false, ite_true, ite_false, Bool.not_true, Bool.not_false, Bool.false_eq_true, decide_eq_true_eq, decide_true, decide_false, Bool.and_true, Bool.true_and, Bool.or_true, Bool.true_or, Bool.and_false, Bool.false_and, Bool.or_false, Bool.false_or, reduceCtorEq, List.map_cons, List.map_nil, List.length_map, List.length_cons, List.length_nil, List.nil_append, List.cons_append, List.length_range, List.length_append, sz_filterR, Nat.reduceAdd, Int.cast_ofNat_Int, Int.reduceEq, Int.reduceLT, Int.reduceLE, b_delays_with, check_tree_ok g, check_buffer_ok gb, okD, tyD, List.any_cons, List.any_nil, tD_len]
  rw [compR_ok (g := fun _ => .bool true)]
  · simp -implicitDefEqProofs (disch := first | omega | (simp only [List.length_map, List.length_cons, List.length_nil, List.length_append, List.length_range, List.length_replicate, List.length_tail, List.length_reverse]; omega)) only [getS_0, getS_s, setS_0, setS_s, sr_ok, nx_then, rt_then, ex_then, bk_then, ct_then, ex_sr, asBool_b, asInt_i, items_l, items_t, Res.ok_bind, Res.ex_bind, Res.bad_bind, Res.quiet_ok, op_add_i, op_sub_i, b1_int, b1_abs, b1_lenl, b1_lent, b1_tupl, b1_tupt, b1_listt, b1_listl, lt_i, gt_i, le_i, ge_i, strict_0, strict_s, peek_0, peek_0l, peek_0d, peek_s, bindT_n, bindT_t, bindT_l, bindTs_n, bindTs_c, wipeS_nil, wipeS_cons, e_k, e_v, e_p, e_tup, e_lst, e_nil, e_cons, e_op, e_cmp, e_ch, e_and, e_or, e_not, e_neg, e_ite, e_isN, e_notN, e_ix, e_slf, e_slt, e_slb, e_rev, e_call, e_b1, e_b2, e_isi, e_rng, e_dnil, e_comp, e_dcomp, e_enm', e_zip', e_rl, e_idx, e_join, x_nil, x_cons, x_set, x_setO, x_unp, x_xp, x_ret, x_raise, x_ite, x_forB, x_app, x_tr, x_brk, x_cnt, x_pass, x_fr, x_wipe, x_par, evP_nil, evP_f, evP_t, parR_nil, parR_f, parR_t, x_aug, x_augix, x_setix, setixS_nat, x_extS, x_pop, augD_add, augD_sub, x_while, compR_nil, compR_mapL, compR_some, quiet_ite, in_natL, in_natT, notin_natL, notin_natT, eq_ii, ne_ii, eq_ss, ne_ss, sum_map, all_map, any_map, b2_max, b2_min, ix_0, ix_1, ix_2, ixl_0, ansR_rt, ansR_nx, ansR_ex, toSl_l, toSl_d, sl_tailT, sl_tailL, size_ok, sz_filterL, compG_t, rng_nat, rng_ab, shl_one, shr_nat, band_one, op_mod_i, op_fdiv_i, zipD_map, zipD_tail, add_tup, add_lst, rev_tup, rev_lst, mul_repT, if_true, if_false, ite_true, ite_false, Bool.not_true, Bool.not_false, Bool.false_eq_true, decide_eq_true_eq, decide_true, decide_false, Bool.and_true, Bool.true_and, Bool.or_true, Bool.true_or, Bool.and_false, Bool.false_and, Bool.or_false, Bool.false_or, reduceCtorEq, List.map_cons, List.map_nil, List.length_map, List.length_cons, List.length_nil, List.nil_append, List.cons_append, List.length_range, List.length_append, sz_filterR, Nat.reduceAdd, Int.cast_ofNat_Int, Int.reduceEq, Int.reduceLT, Int.reduceLE, delays_of_ok g gb S (.tuple (S.map natD)) rfl, ha]
    simp [ha, delays_of_ok g gb S (.tuple (S.map natD)) rfl]
  · intro s hs
    obtain ⟨h1, h2⟩ := gs.in_ s hs
    have := whole_ok (m := m) (k := k + 3) (natD s) rfl 1 ((t.n : Int) - 1)
    rw [whole_nat s t.n h1 h2] at this
    simp -implicitDefEqProofs (disch := first | omega | (simp only [List.length_map, List.length_cons, List.length_nil, List.length_append, List.length_range, List.length_replicate, List.length_tail, List.length_reverse]; omega)) only [getS_0, getS_s, setS_0, setS_s, sr_ok, nx_then, rt_then, ex_then, bk_then, ct_then, ex_sr, asBool_b, asInt_i, items_l, items_t, Res.ok_bind, Res.ex_bind, Res.bad_bind, Res.quiet_ok, op_add_i, op_sub_i, b1_int, b1_abs, b1_lenl, b1_lent, b1_tupl, b1_tupt, b1_listt, b1_listl, lt_i, gt_i, le_i, ge_i, strict_0, strict_s, peek_0, peek_0l, peek_0d, peek_s, bindT_n, bindT_t, bindT_l, bindTs_n, bindTs_c, wipeS_nil, wipeS_cons, e_k, e_v, e_p, e_tup, e_lst, e_nil, e_cons, e_op, e_cmp, e_ch, e_and, e_or, e_not, e_neg, e_ite, e_isN, e_notN, e_ix, e_slf, e_slt, e_slb, e_rev, e_call, e_b1, e_b2, e_isi, e_rng, e_dnil, e_comp, e_dcomp, e_enm', e_zip', e_rl, e_idx, e_join, x_nil, x_cons, x_set, x_setO, x_unp, x_xp, x_ret, x_raise, x_ite, x_forB, x_app, x_tr, x_brk, x_cnt, x_pass, x_fr, x_wipe, x_par, evP_nil, evP_f, evP_t, parR_nil, parR_f, parR_t, x_aug, x_augix, x_setix, setixS_nat, x_extS, x_pop, augD_add, augD_sub, x_while, compR_nil, compR_mapL, compR_some, quiet_ite, in_natL, in_natT, notin_natL, notin_natT, eq_ii, ne_ii, eq_ss, ne_ss, sum_map, all_map, any_map, b2_max, b2_min, ix_0, ix_1, ix_2, ixl_0, ansR_rt, ansR_nx, ansR_ex, toSl_l, toSl_d, sl_tailT, sl_tailL, size_ok, sz_filterL, compG_t, rng_nat, rng_ab, shl_one, shr_nat, band_one, op_mod_i, op_fdiv_i, zipD_map, zipD_tail, add_tup, add_lst, rev_tup, rev_lst, mul_repT, if_true, if_false, ite_true, ite_false, Bool.not_true, Bool.not_false, Bool.false_eq_true, decide_eq_true_eq, decide_true, decide_false, Bool.and_true, Bool.true_and, Bool.or_true, Bool.true_or, Bool.and_false, Bool.false_and, Bool.or_false, Bool.false_or, reduceCtorEq, List.map_cons, List.map_nil, List.length_map, List.length_cons, List.length_nil, List.nil_append, List.cons_append, List.length_range, List.length_append, sz_filterR, Nat.reduceAdd, Int.cast_ofNat_Int, Int.reduceEq, Int.reduceLT, Int.reduceLE, this]
theorem delays_ok {t : Tr} (g : Good t) : EE m (k + 5) i_delays [tD t] = .ok (.tuple (dsD t (0, 0, 0) [])) := by
  rw [r_delays]
  have := delays_of_ok (m := m) (k := k + 2) g (b := (0, 0, 0)) ⟨by decide, by decide, by decide⟩ [] (.tuple []) rfl
  rw [show bfD (0, 0, 0) = .tuple [.int 0, .int 0, .int 0] from rfl] at this
  simp -implicitDefEqProofs (disch := first | omega | (simp only [List.length_map, List.length_cons, List.length_nil, List.length_append, List.length_range, List.length_replicate, List.length_tail, List.length_reverse]; omega)) only [getS_0, getS_s, setS_0, setS_s, sr_ok, nx_then, rt_then, ex_then, bk_then, ct_then, ex_sr, asBool_b, asInt_i, items_l, items_t, Res.ok_bind, Res.ex_bind, Res.bad_bind, Res.quiet_ok, op_add_i, op_sub_i, b1_int, b1_abs, b1_lenl, b1_lent, b1_tupl, b1_tupt, b1_listt, b1_listl, lt_i, gt_i, le_i, ge_i, strict_0, strict_s, peek_0, peek_0l, peek_0d, peek_s, bindT_n, bindT_t, bindT_l, bindTs_n, bindTs_c, wipeS_nil, wipeS_cons, e_k, e_v, e_p, e_tup, e_lst, e_nil, e_cons, e_op, e_cmp, e_ch, e_and, e_or, e_not, e_neg, e_ite, e_isN, e_notN, e_ix, e_slf, e_slt, e_slb, e_rev, e_call, e_b1, e_b2, e_isi, e_rng, e_dnil, e_comp, e_dcomp, e_enm', e_zip', e_rl, e_idx, e_join, x_nil, x_cons, x_set, x_setO, x_unp, x_xp, x_ret, x_raise, x_ite, x_forB, x_app, x_tr, x_brk, x_cnt, x_pass, x_fr, x_wipe, x_par, evP_nil, evP_f, evP_t, parR_nil, parR_f, parR_t, x_aug, x_augix, x_setix, setixS_nat, x_extS, x_pop, augD_add, augD_sub, x_while, compR_nil, compR_mapL, compR_some, quiet_ite, in_natL, in_natT, notin_natL, notin_natT, eq_ii, ne_ii, eq_ss, ne_ss, sum_map, all_map, any_map, b2_max, b2_min, ix_0, ix_1, ix_2, ixl_0, ansR_rt, ansR_nx, ansR_ex, toSl_l, toSl_d, sl_tailT, sl_tailL, size_ok, sz_filterL, compG_t, rng_nat, rng_ab, shl_one, shr_nat, band_one, op_mod_i, op_fdiv_i, zipD_map, zipD_tail, add_tup, add_lst, rev_tup, rev_lst, mul_repT, if_true, if_false, ite_true, ite_false, Bool.not_true, Bool.not_false, Bool.false_eq_true, decide_eq_true_eq, decide_true, decide_false, Bool.and_true, Bool.true_and, Bool.or_true, Bool.true_or, Bool.and_false, Bool.false_and, Bool.or_false, Bool.false_or, reduceCtorEq, List.map_cons, List.map_nil, List.length_map, List.length_cons, List.length_nil, List.nil_append, List.cons_append, List.length_range, List.length_append, sz_filterR, Nat.reduceAdd, Int.cast_ofNat_Int, Int.reduceEq, Int.reduceLT, Int.reduceLE, b_delays, check_tree_ok g, this]
/-- nodes no tuple -/
theorem bad_nodes_ty {t : Tr} (g : Good t) {b : Nat × Nat × Nat} (gb : GoodB b) (v : BW.D) (ok : okD v = true) (ty : tyD .tuple v = false) : EE m (k + 5) i_delays_with [tD t, bfD b, v] = .ex "BadNodes" := by
  rw [r_delays_with]
  simp -implicitDefEqProofs (disch := first | omega | (simp only [List.length_map, List.length_cons, List.length_nil, List.length_append, List.length_range, List.length_replicate, List.length_tail, List.length_reverse]; omega)) only [getS_0, getS_s, setS_0, setS_s, sr_ok, nx_then, rt_then, ex_then, bk_then, ct_then, ex_sr, asBool_b, asInt_i, items_l, items_t, Res.ok_bind, Res.ex_bind, Res.bad_bind, Res.quiet_ok, op_add_i, op_sub_i, b1_int, b1_abs, b1_lenl, b1_lent, b1_tupl, b1_tupt, b1_listt, b1_listl, lt_i, gt_i, le_i, ge_i, strict_0, strict_s, peek_0, peek_0l, peek_0d, peek_s, bindT_n, bindT_t, bindT_l, bindTs_n, bindTs_c, wipeS_nil, wipeS_cons, e_k, e_v, e_p, e_tup, e_lst, e_nil, e_cons, e_op, e_cmp, e_ch, e_and, e_or, e_not, e_neg, e_ite, e_isN, e_notN, e_ix, e_slf, e_slt, e_slb, e_rev, e_call, e_b1, e_b2, e_isi, e_rng, e_dnil, e_comp, e_dcomp, e_enm', e_zip', e_rl, e_idx, e_join, x_nil, x_cons, x_set, x_setO, x_unp, x_xp, x_ret, x_raise, x_ite, x_forB, x_app, x_tr, x_brk, x_cnt, x_pass, x_fr, x_wipe, x_par, evP_nil, evP_f, evP_t, parR_nil, parR_f, parR_t, x_aug, x_augix, x_setix, setixS_nat, x_extS, x_pop, augD_add, augD_sub, x_while, compR_nil, compR_mapL, compR_some, quiet_ite, in_natL, in_natT, notin_natL, notin_natT, eq_ii, ne_ii, eq_ss, ne_ss, sum_map, all_map, any_map, b2_max, b2_min, ix_0, ix_1, ix_2, ixl_0, ansR_rt, ansR_nx, ansR_ex, toSl_l, toSl_d, sl_tailT, sl_tailL, size_ok, sz_filterL, compG_t, rng_nat, rng_ab, shl_one, shr_nat, band_one, op_mod_i, op_fdiv_i, zipD_map, zipD_tail, add_tup, add_lst, rev_tup, rev_lst, mul_repT, if_true, if_false, ite_true, ite_false, Bool.not_true, Bool.not_false, Bool.false_eq_true, decide_eq_true_eq, decide_true, decide_false, Bool.and_true, Bool.true_and, Bool.or_true, Bool.true_or, Bool.and_false, Bool.false_and, Bool.or_false, Bool.false_or, reduceCtorEq, List.map_cons, List.map_nil, List.length_map, List.length_cons, List.length_nil, List.nil_append, List.cons_append, List.length_range, List.length_append, sz_filterR, Nat.reduceAdd, Int.cast_ofNat_Int, Int.reduceEq, Int.reduceLT, Int.reduceLE, b_delays_with, check_tree_ok g, check_buffer_ok gb, ok, ty, List.any_cons, List.any_nil, tD_len]
/-- a node out of range -/
theorem bad_nodes_whole {t : Tr} (g : Good t) {b : Nat × Nat × Nat} (gb : GoodB b) (ds : List BW.D) (hz : ds.length ≤ 100) (ok : ∀ d ∈ ds, okD d = true) (w : (ds.all fun d => isWh d 1 ((t.n : Int) - 1)) = false) : EE m (k + 5) i_delays_with [tD t, bfD b, .tuple ds] = .ex "BadNodes" := by
  rw [r_delays_with]
  simp -implicitDefEqProofs (disch := first | omega | (simp only [List.length_map, List.length_cons, List.length_nil, List.length_append, List.length_range, List.length_replicate, List.length_tail, List.length_reverse]; omega)) only [getS_0, getS_s, setS_0, setS_s, sr_ok, nx_then, rt_then, ex_then, bk_then, ct_then, ex_sr, asBool_b, asInt_i, items_l, items_t, Res.ok_bind, Res.ex_bind, Res.bad_bind, Res.quiet_ok, op_add_i, op_sub_i, b1_int, b1_abs, b1_lenl, b1_lent, b1_tupl, b1_tupt, b1_listt, b1_listl, lt_i, gt_i, le_i, ge_i, strict_0, strict_s, peek_0, peek_0l, peek_0d, peek_s, bindT_n, bindT_t, bindT_l, bindTs_n, bindTs_c, wipeS_nil, wipeS_cons, e_k, e_v, e_p, e_tup, e_lst, e_nil, e_cons, e_op, e_cmp, e_ch, e_and, e_or, e_not, e_neg, e_ite, e_isN, e_notN, e_ix, e_slf, e_slt, e_slb, e_rev, e_call, e_b1, e_b2, e_isi, e_rng, e_dnil, e_comp, e_dcomp, e_enm', e_zip', e_rl, e_idx, e_join, x_nil, x_cons, x_set, x_setO, x_unp, x_xp, x_ret, x_raise, x_ite, x_forB, x_app, x_tr, x_brk, x_cnt, x_pass, x_fr, x_wipe, x_par, evP_nil, evP_f, evP_t, parR_nil, parR_f, parR_t, x_aug, x_augix, x_setix, setixS_nat, x_extS, x_pop, augD_add, augD_sub, x_while, compR_nil, compR_mapL, compR_some, quiet_ite, in_natL, in_natT, notin_natL, notin_natT, eq_ii, ne_ii, eq_ss, ne_ss, sum_map, all_map, any_map, b2_max, b2_min, ix_0, ix_1, ix_2, ixl_0, ansR_rt, ansR_nx, ansR_ex, toSl_l, toSl_d, sl_tailT, sl_tailL, size_ok, sz_filterL, compG_t, rng_nat, rng_ab, shl_one, shr_nat, band_one, op_mod_i, op_fdiv_i, zipD_map, zipD_tail, add_tup, add_lst, rev_tup, rev_lst, mul_repT, if_true, if_false, ite_true, ite_false, Bool.not_true, Bool.not_false, Bool.false_eq_true, decide_eq_true_eq, decide_true, decide_false, Bool.and_true, Bool.true_and, Bool.or_true, Bool.true_or, Bool.and_false, Bool.false_and, Bool.or_false, Bool.false_or, reduceCtorEq, List.map_cons, List.map_nil, List.length_map, List.length_cons, List.length_nil, List.nil_append, List.cons_append, List.length_range, List.length_append, sz_filterR, Nat.reduceAdd, Int.cast_ofNat_Int, Int.reduceEq, Int.reduceLT, Int.reduceLE, b_delays_with, check_tree_ok g, check_buffer_ok gb, okD, tyD, List.any_cons, List.any_nil, tD_len]
  have hc : compR (compG (EE m (k + 4)) (.call i_is_whole [.v 3, .k (.int 1), .op .sub (.b1 .len (.v 0)) (.k (.int 1))]) (.n 3) (.k (.bool true)) [3] [.fz (tD t), .fz (bfD b), .fz (.tuple ds), .un]) ds = .ok (ds.map fun d => .bool (isWh d 1 ((t.n : Int) - 1))) := compR_ok fun d hd => by
    have hw := whole_ok (m := m) (k := k + 3) d (ok d hd) 1 ((t.n : Int) - 1)
    simp -implicitDefEqProofs (disch := first | omega | (simp only [List.length_map, List.length_cons, List.length_nil, List.length_append, List.length_range, List.length_replicate, List.length_tail, List.length_reverse]; omega)) only [getS_0, getS_s, setS_0, setS_s, sr_ok, nx_then, rt_then, ex_then, bk_then, ct_then, ex_sr, asBool_b, asInt_i, items_l, items_t, Res.ok_bind, Res.ex_bind, Res.bad_bind, Res.quiet_ok, op_add_i, op_sub_i, b1_int, b1_abs, b1_lenl, b1_lent, b1_tupl, b1_tupt, b1_listt, b1_listl, lt_i, gt_i, le_i, ge_i, strict_0, strict_s, peek_0, peek_0l, peek_0d, peek_s, bindT_n, bindT_t, bindT_l, bindTs_n, bindTs_c, wipeS_nil, wipeS_cons, e_k, e_v, e_p, e_tup, e_lst, e_nil, e_cons, e_op, e_cmp, e_ch, e_and, e_or, e_not, e_neg, e_ite, e_isN, e_notN, e_ix, e_slf, e_slt, e_slb, e_rev, e_call, e_b1, e_b2, e_isi, e_rng, e_dnil, e_comp, e_dcomp, e_enm', e_zip', e_rl, e_idx, e_join, x_nil, x_cons, x_set, x_setO, x_unp, x_xp, x_ret, x_raise, x_ite, x_forB, x_app, x_tr, x_brk, x_cnt, x_pass, x_fr, x_wipe, x_par, evP_nil, evP_f, evP_t, parR_nil, parR_f, parR_t, x_aug, x_augix, x_setix, setixS_nat, x_extS, x_pop, augD_add, augD_sub, x_while, compR_nil, compR_mapL, compR_some, quiet_ite, in_natL, in_natT, notin_natL, notin_natT, eq_ii, ne_ii, eq_ss, ne_ss, sum_map, all_map, any_map, b2_max, b2_min, ix_0, ix_1, ix_2, ixl_0, ansR_rt, ansR_nx, ansR_ex, toSl_l, toSl_d, sl_tailT, sl_tailL, size_ok, sz_filterL, compG_t, rng_nat, rng_ab, shl_one, shr_nat, band_one, op_mod_i, op_fdiv_i, zipD_map, zipD_tail, add_tup, add_lst, rev_tup, rev_lst, mul_repT, if_true, if_false, ite_true, ite_false, Bool.not_true, Bool.not_false, Bool.false_eq_true, decide_eq_true_eq, decide_true, decide_false, Bool.and_true, Bool.true_and, Bool.or_true, Bool.true_or, Bool.and_false, Bool.false_and, Bool.or_false, Bool.false_or, reduceCtorEq, List.map_cons, List.map_nil, List.length_map, List.length_cons, List.length_nil, List.nil_append, List.cons_append, List.length_range, List.length_append, sz_filterR, Nat.reduceAdd, Int.cast_ofNat_Int, Int.reduceEq, Int.reduceLT, Int.reduceLE, tD_len, hw]
  simp -implicitDefEqProofs (disch := first | omega | (simp only [List.length_map, List.length_cons, List.length_nil, List.length_append, List.length_range, List.length_replicate, List.length_tail, List.length_reverse]; omega)) only [getS_0, getS_s, setS_0, setS_s, sr_ok, nx_then, rt_then, ex_then, bk_then, ct_then, ex_sr, asBool_b, asInt_i, items_l, items_t, Res.ok_bind, Res.ex_bind, Res.bad_bind, Res.quiet_ok, op_add_i, op_sub_i, b1_int, b1_abs, b1_lenl, b1_lent, b1_tupl, b1_tupt, b1_listt, b1_listl, lt_i, gt_i, le_i, ge_i, strict_0, strict_s, peek_0, peek_0l, peek_0d, peek_s, bindT_n, bindT_t, bindT_l, bindTs_n, bindTs_c, wipeS_nil, wipeS_cons, e_k, e_v, e_p, e_tup, e_lst, e_nil, e_cons, e_op, e_cmp, e_ch, e_and, e_or, e_not, e_neg, e_ite, e_isN, e_notN, e_ix, e_slf, e_slt, e_slb, e_rev, e_call, e_b1, e_b2, e_isi, e_rng, e_dnil, e_comp, e_dcomp, e_enm', e_zip', e_rl, e_idx, e_join, x_nil, x_cons, x_set, x_setO, x_unp, x_xp, x_ret, x_raise, x_ite, x_forB, x_app, x_tr, x_brk, x_cnt, x_pass, x_fr, x_wipe, x_par, evP_nil, evP_f, evP_t, parR_nil, parR_f, parR_t, x_aug, x_augix, x_setix, setixS_nat, x_extS, x_pop, augD_add, augD_sub, x_while, compR_nil, compR_mapL, compR_some, quiet_ite, in_natL, in_natT, notin_natL, notin_natT, eq_ii, ne_ii, eq_ss, ne_ss, sum_map, all_map, any_map, b2_max, b2_min, ix_0, ix_1, ix_2, ixl_0, ansR_rt, ansR_nx, ansR_ex, toSl_l, toSl_d, sl_tailT, sl_tailL, size_ok, sz_filterL, compG_t, rng_nat, rng_ab, shl_one, shr_nat, band_one, op_mod_i, op_fdiv_i, zipD_map, zipD_tail, add_tup, add_lst, rev_tup, rev_lst, mul_repT, if_true, if_false, ite_true, ite_false, Bool.not_true, Bool.not_false, Bool.false_eq_true, decide_eq_true_eq, decide_true, decide_false, Bool.and_true, Bool.true_and, Bool.or_true, Bool.true_or, Bool.and_false, Bool.false_and, Bool.or_false, Bool.false_or, reduceCtorEq, List.map_cons, List.map_nil, List.length_map, List.length_cons, List.length_nil, List.nil_append, List.cons_append, List.length_range, List.length_append, sz_filterR, Nat.reduceAdd, Int.cast_ofNat_Int, Int.reduceEq, Int.reduceLT, Int.reduceLE, hc, w]
/-- nodes not in order -/
theorem bad_nodes_order {t : Tr} (g : Good t) {b : Nat × Nat × Nat} (gb : GoodB b) (L : List Int) (hz : L.length ≤ 100) (w : adjI L = false) : EE m (k + 5) i_delays_with [tD t, bfD b, .tuple (L.map .int)] = .ex "BadNodes" := by
  by_cases q : ((L.map PyData.int).all fun d => isWh d 1 ((t.n : Int) - 1)) = true
  · rw [r_delays_with]
    have ha : EE m (k + 4) i_ascends [.tuple (L.map .int)] = .ok (.bool false) := by rw [ascends_int L (by omega), w]
    simp -implicitDefEqProofs (disch := first | omega | (simp only [List.length_map, List.length_cons, List.length_nil, List.length_append, List.length_range, List.length_replicate, List.length_tail, List.length_reverse]; omega)) only [getS_0, getS_s, setS_0, setS_s, sr_ok, nx_then, rt_then, ex_then, bk_then, ct_then, ex_sr, asBool_b, asInt_i, items_l, items_t, Res.ok_bind, Res.ex_bind, Res.bad_bind, Res.quiet_ok, op_add_i, op_sub_i, b1_int, b1_abs, b1_lenl, b1_lent, b1_tupl, b1_tupt, b1_listt, b1_listl, lt_i, gt_i, le_i, ge_i, strict_0, strict_s, peek_0, peek_0l, peek_0d, peek_s, bindT_n, bindT_t, bindT_l, bindTs_n, bindTs_c, wipeS_nil, wipeS_cons, e_k, e_v, e_p, e_tup, e_lst, e_nil, e_cons, e_op, e_cmp, e_ch, e_and, e_or, e_not, e_neg, e_ite, e_isN, e_notN, e_ix, e_slf, e_slt, e_slb, e_rev, e_call, e_b1, e_b2, e_isi, e_rng, e_dnil, e_comp, e_dcomp, e_enm', e_zip', e_rl, e_idx, e_join, x_nil, x_cons, x_set, x_setO, x_unp, x_xp, x_ret, x_raise, x_ite, x_forB, x_app, x_tr, x_brk, x_cnt, x_pass, x_fr, x_wipe, x_par, evP_nil, evP_f, evP_t, parR_nil, parR_f, parR_t, x_aug, x_augix, x_setix, setixS_nat, x_extS, x_pop, augD_add, augD_sub, x_while, compR_nil, compR_mapL, compR_some, quiet_ite, in_natL, in_natT, notin_natL, notin_natT, eq_ii, ne_ii, eq_ss, ne_ss, sum_map, all_map, any_map, b2_max, b2_min, ix_0, ix_1, ix_2, ixl_0, ansR_rt, ansR_nx, ansR_ex, toSl_l, toSl_d, sl_tailT, sl_tailL, size_ok, sz_filterL, compG_t, rng_nat, rng_ab, shl_one, shr_nat, band_one, op_mod_i, op_fdiv_i, zipD_map, zipD_tail, add_tup, add_lst, rev_tup, rev_lst, mul_repT, if_true, if_false, ite_true, ite_false, Bool.not_true, Bool.not_false, Bool.false_eq_true, decide_eq_true_eq, decide_true, decide_false, Bool.and_true, Bool.true_and, Bool.or_true, Bool.true_or, Bool.and_false, Bool.false_and, Bool.or_false, Bool.false_or, reduceCtorEq, List.map_cons, List.map_nil, List.length_map, List.length_cons, List.length_nil, List.nil_append, List.cons_append, List.length_range, List.length_append, sz_filterR, Nat.reduceAdd, Int.cast_ofNat_Int, Int.reduceEq, Int.reduceLT, Int.reduceLE, b_delays_with, check_tree_ok g, check_buffer_ok gb, okD, tyD, List.any_cons, List.any_nil, tD_len]
    rw [compR_ok (g := fun i : Int => PyData.bool (isWh (.int i) 1 ((t.n : Int) - 1)))]
    · have q : (L.all fun i => isWh (.int i) 1 ((t.n : Int) - 1)) = true := by rw [List.all_map] at q; exact q
      simp -implicitDefEqProofs (disch := first | omega | (simp only [List.length_map, List.length_cons, List.length_nil, List.length_append, List.length_range, List.length_replicate, List.length_tail, List.length_reverse]; omega)) only [getS_0, getS_s, setS_0, setS_s, sr_ok, nx_then, rt_then, ex_then, bk_then, ct_then, ex_sr, asBool_b, asInt_i, items_l, items_t, Res.ok_bind, Res.ex_bind, Res.bad_bind, Res.quiet_ok, op_add_i, op_sub_i, b1_int, b1_abs, b1_lenl, b1_lent, b1_tupl, b1_tupt, b1_listt, b1_listl, lt_i, gt_i, le_i, ge_i, strict_0, strict_s, peek_0, peek_0l, peek_0d, peek_s, bindT_n, bindT_t, bindT_l, bindTs_n, bindTs_c, wipeS_nil, wipeS_cons, e_k, e_v, e_p, e_tup, e_lst, e_nil, e_cons, e_op, e_cmp, e_ch, e_and, e_or, e_not, e_neg, e_ite, e_isN, e_notN, e_ix, e_slf, e_slt, e_slb, e_rev, e_call, e_b1, e_b2, e_isi, e_rng, e_dnil, e_comp, e_dcomp, e_enm', e_zip', e_rl, e_idx, e_join, x_nil, x_cons, x_set, x_setO, x_unp, x_xp, x_ret, x_raise, x_ite, x_forB, x_app, x_tr, x_brk, x_cnt, x_pass, x_fr, x_wipe, x_par, evP_nil, evP_f, evP_t, parR_nil, parR_f, parR_t, x_aug, x_augix, x_setix, setixS_nat, x_extS, x_pop, augD_add, augD_sub, x_while, compR_nil, compR_mapL, compR_some, quiet_ite, in_natL, in_natT, notin_natL, notin_natT, eq_ii, ne_ii, eq_ss, ne_ss, sum_map, all_map, any_map, b2_max, b2_min, ix_0, ix_1, ix_2, ixl_0, ansR_rt, ansR_nx, ansR_ex, toSl_l, toSl_d, sl_tailT, sl_tailL, size_ok, sz_filterL, compG_t, rng_nat, rng_ab, shl_one, shr_nat, band_one, op_mod_i, op_fdiv_i, zipD_map, zipD_tail, add_tup, add_lst, rev_tup, rev_lst, mul_repT, if_true, if_false, ite_true, ite_false, Bool.not_true, Bool.not_false, Bool.false_eq_true, decide_eq_true_eq, decide_true, decide_false, Bool.and_true, Bool.true_and, Bool.or_true, Bool.true_or, Bool.and_false, Bool.false_and, Bool.or_false, Bool.false_or, reduceCtorEq, List.map_cons, List.map_nil, List.length_map, List.length_cons, List.length_nil, List.nil_append, List.cons_append, List.length_range, List.length_append, sz_filterR, Nat.reduceAdd, Int.cast_ofNat_Int, Int.reduceEq, Int.reduceLT, Int.reduceLE, ha, q]
    · intro i _
      simp -implicitDefEqProofs (disch := first | omega | (simp only [List.length_map, List.length_cons, List.length_nil, List.length_append, List.length_range, List.length_replicate, List.length_tail, List.length_reverse]; omega)) only [getS_0, getS_s, setS_0, setS_s, sr_ok, nx_then, rt_then, ex_then, bk_then, ct_then, ex_sr, asBool_b, asInt_i, items_l, items_t, Res.ok_bind, Res.ex_bind, Res.bad_bind, Res.quiet_ok, op_add_i, op_sub_i, b1_int, b1_abs, b1_lenl, b1_lent, b1_tupl, b1_tupt, b1_listt, b1_listl, lt_i, gt_i, le_i, ge_i, strict_0, strict_s, peek_0, peek_0l, peek_0d, peek_s, bindT_n, bindT_t, bindT_l, bindTs_n, bindTs_c, wipeS_nil, wipeS_cons, e_k, e_v, e_p, e_tup, e_lst, e_nil, e_cons, e_op, e_cmp, e_ch, e_and, e_or, e_not, e_neg, e_ite, e_isN, e_notN, e_ix, e_slf, e_slt, e_slb, e_rev, e_call, e_b1, e_b2, e_isi, e_rng, e_dnil, e_comp, e_dcomp, e_enm', e_zip', e_rl, e_idx, e_join, x_nil, x_cons, x_set, x_setO, x_unp, x_xp, x_ret, x_raise, x_ite, x_forB, x_app, x_tr, x_brk, x_cnt, x_pass, x_fr, x_wipe, x_par, evP_nil, evP_f, evP_t, parR_nil, parR_f, parR_t, x_aug, x_augix, x_setix, setixS_nat, x_extS, x_pop, augD_add, augD_sub, x_while, compR_nil, compR_mapL, compR_some, quiet_ite, in_natL, in_natT, notin_natL, notin_natT, eq_ii, ne_ii, eq_ss, ne_ss, sum_map, all_map, any_map, b2_max, b2_min, ix_0, ix_1, ix_2, ixl_0, ansR_rt, ansR_nx, ansR_ex, toSl_l, toSl_d, sl_tailT, sl_tailL, size_ok, sz_filterL, compG_t, rng_nat, rng_ab, shl_one, shr_nat, band_one, op_mod_i, op_fdiv_i, zipD_map, zipD_tail, add_tup, add_lst, rev_tup, rev_lst, mul_repT, if_true, if_false, ite_true, ite_false, Bool.not_true, Bool.not_false, Bool.false_eq_true, decide_eq_true_eq, decide_true, decide_false, Bool.and_true, Bool.true_and, Bool.or_true, Bool.true_or, Bool.and_false, Bool.false_and, Bool.or_false, Bool.false_or, reduceCtorEq, List.map_cons, List.map_nil, List.length_map, List.length_cons, List.length_nil, List.nil_append, List.cons_append, List.length_range, List.length_append, sz_filterR, Nat.reduceAdd, Int.cast_ofNat_Int, Int.reduceEq, Int.reduceLT, Int.reduceLE, tD_len, whole_ok (m := m) (k := k + 3) (.int i) rfl 1 ((t.n : Int) - 1)]
  · exact bad_nodes_whole g gb _ (by simpa using hz) (fun d hd => by obtain ⟨i, _, rfl⟩ := List.mem_map.mp hd; rfl) (by simpa using q)
theorem bad_buffer {t : Tr} (g : Good t) (v x : BW.D) (ok : okD v = true) (oks : ∀ ds, v = .tuple ds → ds.length ≤ 100 ∧ ∀ d ∈ ds, okD d = true) (w : bufOk v = false) : EE m (k + 5) i_delays_with [tD t, v, x] = .ex "BadBuffer" := by
  rw [r_delays_with]
  have := check_buffer_gen (m := m) (k := k + 2) v ok oks
  rw [w] at this
  simp -implicitDefEqProofs (disch := first | omega | (simp only [List.length_map, List.length_cons, List.length_nil, List.length_append, List.length_range, List.length_replicate, List.length_tail, List.length_reverse]; omega)) only [getS_0, getS_s, setS_0, setS_s, sr_ok, nx_then, rt_then, ex_then, bk_then, ct_then, ex_sr, asBool_b, asInt_i, items_l, items_t, Res.ok_bind, Res.ex_bind, Res.bad_bind, Res.quiet_ok, op_add_i, op_sub_i, b1_int, b1_abs, b1_lenl, b1_lent, b1_tupl, b1_tupt, b1_listt, b1_listl, lt_i, gt_i, le_i, ge_i, strict_0, strict_s, peek_0, peek_0l, peek_0d, peek_s, bindT_n, bindT_t, bindT_l, bindTs_n, bindTs_c, wipeS_nil, wipeS_cons, e_k, e_v, e_p, e_tup, e_lst, e_nil, e_cons, e_op, e_cmp, e_ch, e_and, e_or, e_not, e_neg, e_ite, e_isN, e_notN, e_ix, e_slf, e_slt, e_slb, e_rev, e_call, e_b1, e_b2, e_isi, e_rng, e_dnil, e_comp, e_dcomp, e_enm', e_zip', e_rl, e_idx, e_join, x_nil, x_cons, x_set, x_setO, x_unp, x_xp, x_ret, x_raise, x_ite, x_forB, x_app, x_tr, x_brk, x_cnt, x_pass, x_fr, x_wipe, x_par, evP_nil, evP_f, evP_t, parR_nil, parR_f, parR_t, x_aug, x_augix, x_setix, setixS_nat, x_extS, x_pop, augD_add, augD_sub, x_while, compR_nil, compR_mapL, compR_some, quiet_ite, in_natL, in_natT, notin_natL, notin_natT, eq_ii, ne_ii, eq_ss, ne_ss, sum_map, all_map, any_map, b2_max, b2_min, ix_0, ix_1, ix_2, ixl_0, ansR_rt, ansR_nx, ansR_ex, toSl_l, toSl_d, sl_tailT, sl_tailL, size_ok, sz_filterL, compG_t, rng_nat, rng_ab, shl_one, shr_nat, band_one, op_mod_i, op_fdiv_i, zipD_map, zipD_tail, add_tup, add_lst, rev_tup, rev_lst, mul_repT, if_true, if_false, ite_true, ite_false, Bool.not_true, Bool.not_false, Bool.false_eq_true, decide_eq_true_eq, decide_true, decide_false, Bool.and_true, Bool.true_and, Bool.or_true, Bool.true_or, Bool.and_false, Bool.false_and, Bool.or_false, Bool.false_or, reduceCtorEq, List.map_cons, List.map_nil, List.length_map, List.length_cons, List.length_nil, List.nil_append, List.cons_append, List.length_range, List.length_append, sz_filterR, Nat.reduceAdd, Int.cast_ofNat_Int, Int.reduceEq, Int.reduceLT, Int.reduceLE, b_delays_with, check_tree_ok g, this]
theorem bad_best {t : Tr} (g : Good t) (v : BW.D) (ok : okD v = true) (oks : ∀ ds, v = .tuple ds → ds.length ≤ 100 ∧ ∀ d ∈ ds, okD d = true) (w : bufOk v = false) : EE m (k + 5) i_best_buffers [tD t, v] = .ex "BadBuffer" := by
  rw [r_best_buffers]
  have := check_buffer_gen (m := m) (k := k + 2) v ok oks
  rw [w] at this
  simp -implicitDefEqProofs (disch := first | omega | (simp only [List.length_map, List.length_cons, List.length_nil, List.length_append, List.length_range, List.length_replicate, List.length_tail, List.length_reverse]; omega)) only [getS_0, getS_s, setS_0, setS_s, sr_ok, nx_then, rt_then, ex_then, bk_then, ct_then, ex_sr, asBool_b, asInt_i, items_l, items_t, Res.ok_bind, Res.ex_bind, Res.bad_bind, Res.quiet_ok, op_add_i, op_sub_i, b1_int, b1_abs, b1_lenl, b1_lent, b1_tupl, b1_tupt, b1_listt, b1_listl, lt_i, gt_i, le_i, ge_i, strict_0, strict_s, peek_0, peek_0l, peek_0d, peek_s, bindT_n, bindT_t, bindT_l, bindTs_n, bindTs_c, wipeS_nil, wipeS_cons, e_k, e_v, e_p, e_tup, e_lst, e_nil, e_cons, e_op, e_cmp, e_ch, e_and, e_or, e_not, e_neg, e_ite, e_isN, e_notN, e_ix, e_slf, e_slt, e_slb, e_rev, e_call, e_b1, e_b2, e_isi, e_rng, e_dnil, e_comp, e_dcomp, e_enm', e_zip', e_rl, e_idx, e_join, x_nil, x_cons, x_set, x_setO, x_unp, x_xp, x_ret, x_raise, x_ite, x_forB, x_app, x_tr, x_brk, x_cnt, x_pass, x_fr, x_wipe, x_par, evP_nil, evP_f, evP_t, parR_nil, parR_f, parR_t, x_aug, x_augix, x_setix, setixS_nat, x_extS, x_pop, augD_add, augD_sub, x_while, compR_nil, compR_mapL, compR_some, quiet_ite, in_natL, in_natT, notin_natL, notin_natT, eq_ii, ne_ii, eq_ss, ne_ss, sum_map, all_map, any_map, b2_max, b2_min, ix_0, ix_1, ix_2, ixl_0, ansR_rt, ansR_nx, ansR_ex, toSl_l, toSl_d, sl_tailT, sl_tailL, size_ok, sz_filterL, compG_t, rng_nat, rng_ab, shl_one, shr_nat, band_one, op_mod_i, op_fdiv_i, zipD_map, zipD_tail, add_tup, add_lst, rev_tup, rev_lst, mul_repT, if_true, if_false, ite_true, ite_false, Bool.not_true, Bool.not_false, Bool.false_eq_true, decide_eq_true_eq, decide_true, decide_false, Bool.and_true, Bool.true_and, Bool.or_true, Bool.true_or, Bool.and_false, Bool.false_and, Bool.or_false, Bool.false_or, reduceCtorEq, List.map_cons, List.map_nil, List.length_map, List.length_cons, List.length_nil, List.nil_append, List.cons_append, List.length_range, List.length_append, sz_filterR, Nat.reduceAdd, Int.cast_ofNat_Int, Int.reduceEq, Int.reduceLT, Int.reduceLE, b_best_buffers, check_tree_ok g, this]
theorem bad_options {t : Tr} (g : Good t) (v : BW.D) (ok : okD v = true) (oks : ∀ ds, v = .tuple ds → ds.length ≤ 100 ∧ ∀ d ∈ ds, okD d = true) (w : bufOk v = false) : EE m (k + 5) i_options [tD t, v] = .ex "BadBuffer" := by
  rw [r_options]
  have := check_buffer_gen (m := m) (k := k + 2) v ok oks
  rw [w] at this
  simp -implicitDefEqProofs (disch := first | omega | (simp only [List.length_map, List.length_cons, List.length_nil, List.length_append, List.length_range, List.length_replicate, List.length_tail, List.length_reverse]; omega)) only [getS_0, getS_s, setS_0, setS_s, sr_ok, nx_then, rt_then, ex_then, bk_then, ct_then, ex_sr, asBool_b, asInt_i, items_l, items_t, Res.ok_bind, Res.ex_bind, Res.bad_bind, Res.quiet_ok, op_add_i, op_sub_i, b1_int, b1_abs, b1_lenl, b1_lent, b1_tupl, b1_tupt, b1_listt, b1_listl, lt_i, gt_i, le_i, ge_i, strict_0, strict_s, peek_0, peek_0l, peek_0d, peek_s, bindT_n, bindT_t, bindT_l, bindTs_n, bindTs_c, wipeS_nil, wipeS_cons, e_k, e_v, e_p, e_tup, e_lst, e_nil, e_cons, e_op, e_cmp, e_ch, e_and, e_or, e_not, e_neg, e_ite, e_isN, e_notN, e_ix, e_slf, e_slt, e_slb, e_rev, e_call, e_b1, e_b2, e_isi, e_rng, e_dnil, e_comp, e_dcomp, e_enm', e_zip', e_rl, e_idx, e_join, x_nil, x_cons, x_set, x_setO, x_unp, x_xp, x_ret, x_raise, x_ite, x_forB, x_app, x_tr, x_brk, x_cnt, x_pass, x_fr, x_wipe, x_par, evP_nil, evP_f, evP_t, parR_nil, parR_f, parR_t, x_aug, x_augix, x_setix, setixS_nat, x_extS, x_pop, augD_add, augD_sub, x_while, compR_nil, compR_mapL, compR_some, quiet_ite, in_natL, in_natT, notin_natL, notin_natT, eq_ii, ne_ii, eq_ss, ne_ss, sum_map, all_map, any_map, b2_max, b2_min, ix_0, ix_1, ix_2, ixl_0, ansR_rt, ansR_nx, ansR_ex, toSl_l, toSl_d, sl_tailT, sl_tailL, size_ok, sz_filterL, compG_t, rng_nat, rng_ab, shl_one, shr_nat, band_one, op_mod_i, op_fdiv_i, zipD_map, zipD_tail, add_tup, add_lst, rev_tup, rev_lst, mul_repT, if_true, if_false, ite_true, ite_false, Bool.not_true, Bool.not_false, Bool.false_eq_true, decide_eq_true_eq, decide_true, decide_false, Bool.and_true, Bool.true_and, Bool.or_true, Bool.true_or, Bool.and_false, Bool.false_and, Bool.or_false, Bool.false_or, reduceCtorEq, List.map_cons, List.map_nil, List.length_map, List.length_cons, List.length_nil, List.nil_append, List.cons_append, List.length_range, List.length_append, sz_filterR, Nat.reduceAdd, Int.cast_ofNat_Int, Int.reduceEq, Int.reduceLT, Int.reduceLE, b_options, check_tree_ok g, this]
end Wt

namespace Wt
open PySem PySem.W L2 BW
variable {m : Md} {k : Nat}
/-! ### the law's own trees -/
theorem law_draws_ok (ns : List Int) (h : ns.length ≤ 63) (many : Nat) (hm : many ≤ 100000) : ∃ ds : List Nat, EE m (k + 1) i_law_draws [scrD ns, .int many] = .ok (.list (ds.map natD)) ∧ ds.length = many := by
  obtain ⟨dr, e1, e2, e3⟩ := draws_ok (fe := EE m k) (sub := m.sub) (n := fuel) ns h many hm
  refine ⟨dr.map Int.toNat, ?_, by simpa using e2⟩
  have e : EE m (k + 1) i_law_draws [scrD ns, .int many] = runD (EE m k) m.sub fuel dDraws [scrD ns, .int many] := by
    unfold EE
    rw [feN_succ (d := d_law_draws) rfl]
    rfl
  rw [e, e1, List.map_map]
  congr 2
  apply List.map_congr_left
  intro d hd
  have := (e3 d hd).1
  show PyData.int d = PyData.int ((d.toNat : Nat) : Int)
  rw [Int.toNat_of_nonneg this]
abbrev Row := Nat × Nat × Nat
def rowD (r : Row) : BW.D := .tuple [natD r.1, natD r.2.1, natD r.2.2]
def treeOf (l0 : Nat) (rs : List Row) : Tr where
  n := rs.length + 1
  p := fun i => (rs.getD (i - 1) (0, 0, 0)).1
  r := fun i => if i = 0 then 0 else (rs.getD (i - 1) (0, 0, 0)).2.1
  l := fun i => if i = 0 then l0 else (rs.getD (i - 1) (0, 0, 0)).2.2
theorem treeOf_d (l0 : Nat) (rs : List Row) : tD (treeOf l0 rs) = .tuple (.tuple [.none, .int 0, natD l0] :: rs.map rowD) := by
  unfold tD
  congr 1
  apply List.ext_getElem
  · simp [treeOf]
  · intro i h1 h2
    rw [List.getElem_map, List.getElem_range]
    cases i with
    | zero => simp [nodeD, treeOf]
    | succ i =>
      simp only [List.length_cons, List.length_map] at h2
      have hi : i < rs.length := by omega
      simp [nodeD, treeOf, rowD, hi]
structure GoodR (i : Nat) (w : Row) : Prop where
  p : w.1 < i
  r : w.2.1 ≤ 1000
  l : w.2.2 ≤ 1000
theorem treeOf_good {l0 : Nat} {rs : List Row} (hl : l0 ≤ 1000) (h8 : rs.length ≤ 8) (h : ∀ i (hi : i < rs.length), GoodR (i + 1) rs[i]) : Good (treeOf l0 rs) where
  n1 := by simp [treeOf]
  n9 := by simp [treeOf]; omega
  r0 := rfl
  p := fun i h0 hi => by
    have hi : i < rs.length + 1 := hi
    have := (h (i - 1) (by omega)).p
    have e : (treeOf l0 rs).p i = (rs[i - 1]'(by omega)).1 := by simp [treeOf, show i - 1 < rs.length by omega]
    omega
  r := fun i hi => by
    have hi : i < rs.length + 1 := hi
    by_cases h0 : i = 0
    · simp [treeOf, h0]
    · have := (h (i - 1) (by omega)).r
      have e : (treeOf l0 rs).r i = (rs[i - 1]'(by omega)).2.1 := by simp [treeOf, h0, show i - 1 < rs.length by omega]
      omega
  l := fun i hi => by
    have hi : i < rs.length + 1 := hi
    by_cases h0 : i = 0
    · simp [treeOf, h0, hl]
    · have := (h (i - 1) (by omega)).l
      have e : (treeOf l0 rs).l i = (rs[i - 1]'(by omega)).2.2 := by simp [treeOf, h0, show i - 1 < rs.length by omega]
      omega
theorem kinds (κ : Nat) (h : κ < 3) : ∃ m2 m3 : Nat, ixD (.list [.int 9, .int 1001, .int 2]) (.int κ) = .ok (.int m2) ∧ 0 < m2 ∧ m2 ≤ 1001 ∧ ixD (.list [.int 9, .int 1001, .int 3]) (.int κ) = .ok (.int m3) ∧ 0 < m3 ∧ m3 ≤ 1001 := by
  have : κ = 0 ∨ κ = 1 ∨ κ = 2 := by omega
  rcases this with rfl | rfl | rfl
  · exact ⟨9, 9, rfl, by decide, by decide, rfl, by decide, by decide⟩
  · exact ⟨1001, 1001, rfl, by decide, by decide, rfl, by decide, by decide⟩
  · exact ⟨2, 3, rfl, by decide, by decide, rfl, by decide, by decide⟩
theorem tree_turn (ds : List Nat) (hd : ds.length = 14) (κ m2 m3 j : Nat) (a b : BW.D) (l0 : Nat) (rs : List Row) (h1 : 1 ≤ j) (hj : j ≤ 8) (hr : rs.length ≤ 8) (h2 : ixD (.list [.int 9, .int 1001, .int 2]) (.int κ) = .ok (.int m2)) (p2 : 0 < m2) (q2 : m2 ≤ 1001) (h3 : ixD (.list [.int 9, .int 1001, .int 3]) (.int κ) = .ok (.int m3)) (p3 : 0 < m3) (q3 : m3 ≤ 1001) :
    ∃ r : Row, GoodR j r ∧ forB (EE m k) m.sub fuel (.n 5) b_law_tree_1 (natD j) [.fz (.list (ds.map natD)), .fz a, .fz b, .fz (.int κ), .ol (.tuple [.none, .int 0, natD l0] :: rs.map rowD), .un, .un] =
      .nx [.fz (.list (ds.map natD)), .fz a, .fz b, .fz (.int κ), .ol (.tuple [.none, .int 0, natD l0] :: (rs ++ [r]).map rowD), .un, .un] := by
  have e0 := ixL_nat natD ds (2 + j) (by omega)
  have em : (j : Int) % 12 = (j : Int) := by omega
  have ed : (j : Int) / 12 = 0 := by omega
  have e1 : ((2 : Int) + (j : Int)) = ((2 + j : Nat) : Int) := by omega
  obtain ⟨x, hx⟩ : ∃ x, x = ds[2 + j] := ⟨_, rfl⟩
  rw [← hx] at e0
  refine ⟨(x % j, x / 9 % m3, x / 9009 % m2), ⟨Nat.mod_lt _ (by omega), ?_, ?_⟩, ?_⟩
  · have := Nat.mod_lt (x / 9) p3
    simp only; omega
  · have := Nat.mod_lt (x / 9009) p2
    simp only; omega
  · have hr : (rs ++ [(x % j, x / 9 % m3, x / 9009 % m2)]).map rowD = rs.map rowD ++ [.tuple [.int ((x : Int) % j), .int ((x : Int) / 9 % m3), .int ((x : Int) / 9009 % m2)]] := by
      rw [List.map_append]
      congr 2
    have e12 : (14 : Int) - 2 = 12 := rfl
    have e1x : (x : Int) / (1 + 0) = (x : Int) := by omega
    rw [hr]
    simp -implicitDefEqProofs (disch := first | omega | (simp only [List.length_map, List.length_cons, List.length_nil, List.length_append, List.length_range, List.length_replicate, List.length_tail, List.length_reverse]; omega)) only [getS_0, getS_s, setS_0, setS_s, sr_ok, nx_then, rt_then, ex_then, bk_then, ct_then, ex_sr, asBool_b, asInt_i, items_l, items_t, Res.ok_bind, Res.ex_bind, Res.bad_bind, Res.quiet_ok, op_add_i, op_sub_i, b1_int, b1_abs, b1_lenl, b1_lent, b1_tupl, b1_tupt, b1_listt, b1_listl, lt_i, gt_i, le_i, ge_i, strict_0, strict_s, peek_0, peek_0l, peek_0d, peek_s, bindT_n, bindT_t, bindT_l, bindTs_n, bindTs_c, wipeS_nil, wipeS_cons, e_k, e_v, e_p, e_tup, e_lst, e_nil, e_cons, e_op, e_cmp, e_ch, e_and, e_or, e_not, e_neg, e_ite, e_isN, e_notN, e_ix, e_slf, e_slt, e_slb, e_rev, e_call, e_b1, e_b2, e_isi, e_rng, e_dnil, e_comp, e_dcomp, e_enm', e_zip', e_rl, e_idx, e_join, x_nil, x_cons, x_set, x_setO, x_unp, x_xp, x_ret, x_raise, x_ite, x_forB, x_app, x_tr, x_brk, x_cnt, x_pass, x_fr, x_wipe, x_par, evP_nil, evP_f, evP_t, parR_nil, parR_f, parR_t, x_aug, x_augix, x_setix, setixS_nat, x_extS, x_pop, augD_add, augD_sub, x_while, compR_nil, compR_mapL, compR_some, quiet_ite, in_natL, in_natT, notin_natL, notin_natT, eq_ii, ne_ii, eq_ss, ne_ss, sum_map, all_map, any_map, b2_max, b2_min, ix_0, ix_1, ix_2, ixl_0, ansR_rt, ansR_nx, ansR_ex, toSl_l, toSl_d, sl_tailT, sl_tailL, size_ok, sz_filterL, compG_t, rng_nat, rng_ab, shl_one, shr_nat, band_one, op_mod_i, op_fdiv_i, zipD_map, zipD_tail, add_tup, add_lst, rev_tup, rev_lst, mul_repT, if_true, if_false, ite_true, ite_false, Bool.not_true, Bool.not_false, Bool.false_eq_true, decide_eq_true_eq, decide_true, decide_false, Bool.and_true, Bool.true_and, Bool.or_true, Bool.true_or, Bool.and_false, Bool.false_and, Bool.or_false, Bool.false_or, reduceCtorEq, List.map_cons, List.map_nil, List.length_map, List.length_cons, List.length_nil, List.nil_append, List.cons_append, List.length_range, List.length_append, sz_filterR, Nat.reduceAdd, Int.cast_ofNat_Int, Int.reduceEq, Int.reduceLT, Int.reduceLE, forB, b_law_tree_1, hd, e12, em, ed, e1, e0, h2, h3, e1x, Int.add_zero, Int.ediv_one]
theorem law_tree_ok (ds : List Nat) (hd : ds.length = 14) : ∃ t, Good t ∧ EE m (k + 1) i_law_tree [.list (ds.map natD), .int 9] = .ok (tD t) := by
  have e1 := ixL_nat natD ds 0 (by omega)
  have e2 := ixL_nat natD ds 1 (by omega)
  have e3 := ixL_nat natD ds 2 (by omega)
  rw [show ((0 : Nat) : Int) = 0 from rfl] at e1
  rw [show ((1 : Nat) : Int) = 1 from rfl] at e2
  rw [show ((2 : Nat) : Int) = 2 from rfl] at e3
  obtain ⟨many, hmany⟩ : ∃ many, many = 1 + ds[0] % 9 := ⟨_, rfl⟩
  obtain ⟨κ, hκ⟩ : ∃ κ, κ = ds[1] % 3 := ⟨_, rfl⟩
  obtain ⟨m2, m3, k2, p2, q2, k3, p3, q3⟩ := kinds κ (by omega)
  have f1 : (1 : Int) + (ds[0] : Nat) % 9 = (many : Int) := by omega
  have f2 : ((ds[1] : Nat) : Int) % 3 = (κ : Int) := by omega
  obtain ⟨l0, hl0⟩ : ∃ l0, l0 = ds[2] % m2 := ⟨_, rfl⟩
  have hl1 : l0 ≤ 1000 := by have := Nat.mod_lt ds[2] p2; omega
  have f3 : ((ds[2] : Nat) : Int) % (m2 : Int) = (l0 : Int) := by rw [hl0, Int.natCast_emod]
  obtain ⟨σ', g1, rs, rfl, g2, g3⟩ := forR_inv (f := forB (EE m k) m.sub fuel (.n 5) b_law_tree_1) (P := fun i σ => ∃ rs : List Row, σ = [.fz (.list (ds.map natD)), .fz (.int 9), .fz (.int many), .fz (.int κ), .ol (.tuple [.none, .int 0, natD l0] :: rs.map rowD), .un, .un] ∧ rs.length = i ∧ ∀ i (hi : i < rs.length), GoodR (i + 1) rs[i]) ((List.range' 1 (many - 1)).map natD) 0
      [.fz (.list (ds.map natD)), .fz (.int 9), .fz (.int many), .fz (.int κ), .ol [.tuple [.none, .int 0, natD l0]], .un, .un] (fun j d σ hj hp => by
        obtain ⟨rs, rfl, hl, hg⟩ := hp
        rw [List.getElem?_map] at hj
        obtain ⟨x, hx, rfl⟩ := Option.map_eq_some_iff.mp hj
        obtain ⟨hx1, hx2⟩ := List.getElem?_eq_some_iff.mp hx
        rw [List.length_range'] at hx1
        rw [List.getElem_range'] at hx2
        subst hx2
        obtain ⟨r, g1, g2⟩ := tree_turn (m := m) (k := k) ds hd κ m2 m3 (1 + 1 * j) (.int 9) (.int many) l0 rs (by omega) (by omega) (by omega) k2 p2 q2 k3 p3 q3
        refine ⟨_, g2, rs ++ [r], rfl, by simp [hl], fun i hi => ?_⟩
        rw [List.length_append, List.length_singleton] at hi
        by_cases hq : i < rs.length
        · rw [List.getElem_append_left hq]; exact hg i hq
        · rw [List.getElem_append_right (by omega)]
          have : i + 1 = 1 + 1 * j := by omega
          rw [this]
          simpa using g1) ⟨[], rfl, rfl, fun i hi => nomatch hi⟩
  rw [List.length_map, List.length_range'] at g2
  refine ⟨treeOf l0 rs, treeOf_good hl1 (by omega) g3, ?_⟩
  rw [treeOf_d, r_law_tree]
  have er := rng_ab 1 many (by omega) (by omega)
  rw [show ((1 : Nat) : Int) = 1 from rfl] at er
  simp -implicitDefEqProofs (disch := first | omega | (simp only [List.length_map, List.length_cons, List.length_nil, List.length_append, List.length_range, List.length_replicate, List.length_tail, List.length_reverse]; omega)) only [getS_0, getS_s, setS_0, setS_s, sr_ok, nx_then, rt_then, ex_then, bk_then, ct_then, ex_sr, asBool_b, asInt_i, items_l, items_t, Res.ok_bind, Res.ex_bind, Res.bad_bind, Res.quiet_ok, op_add_i, op_sub_i, b1_int, b1_abs, b1_lenl, b1_lent, b1_tupl, b1_tupt, b1_listt, b1_listl, lt_i, gt_i, le_i, ge_i, strict_0, strict_s, peek_0, peek_0l, peek_0d, peek_s, bindT_n, bindT_t, bindT_l, bindTs_n, bindTs_c, wipeS_nil, wipeS_cons, e_k, e_v, e_p, e_tup, e_lst, e_nil, e_cons, e_op, e_cmp, e_ch, e_and, e_or, e_not, e_neg, e_ite, e_isN, e_notN, e_ix, e_slf, e_slt, e_slb, e_rev, e_call, e_b1, e_b2, e_isi, e_rng, e_dnil, e_comp, e_dcomp, e_enm', e_zip', e_rl, e_idx, e_join, x_nil, x_cons, x_set, x_setO, x_unp, x_xp, x_ret, x_raise, x_ite, x_forB, x_app, x_tr, x_brk, x_cnt, x_pass, x_fr, x_wipe, x_par, evP_nil, evP_f, evP_t, parR_nil, parR_f, parR_t, x_aug, x_augix, x_setix, setixS_nat, x_extS, x_pop, augD_add, augD_sub, x_while, compR_nil, compR_mapL, compR_some, quiet_ite, in_natL, in_natT, notin_natL, notin_natT, eq_ii, ne_ii, eq_ss, ne_ss, sum_map, all_map, any_map, b2_max, b2_min, ix_0, ix_1, ix_2, ixl_0, ansR_rt, ansR_nx, ansR_ex, toSl_l, toSl_d, sl_tailT, sl_tailL, size_ok, sz_filterL, compG_t, rng_nat, rng_ab, shl_one, shr_nat, band_one, op_mod_i, op_fdiv_i, zipD_map, zipD_tail, add_tup, add_lst, rev_tup, rev_lst, mul_repT, if_true, if_false, ite_true, ite_false, Bool.not_true, Bool.not_false, Bool.false_eq_true, decide_eq_true_eq, decide_true, decide_false, Bool.and_true, Bool.true_and, Bool.or_true, Bool.true_or, Bool.and_false, Bool.false_and, Bool.or_false, Bool.false_or, reduceCtorEq, List.map_cons, List.map_nil, List.length_map, List.length_cons, List.length_nil, List.nil_append, List.cons_append, List.length_range, List.length_append, sz_filterR, Nat.reduceAdd, Int.cast_ofNat_Int, Int.reduceEq, Int.reduceLT, Int.reduceLE, b_law_tree, e1, e2, e3, f1, f2, f3, k2, er, g1]
theorem law_buffer_ok (ds : List Nat) (h : 3 ≤ ds.length) : ∃ b, GoodB b ∧ EE m (k + 1) i_law_buffer [.list (ds.map natD)] = .ok (bfD b) := by
  have e1 := ixL_nat natD ds 0 (by omega)
  have e2 := ixL_nat natD ds 1 (by omega)
  have e3 := ixL_nat natD ds 2 (by omega)
  refine ⟨(ds[0] % 9, ds[1] % 4, ds[2] % 30), ⟨by simp only; omega, by simp only; omega, by simp only; omega⟩, ?_⟩
  rw [r_law_buffer]
  have er := rng_nat 3 (by decide)
  rw [show ((3 : Nat) : Int) = 3 from rfl] at er
  have g1 : ixD (.list [.int 9, .int 4, .int 30]) (.int ((0 : Nat) : Int)) = .ok (.int 9) := rfl
  have g2 : ixD (.list [.int 9, .int 4, .int 30]) (.int ((1 : Nat) : Int)) = .ok (.int 4) := rfl
  have g3 : ixD (.list [.int 9, .int 4, .int 30]) (.int ((2 : Nat) : Int)) = .ok (.int 30) := rfl
  have hm : ∀ (a : Nat) (b : Int), opD .mod (.int (a : Int)) (.int b) = opD .mod (.int (a : Int)) (.int b) := fun _ _ => rfl
  simp -implicitDefEqProofs (disch := first | omega | (simp only [List.length_map, List.length_cons, List.length_nil, List.length_append, List.length_range, List.length_replicate, List.length_tail, List.length_reverse]; omega)) only [getS_0, getS_s, setS_0, setS_s, sr_ok, nx_then, rt_then, ex_then, bk_then, ct_then, ex_sr, asBool_b, asInt_i, items_l, items_t, Res.ok_bind, Res.ex_bind, Res.bad_bind, Res.quiet_ok, op_add_i, op_sub_i, b1_int, b1_abs, b1_lenl, b1_lent, b1_tupl, b1_tupt, b1_listt, b1_listl, lt_i, gt_i, le_i, ge_i, strict_0, strict_s, peek_0, peek_0l, peek_0d, peek_s, bindT_n, bindT_t, bindT_l, bindTs_n, bindTs_c, wipeS_nil, wipeS_cons, e_k, e_v, e_p, e_tup, e_lst, e_nil, e_cons, e_op, e_cmp, e_ch, e_and, e_or, e_not, e_neg, e_ite, e_isN, e_notN, e_ix, e_slf, e_slt, e_slb, e_rev, e_call, e_b1, e_b2, e_isi, e_rng, e_dnil, e_comp, e_dcomp, e_enm', e_zip', e_rl, e_idx, e_join, x_nil, x_cons, x_set, x_setO, x_unp, x_xp, x_ret, x_raise, x_ite, x_forB, x_app, x_tr, x_brk, x_cnt, x_pass, x_fr, x_wipe, x_par, evP_nil, evP_f, evP_t, parR_nil, parR_f, parR_t, x_aug, x_augix, x_setix, setixS_nat, x_extS, x_pop, augD_add, augD_sub, x_while, compR_nil, compR_mapL, compR_some, quiet_ite, in_natL, in_natT, notin_natL, notin_natT, eq_ii, ne_ii, eq_ss, ne_ss, sum_map, all_map, any_map, b2_max, b2_min, ix_0, ix_1, ix_2, ixl_0, ansR_rt, ansR_nx, ansR_ex, toSl_l, toSl_d, sl_tailT, sl_tailL, size_ok, sz_filterL, compG_t, rng_nat, rng_ab, shl_one, shr_nat, band_one, op_mod_i, op_fdiv_i, zipD_map, zipD_tail, add_tup, add_lst, rev_tup, rev_lst, mul_repT, if_true, if_false, ite_true, ite_false, Bool.not_true, Bool.not_false, Bool.false_eq_true, decide_eq_true_eq, decide_true, decide_false, Bool.and_true, Bool.true_and, Bool.or_true, Bool.true_or, Bool.and_false, Bool.false_and, Bool.or_false, Bool.false_or, reduceCtorEq, List.map_cons, List.map_nil, List.length_map, List.length_cons, List.length_nil, List.nil_append, List.cons_append, List.length_range, List.length_append, sz_filterR, Nat.reduceAdd, Int.cast_ofNat_Int, Int.reduceEq, Int.reduceLT, Int.reduceLE, b_law_buffer, er]
  rw [compR_ok (g := fun i => natD ([ds[0] % 9, ds[1] % 4, ds[2] % 30].getD i 0))]
  · simp -implicitDefEqProofs (disch := first | omega | (simp only [List.length_map, List.length_cons, List.length_nil, List.length_append, List.length_range, List.length_replicate, List.length_tail, List.length_reverse]; omega)) only [getS_0, getS_s, setS_0, setS_s, sr_ok, nx_then, rt_then, ex_then, bk_then, ct_then, ex_sr, asBool_b, asInt_i, items_l, items_t, Res.ok_bind, Res.ex_bind, Res.bad_bind, Res.quiet_ok, op_add_i, op_sub_i, b1_int, b1_abs, b1_lenl, b1_lent, b1_tupl, b1_tupt, b1_listt, b1_listl, lt_i, gt_i, le_i, ge_i, strict_0, strict_s, peek_0, peek_0l, peek_0d, peek_s, bindT_n, bindT_t, bindT_l, bindTs_n, bindTs_c, wipeS_nil, wipeS_cons, e_k, e_v, e_p, e_tup, e_lst, e_nil, e_cons, e_op, e_cmp, e_ch, e_and, e_or, e_not, e_neg, e_ite, e_isN, e_notN, e_ix, e_slf, e_slt, e_slb, e_rev, e_call, e_b1, e_b2, e_isi, e_rng, e_dnil, e_comp, e_dcomp, e_enm', e_zip', e_rl, e_idx, e_join, x_nil, x_cons, x_set, x_setO, x_unp, x_xp, x_ret, x_raise, x_ite, x_forB, x_app, x_tr, x_brk, x_cnt, x_pass, x_fr, x_wipe, x_par, evP_nil, evP_f, evP_t, parR_nil, parR_f, parR_t, x_aug, x_augix, x_setix, setixS_nat, x_extS, x_pop, augD_add, augD_sub, x_while, compR_nil, compR_mapL, compR_some, quiet_ite, in_natL, in_natT, notin_natL, notin_natT, eq_ii, ne_ii, eq_ss, ne_ss, sum_map, all_map, any_map, b2_max, b2_min, ix_0, ix_1, ix_2, ixl_0, ansR_rt, ansR_nx, ansR_ex, toSl_l, toSl_d, sl_tailT, sl_tailL, size_ok, sz_filterL, compG_t, rng_nat, rng_ab, shl_one, shr_nat, band_one, op_mod_i, op_fdiv_i, zipD_map, zipD_tail, add_tup, add_lst, rev_tup, rev_lst, mul_repT, if_true, if_false, ite_true, ite_false, Bool.not_true, Bool.not_false, Bool.false_eq_true, decide_eq_true_eq, decide_true, decide_false, Bool.and_true, Bool.true_and, Bool.or_true, Bool.true_or, Bool.and_false, Bool.false_and, Bool.or_false, Bool.false_or, reduceCtorEq, List.map_cons, List.map_nil, List.length_map, List.length_cons, List.length_nil, List.nil_append, List.cons_append, List.length_range, List.length_append, sz_filterR, Nat.reduceAdd, Int.cast_ofNat_Int, Int.reduceEq, Int.reduceLT, Int.reduceLE]
    rfl
  · intro i hi
    have : i = 0 ∨ i = 1 ∨ i = 2 := by have := List.mem_range.mp hi; omega
    rcases this with rfl | rfl | rfl
    · simp -implicitDefEqProofs (disch := first | omega | (simp only [List.length_map, List.length_cons, List.length_nil, List.length_append, List.length_range, List.length_replicate, List.length_tail, List.length_reverse]; omega)) only [getS_0, getS_s, setS_0, setS_s, sr_ok, nx_then, rt_then, ex_then, bk_then, ct_then, ex_sr, asBool_b, asInt_i, items_l, items_t, Res.ok_bind, Res.ex_bind, Res.bad_bind, Res.quiet_ok, op_add_i, op_sub_i, b1_int, b1_abs, b1_lenl, b1_lent, b1_tupl, b1_tupt, b1_listt, b1_listl, lt_i, gt_i, le_i, ge_i, strict_0, strict_s, peek_0, peek_0l, peek_0d, peek_s, bindT_n, bindT_t, bindT_l, bindTs_n, bindTs_c, wipeS_nil, wipeS_cons, e_k, e_v, e_p, e_tup, e_lst, e_nil, e_cons, e_op, e_cmp, e_ch, e_and, e_or, e_not, e_neg, e_ite, e_isN, e_notN, e_ix, e_slf, e_slt, e_slb, e_rev, e_call, e_b1, e_b2, e_isi, e_rng, e_dnil, e_comp, e_dcomp, e_enm', e_zip', e_rl, e_idx, e_join, x_nil, x_cons, x_set, x_setO, x_unp, x_xp, x_ret, x_raise, x_ite, x_forB, x_app, x_tr, x_brk, x_cnt, x_pass, x_fr, x_wipe, x_par, evP_nil, evP_f, evP_t, parR_nil, parR_f, parR_t, x_aug, x_augix, x_setix, setixS_nat, x_extS, x_pop, augD_add, augD_sub, x_while, compR_nil, compR_mapL, compR_some, quiet_ite, in_natL, in_natT, notin_natL, notin_natT, eq_ii, ne_ii, eq_ss, ne_ss, sum_map, all_map, any_map, b2_max, b2_min, ix_0, ix_1, ix_2, ixl_0, ansR_rt, ansR_nx, ansR_ex, toSl_l, toSl_d, sl_tailT, sl_tailL, size_ok, sz_filterL, compG_t, rng_nat, rng_ab, shl_one, shr_nat, band_one, op_mod_i, op_fdiv_i, zipD_map, zipD_tail, add_tup, add_lst, rev_tup, rev_lst, mul_repT, if_true, if_false, ite_true, ite_false, Bool.not_true, Bool.not_false, Bool.false_eq_true, decide_eq_true_eq, decide_true, decide_false, Bool.and_true, Bool.true_and, Bool.or_true, Bool.true_or, Bool.and_false, Bool.false_and, Bool.or_false, Bool.false_or, reduceCtorEq, List.map_cons, List.map_nil, List.length_map, List.length_cons, List.length_nil, List.nil_append, List.cons_append, List.length_range, List.length_append, sz_filterR, Nat.reduceAdd, Int.cast_ofNat_Int, Int.reduceEq, Int.reduceLT, Int.reduceLE, e1, g1]; rfl
    · simp -implicitDefEqProofs (disch := first | omega | (simp only [List.length_map, List.length_cons, List.length_nil, List.length_append, List.length_range, List.length_replicate, List.length_tail, List.length_reverse]; omega)) only [getS_0, getS_s, setS_0, setS_s, sr_ok, nx_then, rt_then, ex_then, bk_then, ct_then, ex_sr, asBool_b, asInt_i, items_l, items_t, Res.ok_bind, Res.ex_bind, Res.bad_bind, Res.quiet_ok, op_add_i, op_sub_i, b1_int, b1_abs, b1_lenl, b1_lent, b1_tupl, b1_tupt, b1_listt, b1_listl, lt_i, gt_i, le_i, ge_i, strict_0, strict_s, peek_0, peek_0l, peek_0d, peek_s, bindT_n, bindT_t, bindT_l, bindTs_n, bindTs_c, wipeS_nil, wipeS_cons, e_k, e_v, e_p, e_tup, e_lst, e_nil, e_cons, e_op, e_cmp, e_ch, e_and, e_or, e_not, e_neg, e_ite, e_isN, e_notN, e_ix, e_slf, e_slt, e_slb, e_rev, e_call, e_b1, e_b2, e_isi, e_rng, e_dnil, e_comp, e_dcomp, e_enm', e_zip', e_rl, e_idx, e_join, x_nil, x_cons, x_set, x_setO, x_unp, x_xp, x_ret, x_raise, x_ite, x_forB, x_app, x_tr, x_brk, x_cnt, x_pass, x_fr, x_wipe, x_par, evP_nil, evP_f, evP_t, parR_nil, parR_f, parR_t, x_aug, x_augix, x_setix, setixS_nat, x_extS, x_pop, augD_add, augD_sub, x_while, compR_nil, compR_mapL, compR_some, quiet_ite, in_natL, in_natT, notin_natL, notin_natT, eq_ii, ne_ii, eq_ss, ne_ss, sum_map, all_map, any_map, b2_max, b2_min, ix_0, ix_1, ix_2, ixl_0, ansR_rt, ansR_nx, ansR_ex, toSl_l, toSl_d, sl_tailT, sl_tailL, size_ok, sz_filterL, compG_t, rng_nat, rng_ab, shl_one, shr_nat, band_one, op_mod_i, op_fdiv_i, zipD_map, zipD_tail, add_tup, add_lst, rev_tup, rev_lst, mul_repT, if_true, if_false, ite_true, ite_false, Bool.not_true, Bool.not_false, Bool.false_eq_true, decide_eq_true_eq, decide_true, decide_false, Bool.and_true, Bool.true_and, Bool.or_true, Bool.true_or, Bool.and_false, Bool.false_and, Bool.or_false, Bool.false_or, reduceCtorEq, List.map_cons, List.map_nil, List.length_map, List.length_cons, List.length_nil, List.nil_append, List.cons_append, List.length_range, List.length_append, sz_filterR, Nat.reduceAdd, Int.cast_ofNat_Int, Int.reduceEq, Int.reduceLT, Int.reduceLE, e2, g2]; rfl
    · simp -implicitDefEqProofs (disch := first | omega | (simp only [List.length_map, List.length_cons, List.length_nil, List.length_append, List.length_range, List.length_replicate, List.length_tail, List.length_reverse]; omega)) only [getS_0, getS_s, setS_0, setS_s, sr_ok, nx_then, rt_then, ex_then, bk_then, ct_then, ex_sr, asBool_b, asInt_i, items_l, items_t, Res.ok_bind, Res.ex_bind, Res.bad_bind, Res.quiet_ok, op_add_i, op_sub_i, b1_int, b1_abs, b1_lenl, b1_lent, b1_tupl, b1_tupt, b1_listt, b1_listl, lt_i, gt_i, le_i, ge_i, strict_0, strict_s, peek_0, peek_0l, peek_0d, peek_s, bindT_n, bindT_t, bindT_l, bindTs_n, bindTs_c, wipeS_nil, wipeS_cons, e_k, e_v, e_p, e_tup, e_lst, e_nil, e_cons, e_op, e_cmp, e_ch, e_and, e_or, e_not, e_neg, e_ite, e_isN, e_notN, e_ix, e_slf, e_slt, e_slb, e_rev, e_call, e_b1, e_b2, e_isi, e_rng, e_dnil, e_comp, e_dcomp, e_enm', e_zip', e_rl, e_idx, e_join, x_nil, x_cons, x_set, x_setO, x_unp, x_xp, x_ret, x_raise, x_ite, x_forB, x_app, x_tr, x_brk, x_cnt, x_pass, x_fr, x_wipe, x_par, evP_nil, evP_f, evP_t, parR_nil, parR_f, parR_t, x_aug, x_augix, x_setix, setixS_nat, x_extS, x_pop, augD_add, augD_sub, x_while, compR_nil, compR_mapL, compR_some, quiet_ite, in_natL, in_natT, notin_natL, notin_natT, eq_ii, ne_ii, eq_ss, ne_ss, sum_map, all_map, any_map, b2_max, b2_min, ix_0, ix_1, ix_2, ixl_0, ansR_rt, ansR_nx, ansR_ex, toSl_l, toSl_d, sl_tailT, sl_tailL, size_ok, sz_filterL, compG_t, rng_nat, rng_ab, shl_one, shr_nat, band_one, op_mod_i, op_fdiv_i, zipD_map, zipD_tail, add_tup, add_lst, rev_tup, rev_lst, mul_repT, if_true, if_false, ite_true, ite_false, Bool.not_true, Bool.not_false, Bool.false_eq_true, decide_eq_true_eq, decide_true, decide_false, Bool.and_true, Bool.true_and, Bool.or_true, Bool.true_or, Bool.and_false, Bool.false_and, Bool.or_false, Bool.false_or, reduceCtorEq, List.map_cons, List.map_nil, List.length_map, List.length_cons, List.length_nil, List.nil_append, List.cons_append, List.length_range, List.length_append, sz_filterR, Nat.reduceAdd, Int.cast_ofNat_Int, Int.reduceEq, Int.reduceLT, Int.reduceLE, e3, g3]; rfl
/-! ### the law's own loads and delays -/
theorem sum_fold (f : Nat → Nat) (q : Nat → Bool) : ∀ (L : List Nat) (a : Nat), L.foldl (fun s c => if q c then s + f c else s) a = a + ((L.filter q).map f).sum
  | [], a => by simp
  | c :: L, a => by
    rw [List.foldl_cons, sum_fold f q L]
    by_cases h : q c = true
    · rw [if_pos h, List.filter_cons_of_pos h, List.map_cons, List.sum_cons]; omega
    · rw [if_neg h, List.filter_cons_of_neg h]
theorem range_above (n i : Nat) (h : i < n) (q : Nat → Bool) : (List.range n).filter (fun c => decide (i < c) && q c) = (List.range' (i + 1) (n - (i + 1))).filter q := by
  have e : List.range n = List.range (i + 1) ++ List.range' (i + 1) (n - (i + 1)) := by
    rw [List.range_eq_range', List.range_eq_range']
    have := List.range'_append (s := 0) (m := i + 1) (n := n - (i + 1)) (step := 1)
    rw [Nat.one_mul, Nat.zero_add] at this
    rw [this]
    congr 1
    omega
  rw [e, List.filter_append]
  have h1 : (List.range (i + 1)).filter (fun c => decide (i < c) && q c) = [] := by
    rw [List.filter_eq_nil_iff]
    intro c hc
    have := List.mem_range.mp hc
    simp
    omega
  rw [h1, List.nil_append]
  apply List.filter_congr
  intro c hc
  have := List.mem_range'_1.mp hc
  have : i < c := by omega
  simp [this]
theorem law_load_ok {t : Tr} (g : Good t) (b : Nat × Nat × Nat) (S : List Nat) (x : BW.D) (hx : items x = some (S.map natD)) : ∀ (j i K : Nat), t.n - i ≤ j → i < t.n → j ≤ K → EE m K i_law_load [tD t, bfD b, x, natD i] = .ok (natD (LD t b.2.1 S i))
  | 0, i, K, h, hi, _ => by omega
  | j + 1, i, 0, h, hi, hk => by omega
  | j + 1, i, K + 1, h, hi, hk => by
    rw [r_law_load]
    have h9 := g.n9
    have e1 := tD_ix t i hi
    have e2 := node2 t i
    have er := rng_ab (i + 1) t.n (by omega) (by omega)
    rw [show ((i + 1 : Nat) : Int) = (i : Int) + 1 by omega] at er
    have e3 : ixD (bfD b) (.int 1) = .ok (natD b.2.1) := by unfold bfD; simp
    have hf := forR_fold (f := forB (EE m K) m.sub fuel (.n 5) b_law_load_1) natD (fun s : Nat => [.fz (tD t), .fz (bfD b), .fz x, .fz (natD i), .fz (natD s), .un]) (fun s c => if decide (t.p c = i) then s + XL t b.2.1 S c else s) (List.range' (i + 1) (t.n - (i + 1))) (t.l i) (fun c hc s => by
      have hc := List.mem_range'_1.mp hc
      have hcn : c < t.n := by omega
      have f1 := tD_ix t c hcn
      have f2 := node0 t c (by omega)
      have f4 : cmpB .isin (natD c) x = .ok (S.contains c) := in_nats c hx
      by_cases hq : t.p c = i
      · have hq' : (t.p c : Int) = (i : Int) := by omega
        by_cases hs : S.contains c = true
        · have hX : XL t b.2.1 S c = b.2.1 := if_pos hs
          simp -implicitDefEqProofs (disch := first | omega | (simp only [List.length_map, List.length_cons, List.length_nil, List.length_append, List.length_range, List.length_replicate, List.length_tail, List.length_reverse]; omega)) only [getS_0, getS_s, setS_0, setS_s, sr_ok, nx_then, rt_then, ex_then, bk_then, ct_then, ex_sr, asBool_b, asInt_i, items_l, items_t, Res.ok_bind, Res.ex_bind, Res.bad_bind, Res.quiet_ok, op_add_i, op_sub_i, b1_int, b1_abs, b1_lenl, b1_lent, b1_tupl, b1_tupt, b1_listt, b1_listl, lt_i, gt_i, le_i, ge_i, strict_0, strict_s, peek_0, peek_0l, peek_0d, peek_s, bindT_n, bindT_t, bindT_l, bindTs_n, bindTs_c, wipeS_nil, wipeS_cons, e_k, e_v, e_p, e_tup, e_lst, e_nil, e_cons, e_op, e_cmp, e_ch, e_and, e_or, e_not, e_neg, e_ite, e_isN, e_notN, e_ix, e_slf, e_slt, e_slb, e_rev, e_call, e_b1, e_b2, e_isi, e_rng, e_dnil, e_comp, e_dcomp, e_enm', e_zip', e_rl, e_idx, e_join, x_nil, x_cons, x_set, x_setO, x_unp, x_xp, x_ret, x_raise, x_ite, x_forB, x_app, x_tr, x_brk, x_cnt, x_pass, x_fr, x_wipe, x_par, evP_nil, evP_f, evP_t, parR_nil, parR_f, parR_t, x_aug, x_augix, x_setix, setixS_nat, x_extS, x_pop, augD_add, augD_sub, x_while, compR_nil, compR_mapL, compR_some, quiet_ite, in_natL, in_natT, notin_natL, notin_natT, eq_ii, ne_ii, eq_ss, ne_ss, sum_map, all_map, any_map, b2_max, b2_min, ix_0, ix_1, ix_2, ixl_0, ansR_rt, ansR_nx, ansR_ex, toSl_l, toSl_d, sl_tailT, sl_tailL, size_ok, sz_filterL, compG_t, rng_nat, rng_ab, shl_one, shr_nat, band_one, op_mod_i, op_fdiv_i, zipD_map, zipD_tail, add_tup, add_lst, rev_tup, rev_lst, mul_repT, if_true, if_false, ite_true, ite_false, Bool.not_true, Bool.not_false, Bool.false_eq_true, decide_eq_true_eq, decide_true, decide_false, Bool.and_true, Bool.true_and, Bool.or_true, Bool.true_or, Bool.and_false, Bool.false_and, Bool.or_false, Bool.false_or, reduceCtorEq, List.map_cons, List.map_nil, List.length_map, List.length_cons, List.length_nil, List.nil_append, List.cons_append, List.length_range, List.length_append, sz_filterR, Nat.reduceAdd, Int.cast_ofNat_Int, Int.reduceEq, Int.reduceLT, Int.reduceLE, forB, b_law_load_1, f1, f2, f4, hs, e3, hq, hX]
          simp
        · have hs : S.contains c = false := by simpa using hs
          have hX : XL t b.2.1 S c = LD t b.2.1 S c := if_neg (by rw [hs]; exact Bool.false_ne_true)
          have ih := law_load_ok g b S x hx j c K (by omega) hcn (by omega)
          simp -implicitDefEqProofs (disch := first | omega | (simp only [List.length_map, List.length_cons, List.length_nil, List.length_append, List.length_range, List.length_replicate, List.length_tail, List.length_reverse]; omega)) only [getS_0, getS_s, setS_0, setS_s, sr_ok, nx_then, rt_then, ex_then, bk_then, ct_then, ex_sr, asBool_b, asInt_i, items_l, items_t, Res.ok_bind, Res.ex_bind, Res.bad_bind, Res.quiet_ok, op_add_i, op_sub_i, b1_int, b1_abs, b1_lenl, b1_lent, b1_tupl, b1_tupt, b1_listt, b1_listl, lt_i, gt_i, le_i, ge_i, strict_0, strict_s, peek_0, peek_0l, peek_0d, peek_s, bindT_n, bindT_t, bindT_l, bindTs_n, bindTs_c, wipeS_nil, wipeS_cons, e_k, e_v, e_p, e_tup, e_lst, e_nil, e_cons, e_op, e_cmp, e_ch, e_and, e_or, e_not, e_neg, e_ite, e_isN, e_notN, e_ix, e_slf, e_slt, e_slb, e_rev, e_call, e_b1, e_b2, e_isi, e_rng, e_dnil, e_comp, e_dcomp, e_enm', e_zip', e_rl, e_idx, e_join, x_nil, x_cons, x_set, x_setO, x_unp, x_xp, x_ret, x_raise, x_ite, x_forB, x_app, x_tr, x_brk, x_cnt, x_pass, x_fr, x_wipe, x_par, evP_nil, evP_f, evP_t, parR_nil, parR_f, parR_t, x_aug, x_augix, x_setix, setixS_nat, x_extS, x_pop, augD_add, augD_sub, x_while, compR_nil, compR_mapL, compR_some, quiet_ite, in_natL, in_natT, notin_natL, notin_natT, eq_ii, ne_ii, eq_ss, ne_ss, sum_map, all_map, any_map, b2_max, b2_min, ix_0, ix_1, ix_2, ixl_0, ansR_rt, ansR_nx, ansR_ex, toSl_l, toSl_d, sl_tailT, sl_tailL, size_ok, sz_filterL, compG_t, rng_nat, rng_ab, shl_one, shr_nat, band_one, op_mod_i, op_fdiv_i, zipD_map, zipD_tail, add_tup, add_lst, rev_tup, rev_lst, mul_repT, if_true, if_false, ite_true, ite_false, Bool.not_true, Bool.not_false, Bool.false_eq_true, decide_eq_true_eq, decide_true, decide_false, Bool.and_true, Bool.true_and, Bool.or_true, Bool.true_or, Bool.and_false, Bool.false_and, Bool.or_false, Bool.false_or, reduceCtorEq, List.map_cons, List.map_nil, List.length_map, List.length_cons, List.length_nil, List.nil_append, List.cons_append, List.length_range, List.length_append, sz_filterR, Nat.reduceAdd, Int.cast_ofNat_Int, Int.reduceEq, Int.reduceLT, Int.reduceLE, forB, b_law_load_1, f1, f2, f4, hs, e3, hq, hX, ih]
          simp
      · have hq' : ¬ (t.p c : Int) = (i : Int) := by omega
        simp -implicitDefEqProofs (disch := first | omega | (simp only [List.length_map, List.length_cons, List.length_nil, List.length_append, List.length_range, List.length_replicate, List.length_tail, List.length_reverse]; omega)) only [getS_0, getS_s, setS_0, setS_s, sr_ok, nx_then, rt_then, ex_then, bk_then, ct_then, ex_sr, asBool_b, asInt_i, items_l, items_t, Res.ok_bind, Res.ex_bind, Res.bad_bind, Res.quiet_ok, op_add_i, op_sub_i, b1_int, b1_abs, b1_lenl, b1_lent, b1_tupl, b1_tupt, b1_listt, b1_listl, lt_i, gt_i, le_i, ge_i, strict_0, strict_s, peek_0, peek_0l, peek_0d, peek_s, bindT_n, bindT_t, bindT_l, bindTs_n, bindTs_c, wipeS_nil, wipeS_cons, e_k, e_v, e_p, e_tup, e_lst, e_nil, e_cons, e_op, e_cmp, e_ch, e_and, e_or, e_not, e_neg, e_ite, e_isN, e_notN, e_ix, e_slf, e_slt, e_slb, e_rev, e_call, e_b1, e_b2, e_isi, e_rng, e_dnil, e_comp, e_dcomp, e_enm', e_zip', e_rl, e_idx, e_join, x_nil, x_cons, x_set, x_setO, x_unp, x_xp, x_ret, x_raise, x_ite, x_forB, x_app, x_tr, x_brk, x_cnt, x_pass, x_fr, x_wipe, x_par, evP_nil, evP_f, evP_t, parR_nil, parR_f, parR_t, x_aug, x_augix, x_setix, setixS_nat, x_extS, x_pop, augD_add, augD_sub, x_while, compR_nil, compR_mapL, compR_some, quiet_ite, in_natL, in_natT, notin_natL, notin_natT, eq_ii, ne_ii, eq_ss, ne_ss, sum_map, all_map, any_map, b2_max, b2_min, ix_0, ix_1, ix_2, ixl_0, ansR_rt, ansR_nx, ansR_ex, toSl_l, toSl_d, sl_tailT, sl_tailL, size_ok, sz_filterL, compG_t, rng_nat, rng_ab, shl_one, shr_nat, band_one, op_mod_i, op_fdiv_i, zipD_map, zipD_tail, add_tup, add_lst, rev_tup, rev_lst, mul_repT, if_true, if_false, ite_true, ite_false, Bool.not_true, Bool.not_false, Bool.false_eq_true, decide_eq_true_eq, decide_true, decide_false, Bool.and_true, Bool.true_and, Bool.or_true, Bool.true_or, Bool.and_false, Bool.false_and, Bool.or_false, Bool.false_or, reduceCtorEq, List.map_cons, List.map_nil, List.length_map, List.length_cons, List.length_nil, List.nil_append, List.cons_append, List.length_range, List.length_append, sz_filterR, Nat.reduceAdd, Int.cast_ofNat_Int, Int.reduceEq, Int.reduceLT, Int.reduceLE, forB, b_law_load_1, f1, f2, hq, hq'])
    rw [sum_fold] at hf
    rw [← range_above t.n i hi, ← LD_eq hi] at hf
    simp -implicitDefEqProofs (disch := first | omega | (simp only [List.length_map, List.length_cons, List.length_nil, List.length_append, List.length_range, List.length_replicate, List.length_tail, List.length_reverse]; omega)) only [getS_0, getS_s, setS_0, setS_s, sr_ok, nx_then, rt_then, ex_then, bk_then, ct_then, ex_sr, asBool_b, asInt_i, items_l, items_t, Res.ok_bind, Res.ex_bind, Res.bad_bind, Res.quiet_ok, op_add_i, op_sub_i, b1_int, b1_abs, b1_lenl, b1_lent, b1_tupl, b1_tupt, b1_listt, b1_listl, lt_i, gt_i, le_i, ge_i, strict_0, strict_s, peek_0, peek_0l, peek_0d, peek_s, bindT_n, bindT_t, bindT_l, bindTs_n, bindTs_c, wipeS_nil, wipeS_cons, e_k, e_v, e_p, e_tup, e_lst, e_nil, e_cons, e_op, e_cmp, e_ch, e_and, e_or, e_not, e_neg, e_ite, e_isN, e_notN, e_ix, e_slf, e_slt, e_slb, e_rev, e_call, e_b1, e_b2, e_isi, e_rng, e_dnil, e_comp, e_dcomp, e_enm', e_zip', e_rl, e_idx, e_join, x_nil, x_cons, x_set, x_setO, x_unp, x_xp, x_ret, x_raise, x_ite, x_forB, x_app, x_tr, x_brk, x_cnt, x_pass, x_fr, x_wipe, x_par, evP_nil, evP_f, evP_t, parR_nil, parR_f, parR_t, x_aug, x_augix, x_setix, setixS_nat, x_extS, x_pop, augD_add, augD_sub, x_while, compR_nil, compR_mapL, compR_some, quiet_ite, in_natL, in_natT, notin_natL, notin_natT, eq_ii, ne_ii, eq_ss, ne_ss, sum_map, all_map, any_map, b2_max, b2_min, ix_0, ix_1, ix_2, ixl_0, ansR_rt, ansR_nx, ansR_ex, toSl_l, toSl_d, sl_tailT, sl_tailL, size_ok, sz_filterL, compG_t, rng_nat, rng_ab, shl_one, shr_nat, band_one, op_mod_i, op_fdiv_i, zipD_map, zipD_tail, add_tup, add_lst, rev_tup, rev_lst, mul_repT, if_true, if_false, ite_true, ite_false, Bool.not_true, Bool.not_false, Bool.false_eq_true, decide_eq_true_eq, decide_true, decide_false, Bool.and_true, Bool.true_and, Bool.or_true, Bool.true_or, Bool.and_false, Bool.false_and, Bool.or_false, Bool.false_or, reduceCtorEq, List.map_cons, List.map_nil, List.length_map, List.length_cons, List.length_nil, List.nil_append, List.cons_append, List.length_range, List.length_append, sz_filterR, Nat.reduceAdd, Int.cast_ofNat_Int, Int.reduceEq, Int.reduceLT, Int.reduceLE, b_law_load, e1, e2, tD_len, er, hf]
theorem law_delay_ok {t : Tr} (g : Good t) {b : Nat × Nat × Nat} (gb : GoodB b) (S : List Nat) (x : BW.D) (hx : items x = some (S.map natD)) : ∀ (i K : Nat), i < t.n → i + t.n ≤ K → EE m K i_law_delay [tD t, bfD b, x, natD i] = .ok (natD (DL t b S i))
  | i, 0, hi, h => by omega
  | i, K + 1, hi, h => by
    rw [r_law_delay]
    by_cases h0 : i = 0
    · subst h0
      have : (((0 : Nat) : Int) = 0) := rfl
      rw [DL_0]
      simp -implicitDefEqProofs (disch := first | omega | (simp only [List.length_map, List.length_cons, List.length_nil, List.length_append, List.length_range, List.length_replicate, List.length_tail, List.length_reverse]; omega)) only [getS_0, getS_s, setS_0, setS_s, sr_ok, nx_then, rt_then, ex_then, bk_then, ct_then, ex_sr, asBool_b, asInt_i, items_l, items_t, Res.ok_bind, Res.ex_bind, Res.bad_bind, Res.quiet_ok, op_add_i, op_sub_i, b1_int, b1_abs, b1_lenl, b1_lent, b1_tupl, b1_tupt, b1_listt, b1_listl, lt_i, gt_i, le_i, ge_i, strict_0, strict_s, peek_0, peek_0l, peek_0d, peek_s, bindT_n, bindT_t, bindT_l, bindTs_n, bindTs_c, wipeS_nil, wipeS_cons, e_k, e_v, e_p, e_tup, e_lst, e_nil, e_cons, e_op, e_cmp, e_ch, e_and, e_or, e_not, e_neg, e_ite, e_isN, e_notN, e_ix, e_slf, e_slt, e_slb, e_rev, e_call, e_b1, e_b2, e_isi, e_rng, e_dnil, e_comp, e_dcomp, e_enm', e_zip', e_rl, e_idx, e_join, x_nil, x_cons, x_set, x_setO, x_unp, x_xp, x_ret, x_raise, x_ite, x_forB, x_app, x_tr, x_brk, x_cnt, x_pass, x_fr, x_wipe, x_par, evP_nil, evP_f, evP_t, parR_nil, parR_f, parR_t, x_aug, x_augix, x_setix, setixS_nat, x_extS, x_pop, augD_add, augD_sub, x_while, compR_nil, compR_mapL, compR_some, quiet_ite, in_natL, in_natT, notin_natL, notin_natT, eq_ii, ne_ii, eq_ss, ne_ss, sum_map, all_map, any_map, b2_max, b2_min, ix_0, ix_1, ix_2, ixl_0, ansR_rt, ansR_nx, ansR_ex, toSl_l, toSl_d, sl_tailT, sl_tailL, size_ok, sz_filterL, compG_t, rng_nat, rng_ab, shl_one, shr_nat, band_one, op_mod_i, op_fdiv_i, zipD_map, zipD_tail, add_tup, add_lst, rev_tup, rev_lst, mul_repT, if_true, if_false, ite_true, ite_false, Bool.not_true, Bool.not_false, Bool.false_eq_true, decide_eq_true_eq, decide_true, decide_false, Bool.and_true, Bool.true_and, Bool.or_true, Bool.true_or, Bool.and_false, Bool.false_and, Bool.or_false, Bool.false_or, reduceCtorEq, List.map_cons, List.map_nil, List.length_map, List.length_cons, List.length_nil, List.nil_append, List.cons_append, List.length_range, List.length_append, sz_filterR, Nat.reduceAdd, Int.cast_ofNat_Int, Int.reduceEq, Int.reduceLT, Int.reduceLE, b_law_delay, this]
      rfl
    · have hp := g.p i (by omega) hi
      have h9 := g.n9
      have hr1 := g.r i hi
      have hb0 := gb.1
      have h0' : ¬ (i : Int) = 0 := by omega
      have e1 := tD_ix t i hi
      have f0 := node0 t i (by omega)
      have f1 := node1 t i
      have e3 : ixD (bfD b) (.int 1) = .ok (natD b.2.1) := by unfold bfD; simp
      have e3a : ixD (bfD b) (.int 0) = .ok (natD b.1) := by unfold bfD; simp
      have e3b : ixD (bfD b) (.int 2) = .ok (natD b.2.2) := by unfold bfD; simp
      have e4 : cmpB .isin (natD i) x = .ok (S.contains i) := in_nats i hx
      have i1 := law_load_ok (m := m) g b S x hx t.n i K (by omega) hi (by omega)
      have i2 := law_delay_ok g gb S x hx (t.p i) K (by omega) (by omega)
      rw [DL_s (by omega) hp]
      by_cases hs : S.contains i = true
      · rw [if_pos hs]
        have : ∀ a c d e : Nat, natD (a + (c + d + e)) = .int ((a : Int) + c + d + e) := fun a c d e => by simp [Int.add_assoc]
        rw [this]
        simp -implicitDefEqProofs (disch := first | omega | (simp only [List.length_map, List.length_cons, List.length_nil, List.length_append, List.length_range, List.length_replicate, List.length_tail, List.length_reverse]; omega)) only [getS_0, getS_s, setS_0, setS_s, sr_ok, nx_then, rt_then, ex_then, bk_then, ct_then, ex_sr, asBool_b, asInt_i, items_l, items_t, Res.ok_bind, Res.ex_bind, Res.bad_bind, Res.quiet_ok, op_add_i, op_sub_i, b1_int, b1_abs, b1_lenl, b1_lent, b1_tupl, b1_tupt, b1_listt, b1_listl, lt_i, gt_i, le_i, ge_i, strict_0, strict_s, peek_0, peek_0l, peek_0d, peek_s, bindT_n, bindT_t, bindT_l, bindTs_n, bindTs_c, wipeS_nil, wipeS_cons, e_k, e_v, e_p, e_tup, e_lst, e_nil, e_cons, e_op, e_cmp, e_ch, e_and, e_or, e_not, e_neg, e_ite, e_isN, e_notN, e_ix, e_slf, e_slt, e_slb, e_rev, e_call, e_b1, e_b2, e_isi, e_rng, e_dnil, e_comp, e_dcomp, e_enm', e_zip', e_rl, e_idx, e_join, x_nil, x_cons, x_set, x_setO, x_unp, x_xp, x_ret, x_raise, x_ite, x_forB, x_app, x_tr, x_brk, x_cnt, x_pass, x_fr, x_wipe, x_par, evP_nil, evP_f, evP_t, parR_nil, parR_f, parR_t, x_aug, x_augix, x_setix, setixS_nat, x_extS, x_pop, augD_add, augD_sub, x_while, compR_nil, compR_mapL, compR_some, quiet_ite, in_natL, in_natT, notin_natL, notin_natT, eq_ii, ne_ii, eq_ss, ne_ss, sum_map, all_map, any_map, b2_max, b2_min, ix_0, ix_1, ix_2, ixl_0, ansR_rt, ansR_nx, ansR_ex, toSl_l, toSl_d, sl_tailT, sl_tailL, size_ok, sz_filterL, compG_t, rng_nat, rng_ab, shl_one, shr_nat, band_one, op_mod_i, op_fdiv_i, zipD_map, zipD_tail, add_tup, add_lst, rev_tup, rev_lst, mul_repT, if_true, if_false, ite_true, ite_false, Bool.not_true, Bool.not_false, Bool.false_eq_true, decide_eq_true_eq, decide_true, decide_false, Bool.and_true, Bool.true_and, Bool.or_true, Bool.true_or, Bool.and_false, Bool.false_and, Bool.or_false, Bool.false_or, reduceCtorEq, List.map_cons, List.map_nil, List.length_map, List.length_cons, List.length_nil, List.nil_append, List.cons_append, List.length_range, List.length_append, sz_filterR, Nat.reduceAdd, Int.cast_ofNat_Int, Int.reduceEq, Int.reduceLT, Int.reduceLE, b_law_delay, h0', i1, e1, f0, i2, f1, e3, e3a, e3b, e4, hs, op_mul_n, Int.natCast_mul]
      · have hs : S.contains i = false := by simpa using hs
        rw [hs, if_neg Bool.false_ne_true]
        have : ∀ a c : Nat, natD (a + c) = .int ((a : Int) + c) := fun a c => by simp
        rw [this]
        simp -implicitDefEqProofs (disch := first | omega | (simp only [List.length_map, List.length_cons, List.length_nil, List.length_append, List.length_range, List.length_replicate, List.length_tail, List.length_reverse]; omega)) only [getS_0, getS_s, setS_0, setS_s, sr_ok, nx_then, rt_then, ex_then, bk_then, ct_then, ex_sr, asBool_b, asInt_i, items_l, items_t, Res.ok_bind, Res.ex_bind, Res.bad_bind, Res.quiet_ok, op_add_i, op_sub_i, b1_int, b1_abs, b1_lenl, b1_lent, b1_tupl, b1_tupt, b1_listt, b1_listl, lt_i, gt_i, le_i, ge_i, strict_0, strict_s, peek_0, peek_0l, peek_0d, peek_s, bindT_n, bindT_t, bindT_l, bindTs_n, bindTs_c, wipeS_nil, wipeS_cons, e_k, e_v, e_p, e_tup, e_lst, e_nil, e_cons, e_op, e_cmp, e_ch, e_and, e_or, e_not, e_neg, e_ite, e_isN, e_notN, e_ix, e_slf, e_slt, e_slb, e_rev, e_call, e_b1, e_b2, e_isi, e_rng, e_dnil, e_comp, e_dcomp, e_enm', e_zip', e_rl, e_idx, e_join, x_nil, x_cons, x_set, x_setO, x_unp, x_xp, x_ret, x_raise, x_ite, x_forB, x_app, x_tr, x_brk, x_cnt, x_pass, x_fr, x_wipe, x_par, evP_nil, evP_f, evP_t, parR_nil, parR_f, parR_t, x_aug, x_augix, x_setix, setixS_nat, x_extS, x_pop, augD_add, augD_sub, x_while, compR_nil, compR_mapL, compR_some, quiet_ite, in_natL, in_natT, notin_natL, notin_natT, eq_ii, ne_ii, eq_ss, ne_ss, sum_map, all_map, any_map, b2_max, b2_min, ix_0, ix_1, ix_2, ixl_0, ansR_rt, ansR_nx, ansR_ex, toSl_l, toSl_d, sl_tailT, sl_tailL, size_ok, sz_filterL, compG_t, rng_nat, rng_ab, shl_one, shr_nat, band_one, op_mod_i, op_fdiv_i, zipD_map, zipD_tail, add_tup, add_lst, rev_tup, rev_lst, mul_repT, if_true, if_false, ite_true, ite_false, Bool.not_true, Bool.not_false, Bool.false_eq_true, decide_eq_true_eq, decide_true, decide_false, Bool.and_true, Bool.true_and, Bool.or_true, Bool.true_or, Bool.and_false, Bool.false_and, Bool.or_false, Bool.false_or, reduceCtorEq, List.map_cons, List.map_nil, List.length_map, List.length_cons, List.length_nil, List.nil_append, List.cons_append, List.length_range, List.length_append, sz_filterR, Nat.reduceAdd, Int.cast_ofNat_Int, Int.reduceEq, Int.reduceLT, Int.reduceLE, b_law_delay, h0', i1, e1, f0, i2, f1, e3, e3a, e3b, e4, hs, op_mul_n, Int.natCast_mul]
/-! ### above and below -/
def CH (t : Tr) : Nat → Nat → List Nat
  | 0, _ => []
  | j + 1, i => if i = 0 then [] else i :: CH t j (t.p i)
theorem CH_0 (t : Tr) (j : Nat) : CH t j 0 = [] := by cases j <;> simp [CH]
theorem CH_len (t : Tr) : ∀ j i, (CH t j i).length ≤ j
  | 0, i => by simp [CH]
  | j + 1, i => by
    unfold CH
    split
    · simp
    · have := CH_len t j (t.p i)
      simp only [List.length_cons]; omega
theorem above_walk {t : Tr} (g : Good t) : ∀ (L : List BW.D) (i : Nat) (acc : List Nat), i < t.n → acc.length + L.length ≤ 100 → ∃ i', forR (forB (EE m k) m.sub fuel (.n 3) b_law_above_1) L [.fz (tD t), .fz (natD i), .ol (acc.map natD), .un] = .nx [.fz (tD t), .fz (natD i'), .ol ((acc ++ CH t L.length i).map natD), .un]
  | [], i, acc, _, _ => ⟨i, by simp [forR, CH]⟩
  | d :: L, i, acc, hi, hz => by
    rw [List.length_cons] at hz
    by_cases h0 : i = 0
    · subst h0
      obtain ⟨i', e⟩ := above_walk g L 0 acc hi (by omega)
      refine ⟨i', ?_⟩
      have h1 : forB (EE m k) m.sub fuel (.n 3) b_law_above_1 d [.fz (tD t), .fz (natD 0), .ol (acc.map natD), .un] = .nx [.fz (tD t), .fz (natD 0), .ol (acc.map natD), .un] := by
        have : (((0 : Nat) : Int) = 0) := rfl
        simp -implicitDefEqProofs (disch := first | omega | (simp only [List.length_map, List.length_cons, List.length_nil, List.length_append, List.length_range, List.length_replicate, List.length_tail, List.length_reverse]; omega)) only [getS_0, getS_s, setS_0, setS_s, sr_ok, nx_then, rt_then, ex_then, bk_then, ct_then, ex_sr, asBool_b, asInt_i, items_l, items_t, Res.ok_bind, Res.ex_bind, Res.bad_bind, Res.quiet_ok, op_add_i, op_sub_i, b1_int, b1_abs, b1_lenl, b1_lent, b1_tupl, b1_tupt, b1_listt, b1_listl, lt_i, gt_i, le_i, ge_i, strict_0, strict_s, peek_0, peek_0l, peek_0d, peek_s, bindT_n, bindT_t, bindT_l, bindTs_n, bindTs_c, wipeS_nil, wipeS_cons, e_k, e_v, e_p, e_tup, e_lst, e_nil, e_cons, e_op, e_cmp, e_ch, e_and, e_or, e_not, e_neg, e_ite, e_isN, e_notN, e_ix, e_slf, e_slt, e_slb, e_rev, e_call, e_b1, e_b2, e_isi, e_rng, e_dnil, e_comp, e_dcomp, e_enm', e_zip', e_rl, e_idx, e_join, x_nil, x_cons, x_set, x_setO, x_unp, x_xp, x_ret, x_raise, x_ite, x_forB, x_app, x_tr, x_brk, x_cnt, x_pass, x_fr, x_wipe, x_par, evP_nil, evP_f, evP_t, parR_nil, parR_f, parR_t, x_aug, x_augix, x_setix, setixS_nat, x_extS, x_pop, augD_add, augD_sub, x_while, compR_nil, compR_mapL, compR_some, quiet_ite, in_natL, in_natT, notin_natL, notin_natT, eq_ii, ne_ii, eq_ss, ne_ss, sum_map, all_map, any_map, b2_max, b2_min, ix_0, ix_1, ix_2, ixl_0, ansR_rt, ansR_nx, ansR_ex, toSl_l, toSl_d, sl_tailT, sl_tailL, size_ok, sz_filterL, compG_t, rng_nat, rng_ab, shl_one, shr_nat, band_one, op_mod_i, op_fdiv_i, zipD_map, zipD_tail, add_tup, add_lst, rev_tup, rev_lst, mul_repT, if_true, if_false, ite_true, ite_false, Bool.not_true, Bool.not_false, Bool.false_eq_true, decide_eq_true_eq, decide_true, decide_false, Bool.and_true, Bool.true_and, Bool.or_true, Bool.true_or, Bool.and_false, Bool.false_and, Bool.or_false, Bool.false_or, reduceCtorEq, List.map_cons, List.map_nil, List.length_map, List.length_cons, List.length_nil, List.nil_append, List.cons_append, List.length_range, List.length_append, sz_filterR, Nat.reduceAdd, Int.cast_ofNat_Int, Int.reduceEq, Int.reduceLT, Int.reduceLE, forB, b_law_above_1, notNone, this]
      unfold forR
      rw [h1, CH_0]
      rw [CH_0] at e
      exact e
    · have hp := g.p i (by omega) hi
      obtain ⟨i', e⟩ := above_walk g L (t.p i) (acc ++ [i]) (by omega) (by simp; omega)
      refine ⟨i', ?_⟩
      have h1 : forB (EE m k) m.sub fuel (.n 3) b_law_above_1 d [.fz (tD t), .fz (natD i), .ol (acc.map natD), .un] = .nx [.fz (tD t), .fz (natD (t.p i)), .ol ((acc ++ [i]).map natD), .un] := by
        have h0' : ¬ (i : Int) = 0 := by omega
        have e1 := tD_ix t i hi
        have f0 := node0 t i (by omega)
        simp -implicitDefEqProofs (disch := first | omega | (simp only [List.length_map, List.length_cons, List.length_nil, List.length_append, List.length_range, List.length_replicate, List.length_tail, List.length_reverse]; omega)) only [getS_0, getS_s, setS_0, setS_s, sr_ok, nx_then, rt_then, ex_then, bk_then, ct_then, ex_sr, asBool_b, asInt_i, items_l, items_t, Res.ok_bind, Res.ex_bind, Res.bad_bind, Res.quiet_ok, op_add_i, op_sub_i, b1_int, b1_abs, b1_lenl, b1_lent, b1_tupl, b1_tupt, b1_listt, b1_listl, lt_i, gt_i, le_i, ge_i, strict_0, strict_s, peek_0, peek_0l, peek_0d, peek_s, bindT_n, bindT_t, bindT_l, bindTs_n, bindTs_c, wipeS_nil, wipeS_cons, e_k, e_v, e_p, e_tup, e_lst, e_nil, e_cons, e_op, e_cmp, e_ch, e_and, e_or, e_not, e_neg, e_ite, e_isN, e_notN, e_ix, e_slf, e_slt, e_slb, e_rev, e_call, e_b1, e_b2, e_isi, e_rng, e_dnil, e_comp, e_dcomp, e_enm', e_zip', e_rl, e_idx, e_join, x_nil, x_cons, x_set, x_setO, x_unp, x_xp, x_ret, x_raise, x_ite, x_forB, x_app, x_tr, x_brk, x_cnt, x_pass, x_fr, x_wipe, x_par, evP_nil, evP_f, evP_t, parR_nil, parR_f, parR_t, x_aug, x_augix, x_setix, setixS_nat, x_extS, x_pop, augD_add, augD_sub, x_while, compR_nil, compR_mapL, compR_some, quiet_ite, in_natL, in_natT, notin_natL, notin_natT, eq_ii, ne_ii, eq_ss, ne_ss, sum_map, all_map, any_map, b2_max, b2_min, ix_0, ix_1, ix_2, ixl_0, ansR_rt, ansR_nx, ansR_ex, toSl_l, toSl_d, sl_tailT, sl_tailL, size_ok, sz_filterL, compG_t, rng_nat, rng_ab, shl_one, shr_nat, band_one, op_mod_i, op_fdiv_i, zipD_map, zipD_tail, add_tup, add_lst, rev_tup, rev_lst, mul_repT, if_true, if_false, ite_true, ite_false, Bool.not_true, Bool.not_false, Bool.false_eq_true, decide_eq_true_eq, decide_true, decide_false, Bool.and_true, Bool.true_and, Bool.or_true, Bool.true_or, Bool.and_false, Bool.false_and, Bool.or_false, Bool.false_or, reduceCtorEq, List.map_cons, List.map_nil, List.length_map, List.length_cons, List.length_nil, List.nil_append, List.cons_append, List.length_range, List.length_append, sz_filterR, Nat.reduceAdd, Int.cast_ofNat_Int, Int.reduceEq, Int.reduceLT, Int.reduceLE, forB, b_law_above_1, notNone, h0', e1, f0]
        simp
      unfold forR
      rw [h1, List.length_cons]
      rw [List.append_assoc] at e
      rw [CH, if_neg h0]
      exact e
theorem law_above_ok {t : Tr} (g : Good t) (i : Nat) (hi : i < t.n) : EE m (k + 1) i_law_above [tD t, natD i] = .ok (.list ((CH t t.n i).map natD)) := by
  rw [r_law_above]
  have h9 := g.n9
  obtain ⟨i', e⟩ := above_walk (m := m) (k := k) g ((List.range t.n).map natD) i [] hi (by simp; omega)
  rw [List.length_map, List.length_range, List.nil_append, List.map_nil] at e
  simp -implicitDefEqProofs (disch := first | omega | (simp only [List.length_map, List.length_cons, List.length_nil, List.length_append, List.length_range, List.length_replicate, List.length_tail, List.length_reverse]; omega)) only [getS_0, getS_s, setS_0, setS_s, sr_ok, nx_then, rt_then, ex_then, bk_then, ct_then, ex_sr, asBool_b, asInt_i, items_l, items_t, Res.ok_bind, Res.ex_bind, Res.bad_bind, Res.quiet_ok, op_add_i, op_sub_i, b1_int, b1_abs, b1_lenl, b1_lent, b1_tupl, b1_tupt, b1_listt, b1_listl, lt_i, gt_i, le_i, ge_i, strict_0, strict_s, peek_0, peek_0l, peek_0d, peek_s, bindT_n, bindT_t, bindT_l, bindTs_n, bindTs_c, wipeS_nil, wipeS_cons, e_k, e_v, e_p, e_tup, e_lst, e_nil, e_cons, e_op, e_cmp, e_ch, e_and, e_or, e_not, e_neg, e_ite, e_isN, e_notN, e_ix, e_slf, e_slt, e_slb, e_rev, e_call, e_b1, e_b2, e_isi, e_rng, e_dnil, e_comp, e_dcomp, e_enm', e_zip', e_rl, e_idx, e_join, x_nil, x_cons, x_set, x_setO, x_unp, x_xp, x_ret, x_raise, x_ite, x_forB, x_app, x_tr, x_brk, x_cnt, x_pass, x_fr, x_wipe, x_par, evP_nil, evP_f, evP_t, parR_nil, parR_f, parR_t, x_aug, x_augix, x_setix, setixS_nat, x_extS, x_pop, augD_add, augD_sub, x_while, compR_nil, compR_mapL, compR_some, quiet_ite, in_natL, in_natT, notin_natL, notin_natT, eq_ii, ne_ii, eq_ss, ne_ss, sum_map, all_map, any_map, b2_max, b2_min, ix_0, ix_1, ix_2, ixl_0, ansR_rt, ansR_nx, ansR_ex, toSl_l, toSl_d, sl_tailT, sl_tailL, size_ok, sz_filterL, compG_t, rng_nat, rng_ab, shl_one, shr_nat, band_one, op_mod_i, op_fdiv_i, zipD_map, zipD_tail, add_tup, add_lst, rev_tup, rev_lst, mul_repT, if_true, if_false, ite_true, ite_false, Bool.not_true, Bool.not_false, Bool.false_eq_true, decide_eq_true_eq, decide_true, decide_false, Bool.and_true, Bool.true_and, Bool.or_true, Bool.true_or, Bool.and_false, Bool.false_and, Bool.or_false, Bool.false_or, reduceCtorEq, List.map_cons, List.map_nil, List.length_map, List.length_cons, List.length_nil, List.nil_append, List.cons_append, List.length_range, List.length_append, sz_filterR, Nat.reduceAdd, Int.cast_ofNat_Int, Int.reduceEq, Int.reduceLT, Int.reduceLE, b_law_above, tD_len, e]
def blw (t : Tr) (c i : Nat) : Bool := decide (i = c) || decide (c = 0) || (CH t t.n i).contains c
theorem law_below_ok {t : Tr} (g : Good t) (c : Nat) : EE m (k + 2) i_law_below [tD t, natD c] = .ok (.list (((List.range t.n).filter (blw t c)).map natD)) := by
  rw [r_law_below]
  have h9 := g.n9
  simp -implicitDefEqProofs (disch := first | omega | (simp only [List.length_map, List.length_cons, List.length_nil, List.length_append, List.length_range, List.length_replicate, List.length_tail, List.length_reverse]; omega)) only [getS_0, getS_s, setS_0, setS_s, sr_ok, nx_then, rt_then, ex_then, bk_then, ct_then, ex_sr, asBool_b, asInt_i, items_l, items_t, Res.ok_bind, Res.ex_bind, Res.bad_bind, Res.quiet_ok, op_add_i, op_sub_i, b1_int, b1_abs, b1_lenl, b1_lent, b1_tupl, b1_tupt, b1_listt, b1_listl, lt_i, gt_i, le_i, ge_i, strict_0, strict_s, peek_0, peek_0l, peek_0d, peek_s, bindT_n, bindT_t, bindT_l, bindTs_n, bindTs_c, wipeS_nil, wipeS_cons, e_k, e_v, e_p, e_tup, e_lst, e_nil, e_cons, e_op, e_cmp, e_ch, e_and, e_or, e_not, e_neg, e_ite, e_isN, e_notN, e_ix, e_slf, e_slt, e_slb, e_rev, e_call, e_b1, e_b2, e_isi, e_rng, e_dnil, e_comp, e_dcomp, e_enm', e_zip', e_rl, e_idx, e_join, x_nil, x_cons, x_set, x_setO, x_unp, x_xp, x_ret, x_raise, x_ite, x_forB, x_app, x_tr, x_brk, x_cnt, x_pass, x_fr, x_wipe, x_par, evP_nil, evP_f, evP_t, parR_nil, parR_f, parR_t, x_aug, x_augix, x_setix, setixS_nat, x_extS, x_pop, augD_add, augD_sub, x_while, compR_nil, compR_mapL, compR_some, quiet_ite, in_natL, in_natT, notin_natL, notin_natT, eq_ii, ne_ii, eq_ss, ne_ss, sum_map, all_map, any_map, b2_max, b2_min, ix_0, ix_1, ix_2, ixl_0, ansR_rt, ansR_nx, ansR_ex, toSl_l, toSl_d, sl_tailT, sl_tailL, size_ok, sz_filterL, compG_t, rng_nat, rng_ab, shl_one, shr_nat, band_one, op_mod_i, op_fdiv_i, zipD_map, zipD_tail, add_tup, add_lst, rev_tup, rev_lst, mul_repT, if_true, if_false, ite_true, ite_false, Bool.not_true, Bool.not_false, Bool.false_eq_true, decide_eq_true_eq, decide_true, decide_false, Bool.and_true, Bool.true_and, Bool.or_true, Bool.true_or, Bool.and_false, Bool.false_and, Bool.or_false, Bool.false_or, reduceCtorEq, List.map_cons, List.map_nil, List.length_map, List.length_cons, List.length_nil, List.nil_append, List.cons_append, List.length_range, List.length_append, sz_filterR, Nat.reduceAdd, Int.cast_ofNat_Int, Int.reduceEq, Int.reduceLT, Int.reduceLE, b_law_below, tD_len]
  rw [compR_okf (p := blw t c) (g := natD)]
  · simp -implicitDefEqProofs (disch := first | omega | (simp only [List.length_map, List.length_cons, List.length_nil, List.length_append, List.length_range, List.length_replicate, List.length_tail, List.length_reverse]; omega)) only [getS_0, getS_s, setS_0, setS_s, sr_ok, nx_then, rt_then, ex_then, bk_then, ct_then, ex_sr, asBool_b, asInt_i, items_l, items_t, Res.ok_bind, Res.ex_bind, Res.bad_bind, Res.quiet_ok, op_add_i, op_sub_i, b1_int, b1_abs, b1_lenl, b1_lent, b1_tupl, b1_tupt, b1_listt, b1_listl, lt_i, gt_i, le_i, ge_i, strict_0, strict_s, peek_0, peek_0l, peek_0d, peek_s, bindT_n, bindT_t, bindT_l, bindTs_n, bindTs_c, wipeS_nil, wipeS_cons, e_k, e_v, e_p, e_tup, e_lst, e_nil, e_cons, e_op, e_cmp, e_ch, e_and, e_or, e_not, e_neg, e_ite, e_isN, e_notN, e_ix, e_slf, e_slt, e_slb, e_rev, e_call, e_b1, e_b2, e_isi, e_rng, e_dnil, e_comp, e_dcomp, e_enm', e_zip', e_rl, e_idx, e_join, x_nil, x_cons, x_set, x_setO, x_unp, x_xp, x_ret, x_raise, x_ite, x_forB, x_app, x_tr, x_brk, x_cnt, x_pass, x_fr, x_wipe, x_par, evP_nil, evP_f, evP_t, parR_nil, parR_f, parR_t, x_aug, x_augix, x_setix, setixS_nat, x_extS, x_pop, augD_add, augD_sub, x_while, compR_nil, compR_mapL, compR_some, quiet_ite, in_natL, in_natT, notin_natL, notin_natT, eq_ii, ne_ii, eq_ss, ne_ss, sum_map, all_map, any_map, b2_max, b2_min, ix_0, ix_1, ix_2, ixl_0, ansR_rt, ansR_nx, ansR_ex, toSl_l, toSl_d, sl_tailT, sl_tailL, size_ok, sz_filterL, compG_t, rng_nat, rng_ab, shl_one, shr_nat, band_one, op_mod_i, op_fdiv_i, zipD_map, zipD_tail, add_tup, add_lst, rev_tup, rev_lst, mul_repT, if_true, if_false, ite_true, ite_false, Bool.not_true, Bool.not_false, Bool.false_eq_true, decide_eq_true_eq, decide_true, decide_false, Bool.and_true, Bool.true_and, Bool.or_true, Bool.true_or, Bool.and_false, Bool.false_and, Bool.or_false, Bool.false_or, reduceCtorEq, List.map_cons, List.map_nil, List.length_map, List.length_cons, List.length_nil, List.nil_append, List.cons_append, List.length_range, List.length_append, sz_filterR, Nat.reduceAdd, Int.cast_ofNat_Int, Int.reduceEq, Int.reduceLT, Int.reduceLE]
  · intro i hi
    have hi := List.mem_range.mp hi
    have ha := law_above_ok (m := m) (k := k) g i hi
    by_cases h1 : i = c
    · have h1' : (i : Int) = (c : Int) := by omega
      have : blw t c i = true := by simp [blw, h1]
      simp -implicitDefEqProofs (disch := first | omega | (simp only [List.length_map, List.length_cons, List.length_nil, List.length_append, List.length_range, List.length_replicate, List.length_tail, List.length_reverse]; omega)) only [getS_0, getS_s, setS_0, setS_s, sr_ok, nx_then, rt_then, ex_then, bk_then, ct_then, ex_sr, asBool_b, asInt_i, items_l, items_t, Res.ok_bind, Res.ex_bind, Res.bad_bind, Res.quiet_ok, op_add_i, op_sub_i, b1_int, b1_abs, b1_lenl, b1_lent, b1_tupl, b1_tupt, b1_listt, b1_listl, lt_i, gt_i, le_i, ge_i, strict_0, strict_s, peek_0, peek_0l, peek_0d, peek_s, bindT_n, bindT_t, bindT_l, bindTs_n, bindTs_c, wipeS_nil, wipeS_cons, e_k, e_v, e_p, e_tup, e_lst, e_nil, e_cons, e_op, e_cmp, e_ch, e_and, e_or, e_not, e_neg, e_ite, e_isN, e_notN, e_ix, e_slf, e_slt, e_slb, e_rev, e_call, e_b1, e_b2, e_isi, e_rng, e_dnil, e_comp, e_dcomp, e_enm', e_zip', e_rl, e_idx, e_join, x_nil, x_cons, x_set, x_setO, x_unp, x_xp, x_ret, x_raise, x_ite, x_forB, x_app, x_tr, x_brk, x_cnt, x_pass, x_fr, x_wipe, x_par, evP_nil, evP_f, evP_t, parR_nil, parR_f, parR_t, x_aug, x_augix, x_setix, setixS_nat, x_extS, x_pop, augD_add, augD_sub, x_while, compR_nil, compR_mapL, compR_some, quiet_ite, in_natL, in_natT, notin_natL, notin_natT, eq_ii, ne_ii, eq_ss, ne_ss, sum_map, all_map, any_map, b2_max, b2_min, ix_0, ix_1, ix_2, ixl_0, ansR_rt, ansR_nx, ansR_ex, toSl_l, toSl_d, sl_tailT, sl_tailL, size_ok, sz_filterL, compG_t, rng_nat, rng_ab, shl_one, shr_nat, band_one, op_mod_i, op_fdiv_i, zipD_map, zipD_tail, add_tup, add_lst, rev_tup, rev_lst, mul_repT, if_true, if_false, ite_true, ite_false, Bool.not_true, Bool.not_false, Bool.false_eq_true, decide_eq_true_eq, decide_true, decide_false, Bool.and_true, Bool.true_and, Bool.or_true, Bool.true_or, Bool.and_false, Bool.false_and, Bool.or_false, Bool.false_or, reduceCtorEq, List.map_cons, List.map_nil, List.length_map, List.length_cons, List.length_nil, List.nil_append, List.cons_append, List.length_range, List.length_append, sz_filterR, Nat.reduceAdd, Int.cast_ofNat_Int, Int.reduceEq, Int.reduceLT, Int.reduceLE, compG, h1', this, ite_self]
    · have h1' : ¬ (i : Int) = (c : Int) := by omega
      by_cases h2 : c = 0
      · have h2' : (c : Int) = 0 := by omega
        have : blw t c i = true := by simp [blw, h2]
        simp -implicitDefEqProofs (disch := first | omega | (simp only [List.length_map, List.length_cons, List.length_nil, List.length_append, List.length_range, List.length_replicate, List.length_tail, List.length_reverse]; omega)) only [getS_0, getS_s, setS_0, setS_s, sr_ok, nx_then, rt_then, ex_then, bk_then, ct_then, ex_sr, asBool_b, asInt_i, items_l, items_t, Res.ok_bind, Res.ex_bind, Res.bad_bind, Res.quiet_ok, op_add_i, op_sub_i, b1_int, b1_abs, b1_lenl, b1_lent, b1_tupl, b1_tupt, b1_listt, b1_listl, lt_i, gt_i, le_i, ge_i, strict_0, strict_s, peek_0, peek_0l, peek_0d, peek_s, bindT_n, bindT_t, bindT_l, bindTs_n, bindTs_c, wipeS_nil, wipeS_cons, e_k, e_v, e_p, e_tup, e_lst, e_nil, e_cons, e_op, e_cmp, e_ch, e_and, e_or, e_not, e_neg, e_ite, e_isN, e_notN, e_ix, e_slf, e_slt, e_slb, e_rev, e_call, e_b1, e_b2, e_isi, e_rng, e_dnil, e_comp, e_dcomp, e_enm', e_zip', e_rl, e_idx, e_join, x_nil, x_cons, x_set, x_setO, x_unp, x_xp, x_ret, x_raise, x_ite, x_forB, x_app, x_tr, x_brk, x_cnt, x_pass, x_fr, x_wipe, x_par, evP_nil, evP_f, evP_t, parR_nil, parR_f, parR_t, x_aug, x_augix, x_setix, setixS_nat, x_extS, x_pop, augD_add, augD_sub, x_while, compR_nil, compR_mapL, compR_some, quiet_ite, in_natL, in_natT, notin_natL, notin_natT, eq_ii, ne_ii, eq_ss, ne_ss, sum_map, all_map, any_map, b2_max, b2_min, ix_0, ix_1, ix_2, ixl_0, ansR_rt, ansR_nx, ansR_ex, toSl_l, toSl_d, sl_tailT, sl_tailL, size_ok, sz_filterL, compG_t, rng_nat, rng_ab, shl_one, shr_nat, band_one, op_mod_i, op_fdiv_i, zipD_map, zipD_tail, add_tup, add_lst, rev_tup, rev_lst, mul_repT, if_true, if_false, ite_true, ite_false, Bool.not_true, Bool.not_false, Bool.false_eq_true, decide_eq_true_eq, decide_true, decide_false, Bool.and_true, Bool.true_and, Bool.or_true, Bool.true_or, Bool.and_false, Bool.false_and, Bool.or_false, Bool.false_or, reduceCtorEq, List.map_cons, List.map_nil, List.length_map, List.length_cons, List.length_nil, List.nil_append, List.cons_append, List.length_range, List.length_append, sz_filterR, Nat.reduceAdd, Int.cast_ofNat_Int, Int.reduceEq, Int.reduceLT, Int.reduceLE, compG, h1', h2', this, ite_self]
      · have h2' : ¬ (c : Int) = 0 := by omega
        have : blw t c i = (CH t t.n i).contains c := by simp [blw, h1, h2]
        simp -implicitDefEqProofs (disch := first | omega | (simp only [List.length_map, List.length_cons, List.length_nil, List.length_append, List.length_range, List.length_replicate, List.length_tail, List.length_reverse]; omega)) only [getS_0, getS_s, setS_0, setS_s, sr_ok, nx_then, rt_then, ex_then, bk_then, ct_then, ex_sr, asBool_b, asInt_i, items_l, items_t, Res.ok_bind, Res.ex_bind, Res.bad_bind, Res.quiet_ok, op_add_i, op_sub_i, b1_int, b1_abs, b1_lenl, b1_lent, b1_tupl, b1_tupt, b1_listt, b1_listl, lt_i, gt_i, le_i, ge_i, strict_0, strict_s, peek_0, peek_0l, peek_0d, peek_s, bindT_n, bindT_t, bindT_l, bindTs_n, bindTs_c, wipeS_nil, wipeS_cons, e_k, e_v, e_p, e_tup, e_lst, e_nil, e_cons, e_op, e_cmp, e_ch, e_and, e_or, e_not, e_neg, e_ite, e_isN, e_notN, e_ix, e_slf, e_slt, e_slb, e_rev, e_call, e_b1, e_b2, e_isi, e_rng, e_dnil, e_comp, e_dcomp, e_enm', e_zip', e_rl, e_idx, e_join, x_nil, x_cons, x_set, x_setO, x_unp, x_xp, x_ret, x_raise, x_ite, x_forB, x_app, x_tr, x_brk, x_cnt, x_pass, x_fr, x_wipe, x_par, evP_nil, evP_f, evP_t, parR_nil, parR_f, parR_t, x_aug, x_augix, x_setix, setixS_nat, x_extS, x_pop, augD_add, augD_sub, x_while, compR_nil, compR_mapL, compR_some, quiet_ite, in_natL, in_natT, notin_natL, notin_natT, eq_ii, ne_ii, eq_ss, ne_ss, sum_map, all_map, any_map, b2_max, b2_min, ix_0, ix_1, ix_2, ixl_0, ansR_rt, ansR_nx, ansR_ex, toSl_l, toSl_d, sl_tailT, sl_tailL, size_ok, sz_filterL, compG_t, rng_nat, rng_ab, shl_one, shr_nat, band_one, op_mod_i, op_fdiv_i, zipD_map, zipD_tail, add_tup, add_lst, rev_tup, rev_lst, mul_repT, if_true, if_false, ite_true, ite_false, Bool.not_true, Bool.not_false, Bool.false_eq_true, decide_eq_true_eq, decide_true, decide_false, Bool.and_true, Bool.true_and, Bool.or_true, Bool.true_or, Bool.and_false, Bool.false_and, Bool.or_false, Bool.false_or, reduceCtorEq, List.map_cons, List.map_nil, List.length_map, List.length_cons, List.length_nil, List.nil_append, List.cons_append, List.length_range, List.length_append, sz_filterR, Nat.reduceAdd, Int.cast_ofNat_Int, Int.reduceEq, Int.reduceLT, Int.reduceLE, compG, h1', h2', this, ha]
        split <;> rfl
end Wt

namespace Wt.K57
open PySem PySem.W L2 BW Wt
abbrev i_law : Nat := 27
/-- law: 0=script 1=draws 2=turn 3=one 4=tree 5=drawn 6=nodes 7=k 8=wrong 9=buffer 10=many 11=wide 12=other 13=n 14=way -/
abbrev e_law (script_ draws_ turn_ one_ tree_ drawn_ nodes_ k_ wrong_ buffer_ many_ wide_ other_ n_ way_ : Sl := .un) : BW.Env := [script_, draws_, turn_, one_, tree_, drawn_, nodes_, k_, wrong_, buffer_, many_, wide_, other_, n_, way_]
def b_law_5 : List BW.S := [
    .ite (.cmp .ne (.call i_law_error [.k (.int 0), .v 4, .v 9, .v 8]) (.k (.str "nodes"))) [
      .ret (.k (.bool false))] [],
    .wipe [8]]
def b_law_4 : List BW.S := [
    .ite (.cmp .ne (.comp (.call i_law_error [.v 14, .v 4, .v 8, .k .none]) (.n 14) (.rng (.k (.int 0)) (.k (.int 3)) (.k (.int 1))) (.k (.bool true)) [14]) (.op .mul (.lst [.k (.str "buffer")]) (.k (.int 3)))) [
      .ret (.k (.bool false))] [],
    .wipe [8]]
def b_law_3 : List BW.S := [
    .set 11 (.op .add (.op .add (.slt (.v 4) (.v 7)) (.tup [.op .add (.slt (.ix (.v 4) (.v 7)) (.k (.int 2))) (.tup [.op .mod (.b1 .int (.op .add (.ix (.ix (.v 4) (.v 7)) (.k (.int 2))) (.k (.int 7)))) (.k (.int 1001))])])) (.slf (.v 4) (.op .add (.v 7) (.k (.int 1))))),
    .unp (.t [.n 3, .n 12]) (.tup [.call i_delays_with [.v 4, .v 9, .tup [.v 7]], .call i_delays_with [.v 11, .v 9, .tup [.v 7]]]),
    .ite (.b1 .any (.comp (.cmp .ne (.ix (.v 3) (.v 13)) (.ix (.v 12) (.v 13))) (.n 13) (.rng (.k (.int 0)) (.v 10) (.k (.int 1))) (.cmp .notin (.v 13) (.call i_law_below [.v 4, .v 7])) [13])) [
      .ret (.k (.bool false))] [],
    .wipe [3, 7, 11, 12]]
def b_law_2 : List BW.S := [
    .ite (.cmp .ne (.call i_delays_with [.v 4, .v 9, .v 6]) (.b1 .tuple (.comp (.call i_law_delay [.v 4, .v 9, .v 6, .v 7]) (.n 7) (.rng (.k (.int 0)) (.v 10) (.k (.int 1))) (.k (.bool true)) [7]))) [
      .ret (.k (.bool false))] [],
    .wipe [6]]
def b_law_1 : List BW.S := [
    .set 4 (.call i_law_tree [.slb (.v 1) (.op .mul (.k (.int 9)) (.v 2)) (.op .add (.op .mul (.k (.int 9)) (.v 2)) (.k (.int 14))), .k (.int 9)]),
    .unp (.t [.n 9, .n 10]) (.tup [.call i_law_buffer [.slf (.v 1) (.op .add (.k (.int 40)) (.op .mul (.k (.int 3)) (.v 2)))], .b1 .len (.v 4)]),
    .set 5 (.b1 .tuple (.comp (.v 7) (.n 7) (.rng (.k (.int 1)) (.v 10) (.k (.int 1))) (.cmp .eq (.op .mod (.op .fdiv (.b1 .int (.ix (.v 1) (.op .add (.k (.int 50)) (.v 2)))) (.op .add (.v 7) (.k (.int 1)))) (.k (.int 2))) (.k (.int 0))) [7])),
    .for (.n 6) (.lst [.tup [], .rl true (.k (.int 1)) (.v 10), .v 5, .slf (.v 5) (.k (.int 1)), .slt (.v 5) (.k (.int 1))]) b_law_2,
    .ite (.cmp .ne (.call i_delays_with [.v 4, .v 9, .tup []]) (.call i_delays [.v 4])) [
      .ret (.k (.bool false))] [],
    .for (.n 7) (.slt (.v 5) (.k (.int 2))) b_law_3,
    .for (.n 8) (.lst [.k .none, .b1 .list (.v 9), .slt (.v 9) (.k (.int 2)), .op .add (.v 9) (.tup [.k (.int 0)]), .tup [.neg (.k (.int 1)), .k (.int 0), .k (.int 0)], .tup [.k (.int 0), .k (.int 0), .k (.int 1001)], .tup [.k (.bool true), .k (.int 0), .k (.int 0)], .tup [.k (.int 0), .k .none, .k (.int 0)], .k (.int 7)]) b_law_4,
    .for (.n 8) (.lst [.k .none, .lst [.k (.int 1)], .tup [.k (.int 0)], .tup [.v 10], .tup [.neg (.k (.int 1))], .tup [.k (.bool true)], .tup [.k (.int 1), .k (.int 1)], .tup [.k (.int 2), .k (.int 1)], .k (.int 7), .tup [.k .none]]) b_law_5,
    .wipe [2, 3, 4, 5, 6, 7, 8, 9, 10, 11, 12]]
def b_law : List BW.S := [
    .set 1 (.call i_law_draws [.v 0, .k (.int 60)]),
    .for (.n 2) (.rng (.k (.int 0)) (.k (.int 4)) (.k (.int 1))) b_law_1,
    .set 3 (.tup [.tup [.k .none, .k (.int 0), .k (.int 0)], .tup [.k (.int 0), .k (.int 2), .k (.int 3)], .tup [.k (.int 1), .k (.int 1), .k (.int 4)], .tup [.k (.int 1), .k (.int 3), .k (.int 1)]]),
    .ret (.cmp .eq (.call i_delays_with [.v 3, .tup [.k (.int 1), .k (.int 1), .k (.int 5)], .tup [.k (.int 1)]]) (.tup [.k (.int 0), .k (.int 15), .k (.int 19), .k (.int 18)]))]
def d_law : BW.DI := ⟨"law", ["script"], ["script", "draws", "turn", "one", "tree", "drawn", "nodes", "k", "wrong", "buffer", "many", "wide", "other", "n", "way"], b_law⟩
def sub (c x : Str) : Option Bool :=
  if c = "BoardError" then (if x = "BoardError" then some true else if x = "BadTree" then some false else if x = "BadBuffer" then some false else if x = "BadNodes" then some false else none) else
  if c = "BadTree" then (if x = "BoardError" then some true else if x = "BadTree" then some true else if x = "BadBuffer" then some false else if x = "BadNodes" then some false else none) else
  if c = "BadBuffer" then (if x = "BoardError" then some true else if x = "BadTree" then some false else if x = "BadBuffer" then some true else if x = "BadNodes" then some false else none) else
  if c = "BadNodes" then (if x = "BoardError" then some true else if x = "BadTree" then some false else if x = "BadBuffer" then some false else if x = "BadNodes" then some true else none) else none
abbrev MM : Md := ⟨sub, [d_law]⟩
theorem r_law (k : Nat) (script_ : BW.D) : EE MM (k + 1) i_law [script_] = ansR (exs (EE MM k) sub fuel b_law [.fz script_, .un, .un, .un, .un, .un, .un, .un, .un, .un, .un, .un, .un, .un, .un]) := by
  unfold EE; rw [feN_succ (d := d_law) rfl, run_env [.fz script_, .un, .un, .un, .un, .un, .un, .un, .un, .un, .un, .un, .un, .un, .un] rfl rfl]; rfl
end Wt.K57

namespace Wt.K57
open PySem PySem.W L2 BW Wt
variable {k : Nat}
theorem slL_ab (xs : List BW.D) (a b : Nat) (h : a ≤ b) (h2 : b ≤ xs.length) : slD (.list xs) (some (a : Int)) (some (b : Int)) = .ok (.list ((xs.drop a).take (b - a))) := by
  show Res.ok (PyData.list (cutD xs (some (a : Int)) (some (b : Int)))) = _
  unfold cutD
  rw [HT.sIx_nat, HT.sIx_nat, Nat.min_eq_left (show a ≤ xs.length by omega), Nat.min_eq_left h2]
/-! ### where loads stand -/
theorem LD_cong {t t' : Tr} {b b' : Nat} {S S' : List Nat} (Q : Nat → Prop) (hn : t.n = t'.n) (hp : ∀ i, t.p i = t'.p i) (hl : ∀ i, Q i → t.l i = t'.l i) (hX : ∀ c, (S.contains c = true ∧ S'.contains c = true ∧ b = b') ∨ (S.contains c = false ∧ S'.contains c = false ∧ Q c)) : ∀ (j i : Nat), t.n - i ≤ j → Q i → LD t b S i = LD t' b' S' i
  | j, i, h, q => by
    by_cases hi : i < t.n
    · cases j with
      | zero => omega
      | succ j =>
        rw [LD_eq hi, LD_eq (by omega), hl i q, ← hn]
        congr 2
        have : ((List.range t.n).filter fun c => decide (i < c) && decide (t'.p c = i)) = (List.range t.n).filter fun c => decide (i < c) && decide (t.p c = i) := List.filter_congr fun c _ => by rw [hp c]
        rw [this]
        apply List.map_congr_left
        intro c hc
        have hc := (List.mem_filter.mp hc).2
        simp only [Bool.and_eq_true, decide_eq_true_eq] at hc
        unfold XL
        rcases hX c with ⟨h1, h2, h3⟩ | ⟨h1, h2, h3⟩
        · rw [h1, h2, if_pos rfl, if_pos rfl, h3]
        · rw [h1, h2, if_neg Bool.false_ne_true, if_neg Bool.false_ne_true]
          exact LD_cong Q hn hp hl hX j c (by omega) h3
    · rw [LD, LD, if_pos (by omega), if_pos (by omega)]
theorem DL_eq (t : Tr) (b : Nat × Nat × Nat) (S : List Nat) (i : Nat) : DL t b S i = if i = 0 then 0 else (if t.p i < i then DL t b S (t.p i) else 0) + (if S.contains i then t.r i * b.2.1 + b.2.2 + b.1 * LD t b.2.1 S i else t.r i * LD t b.2.1 S i) := by
  rw [DL]
theorem DL_nil (t : Tr) (b : Nat × Nat × Nat) : ∀ (j i : Nat), i ≤ j → DL t b [] i = DL t (0, 0, 0) [] i
  | j, i, h => by
    have e := LD_cong (t := t) (t' := t) (b := b.2.1) (b' := 0) (S := []) (S' := []) (fun _ => True) rfl (fun _ => rfl) (fun _ _ => rfl) (fun _ => .inr ⟨rfl, rfl, trivial⟩) (t.n - i) i (Nat.le_refl _) trivial
    rw [DL_eq t b, DL_eq t (0, 0, 0)]
    by_cases h0 : i = 0
    · rw [if_pos h0, if_pos h0]
    · rw [if_neg h0, if_neg h0]
      by_cases hp : t.p i < i
      · cases j with
        | zero => omega
        | succ j =>
          rw [if_pos hp, if_pos hp, DL_nil t b j (t.p i) (by omega)]
          simp [e]
      · rw [if_neg hp, if_neg hp]
        simp [e]
/-- another load at one node -/
def wide (t : Tr) (c : Nat) : Tr := { t with l := fun i => if i = c then (t.l c + 7) % 1001 else t.l i }
theorem wide_good {t : Tr} (g : Good t) (c : Nat) : Good (wide t c) := ⟨g.n1, g.n9, g.r0, g.p, g.r, fun i hi => by
  show (if i = c then _ else _) ≤ 1000
  split
  · omega
  · exact g.l i hi⟩
theorem DL_wide {t : Tr} (g : Good t) (b : Nat × Nat × Nat) (c : Nat) (hc : 0 < c) : ∀ (j i : Nat), i ≤ j → i < t.n → (CH t j i).contains c = false → DL t b [c] i = DL (wide t c) b [c] i
  | 0, i, h, hi, _ => by
    have : i = 0 := by omega
    subst this
    rw [DL_0, DL_0]
  | j + 1, i, h, hi, hcon => by
    by_cases h0 : i = 0
    · subst h0
      rw [DL_0, DL_0]
    · have hp := g.p i (by omega) hi
      rw [CH, if_neg h0, List.contains_cons, Bool.or_eq_false_iff] at hcon
      have hne : i ≠ c := fun e => by subst e; simp at hcon
      have e := LD_cong (t := t) (t' := wide t c) (b := b.2.1) (b' := b.2.1) (S := [c]) (S' := [c]) (fun i => i ≠ c) rfl (fun _ => rfl) (fun i q => by
        show t.l i = if i = c then _ else _
        rw [if_neg q]) (fun x => by
        by_cases q : x = c
        · subst q; exact .inl ⟨by simp, by simp, rfl⟩
        · exact .inr ⟨by simp [q], by simp [q], q⟩) (t.n - i) i (Nat.le_refl _) hne
      rw [DL_s (by omega) hp, DL_s (t := wide t c) (by omega) hp, ← e]
      show DL t b [c] (t.p i) + _ = DL (wide t c) b [c] (t.p i) + _
      rw [DL_wide g b c hc j (t.p i) (by omega) (by omega) hcon.2]
      rfl
theorem wide_d {t : Tr} (c : Nat) (h0 : 0 < c) (h : c < t.n) : ((List.range t.n).map (nodeD t)).take c ++ [PyData.tuple [natD (t.p c), natD (t.r c), natD ((t.l c + 7) % 1001)]] ++ ((List.range t.n).map (nodeD t)).drop (c + 1) = (List.range t.n).map (nodeD (wide t c)) := by
  have e := List.set_eq_take_append_cons_drop (l := (List.range t.n).map (nodeD t)) (i := c) (a := PyData.tuple [natD (t.p c), natD (t.r c), natD ((t.l c + 7) % 1001)])
  rw [if_pos (by simpa using h)] at e
  rw [List.append_assoc, List.singleton_append, ← e]
  apply List.ext_getElem
  · simp
  · intro i h1 h2
    rw [List.getElem_set]
    simp only [List.getElem_map, List.getElem_range]
    by_cases q : c = i
    · subst q
      rw [if_pos rfl, node_s _ _ h0]
      simp [wide]
    · rw [if_neg q]
      have hq : ¬ i = c := fun z => q z.symm
      unfold nodeD wide
      simp [hq]
/-! ### what the law asks -/
theorem sm_ds (t : Tr) (b : Nat × Nat × Nat) (S : List Nat) : Sm 1 (.tuple (dsD t b S)) := Sm.tup fun _ _ => Sm.int _
theorem sets_turn {t : Tr} (g : Good t) {b : Nat × Nat × Nat} (gb : GoodB b) {S : List Nat} (gs : GoodS t.n S) (s0 s1 s2 s3 s5 s8 s11 s12 s13 s14 : Sl) :
    forB (EE MM (k + 18)) sub fuel (.n 6) b_law_2 (.tuple (S.map natD)) [s0, s1, s2, s3, .fz (tD t), s5, .un, .un, s8, .fz (bfD b), .fz (.int t.n), s11, s12, s13, s14] =
      .nx [s0, s1, s2, s3, .fz (tD t), s5, .un, .un, s8, .fz (bfD b), .fz (.int t.n), s11, s12, s13, s14] := by
  have h9 := g.n9
  have e1 := delays_with_ok (m := MM) (k := k + 13) g gb gs
  have e2 := ne_self (sm_ds t b S) (by decide)
  simp -implicitDefEqProofs (disch := first | omega | (simp only [List.length_map, List.length_cons, List.length_nil, List.length_append, List.length_range, List.length_replicate, List.length_tail, List.length_reverse]; omega)) only [getS_0, getS_s, setS_0, setS_s, sr_ok, nx_then, rt_then, ex_then, bk_then, ct_then, ex_sr, asBool_b, asInt_i, items_l, items_t, Res.ok_bind, Res.ex_bind, Res.bad_bind, Res.quiet_ok, op_add_i, op_sub_i, b1_int, b1_abs, b1_lenl, b1_lent, b1_tupl, b1_tupt, b1_listt, b1_listl, lt_i, gt_i, le_i, ge_i, strict_0, strict_s, peek_0, peek_0l, peek_0d, peek_s, bindT_n, bindT_t, bindT_l, bindTs_n, bindTs_c, wipeS_nil, wipeS_cons, e_k, e_v, e_p, e_tup, e_lst, e_nil, e_cons, e_op, e_cmp, e_ch, e_and, e_or, e_not, e_neg, e_ite, e_isN, e_notN, e_ix, e_slf, e_slt, e_slb, e_rev, e_call, e_b1, e_b2, e_isi, e_rng, e_dnil, e_comp, e_dcomp, e_enm', e_zip', e_rl, e_idx, e_join, x_nil, x_cons, x_set, x_setO, x_unp, x_xp, x_ret, x_raise, x_ite, x_forB, x_app, x_tr, x_brk, x_cnt, x_pass, x_fr, x_wipe, x_par, evP_nil, evP_f, evP_t, parR_nil, parR_f, parR_t, x_aug, x_augix, x_setix, setixS_nat, x_extS, x_pop, augD_add, augD_sub, x_while, compR_nil, compR_mapL, compR_some, quiet_ite, in_natL, in_natT, notin_natL, notin_natT, eq_ii, ne_ii, eq_ss, ne_ss, sum_map, all_map, any_map, b2_max, b2_min, ix_0, ix_1, ix_2, ixl_0, ansR_rt, ansR_nx, ansR_ex, toSl_l, toSl_d, sl_tailT, sl_tailL, size_ok, sz_filterL, compG_t, rng_nat, rng_ab, shl_one, shr_nat, band_one, op_mod_i, op_fdiv_i, zipD_map, zipD_tail, add_tup, add_lst, rev_tup, rev_lst, mul_repT, if_true, if_false, ite_true, ite_false, Bool.not_true, Bool.not_false, Bool.false_eq_true, decide_eq_true_eq, decide_true, decide_false, Bool.and_true, Bool.true_and, Bool.or_true, Bool.true_or, Bool.and_false, Bool.false_and, Bool.or_false, Bool.false_or, reduceCtorEq, List.map_cons, List.map_nil, List.length_map, List.length_cons, List.length_nil, List.nil_append, List.cons_append, List.length_range, List.length_append, sz_filterR, Nat.reduceAdd, Int.cast_ofNat_Int, Int.reduceEq, Int.reduceLT, Int.reduceLE, forB, b_law_2, e1]
  rw [compR_ok (g := fun i => natD (DL t b S i))]
  · have : ((List.range t.n).map fun i => natD (DL t b S i)) = dsD t b S := rfl
    have hl : (dsD t b S).length ≤ 1000000 := by simp [dsD]; omega
    rw [this]
    simp -implicitDefEqProofs (disch := first | omega | (simp only [List.length_map, List.length_cons, List.length_nil, List.length_append, List.length_range, List.length_replicate, List.length_tail, List.length_reverse]; omega)) only [getS_0, getS_s, setS_0, setS_s, sr_ok, nx_then, rt_then, ex_then, bk_then, ct_then, ex_sr, asBool_b, asInt_i, items_l, items_t, Res.ok_bind, Res.ex_bind, Res.bad_bind, Res.quiet_ok, op_add_i, op_sub_i, b1_int, b1_abs, b1_lenl, b1_lent, b1_tupl, b1_tupt, b1_listt, b1_listl, lt_i, gt_i, le_i, ge_i, strict_0, strict_s, peek_0, peek_0l, peek_0d, peek_s, bindT_n, bindT_t, bindT_l, bindTs_n, bindTs_c, wipeS_nil, wipeS_cons, e_k, e_v, e_p, e_tup, e_lst, e_nil, e_cons, e_op, e_cmp, e_ch, e_and, e_or, e_not, e_neg, e_ite, e_isN, e_notN, e_ix, e_slf, e_slt, e_slb, e_rev, e_call, e_b1, e_b2, e_isi, e_rng, e_dnil, e_comp, e_dcomp, e_enm', e_zip', e_rl, e_idx, e_join, x_nil, x_cons, x_set, x_setO, x_unp, x_xp, x_ret, x_raise, x_ite, x_forB, x_app, x_tr, x_brk, x_cnt, x_pass, x_fr, x_wipe, x_par, evP_nil, evP_f, evP_t, parR_nil, parR_f, parR_t, x_aug, x_augix, x_setix, setixS_nat, x_extS, x_pop, augD_add, augD_sub, x_while, compR_nil, compR_mapL, compR_some, quiet_ite, in_natL, in_natT, notin_natL, notin_natT, eq_ii, ne_ii, eq_ss, ne_ss, sum_map, all_map, any_map, b2_max, b2_min, ix_0, ix_1, ix_2, ixl_0, ansR_rt, ansR_nx, ansR_ex, toSl_l, toSl_d, sl_tailT, sl_tailL, size_ok, sz_filterL, compG_t, rng_nat, rng_ab, shl_one, shr_nat, band_one, op_mod_i, op_fdiv_i, zipD_map, zipD_tail, add_tup, add_lst, rev_tup, rev_lst, mul_repT, if_true, if_false, ite_true, ite_false, Bool.not_true, Bool.not_false, Bool.false_eq_true, decide_eq_true_eq, decide_true, decide_false, Bool.and_true, Bool.true_and, Bool.or_true, Bool.true_or, Bool.and_false, Bool.false_and, Bool.or_false, Bool.false_or, reduceCtorEq, List.map_cons, List.map_nil, List.length_map, List.length_cons, List.length_nil, List.nil_append, List.cons_append, List.length_range, List.length_append, sz_filterR, Nat.reduceAdd, Int.cast_ofNat_Int, Int.reduceEq, Int.reduceLT, Int.reduceLE, e2]
  · intro i hi
    have hi := List.mem_range.mp hi
    have := law_delay_ok (m := MM) g gb S (.tuple (S.map natD)) rfl i (k + 18) hi (by omega)
    simp -implicitDefEqProofs (disch := first | omega | (simp only [List.length_map, List.length_cons, List.length_nil, List.length_append, List.length_range, List.length_replicate, List.length_tail, List.length_reverse]; omega)) only [getS_0, getS_s, setS_0, setS_s, sr_ok, nx_then, rt_then, ex_then, bk_then, ct_then, ex_sr, asBool_b, asInt_i, items_l, items_t, Res.ok_bind, Res.ex_bind, Res.bad_bind, Res.quiet_ok, op_add_i, op_sub_i, b1_int, b1_abs, b1_lenl, b1_lent, b1_tupl, b1_tupt, b1_listt, b1_listl, lt_i, gt_i, le_i, ge_i, strict_0, strict_s, peek_0, peek_0l, peek_0d, peek_s, bindT_n, bindT_t, bindT_l, bindTs_n, bindTs_c, wipeS_nil, wipeS_cons, e_k, e_v, e_p, e_tup, e_lst, e_nil, e_cons, e_op, e_cmp, e_ch, e_and, e_or, e_not, e_neg, e_ite, e_isN, e_notN, e_ix, e_slf, e_slt, e_slb, e_rev, e_call, e_b1, e_b2, e_isi, e_rng, e_dnil, e_comp, e_dcomp, e_enm', e_zip', e_rl, e_idx, e_join, x_nil, x_cons, x_set, x_setO, x_unp, x_xp, x_ret, x_raise, x_ite, x_forB, x_app, x_tr, x_brk, x_cnt, x_pass, x_fr, x_wipe, x_par, evP_nil, evP_f, evP_t, parR_nil, parR_f, parR_t, x_aug, x_augix, x_setix, setixS_nat, x_extS, x_pop, augD_add, augD_sub, x_while, compR_nil, compR_mapL, compR_some, quiet_ite, in_natL, in_natT, notin_natL, notin_natT, eq_ii, ne_ii, eq_ss, ne_ss, sum_map, all_map, any_map, b2_max, b2_min, ix_0, ix_1, ix_2, ixl_0, ansR_rt, ansR_nx, ansR_ex, toSl_l, toSl_d, sl_tailT, sl_tailL, size_ok, sz_filterL, compG_t, rng_nat, rng_ab, shl_one, shr_nat, band_one, op_mod_i, op_fdiv_i, zipD_map, zipD_tail, add_tup, add_lst, rev_tup, rev_lst, mul_repT, if_true, if_false, ite_true, ite_false, Bool.not_true, Bool.not_false, Bool.false_eq_true, decide_eq_true_eq, decide_true, decide_false, Bool.and_true, Bool.true_and, Bool.or_true, Bool.true_or, Bool.and_false, Bool.false_and, Bool.or_false, Bool.false_or, reduceCtorEq, List.map_cons, List.map_nil, List.length_map, List.length_cons, List.length_nil, List.nil_append, List.cons_append, List.length_range, List.length_append, sz_filterR, Nat.reduceAdd, Int.cast_ofNat_Int, Int.reduceEq, Int.reduceLT, Int.reduceLE, this]
theorem wide_turn {t : Tr} (g : Good t) {b : Nat × Nat × Nat} (gb : GoodB b) (c : Nat) (h0 : 0 < c) (h : c < t.n) (s0 s1 s2 s5 s6 s8 s14 : Sl) :
    forB (EE MM (k + 5)) sub fuel (.n 7) b_law_3 (natD c) [s0, s1, s2, .un, .fz (tD t), s5, s6, .un, s8, .fz (bfD b), .fz (.int t.n), .un, .un, .un, s14] =
      .nx [s0, s1, s2, .un, .fz (tD t), s5, s6, .un, s8, .fz (bfD b), .fz (.int t.n), .un, .un, .un, s14] := by
  have h9 := g.n9
  have gs : GoodS t.n [c] := ⟨by simp [asc], fun s hs => by rw [List.mem_singleton.mp hs]; omega, by simp⟩
  have e1 := delays_with_ok (m := MM) (k := k) g gb gs
  have e2 := delays_with_ok (m := MM) (k := k) (wide_good g c) gb gs
  rw [show [c].map natD = [natD c] from rfl] at e1 e2
  have e3 := tD_ix t c h
  rw [node_s t c h0] at e3
  have e4 : slD (tD t) none (some (c : Int)) = .ok (.tuple (((List.range t.n).map (nodeD t)).take c)) := slT_take _ c
  have e5 : slD (tD t) (some ((c : Int) + 1)) none = .ok (.tuple (((List.range t.n).map (nodeD t)).drop (c + 1))) := slT_drop _ (c + 1)
  have e6 : slD (.tuple [natD (t.p c), natD (t.r c), natD (t.l c)]) none (some 2) = .ok (.tuple [natD (t.p c), natD (t.r c)]) := slT_take _ 2
  have e7 : ((t.l c : Int) + 7) % 1001 = (((t.l c + 7) % 1001 : Nat) : Int) := by omega
  have e8 := wide_d c h0 h
  have ew : tD (wide t c) = .tuple ((List.range t.n).map (nodeD (wide t c))) := rfl
  have e9 := law_below_ok (m := MM) (k := k + 3) g c
  have a1 := add_tup (((List.range t.n).map (nodeD t)).take c) [PyData.tuple [natD (t.p c), natD (t.r c), natD ((t.l c + 7) % 1001)]] (by simp; omega)
  have a2 := add_tup (((List.range t.n).map (nodeD t)).take c ++ [PyData.tuple [natD (t.p c), natD (t.r c), natD ((t.l c + 7) % 1001)]]) (((List.range t.n).map (nodeD t)).drop (c + 1)) (by simp; omega)
  rw [e8] at a2
  rw [ew] at e2
  simp -implicitDefEqProofs (disch := first | omega | (simp only [List.length_map, List.length_cons, List.length_nil, List.length_append, List.length_range, List.length_replicate, List.length_tail, List.length_reverse]; omega)) only [getS_0, getS_s, setS_0, setS_s, sr_ok, nx_then, rt_then, ex_then, bk_then, ct_then, ex_sr, asBool_b, asInt_i, items_l, items_t, Res.ok_bind, Res.ex_bind, Res.bad_bind, Res.quiet_ok, op_add_i, op_sub_i, b1_int, b1_abs, b1_lenl, b1_lent, b1_tupl, b1_tupt, b1_listt, b1_listl, lt_i, gt_i, le_i, ge_i, strict_0, strict_s, peek_0, peek_0l, peek_0d, peek_s, bindT_n, bindT_t, bindT_l, bindTs_n, bindTs_c, wipeS_nil, wipeS_cons, e_k, e_v, e_p, e_tup, e_lst, e_nil, e_cons, e_op, e_cmp, e_ch, e_and, e_or, e_not, e_neg, e_ite, e_isN, e_notN, e_ix, e_slf, e_slt, e_slb, e_rev, e_call, e_b1, e_b2, e_isi, e_rng, e_dnil, e_comp, e_dcomp, e_enm', e_zip', e_rl, e_idx, e_join, x_nil, x_cons, x_set, x_setO, x_unp, x_xp, x_ret, x_raise, x_ite, x_forB, x_app, x_tr, x_brk, x_cnt, x_pass, x_fr, x_wipe, x_par, evP_nil, evP_f, evP_t, parR_nil, parR_f, parR_t, x_aug, x_augix, x_setix, setixS_nat, x_extS, x_pop, augD_add, augD_sub, x_while, compR_nil, compR_mapL, compR_some, quiet_ite, in_natL, in_natT, notin_natL, notin_natT, eq_ii, ne_ii, eq_ss, ne_ss, sum_map, all_map, any_map, b2_max, b2_min, ix_0, ix_1, ix_2, ixl_0, ansR_rt, ansR_nx, ansR_ex, toSl_l, toSl_d, sl_tailT, sl_tailL, size_ok, sz_filterL, compG_t, rng_nat, rng_ab, shl_one, shr_nat, band_one, op_mod_i, op_fdiv_i, zipD_map, zipD_tail, add_tup, add_lst, rev_tup, rev_lst, mul_repT, if_true, if_false, ite_true, ite_false, Bool.not_true, Bool.not_false, Bool.false_eq_true, decide_eq_true_eq, decide_true, decide_false, Bool.and_true, Bool.true_and, Bool.or_true, Bool.true_or, Bool.and_false, Bool.false_and, Bool.or_false, Bool.false_or, reduceCtorEq, List.map_cons, List.map_nil, List.length_map, List.length_cons, List.length_nil, List.nil_append, List.cons_append, List.length_range, List.length_append, sz_filterR, Nat.reduceAdd, Int.cast_ofNat_Int, Int.reduceEq, Int.reduceLT, Int.reduceLE, forB, b_law_3, e3, e4, e5, e6, e7, a1, a2, e1, e2]
  rw [compR_okf (p := fun i => !((List.range t.n).filter (blw t c)).contains i) (g := fun _ => PyData.bool false)]
  · have hz : ∀ L : List Nat, (L.any fun _ => false) = false := fun L => by simp
    simp -implicitDefEqProofs (disch := first | omega | (simp only [List.length_map, List.length_cons, List.length_nil, List.length_append, List.length_range, List.length_replicate, List.length_tail, List.length_reverse]; omega)) only [getS_0, getS_s, setS_0, setS_s, sr_ok, nx_then, rt_then, ex_then, bk_then, ct_then, ex_sr, asBool_b, asInt_i, items_l, items_t, Res.ok_bind, Res.ex_bind, Res.bad_bind, Res.quiet_ok, op_add_i, op_sub_i, b1_int, b1_abs, b1_lenl, b1_lent, b1_tupl, b1_tupt, b1_listt, b1_listl, lt_i, gt_i, le_i, ge_i, strict_0, strict_s, peek_0, peek_0l, peek_0d, peek_s, bindT_n, bindT_t, bindT_l, bindTs_n, bindTs_c, wipeS_nil, wipeS_cons, e_k, e_v, e_p, e_tup, e_lst, e_nil, e_cons, e_op, e_cmp, e_ch, e_and, e_or, e_not, e_neg, e_ite, e_isN, e_notN, e_ix, e_slf, e_slt, e_slb, e_rev, e_call, e_b1, e_b2, e_isi, e_rng, e_dnil, e_comp, e_dcomp, e_enm', e_zip', e_rl, e_idx, e_join, x_nil, x_cons, x_set, x_setO, x_unp, x_xp, x_ret, x_raise, x_ite, x_forB, x_app, x_tr, x_brk, x_cnt, x_pass, x_fr, x_wipe, x_par, evP_nil, evP_f, evP_t, parR_nil, parR_f, parR_t, x_aug, x_augix, x_setix, setixS_nat, x_extS, x_pop, augD_add, augD_sub, x_while, compR_nil, compR_mapL, compR_some, quiet_ite, in_natL, in_natT, notin_natL, notin_natT, eq_ii, ne_ii, eq_ss, ne_ss, sum_map, all_map, any_map, b2_max, b2_min, ix_0, ix_1, ix_2, ixl_0, ansR_rt, ansR_nx, ansR_ex, toSl_l, toSl_d, sl_tailT, sl_tailL, size_ok, sz_filterL, compG_t, rng_nat, rng_ab, shl_one, shr_nat, band_one, op_mod_i, op_fdiv_i, zipD_map, zipD_tail, add_tup, add_lst, rev_tup, rev_lst, mul_repT, if_true, if_false, ite_true, ite_false, Bool.not_true, Bool.not_false, Bool.false_eq_true, decide_eq_true_eq, decide_true, decide_false, Bool.and_true, Bool.true_and, Bool.or_true, Bool.true_or, Bool.and_false, Bool.false_and, Bool.or_false, Bool.false_or, reduceCtorEq, List.map_cons, List.map_nil, List.length_map, List.length_cons, List.length_nil, List.nil_append, List.cons_append, List.length_range, List.length_append, sz_filterR, Nat.reduceAdd, Int.cast_ofNat_Int, Int.reduceEq, Int.reduceLT, Int.reduceLE, hz]
  · intro i hi
    have hi := List.mem_range.mp hi
    have f1 : ixD (.tuple (dsD t b [c])) (.int (i : Int)) = .ok (natD (DL t b [c] i)) := by
      unfold dsD
      rw [ixT_nat (fun i => natD (DL t b [c] i)) _ i (by simpa using hi), List.getElem_range]
    have f2 : ixD (.tuple (dsD (wide t c) b [c])) (.int (i : Int)) = .ok (natD (DL (wide t c) b [c] i)) := by
      unfold dsD
      rw [ixT_nat (fun i => natD (DL (wide t c) b [c] i)) _ i (by simpa [wide] using hi), List.getElem_range]
    by_cases q : ((List.range t.n).filter (blw t c)).contains i = true
    · simp -implicitDefEqProofs (disch := first | omega | (simp only [List.length_map, List.length_cons, List.length_nil, List.length_append, List.length_range, List.length_replicate, List.length_tail, List.length_reverse]; omega)) only [getS_0, getS_s, setS_0, setS_s, sr_ok, nx_then, rt_then, ex_then, bk_then, ct_then, ex_sr, asBool_b, asInt_i, items_l, items_t, Res.ok_bind, Res.ex_bind, Res.bad_bind, Res.quiet_ok, op_add_i, op_sub_i, b1_int, b1_abs, b1_lenl, b1_lent, b1_tupl, b1_tupt, b1_listt, b1_listl, lt_i, gt_i, le_i, ge_i, strict_0, strict_s, peek_0, peek_0l, peek_0d, peek_s, bindT_n, bindT_t, bindT_l, bindTs_n, bindTs_c, wipeS_nil, wipeS_cons, e_k, e_v, e_p, e_tup, e_lst, e_nil, e_cons, e_op, e_cmp, e_ch, e_and, e_or, e_not, e_neg, e_ite, e_isN, e_notN, e_ix, e_slf, e_slt, e_slb, e_rev, e_call, e_b1, e_b2, e_isi, e_rng, e_dnil, e_comp, e_dcomp, e_enm', e_zip', e_rl, e_idx, e_join, x_nil, x_cons, x_set, x_setO, x_unp, x_xp, x_ret, x_raise, x_ite, x_forB, x_app, x_tr, x_brk, x_cnt, x_pass, x_fr, x_wipe, x_par, evP_nil, evP_f, evP_t, parR_nil, parR_f, parR_t, x_aug, x_augix, x_setix, setixS_nat, x_extS, x_pop, augD_add, augD_sub, x_while, compR_nil, compR_mapL, compR_some, quiet_ite, in_natL, in_natT, notin_natL, notin_natT, eq_ii, ne_ii, eq_ss, ne_ss, sum_map, all_map, any_map, b2_max, b2_min, ix_0, ix_1, ix_2, ixl_0, ansR_rt, ansR_nx, ansR_ex, toSl_l, toSl_d, sl_tailT, sl_tailL, size_ok, sz_filterL, compG_t, rng_nat, rng_ab, shl_one, shr_nat, band_one, op_mod_i, op_fdiv_i, zipD_map, zipD_tail, add_tup, add_lst, rev_tup, rev_lst, mul_repT, if_true, if_false, ite_true, ite_false, Bool.not_true, Bool.not_false, Bool.false_eq_true, decide_eq_true_eq, decide_true, decide_false, Bool.and_true, Bool.true_and, Bool.or_true, Bool.true_or, Bool.and_false, Bool.false_and, Bool.or_false, Bool.false_or, reduceCtorEq, List.map_cons, List.map_nil, List.length_map, List.length_cons, List.length_nil, List.nil_append, List.cons_append, List.length_range, List.length_append, sz_filterR, Nat.reduceAdd, Int.cast_ofNat_Int, Int.reduceEq, Int.reduceLT, Int.reduceLE, compG, e9, q]
    · have q : ((List.range t.n).filter (blw t c)).contains i = false := by simpa using q
      have q2 : blw t c i = false := by
        cases hb : blw t c i
        · rfl
        · exfalso
          have : ((List.range t.n).filter (blw t c)).contains i = true := by
            rw [List.contains_iff_mem]
            exact List.mem_filter.mpr ⟨List.mem_range.mpr hi, hb⟩
          rw [q] at this
          cases this
      have q3 : (CH t t.n i).contains c = false := by
        unfold blw at q2
        exact (Bool.or_eq_false_iff.mp q2).2
      have q4 := DL_wide g b c h0 t.n i (by omega) hi q3
      simp -implicitDefEqProofs (disch := first | omega | (simp only [List.length_map, List.length_cons, List.length_nil, List.length_append, List.length_range, List.length_replicate, List.length_tail, List.length_reverse]; omega)) only [getS_0, getS_s, setS_0, setS_s, sr_ok, nx_then, rt_then, ex_then, bk_then, ct_then, ex_sr, asBool_b, asInt_i, items_l, items_t, Res.ok_bind, Res.ex_bind, Res.bad_bind, Res.quiet_ok, op_add_i, op_sub_i, b1_int, b1_abs, b1_lenl, b1_lent, b1_tupl, b1_tupt, b1_listt, b1_listl, lt_i, gt_i, le_i, ge_i, strict_0, strict_s, peek_0, peek_0l, peek_0d, peek_s, bindT_n, bindT_t, bindT_l, bindTs_n, bindTs_c, wipeS_nil, wipeS_cons, e_k, e_v, e_p, e_tup, e_lst, e_nil, e_cons, e_op, e_cmp, e_ch, e_and, e_or, e_not, e_neg, e_ite, e_isN, e_notN, e_ix, e_slf, e_slt, e_slb, e_rev, e_call, e_b1, e_b2, e_isi, e_rng, e_dnil, e_comp, e_dcomp, e_enm', e_zip', e_rl, e_idx, e_join, x_nil, x_cons, x_set, x_setO, x_unp, x_xp, x_ret, x_raise, x_ite, x_forB, x_app, x_tr, x_brk, x_cnt, x_pass, x_fr, x_wipe, x_par, evP_nil, evP_f, evP_t, parR_nil, parR_f, parR_t, x_aug, x_augix, x_setix, setixS_nat, x_extS, x_pop, augD_add, augD_sub, x_while, compR_nil, compR_mapL, compR_some, quiet_ite, in_natL, in_natT, notin_natL, notin_natT, eq_ii, ne_ii, eq_ss, ne_ss, sum_map, all_map, any_map, b2_max, b2_min, ix_0, ix_1, ix_2, ixl_0, ansR_rt, ansR_nx, ansR_ex, toSl_l, toSl_d, sl_tailT, sl_tailL, size_ok, sz_filterL, compG_t, rng_nat, rng_ab, shl_one, shr_nat, band_one, op_mod_i, op_fdiv_i, zipD_map, zipD_tail, add_tup, add_lst, rev_tup, rev_lst, mul_repT, if_true, if_false, ite_true, ite_false, Bool.not_true, Bool.not_false, Bool.false_eq_true, decide_eq_true_eq, decide_true, decide_false, Bool.and_true, Bool.true_and, Bool.or_true, Bool.true_or, Bool.and_false, Bool.false_and, Bool.or_false, Bool.false_or, reduceCtorEq, List.map_cons, List.map_nil, List.length_map, List.length_cons, List.length_nil, List.nil_append, List.cons_append, List.length_range, List.length_append, sz_filterR, Nat.reduceAdd, Int.cast_ofNat_Int, Int.reduceEq, Int.reduceLT, Int.reduceLE, compG, e9, q, f1, f2, q4]
theorem bad_ok {t : Tr} (g : Good t) (b : Nat × Nat × Nat) (v : BW.D) (ok : okD v = true) (oks : ∀ ds, v = .tuple ds → ds.length ≤ 100 ∧ ∀ d ∈ ds, okD d = true) (w : bufOk v = false) (s0 s1 s2 s3 s5 s6 s7 s9 s10 s11 s12 s13 : Sl) :
    forB (EE MM (k + 6)) sub fuel (.n 8) b_law_4 v [s0, s1, s2, s3, .fz (tD t), s5, s6, s7, .un, s9, s10, s11, s12, s13, .un] =
      .nx [s0, s1, s2, s3, .fz (tD t), s5, s6, s7, .un, s9, s10, s11, s12, s13, .un] := by
  have e0 : ∀ i : Nat, i < 3 → EE MM (k + 6) i_law_error [natD i, tD t, v, .none] = .ok (.str "buffer") := fun i hi => by
    rw [r_law_error]
    have i1 := bad_buffer (m := MM) (k := k) g v .none ok oks w
    have i2 := bad_best (m := MM) (k := k) g v ok oks w
    have i3 := bad_options (m := MM) (k := k) g v ok oks w
    have s1 : sub "BadBuffer" "BadBuffer" = some true := by decide +kernel
    show ansR (exs (EE MM (k + 5)) sub fuel b_law_error [.fz (natD i), .fz (tD t), .fz v, .fz .none, .un]) = _
    have : i = 0 ∨ i = 1 ∨ i = 2 := by omega
    rcases this with rfl | rfl | rfl
    · simp -implicitDefEqProofs (disch := first | omega | (simp only [List.length_map, List.length_cons, List.length_nil, List.length_append, List.length_range, List.length_replicate, List.length_tail, List.length_reverse]; omega)) only [getS_0, getS_s, setS_0, setS_s, sr_ok, nx_then, rt_then, ex_then, bk_then, ct_then, ex_sr, asBool_b, asInt_i, items_l, items_t, Res.ok_bind, Res.ex_bind, Res.bad_bind, Res.quiet_ok, op_add_i, op_sub_i, b1_int, b1_abs, b1_lenl, b1_lent, b1_tupl, b1_tupt, b1_listt, b1_listl, lt_i, gt_i, le_i, ge_i, strict_0, strict_s, peek_0, peek_0l, peek_0d, peek_s, bindT_n, bindT_t, bindT_l, bindTs_n, bindTs_c, wipeS_nil, wipeS_cons, e_k, e_v, e_p, e_tup, e_lst, e_nil, e_cons, e_op, e_cmp, e_ch, e_and, e_or, e_not, e_neg, e_ite, e_isN, e_notN, e_ix, e_slf, e_slt, e_slb, e_rev, e_call, e_b1, e_b2, e_isi, e_rng, e_dnil, e_comp, e_dcomp, e_enm', e_zip', e_rl, e_idx, e_join, x_nil, x_cons, x_set, x_setO, x_unp, x_xp, x_ret, x_raise, x_ite, x_forB, x_app, x_tr, x_brk, x_cnt, x_pass, x_fr, x_wipe, x_par, evP_nil, evP_f, evP_t, parR_nil, parR_f, parR_t, x_aug, x_augix, x_setix, setixS_nat, x_extS, x_pop, augD_add, augD_sub, x_while, compR_nil, compR_mapL, compR_some, quiet_ite, in_natL, in_natT, notin_natL, notin_natT, eq_ii, ne_ii, eq_ss, ne_ss, sum_map, all_map, any_map, b2_max, b2_min, ix_0, ix_1, ix_2, ixl_0, ansR_rt, ansR_nx, ansR_ex, toSl_l, toSl_d, sl_tailT, sl_tailL, size_ok, sz_filterL, compG_t, rng_nat, rng_ab, shl_one, shr_nat, band_one, op_mod_i, op_fdiv_i, zipD_map, zipD_tail, add_tup, add_lst, rev_tup, rev_lst, mul_repT, if_true, if_false, ite_true, ite_false, Bool.not_true, Bool.not_false, Bool.false_eq_true, decide_eq_true_eq, decide_true, decide_false, Bool.and_true, Bool.true_and, Bool.or_true, Bool.true_or, Bool.and_false, Bool.false_and, Bool.or_false, Bool.false_or, reduceCtorEq, List.map_cons, List.map_nil, List.length_map, List.length_cons, List.length_nil, List.nil_append, List.cons_append, List.length_range, List.length_append, sz_filterR, Nat.reduceAdd, Int.cast_ofNat_Int, Int.reduceEq, Int.reduceLT, Int.reduceLE, b_law_error, i1, show ((0 : Nat) : Int) = 0 from rfl, tryR, handleR, s1]
    · simp -implicitDefEqProofs (disch := first | omega | (simp only [List.length_map, List.length_cons, List.length_nil, List.length_append, List.length_range, List.length_replicate, List.length_tail, List.length_reverse]; omega)) only [getS_0, getS_s, setS_0, setS_s, sr_ok, nx_then, rt_then, ex_then, bk_then, ct_then, ex_sr, asBool_b, asInt_i, items_l, items_t, Res.ok_bind, Res.ex_bind, Res.bad_bind, Res.quiet_ok, op_add_i, op_sub_i, b1_int, b1_abs, b1_lenl, b1_lent, b1_tupl, b1_tupt, b1_listt, b1_listl, lt_i, gt_i, le_i, ge_i, strict_0, strict_s, peek_0, peek_0l, peek_0d, peek_s, bindT_n, bindT_t, bindT_l, bindTs_n, bindTs_c, wipeS_nil, wipeS_cons, e_k, e_v, e_p, e_tup, e_lst, e_nil, e_cons, e_op, e_cmp, e_ch, e_and, e_or, e_not, e_neg, e_ite, e_isN, e_notN, e_ix, e_slf, e_slt, e_slb, e_rev, e_call, e_b1, e_b2, e_isi, e_rng, e_dnil, e_comp, e_dcomp, e_enm', e_zip', e_rl, e_idx, e_join, x_nil, x_cons, x_set, x_setO, x_unp, x_xp, x_ret, x_raise, x_ite, x_forB, x_app, x_tr, x_brk, x_cnt, x_pass, x_fr, x_wipe, x_par, evP_nil, evP_f, evP_t, parR_nil, parR_f, parR_t, x_aug, x_augix, x_setix, setixS_nat, x_extS, x_pop, augD_add, augD_sub, x_while, compR_nil, compR_mapL, compR_some, quiet_ite, in_natL, in_natT, notin_natL, notin_natT, eq_ii, ne_ii, eq_ss, ne_ss, sum_map, all_map, any_map, b2_max, b2_min, ix_0, ix_1, ix_2, ixl_0, ansR_rt, ansR_nx, ansR_ex, toSl_l, toSl_d, sl_tailT, sl_tailL, size_ok, sz_filterL, compG_t, rng_nat, rng_ab, shl_one, shr_nat, band_one, op_mod_i, op_fdiv_i, zipD_map, zipD_tail, add_tup, add_lst, rev_tup, rev_lst, mul_repT, if_true, if_false, ite_true, ite_false, Bool.not_true, Bool.not_false, Bool.false_eq_true, decide_eq_true_eq, decide_true, decide_false, Bool.and_true, Bool.true_and, Bool.or_true, Bool.true_or, Bool.and_false, Bool.false_and, Bool.or_false, Bool.false_or, reduceCtorEq, List.map_cons, List.map_nil, List.length_map, List.length_cons, List.length_nil, List.nil_append, List.cons_append, List.length_range, List.length_append, sz_filterR, Nat.reduceAdd, Int.cast_ofNat_Int, Int.reduceEq, Int.reduceLT, Int.reduceLE, b_law_error, i2, show ((1 : Nat) : Int) = 1 from rfl, tryR, handleR, s1]
    · simp -implicitDefEqProofs (disch := first | omega | (simp only [List.length_map, List.length_cons, List.length_nil, List.length_append, List.length_range, List.length_replicate, List.length_tail, List.length_reverse]; omega)) only [getS_0, getS_s, setS_0, setS_s, sr_ok, nx_then, rt_then, ex_then, bk_then, ct_then, ex_sr, asBool_b, asInt_i, items_l, items_t, Res.ok_bind, Res.ex_bind, Res.bad_bind, Res.quiet_ok, op_add_i, op_sub_i, b1_int, b1_abs, b1_lenl, b1_lent, b1_tupl, b1_tupt, b1_listt, b1_listl, lt_i, gt_i, le_i, ge_i, strict_0, strict_s, peek_0, peek_0l, peek_0d, peek_s, bindT_n, bindT_t, bindT_l, bindTs_n, bindTs_c, wipeS_nil, wipeS_cons, e_k, e_v, e_p, e_tup, e_lst, e_nil, e_cons, e_op, e_cmp, e_ch, e_and, e_or, e_not, e_neg, e_ite, e_isN, e_notN, e_ix, e_slf, e_slt, e_slb, e_rev, e_call, e_b1, e_b2, e_isi, e_rng, e_dnil, e_comp, e_dcomp, e_enm', e_zip', e_rl, e_idx, e_join, x_nil, x_cons, x_set, x_setO, x_unp, x_xp, x_ret, x_raise, x_ite, x_forB, x_app, x_tr, x_brk, x_cnt, x_pass, x_fr, x_wipe, x_par, evP_nil, evP_f, evP_t, parR_nil, parR_f, parR_t, x_aug, x_augix, x_setix, setixS_nat, x_extS, x_pop, augD_add, augD_sub, x_while, compR_nil, compR_mapL, compR_some, quiet_ite, in_natL, in_natT, notin_natL, notin_natT, eq_ii, ne_ii, eq_ss, ne_ss, sum_map, all_map, any_map, b2_max, b2_min, ix_0, ix_1, ix_2, ixl_0, ansR_rt, ansR_nx, ansR_ex, toSl_l, toSl_d, sl_tailT, sl_tailL, size_ok, sz_filterL, compG_t, rng_nat, rng_ab, shl_one, shr_nat, band_one, op_mod_i, op_fdiv_i, zipD_map, zipD_tail, add_tup, add_lst, rev_tup, rev_lst, mul_repT, if_true, if_false, ite_true, ite_false, Bool.not_true, Bool.not_false, Bool.false_eq_true, decide_eq_true_eq, decide_true, decide_false, Bool.and_true, Bool.true_and, Bool.or_true, Bool.true_or, Bool.and_false, Bool.false_and, Bool.or_false, Bool.false_or, reduceCtorEq, List.map_cons, List.map_nil, List.length_map, List.length_cons, List.length_nil, List.nil_append, List.cons_append, List.length_range, List.length_append, sz_filterR, Nat.reduceAdd, Int.cast_ofNat_Int, Int.reduceEq, Int.reduceLT, Int.reduceLE, b_law_error, i3, show ((2 : Nat) : Int) = 2 from rfl, tryR, handleR, s1]
  have er := rng_nat 3 (by decide)
  rw [show ((3 : Nat) : Int) = 3 from rfl] at er
  have em := mul_rep (.str "buffer") 3 (by decide)
  rw [show ((3 : Nat) : Int) = 3 from rfl] at em
  have e2 : cmpB .ne (.list [.str "buffer", .str "buffer", .str "buffer"]) (.list [.str "buffer", .str "buffer", .str "buffer"]) = .ok false := ne_self (Sm.list (f := PyData.str) (L := ["buffer", "buffer", "buffer"]) fun a _ => Sm.str a) (by decide)
  have e3 : (List.range 3).map (fun _ => PyData.str "buffer") = [.str "buffer", .str "buffer", .str "buffer"] := rfl
  have e4 : List.replicate 3 (PyData.str "buffer") = [.str "buffer", .str "buffer", .str "buffer"] := rfl
  rw [e4] at em
  simp -implicitDefEqProofs (disch := first | omega | (simp only [List.length_map, List.length_cons, List.length_nil, List.length_append, List.length_range, List.length_replicate, List.length_tail, List.length_reverse]; omega)) only [getS_0, getS_s, setS_0, setS_s, sr_ok, nx_then, rt_then, ex_then, bk_then, ct_then, ex_sr, asBool_b, asInt_i, items_l, items_t, Res.ok_bind, Res.ex_bind, Res.bad_bind, Res.quiet_ok, op_add_i, op_sub_i, b1_int, b1_abs, b1_lenl, b1_lent, b1_tupl, b1_tupt, b1_listt, b1_listl, lt_i, gt_i, le_i, ge_i, strict_0, strict_s, peek_0, peek_0l, peek_0d, peek_s, bindT_n, bindT_t, bindT_l, bindTs_n, bindTs_c, wipeS_nil, wipeS_cons, e_k, e_v, e_p, e_tup, e_lst, e_nil, e_cons, e_op, e_cmp, e_ch, e_and, e_or, e_not, e_neg, e_ite, e_isN, e_notN, e_ix, e_slf, e_slt, e_slb, e_rev, e_call, e_b1, e_b2, e_isi, e_rng, e_dnil, e_comp, e_dcomp, e_enm', e_zip', e_rl, e_idx, e_join, x_nil, x_cons, x_set, x_setO, x_unp, x_xp, x_ret, x_raise, x_ite, x_forB, x_app, x_tr, x_brk, x_cnt, x_pass, x_fr, x_wipe, x_par, evP_nil, evP_f, evP_t, parR_nil, parR_f, parR_t, x_aug, x_augix, x_setix, setixS_nat, x_extS, x_pop, augD_add, augD_sub, x_while, compR_nil, compR_mapL, compR_some, quiet_ite, in_natL, in_natT, notin_natL, notin_natT, eq_ii, ne_ii, eq_ss, ne_ss, sum_map, all_map, any_map, b2_max, b2_min, ix_0, ix_1, ix_2, ixl_0, ansR_rt, ansR_nx, ansR_ex, toSl_l, toSl_d, sl_tailT, sl_tailL, size_ok, sz_filterL, compG_t, rng_nat, rng_ab, shl_one, shr_nat, band_one, op_mod_i, op_fdiv_i, zipD_map, zipD_tail, add_tup, add_lst, rev_tup, rev_lst, mul_repT, if_true, if_false, ite_true, ite_false, Bool.not_true, Bool.not_false, Bool.false_eq_true, decide_eq_true_eq, decide_true, decide_false, Bool.and_true, Bool.true_and, Bool.or_true, Bool.true_or, Bool.and_false, Bool.false_and, Bool.or_false, Bool.false_or, reduceCtorEq, List.map_cons, List.map_nil, List.length_map, List.length_cons, List.length_nil, List.nil_append, List.cons_append, List.length_range, List.length_append, sz_filterR, Nat.reduceAdd, Int.cast_ofNat_Int, Int.reduceEq, Int.reduceLT, Int.reduceLE, forB, b_law_4, er]
  rw [compR_ok (g := fun _ => .str "buffer")]
  · rw [e3]
    simp -implicitDefEqProofs (disch := first | omega | (simp only [List.length_map, List.length_cons, List.length_nil, List.length_append, List.length_range, List.length_replicate, List.length_tail, List.length_reverse]; omega)) only [getS_0, getS_s, setS_0, setS_s, sr_ok, nx_then, rt_then, ex_then, bk_then, ct_then, ex_sr, asBool_b, asInt_i, items_l, items_t, Res.ok_bind, Res.ex_bind, Res.bad_bind, Res.quiet_ok, op_add_i, op_sub_i, b1_int, b1_abs, b1_lenl, b1_lent, b1_tupl, b1_tupt, b1_listt, b1_listl, lt_i, gt_i, le_i, ge_i, strict_0, strict_s, peek_0, peek_0l, peek_0d, peek_s, bindT_n, bindT_t, bindT_l, bindTs_n, bindTs_c, wipeS_nil, wipeS_cons, e_k, e_v, e_p, e_tup, e_lst, e_nil, e_cons, e_op, e_cmp, e_ch, e_and, e_or, e_not, e_neg, e_ite, e_isN, e_notN, e_ix, e_slf, e_slt, e_slb, e_rev, e_call, e_b1, e_b2, e_isi, e_rng, e_dnil, e_comp, e_dcomp, e_enm', e_zip', e_rl, e_idx, e_join, x_nil, x_cons, x_set, x_setO, x_unp, x_xp, x_ret, x_raise, x_ite, x_forB, x_app, x_tr, x_brk, x_cnt, x_pass, x_fr, x_wipe, x_par, evP_nil, evP_f, evP_t, parR_nil, parR_f, parR_t, x_aug, x_augix, x_setix, setixS_nat, x_extS, x_pop, augD_add, augD_sub, x_while, compR_nil, compR_mapL, compR_some, quiet_ite, in_natL, in_natT, notin_natL, notin_natT, eq_ii, ne_ii, eq_ss, ne_ss, sum_map, all_map, any_map, b2_max, b2_min, ix_0, ix_1, ix_2, ixl_0, ansR_rt, ansR_nx, ansR_ex, toSl_l, toSl_d, sl_tailT, sl_tailL, size_ok, sz_filterL, compG_t, rng_nat, rng_ab, shl_one, shr_nat, band_one, op_mod_i, op_fdiv_i, zipD_map, zipD_tail, add_tup, add_lst, rev_tup, rev_lst, mul_repT, if_true, if_false, ite_true, ite_false, Bool.not_true, Bool.not_false, Bool.false_eq_true, decide_eq_true_eq, decide_true, decide_false, Bool.and_true, Bool.true_and, Bool.or_true, Bool.true_or, Bool.and_false, Bool.false_and, Bool.or_false, Bool.false_or, reduceCtorEq, List.map_cons, List.map_nil, List.length_map, List.length_cons, List.length_nil, List.nil_append, List.cons_append, List.length_range, List.length_append, sz_filterR, Nat.reduceAdd, Int.cast_ofNat_Int, Int.reduceEq, Int.reduceLT, Int.reduceLE, em, e2]
  · intro i hi
    simp -implicitDefEqProofs (disch := first | omega | (simp only [List.length_map, List.length_cons, List.length_nil, List.length_append, List.length_range, List.length_replicate, List.length_tail, List.length_reverse]; omega)) only [getS_0, getS_s, setS_0, setS_s, sr_ok, nx_then, rt_then, ex_then, bk_then, ct_then, ex_sr, asBool_b, asInt_i, items_l, items_t, Res.ok_bind, Res.ex_bind, Res.bad_bind, Res.quiet_ok, op_add_i, op_sub_i, b1_int, b1_abs, b1_lenl, b1_lent, b1_tupl, b1_tupt, b1_listt, b1_listl, lt_i, gt_i, le_i, ge_i, strict_0, strict_s, peek_0, peek_0l, peek_0d, peek_s, bindT_n, bindT_t, bindT_l, bindTs_n, bindTs_c, wipeS_nil, wipeS_cons, e_k, e_v, e_p, e_tup, e_lst, e_nil, e_cons, e_op, e_cmp, e_ch, e_and, e_or, e_not, e_neg, e_ite, e_isN, e_notN, e_ix, e_slf, e_slt, e_slb, e_rev, e_call, e_b1, e_b2, e_isi, e_rng, e_dnil, e_comp, e_dcomp, e_enm', e_zip', e_rl, e_idx, e_join, x_nil, x_cons, x_set, x_setO, x_unp, x_xp, x_ret, x_raise, x_ite, x_forB, x_app, x_tr, x_brk, x_cnt, x_pass, x_fr, x_wipe, x_par, evP_nil, evP_f, evP_t, parR_nil, parR_f, parR_t, x_aug, x_augix, x_setix, setixS_nat, x_extS, x_pop, augD_add, augD_sub, x_while, compR_nil, compR_mapL, compR_some, quiet_ite, in_natL, in_natT, notin_natL, notin_natT, eq_ii, ne_ii, eq_ss, ne_ss, sum_map, all_map, any_map, b2_max, b2_min, ix_0, ix_1, ix_2, ixl_0, ansR_rt, ansR_nx, ansR_ex, toSl_l, toSl_d, sl_tailT, sl_tailL, size_ok, sz_filterL, compG_t, rng_nat, rng_ab, shl_one, shr_nat, band_one, op_mod_i, op_fdiv_i, zipD_map, zipD_tail, add_tup, add_lst, rev_tup, rev_lst, mul_repT, if_true, if_false, ite_true, ite_false, Bool.not_true, Bool.not_false, Bool.false_eq_true, decide_eq_true_eq, decide_true, decide_false, Bool.and_true, Bool.true_and, Bool.or_true, Bool.true_or, Bool.and_false, Bool.false_and, Bool.or_false, Bool.false_or, reduceCtorEq, List.map_cons, List.map_nil, List.length_map, List.length_cons, List.length_nil, List.nil_append, List.cons_append, List.length_range, List.length_append, sz_filterR, Nat.reduceAdd, Int.cast_ofNat_Int, Int.reduceEq, Int.reduceLT, Int.reduceLE, e0 i (List.mem_range.mp hi)]
/-- nodes refused -/
def RefN (t : Tr) (b : Nat × Nat × Nat) (v : BW.D) : Prop := ∀ k : Nat, EE MM (k + 5) i_delays_with [tD t, bfD b, v] = .ex "BadNodes"
theorem nodes_turn {t : Tr} (b : Nat × Nat × Nat) (v : BW.D) (h : RefN t b v) (s0 s1 s2 s3 s5 s6 s7 s10 s11 s12 s13 s14 : Sl) :
    forB (EE MM (k + 6)) sub fuel (.n 8) b_law_5 v [s0, s1, s2, s3, .fz (tD t), s5, s6, s7, .un, .fz (bfD b), s10, s11, s12, s13, s14] =
      .nx [s0, s1, s2, s3, .fz (tD t), s5, s6, s7, .un, .fz (bfD b), s10, s11, s12, s13, s14] := by
  have e0 : EE MM (k + 6) i_law_error [.int 0, tD t, bfD b, v] = .ok (.str "nodes") := by
    rw [r_law_error]
    have i1 := h k
    have s1 : sub "BadNodes" "BadBuffer" = some false := by decide +kernel
    have s2 : sub "BadNodes" "BoardError" = some true := by decide +kernel
    have s3 : sub "BadNodes" "BadNodes" = some true := by decide +kernel
    show ansR (exs (EE MM (k + 5)) sub fuel b_law_error [.fz (.int 0), .fz (tD t), .fz (bfD b), .fz v, .un]) = _
    simp -implicitDefEqProofs (disch := first | omega | (simp only [List.length_map, List.length_cons, List.length_nil, List.length_append, List.length_range, List.length_replicate, List.length_tail, List.length_reverse]; omega)) only [getS_0, getS_s, setS_0, setS_s, sr_ok, nx_then, rt_then, ex_then, bk_then, ct_then, ex_sr, asBool_b, asInt_i, items_l, items_t, Res.ok_bind, Res.ex_bind, Res.bad_bind, Res.quiet_ok, op_add_i, op_sub_i, b1_int, b1_abs, b1_lenl, b1_lent, b1_tupl, b1_tupt, b1_listt, b1_listl, lt_i, gt_i, le_i, ge_i, strict_0, strict_s, peek_0, peek_0l, peek_0d, peek_s, bindT_n, bindT_t, bindT_l, bindTs_n, bindTs_c, wipeS_nil, wipeS_cons, e_k, e_v, e_p, e_tup, e_lst, e_nil, e_cons, e_op, e_cmp, e_ch, e_and, e_or, e_not, e_neg, e_ite, e_isN, e_notN, e_ix, e_slf, e_slt, e_slb, e_rev, e_call, e_b1, e_b2, e_isi, e_rng, e_dnil, e_comp, e_dcomp, e_enm', e_zip', e_rl, e_idx, e_join, x_nil, x_cons, x_set, x_setO, x_unp, x_xp, x_ret, x_raise, x_ite, x_forB, x_app, x_tr, x_brk, x_cnt, x_pass, x_fr, x_wipe, x_par, evP_nil, evP_f, evP_t, parR_nil, parR_f, parR_t, x_aug, x_augix, x_setix, setixS_nat, x_extS, x_pop, augD_add, augD_sub, x_while, compR_nil, compR_mapL, compR_some, quiet_ite, in_natL, in_natT, notin_natL, notin_natT, eq_ii, ne_ii, eq_ss, ne_ss, sum_map, all_map, any_map, b2_max, b2_min, ix_0, ix_1, ix_2, ixl_0, ansR_rt, ansR_nx, ansR_ex, toSl_l, toSl_d, sl_tailT, sl_tailL, size_ok, sz_filterL, compG_t, rng_nat, rng_ab, shl_one, shr_nat, band_one, op_mod_i, op_fdiv_i, zipD_map, zipD_tail, add_tup, add_lst, rev_tup, rev_lst, mul_repT, if_true, if_false, ite_true, ite_false, Bool.not_true, Bool.not_false, Bool.false_eq_true, decide_eq_true_eq, decide_true, decide_false, Bool.and_true, Bool.true_and, Bool.or_true, Bool.true_or, Bool.and_false, Bool.false_and, Bool.or_false, Bool.false_or, reduceCtorEq, List.map_cons, List.map_nil, List.length_map, List.length_cons, List.length_nil, List.nil_append, List.cons_append, List.length_range, List.length_append, sz_filterR, Nat.reduceAdd, Int.cast_ofNat_Int, Int.reduceEq, Int.reduceLT, Int.reduceLE, b_law_error, i1, tryR, handleR, s1, s2, s3]
  simp -implicitDefEqProofs (disch := first | omega | (simp only [List.length_map, List.length_cons, List.length_nil, List.length_append, List.length_range, List.length_replicate, List.length_tail, List.length_reverse]; omega)) only [getS_0, getS_s, setS_0, setS_s, sr_ok, nx_then, rt_then, ex_then, bk_then, ct_then, ex_sr, asBool_b, asInt_i, items_l, items_t, Res.ok_bind, Res.ex_bind, Res.bad_bind, Res.quiet_ok, op_add_i, op_sub_i, b1_int, b1_abs, b1_lenl, b1_lent, b1_tupl, b1_tupt, b1_listt, b1_listl, lt_i, gt_i, le_i, ge_i, strict_0, strict_s, peek_0, peek_0l, peek_0d, peek_s, bindT_n, bindT_t, bindT_l, bindTs_n, bindTs_c, wipeS_nil, wipeS_cons, e_k, e_v, e_p, e_tup, e_lst, e_nil, e_cons, e_op, e_cmp, e_ch, e_and, e_or, e_not, e_neg, e_ite, e_isN, e_notN, e_ix, e_slf, e_slt, e_slb, e_rev, e_call, e_b1, e_b2, e_isi, e_rng, e_dnil, e_comp, e_dcomp, e_enm', e_zip', e_rl, e_idx, e_join, x_nil, x_cons, x_set, x_setO, x_unp, x_xp, x_ret, x_raise, x_ite, x_forB, x_app, x_tr, x_brk, x_cnt, x_pass, x_fr, x_wipe, x_par, evP_nil, evP_f, evP_t, parR_nil, parR_f, parR_t, x_aug, x_augix, x_setix, setixS_nat, x_extS, x_pop, augD_add, augD_sub, x_while, compR_nil, compR_mapL, compR_some, quiet_ite, in_natL, in_natT, notin_natL, notin_natT, eq_ii, ne_ii, eq_ss, ne_ss, sum_map, all_map, any_map, b2_max, b2_min, ix_0, ix_1, ix_2, ixl_0, ansR_rt, ansR_nx, ansR_ex, toSl_l, toSl_d, sl_tailT, sl_tailL, size_ok, sz_filterL, compG_t, rng_nat, rng_ab, shl_one, shr_nat, band_one, op_mod_i, op_fdiv_i, zipD_map, zipD_tail, add_tup, add_lst, rev_tup, rev_lst, mul_repT, if_true, if_false, ite_true, ite_false, Bool.not_true, Bool.not_false, Bool.false_eq_true, decide_eq_true_eq, decide_true, decide_false, Bool.and_true, Bool.true_and, Bool.or_true, Bool.true_or, Bool.and_false, Bool.false_and, Bool.or_false, Bool.false_or, reduceCtorEq, List.map_cons, List.map_nil, List.length_map, List.length_cons, List.length_nil, List.nil_append, List.cons_append, List.length_range, List.length_append, sz_filterR, Nat.reduceAdd, Int.cast_ofNat_Int, Int.reduceEq, Int.reduceLT, Int.reduceLE, forB, b_law_5, e0]
theorem ref_ty {t : Tr} (g : Good t) {b : Nat × Nat × Nat} (gb : GoodB b) (v : BW.D) (ok : okD v = true) (ty : tyD .tuple v = false) : RefN t b v := fun k => bad_nodes_ty g gb v ok ty
theorem ref_wh {t : Tr} (g : Good t) {b : Nat × Nat × Nat} (gb : GoodB b) (d : BW.D) (ok : okD d = true) (w : isWh d 1 ((t.n : Int) - 1) = false) : RefN t b (.tuple [d]) := fun k => bad_nodes_whole g gb [d] (by simp) (fun x hx => by rw [List.mem_singleton.mp hx]; exact ok) (by simp [w])
def pick (t : Tr) (x : Nat) : List Nat := (List.range' 1 (t.n - 1)).filter fun c => decide (x / (c + 1) % 2 = 0)
theorem good_all {t : Tr} (g : Good t) : GoodS t.n (List.range' 1 (t.n - 1)) := ⟨by
  have := List.pairwise_lt_range' (s := 1) (n := t.n - 1) (step := 1) (by decide)
  exact this, fun s hs => by have := List.mem_range'_1.mp hs; omega, by have := g.n9; simp; omega⟩
theorem good_sub {n : Nat} {S S' : List Nat} (h : GoodS n S) (hs : S'.Sublist S) : GoodS n S' := ⟨h.asc.sublist hs, fun s m => h.in_ s (hs.subset m), Nat.le_trans hs.length_le h.len⟩
theorem law_turn (ds : List Nat) (hd : ds.length = 60) (tt : Nat) (ht : tt < 4) (s0 s14 : Sl) :
    forB (EE MM 19) sub fuel (.n 2) b_law_1 (natD tt) [s0, .fz (.list (ds.map natD)), .un, .un, .un, .un, .un, .un, .un, .un, .un, .un, .un, .un, .un] =
      .nx [s0, .fz (.list (ds.map natD)), .un, .un, .un, .un, .un, .un, .un, .un, .un, .un, .un, .un, .un] := by
  have m1 : opD .mul (.int 9) (.int (tt : Int)) = .ok (.int ((9 * tt : Nat) : Int)) := by
    rw [op_mul_l _ _ (by decide)]; rfl
  have m2 : opD .mul (.int 3) (.int (tt : Int)) = .ok (.int ((3 * tt : Nat) : Int)) := by
    rw [op_mul_l _ _ (by decide)]; rfl
  have e1 := slL_ab (ds.map natD) (9 * tt) (9 * tt + 14) (by omega) (by simp; omega)
  rw [Int.natCast_add, show ((14 : Nat) : Int) = 14 from rfl, ← List.map_drop, ← List.map_take, show 9 * tt + 14 - 9 * tt = 14 by omega] at e1
  obtain ⟨t, g, f1⟩ := law_tree_ok (m := MM) (k := 18) ((ds.drop (9 * tt)).take 14) (by simp; omega)
  have e2 := slL_drop (ds.map natD) (40 + 3 * tt)
  rw [Int.natCast_add, show ((40 : Nat) : Int) = 40 from rfl, ← List.map_drop] at e2
  obtain ⟨b, gb, f2⟩ := law_buffer_ok (m := MM) (k := 18) (ds.drop (40 + 3 * tt)) (by simp; omega)
  have e3 := ixL_nat natD ds (50 + tt) (by omega)
  rw [Int.natCast_add, show ((50 : Nat) : Int) = 50 from rfl] at e3
  obtain ⟨x, hx⟩ : ∃ x, x = ds[50 + tt] := ⟨_, rfl⟩
  rw [← hx] at e3
  have h1 := g.n1
  have h9 := g.n9
  have er := rng_ab 1 t.n (by omega) (by omega)
  rw [show ((1 : Nat) : Int) = 1 from rfl] at er
  have gp : GoodS t.n (pick t x) := good_sub (good_all g) List.filter_sublist
  have gpl := gp.len
  have hsets := forR_same (f := forB (EE MM 19) sub fuel (.n 6) b_law_2) [s0, .fz (.list (ds.map natD)), .fz (natD tt), .un, .fz (tD t), .fz (.tuple ((pick t x).map natD)), .un, .un, .un, .fz (bfD b), .fz (.int t.n), .un, .un, .un, .un]
    [.tuple [], .tuple ((List.range' 1 (t.n - 1)).map natD), .tuple ((pick t x).map natD), .tuple ((pick t x).map natD).tail, .tuple (((pick t x).map natD).take 1)] fun d hd => by
    simp only [List.mem_cons, List.not_mem_nil, or_false] at hd
    rcases hd with rfl | rfl | rfl | rfl | rfl
    · exact sets_turn (k := 1) g gb (S := []) (good_sub gp (List.nil_sublist _)) ..
    · exact sets_turn (k := 1) g gb (good_all g) ..
    · exact sets_turn (k := 1) g gb gp ..
    · rw [← List.map_tail]; exact sets_turn (k := 1) g gb (good_sub gp (List.tail_sublist _)) ..
    · rw [← List.map_take]; exact sets_turn (k := 1) g gb (good_sub gp (List.take_sublist _ _)) ..
  have hwide := forR_same (f := forB (EE MM 19) sub fuel (.n 7) b_law_3) [s0, .fz (.list (ds.map natD)), .fz (natD tt), .un, .fz (tD t), .fz (.tuple ((pick t x).map natD)), .un, .un, .un, .fz (bfD b), .fz (.int t.n), .un, .un, .un, .un]
    (((pick t x).map natD).take 2) fun d hd => by
    rw [← List.map_take] at hd
    obtain ⟨c, hc, rfl⟩ := List.mem_map.mp hd
    obtain ⟨c1, c2⟩ := gp.in_ c ((List.take_sublist _ _).subset hc)
    exact wide_turn (k := 14) g gb c (by omega) c2 ..
  have hbuf := forR_same (f := forB (EE MM 19) sub fuel (.n 8) b_law_4) [s0, .fz (.list (ds.map natD)), .fz (natD tt), .un, .fz (tD t), .fz (.tuple ((pick t x).map natD)), .un, .un, .un, .fz (bfD b), .fz (.int t.n), .un, .un, .un, .un]
    [.none, .list [natD b.1, natD b.2.1, natD b.2.2], .tuple [natD b.1, natD b.2.1], .tuple [natD b.1, natD b.2.1, natD b.2.2, .int 0], .tuple [.int (-1), .int 0, .int 0], .tuple [.int 0, .int 0, .int 1001], .tuple [.bool true, .int 0, .int 0], .tuple [.int 0, .none, .int 0], .int 7] fun d hd => by
    simp only [List.mem_cons, List.not_mem_nil, or_false] at hd
    have z : ∀ (ds es : List BW.D), PyData.tuple ds = .tuple es → es = ds := fun ds es e => by cases e; rfl
    rcases hd with rfl | rfl | rfl | rfl | rfl | rfl | rfl | rfl | rfl
    · exact bad_ok (k := 13) g b _ rfl (fun _ e => by cases e) rfl ..
    · exact bad_ok (k := 13) g b _ rfl (fun _ e => by cases e) rfl ..
    · exact bad_ok (k := 13) g b _ rfl (fun es e => by rw [z _ _ e]; exact ⟨by simp, fun d h => by simp at h; rcases h with rfl | rfl <;> rfl⟩) rfl ..
    · exact bad_ok (k := 13) g b _ rfl (fun es e => by rw [z _ _ e]; exact ⟨by simp, fun d h => by simp at h; rcases h with rfl | rfl | rfl | rfl <;> rfl⟩) rfl ..
    · exact bad_ok (k := 13) g b _ rfl (fun es e => by rw [z _ _ e]; exact ⟨by simp, fun d h => by simp at h; rcases h with rfl | rfl | rfl <;> rfl⟩) rfl ..
    · exact bad_ok (k := 13) g b _ rfl (fun es e => by rw [z _ _ e]; exact ⟨by simp, fun d h => by simp at h; rcases h with rfl | rfl | rfl <;> rfl⟩) rfl ..
    · exact bad_ok (k := 13) g b _ rfl (fun es e => by rw [z _ _ e]; exact ⟨by simp, fun d h => by simp at h; rcases h with rfl | rfl | rfl <;> rfl⟩) rfl ..
    · exact bad_ok (k := 13) g b _ rfl (fun es e => by rw [z _ _ e]; exact ⟨by simp, fun d h => by simp at h; rcases h with rfl | rfl | rfl <;> rfl⟩) rfl ..
    · exact bad_ok (k := 13) g b _ rfl (fun _ e => by cases e) rfl ..
  have hnod := forR_same (f := forB (EE MM 19) sub fuel (.n 8) b_law_5) [s0, .fz (.list (ds.map natD)), .fz (natD tt), .un, .fz (tD t), .fz (.tuple ((pick t x).map natD)), .un, .un, .un, .fz (bfD b), .fz (.int t.n), .un, .un, .un, .un]
    [.none, .list [.int 1], .tuple [.int 0], .tuple [.int t.n], .tuple [.int (-1)], .tuple [.bool true], .tuple [.int 1, .int 1], .tuple [.int 2, .int 1], .int 7, .tuple [.none]] fun d hd => by
    simp only [List.mem_cons, List.not_mem_nil, or_false] at hd
    have r : ∀ v, RefN t b v → _ := fun v h => nodes_turn (k := 13) b v h s0 (.fz (.list (ds.map natD))) (.fz (natD tt)) .un (.fz (.tuple ((pick t x).map natD))) .un .un (.fz (.int t.n)) .un .un .un .un
    rcases hd with rfl | rfl | rfl | rfl | rfl | rfl | rfl | rfl | rfl | rfl
    · exact r _ (ref_ty g gb _ rfl rfl)
    · exact r _ (ref_ty g gb _ rfl rfl)
    · exact r _ (ref_wh g gb _ rfl (by simp [isWh]))
    · exact r _ (ref_wh g gb _ rfl (by simp [isWh]; omega))
    · exact r _ (ref_wh g gb _ rfl (by simp [isWh]))
    · exact r _ (ref_wh g gb _ rfl rfl)
    · exact r _ fun k => bad_nodes_order g gb [1, 1] (by decide) (by decide)
    · exact r _ fun k => bad_nodes_order g gb [2, 1] (by decide) (by decide)
    · exact r _ (ref_ty g gb _ rfl rfl)
    · exact r _ (ref_wh g gb _ rfl rfl)
  have d1 := delays_with_ok (m := MM) (k := 14) g gb (S := []) (good_sub gp (List.nil_sublist _))
  have d2 := delays_ok (m := MM) (k := 14) g
  have d3 : dsD t (0, 0, 0) [] = dsD t b [] := List.map_congr_left fun i _ => by rw [DL_nil t b i i (Nat.le_refl _)]
  rw [d3] at d2
  rw [show ([] : List Nat).map natD = [] from rfl] at d1
  have d4 := ne_self (sm_ds t b []) (by decide)
  have l1 : b1D .list (bfD b) = .ok (.list [natD b.1, natD b.2.1, natD b.2.2]) := rfl
  have l2 : slD (bfD b) none (some 2) = .ok (.tuple [natD b.1, natD b.2.1]) := rfl
  have l3 : opD .add (bfD b) (.tuple [.int 0]) = .ok (.tuple [natD b.1, natD b.2.1, natD b.2.2, .int 0]) := add_tup _ _ (by simp)
  have q1 : slD (.tuple ((pick t x).map natD)) none (some 1) = .ok (.tuple (((pick t x).map natD).take 1)) := slT_take _ 1
  have q2 : slD (.tuple ((pick t x).map natD)) none (some 2) = .ok (.tuple (((pick t x).map natD).take 2)) := slT_take _ 2
  have erl : rlD true (.int 1) (.int t.n) = .ok (.tuple ((List.range' 1 (t.n - 1)).map natD)) := by
    unfold rlD
    rw [er]
    show (if BW.sizeOk _ = true then _ else _) = _
    rw [if_pos (size_ok (by simp; omega))]
    rfl
  simp -implicitDefEqProofs (disch := first | omega | (simp only [List.length_map, List.length_cons, List.length_nil, List.length_append, List.length_range, List.length_replicate, List.length_tail, List.length_reverse]; omega)) only [getS_0, getS_s, setS_0, setS_s, sr_ok, nx_then, rt_then, ex_then, bk_then, ct_then, ex_sr, asBool_b, asInt_i, items_l, items_t, Res.ok_bind, Res.ex_bind, Res.bad_bind, Res.quiet_ok, op_add_i, op_sub_i, b1_int, b1_abs, b1_lenl, b1_lent, b1_tupl, b1_tupt, b1_listt, b1_listl, lt_i, gt_i, le_i, ge_i, strict_0, strict_s, peek_0, peek_0l, peek_0d, peek_s, bindT_n, bindT_t, bindT_l, bindTs_n, bindTs_c, wipeS_nil, wipeS_cons, e_k, e_v, e_p, e_tup, e_lst, e_nil, e_cons, e_op, e_cmp, e_ch, e_and, e_or, e_not, e_neg, e_ite, e_isN, e_notN, e_ix, e_slf, e_slt, e_slb, e_rev, e_call, e_b1, e_b2, e_isi, e_rng, e_dnil, e_comp, e_dcomp, e_enm', e_zip', e_rl, e_idx, e_join, x_nil, x_cons, x_set, x_setO, x_unp, x_xp, x_ret, x_raise, x_ite, x_forB, x_app, x_tr, x_brk, x_cnt, x_pass, x_fr, x_wipe, x_par, evP_nil, evP_f, evP_t, parR_nil, parR_f, parR_t, x_aug, x_augix, x_setix, setixS_nat, x_extS, x_pop, augD_add, augD_sub, x_while, compR_nil, compR_mapL, compR_some, quiet_ite, in_natL, in_natT, notin_natL, notin_natT, eq_ii, ne_ii, eq_ss, ne_ss, sum_map, all_map, any_map, b2_max, b2_min, ix_0, ix_1, ix_2, ixl_0, ansR_rt, ansR_nx, ansR_ex, toSl_l, toSl_d, sl_tailT, sl_tailL, size_ok, sz_filterL, compG_t, rng_nat, rng_ab, shl_one, shr_nat, band_one, op_mod_i, op_fdiv_i, zipD_map, zipD_tail, add_tup, add_lst, rev_tup, rev_lst, mul_repT, if_true, if_false, ite_true, ite_false, Bool.not_true, Bool.not_false, Bool.false_eq_true, decide_eq_true_eq, decide_true, decide_false, Bool.and_true, Bool.true_and, Bool.or_true, Bool.true_or, Bool.and_false, Bool.false_and, Bool.or_false, Bool.false_or, reduceCtorEq, List.map_cons, List.map_nil, List.length_map, List.length_cons, List.length_nil, List.nil_append, List.cons_append, List.length_range, List.length_append, sz_filterR, Nat.reduceAdd, Int.cast_ofNat_Int, Int.reduceEq, Int.reduceLT, Int.reduceLE, forB, b_law_1, m1, m2, e1, f1, e2, f2, tD_len, er]
  rw [compR_okf (p := fun c => decide (x / (c + 1) % 2 = 0)) (g := natD)]
  · have hp : (List.range' 1 (t.n - 1)).filter (fun c => decide (x / (c + 1) % 2 = 0)) = pick t x := rfl
    rw [hp]
    simp -implicitDefEqProofs (disch := first | omega | (simp only [List.length_map, List.length_cons, List.length_nil, List.length_append, List.length_range, List.length_replicate, List.length_tail, List.length_reverse]; omega)) only [getS_0, getS_s, setS_0, setS_s, sr_ok, nx_then, rt_then, ex_then, bk_then, ct_then, ex_sr, asBool_b, asInt_i, items_l, items_t, Res.ok_bind, Res.ex_bind, Res.bad_bind, Res.quiet_ok, op_add_i, op_sub_i, b1_int, b1_abs, b1_lenl, b1_lent, b1_tupl, b1_tupt, b1_listt, b1_listl, lt_i, gt_i, le_i, ge_i, strict_0, strict_s, peek_0, peek_0l, peek_0d, peek_s, bindT_n, bindT_t, bindT_l, bindTs_n, bindTs_c, wipeS_nil, wipeS_cons, e_k, e_v, e_p, e_tup, e_lst, e_nil, e_cons, e_op, e_cmp, e_ch, e_and, e_or, e_not, e_neg, e_ite, e_isN, e_notN, e_ix, e_slf, e_slt, e_slb, e_rev, e_call, e_b1, e_b2, e_isi, e_rng, e_dnil, e_comp, e_dcomp, e_enm', e_zip', e_rl, e_idx, e_join, x_nil, x_cons, x_set, x_setO, x_unp, x_xp, x_ret, x_raise, x_ite, x_forB, x_app, x_tr, x_brk, x_cnt, x_pass, x_fr, x_wipe, x_par, evP_nil, evP_f, evP_t, parR_nil, parR_f, parR_t, x_aug, x_augix, x_setix, setixS_nat, x_extS, x_pop, augD_add, augD_sub, x_while, compR_nil, compR_mapL, compR_some, quiet_ite, in_natL, in_natT, notin_natL, notin_natT, eq_ii, ne_ii, eq_ss, ne_ss, sum_map, all_map, any_map, b2_max, b2_min, ix_0, ix_1, ix_2, ixl_0, ansR_rt, ansR_nx, ansR_ex, toSl_l, toSl_d, sl_tailT, sl_tailL, size_ok, sz_filterL, compG_t, rng_nat, rng_ab, shl_one, shr_nat, band_one, op_mod_i, op_fdiv_i, zipD_map, zipD_tail, add_tup, add_lst, rev_tup, rev_lst, mul_repT, if_true, if_false, ite_true, ite_false, Bool.not_true, Bool.not_false, Bool.false_eq_true, decide_eq_true_eq, decide_true, decide_false, Bool.and_true, Bool.true_and, Bool.or_true, Bool.true_or, Bool.and_false, Bool.false_and, Bool.or_false, Bool.false_or, reduceCtorEq, List.map_cons, List.map_nil, List.length_map, List.length_cons, List.length_nil, List.nil_append, List.cons_append, List.length_range, List.length_append, sz_filterR, Nat.reduceAdd, Int.cast_ofNat_Int, Int.reduceEq, Int.reduceLT, Int.reduceLE, q1, q2, erl, hsets, d1, d2, d4, hwide, l1, l2, l3, hbuf, hnod]
  · intro c hc
    have hc := List.mem_range'_1.mp hc
    have z1 : opD .fdiv (.int (x : Int)) (.int ((c : Int) + 1)) = .ok (.int ((x / (c + 1) : Nat) : Int)) := by
      rw [op_fdiv_i _ _ (by omega) (by omega)]
      rfl
    have z2 : opD .mod (.int ((x / (c + 1) : Nat) : Int)) (.int 2) = .ok (.int ((x / (c + 1) % 2 : Nat) : Int)) := by
      rw [op_mod_i _ _ (by omega)]
      rfl
    by_cases q : x / (c + 1) % 2 = 0
    · simp -implicitDefEqProofs (disch := first | omega | (simp only [List.length_map, List.length_cons, List.length_nil, List.length_append, List.length_range, List.length_replicate, List.length_tail, List.length_reverse]; omega)) only [getS_0, getS_s, setS_0, setS_s, sr_ok, nx_then, rt_then, ex_then, bk_then, ct_then, ex_sr, asBool_b, asInt_i, items_l, items_t, Res.ok_bind, Res.ex_bind, Res.bad_bind, Res.quiet_ok, op_add_i, op_sub_i, b1_int, b1_abs, b1_lenl, b1_lent, b1_tupl, b1_tupt, b1_listt, b1_listl, lt_i, gt_i, le_i, ge_i, strict_0, strict_s, peek_0, peek_0l, peek_0d, peek_s, bindT_n, bindT_t, bindT_l, bindTs_n, bindTs_c, wipeS_nil, wipeS_cons, e_k, e_v, e_p, e_tup, e_lst, e_nil, e_cons, e_op, e_cmp, e_ch, e_and, e_or, e_not, e_neg, e_ite, e_isN, e_notN, e_ix, e_slf, e_slt, e_slb, e_rev, e_call, e_b1, e_b2, e_isi, e_rng, e_dnil, e_comp, e_dcomp, e_enm', e_zip', e_rl, e_idx, e_join, x_nil, x_cons, x_set, x_setO, x_unp, x_xp, x_ret, x_raise, x_ite, x_forB, x_app, x_tr, x_brk, x_cnt, x_pass, x_fr, x_wipe, x_par, evP_nil, evP_f, evP_t, parR_nil, parR_f, parR_t, x_aug, x_augix, x_setix, setixS_nat, x_extS, x_pop, augD_add, augD_sub, x_while, compR_nil, compR_mapL, compR_some, quiet_ite, in_natL, in_natT, notin_natL, notin_natT, eq_ii, ne_ii, eq_ss, ne_ss, sum_map, all_map, any_map, b2_max, b2_min, ix_0, ix_1, ix_2, ixl_0, ansR_rt, ansR_nx, ansR_ex, toSl_l, toSl_d, sl_tailT, sl_tailL, size_ok, sz_filterL, compG_t, rng_nat, rng_ab, shl_one, shr_nat, band_one, op_mod_i, op_fdiv_i, zipD_map, zipD_tail, add_tup, add_lst, rev_tup, rev_lst, mul_repT, if_true, if_false, ite_true, ite_false, Bool.not_true, Bool.not_false, Bool.false_eq_true, decide_eq_true_eq, decide_true, decide_false, Bool.and_true, Bool.true_and, Bool.or_true, Bool.true_or, Bool.and_false, Bool.false_and, Bool.or_false, Bool.false_or, reduceCtorEq, List.map_cons, List.map_nil, List.length_map, List.length_cons, List.length_nil, List.nil_append, List.cons_append, List.length_range, List.length_append, sz_filterR, Nat.reduceAdd, Int.cast_ofNat_Int, Int.reduceEq, Int.reduceLT, Int.reduceLE, compG, e3, z1, z2, q, show ((0 : Nat) : Int) = 0 from rfl]
    · have q' : ¬ ((x / (c + 1) % 2 : Nat) : Int) = 0 := by omega
      simp -implicitDefEqProofs (disch := first | omega | (simp only [List.length_map, List.length_cons, List.length_nil, List.length_append, List.length_range, List.length_replicate, List.length_tail, List.length_reverse]; omega)) only [getS_0, getS_s, setS_0, setS_s, sr_ok, nx_then, rt_then, ex_then, bk_then, ct_then, ex_sr, asBool_b, asInt_i, items_l, items_t, Res.ok_bind, Res.ex_bind, Res.bad_bind, Res.quiet_ok, op_add_i, op_sub_i, b1_int, b1_abs, b1_lenl, b1_lent, b1_tupl, b1_tupt, b1_listt, b1_listl, lt_i, gt_i, le_i, ge_i, strict_0, strict_s, peek_0, peek_0l, peek_0d, peek_s, bindT_n, bindT_t, bindT_l, bindTs_n, bindTs_c, wipeS_nil, wipeS_cons, e_k, e_v, e_p, e_tup, e_lst, e_nil, e_cons, e_op, e_cmp, e_ch, e_and, e_or, e_not, e_neg, e_ite, e_isN, e_notN, e_ix, e_slf, e_slt, e_slb, e_rev, e_call, e_b1, e_b2, e_isi, e_rng, e_dnil, e_comp, e_dcomp, e_enm', e_zip', e_rl, e_idx, e_join, x_nil, x_cons, x_set, x_setO, x_unp, x_xp, x_ret, x_raise, x_ite, x_forB, x_app, x_tr, x_brk, x_cnt, x_pass, x_fr, x_wipe, x_par, evP_nil, evP_f, evP_t, parR_nil, parR_f, parR_t, x_aug, x_augix, x_setix, setixS_nat, x_extS, x_pop, augD_add, augD_sub, x_while, compR_nil, compR_mapL, compR_some, quiet_ite, in_natL, in_natT, notin_natL, notin_natT, eq_ii, ne_ii, eq_ss, ne_ss, sum_map, all_map, any_map, b2_max, b2_min, ix_0, ix_1, ix_2, ixl_0, ansR_rt, ansR_nx, ansR_ex, toSl_l, toSl_d, sl_tailT, sl_tailL, size_ok, sz_filterL, compG_t, rng_nat, rng_ab, shl_one, shr_nat, band_one, op_mod_i, op_fdiv_i, zipD_map, zipD_tail, add_tup, add_lst, rev_tup, rev_lst, mul_repT, if_true, if_false, ite_true, ite_false, Bool.not_true, Bool.not_false, Bool.false_eq_true, decide_eq_true_eq, decide_true, decide_false, Bool.and_true, Bool.true_and, Bool.or_true, Bool.true_or, Bool.and_false, Bool.false_and, Bool.or_false, Bool.false_or, reduceCtorEq, List.map_cons, List.map_nil, List.length_map, List.length_cons, List.length_nil, List.nil_append, List.cons_append, List.length_range, List.length_append, sz_filterR, Nat.reduceAdd, Int.cast_ofNat_Int, Int.reduceEq, Int.reduceLT, Int.reduceLE, compG, e3, z1, z2, q, q']
theorem last_ok : EE MM 19 i_delays_with [.tuple [.tuple [.none, .int 0, .int 0], .tuple [.int 0, .int 2, .int 3], .tuple [.int 1, .int 1, .int 4], .tuple [.int 1, .int 3, .int 1]], .tuple [.int 1, .int 1, .int 5], .tuple [.int 1]] = .ok (.tuple [.int 0, .int 15, .int 19, .int 18]) := by
  rfl
theorem the_law (ns : List Int) (h : ns.length ≤ 63) : EE MM 20 i_law [scrD ns] = .ok (.bool true) := by
  rw [r_law]
  obtain ⟨ds, h1, h2⟩ := law_draws_ok (m := MM) (k := 18) ns h 60 (by decide)
  rw [show ((60 : Nat) : Int) = 60 from rfl] at h1
  have hf := forR_same (f := forB (EE MM 19) sub fuel (.n 2) b_law_1) [.fz (scrD ns), .fz (.list (ds.map natD)), .un, .un, .un, .un, .un, .un, .un, .un, .un, .un, .un, .un, .un] ((List.range 4).map natD) fun d hd => by
    obtain ⟨t, ht, rfl⟩ := List.mem_map.mp hd
    exact law_turn ds h2 t (List.mem_range.mp ht) _ .un
  have er := rng_nat 4 (by decide)
  rw [show ((4 : Nat) : Int) = 4 from rfl] at er
  have es : cmpB .eq (.tuple [.int 0, .int 15, .int 19, .int 18]) (.tuple [.int 0, .int 15, .int 19, .int 18]) = .ok true := eq_self (Sm.tup (f := PyData.int) (L := [0, 15, 19, 18]) fun i _ => Sm.int i) (by decide)
  simp -implicitDefEqProofs (disch := first | omega | (simp only [List.length_map, List.length_cons, List.length_nil, List.length_append, List.length_range, List.length_replicate, List.length_tail, List.length_reverse]; omega)) only [getS_0, getS_s, setS_0, setS_s, sr_ok, nx_then, rt_then, ex_then, bk_then, ct_then, ex_sr, asBool_b, asInt_i, items_l, items_t, Res.ok_bind, Res.ex_bind, Res.bad_bind, Res.quiet_ok, op_add_i, op_sub_i, b1_int, b1_abs, b1_lenl, b1_lent, b1_tupl, b1_tupt, b1_listt, b1_listl, lt_i, gt_i, le_i, ge_i, strict_0, strict_s, peek_0, peek_0l, peek_0d, peek_s, bindT_n, bindT_t, bindT_l, bindTs_n, bindTs_c, wipeS_nil, wipeS_cons, e_k, e_v, e_p, e_tup, e_lst, e_nil, e_cons, e_op, e_cmp, e_ch, e_and, e_or, e_not, e_neg, e_ite, e_isN, e_notN, e_ix, e_slf, e_slt, e_slb, e_rev, e_call, e_b1, e_b2, e_isi, e_rng, e_dnil, e_comp, e_dcomp, e_enm', e_zip', e_rl, e_idx, e_join, x_nil, x_cons, x_set, x_setO, x_unp, x_xp, x_ret, x_raise, x_ite, x_forB, x_app, x_tr, x_brk, x_cnt, x_pass, x_fr, x_wipe, x_par, evP_nil, evP_f, evP_t, parR_nil, parR_f, parR_t, x_aug, x_augix, x_setix, setixS_nat, x_extS, x_pop, augD_add, augD_sub, x_while, compR_nil, compR_mapL, compR_some, quiet_ite, in_natL, in_natT, notin_natL, notin_natT, eq_ii, ne_ii, eq_ss, ne_ss, sum_map, all_map, any_map, b2_max, b2_min, ix_0, ix_1, ix_2, ixl_0, ansR_rt, ansR_nx, ansR_ex, toSl_l, toSl_d, sl_tailT, sl_tailL, size_ok, sz_filterL, compG_t, rng_nat, rng_ab, shl_one, shr_nat, band_one, op_mod_i, op_fdiv_i, zipD_map, zipD_tail, add_tup, add_lst, rev_tup, rev_lst, mul_repT, if_true, if_false, ite_true, ite_false, Bool.not_true, Bool.not_false, Bool.false_eq_true, decide_eq_true_eq, decide_true, decide_false, Bool.and_true, Bool.true_and, Bool.or_true, Bool.true_or, Bool.and_false, Bool.false_and, Bool.or_false, Bool.false_or, reduceCtorEq, List.map_cons, List.map_nil, List.length_map, List.length_cons, List.length_nil, List.nil_append, List.cons_append, List.length_range, List.length_append, sz_filterR, Nat.reduceAdd, Int.cast_ofNat_Int, Int.reduceEq, Int.reduceLT, Int.reduceLE, b_law, h1, er, hf, last_ok, es]
end Wt.K57

namespace Wt.K57
open PySem PySem.W L2 BW Wt
def G : BW.GC := ⟨[("is_whole", 0, 3), ("ascends", 1, 1), ("_is_node", 2, 2), ("is_tree", 3, 1), ("check_tree", 4, 1), ("check_buffer", 5, 1), ("leaves_of", 6, 1), ("_loads", 7, 3), ("delays_of", 8, 3), ("delays", 10, 1), ("worst_of", 11, 2), ("delays_with", 13, 3), ("options", 14, 2), ("best_buffers", 15, 2), ("_law_draws", 16, 2), ("_law_tree", 17, 2), ("_law_above", 18, 2), ("_law_below", 19, 2), ("_law_load", 23, 4), ("_law_delay", 24, 4), ("_law_buffer", 25, 1), ("_law_error", 26, 4), ("law", 27, 1)], [("MOST_NODES", (.int 9)), ("MOST_VALUE", (.int 1000))], ["BoardError", "BadTree", "BadBuffer", "BadNodes"]⟩
def st (j : Nat) : Stmt := PySem.Challenge.pw_boardwright_k57_buffers_put_in.main.body.getD j (.Pass ⟨0, 0, 0, 0⟩)
theorem ck0 : ckSs (ckS G d_is_whole.N (defScope (st 7)) 40 20) (defBody (st 7)) d_is_whole.body = true := by decide +kernel
theorem sc0 : scB d_is_whole.N d_is_whole.ps (defScope (st 7)) = true := by decide +kernel
theorem ck1 : ckSs (ckS G d_ascends.N (defScope (st 8)) 40 20) (defBody (st 8)) d_ascends.body = true := by decide +kernel
theorem sc1 : scB d_ascends.N d_ascends.ps (defScope (st 8)) = true := by decide +kernel
theorem ck2 : ckSs (ckS G d_is_node.N (defScope (st 12)) 40 20) (defBody (st 12)) d_is_node.body = true := by decide +kernel
theorem sc2 : scB d_is_node.N d_is_node.ps (defScope (st 12)) = true := by decide +kernel
theorem ck3 : ckSs (ckS G d_is_tree.N (defScope (st 13)) 40 20) (defBody (st 13)) d_is_tree.body = true := by decide +kernel
theorem sc3 : scB d_is_tree.N d_is_tree.ps (defScope (st 13)) = true := by decide +kernel
theorem ck4 : ckSs (ckS G d_check_tree.N (defScope (st 14)) 40 20) (defBody (st 14)) d_check_tree.body = true := by decide +kernel
theorem sc4 : scB d_check_tree.N d_check_tree.ps (defScope (st 14)) = true := by decide +kernel
theorem ck5 : ckSs (ckS G d_check_buffer.N (defScope (st 15)) 40 20) (defBody (st 15)) d_check_buffer.body = true := by decide +kernel
theorem sc5 : scB d_check_buffer.N d_check_buffer.ps (defScope (st 15)) = true := by decide +kernel
theorem ck6 : ckSs (ckS G d_leaves_of.N (defScope (st 16)) 40 20) (defBody (st 16)) d_leaves_of.body = true := by decide +kernel
theorem sc6 : scB d_leaves_of.N d_leaves_of.ps (defScope (st 16)) = true := by decide +kernel
theorem ck7 : ckSs (ckS G d_loads.N (defScope (st 17)) 40 20) (defBody (st 17)) d_loads.body = true := by decide +kernel
theorem sc7 : scB d_loads.N d_loads.ps (defScope (st 17)) = true := by decide +kernel
theorem ck8 : ckSs (ckS G d_delays_of.N (defScope (st 18)) 40 20) (defBody (st 18)) d_delays_of.body = true := by decide +kernel
theorem sc8 : scB d_delays_of.N d_delays_of.ps (defScope (st 18)) = true := by decide +kernel
theorem ck9 : ckSs (ckS G d_delays.N (defScope (st 19)) 40 20) (defBody (st 19)) d_delays.body = true := by decide +kernel
theorem sc9 : scB d_delays.N d_delays.ps (defScope (st 19)) = true := by decide +kernel
theorem ck10 : ckSs (ckS G d_worst_of.N (defScope (st 20)) 40 20) (defBody (st 20)) d_worst_of.body = true := by decide +kernel
theorem sc10 : scB d_worst_of.N d_worst_of.ps (defScope (st 20)) = true := by decide +kernel
theorem ck11 : ckSs (ckS G d_delays_with.N (defScope (st 21)) 40 20) (defBody (st 21)) d_delays_with.body = true := by decide +kernel
theorem sc11 : scB d_delays_with.N d_delays_with.ps (defScope (st 21)) = true := by decide +kernel
theorem ck12 : ckSs (ckS G d_options.N (defScope (st 25)) 40 20) (defBody (st 25)) d_options.body = true := by decide +kernel
theorem sc12 : scB d_options.N d_options.ps (defScope (st 25)) = true := by decide +kernel
theorem ck13 : ckSs (ckS G d_best_buffers.N (defScope (st 26)) 40 20) (defBody (st 26)) d_best_buffers.body = true := by decide +kernel
theorem sc13 : scB d_best_buffers.N d_best_buffers.ps (defScope (st 26)) = true := by decide +kernel
theorem ck14 : ckSs (ckS G d_law_draws.N (defScope (st 28)) 40 20) (defBody (st 28)) d_law_draws.body = true := by decide +kernel
theorem sc14 : scB d_law_draws.N d_law_draws.ps (defScope (st 28)) = true := by decide +kernel
theorem ck15 : ckSs (ckS G d_law_tree.N (defScope (st 29)) 40 20) (defBody (st 29)) d_law_tree.body = true := by decide +kernel
theorem sc15 : scB d_law_tree.N d_law_tree.ps (defScope (st 29)) = true := by decide +kernel
theorem ck16 : ckSs (ckS G d_law_above.N (defScope (st 30)) 40 20) (defBody (st 30)) d_law_above.body = true := by decide +kernel
theorem sc16 : scB d_law_above.N d_law_above.ps (defScope (st 30)) = true := by decide +kernel
theorem ck17 : ckSs (ckS G d_law_below.N (defScope (st 31)) 40 20) (defBody (st 31)) d_law_below.body = true := by decide +kernel
theorem sc17 : scB d_law_below.N d_law_below.ps (defScope (st 31)) = true := by decide +kernel
theorem ck18 : ckSs (ckS G d_law_load.N (defScope (st 33)) 40 20) (defBody (st 33)) d_law_load.body = true := by decide +kernel
theorem sc18 : scB d_law_load.N d_law_load.ps (defScope (st 33)) = true := by decide +kernel
theorem ck19 : ckSs (ckS G d_law_delay.N (defScope (st 34)) 40 20) (defBody (st 34)) d_law_delay.body = true := by decide +kernel
theorem sc19 : scB d_law_delay.N d_law_delay.ps (defScope (st 34)) = true := by decide +kernel
theorem ck20 : ckSs (ckS G d_law_buffer.N (defScope (st 35)) 40 20) (defBody (st 35)) d_law_buffer.body = true := by decide +kernel
theorem sc20 : scB d_law_buffer.N d_law_buffer.ps (defScope (st 35)) = true := by decide +kernel
theorem ck21 : ckSs (ckS G d_law_error.N (defScope (st 37)) 40 20) (defBody (st 37)) d_law_error.body = true := by decide +kernel
theorem sc21 : scB d_law_error.N d_law_error.ps (defScope (st 37)) = true := by decide +kernel
theorem ck22 : ckSs (ckS G d_law.N (defScope (st 38)) 40 20) (defBody (st 38)) d_law.body = true := by decide +kernel
theorem sc22 : scB d_law.N d_law.ps (defScope (st 38)) = true := by decide +kernel
def cls (l : List (Str × Addr)) (c : Str) : Value := match l.lookup c with | some a => .ref a | none => .none
theorem all_mk {w : World} {K : PySem.W.Frag} {h : Heap} {mg : Str → Option Value} {fa f0 f1 f2 f3 f4 f5 f6 f7 f8 f9 f10 f11 f12 f13 f14 f15 f16 f17 f18 f19 f20 f21 f22 C_BoardError C_BadTree C_BadBuffer C_BadNodes : Addr}
    {od0 an0 od1 an1 od2 an2 od3 an3 od4 an4 od5 an5 od6 an6 od7 an7 od8 an8 od9 an9 od10 an10 od11 an11 od12 an12 od13 an13 od14 an14 od15 an15 od16 an16 od17 an17 od18 an18 od19 an19 od20 an20 od21 an21 od22 an22  : Option Addr} {sl0 sl1 sl2 sl3 sl4 sl5 sl6 sl7 sl8 sl9 sl10 sl11 sl12 sl13 sl14 sl15 sl16 sl17 sl18 sl19 sl20 sl21 sl22  : Array (Option Value)} {oc0 kV0 dc0 pm0 cd0 ct0 oc1 kV1 dc1 pm1 cd1 ct1 oc2 kV2 dc2 pm2 cd2 ct2 oc3 kV3 dc3 pm3 cd3 ct3 oc4 kV4 dc4 pm4 cd4 ct4 oc5 kV5 dc5 pm5 cd5 ct5 oc6 kV6 dc6 pm6 cd6 ct6 oc7 kV7 dc7 pm7 cd7 ct7 oc8 kV8 dc8 pm8 cd8 ct8 oc9 kV9 dc9 pm9 cd9 ct9 oc10 kV10 dc10 pm10 cd10 ct10 oc11 kV11 dc11 pm11 cd11 ct11 oc12 kV12 dc12 pm12 cd12 ct12 oc13 kV13 dc13 pm13 cd13 ct13 oc14 kV14 dc14 pm14 cd14 ct14 oc15 kV15 dc15 pm15 cd15 ct15 oc16 kV16 dc16 pm16 cd16 ct16 oc17 kV17 dc17 pm17 cd17 ct17 oc18 kV18 dc18 pm18 cd18 ct18 oc19 kV19 dc19 pm19 cd19 ct19 oc20 kV20 dc20 pm20 cd20 ct20 oc21 kV21 dc21 pm21 cd21 ct21 oc22 kV22 dc22 pm22 cd22 ct22 : Value}
    {k_MOST_NODES k_MOST_VALUE : Value} (X : K.In h) (G0 : h.Ns mainGlobals mg) (hfa : mg "law" = some (.ref fa))
    (a0 : PySem.W.nsIn K mainGlobals "is_whole" = some (some (.ref f0)))
    (l0 : K.lookup f0 = some ⟨oc0, od0, .func (PySem.W.fnOf "is_whole" "is_whole" (defArgs (st 7)) (defBody (st 7)) (defScope (st 7)) .none kV0 dc0 pm0 an0 cd0 ct0), sl0⟩)
    (c0 : PySem.W.codeIn K cd0 "is_whole" = true)
    (k0 : PySem.W.keepIn K (.ref f0) = true)
    (a1 : PySem.W.nsIn K mainGlobals "ascends" = some (some (.ref f1)))
    (l1 : K.lookup f1 = some ⟨oc1, od1, .func (PySem.W.fnOf "ascends" "ascends" (defArgs (st 8)) (defBody (st 8)) (defScope (st 8)) .none kV1 dc1 pm1 an1 cd1 ct1), sl1⟩)
    (c1 : PySem.W.codeIn K cd1 "ascends" = true)
    (k1 : PySem.W.keepIn K (.ref f1) = true)
    (a2 : PySem.W.nsIn K mainGlobals "_is_node" = some (some (.ref f2)))
    (l2 : K.lookup f2 = some ⟨oc2, od2, .func (PySem.W.fnOf "_is_node" "_is_node" (defArgs (st 12)) (defBody (st 12)) (defScope (st 12)) .none kV2 dc2 pm2 an2 cd2 ct2), sl2⟩)
    (c2 : PySem.W.codeIn K cd2 "_is_node" = true)
    (k2 : PySem.W.keepIn K (.ref f2) = true)
    (a3 : PySem.W.nsIn K mainGlobals "is_tree" = some (some (.ref f3)))
    (l3 : K.lookup f3 = some ⟨oc3, od3, .func (PySem.W.fnOf "is_tree" "is_tree" (defArgs (st 13)) (defBody (st 13)) (defScope (st 13)) .none kV3 dc3 pm3 an3 cd3 ct3), sl3⟩)
    (c3 : PySem.W.codeIn K cd3 "is_tree" = true)
    (k3 : PySem.W.keepIn K (.ref f3) = true)
    (a4 : PySem.W.nsIn K mainGlobals "check_tree" = some (some (.ref f4)))
    (l4 : K.lookup f4 = some ⟨oc4, od4, .func (PySem.W.fnOf "check_tree" "check_tree" (defArgs (st 14)) (defBody (st 14)) (defScope (st 14)) .none kV4 dc4 pm4 an4 cd4 ct4), sl4⟩)
    (c4 : PySem.W.codeIn K cd4 "check_tree" = true)
    (k4 : PySem.W.keepIn K (.ref f4) = true)
    (a5 : PySem.W.nsIn K mainGlobals "check_buffer" = some (some (.ref f5)))
    (l5 : K.lookup f5 = some ⟨oc5, od5, .func (PySem.W.fnOf "check_buffer" "check_buffer" (defArgs (st 15)) (defBody (st 15)) (defScope (st 15)) .none kV5 dc5 pm5 an5 cd5 ct5), sl5⟩)
    (c5 : PySem.W.codeIn K cd5 "check_buffer" = true)
    (k5 : PySem.W.keepIn K (.ref f5) = true)
    (a6 : PySem.W.nsIn K mainGlobals "leaves_of" = some (some (.ref f6)))
    (l6 : K.lookup f6 = some ⟨oc6, od6, .func (PySem.W.fnOf "leaves_of" "leaves_of" (defArgs (st 16)) (defBody (st 16)) (defScope (st 16)) .none kV6 dc6 pm6 an6 cd6 ct6), sl6⟩)
    (c6 : PySem.W.codeIn K cd6 "leaves_of" = true)
    (k6 : PySem.W.keepIn K (.ref f6) = true)
    (a7 : PySem.W.nsIn K mainGlobals "_loads" = some (some (.ref f7)))
    (l7 : K.lookup f7 = some ⟨oc7, od7, .func (PySem.W.fnOf "_loads" "_loads" (defArgs (st 17)) (defBody (st 17)) (defScope (st 17)) .none kV7 dc7 pm7 an7 cd7 ct7), sl7⟩)
    (c7 : PySem.W.codeIn K cd7 "_loads" = true)
    (k7 : PySem.W.keepIn K (.ref f7) = true)
    (a8 : PySem.W.nsIn K mainGlobals "delays_of" = some (some (.ref f8)))
    (l8 : K.lookup f8 = some ⟨oc8, od8, .func (PySem.W.fnOf "delays_of" "delays_of" (defArgs (st 18)) (defBody (st 18)) (defScope (st 18)) .none kV8 dc8 pm8 an8 cd8 ct8), sl8⟩)
    (c8 : PySem.W.codeIn K cd8 "delays_of" = true)
    (k8 : PySem.W.keepIn K (.ref f8) = true)
    (a9 : PySem.W.nsIn K mainGlobals "delays" = some (some (.ref f9)))
    (l9 : K.lookup f9 = some ⟨oc9, od9, .func (PySem.W.fnOf "delays" "delays" (defArgs (st 19)) (defBody (st 19)) (defScope (st 19)) .none kV9 dc9 pm9 an9 cd9 ct9), sl9⟩)
    (c9 : PySem.W.codeIn K cd9 "delays" = true)
    (k9 : PySem.W.keepIn K (.ref f9) = true)
    (a10 : PySem.W.nsIn K mainGlobals "worst_of" = some (some (.ref f10)))
    (l10 : K.lookup f10 = some ⟨oc10, od10, .func (PySem.W.fnOf "worst_of" "worst_of" (defArgs (st 20)) (defBody (st 20)) (defScope (st 20)) .none kV10 dc10 pm10 an10 cd10 ct10), sl10⟩)
    (c10 : PySem.W.codeIn K cd10 "worst_of" = true)
    (k10 : PySem.W.keepIn K (.ref f10) = true)
    (a11 : PySem.W.nsIn K mainGlobals "delays_with" = some (some (.ref f11)))
    (l11 : K.lookup f11 = some ⟨oc11, od11, .func (PySem.W.fnOf "delays_with" "delays_with" (defArgs (st 21)) (defBody (st 21)) (defScope (st 21)) .none kV11 dc11 pm11 an11 cd11 ct11), sl11⟩)
    (c11 : PySem.W.codeIn K cd11 "delays_with" = true)
    (k11 : PySem.W.keepIn K (.ref f11) = true)
    (a12 : PySem.W.nsIn K mainGlobals "options" = some (some (.ref f12)))
    (l12 : K.lookup f12 = some ⟨oc12, od12, .func (PySem.W.fnOf "options" "options" (defArgs (st 25)) (defBody (st 25)) (defScope (st 25)) .none kV12 dc12 pm12 an12 cd12 ct12), sl12⟩)
    (c12 : PySem.W.codeIn K cd12 "options" = true)
    (k12 : PySem.W.keepIn K (.ref f12) = true)
    (a13 : PySem.W.nsIn K mainGlobals "best_buffers" = some (some (.ref f13)))
    (l13 : K.lookup f13 = some ⟨oc13, od13, .func (PySem.W.fnOf "best_buffers" "best_buffers" (defArgs (st 26)) (defBody (st 26)) (defScope (st 26)) .none kV13 dc13 pm13 an13 cd13 ct13), sl13⟩)
    (c13 : PySem.W.codeIn K cd13 "best_buffers" = true)
    (k13 : PySem.W.keepIn K (.ref f13) = true)
    (a14 : PySem.W.nsIn K mainGlobals "_law_draws" = some (some (.ref f14)))
    (l14 : K.lookup f14 = some ⟨oc14, od14, .func (PySem.W.fnOf "_law_draws" "_law_draws" (defArgs (st 28)) (defBody (st 28)) (defScope (st 28)) .none kV14 dc14 pm14 an14 cd14 ct14), sl14⟩)
    (c14 : PySem.W.codeIn K cd14 "_law_draws" = true)
    (k14 : PySem.W.keepIn K (.ref f14) = true)
    (a15 : PySem.W.nsIn K mainGlobals "_law_tree" = some (some (.ref f15)))
    (l15 : K.lookup f15 = some ⟨oc15, od15, .func (PySem.W.fnOf "_law_tree" "_law_tree" (defArgs (st 29)) (defBody (st 29)) (defScope (st 29)) .none kV15 dc15 pm15 an15 cd15 ct15), sl15⟩)
    (c15 : PySem.W.codeIn K cd15 "_law_tree" = true)
    (k15 : PySem.W.keepIn K (.ref f15) = true)
    (a16 : PySem.W.nsIn K mainGlobals "_law_above" = some (some (.ref f16)))
    (l16 : K.lookup f16 = some ⟨oc16, od16, .func (PySem.W.fnOf "_law_above" "_law_above" (defArgs (st 30)) (defBody (st 30)) (defScope (st 30)) .none kV16 dc16 pm16 an16 cd16 ct16), sl16⟩)
    (c16 : PySem.W.codeIn K cd16 "_law_above" = true)
    (k16 : PySem.W.keepIn K (.ref f16) = true)
    (a17 : PySem.W.nsIn K mainGlobals "_law_below" = some (some (.ref f17)))
    (l17 : K.lookup f17 = some ⟨oc17, od17, .func (PySem.W.fnOf "_law_below" "_law_below" (defArgs (st 31)) (defBody (st 31)) (defScope (st 31)) .none kV17 dc17 pm17 an17 cd17 ct17), sl17⟩)
    (c17 : PySem.W.codeIn K cd17 "_law_below" = true)
    (k17 : PySem.W.keepIn K (.ref f17) = true)
    (a18 : PySem.W.nsIn K mainGlobals "_law_load" = some (some (.ref f18)))
    (l18 : K.lookup f18 = some ⟨oc18, od18, .func (PySem.W.fnOf "_law_load" "_law_load" (defArgs (st 33)) (defBody (st 33)) (defScope (st 33)) .none kV18 dc18 pm18 an18 cd18 ct18), sl18⟩)
    (c18 : PySem.W.codeIn K cd18 "_law_load" = true)
    (k18 : PySem.W.keepIn K (.ref f18) = true)
    (a19 : PySem.W.nsIn K mainGlobals "_law_delay" = some (some (.ref f19)))
    (l19 : K.lookup f19 = some ⟨oc19, od19, .func (PySem.W.fnOf "_law_delay" "_law_delay" (defArgs (st 34)) (defBody (st 34)) (defScope (st 34)) .none kV19 dc19 pm19 an19 cd19 ct19), sl19⟩)
    (c19 : PySem.W.codeIn K cd19 "_law_delay" = true)
    (k19 : PySem.W.keepIn K (.ref f19) = true)
    (a20 : PySem.W.nsIn K mainGlobals "_law_buffer" = some (some (.ref f20)))
    (l20 : K.lookup f20 = some ⟨oc20, od20, .func (PySem.W.fnOf "_law_buffer" "_law_buffer" (defArgs (st 35)) (defBody (st 35)) (defScope (st 35)) .none kV20 dc20 pm20 an20 cd20 ct20), sl20⟩)
    (c20 : PySem.W.codeIn K cd20 "_law_buffer" = true)
    (k20 : PySem.W.keepIn K (.ref f20) = true)
    (a21 : PySem.W.nsIn K mainGlobals "_law_error" = some (some (.ref f21)))
    (l21 : K.lookup f21 = some ⟨oc21, od21, .func (PySem.W.fnOf "_law_error" "_law_error" (defArgs (st 37)) (defBody (st 37)) (defScope (st 37)) .none kV21 dc21 pm21 an21 cd21 ct21), sl21⟩)
    (c21 : PySem.W.codeIn K cd21 "_law_error" = true)
    (k21 : PySem.W.keepIn K (.ref f21) = true)
    (a22 : PySem.W.nsIn K mainGlobals "law" = some (some (.ref f22)))
    (l22 : K.lookup f22 = some ⟨oc22, od22, .func (PySem.W.fnOf "law" "law" (defArgs (st 38)) (defBody (st 38)) (defScope (st 38)) .none kV22 dc22 pm22 an22 cd22 ct22), sl22⟩)
    (c22 : PySem.W.codeIn K cd22 "law" = true)
    (k22 : PySem.W.keepIn K (.ref f22) = true)
    (n_MOST_NODES : PySem.W.nsIn K mainGlobals "MOST_NODES" = some (some k_MOST_NODES))
    (n_MOST_VALUE : PySem.W.nsIn K mainGlobals "MOST_VALUE" = some (some k_MOST_VALUE))
    (x_BoardError : PySem.W.nsIn K mainGlobals "BoardError" = some (some (.ref C_BoardError)))
    (q_BoardError : PySem.W.excIn K C_BoardError [.type "ValueError", .type "Exception", .type "BaseException", .type "object"] "ValueError.__new__" = true)
    (kp_BoardError : PySem.W.keepIn K (.ref C_BoardError) = true)
    (sb_BoardError : PySem.W.subIn K (.ref C_BoardError) (.type "BaseException") = some true)
    (ty_BoardError : PySem.W.typeIn K (.ref C_BoardError) = some (.type "type"))
    (ic_BoardError : PySem.W.isClsIn K C_BoardError = true)
    (eg_BoardError : PySem.W.findIn K (.ref C_BoardError) "__getattribute__" = some (some (.builtin "BaseException.__getattribute__")))
    (ek_BoardError : PySem.W.findIn K (.ref C_BoardError) "__getattr__" = some none)
    (ed_BoardError : PySem.W.hasDictIn K C_BoardError = true)
    (ea_BoardError : PySem.W.findIn K (.ref C_BoardError) "__class__" = some (some (.builtin "object.__class__")))
    (em_BoardError : PySem.W.mroIn K C_BoardError (.type "object") = some true)
    (x_BadTree : PySem.W.nsIn K mainGlobals "BadTree" = some (some (.ref C_BadTree)))
    (q_BadTree : PySem.W.excIn K C_BadTree [.type "ValueError", .type "Exception", .type "BaseException", .type "object"] "ValueError.__new__" = true)
    (kp_BadTree : PySem.W.keepIn K (.ref C_BadTree) = true)
    (sb_BadTree : PySem.W.subIn K (.ref C_BadTree) (.type "BaseException") = some true)
    (ty_BadTree : PySem.W.typeIn K (.ref C_BadTree) = some (.type "type"))
    (ic_BadTree : PySem.W.isClsIn K C_BadTree = true)
    (eg_BadTree : PySem.W.findIn K (.ref C_BadTree) "__getattribute__" = some (some (.builtin "BaseException.__getattribute__")))
    (ek_BadTree : PySem.W.findIn K (.ref C_BadTree) "__getattr__" = some none)
    (ed_BadTree : PySem.W.hasDictIn K C_BadTree = true)
    (ea_BadTree : PySem.W.findIn K (.ref C_BadTree) "__class__" = some (some (.builtin "object.__class__")))
    (em_BadTree : PySem.W.mroIn K C_BadTree (.type "object") = some true)
    (x_BadBuffer : PySem.W.nsIn K mainGlobals "BadBuffer" = some (some (.ref C_BadBuffer)))
    (q_BadBuffer : PySem.W.excIn K C_BadBuffer [.type "ValueError", .type "Exception", .type "BaseException", .type "object"] "ValueError.__new__" = true)
    (kp_BadBuffer : PySem.W.keepIn K (.ref C_BadBuffer) = true)
    (sb_BadBuffer : PySem.W.subIn K (.ref C_BadBuffer) (.type "BaseException") = some true)
    (ty_BadBuffer : PySem.W.typeIn K (.ref C_BadBuffer) = some (.type "type"))
    (ic_BadBuffer : PySem.W.isClsIn K C_BadBuffer = true)
    (eg_BadBuffer : PySem.W.findIn K (.ref C_BadBuffer) "__getattribute__" = some (some (.builtin "BaseException.__getattribute__")))
    (ek_BadBuffer : PySem.W.findIn K (.ref C_BadBuffer) "__getattr__" = some none)
    (ed_BadBuffer : PySem.W.hasDictIn K C_BadBuffer = true)
    (ea_BadBuffer : PySem.W.findIn K (.ref C_BadBuffer) "__class__" = some (some (.builtin "object.__class__")))
    (em_BadBuffer : PySem.W.mroIn K C_BadBuffer (.type "object") = some true)
    (x_BadNodes : PySem.W.nsIn K mainGlobals "BadNodes" = some (some (.ref C_BadNodes)))
    (q_BadNodes : PySem.W.excIn K C_BadNodes [.type "ValueError", .type "Exception", .type "BaseException", .type "object"] "ValueError.__new__" = true)
    (kp_BadNodes : PySem.W.keepIn K (.ref C_BadNodes) = true)
    (sb_BadNodes : PySem.W.subIn K (.ref C_BadNodes) (.type "BaseException") = some true)
    (ty_BadNodes : PySem.W.typeIn K (.ref C_BadNodes) = some (.type "type"))
    (ic_BadNodes : PySem.W.isClsIn K C_BadNodes = true)
    (eg_BadNodes : PySem.W.findIn K (.ref C_BadNodes) "__getattribute__" = some (some (.builtin "BaseException.__getattribute__")))
    (ek_BadNodes : PySem.W.findIn K (.ref C_BadNodes) "__getattr__" = some none)
    (ed_BadNodes : PySem.W.hasDictIn K C_BadNodes = true)
    (ea_BadNodes : PySem.W.findIn K (.ref C_BadNodes) "__class__" = some (some (.builtin "object.__class__")))
    (em_BadNodes : PySem.W.mroIn K C_BadNodes (.type "object") = some true)
    (en : PySem.W.specialIn K (.builtin "object.__class__") "__get__" = some (some (.builtin "getset_descriptor.__get__")))
    (et : PySem.W.takesIn K (.builtin "object.__class__") = some true)
    (s_BoardError_BoardError : PySem.W.subIn K (.ref C_BoardError) (.ref C_BoardError) = some true)
    (s_BoardError_BadTree : PySem.W.subIn K (.ref C_BoardError) (.ref C_BadTree) = some false)
    (s_BoardError_BadBuffer : PySem.W.subIn K (.ref C_BoardError) (.ref C_BadBuffer) = some false)
    (s_BoardError_BadNodes : PySem.W.subIn K (.ref C_BoardError) (.ref C_BadNodes) = some false)
    (s_BadTree_BoardError : PySem.W.subIn K (.ref C_BadTree) (.ref C_BoardError) = some true)
    (s_BadTree_BadTree : PySem.W.subIn K (.ref C_BadTree) (.ref C_BadTree) = some true)
    (s_BadTree_BadBuffer : PySem.W.subIn K (.ref C_BadTree) (.ref C_BadBuffer) = some false)
    (s_BadTree_BadNodes : PySem.W.subIn K (.ref C_BadTree) (.ref C_BadNodes) = some false)
    (s_BadBuffer_BoardError : PySem.W.subIn K (.ref C_BadBuffer) (.ref C_BoardError) = some true)
    (s_BadBuffer_BadTree : PySem.W.subIn K (.ref C_BadBuffer) (.ref C_BadTree) = some false)
    (s_BadBuffer_BadBuffer : PySem.W.subIn K (.ref C_BadBuffer) (.ref C_BadBuffer) = some true)
    (s_BadBuffer_BadNodes : PySem.W.subIn K (.ref C_BadBuffer) (.ref C_BadNodes) = some false)
    (s_BadNodes_BoardError : PySem.W.subIn K (.ref C_BadNodes) (.ref C_BoardError) = some true)
    (s_BadNodes_BadTree : PySem.W.subIn K (.ref C_BadNodes) (.ref C_BadTree) = some false)
    (s_BadNodes_BadBuffer : PySem.W.subIn K (.ref C_BadNodes) (.ref C_BadBuffer) = some false)
    (s_BadNodes_BadNodes : PySem.W.subIn K (.ref C_BadNodes) (.ref C_BadNodes) = some true)
    (b_len : PySem.W.nsIn K mainGlobals "len" = some none)
    (b_abs : PySem.W.nsIn K mainGlobals "abs" = some none)
    (b_int : PySem.W.nsIn K mainGlobals "int" = some none)
    (b_tuple : PySem.W.nsIn K mainGlobals "tuple" = some none)
    (b_list : PySem.W.nsIn K mainGlobals "list" = some none)
    (b_sorted : PySem.W.nsIn K mainGlobals "sorted" = some none)
    (b_sum : PySem.W.nsIn K mainGlobals "sum" = some none)
    (b_min : PySem.W.nsIn K mainGlobals "min" = some none)
    (b_max : PySem.W.nsIn K mainGlobals "max" = some none)
    (b_all : PySem.W.nsIn K mainGlobals "all" = some none)
    (b_any : PySem.W.nsIn K mainGlobals "any" = some none)
    (b_isinstance : PySem.W.nsIn K mainGlobals "isinstance" = some none)
    (b_range : PySem.W.nsIn K mainGlobals "range" = some none)
    (b_enumerate : PySem.W.nsIn K mainGlobals "enumerate" = some none)
    (b_zip : PySem.W.nsIn K mainGlobals "zip" = some none)
    (b_bool : PySem.W.nsIn K mainGlobals "bool" = some none)
    (b_str : PySem.W.nsIn K mainGlobals "str" = some none)
    (b_dict : PySem.W.nsIn K mainGlobals "dict" = some none)
    (b_set : PySem.W.nsIn K mainGlobals "set" = some none)
    (v_MOST_NODES : ∃ v, RelV v k_MOST_NODES ∧ scalV (.int 9) = some v) (v_MOST_VALUE : ∃ v, RelV v k_MOST_VALUE ∧ scalV (.int 1000) = some v) :
    ∃ fd : FuncData, (∀ (s : Shared) (u : Value), BindsTo s fd ⟨[u], []⟩ [("script", u)]) ∧ ∀ base : Heap, K.In base → base.Ns mainGlobals mg → FnOk PySem.Challenge.rw_boardwright_k57_buffers_put_in.prog w K mg base (L2.CX PySem.Challenge.rw_boardwright_k57_buffers_put_in.prog w) 20 fa fd ["script"] (spL (EE MM 20 i_law) K) := by
  have e := hfa.symm.trans (PySem.W.mg_of X G0 a22)
  cases e
  have D0 : DefOk K G 40 20 d_is_whole f0 _ := def_mk (st := st 7) (d := d_is_whole) l0 c0 k0 (fun us hl => match us, hl with | [_, _, _], _ => rfl) sc0 ck0
  have D1 : DefOk K G 40 20 d_ascends f1 _ := def_mk (st := st 8) (d := d_ascends) l1 c1 k1 (fun us hl => match us, hl with | [_], _ => rfl) sc1 ck1
  have D2 : DefOk K G 40 20 d_is_node f2 _ := def_mk (st := st 12) (d := d_is_node) l2 c2 k2 (fun us hl => match us, hl with | [_, _], _ => rfl) sc2 ck2
  have D3 : DefOk K G 40 20 d_is_tree f3 _ := def_mk (st := st 13) (d := d_is_tree) l3 c3 k3 (fun us hl => match us, hl with | [_], _ => rfl) sc3 ck3
  have D4 : DefOk K G 40 20 d_check_tree f4 _ := def_mk (st := st 14) (d := d_check_tree) l4 c4 k4 (fun us hl => match us, hl with | [_], _ => rfl) sc4 ck4
  have D5 : DefOk K G 40 20 d_check_buffer f5 _ := def_mk (st := st 15) (d := d_check_buffer) l5 c5 k5 (fun us hl => match us, hl with | [_], _ => rfl) sc5 ck5
  have D6 : DefOk K G 40 20 d_leaves_of f6 _ := def_mk (st := st 16) (d := d_leaves_of) l6 c6 k6 (fun us hl => match us, hl with | [_], _ => rfl) sc6 ck6
  have D7 : DefOk K G 40 20 d_loads f7 _ := def_mk (st := st 17) (d := d_loads) l7 c7 k7 (fun us hl => match us, hl with | [_, _, _], _ => rfl) sc7 ck7
  have D8 : DefOk K G 40 20 d_delays_of f8 _ := def_mk (st := st 18) (d := d_delays_of) l8 c8 k8 (fun us hl => match us, hl with | [_, _, _], _ => rfl) sc8 ck8
  have D9 : DefOk K G 40 20 d_delays f9 _ := def_mk (st := st 19) (d := d_delays) l9 c9 k9 (fun us hl => match us, hl with | [_], _ => rfl) sc9 ck9
  have D10 : DefOk K G 40 20 d_worst_of f10 _ := def_mk (st := st 20) (d := d_worst_of) l10 c10 k10 (fun us hl => match us, hl with | [_, _], _ => rfl) sc10 ck10
  have D11 : DefOk K G 40 20 d_delays_with f11 _ := def_mk (st := st 21) (d := d_delays_with) l11 c11 k11 (fun us hl => match us, hl with | [_, _, _], _ => rfl) sc11 ck11
  have D12 : DefOk K G 40 20 d_options f12 _ := def_mk (st := st 25) (d := d_options) l12 c12 k12 (fun us hl => match us, hl with | [_, _], _ => rfl) sc12 ck12
  have D13 : DefOk K G 40 20 d_best_buffers f13 _ := def_mk (st := st 26) (d := d_best_buffers) l13 c13 k13 (fun us hl => match us, hl with | [_, _], _ => rfl) sc13 ck13
  have D14 : DefOk K G 40 20 d_law_draws f14 _ := def_mk (st := st 28) (d := d_law_draws) l14 c14 k14 (fun us hl => match us, hl with | [_, _], _ => rfl) sc14 ck14
  have D15 : DefOk K G 40 20 d_law_tree f15 _ := def_mk (st := st 29) (d := d_law_tree) l15 c15 k15 (fun us hl => match us, hl with | [_, _], _ => rfl) sc15 ck15
  have D16 : DefOk K G 40 20 d_law_above f16 _ := def_mk (st := st 30) (d := d_law_above) l16 c16 k16 (fun us hl => match us, hl with | [_, _], _ => rfl) sc16 ck16
  have D17 : DefOk K G 40 20 d_law_below f17 _ := def_mk (st := st 31) (d := d_law_below) l17 c17 k17 (fun us hl => match us, hl with | [_, _], _ => rfl) sc17 ck17
  have D18 : DefOk K G 40 20 d_law_load f18 _ := def_mk (st := st 33) (d := d_law_load) l18 c18 k18 (fun us hl => match us, hl with | [_, _, _, _], _ => rfl) sc18 ck18
  have D19 : DefOk K G 40 20 d_law_delay f19 _ := def_mk (st := st 34) (d := d_law_delay) l19 c19 k19 (fun us hl => match us, hl with | [_, _, _, _], _ => rfl) sc19 ck19
  have D20 : DefOk K G 40 20 d_law_buffer f20 _ := def_mk (st := st 35) (d := d_law_buffer) l20 c20 k20 (fun us hl => match us, hl with | [_], _ => rfl) sc20 ck20
  have D21 : DefOk K G 40 20 d_law_error f21 _ := def_mk (st := st 37) (d := d_law_error) l21 c21 k21 (fun us hl => match us, hl with | [_, _, _, _], _ => rfl) sc21 ck21
  have D22 : DefOk K G 40 20 d_law fa _ := def_mk (st := st 38) (d := d_law) l22 c22 k22 (fun us hl => match us, hl with | [_], _ => rfl) sc22 ck22
  have M0 : ModOk K mg G (cls [("BoardError", C_BoardError), ("BadTree", C_BadTree), ("BadBuffer", C_BadBuffer), ("BadNodes", C_BadNodes)]) sub 40 20 (T ++ MM.R) := by
    refine ⟨fun e he => ?_, fun x hx => ?_, fun e he => ?_, fun c x b hb => ?_, fun x hx => ?_⟩
    · simp only [G, List.mem_cons, List.not_mem_nil, or_false] at he
      rcases he with rfl | rfl | rfl | rfl | rfl | rfl | rfl | rfl | rfl | rfl | rfl | rfl | rfl | rfl | rfl | rfl | rfl | rfl | rfl | rfl | rfl | rfl | rfl
      · exact ⟨d_is_whole, f0, _, rfl, D0, PySem.W.mg_of X G0 a0, rfl⟩
      · exact ⟨d_ascends, f1, _, rfl, D1, PySem.W.mg_of X G0 a1, rfl⟩
      · exact ⟨d_is_node, f2, _, rfl, D2, PySem.W.mg_of X G0 a2, rfl⟩
      · exact ⟨d_is_tree, f3, _, rfl, D3, PySem.W.mg_of X G0 a3, rfl⟩
      · exact ⟨d_check_tree, f4, _, rfl, D4, PySem.W.mg_of X G0 a4, rfl⟩
      · exact ⟨d_check_buffer, f5, _, rfl, D5, PySem.W.mg_of X G0 a5, rfl⟩
      · exact ⟨d_leaves_of, f6, _, rfl, D6, PySem.W.mg_of X G0 a6, rfl⟩
      · exact ⟨d_loads, f7, _, rfl, D7, PySem.W.mg_of X G0 a7, rfl⟩
      · exact ⟨d_delays_of, f8, _, rfl, D8, PySem.W.mg_of X G0 a8, rfl⟩
      · exact ⟨d_delays, f9, _, rfl, D9, PySem.W.mg_of X G0 a9, rfl⟩
      · exact ⟨d_worst_of, f10, _, rfl, D10, PySem.W.mg_of X G0 a10, rfl⟩
      · exact ⟨d_delays_with, f11, _, rfl, D11, PySem.W.mg_of X G0 a11, rfl⟩
      · exact ⟨d_options, f12, _, rfl, D12, PySem.W.mg_of X G0 a12, rfl⟩
      · exact ⟨d_best_buffers, f13, _, rfl, D13, PySem.W.mg_of X G0 a13, rfl⟩
      · exact ⟨d_law_draws, f14, _, rfl, D14, PySem.W.mg_of X G0 a14, rfl⟩
      · exact ⟨d_law_tree, f15, _, rfl, D15, PySem.W.mg_of X G0 a15, rfl⟩
      · exact ⟨d_law_above, f16, _, rfl, D16, PySem.W.mg_of X G0 a16, rfl⟩
      · exact ⟨d_law_below, f17, _, rfl, D17, PySem.W.mg_of X G0 a17, rfl⟩
      · exact ⟨d_law_load, f18, _, rfl, D18, PySem.W.mg_of X G0 a18, rfl⟩
      · exact ⟨d_law_delay, f19, _, rfl, D19, PySem.W.mg_of X G0 a19, rfl⟩
      · exact ⟨d_law_buffer, f20, _, rfl, D20, PySem.W.mg_of X G0 a20, rfl⟩
      · exact ⟨d_law_error, f21, _, rfl, D21, PySem.W.mg_of X G0 a21, rfl⟩
      · exact ⟨d_law, fa, _, rfl, D22, PySem.W.mg_of X G0 a22, rfl⟩
    · simp only [biNames, List.mem_cons, List.not_mem_nil, or_false] at hx
      rcases hx with rfl | rfl | rfl | rfl | rfl | rfl | rfl | rfl | rfl | rfl | rfl | rfl | rfl | rfl | rfl | rfl | rfl | rfl | rfl
      · exact PySem.W.mg_none_of X G0 b_len
      · exact PySem.W.mg_none_of X G0 b_abs
      · exact PySem.W.mg_none_of X G0 b_int
      · exact PySem.W.mg_none_of X G0 b_tuple
      · exact PySem.W.mg_none_of X G0 b_list
      · exact PySem.W.mg_none_of X G0 b_sorted
      · exact PySem.W.mg_none_of X G0 b_sum
      · exact PySem.W.mg_none_of X G0 b_min
      · exact PySem.W.mg_none_of X G0 b_max
      · exact PySem.W.mg_none_of X G0 b_all
      · exact PySem.W.mg_none_of X G0 b_any
      · exact PySem.W.mg_none_of X G0 b_isinstance
      · exact PySem.W.mg_none_of X G0 b_range
      · exact PySem.W.mg_none_of X G0 b_enumerate
      · exact PySem.W.mg_none_of X G0 b_zip
      · exact PySem.W.mg_none_of X G0 b_bool
      · exact PySem.W.mg_none_of X G0 b_str
      · exact PySem.W.mg_none_of X G0 b_dict
      · exact PySem.W.mg_none_of X G0 b_set
    · simp only [G, List.mem_cons, List.not_mem_nil, or_false] at he
      rcases he with rfl | rfl
      · obtain ⟨v, h1, h2⟩ := v_MOST_NODES
        exact ⟨v, k_MOST_NODES, PySem.W.mg_of X G0 n_MOST_NODES, h1, fun _ => scalV_q h2⟩
      · obtain ⟨v, h1, h2⟩ := v_MOST_VALUE
        exact ⟨v, k_MOST_VALUE, PySem.W.mg_of X G0 n_MOST_VALUE, h1, fun _ => scalV_q h2⟩
    · unfold sub at hb
      by_cases e_BoardError : c = "BoardError"
      · rw [if_pos e_BoardError] at hb
        subst e_BoardError
        by_cases z_BoardError : x = "BoardError"
        · rw [if_pos z_BoardError] at hb
          cases hb
          subst z_BoardError
          obtain ⟨g1, g2⟩ := exm_by sb_BoardError ic_BoardError ty_BoardError s_BoardError_BoardError (fun _ => rfl)
          exact ⟨g1, g2, C_BoardError, rfl, ⟨eg_BoardError, ek_BoardError, sb_BoardError, ed_BoardError, ea_BoardError, en, et, em_BoardError⟩⟩
        rw [if_neg z_BoardError] at hb
        by_cases z_BadTree : x = "BadTree"
        · rw [if_pos z_BadTree] at hb
          cases hb
          subst z_BadTree
          obtain ⟨g1, g2⟩ := exm_by sb_BadTree ic_BadTree ty_BadTree s_BoardError_BadTree (fun z => by subst z; rw [s_BoardError_BoardError] at s_BoardError_BadTree; cases s_BoardError_BadTree)
          exact ⟨g1, g2, C_BoardError, rfl, ⟨eg_BoardError, ek_BoardError, sb_BoardError, ed_BoardError, ea_BoardError, en, et, em_BoardError⟩⟩
        rw [if_neg z_BadTree] at hb
        by_cases z_BadBuffer : x = "BadBuffer"
        · rw [if_pos z_BadBuffer] at hb
          cases hb
          subst z_BadBuffer
          obtain ⟨g1, g2⟩ := exm_by sb_BadBuffer ic_BadBuffer ty_BadBuffer s_BoardError_BadBuffer (fun z => by subst z; rw [s_BoardError_BoardError] at s_BoardError_BadBuffer; cases s_BoardError_BadBuffer)
          exact ⟨g1, g2, C_BoardError, rfl, ⟨eg_BoardError, ek_BoardError, sb_BoardError, ed_BoardError, ea_BoardError, en, et, em_BoardError⟩⟩
        rw [if_neg z_BadBuffer] at hb
        by_cases z_BadNodes : x = "BadNodes"
        · rw [if_pos z_BadNodes] at hb
          cases hb
          subst z_BadNodes
          obtain ⟨g1, g2⟩ := exm_by sb_BadNodes ic_BadNodes ty_BadNodes s_BoardError_BadNodes (fun z => by subst z; rw [s_BoardError_BoardError] at s_BoardError_BadNodes; cases s_BoardError_BadNodes)
          exact ⟨g1, g2, C_BoardError, rfl, ⟨eg_BoardError, ek_BoardError, sb_BoardError, ed_BoardError, ea_BoardError, en, et, em_BoardError⟩⟩
        rw [if_neg z_BadNodes] at hb
        cases hb
      rw [if_neg e_BoardError] at hb
      by_cases e_BadTree : c = "BadTree"
      · rw [if_pos e_BadTree] at hb
        subst e_BadTree
        by_cases z_BoardError : x = "BoardError"
        · rw [if_pos z_BoardError] at hb
          cases hb
          subst z_BoardError
          obtain ⟨g1, g2⟩ := exm_by sb_BoardError ic_BoardError ty_BoardError s_BadTree_BoardError (fun _ => rfl)
          exact ⟨g1, g2, C_BadTree, rfl, ⟨eg_BadTree, ek_BadTree, sb_BadTree, ed_BadTree, ea_BadTree, en, et, em_BadTree⟩⟩
        rw [if_neg z_BoardError] at hb
        by_cases z_BadTree : x = "BadTree"
        · rw [if_pos z_BadTree] at hb
          cases hb
          subst z_BadTree
          obtain ⟨g1, g2⟩ := exm_by sb_BadTree ic_BadTree ty_BadTree s_BadTree_BadTree (fun _ => rfl)
          exact ⟨g1, g2, C_BadTree, rfl, ⟨eg_BadTree, ek_BadTree, sb_BadTree, ed_BadTree, ea_BadTree, en, et, em_BadTree⟩⟩
        rw [if_neg z_BadTree] at hb
        by_cases z_BadBuffer : x = "BadBuffer"
        · rw [if_pos z_BadBuffer] at hb
          cases hb
          subst z_BadBuffer
          obtain ⟨g1, g2⟩ := exm_by sb_BadBuffer ic_BadBuffer ty_BadBuffer s_BadTree_BadBuffer (fun z => by subst z; rw [s_BadTree_BadTree] at s_BadTree_BadBuffer; cases s_BadTree_BadBuffer)
          exact ⟨g1, g2, C_BadTree, rfl, ⟨eg_BadTree, ek_BadTree, sb_BadTree, ed_BadTree, ea_BadTree, en, et, em_BadTree⟩⟩
        rw [if_neg z_BadBuffer] at hb
        by_cases z_BadNodes : x = "BadNodes"
        · rw [if_pos z_BadNodes] at hb
          cases hb
          subst z_BadNodes
          obtain ⟨g1, g2⟩ := exm_by sb_BadNodes ic_BadNodes ty_BadNodes s_BadTree_BadNodes (fun z => by subst z; rw [s_BadTree_BadTree] at s_BadTree_BadNodes; cases s_BadTree_BadNodes)
          exact ⟨g1, g2, C_BadTree, rfl, ⟨eg_BadTree, ek_BadTree, sb_BadTree, ed_BadTree, ea_BadTree, en, et, em_BadTree⟩⟩
        rw [if_neg z_BadNodes] at hb
        cases hb
      rw [if_neg e_BadTree] at hb
      by_cases e_BadBuffer : c = "BadBuffer"
      · rw [if_pos e_BadBuffer] at hb
        subst e_BadBuffer
        by_cases z_BoardError : x = "BoardError"
        · rw [if_pos z_BoardError] at hb
          cases hb
          subst z_BoardError
          obtain ⟨g1, g2⟩ := exm_by sb_BoardError ic_BoardError ty_BoardError s_BadBuffer_BoardError (fun _ => rfl)
          exact ⟨g1, g2, C_BadBuffer, rfl, ⟨eg_BadBuffer, ek_BadBuffer, sb_BadBuffer, ed_BadBuffer, ea_BadBuffer, en, et, em_BadBuffer⟩⟩
        rw [if_neg z_BoardError] at hb
        by_cases z_BadTree : x = "BadTree"
        · rw [if_pos z_BadTree] at hb
          cases hb
          subst z_BadTree
          obtain ⟨g1, g2⟩ := exm_by sb_BadTree ic_BadTree ty_BadTree s_BadBuffer_BadTree (fun z => by subst z; rw [s_BadBuffer_BadBuffer] at s_BadBuffer_BadTree; cases s_BadBuffer_BadTree)
          exact ⟨g1, g2, C_BadBuffer, rfl, ⟨eg_BadBuffer, ek_BadBuffer, sb_BadBuffer, ed_BadBuffer, ea_BadBuffer, en, et, em_BadBuffer⟩⟩
        rw [if_neg z_BadTree] at hb
        by_cases z_BadBuffer : x = "BadBuffer"
        · rw [if_pos z_BadBuffer] at hb
          cases hb
          subst z_BadBuffer
          obtain ⟨g1, g2⟩ := exm_by sb_BadBuffer ic_BadBuffer ty_BadBuffer s_BadBuffer_BadBuffer (fun _ => rfl)
          exact ⟨g1, g2, C_BadBuffer, rfl, ⟨eg_BadBuffer, ek_BadBuffer, sb_BadBuffer, ed_BadBuffer, ea_BadBuffer, en, et, em_BadBuffer⟩⟩
        rw [if_neg z_BadBuffer] at hb
        by_cases z_BadNodes : x = "BadNodes"
        · rw [if_pos z_BadNodes] at hb
          cases hb
          subst z_BadNodes
          obtain ⟨g1, g2⟩ := exm_by sb_BadNodes ic_BadNodes ty_BadNodes s_BadBuffer_BadNodes (fun z => by subst z; rw [s_BadBuffer_BadBuffer] at s_BadBuffer_BadNodes; cases s_BadBuffer_BadNodes)
          exact ⟨g1, g2, C_BadBuffer, rfl, ⟨eg_BadBuffer, ek_BadBuffer, sb_BadBuffer, ed_BadBuffer, ea_BadBuffer, en, et, em_BadBuffer⟩⟩
        rw [if_neg z_BadNodes] at hb
        cases hb
      rw [if_neg e_BadBuffer] at hb
      by_cases e_BadNodes : c = "BadNodes"
      · rw [if_pos e_BadNodes] at hb
        subst e_BadNodes
        by_cases z_BoardError : x = "BoardError"
        · rw [if_pos z_BoardError] at hb
          cases hb
          subst z_BoardError
          obtain ⟨g1, g2⟩ := exm_by sb_BoardError ic_BoardError ty_BoardError s_BadNodes_BoardError (fun _ => rfl)
          exact ⟨g1, g2, C_BadNodes, rfl, ⟨eg_BadNodes, ek_BadNodes, sb_BadNodes, ed_BadNodes, ea_BadNodes, en, et, em_BadNodes⟩⟩
        rw [if_neg z_BoardError] at hb
        by_cases z_BadTree : x = "BadTree"
        · rw [if_pos z_BadTree] at hb
          cases hb
          subst z_BadTree
          obtain ⟨g1, g2⟩ := exm_by sb_BadTree ic_BadTree ty_BadTree s_BadNodes_BadTree (fun z => by subst z; rw [s_BadNodes_BadNodes] at s_BadNodes_BadTree; cases s_BadNodes_BadTree)
          exact ⟨g1, g2, C_BadNodes, rfl, ⟨eg_BadNodes, ek_BadNodes, sb_BadNodes, ed_BadNodes, ea_BadNodes, en, et, em_BadNodes⟩⟩
        rw [if_neg z_BadTree] at hb
        by_cases z_BadBuffer : x = "BadBuffer"
        · rw [if_pos z_BadBuffer] at hb
          cases hb
          subst z_BadBuffer
          obtain ⟨g1, g2⟩ := exm_by sb_BadBuffer ic_BadBuffer ty_BadBuffer s_BadNodes_BadBuffer (fun z => by subst z; rw [s_BadNodes_BadNodes] at s_BadNodes_BadBuffer; cases s_BadNodes_BadBuffer)
          exact ⟨g1, g2, C_BadNodes, rfl, ⟨eg_BadNodes, ek_BadNodes, sb_BadNodes, ed_BadNodes, ea_BadNodes, en, et, em_BadNodes⟩⟩
        rw [if_neg z_BadBuffer] at hb
        by_cases z_BadNodes : x = "BadNodes"
        · rw [if_pos z_BadNodes] at hb
          cases hb
          subst z_BadNodes
          obtain ⟨g1, g2⟩ := exm_by sb_BadNodes ic_BadNodes ty_BadNodes s_BadNodes_BadNodes (fun _ => rfl)
          exact ⟨g1, g2, C_BadNodes, rfl, ⟨eg_BadNodes, ek_BadNodes, sb_BadNodes, ed_BadNodes, ea_BadNodes, en, et, em_BadNodes⟩⟩
        rw [if_neg z_BadNodes] at hb
        cases hb
      rw [if_neg e_BadNodes] at hb
      cases hb
    · simp only [G, List.mem_cons, List.not_mem_nil, or_false] at hx
      rcases hx with rfl | rfl | rfl | rfl
      · exact ⟨⟨C_BoardError, _, _, _, _, rfl, PySem.F.excBase_ValueError, q_BoardError, PySem.W.mg_of X G0 x_BoardError, kp_BoardError, sb_BoardError, ty_BoardError⟩⟩
      · exact ⟨⟨C_BadTree, _, _, _, _, rfl, PySem.F.excBase_ValueError, q_BadTree, PySem.W.mg_of X G0 x_BadTree, kp_BadTree, sb_BadTree, ty_BadTree⟩⟩
      · exact ⟨⟨C_BadBuffer, _, _, _, _, rfl, PySem.F.excBase_ValueError, q_BadBuffer, PySem.W.mg_of X G0 x_BadBuffer, kp_BadBuffer, sb_BadBuffer, ty_BadBuffer⟩⟩
      · exact ⟨⟨C_BadNodes, _, _, _, _, rfl, PySem.F.excBase_ValueError, q_BadNodes, PySem.W.mg_of X G0 x_BadNodes, kp_BadNodes, sb_BadNodes, ty_BadNodes⟩⟩
  exact ⟨_, fun s v => .of_eq rfl, fun base _ _ => spL_of rfl ((all_fn M0 20).1 i_law d_law fa _ rfl D22)⟩
end Wt.K57
open PySem PySem.W PyProof.Rows
set_option maxRecDepth 100000 in
set_option maxHeartbeats 0 in
theorem PySem.Challenge.cw_boardwright_k57_buffers_put_in_holds : PySem.Challenge.rw_boardwright_k57_buffers_put_in.Holds := by
  w_on; o_law; k_head; (case hw => w_witness2)
  k_fill
  refine BW.bw_walk (l := PySem.Challenge.rw_boardwright_k57_buffers_put_in) (x := "script") (k := 20) Wt.K57.the_law rfl rfl ⟨rfl, by decide, by decide⟩ (fun w h Y => PySem.W.kIn_of Y) ?F
  case F =>
    intro w mg fa h KX G0 hmg
    refine' Wt.K57.all_mk KX G0 hmg ?a0 ?l0 ?c0 ?k0 ?a1 ?l1 ?c1 ?k1 ?a2 ?l2 ?c2 ?k2 ?a3 ?l3 ?c3 ?k3 ?a4 ?l4 ?c4 ?k4 ?a5 ?l5 ?c5 ?k5 ?a6 ?l6 ?c6 ?k6 ?a7 ?l7 ?c7 ?k7 ?a8 ?l8 ?c8 ?k8 ?a9 ?l9 ?c9 ?k9 ?a10 ?l10 ?c10 ?k10 ?a11 ?l11 ?c11 ?k11 ?a12 ?l12 ?c12 ?k12 ?a13 ?l13 ?c13 ?k13 ?a14 ?l14 ?c14 ?k14 ?a15 ?l15 ?c15 ?k15 ?a16 ?l16 ?c16 ?k16 ?a17 ?l17 ?c17 ?k17 ?a18 ?l18 ?c18 ?k18 ?a19 ?l19 ?c19 ?k19 ?a20 ?l20 ?c20 ?k20 ?a21 ?l21 ?c21 ?k21 ?a22 ?l22 ?c22 ?k22 ?n_MOST_NODES ?n_MOST_VALUE ?x_BoardError ?q_BoardError ?kp_BoardError ?sb_BoardError ?ty_BoardError ?ic_BoardError ?eg_BoardError ?ek_BoardError ?ed_BoardError ?ea_BoardError ?em_BoardError ?x_BadTree ?q_BadTree ?kp_BadTree ?sb_BadTree ?ty_BadTree ?ic_BadTree ?eg_BadTree ?ek_BadTree ?ed_BadTree ?ea_BadTree ?em_BadTree ?x_BadBuffer ?q_BadBuffer ?kp_BadBuffer ?sb_BadBuffer ?ty_BadBuffer ?ic_BadBuffer ?eg_BadBuffer ?ek_BadBuffer ?ed_BadBuffer ?ea_BadBuffer ?em_BadBuffer ?x_BadNodes ?q_BadNodes ?kp_BadNodes ?sb_BadNodes ?ty_BadNodes ?ic_BadNodes ?eg_BadNodes ?ek_BadNodes ?ed_BadNodes ?ea_BadNodes ?em_BadNodes ?en ?et ?s_BoardError_BoardError ?s_BoardError_BadTree ?s_BoardError_BadBuffer ?s_BoardError_BadNodes ?s_BadTree_BoardError ?s_BadTree_BadTree ?s_BadTree_BadBuffer ?s_BadTree_BadNodes ?s_BadBuffer_BoardError ?s_BadBuffer_BadTree ?s_BadBuffer_BadBuffer ?s_BadBuffer_BadNodes ?s_BadNodes_BoardError ?s_BadNodes_BadTree ?s_BadNodes_BadBuffer ?s_BadNodes_BadNodes ?b_len ?b_abs ?b_int ?b_tuple ?b_list ?b_sorted ?b_sum ?b_min ?b_max ?b_all ?b_any ?b_isinstance ?b_range ?b_enumerate ?b_zip ?b_bool ?b_str ?b_dict ?b_set ?v_MOST_NODES ?v_MOST_VALUE
    (case a0 => k_is)
    (case l0 => k_is)
    (case c0 => k_is)
    (case k0 => k_is)
    (case a1 => k_is)
    (case l1 => k_is)
    (case c1 => k_is)
    (case k1 => k_is)
    (case a2 => k_is)
    (case l2 => k_is)
    (case c2 => k_is)
    (case k2 => k_is)
    (case a3 => k_is)
    (case l3 => k_is)
    (case c3 => k_is)
    (case k3 => k_is)
    (case a4 => k_is)
    (case l4 => k_is)
    (case c4 => k_is)
    (case k4 => k_is)
    (case a5 => k_is)
    (case l5 => k_is)
    (case c5 => k_is)
    (case k5 => k_is)
    (case a6 => k_is)
    (case l6 => k_is)
    (case c6 => k_is)
    (case k6 => k_is)
    (case a7 => k_is)
    (case l7 => k_is)
    (case c7 => k_is)
    (case k7 => k_is)
    (case a8 => k_is)
    (case l8 => k_is)
    (case c8 => k_is)
    (case k8 => k_is)
    (case a9 => k_is)
    (case l9 => k_is)
    (case c9 => k_is)
    (case k9 => k_is)
    (case a10 => k_is)
    (case l10 => k_is)
    (case c10 => k_is)
    (case k10 => k_is)
    (case a11 => k_is)
    (case l11 => k_is)
    (case c11 => k_is)
    (case k11 => k_is)
    (case a12 => k_is)
    (case l12 => k_is)
    (case c12 => k_is)
    (case k12 => k_is)
    (case a13 => k_is)
    (case l13 => k_is)
    (case c13 => k_is)
    (case k13 => k_is)
    (case a14 => k_is)
    (case l14 => k_is)
    (case c14 => k_is)
    (case k14 => k_is)
    (case a15 => k_is)
    (case l15 => k_is)
    (case c15 => k_is)
    (case k15 => k_is)
    (case a16 => k_is)
    (case l16 => k_is)
    (case c16 => k_is)
    (case k16 => k_is)
    (case a17 => k_is)
    (case l17 => k_is)
    (case c17 => k_is)
    (case k17 => k_is)
    (case a18 => k_is)
    (case l18 => k_is)
    (case c18 => k_is)
    (case k18 => k_is)
    (case a19 => k_is)
    (case l19 => k_is)
    (case c19 => k_is)
    (case k19 => k_is)
    (case a20 => k_is)
    (case l20 => k_is)
    (case c20 => k_is)
    (case k20 => k_is)
    (case a21 => k_is)
    (case l21 => k_is)
    (case c21 => k_is)
    (case k21 => k_is)
    (case a22 => k_is)
    (case l22 => k_is)
    (case c22 => k_is)
    (case k22 => k_is)
    (case n_MOST_NODES => k_is)
    (case n_MOST_VALUE => k_is)
    (case x_BoardError => k_is)
    (case q_BoardError => k_exc)
    (case kp_BoardError => k_is)
    (case sb_BoardError => k_is)
    (case ty_BoardError => k_is)
    (case ic_BoardError => k_is)
    (case eg_BoardError => k_is)
    (case ek_BoardError => k_is)
    (case ed_BoardError => k_is)
    (case ea_BoardError => k_is)
    (case em_BoardError => k_is)
    (case x_BadTree => k_is)
    (case q_BadTree => k_exc)
    (case kp_BadTree => k_is)
    (case sb_BadTree => k_is)
    (case ty_BadTree => k_is)
    (case ic_BadTree => k_is)
    (case eg_BadTree => k_is)
    (case ek_BadTree => k_is)
    (case ed_BadTree => k_is)
    (case ea_BadTree => k_is)
    (case em_BadTree => k_is)
    (case x_BadBuffer => k_is)
    (case q_BadBuffer => k_exc)
    (case kp_BadBuffer => k_is)
    (case sb_BadBuffer => k_is)
    (case ty_BadBuffer => k_is)
    (case ic_BadBuffer => k_is)
    (case eg_BadBuffer => k_is)
    (case ek_BadBuffer => k_is)
    (case ed_BadBuffer => k_is)
    (case ea_BadBuffer => k_is)
    (case em_BadBuffer => k_is)
    (case x_BadNodes => k_is)
    (case q_BadNodes => k_exc)
    (case kp_BadNodes => k_is)
    (case sb_BadNodes => k_is)
    (case ty_BadNodes => k_is)
    (case ic_BadNodes => k_is)
    (case eg_BadNodes => k_is)
    (case ek_BadNodes => k_is)
    (case ed_BadNodes => k_is)
    (case ea_BadNodes => k_is)
    (case em_BadNodes => k_is)
    (case en => k_is)
    (case et => k_is)
    (case s_BoardError_BoardError => k_is)
    (case s_BoardError_BadTree => k_is)
    (case s_BoardError_BadBuffer => k_is)
    (case s_BoardError_BadNodes => k_is)
    (case s_BadTree_BoardError => k_is)
    (case s_BadTree_BadTree => k_is)
    (case s_BadTree_BadBuffer => k_is)
    (case s_BadTree_BadNodes => k_is)
    (case s_BadBuffer_BoardError => k_is)
    (case s_BadBuffer_BadTree => k_is)
    (case s_BadBuffer_BadBuffer => k_is)
    (case s_BadBuffer_BadNodes => k_is)
    (case s_BadNodes_BoardError => k_is)
    (case s_BadNodes_BadTree => k_is)
    (case s_BadNodes_BadBuffer => k_is)
    (case s_BadNodes_BadNodes => k_is)
    (case b_len => k_is)
    (case b_abs => k_is)
    (case b_int => k_is)
    (case b_tuple => k_is)
    (case b_list => k_is)
    (case b_sorted => k_is)
    (case b_sum => k_is)
    (case b_min => k_is)
    (case b_max => k_is)
    (case b_all => k_is)
    (case b_any => k_is)
    (case b_isinstance => k_is)
    (case b_range => k_is)
    (case b_enumerate => k_is)
    (case b_zip => k_is)
    (case b_bool => k_is)
    (case b_str => k_is)
    (case b_dict => k_is)
    (case b_set => k_is)
    (case v_MOST_NODES => exact ⟨L2.V.int 9, ⟨_, rfl⟩, rfl⟩)
    (case v_MOST_VALUE => exact ⟨L2.V.int 1000, ⟨_, rfl⟩, rfl⟩)

