import PyProof.Rows.All
import Wide.All
import OpenK.AllK
import Wide.FinOn
import HandS.ForMost
import HandS.ForExc
import HandS.IsInst
import HandS.Style
import HandS.Zip
import KE.DatumOrd
import KE.SortData
import KE.DataAny
import HandS.TupAny
import HandS.TupMul
import KE.KRevSl
import KE.KDictSum
import KE.KDictCopyH
import HandS.Conv
import KE.GoesEnum
import HandS.Small
import HandS.DictComp
import HandS.SetFor
import HandS.Strs
import HandS.ExcIs
import HandS.TryMany
import HandS.TryOnly
import HandS.Deep
import HandS.Text
import PySem.Challenge.RW_boardwright_k50_whole_best_orders
set_option Elab.async false
set_option linter.all false
set_option maxRecDepth 100000
set_option maxHeartbeats 0
namespace BW
open PySem PySem.W

/-! ### results -/
abbrev D := PyData
inductive Res (α : Type) where
  | ok (a : α)
  | ex (c : Str)
  | bad
namespace Res
def bind {α β : Type} (x : Res α) (f : α → Res β) : Res β := match x with
  | .ok a => f a
  | .ex c => .ex c
  | .bad => .bad
instance : Monad Res where
  pure := .ok
  bind := Res.bind
@[simp] theorem ok_bind {α β : Type} (a : α) (f : α → Res β) : (Res.ok a >>= f) = f a := rfl
@[simp] theorem ex_bind {α β : Type} (c : Str) (f : α → Res β) : ((Res.ex c : Res α) >>= f) = .ex c := rfl
@[simp] theorem bad_bind {α β : Type} (f : α → Res β) : ((Res.bad : Res α) >>= f) = .bad := rfl
@[simp] theorem pure_ok {α : Type} (a : α) : (pure a : Res α) = .ok a := rfl
/-- where nothing may be raised -/
def quiet {α : Type} : Res α → Res α
  | .ok a => .ok a
  | _ => .bad
@[simp] theorem quiet_ok {α : Type} (a : α) : (Res.ok a).quiet = .ok a := rfl
end Res
open Res

/-- a slot: unknown, a frozen value, a list or a dict of this def's own -/
inductive Sl where
  | un
  | fz (d : D)
  | ol (ds : List D)
  | od (kvs : List (D × D))
abbrev Env := List Sl

inductive Op where | add | sub | mul | fdiv | mod | pow | shl | shr | band
  deriving DecidableEq
inductive Cmp where | eq | ne | lt | le | gt | ge | isin | notin
  deriving DecidableEq
inductive B1 where | len | abs | int | tuple | list | sorted | sum | min | max | all | any | setsorted | setlen
  deriving DecidableEq
inductive B2 where | min2 | max2
  deriving DecidableEq
inductive Ty where | int | bool | str | tuple | list | dict
  deriving DecidableEq
/-- targets -/
inductive Tg where
  | n (i : Nat)
  | t (ts : List Tg)

inductive E where
  | k (d : D)
  | v (i : Nat)
  | p (i : Nat)
  | tup (es : List E)
  | lst (es : List E)
  | op (o : Op) (a b : E)
  | cmp (o : Cmp) (a b : E)
  | ch (o q : Cmp) (a b c : E)
  | and (a b : E)
  | or (a b : E)
  | not (a : E)
  | neg (a : E)
  | ite (c a b : E)
  | isN (a : E)
  | notN (a : E)
  | ix (a b : E)
  | slf (a lo : E)
  | slt (a hi : E)
  | slb (a lo hi : E)
  | rev (a : E)
  | call (f : Nat) (es : List E)
  | b1 (b : B1) (a : E)
  | b2 (b : B2) (a c : E)
  | isi (a : E) (ts : List Ty)
  | rng (a b c : E)
  | enm (a : E)
  | zip (a b : E)
  | comp (elt : E) (tg : Tg) (it c : E) (own : List Nat)
  | dnil
  | dcomp (k v : E) (tg : Tg) (it c : E) (own : List Nat)
  | any
  | rl (t : Bool) (a b : E)
  | idx (a b : E)
  | join (a : Str) (b : E)

/-! ### operations on data -/
/-- no dict within, not deep -/
def sm (d : D) : Bool := d.plain && decide (d.depth ≤ 60)
def items : D → Option (List D)
  | .list xs => some xs
  | .tuple xs => some xs
  | _ => none
def smallI (i : Int) : Bool := decide (-(2 ^ 64) < i) && decide (i < 2 ^ 64)
def sizeOk (n : Nat) : Bool := decide (n ≤ 1000000)

def opD : Op → D → D → Res D
  | .add, .int i, .int j => .ok (.int (i + j))
  | .add, .list xs, .list ys => if sizeOk (xs.length + ys.length) then .ok (.list (xs ++ ys)) else .bad
  | .add, .tuple xs, .tuple ys => if sizeOk (xs.length + ys.length) then .ok (.tuple (xs ++ ys)) else .bad
  | .sub, .int i, .int j => .ok (.int (i - j))
  | .mul, .int i, .int j => if smallI i || smallI j then .ok (.int (i * j)) else .bad
  | .mul, .list xs, .int j => if decide (0 ≤ j) && decide (j ≤ 1000000) && sizeOk (xs.length * j.toNat) then .ok (.list (List.replicate j.toNat xs).flatten) else .bad
  | .mul, .tuple xs, .int j => if decide (1 ≤ j) && decide (j ≤ 1000) && !xs.isEmpty && decide (xs.length ≤ 1000) then .ok (.tuple (List.replicate j.toNat xs).flatten) else .bad
  | .fdiv, .int i, .int j => if decide (0 < j) && decide (j < 1073741824) then .ok (.int (i / j)) else .bad
  | .mod, .int i, .int j => if decide (0 < j) then .ok (.int (i % j)) else .bad
  | .pow, .int i, .int j => if decide (0 ≤ j) && decide (j ≤ 1000000) && decide (i.natAbs < 2 ^ 64) then .ok (.int (i ^ j.toNat)) else .bad
  | .shl, .int i, .int j => if decide (0 ≤ j) && decide (j ≤ 1000000) && decide (i.natAbs < 2 ^ 64) then .ok (.int (i * 2 ^ j.toNat)) else .bad
  | .shr, .int i, .int j => if decide (0 ≤ j) then .ok (.int (i / 2 ^ j.toNat)) else .bad
  | .band, .int i, .int j => .ok (.int (Builtin.bitAnd i j))
  | _, _, _ => .bad

def ltD (a b : D) : Res Bool :=
  match a, b with
  | .int i, .int j => .ok (decide (i < j))
  | a, b => if alike a b && sm a && sm b && (match a with | .none => false | _ => true) then .ok (dataLt a b) else .bad
def keyOf : D → Option L2.Key
  | .int i => some (.inl i)
  | .str x => some (.inr x)
  | _ => none
/-- the keys are ints and texts (a script, which is only sliced, stands as a dict with one key None) -/
def okKeys (kvs : List (D × D)) : Bool := kvs.all fun q => (keyOf q.1).isSome
def okD : D → Bool
  | .dict kvs => okKeys kvs
  | _ => true
def inD (a b : D) : Res Bool :=
  match items b with
  | some xs => if sm a && sm (.list xs) then .ok (xs.any fun d => PyData.eqv d a) else .bad
  | none => match b with
    | .dict kvs => (match keyOf a with | some _ => if okKeys kvs then .ok (kvs.any fun d => PyData.eqv d.1 a) else .bad | none => .bad)
    | _ => .bad
def cmpB : Cmp → D → D → Res Bool
  | .eq, a, b => if sm a && sm b then .ok (PyData.eqv a b) else .bad
  | .ne, a, b => if sm a && sm b then .ok (!PyData.eqv a b) else .bad
  | .lt, a, b => ltD a b
  | .gt, a, b => ltD b a
  | .le, a, b => do let r ← ltD b a; .ok !r
  | .ge, a, b => do let r ← ltD a b; .ok !r
  | .isin, a, b => inD a b
  | .notin, a, b => do let r ← inD a b; .ok !r

def ixD : D → D → Res D
  | .list xs, .int i => match L2.atI xs i with | some d => .ok d | none => .bad
  | .tuple xs, .int i => match L2.atI xs i with | some d => .ok d | none => .bad
  | .str x, .int i => if sizeOk x.length then (match L2.atI x.cps.toList i with | some c => .ok (.str ⟨#[c]⟩) | none => .bad) else .bad
  | .dict kvs, j => (match keyOf j with
    | some _ => if okKeys kvs then (match kvs.find? (fun q => PyData.eqv q.1 j) with | some q => .ok q.2 | none => .bad) else .bad
    | none => .bad)
  | _, _ => .bad
def cutD {α : Type} (xs : List α) (lo hi : Option Int) : List α := (xs.drop (HT.sIx xs.length 0 lo)).take (HT.sIx xs.length xs.length hi - HT.sIx xs.length 0 lo)
def slD (a : D) (l h : Option Int) : Res D :=
  match a with
  | .list xs => .ok (.list (cutD xs l h))
  | .tuple xs => .ok (.tuple (cutD xs l h))
  | .dict [(.none, .list xs)] => .ok (.list (cutD xs l h))
  | _ => .bad
def revD : D → Res D
  | .list xs => .ok (.list xs.reverse)
  | .tuple xs => .ok (.tuple xs.reverse)
  | _ => .bad
def asInt : D → Res Int
  | .int i => .ok i
  | _ => .bad
def asBool : D → Res Bool
  | .bool b => .ok b
  | _ => .bad
def mapR {α β : Type} (f : α → Res β) : List α → Res (List β)
  | [] => .ok []
  | x :: r => do let y ← f x; let ys ← mapR f r; .ok (y :: ys)
def notNone : D → Bool
  | .none => false
  | _ => true
def ntup : D → Bool
  | .none => false
  | .tuple _ => false
  | _ => true
def ctup : D → Bool
  | .tuple (_ :: _) => true
  | _ => false
/-- all can be compared with one another -/
def comparable (xs : List D) : Bool := (xs.all fun a => xs.all fun b => alike a b) && sm (.list xs)
def sortable (xs : List D) : Bool := comparable xs && sizeOk xs.length && (xs.all ctup || xs.all ntup)
def sortD (xs : List D) : List D := xs.mergeSort (dataLe false id)
/-- the items, each once, as they come first -/
def once (xs : List D) : List D := xs.foldl (fun acc d => if acc.any (fun y => PyData.eqv y d) then acc else acc ++ [d]) []
/-- the ints, each once, ascending -/
def setI (ns : List Int) : List Int := ns.eraseDups.mergeSort (fun a b => decide (a ≤ b))
def b1D : B1 → D → Res D
  | .len, .list xs => .ok (.int xs.length)
  | .len, .tuple xs => .ok (.int xs.length)
  | .len, .dict xs => if okKeys xs then .ok (.int xs.length) else .bad
  | .len, .str x => if sizeOk x.length then .ok (.int x.length) else .bad
  | .abs, .int i => .ok (.int (if i < 0 then -i else i))
  | .int, .int i => .ok (.int i)
  | .tuple, .list xs => .ok (.tuple xs)
  | .tuple, .tuple xs => .ok (.tuple xs)
  | .list, .list xs => .ok (.list xs)
  | .list, .tuple xs => .ok (.list xs)
  | .sorted, .dict kvs => if okKeys kvs && sortable (kvs.map (·.1)) then .ok (.list (sortD (kvs.map (·.1)))) else .bad
  | .sum, .list xs => do let ns ← mapR asInt xs; .ok (.int ns.sum)
  | .sum, .tuple xs => do let ns ← mapR asInt xs; .ok (.int ns.sum)
  | .all, .list xs => do let bs ← mapR asBool xs; .ok (.bool (bs.all id))
  | .any, .list xs => do let bs ← mapR asBool xs; .ok (.bool (bs.any id))
  | b, d => match items d with
    | none => .bad
    | some xs => match b with
      | .sorted => if sortable xs then .ok (.list (sortD xs)) else .bad
      | .min => match xs with
        | [] => .bad
        | x :: r => if comparable xs && xs.all notNone then .ok (minD x r) else .bad
      | .max => match xs with
        | [] => .bad
        | x :: r => if comparable xs && xs.all notNone then .ok (maxD x r) else .bad
      | .setsorted => do let ns ← mapR asInt xs; if decide (ns.length ≤ 60) then .ok (.list ((setI ns).map .int)) else .bad
      | .setlen => do let ns ← mapR asInt xs; if decide (ns.length ≤ 60) then .ok (.int (setI ns).length) else .bad
      | _ => .bad
def b2D : B2 → D → D → Res D
  | .min2, .int i, .int j => .ok (.int (if j < i then j else i))
  | .max2, .int i, .int j => .ok (.int (if j > i then j else i))
  | _, _, _ => .bad
def tyD : Ty → D → Bool
  | .int, .int _ => true
  | .int, .bool _ => true
  | .bool, .bool _ => true
  | .str, .str _ => true
  | .tuple, .tuple _ => true
  | .list, .list _ => true
  | .dict, .dict _ => true
  | _, _ => false
/-- a pair that enumerate or zip yields: only for names in a row -/
abbrev wpD (ds : List D) : D := .dict [(.bool true, .list ds)]
def enumD (n : Int) : List D → List D
  | [] => []
  | x :: r => wpD [.int n, x] :: enumD (n + 1) r
def rngD (a b c : D) : Res D := do
  let i ← asInt a
  let j ← asInt b
  let s ← asInt c
  let ok := decide (-(2 ^ 62) ≤ i) && decide (i < 2 ^ 62) && decide (-(2 ^ 62) ≤ j) && decide (j < 2 ^ 62)
  if s = 1 then (if ok then .ok (.list ((List.range (j - i).toNat).map fun k => .int (i + (k : Nat)))) else .bad)
  else if s = -1 then (if ok then .ok (.list ((List.range (i - j).toNat).map fun k => .int (i - (k : Nat)))) else .bad)
  else .bad
def rlD (t : Bool) (a b : D) : Res D := do
  let x ← rngD a b (.int 1)
  match x with
  | .list xs => if sizeOk xs.length then .ok (if t then .tuple xs else .list xs) else .bad
  | _ => .bad
/-- the first place in a list -/
def asL : D → Res (List D)
  | .list xs => .ok xs
  | .tuple xs => .ok xs
  | _ => .bad
def idxD (xs : List D) (d : D) : Res D :=
  if SeqAt.shaped (.list xs) && SeqAt.shaped d && sm (.list xs) && sm d then (match xs.findIdx? (fun x => PyData.eqv x d) with | some j => .ok (.int (j : Nat)) | none => .bad) else .bad
def asStr : D → Res Str
  | .str x => .ok x
  | _ => .bad
def joinD (x : Str) (b : D) : Res D := match items b with
  | some ys => do
    let zs ← mapR asStr ys
    if decide ((zs.map (·.length)).sum + zs.length * x.length ≤ 1000000) then .ok (.str (Txt.join x zs)) else .bad
  | _ => .bad
def zipD : List D → List D → List D
  | x :: r, y :: s => wpD [x, y] :: zipD r s
  | _, _ => []

/-! ### slots -/
def getS (σ : Env) (i : Nat) : Sl := σ.getD i .un
def setS (σ : Env) (i : Nat) (s : Sl) : Env := σ.set i s
def strict (σ : Env) (i : Nat) : Res D := match getS σ i with
  | .fz d => .ok d
  | _ => .bad
def peek (σ : Env) (i : Nat) : Res D := match getS σ i with
  | .fz d => .ok d
  | .ol ds => .ok (.list ds)
  | .od kvs => .ok (.dict kvs)
  | .un => .bad
mutual
def bindT : Tg → D → Env → Res Env
  | .n i, d, σ => .ok (setS σ i (.fz d))
  | .t ts, .tuple ds, σ => bindTs ts ds σ
  | .t ts, .list ds, σ => bindTs ts ds σ
  | .t ts, .dict [(.bool true, .list ds)], σ => bindTs ts ds σ
  | .t _, _, _ => .bad
def bindTs : List Tg → List D → Env → Res Env
  | [], [], σ => .ok σ
  | t :: ts, d :: ds, σ => do let σ' ← bindT t d σ; bindTs ts ds σ'
  | _, _, _ => .bad
end
def wipeS (σ : Env) : List Nat → Env
  | [] => σ
  | i :: r => setS (wipeS σ r) i .un

/-! ### expressions -/
/-- the defs: their answers -/
abbrev FE := Nat → List D → Res D
/-- a comprehension: the items that pass, each turned -/
def compR {α β : Type} (f : α → Res (Option β)) : List α → Res (List β)
  | [] => .ok []
  | x :: r => do
    let o ← f x
    let ys ← compR f r
    match o with
    | some y => .ok (y :: ys)
    | none => .ok ys
def putD (kvs : List (D × D)) (k d : D) : List (D × D) := if kvs.any (fun q => PyData.eqv q.1 k) then kvs.map (fun q => if PyData.eqv q.1 k then (q.1, d) else q) else kvs ++ [(k, d)]
def mergeD (kvs js : List (D × D)) : List (D × D) := js.foldl (fun acc q => putD acc q.1 q.2) kvs
/-- a dict comprehension -/
def dcompR (f : D → Res (Option (D × D))) : List D → List (D × D) → Res (List (D × D))
  | [], acc => .ok acc
  | x :: r, acc => do
    let o ← f x
    match o with
    | some q => if (keyOf q.1).isSome && sizeOk acc.length then dcompR f r (putD acc q.1 q.2) else .bad
    | none => dcompR f r acc
mutual
def ev (fe : FE) : E → Env → Res D
  | .k d, _ => .ok d
  | .v i, σ => strict σ i
  | .p i, σ => peek σ i
  | .tup es, σ => do let ds ← evs fe es σ; .ok (.tuple ds)
  | .lst es, σ => do let ds ← evs fe es σ; .ok (.list ds)
  | .op o a b, σ => do let x ← ev fe a σ; let y ← ev fe b σ; opD o x y
  | .cmp o a b, σ => do let x ← ev fe a σ; let y ← ev fe b σ; let r ← cmpB o x y; .ok (.bool r)
  | .ch o q a b c, σ => do
    let x ← ev fe a σ
    let y ← ev fe b σ
    let r ← cmpB o x y
    if r then do
      let z ← ev fe c σ
      let r' ← cmpB q y z
      .ok (.bool r')
    else .ok (.bool false)
  | .and a b, σ => do
    let x ← ev fe a σ
    let t ← asBool x
    if t then ev fe b σ else .ok (.bool false)
  | .or a b, σ => do
    let x ← ev fe a σ
    let t ← asBool x
    if t then .ok (.bool true) else ev fe b σ
  | .not a, σ => do let x ← ev fe a σ; let t ← asBool x; .ok (.bool !t)
  | .neg a, σ => do let x ← ev fe a σ; let i ← asInt x; .ok (.int (-i))
  | .ite c a b, σ => do
    let x ← ev fe c σ
    let t ← asBool x
    if t then ev fe a σ else ev fe b σ
  | .isN a, σ => do let x ← ev fe a σ; .ok (.bool !(notNone x))
  | .notN a, σ => do let x ← ev fe a σ; .ok (.bool (notNone x))
  | .ix a b, σ => do let x ← ev fe a σ; let y ← ev fe b σ; ixD x y
  | .slf a l, σ => do let x ← ev fe a σ; let y ← ev fe l σ; let i ← asInt y; slD x (some i) none
  | .slt a h, σ => do let x ← ev fe a σ; let z ← ev fe h σ; let j ← asInt z; slD x none (some j)
  | .slb a l h, σ => do let x ← ev fe a σ; let y ← ev fe l σ; let i ← asInt y; let z ← ev fe h σ; let j ← asInt z; slD x (some i) (some j)
  | .rev a, σ => do let x ← ev fe a σ; revD x
  | .call f es, σ => do let ds ← evs fe es σ; fe f ds
  | .b1 b a, σ => do let x ← ev fe a σ; b1D b x
  | .b2 b a c, σ => do let x ← ev fe a σ; let y ← ev fe c σ; b2D b x y
  | .isi a ts, σ => do let x ← ev fe a σ; if okD x then .ok (.bool (ts.any fun t => tyD t x)) else .bad
  | .rng a b c, σ => do let x ← ev fe a σ; let y ← ev fe b σ; let z ← ev fe c σ; rngD x y z
  | .enm a, σ => do
    let x ← ev fe a σ
    match items x with
    | some xs => .ok (.list (enumD 0 xs))
    | none => .bad
  | .zip a b, σ => do
    let x ← ev fe a σ
    let y ← ev fe b σ
    match x, y with
    | .list xs, .list ys => .ok (.list (zipD xs ys))
    | .tuple xs, .tuple ys => .ok (.list (zipD xs ys))
    | _, _ => .bad
  | .comp elt tg it c own, σ => do
    let x ← ev fe it σ
    match items x with
    | none => .bad
    | some xs => do
      let ys ← compR (fun d => (do
        let σ' ← bindT tg d (wipeS σ own)
        let t ← ev fe c σ'
        let b ← asBool t
        if b then do
          let y ← ev fe elt σ'
          .ok (some y)
        else .ok none).quiet) xs
      if sizeOk ys.length then .ok (.list ys) else .bad
  | .dnil, _ => .ok (.dict [])
  | .dcomp k v tg it c own, σ => do
    let x ← ev fe it σ
    match items x with
    | none => .bad
    | some xs => do
      let ys ← dcompR (fun d => (do
        let σ' ← bindT tg d (wipeS σ own)
        let t ← ev fe c σ'
        let b ← asBool t
        if b then do
          let y ← ev fe k σ'
          let z ← ev fe v σ'
          .ok (some (y, z))
        else .ok none).quiet) xs []
      .ok (.dict ys)
  | .any, _ => .bad
  | .rl t a b, σ => do let x ← ev fe a σ; let y ← ev fe b σ; rlD t x y
  | .idx a b, σ => do let x ← ev fe a σ; let xs ← asL x; let y ← ev fe b σ; idxD xs y
  | .join a b, σ => do let y ← ev fe b σ; joinD a y
def evs (fe : FE) : List E → Env → Res (List D)
  | [], _ => .ok []
  | e :: r, σ => do let d ← ev fe e σ; let ds ← evs fe r σ; .ok (d :: ds)
end

/-! ### statements -/
/-- what an except suite answers: a constant; by the error's class -/
inductive HR where
  | k (d : D)
  | is (c : Str) (d1 d2 : D)
inductive S where
  | tr (b : List S) (hs : List (Str × HR))
  | set (i : Nat) (e : E)
  | setO (i : Nat) (e : E)
  | unp (tg : Tg) (e : E)
  | par (is : List (Nat × Bool)) (es : List E)
  | setix (i : Nat) (x e : E)
  | aug (i : Nat) (o : Op) (e : E)
  | augix (i : Nat) (x : E) (o : Op) (e : E)
  | pop (j i : Nat)
  | app (i : Nat) (e : E)
  | ext (i : Nat) (e : E)
  | upd (i : Nat) (e : E)
  | fr (i : Nat)
  | wipe (is : List Nat)
  | any
  | xp (e : E)
  | ret (e : E)
  | raise (c : Str)
  | ite (c : E) (a b : List S)
  | for (tg : Tg) (it : E) (b : List S)
  | while (c : E) (b : List S)
  | brk
  | cnt
  | pass
inductive SR where
  | nx (σ : Env)
  | rt (d : D)
  | bk (σ : Env)
  | ct (σ : Env)
  | ex (c : Str)
  | bad
def Res.sr {α : Type} (x : Res α) (f : α → SR) : SR := match x with
  | .ok a => f a
  | .ex c => .ex c
  | .bad => .bad
def SR.andThen (x : SR) (f : Env → SR) : SR := match x with
  | .nx σ => f σ
  | y => y
/-- the turns of a for -/
def forR (f : D → Env → SR) : List D → Env → SR
  | [], σ => .nx σ
  | d :: r, σ => match f d σ with
    | .nx σ' => forR f r σ'
    | .ct σ' => forR f r σ'
    | .bk σ' => .nx σ'
    | y => y
/-- the turns of a while, at most n -/
def whileR (c : Env → Res Bool) (f : Env → SR) : Nat → Env → SR
  | 0, _ => .bad
  | n + 1, σ => (c σ).sr fun t => if t then (match f σ with
    | .nx σ' => whileR c f n σ'
    | .ct σ' => whileR c f n σ'
    | .bk σ' => .nx σ'
    | y => y) else .nx σ
def augOk : Op → Bool
  | .add => true
  | .sub => true
  | .mul => true
  | _ => false
/-- what a name is set to: its own new list or dict, or a value -/
def toSl : Bool → D → Res Sl
  | true, .list ds => .ok (.ol ds)
  | true, .dict kvs => .ok (.od kvs)
  | true, _ => .bad
  | false, d => .ok (.fz d)
def parR : List (Nat × Bool) → List D → Env → Res Env
  | [], [], σ => .ok σ
  | (i, o) :: r, d :: ds, σ => do let s ← toSl o d; parR r ds (setS σ i s)
  | _, _, _ => .bad
/-- is d of type list or dict -/
def freshD : D → Res D
  | .list ds => .ok (.list ds)
  | .dict kvs => .ok (.dict kvs)
  | _ => .bad
def vF (o : Bool) (f : Env → Res D) : Env → Res D := match o with
  | true => fun σ => f σ >>= freshD
  | false => f
def evP (fe : FE) : List (Nat × Bool) → List E → Env → Res (List D)
  | (_, o) :: r, e :: es, σ => do let d ← vF o (ev fe e) σ; let ds ← evP fe r es σ; .ok (d :: ds)
  | _, _, _ => .ok []
/-- the first clause that serves -/
def handleR (sub : Str → Str → Option Bool) : List (Str × HR) → Str → SR
  | [], c => .ex c
  | (x, r) :: hs, c => match sub c x with
    | some true => (match r with
      | .k d => .rt d
      | .is c' d1 d2 => (match sub c c' with
        | some b => .rt (if b then d1 else d2)
        | none => .bad))
    | some false => handleR sub hs c
    | none => .bad
def tryR (sub : Str → Str → Option Bool) (hs : List (Str × HR)) : SR → SR
  | .ex c => handleR sub hs c
  | y => y
def listIx (xs : List D) (i : Int) : Option Nat := L2.ixN xs.length i
mutual
def ex1 (fe : FE) (sub : Str → Str → Option Bool) (n : Nat) : S → Env → SR
  | .tr b hs, σ => tryR sub hs (exs fe sub n b σ)
  | .set i e, σ => (ev fe e σ).sr fun d => .nx (setS σ i (.fz d))
  | .setO i e, σ => (ev fe e σ).sr fun d => (toSl true d).sr fun s => .nx (setS σ i s)
  | .par is es, σ => (evP fe is es σ).sr fun ds => (parR is ds σ).sr .nx
  | .unp tg e, σ => (ev fe e σ).sr fun d => (bindT tg d σ).sr .nx
  | .setix i x e, σ => match getS σ i with
    | .ol ds => (ev fe e σ).sr fun d => (ev fe x σ).sr fun j => (asInt j).sr fun k => match listIx ds k with
      | some m => .nx (setS σ i (.ol (ds.set m d)))
      | none => .bad
    | .od kvs => (ev fe e σ).sr fun d => (ev fe x σ).sr fun j => match keyOf j with
      | some _ => if sizeOk kvs.length then .nx (setS σ i (.od (putD kvs j d))) else .bad
      | none => .bad
    | _ => .bad
  | .aug i o e, σ => (strict σ i).sr fun x => (ev fe e σ).sr fun y => match x, y with
    | .int _, .int _ => if augOk o then (opD o x y).sr fun d => .nx (setS σ i (.fz d)) else .bad
    | _, _ => .bad
  | .augix i x o e, σ => match getS σ i with
    | .ol ds => (ev fe x σ).sr fun j => (asInt j).sr fun k => (match listIx ds k with
      | some m => (match ds[m]? with
        | some (.int u) => (ev fe e σ).sr fun y => (asInt y).sr fun w => if augOk o then (opD o (.int u) (.int w)).sr fun d => .nx (setS σ i (.ol (ds.set m d))) else .bad
        | _ => .bad)
      | none => .bad)
    | _ => .bad
  | .pop j i, σ => match getS σ i with
    | .ol ds => (match ds[ds.length - 1]? with
      | some d => .nx (setS (setS σ i (.ol ds.dropLast)) j (.fz d))
      | none => .bad)
    | _ => .bad
  | .app i e, σ => match getS σ i with
    | .ol ds => (ev fe e σ).sr fun d => if sizeOk ds.length then .nx (setS σ i (.ol (ds ++ [d]))) else .bad
    | _ => .bad
  | .ext i e, σ => match getS σ i with
    | .ol ds => (ev fe e σ).sr fun d => match d with
      | .list xs => if sizeOk (ds.length + xs.length) then .nx (setS σ i (.ol (ds ++ xs))) else .bad
      | _ => .bad
    | _ => .bad
  | .upd i e, σ => match getS σ i with
    | .od kvs => (ev fe e σ).sr fun d => match d with
      | .dict js => if okKeys js && sizeOk (kvs.length + js.length) then .nx (setS σ i (.od (mergeD kvs js))) else .bad
      | _ => .bad
    | _ => .bad
  | .fr i, σ => match getS σ i with
    | .ol ds => .nx (setS σ i (.fz (.list ds)))
    | .od kvs => .nx (setS σ i (.fz (.dict kvs)))
    | _ => .nx σ
  | .wipe is, σ => .nx (wipeS σ is)
  | .any, _ => .bad
  | .xp e, σ => (ev fe e σ).sr fun _ => .nx σ
  | .ret e, σ => (ev fe e σ).sr .rt
  | .raise c, _ => .ex c
  | .ite c a b, σ => (ev fe c σ).sr fun d => (asBool d).sr fun t => if t then exs fe sub n a σ else exs fe sub n b σ
  | .for tg it b, σ => (ev fe it σ).sr fun x => match items x with
    | none => .bad
    | some xs => forR (fun d σ => (bindT tg d σ).sr fun σ' => exs fe sub n b σ') xs σ
  | .while c b, σ => whileR (fun σ => do let d ← ev fe c σ; asBool d) (fun σ => exs fe sub n b σ) n σ
  | .brk, σ => .bk σ
  | .cnt, σ => .ct σ
  | .pass, σ => .nx σ
def exs (fe : FE) (sub : Str → Str → Option Bool) (n : Nat) : List S → Env → SR
  | [], σ => .nx σ
  | s :: r, σ => (ex1 fe sub n s σ).andThen (exs fe sub n r)
end
end BW

namespace BW
open PySem PySem.W L2

/-! ### what a value stands for -/
def keyD : Key → D
  | .inl i => .int i
  | .inr x => .str x
/-- a tuple whose object is known, and has no dict -/
def SqN (K : PySem.W.Frag) (H : Hp) (a : Addr) (xs : List V) : Prop := (∃ o, H a = some (.frz o (.tup xs)) ∧ o.dict = none) ∨
  ∃ (o : Obj) (its : Array Value) (n : Nat), K.lookup a = some o ∧ o.cls = .type "tuple" ∧ o.dict = none ∧ o.data = .seq its n ∧ its.size ≤ sizeLine ∧ Vals xs its.toList
theorem SqN.sq {K : PySem.W.Frag} {H : Hp} {a : Addr} {xs : List V} (h : SqN K H a xs) : SqT K H a xs := by
  rcases h with ⟨o, e, _⟩ | ⟨o, its, n, h1, h2, _, h3⟩
  · exact .inl (.inr ⟨o, e⟩)
  · exact .inr ⟨o, its, n, h1, h2, h3⟩
mutual
inductive Dq (K : PySem.W.Frag) (H : Hp) : V → D → Prop
  | non : Dq K H .non .none
  | bl (b : Bool) : Dq K H (.bl b) (.bool b)
  | int (i : Int) : Dq K H (.int i) (.int i)
  | str (x : Str) : Dq K H (.str x) (.str x)
  | lst {a : Addr} {xs : List V} {ds : List D} : Rd H a (.lst xs) → DqAll K H xs ds → Dq K H (.ref a) (.list ds)
  | tup {a : Addr} {xs : List V} {ds : List D} : SqN K H a xs → DqAll K H xs ds → Dq K H (.ref a) (.tuple ds)
  | wp {a : Addr} {xs : List V} {ds : List D} : SqT K H a xs → DqAll K H xs ds → Dq K H (.ref a) (.dict [(.bool true, .list ds)])
  | dK {a : Addr} {ks : List (Key × V)} {kvs : List (D × D)} : Rd H a (.dK ks) → KvP K H ks kvs → Dq K H (.ref a) (.dict kvs)
  | scr {a : Addr} {xs : List V} {ds : List D} : SqL K H a xs → DqAll K H xs ds → Dq K H (.ref a) (.dict [(.none, .list ds)])
inductive DqAll (K : PySem.W.Frag) (H : Hp) : List V → List D → Prop
  | nil : DqAll K H [] []
  | cons {v : V} {vs : List V} {d : D} {ds : List D} : Dq K H v d → DqAll K H vs ds → DqAll K H (v :: vs) (d :: ds)
inductive KvP (K : PySem.W.Frag) (H : Hp) : List (Key × V) → List (D × D) → Prop
  | nil : KvP K H [] []
  | cons {k : Key} {v : V} {d : D} {ks : List (Key × V)} {ds : List (D × D)} : Dq K H v d → KvP K H ks ds → KvP K H ((k, v) :: ks) ((keyD k, d) :: ds)
end
section
variable {K : PySem.W.Frag} {F H F' H' : Hp}
theorem Same.rd {a : Addr} {u : HO} (e : Same F F') (h : Rd F a u) : Rd F' a u := by
  rcases h with h | ⟨o, h⟩
  · exact .inl (e _ _ h)
  · exact .inr ⟨o, e _ _ h⟩
theorem Same.sqT {a : Addr} {xs : List V} (e : Same F F') (h : SqT K F a xs) : SqT K F' a xs := by
  rcases h with h | h
  · exact .inl (Same.rd e h)
  · exact .inr h
theorem Same.sqN {a : Addr} {xs : List V} (e : Same F F') (h : SqN K F a xs) : SqN K F' a xs := by
  rcases h with ⟨o, h1, h2⟩ | h
  · exact .inl ⟨o, e _ _ h1, h2⟩
  · exact .inr h
theorem Same.sqL {a : Addr} {xs : List V} (e : Same F F') (h : SqL K F a xs) : SqL K F' a xs := by
  rcases h with h | h
  · exact .inl (Same.rd e h)
  · exact .inr h
mutual
theorem Dq.up (e : Same F F') : ∀ {d : D} {v : V}, Dq K F v d → Dq K F' v d
  | _, _, .non => .non
  | _, _, .bl b => .bl b
  | _, _, .int i => .int i
  | _, _, .str x => .str x
  | _, _, .lst h1 h2 => .lst (Same.rd e h1) (DqAll.up e h2)
  | _, _, .tup h1 h2 => .tup (Same.sqN e h1) (DqAll.up e h2)
  | _, _, .wp h1 h2 => .wp (Same.sqT e h1) (DqAll.up e h2)
  | _, _, .dK h1 h2 => .dK (Same.rd e h1) (KvP.up e h2)
  | _, _, .scr h1 h2 => .scr (Same.sqL e h1) (DqAll.up e h2)
theorem DqAll.up (e : Same F F') : ∀ {ds : List D} {vs : List V}, DqAll K F vs ds → DqAll K F' vs ds
  | _, _, .nil => .nil
  | _, _, .cons h1 h2 => .cons (Dq.up e h1) (DqAll.up e h2)
theorem KvP.up (e : Same F F') : ∀ {ks : List (Key × V)} {ds : List (D × D)}, KvP K F ks ds → KvP K F' ks ds
  | _, _, .nil => .nil
  | _, _, .cons h1 h2 => .cons (Dq.up e h1) (KvP.up e h2)
end
mutual
theorem Dq.dp : ∀ (d : D) (v : V), d.plain = true → Dq K F v d → Dp K F v d
  | .none, _, _, h => by cases h; exact .non
  | .bool b, _, _, h => by cases h; exact .bl b
  | .int i, _, _, h => by cases h; exact .int i
  | .str x, _, _, h => by cases h; exact .str x
  | .list ds, _, p, h => by
    cases h with
    | lst h1 h2 => exact .lst (.inl h1) (DqAll.dp ds _ (by simpa [PyData.plain] using p) h2)
  | .tuple ds, _, p, h => by
    cases h with
    | tup h1 h2 => exact .tup h1.sq (DqAll.dp ds _ (by simpa [PyData.plain] using p) h2)
  | .dict _, _, p, h => by simp [PyData.plain] at p
theorem DqAll.dp : ∀ (ds : List D) (vs : List V), PyData.plainAll ds = true → DqAll K F vs ds → DpAll K F vs ds
  | [], _, _, h => by cases h; exact .nil
  | d :: ds, _, p, h => by
    have p : d.plain = true ∧ PyData.plainAll ds = true := by simpa [PyData.plainAll] using p
    cases h with
    | cons h1 h2 => exact .cons (Dq.dp d _ p.1 h1) (DqAll.dp ds _ p.2 h2)
end
theorem Dq.reads {X : Cx} {pins : List (Addr × Obj)} {s : Shared} {σ : L2.St} (I : Inv X pins σ H s) {d : D} {v : V} {u : Value} (hp : d.plain = true) (h : Dq X.K H v d) (r : RelV v u) : ∃ as, Reads s.heap u d as := Dp.reads I d v u (Dq.dp d v hp h) r
theorem DqAll.reads {X : Cx} {pins : List (Addr × Obj)} {s : Shared} {σ : L2.St} (I : Inv X pins σ H s) {ds : List D} {vs : List V} {us : List Value} (hp : PyData.plainAll ds = true) (h : DqAll X.K H vs ds) (r : Vals vs us) : ∃ as, ReadsAll s.heap us ds as := Dp.readsAll I ds vs us (DqAll.dp ds vs hp h) r
theorem DqAll.length : ∀ {vs : List V} {ds : List D}, DqAll K F vs ds → vs.length = ds.length
  | _, _, .nil => rfl
  | _, _, .cons _ h => by simp [DqAll.length h]
theorem DqAll.app : ∀ {vs ws : List V} {ds es : List D}, DqAll K F vs ds → DqAll K F ws es → DqAll K F (vs ++ ws) (ds ++ es)
  | _, _, _, _, .nil, h => h
  | _, _, _, _, .cons a t, h => .cons a (t.app h)
theorem DqAll.get : ∀ {vs : List V} {ds : List D} {i : Nat} {v : V}, DqAll K F vs ds → vs[i]? = some v → ∃ d, ds[i]? = some d ∧ Dq K F v d
  | _, _, _, _, .nil, e => by simp at e
  | _, _, 0, _, .cons a _, e => by simp at e; subst e; exact ⟨_, rfl, a⟩
  | _, _, i + 1, _, .cons _ t, e => by simpa using t.get (by simpa using e)
theorem DqAll.get' : ∀ {vs : List V} {ds : List D} {i : Nat} {d : D}, DqAll K F vs ds → ds[i]? = some d → ∃ v, vs[i]? = some v ∧ Dq K F v d
  | _, _, _, _, .nil, e => by simp at e
  | _, _, 0, _, .cons a _, e => by simp at e; subst e; exact ⟨_, rfl, a⟩
  | _, _, i + 1, _, .cons _ t, e => by simpa using t.get' (by simpa using e)
theorem DqAll.take : ∀ {vs : List V} {ds : List D} (n : Nat), DqAll K F vs ds → DqAll K F (vs.take n) (ds.take n)
  | _, _, 0, _ => by simp; exact .nil
  | _, _, _ + 1, .nil => by simp; exact .nil
  | _, _, n + 1, .cons a t => .cons a (t.take n)
theorem DqAll.drop : ∀ {vs : List V} {ds : List D} (n : Nat), DqAll K F vs ds → DqAll K F (vs.drop n) (ds.drop n)
  | _, _, 0, h => h
  | _, _, _ + 1, .nil => by simp; exact .nil
  | _, _, n + 1, .cons _ t => t.drop n
theorem DqAll.set {v : V} {d : D} (h : Dq K F v d) : ∀ {vs : List V} {ds : List D} (n : Nat), DqAll K F vs ds → DqAll K F (vs.set n v) (ds.set n d)
  | _, _, _, .nil => by simp; exact .nil
  | _, _, 0, .cons _ t => .cons h t
  | _, _, n + 1, .cons a t => .cons a (t.set h n)
theorem DqAll.rev : ∀ {vs : List V} {ds : List D}, DqAll K F vs ds → DqAll K F vs.reverse ds.reverse
  | _, _, .nil => .nil
  | _, _, .cons a t => by simp only [List.reverse_cons]; exact (DqAll.rev t).app (.cons a .nil)
theorem DqAll.rep {vs : List V} {ds : List D} (h : DqAll K F vs ds) : ∀ k : Nat, DqAll K F (List.replicate k vs).flatten (List.replicate k ds).flatten
  | 0 => by simp; exact .nil
  | k + 1 => by simp only [List.replicate_succ, List.flatten_cons]; exact h.app (h.rep k)

/-! ### heaps that grow -/
/-- F: what is frozen; H: all that is tracked. Nothing changes; what is new is new -/
structure Ext (F F' H H' : Hp) : Prop where
  f : Same F F'
  h : Same H H'
  sub : Same F' H'
  new : ∀ a o, F' a = some o → F a = some o ∨ H a = none
theorem Ext.refl (e : Same F H) : Ext F F H H := ⟨Same.refl F, Same.refl H, e, fun _ _ h => .inl h⟩
theorem Ext.trans {F1 H1 : Hp} (a : Ext F F1 H H1) (b : Ext F1 F' H1 H') : Ext F F' H H' := ⟨a.f.trans b.f, a.h.trans b.h, b.sub, fun c o h => by
  rcases b.new c o h with h | h
  · exact a.new c o h
  · exact .inr (a.h.free h)⟩
/-- a new object, frozen at once -/
theorem Ext.laid {p : Addr} {o : HO} (e : Same F H) (hp : H p = none) : Ext F (upd F p o) H (upd H p o) := by
  refine ⟨fun a u h => ?_, fun a u h => ?_, fun a u h => ?_, fun a u h => ?_⟩
  · rw [upd_ne (ne_of_none (e a u h) hp)]; exact h
  · rw [upd_ne (ne_of_none h hp)]; exact h
  · by_cases q : a = p
    · subst q; rw [upd_same] at h ⊢; exact h
    · rw [upd_ne q] at h ⊢; exact e a u h
  · by_cases q : a = p
    · subst q; exact .inr hp
    · rw [upd_ne q] at h; exact .inl h
/-- a new object that is not frozen -/
theorem Ext.own {p : Addr} {o : HO} (e : Same F H) (hp : H p = none) : Ext F F H (upd H p o) :=
  ⟨Same.refl F, fun a u h => by rw [upd_ne (ne_of_none h hp)]; exact h, fun a u h => by rw [upd_ne (ne_of_none (e a u h) hp)]; exact e a u h, fun _ _ h => .inl h⟩
/-- a heap that has grown: all that is new is frozen -/
theorem Ext.grown (e : Same F H) (s : Same H H') : ∃ F', Ext F F' H H' ∧ ∀ a, F' a = if H a = none then H' a else F a := by
  refine ⟨fun a => if H a = none then H' a else F a, ⟨fun a u h => ?_, s, fun a u h => ?_, fun a u h => ?_⟩, fun _ => rfl⟩
  · have := e a u h
    simp only [this]
    simpa using h
  · by_cases q : H a = none
    · simpa [q] using h
    · simp only [q, if_false] at h
      exact s _ _ (e _ _ h)
  · by_cases q : H a = none
    · exact .inr q
    · simp only [q, if_false] at h
      exact .inl h
theorem Ext.none {a : Addr} {o : HO} (x : Ext F F' H H') (h : H a = some o) (n : F a = none) : F' a = none := by
  cases q : F' a with
  | none => rfl
  | some u =>
    rcases x.new a u q with z | z
    · rw [n] at z; cases z
    · rw [h] at z; cases z

/-! ### slots -/
def SlotOk (K : PySem.W.Frag) (F H : Hp) (o : Option (Option V)) : Sl → Prop
  | .un => True
  | .fz d => ∃ v, o = some (some v) ∧ Dq K F v d
  | .ol ds => ∃ l xs, o = some (some (.ref l)) ∧ H l = some (.lst xs) ∧ F l = none ∧ DqAll K F xs ds
  | .od kvs => ∃ l ks, o = some (some (.ref l)) ∧ H l = some (.dK ks) ∧ F l = none ∧ KvP K F ks kvs
theorem SlotOk.ext {o : Option (Option V)} {s : Sl} (x : Ext F F' H H') (h : SlotOk K F H o s) : SlotOk K F' H' o s := by
  cases s with
  | un => trivial
  | fz d => obtain ⟨v, e, q⟩ := h; exact ⟨v, e, q.up x.f⟩
  | ol ds => obtain ⟨l, xs, e, h1, h2, q⟩ := h; exact ⟨l, xs, e, x.h _ _ h1, x.none h1 h2, q.up x.f⟩
  | od kvs => obtain ⟨l, ks, e, h1, h2, q⟩ := h; exact ⟨l, ks, e, x.h _ _ h1, x.none h1 h2, q.up x.f⟩
structure RE (K : PySem.W.Frag) (F H : Hp) (σ : L2.St) (env : Env) : Prop where
  sub : Same F H
  len : env.length = σ.length
  slot : ∀ i, SlotOk K F H (σ[i]?) (getS env i)
theorem RE.ext {σ : L2.St} {env : Env} (R : RE K F H σ env) (x : Ext F F' H H') : RE K F' H' σ env := ⟨x.sub, R.len, fun i => (R.slot i).ext x⟩

/-- a value that is looked at: frozen, or this def's own list or dict -/
inductive Pk (K : PySem.W.Frag) (F H : Hp) (v : V) : D → Prop
  | dq {d : D} : Dq K F v d → Pk K F H v d
  | ol {l : Addr} {xs : List V} {ds : List D} : v = .ref l → H l = some (.lst xs) → DqAll K F xs ds → Pk K F H v (.list ds)
  | od {l : Addr} {ks : List (Key × V)} {kvs : List (D × D)} : v = .ref l → H l = some (.dK ks) → KvP K F ks kvs → Pk K F H v (.dict kvs)
theorem Pk.ext {v : V} {d : D} (x : Ext F F' H H') (h : Pk K F H v d) : Pk K F' H' v d := by
  cases h with
  | dq q => exact .dq (q.up x.f)
  | ol e h q => exact .ol e (x.h _ _ h) (q.up x.f)
  | od e h q => exact .od e (x.h _ _ h) (q.up x.f)
end

/-! ### readings from the evaluator -/
/-- what is wanted of an exception, by its class -/
abbrev WN := Str → L2.St → Hp → Prop
def rs {β : Type} (W : WN) (σ : L2.St) (F H : Hp) (okb : Hp → Hp → β → Prop) : Res β → Prop
  | .ok b => okb F H b
  | .ex c => ∀ H', Same H H' → W c σ H'
  | .bad => False
def Mn {β : Type} (okb : Hp → Hp → β → Prop) : Prop := ∀ F F' H H' b, Ext F F' H H' → okb F H b → okb F' H' b
def okE (K : PySem.W.Frag) (Q : VK) : Hp → Hp → D → Prop := fun F H d => ∀ v H' F', Ext F F' H H' → Dq K F' v d → Q v H'
def okP (K : PySem.W.Frag) (Q : VK) : Hp → Hp → D → Prop := fun F H d => ∀ v H' F', Ext F F' H H' → Pk K F' H' v d → Q v H'
def okT (Q : Bool → Hp → Prop) : Hp → Hp → Bool → Prop := fun F H b => ∀ H' F', Ext F F' H H' → Q b H'
def okA (K : PySem.W.Frag) (Q : List V → Hp → Prop) : Hp → Hp → List D → Prop := fun F H ds => ∀ vs H' F', Ext F F' H H' → DqAll K F' vs ds → Q vs H'
theorem mnE {K : PySem.W.Frag} {Q : VK} : Mn (okE K Q) := fun _ _ _ _ _ x h v H' F' y q => h v H' F' (x.trans y) q
theorem mnP {K : PySem.W.Frag} {Q : VK} : Mn (okP K Q) := fun _ _ _ _ _ x h v H' F' y q => h v H' F' (x.trans y) q
theorem mnT {Q : Bool → Hp → Prop} : Mn (okT Q) := fun _ _ _ _ _ x h H' F' y => h H' F' (x.trans y)
theorem mnA {K : PySem.W.Frag} {Q : List V → Hp → Prop} : Mn (okA K Q) := fun _ _ _ _ _ x h v H' F' y q => h v H' F' (x.trans y) q
theorem rs.ext {β : Type} {W : WN} {σ : L2.St} {F F' H H' : Hp} {okb : Hp → Hp → β → Prop} (m : Mn okb) (x : Ext F F' H H') {r : Res β} (h : rs W σ F H okb r) : rs W σ F' H' okb r := by
  cases r with
  | ok b => exact m _ _ _ _ _ x h
  | ex c => exact fun H'' s => h H'' (x.h.trans s)
  | bad => exact h
section
variable (K : PySem.W.Frag) (W : WN)
def tE (f : Env → Res D) : TE := fun σ H Q => ∃ F env, RE K F H σ env ∧ rs W σ F H (okE K Q) (f env)
def tP (f : Env → Res D) : TE := fun σ H Q => ∃ F env, RE K F H σ env ∧ rs W σ F H (okP K Q) (f env)
def tT (f : Env → Res Bool) : TT := fun σ H Q => ∃ F env, RE K F H σ env ∧ rs W σ F H (okT Q) (f env)
def tA (f : Env → Res (List D)) : TA := fun σ H Q => ∃ F env, RE K F H σ env ∧ rs W σ F H (okA K Q) (f env)
end
section
variable {X : Cx} {W : WN} {e : Expr}
theorem PE.weak {t t' : TE} (h : PE X e t) (w : ∀ σ H Q, t' σ H Q → t σ H Q) : PE X e t' := ⟨fun pins s σ H Q I q => h.run pins s σ H Q I (w _ _ _ q)⟩
theorem PT.weak {t t' : TT} (h : PT X e t) (w : ∀ σ H Q, t' σ H Q → t σ H Q) : PT X e t' := ⟨fun pins s σ H Q I q => h.run pins s σ H Q I (w _ _ _ q)⟩
theorem PW.weak {t t' : TT} (h : PW X e t) (w : ∀ σ H Q, t' σ H Q → t σ H Q) : PW X e t' := ⟨fun wh pins s σ H Q I q => h.run wh pins s σ H Q I (w _ _ _ q)⟩
theorem PA.weak {es : List Expr} {t t' : TA} (h : PA X es t) (w : ∀ σ H Q, t' σ H Q → t σ H Q) : PA X es t' := ⟨fun pos pins s σ H Q I q => h.run pos pins s σ H Q I (w _ _ _ q)⟩
theorem PS.weak {st : Stmt} {t t' : TS} (h : PS X st t) (w : ∀ D σ H, t' D σ H → t D σ H) : PS X st t' := ⟨fun pins s σ H D I q => h.run pins s σ H D I (w _ _ _ q)⟩
theorem PSs.weak {st : List Stmt} {t t' : TS} (h : PSs X st t) (w : ∀ D σ H, t' D σ H → t D σ H) : PSs X st t' := ⟨fun pins s σ H D I q => h.run pins s σ H D I (w _ _ _ q)⟩
variable {K : PySem.W.Frag} {F H : Hp} {σ : L2.St} {env : Env} {β : Type} {okb : Hp → Hp → β → Prop} {f : Env → Res D}
/-- the step: a part is read, then the rest -/
theorem goE {k : D → Res β} {P : VK} (m : Mn okb) (R : RE K F H σ env) (h : rs W σ F H okb (f env >>= k)) (cont : ∀ d v F1 H1, f env = .ok d → Ext F F1 H H1 → RE K F1 H1 σ env → Dq K F1 v d → rs W σ F1 H1 okb (k d) → P v H1) : tE K W f σ H P := by
  refine ⟨F, env, R, ?_⟩
  cases q : f env with
  | ok d => rw [q] at h; exact fun v H' F' x z => cont d v F' H' q x (R.ext x) z (h.ext m x)
  | ex c => rw [q] at h; exact h
  | bad => rw [q] at h; exact h
theorem goP {k : D → Res β} {P : VK} (m : Mn okb) (R : RE K F H σ env) (h : rs W σ F H okb (f env >>= k)) (cont : ∀ d v F1 H1, f env = .ok d → Ext F F1 H H1 → RE K F1 H1 σ env → Pk K F1 H1 v d → rs W σ F1 H1 okb (k d) → P v H1) : tP K W f σ H P := by
  refine ⟨F, env, R, ?_⟩
  cases q : f env with
  | ok d => rw [q] at h; exact fun v H' F' x z => cont d v F' H' q x (R.ext x) z (h.ext m x)
  | ex c => rw [q] at h; exact h
  | bad => rw [q] at h; exact h
theorem goT {f : Env → Res Bool} {k : Bool → Res β} {P : Bool → Hp → Prop} (m : Mn okb) (R : RE K F H σ env) (h : rs W σ F H okb (f env >>= k)) (cont : ∀ b F1 H1, f env = .ok b → Ext F F1 H H1 → RE K F1 H1 σ env → rs W σ F1 H1 okb (k b) → P b H1) : tT K W f σ H P := by
  refine ⟨F, env, R, ?_⟩
  cases q : f env with
  | ok d => rw [q] at h; exact fun H' F' x => cont d F' H' q x (R.ext x) (h.ext m x)
  | ex c => rw [q] at h; exact h
  | bad => rw [q] at h; exact h
theorem goA {f : Env → Res (List D)} {k : List D → Res β} {P : List V → Hp → Prop} (m : Mn okb) (R : RE K F H σ env) (h : rs W σ F H okb (f env >>= k)) (cont : ∀ ds vs F1 H1, f env = .ok ds → Ext F F1 H H1 → RE K F1 H1 σ env → DqAll K F1 vs ds → rs W σ F1 H1 okb (k ds) → P vs H1) : tA K W f σ H P := by
  refine ⟨F, env, R, ?_⟩
  cases q : f env with
  | ok d => rw [q] at h; exact fun vs H' F' x z => cont d vs F' H' q x (R.ext x) z (h.ext m x)
  | ex c => rw [q] at h; exact h
  | bad => rw [q] at h; exact h
/-- the end: nothing more is laid -/
theorem rs.end {F H : Hp} {Q : VK} {d : D} {v : V} (h : rs W σ F H (okE K Q) (.ok d)) (e : Same F H) (q : Dq K F v d) : Q v H := h v H F (Ext.refl e) q
end
end BW

namespace BW
open PySem PySem.W L2 PySem.Spec PyProof.Rows

theorem size_of {n : Nat} (h : sizeOk n = true) : n ≤ 1000000 := of_decide_eq_true h
theorem size_line {n : Nat} (h : sizeOk n = true) : n ≤ sizeLine := Nat.le_trans (size_of h) (by rw [sizeLine_eq]; decide)
theorem size_lt {n : Nat} (h : sizeOk n = true) : n < sizeLine := Nat.lt_of_le_of_lt (size_of h) (by rw [sizeLine_eq]; decide)
section
variable {K : PySem.W.Frag} {F H : Hp} {v : V} {X : Cx}
theorem Pk.int {i : Int} (h : Pk K F H v (.int i)) : v = .int i := by cases h with | dq q => cases q; rfl
theorem Pk.bl {b : Bool} (h : Pk K F H v (.bool b)) : v = .bl b := by cases h with | dq q => cases q; rfl
theorem Pk.str {x : Str} (h : Pk K F H v (.str x)) : v = .str x := by cases h with | dq q => cases q; rfl
theorem Pk.non (h : Pk K F H v .none) : v = .non := by cases h with | dq q => cases q; rfl
theorem Pk.lst {ds : List D} (e : Same F H) (h : Pk K F H v (.list ds)) : ∃ l xs, v = .ref l ∧ Rd H l (.lst xs) ∧ DqAll K F xs ds := by
  cases h with
  | dq q => cases q with | lst h1 h2 => exact ⟨_, _, rfl, Same.rd e h1, h2⟩
  | ol a b c => exact ⟨_, _, a, .inl b, c⟩
theorem Pk.tup {ds : List D} (e : Same F H) (h : Pk K F H v (.tuple ds)) : ∃ l xs, v = .ref l ∧ SqT K H l xs ∧ DqAll K F xs ds := by
  cases h with
  | dq q => cases q with | tup h1 h2 => exact ⟨_, _, rfl, (Same.sqN e h1).sq, h2⟩
theorem Pk.tupN {ds : List D} (e : Same F H) (h : Pk K F H v (.tuple ds)) : ∃ l xs, v = .ref l ∧ SqN K H l xs ∧ DqAll K F xs ds := by
  cases h with
  | dq q => cases q with | tup h1 h2 => exact ⟨_, _, rfl, Same.sqN e h1, h2⟩
theorem Pk.tupF {ds : List D} (h : Pk K F H v (.tuple ds)) : Dq K F v (.tuple ds) := by
  cases h with | dq q => exact q
theorem Pk.dict {kvs : List (D × D)} (e : Same F H) (ok : okKeys kvs = true) (h : Pk K F H v (.dict kvs)) : ∃ l ks, v = .ref l ∧ Rd H l (.dK ks) ∧ KvP K F ks kvs := by
  cases h with
  | dq q =>
    cases q with
    | dK a b => exact ⟨_, _, rfl, Same.rd e a, b⟩
    | scr a b => simp [okKeys, keyOf] at ok
    | wp a b => simp [okKeys, keyOf] at ok
  | od a b c => exact ⟨_, _, a, .inl b, c⟩
theorem Pk.scr {ds : List D} (e : Same F H) (h : Pk K F H v (.dict [(.none, .list ds)])) : ∃ l xs, v = .ref l ∧ SqL K H l xs ∧ DqAll K F xs ds := by
  have no : ∀ ks, ¬ KvP K F ks [(.none, .list ds)] := fun ks z => by
    generalize hk : ([(.none, .list ds)] : List (D × D)) = kvs at z
    cases z with
    | nil => cases hk
    | @cons k v d ks ds' a b => cases k <;> cases hk
  cases h with
  | dq q =>
    generalize hk : (PyData.dict [(.none, .list ds)]) = dd at q
    cases q with
    | dK a b => cases hk; exact absurd b (no _)
    | scr a b => cases hk; exact ⟨_, _, rfl, Same.sqL e a, b⟩
    | _ => cases hk
  | od a b c => exact absurd c (no _)
/-- the object of a list that may be read -/
theorem Inv.rdL {pins : List (Addr × Obj)} {σ : L2.St} {s : Shared} {l : Addr} {xs : List V} (I : Inv X pins σ H s) (h : Rd H l (.lst xs)) :
    xs.length ≤ sizeLine ∧ ∃ (its : List Value) (n : Nat), Vals xs its ∧ xs.length = its.length ∧ s.heap.get? l = some { cls := .type "list", data := .seq its.toArray n } := by
  obtain ⟨z, its, n, r, e⟩ := h.ok I.hok
  exact ⟨z, its, n, r, r.length, e⟩
theorem sqL_of_rd {l : Addr} {xs : List V} (h : Rd H l (.lst xs)) : SqL K H l xs := .inl h
/-- the end of a rule that lays a new list, a new tuple -/
theorem new_lst {Q : VK} {ds : List D} {xs : List V} (e : Same F H) (h : okE K Q F H (.list ds)) (q : DqAll K F xs ds) : ∀ p, H p = none → Q (.ref p) (upd H p (.lst xs)) := fun p hp =>
  h _ _ _ (Ext.laid (o := .lst xs) e hp) (.lst (.inl upd_same) (q.up (Ext.laid e hp).f))
theorem new_tup {Q : VK} {ds : List D} {xs : List V} (e : Same F H) (h : okE K Q F H (.tuple ds)) (q : DqAll K F xs ds) : ∀ p o, H p = none → o.dict = none → Q (.ref p) (upd H p (.frz o (.tup xs))) := fun p o hp hd =>
  h _ _ _ (Ext.laid (o := .frz o (.tup xs)) e hp) (.tup (.inl ⟨o, upd_same, hd⟩) (q.up (Ext.laid e hp).f))
/-- a new tuple laid, known to its object -/
theorem laidN {pins : List (Addr × Obj)} {σ : L2.St} {s : Shared} {Q : VK} {xs : List V} {us : List Value} {o : Obj} {n k : Nat} (I : Inv X pins σ H s) (hc : o.cls = .type "tuple") (hd : o.dict = none) (r : Vals xs us) (hdt : o.data = .seq us.toArray n) (hz : xs.length ≤ sizeLine)
    (h : ∀ p o, H p = none → o.dict = none → Q (.ref p) (upd H p (.frz o (.tup xs)))) : EP X pins σ Q (.ref s.heap.objs.size) { s with heap := s.heap.push o, toks := k } := by
  have hp := I.hok.fresh (Nat.le_refl _)
  have e : (s.heap.push o).get? s.heap.objs.size = some o := Heap.get?_push_size _ (by obtain ⟨oc, od, dt, osl⟩ := o; simp only at hdt; subst hdt; rfl)
  exact ⟨.ref s.heap.objs.size, upd H s.heap.objs.size (.frz o (.tup xs)), I.laid (fun b u q => Heap.get?_push_of_some _ q) (Nat.le_refl _) ⟨e, hz, us, r, o, e, hc, n, hdt⟩, rfl, h _ o hp hd⟩
theorem okE.fin {Q : VK} {d : D} (h : okE K Q F H d) (e : Same F H) (q : Dq K F v d) : Q v H := h v H F (Ext.refl e) q

/-! ### list + list, list * int for lists that are read -/
def rCatR : R2 := fun x y H Q => ∃ l b xs zs, x = .ref l ∧ y = .ref b ∧ Rd H l (.lst xs) ∧ Rd H b (.lst zs) ∧ xs.length + zs.length ≤ sizeLine ∧ ∀ p, H p = none → Q (.ref p) (upd H p (.lst (xs ++ zs)))
theorem op_catR : OpR X (binaryOp .Add) rCatR := by
  intro pins s σ H x y v u Q I rx ry h
  obtain ⟨l, b, xs, zs, rfl, rfl, hH, hB, hz, q⟩ := h
  cases rx
  cases ry
  obtain ⟨z, its, n, r, hl, e⟩ := Inv.rdL I hH
  obtain ⟨z2, its2, n2, r2, hl2, e2⟩ := Inv.rdL I hB
  refine PySem.P.add_list e e2 ?_ (by rw [List.size_toArray, List.size_toArray]; omega)
  have ea : its.toArray ++ its2.toArray = (its ++ its2).toArray := by simp
  rw [ea]
  exact ⟨.ref _, _, I.lnew (t' := s.toks) (r.append r2) (by rw [List.length_append]; omega), rfl, q _ I.fresh⟩
def rRepR : R2 := fun x y H Q => ∃ l k xs, x = .ref l ∧ y = .int k ∧ Rd H l (.lst xs) ∧ -(2 ^ 63) ≤ k ∧ k < 2 ^ 63 ∧ xs.length * k.toNat ≤ sizeLine ∧
  ∀ p, H p = none → Q (.ref p) (upd H p (.lst (List.replicate k.toNat xs).flatten))
theorem op_repR : OpR X (binaryOp .Mult) rRepR := by
  intro pins s σ H x y v u Q I rx ry h
  obtain ⟨l, k, xs, rfl, rfl, hH, h1, h2, hz, q⟩ := h
  cases rx
  obtain ⟨t, rfl⟩ := ry
  obtain ⟨z, its, n, r, hl, e⟩ := Inv.rdL I hH
  have hlen : its.toArray.size * k.toNat ≤ sizeLine := by rw [List.size_toArray, ← hl]; exact hz
  have hcap : ¬ its.toArray.size * k.toNat > (2 ^ 63 - 1) / 8 := by
    have : (sizeLine : Nat) ≤ (2 ^ 63 - 1) / 8 := by decide
    omega
  have hfit : ¬ (!Builtin.List.listFitsIndex k) = true := by
    rw [fitsIndex_both h1 h2]
    exact Bool.false_ne_true
  have hlong : ¬ Builtin.List.listTooLong (its.toArray.size * k.toNat) = true := by
    rw [notLongL hlen]
    exact Bool.false_ne_true
  have hnew : List.foldl (fun x1 x2 => x1 ++ x2) #[] (List.replicate (if its.toArray.isEmpty = true then 0 else k.toNat) its.toArray) = (List.replicate k.toNat its).flatten.toArray := by
    have f0 : ∀ m : Nat, List.foldl (fun x1 x2 => x1 ++ x2) #[] (List.replicate m its.toArray) = (List.replicate m its).flatten.toArray := fun m => by
      have := foldl_rep its m []
      rw [List.nil_append] at this
      exact this
    rw [f0]
    cases its with
    | nil => simp
    | cons a r' => rw [if_neg (by simp)]
  refine wpAny_binaryOp_repeat_ref (T := "list") (U := "int") (by decide) ⟨_, e, rfl⟩ (fun s' => typeIs_int s' k t) noFill_list_mul PySem.F.fills_int_mul PySem.F.slot_int_rmul repeat_list PySem.F.slot_int_index.lookup
    (call_meets PySem.F.slot_int_rmul (typeIs_int s k t) PySem.F.entry_int_rmul (PySem.F.args_int_rmul_2 _ _) (int___rmul___int_list k t l its.toArray n)
      ⟨e, rfl, ⟨_, e, rfl⟩, call_meets PySem.F.slot_list_mul ⟨_, e, rfl⟩ PySem.F.entry_list_mul (PySem.F.args_list_mul_2 _ _) (AutoListH.list___mul___list_int_3 l its.toArray n k t hfit hcap hlong) ⟨e, ?_⟩⟩)
  rw [hnew]
  exact ⟨.ref _, _, I.lnew (t' := s.toks) (r.rep k.toNat) (by rw [PyProof.Rows.lm_len_rep_flat, Nat.mul_comm]; exact hz), rfl, q _ I.fresh⟩
/-- a tuple times one is itself -/
theorem tuple_mul1 (l : Addr) (items : Array Value) (n : Nat) (dd : Option Addr) (sl : Array (Option Value)) (u : Tok) :
    Meets (Builtin.«tuple.__mul__» ⟨[.ref l, .int 1 u], []⟩) (fun _ R s => s.heap.get? l = some { cls := .type "tuple", dict := dd, data := .seq items n, slots := sl } ∧ R (.ok (.ret (Value.ref l))) s) :=
  .of_wp fun prog w A R s h => by
    obtain ⟨hp, g, d, tk, os⟩ := s
    obtain ⟨hl, h⟩ := h
    have f1 := AutoSeq1.idx_int
    wp_walk using wpAny_loadPart' hl
    repeat (first
      | (refine wpAny_ite_false (decide_eq_false (by decide)) ?_; wp_walk using wpAny_loadPart' hl)
      | (refine wpAny_ite_true (by simp) ?_; wp_walk using wpAny_loadPart' hl))
    exact ⟨_, rfl, h⟩
/-- t + u -/
def rCatN (K : PySem.W.Frag) : R2 := fun x y H Q => ∃ a b xs ys, x = .ref a ∧ y = .ref b ∧ SqT K H a xs ∧ SqT K H b ys ∧ xs.length + ys.length ≤ sizeLine ∧
  (xs = [] → Q (.ref b) H) ∧ (xs ≠ [] → ys = [] → Q (.ref a) H) ∧ (xs ≠ [] → ys ≠ [] → ∀ p o, H p = none → o.dict = none → Q (.ref p) (upd H p (.frz o (.tup (xs ++ ys)))))
theorem op_catN : OpR X (binaryOp .Add) (rCatN X.K) := by
  intro pins s σ H x y v u Q I rx ry h
  obtain ⟨a, b, xs, ys, rfl, rfl, ha, hb, hz, q0, q1, q2⟩ := h
  cases rx
  cases ry
  obtain ⟨its, r1, p1, _⟩ := I.tuple ha
  obtain ⟨its2, r2, p2, _⟩ := I.tuple hb
  by_cases hx : xs = []
  · subst hx
    cases r1
    exact cat_tup0 p1 p2 ⟨.ref b, H, I, rfl, q0 rfl⟩
  · refine HT.cat_tup p1 p2 (fun z => hx (r1.nil_iff.mp z)) (fun z => ⟨.ref a, H, I, rfl, q1 hx (r2.nil_iff.mp z)⟩) (fun z => ?_) (by rw [← r1.length, ← r2.length]; exact hz)
    exact laidN (k := s.toks) I rfl rfl (r1.append r2) rfl (by rw [List.length_append]; exact hz) (q2 hx fun w => z (r2.nil_iff.mpr w))
/-- tuple * int -/
def rRepTu (K : PySem.W.Frag) : R2 := fun x y H Q => ∃ l k xs, x = .ref l ∧ y = .int k ∧ SqT K H l xs ∧ xs ≠ [] ∧ 1 ≤ k ∧ k ≤ 1000 ∧ xs.length ≤ 1000 ∧ (k = 1 → Q (.ref l) H) ∧ (k ≠ 1 → ∀ p o, H p = none → o.dict = none → Q (.ref p) (upd H p (.frz o (.tup (List.replicate k.toNat xs).flatten))))
theorem op_repTu : OpR X (binaryOp .Mult) (rRepTu X.K) := by
  intro pins s σ H x y v u Q I rx ry h
  obtain ⟨l, k, xs, rfl, rfl, hT, hne, h1, h2, hz, q1, q⟩ := h
  cases rx
  obtain ⟨t, rfl⟩ := ry
  obtain ⟨its, r, ⟨⟨cls, dd, data, sl⟩, ho, hc, n, hd⟩, hs⟩ := I.tuple hT
  simp only at hc hd
  subst hc hd
  by_cases hk : k = 1
  · subst hk
    refine wpAny_binaryOp_repeat_ref (T := "tuple") (U := "int") (by decide) ⟨_, ho, rfl⟩ (fun s' => typeIs_int s' 1 t) noFill_tuple_mul PySem.F.fills_int_mul PySem.F.slot_int_rmul repeat_tuple PySem.F.slot_int_index.lookup
      (call_meets PySem.F.slot_int_rmul (typeIs_int s 1 t) PySem.F.entry_int_rmul (PySem.F.args_int_rmul_2 _ _) (int_rmul_tuple 1 t l its.toArray n dd sl)
        ⟨ho, rfl, ⟨_, ho, rfl⟩, call_meets PySem.F.slot_tuple_mul ⟨_, ho, rfl⟩ PySem.F.entry_tuple_mul (PySem.F.args_tuple_mul_2 _ _) (tuple_mul1 l its.toArray n dd sl t) ⟨ho, ?_⟩⟩)
    exact ⟨.ref l, H, I, rfl, q1 rfl⟩
  · have hsz : its.toArray.size = xs.length := by rw [List.size_toArray]; exact r.length.symm
    have hie : its.toArray.isEmpty = false := by
      cases its with
      | nil => exact absurd (List.eq_nil_of_length_eq_zero r.length) hne
      | cons a b => rfl
    have hbig : k.toNat * xs.length ≤ 1000 * 1000 := Nat.mul_le_mul (by omega) hz
    have hlen : (List.replicate k.toNat xs).flatten.length ≤ sizeLine := by
      rw [PyProof.Rows.lm_len_rep_flat, sizeLine_eq]; omega
    have hlen2 : (List.replicate k.toNat its).flatten.length ≤ sizeLine := by
      rw [PyProof.Rows.lm_len_rep_flat, sizeLine_eq, ← r.length]; omega
    have hmul : ((its.toArray.size : Nat) : Int) * k ≤ 1000000 := by
      rw [hsz]
      have : ((xs.length : Nat) : Int) * k ≤ 1000 * k := Int.mul_le_mul_of_nonneg_right (by omega) (by omega)
      omega
    refine wpAny_binaryOp_repeat_ref (T := "tuple") (U := "int") (by decide) ⟨_, ho, rfl⟩ (fun s' => typeIs_int s' k t) noFill_tuple_mul PySem.F.fills_int_mul PySem.F.slot_int_rmul repeat_tuple PySem.F.slot_int_index.lookup
      (call_meets PySem.F.slot_int_rmul (typeIs_int s k t) PySem.F.entry_int_rmul (PySem.F.args_int_rmul_2 _ _) (int_rmul_tuple k t l its.toArray n dd sl)
        ⟨ho, rfl, ⟨_, ho, rfl⟩, call_meets PySem.F.slot_tuple_mul ⟨_, ho, rfl⟩ PySem.F.entry_tuple_mul (PySem.F.args_tuple_mul_2 _ _)
          (tuple_mulW l its.toArray n dd sl k t (by rw [decide_eq_false (by omega), decide_eq_false (by omega)]; rfl) (by rw [hie, Bool.false_or]; exact beq_eq_false_iff_ne.mpr hk)
            (by rw [hie, Bool.or_false]; exact decide_eq_false (by omega)) (by omega) (by unfold Builtin.Tuple.tupleTooMany; rw [sizeLine_eq]; exact decide_eq_false (by omega)) (by rw [size_rep, List.size_toArray]; exact hlen2)) ⟨ho, ?_⟩⟩)
    rw [size_rep]
    exact laidN (k := s.toks) I rfl rfl (r.rep k.toNat) rfl hlen (q hk)

/-! ### the operators, by data -/
def opM : Op → Operator
  | .add => .Add | .sub => .Sub | .mul => .Mult | .fdiv => .FloorDiv | .mod => .Mod | .pow => .Pow | .shl => .LShift | .shr => .RShift | .band => .BitAnd
/-- a rule by data: g tells what comes of them -/
def rD2 (K : PySem.W.Frag) (g : D → D → Res D) : R2 := fun x y H Q => ∃ F dx dy d, Same F H ∧ Pk K F H x dx ∧ Pk K F H y dy ∧ g dx dy = .ok d ∧ okE K Q F H d
theorem ite_ok {β : Type} {c : Prop} [Decidable c] {a b : β} (h : (if c then Res.ok a else .bad) = .ok b) : c ∧ a = b := by
  by_cases hc : c
  · rw [if_pos hc] at h; cases h; exact ⟨hc, rfl⟩
  · rw [if_neg hc] at h; cases h
theorem smallI_of {i : Int} (h : smallI i = true) : -(2 ^ 64) < i ∧ i < 2 ^ 64 := by
  unfold smallI at h
  simp only [Bool.and_eq_true, decide_eq_true_eq] at h
  exact h
theorem opR_D (o : Op) : OpR X (binaryOp (opM o)) (rD2 X.K (opD o)) := by
  intro pins s σ H x y v u Q I rx ry ⟨F, dx, dy, d, e, px, py, hg, q⟩
  cases o with
  | add =>
    cases dx <;> cases dy <;> try (exfalso; revert hg; simp [opD]; done)
    · cases px.int; cases py.int; cases hg
      exact op_add pins s σ H _ _ v u Q I rx ry ⟨_, _, rfl, rfl, q.fin e (.int _)⟩
    · obtain ⟨hz, rfl⟩ := ite_ok hg
      obtain ⟨l, xs, rfl, h1, a1⟩ := px.lst e
      obtain ⟨b, zs, rfl, h2, a2⟩ := py.lst e
      refine op_catR pins s σ H _ _ v u Q I rx ry ⟨l, b, xs, zs, rfl, rfl, h1, h2, ?_, new_lst e q (a1.app a2)⟩
      rw [a1.length, a2.length]; exact size_line hz
    · obtain ⟨hz, rfl⟩ := ite_ok hg
      obtain ⟨l, xs, rfl, h1, a1⟩ := px.tup e
      obtain ⟨b, zs, rfl, h2, a2⟩ := py.tup e
      refine op_catN pins s σ H _ _ v u Q I rx ry ⟨l, b, xs, zs, rfl, rfl, h1, h2, ?_, fun z => ?_, fun _ z => ?_, fun _ _ => new_tup e q (a1.app a2)⟩
      · rw [a1.length, a2.length]; exact size_line hz
      · subst z; cases a1; exact q.fin e py.tupF
      · subst z; cases a2; rw [List.append_nil] at q; exact q.fin e px.tupF
  | sub =>
    cases dx <;> cases dy <;> try (exfalso; revert hg; simp [opD]; done)
    cases px.int; cases py.int; cases hg
    exact op_sub pins s σ H _ _ v u Q I rx ry ⟨_, _, rfl, rfl, q.fin e (.int _)⟩
  | mul =>
    cases dx <;> cases dy <;> try (exfalso; revert hg; simp [opD]; done)
    · cases px.int; cases py.int
      obtain ⟨hz, rfl⟩ := ite_ok hg
      refine op_mul pins s σ H _ _ v u Q I rx ry ⟨_, _, rfl, rfl, ?_, q.fin e (.int _)⟩
      rcases Bool.or_eq_true_iff.mp hz with z | z
      · exact .inl (smallI_of z)
      · exact .inr (smallI_of z)
    · obtain ⟨hz, rfl⟩ := ite_ok hg
      obtain ⟨l, xs, rfl, h1, a1⟩ := px.lst e
      cases py.int
      simp only [Bool.and_eq_true, decide_eq_true_eq] at hz
      refine op_repR pins s σ H _ _ v u Q I rx ry ⟨l, _, xs, rfl, rfl, h1, by omega, by omega, ?_, new_lst e q (a1.rep _)⟩
      rw [a1.length]; exact size_line hz.2
    · obtain ⟨hz, rfl⟩ := ite_ok hg
      obtain ⟨l, xs, rfl, h1, a1⟩ := px.tup e
      cases py.int
      simp only [Bool.and_eq_true, decide_eq_true_eq, Bool.not_eq_true', List.isEmpty_eq_false_iff] at hz
      obtain ⟨⟨⟨z1, z2⟩, z3⟩, z4⟩ := hz
      refine op_repTu pins s σ H _ _ v u Q I rx ry ⟨l, _, xs, rfl, rfl, h1, ?_, z1, z2, ?_, fun z => ?_, fun _ => new_tup e q (a1.rep _)⟩
      · intro z; subst z; cases a1; exact z3 rfl
      · rw [a1.length]; exact z4
      · subst z
        simp only [Int.toNat_one, List.replicate_one, List.flatten_cons, List.flatten_nil, List.append_nil] at q
        exact q.fin e px.tupF
  | fdiv =>
    cases dx <;> cases dy <;> try (exfalso; revert hg; simp [opD]; done)
    cases px.int; cases py.int
    obtain ⟨hz, rfl⟩ := ite_ok hg
    simp only [Bool.and_eq_true, decide_eq_true_eq] at hz
    exact op_fdiv pins s σ H _ _ v u Q I rx ry ⟨_, _, rfl, rfl, hz, q.fin e (.int _)⟩
  | mod =>
    cases dx <;> cases dy <;> try (exfalso; revert hg; simp [opD]; done)
    cases px.int; cases py.int
    obtain ⟨hz, rfl⟩ := ite_ok hg
    exact op_mod pins s σ H _ _ v u Q I rx ry ⟨_, _, rfl, rfl, of_decide_eq_true hz, q.fin e (.int _)⟩
  | pow =>
    cases dx <;> cases dy <;> try (exfalso; revert hg; simp [opD]; done)
    cases px.int; cases py.int
    obtain ⟨hz, rfl⟩ := ite_ok hg
    simp only [Bool.and_eq_true, decide_eq_true_eq] at hz
    exact op_pow pins s σ H _ _ v u Q I rx ry ⟨_, _, rfl, rfl, ⟨hz.1.1, hz.1.2, hz.2⟩, q.fin e (.int _)⟩
  | shl =>
    cases dx <;> cases dy <;> try (exfalso; revert hg; simp [opD]; done)
    cases px.int; cases py.int
    obtain ⟨hz, rfl⟩ := ite_ok hg
    simp only [Bool.and_eq_true, decide_eq_true_eq] at hz
    exact op_shl pins s σ H _ _ v u Q I rx ry ⟨_, _, rfl, rfl, ⟨hz.1.1, hz.1.2, hz.2⟩, q.fin e (.int _)⟩
  | shr =>
    cases dx <;> cases dy <;> try (exfalso; revert hg; simp [opD]; done)
    cases px.int; cases py.int
    obtain ⟨hz, rfl⟩ := ite_ok hg
    exact op_shr pins s σ H _ _ v u Q I rx ry ⟨_, _, rfl, rfl, of_decide_eq_true hz, q.fin e (.int _)⟩
  | band =>
    cases dx <;> cases dy <;> try (exfalso; revert hg; simp [opD]; done)
    cases px.int; cases py.int; cases hg
    exact op_and pins s σ H _ _ v u Q I rx ry ⟨_, _, rfl, rfl, q.fin e (.int _)⟩

/-! ### comparisons, by data -/
def cmpM : Cmp → CmpOp
  | .eq => .Eq | .ne => .NotEq | .lt => .Lt | .le => .LtE | .gt => .Gt | .ge => .GtE | .isin => .In | .notin => .NotIn
theorem sm_plain {d : D} (h : sm d = true) : d.plain = true := (Bool.and_eq_true_iff.mp h).1
theorem sm_depth {d : D} (h : sm d = true) : d.depth ≤ 60 := of_decide_eq_true (Bool.and_eq_true_iff.mp h).2
/-- a frozen value from a plain datum -/
theorem Pk.reads {pins : List (Addr × Obj)} {s : Shared} {σ : L2.St} {d : D} {u : Value} (I : Inv X pins σ H s) (e : Same F H) (h : Pk X.K F H v d) (r : RelV v u) (hp : d.plain = true) : ∃ as, Reads s.heap u d as := by
  cases h with
  | dq q => exact Dq.reads I hp (q.up e) r
  | @ol l xs ds a b c =>
    subst a
    exact Dq.reads I hp (Dq.lst (.inl b) (c.up e)) r
  | od a b c => cases hp
end
end BW

namespace BW
open PySem PySem.W L2 PySem.Spec PyProof.Rows
section
variable {K : PySem.W.Frag} {F H : Hp} {v : V} {X : Cx}
def cmpV (o : Cmp) (x y : D) : Res D := do let r ← cmpB o x y; .ok (.bool r)
theorem bind_ok {α β : Type} {x : Res α} {f : α → Res β} {b : β} (h : (x >>= f) = .ok b) : ∃ a, x = .ok a ∧ f a = .ok b := by
  cases x with
  | ok a => exact ⟨a, rfl, h⟩
  | ex c => cases h
  | bad => cases h
theorem ite_okb {β : Type} {c : Bool} {a : β} {b : β} (h : (if c = true then Res.ok a else .bad) = .ok b) : c = true ∧ a = b := ite_ok h
theorem plain_list {xs : List D} (h : sm (.list xs) = true) : PyData.plainAll xs = true := by
  have := sm_plain h
  simpa only [PyData.plain] using this
theorem depth_list {xs : List D} (h : sm (.list xs) = true) : PyData.depthAll xs ≤ 60 := by
  have := sm_depth h
  simp only [PyData.depth] at this
  omega
theorem Pk.readsT {pins : List (Addr × Obj)} {s : Shared} {σ : L2.St} {xs : List D} {u : Value} (hp : PyData.plainAll xs = true) (I : Inv X pins σ H s) (e : Same F H) (h : Pk X.K F H v (.tuple xs)) (r : RelV v u) : ∃ as, Reads s.heap u (.tuple xs) as := by
  cases h with | dq q => exact Dq.reads I (by simpa [PyData.plain] using hp) (q.up e) r
theorem Pk.readsL {pins : List (Addr × Obj)} {s : Shared} {σ : L2.St} {xs : List D} {u : Value} (hp : PyData.plainAll xs = true) (I : Inv X pins σ H s) (e : Same F H) (h : Pk X.K F H v (.list xs)) (r : RelV v u) : ∃ as, Reads s.heap u (.list xs) as := by
  cases h with
  | dq q => exact Dq.reads I (by simpa [PyData.plain] using hp) (q.up e) r
  | @ol l xs ds a b c =>
    subst a
    exact Dq.reads I (by simpa [PyData.plain] using hp) (Dq.lst (.inl b) (c.up e)) r
theorem alike_none {a b : D} (h : alike a b = true) (hn : b ≠ .none) : a ≠ .none := by
  intro e; subst e
  cases b <;> simp [alike] at h
  exact hn rfl
theorem ltD_ok {a b : D} {r : Bool} (h : ltD a b = .ok r) : a.plain = true ∧ b.plain = true ∧ alike a b = true ∧ a ≠ .none ∧ a.depth ≤ 60 ∧ b.depth ≤ 60 ∧ r = dataLt a b := by
  unfold ltD at h
  split at h
  · cases h
    refine ⟨rfl, rfl, rfl, by simp, ?_, ?_, ?_⟩
    · simp [PyData.depth]
    · simp [PyData.depth]
    · rw [dataLt_int]
  · obtain ⟨hz, rfl⟩ := ite_okb h
    simp only [Bool.and_eq_true] at hz
    obtain ⟨⟨⟨z1, z2⟩, z3⟩, z4⟩ := hz
    refine ⟨sm_plain z2, sm_plain z3, z1, ?_, sm_depth z2, sm_depth z3, rfl⟩
    rintro rfl
    simp at z4
theorem alike_comm : ∀ a b : D, alike a b = alike b a := by
  have both : ∀ n : Nat, (∀ a b : D, sizeOf a + sizeOf b ≤ n → alike a b = alike b a) := by
    intro n
    induction n with
    | zero => intro a b h; cases a <;> simp at h
    | succ n ih =>
      have all : ∀ xs ys : List D, sizeOf xs + sizeOf ys ≤ n + 1 → alikeAll xs ys = alikeAll ys xs := by
        intro xs
        induction xs with
        | nil => intro ys _; cases ys <;> simp [alikeAll]
        | cons x xs ihx =>
          intro ys h
          cases ys with
          | nil => simp [alikeAll]
          | cons y ys =>
            simp only [alikeAll]
            simp only [List.cons.sizeOf_spec] at h
            rw [ih x y (by omega), ihx ys (by omega)]
      intro a b h
      cases a <;> cases b <;> try rfl
      · simp only [alike]; exact all _ _ (by simp only [PyData.list.sizeOf_spec] at h; omega)
      · simp only [alike]; exact all _ _ (by simp only [PyData.tuple.sizeOf_spec] at h; omega)
  exact fun a b => both _ a b (Nat.le_refl _)
/-! ### dict keys -/
theorem keyD_V (k : Key) : Dq K F (kV k) (keyD k) := by
  cases k with
  | inl i => exact .int i
  | inr x => exact .str x
theorem keyOf_keyD (k : Key) : keyOf (keyD k) = some k := by cases k <;> rfl
theorem keyOf_some {d : D} {k : Key} (h : keyOf d = some k) : d = keyD k := by
  cases d <;> simp [keyOf] at h <;> subst h <;> rfl
theorem eqv_keyD (a b : Key) : PyData.eqv (keyD a) (keyD b) = decide (a = b) := by
  cases a <;> cases b <;> simp [keyD, PyData.eqv]
  · rw [Bool.eq_iff_iff]; simp
  · rw [Bool.eq_iff_iff]; simp
theorem KvP.any' (k : Key) : ∀ {ks : List (Key × V)} {kvs : List (D × D)}, KvP K F ks kvs → (kvs.any fun d => PyData.eqv d.1 (keyD k)) = ks.any fun kv => decide (kv.1 = k)
  | _, _, .nil => rfl
  | _, _, .cons a t => by simp only [List.any_cons, KvP.any' k t, eqv_keyD]
theorem KvP.any {ks : List (Key × V)} {kvs : List (D × D)} (h : KvP K F ks kvs) (k : Key) : (kvs.any fun d => PyData.eqv d.1 (keyD k)) = (valV ks k).isSome := by
  rw [← valV_any]
  exact KvP.any' k h
theorem DGet.rk {H : Hp} {a : Addr} {kvs : List (Key × V)} {k : Key} (e : Rd H a (.dK kvs)) : DGet H a (kV k) (valV kvs k) := .inl ⟨kvs, k, e, rfl, rfl⟩
theorem Pk.key {k : Key} (h : Pk K F H v (keyD k)) : v = kV k := by
  cases k with
  | inl i => exact h.int
  | inr x => exact h.str

theorem cmpR_D (o : Cmp) (hu : X.A.units + 64 < cLine) : OpR X (compareOp (cmpM o)) (rD2 X.K (cmpV o)) := by
  intro pins s σ H x y v u Q I rx ry ⟨F, dx, dy, d, e, px, py, hg, q⟩
  obtain ⟨r, hr, hd⟩ := bind_ok hg
  cases hd
  have fin : EP X pins σ Q (.bool r) s := ⟨.bl r, H, I, rfl, q.fin e (.bl r)⟩
  have hin : ∀ (neg : Bool) (r : Bool), okE X.K Q F H (.bool r) → ∀ r', inD dx dy = .ok r' → r = (if neg = true then !r' else r') → wpAny (model X.prog X.w) X.A (compareOp (if neg = true then CmpOp.NotIn else .In) v u) (EP X pins σ Q) X.xe s := by
    intro neg r q r' hr er
    have fin : EP X pins σ Q (.bool r) s := ⟨.bl r, H, I, rfl, q.fin e (.bl r)⟩
    subst er
    unfold inD at hr
    split at hr
    · rename_i xs hi
      obtain ⟨hz, rfl⟩ := ite_okb hr
      obtain ⟨z1, z2⟩ := Bool.and_eq_true_iff.mp hz
      obtain ⟨as, ra⟩ := px.reads I e rx (sm_plain z1)
      have := sm_depth z1
      have := depth_list z2
      have hm : X.A.units + 1 + min (PyData.depthAll xs) dx.depth < cLine := by omega
      cases dy <;> simp [items] at hi
      · subst hi
        obtain ⟨bs, rb⟩ := py.readsL (plain_list z2) I e ry
        cases neg
        · exact PySem.SeqAt.in_list_data rb ra (plain_list z2) (sm_plain z1) hm fin
        · exact PySem.SeqAt.notIn_list_data rb ra (plain_list z2) (sm_plain z1) hm fin
      · subst hi
        obtain ⟨bs, rb⟩ := py.readsT (plain_list z2) I e ry
        cases neg
        · exact PySem.SeqAt.in_tuple_data rb ra (plain_list z2) (sm_plain z1) hm fin
        · exact PySem.SeqAt.notIn_tuple_data rb ra (plain_list z2) (sm_plain z1) hm fin
    · split at hr
      · rename_i kvs
        split at hr
        · rename_i k hk
          obtain ⟨ok, hr⟩ := ite_okb hr
          cases hr
          have hk := keyOf_some hk
          subst hk
          obtain ⟨l, ks, rfl, h1, h2⟩ := py.dict e ok
          cases ry
          rw [h2.any k] at fin
          have hx := px.key
          subst hx
          cases neg
          · exact d_in (by omega) I (DGet.rk (k := k) h1) rx fun s' I' => ⟨.bl _, H, I', rfl, q.fin e (by rw [h2.any k]; exact .bl _)⟩
          · exact d_notIn (by omega) I (DGet.rk (k := k) h1) rx fun s' I' => ⟨.bl _, H, I', rfl, q.fin e (by rw [h2.any k]; exact .bl _)⟩
        · cases hr
      · cases hr
  cases o with
  | eq =>
    obtain ⟨hz, rfl⟩ := ite_okb hr
    obtain ⟨z1, z2⟩ := Bool.and_eq_true_iff.mp hz
    obtain ⟨as, ra⟩ := px.reads I e rx (sm_plain z1)
    obtain ⟨bs, rb⟩ := py.reads I e ry (sm_plain z2)
    have := sm_depth z1
    exact PySem.SeqAt.eq_plain ra rb (sm_plain z1) (sm_plain z2) (by omega) fin
  | ne =>
    obtain ⟨hz, rfl⟩ := ite_okb hr
    obtain ⟨z1, z2⟩ := Bool.and_eq_true_iff.mp hz
    obtain ⟨as, ra⟩ := px.reads I e rx (sm_plain z1)
    obtain ⟨bs, rb⟩ := py.reads I e ry (sm_plain z2)
    have := sm_depth z1
    exact PySem.SeqAt.ne_plain ra rb (sm_plain z1) (sm_plain z2) (by omega) fin
  | lt =>
    obtain ⟨p1, p2, al, nn, d1, d2, rfl⟩ := ltD_ok hr
    obtain ⟨as, ra⟩ := px.reads I e rx p1
    obtain ⟨bs, rb⟩ := py.reads I e ry p2
    exact lt_data ra rb al nn (by omega) fin
  | gt =>
    obtain ⟨p1, p2, al, nn, d1, d2, rfl⟩ := ltD_ok hr
    obtain ⟨as, ra⟩ := px.reads I e rx p2
    obtain ⟨bs, rb⟩ := py.reads I e ry p1
    rw [alike_comm] at al
    exact gt_data ra rb al (alike_none al nn) (by omega) fin
  | le =>
    obtain ⟨r', hr', hd⟩ := bind_ok hr
    cases hd
    obtain ⟨p1, p2, al, nn, d1, d2, rfl⟩ := ltD_ok hr'
    obtain ⟨as, ra⟩ := px.reads I e rx p2
    obtain ⟨bs, rb⟩ := py.reads I e ry p1
    rw [alike_comm] at al
    exact le_data ra rb al (alike_none al nn) (by omega) fin
  | ge =>
    obtain ⟨r', hr', hd⟩ := bind_ok hr
    cases hd
    obtain ⟨p1, p2, al, nn, d1, d2, rfl⟩ := ltD_ok hr'
    obtain ⟨as, ra⟩ := px.reads I e rx p1
    obtain ⟨bs, rb⟩ := py.reads I e ry p2
    exact ge_data ra rb al nn (by omega) fin
  | isin => exact hin false r q r hr rfl
  | notin =>
    obtain ⟨r', hr', hd⟩ := bind_ok hr
    cases hd
    exact hin true _ q r' hr' rfl
end
end BW

/-! ### tuple[::-1] -/
theorem BW.fm_congr {α β : Type} {f g : α → Option β} : ∀ l : List α, (∀ x ∈ l, f x = g x) → l.filterMap f = l.filterMap g
  | [], _ => rfl
  | x :: l, h => by
    rw [List.filterMap_cons, List.filterMap_cons, h x List.mem_cons_self, BW.fm_congr l fun y hy => h y (List.mem_cons_of_mem _ hy)]
namespace HT
open PySem PySem.Spec PyProof.Rows PySem.W
section
variable {prog : Program} {w : World} {A : Around} {E : Value → Shared → Prop} {s : Shared}
theorem sliceApplied_rev {sl : Addr} {vl vu vs : Value} {n : Nat} {Q : Int × Int × Nat → Shared → Prop} (hs : s.heap.IsSliceOf sl vl vu vs) (pl : IsPart vl none) (pu : IsPart vu none) (ps : IsPart vs (some (-1)))
    (h : Q ((n : Int) - 1, -1, n) s) : wpAny (model prog w) A (Builtin.Slice.sliceApplied (.ref sl) (pure (n : Int))) Q E s := by
  obtain ⟨os, hos, hcs, hds⟩ := id hs
  unfold Builtin.Slice.sliceApplied Builtin.Slice.sliceFields
  refine wpAny_bind (wpAny_bind (wpAny_field hos hds (x := vl) rfl (wpAny_bind (wpAny_field hos hds (x := vu) rfl (wpAny_bind (wpAny_field hos hds (x := vs) rfl (wpAny_pure ?_)))))))
  refine wpAny_bind (slicePart_ ps ?_)
  show wpAny _ _ (if ((-1 : Int) == 0) = true then _ else _) _ _ s
  rw [if_neg (by decide)]
  refine wpAny_bind (slicePart_ pl (wpAny_bind (slicePart_ pu (wpAny_bind (wpAny_pure ?_)))))
  show wpAny _ _ (match Builtin.Slice.sliceAdjust none none (-1) (n : Int) with | (lo, hi) => pure (lo, (-1 : Int), Builtin.Slice.slicePlaces lo hi (-1))) _ _ s
  have e : Builtin.Slice.sliceAdjust none none (-1) (n : Int) = ((n : Int) - 1, -1) := by
    unfold Builtin.Slice.sliceAdjust
    simp
  rw [e]
  have e2 : Builtin.Slice.slicePlaces ((n : Int) - 1) (-1) (-1) = n := by
    unfold Builtin.Slice.slicePlaces
    have h1 : ¬ ((-1 : Int) > 0) := by omega
    simp only [h1, if_false, Int.neg_neg, Int.ediv_one]
    split <;> omega
  show wpAny _ _ (pure ((n : Int) - 1, (-1 : Int), Builtin.Slice.slicePlaces ((n : Int) - 1) (-1) (-1))) _ _ s
  rw [e2]
  exact wpAny_pure h
theorem pick_rev (xs : Array Value) : ((List.range xs.size).filterMap fun (m : Nat) => xs[(((xs.size : Int) - 1) + (m : Int) * (-1)).toNat]?).toArray = xs.toList.reverse.toArray := by
  have e : ((List.range xs.size).filterMap fun (m : Nat) => xs[(((xs.size : Int) - 1) + (m : Int) * (-1)).toNat]?) = ((List.range xs.size).map fun k => xs.size - 1 - k).filterMap (xs[·]?) := by
    rw [List.filterMap_map]
    refine BW.fm_congr _ fun m hm => ?_
    have hm := List.mem_range.mp hm
    have : (((xs.size : Int) - 1) + (m : Int) * (-1)).toNat = xs.size - 1 - m := by omega
    rw [this]
    rfl
  rw [e, PySem.W.krv_range, List.filterMap_reverse, PySem.W.krv_all]
theorem getItem_tuple_rev {t sl : Addr} {items : Array Value} {vl vu vs : Value} {Q : Value → Shared → Prop} (ht : IsTup s.heap t items) (hs : s.heap.IsSliceOf sl vl vu vs) (pl : IsPart vl none) (pu : IsPart vu none) (ps : IsPart vs (some (-1)))
    (h : Q (.ref s.heap.objs.size) { s with heap := s.heap.push { cls := .type "tuple", data := .seq items.toList.reverse.toArray } })
    (hsz : items.size ≤ sizeLine) : wpAny (model prog w) A (getItem (.ref t) (.ref sl)) Q E s := by
  have htake : sizeOk (.seq items.toList.reverse.toArray) := by
    show items.toList.reverse.toArray.size ≤ sizeLine
    rw [List.size_toArray, List.length_reverse, Array.length_toList]
    omega
  obtain ⟨os, hos, hcs, hds⟩ := id hs
  have hTs : s.TypeIs (.ref sl) "slice" := ⟨os, hos, hcs⟩
  unfold getItem
  try with_reducible refine wpAny_holding ?_
  first | refine wpAny_bind (wpAny_pure ?_) | skip
  refine wpAny_bind (wpAny_sequenceKey ht.typeIs (by decide) ?_)
  refine wpAny_bind (wpAny_callSpecial?_slot (name := Str.ofString "__getitem__") ht.typeIs PyProof.Rows.slot_tuple_getitem
    (wpAny_call_entry PyProof.Rows.slot_tuple_getitem ht.typeIs entry_tuple_getitem ?_ (args_tuple_getitem _ _)))
  show wpAny _ _ (Builtin.Tuple.tupleItemsOf (.ref t) >>= _) _ _ s
  refine wpAny_bind (tupleItemsOf_ ht ?_)
  refine wpAny_bind (wpAny_typeOf hTs ?_)
  rw [if_pos (by decide)]
  refine wpAny_bind (sliceApplied_rev hs pl pu ps ?_)
  have hno : ¬ (((((items.size : Int) - 1)) == 0 && (-1 : Int) == 1 && items.size == items.size) = true) := by
    simp
  show wpAny _ _ (if ((((items.size : Int) - 1)) == 0 && (-1 : Int) == 1 && items.size == items.size) = true then _ else _) _ _ s
  rw [if_neg hno, pick_rev]
  first
    | exact wpAny_bind (m := Builtin.Tuple.tupleExact _) (wpAny_newObj_type (wpAny_pure ⟨_, rfl, wpAny_pure h⟩) htake)
    | exact wpAny_bind (m := Builtin.Tuple.tupleExact _) (wpAny_newObj_type (wpAny_bind (wpAny_pure (wpAny_pure ⟨_, rfl, wpAny_pure h⟩))) htake)
    | exact wpAny_bind (wpAny_bind (m := Builtin.Tuple.tupleExact _) (wpAny_newObj_type (wpAny_pure (wpAny_pure ⟨_, rfl, wpAny_pure h⟩)) htake))
    | exact wpAny_bind (wpAny_bind (m := Builtin.Tuple.tupleExact _) (wpAny_newObj_type (wpAny_pure ⟨_, rfl, wpAny_pure h⟩) htake))
end
end HT
namespace BW
open PySem PySem.W L2 PySem.Spec PyProof.Rows
section
variable {K : PySem.W.Frag} {F H : Hp} {v : V} {X : Cx}
def tRevA (K : PySem.W.Frag) (te : TE) : TE := fun σ H Q => te σ H fun x H1 => ∃ a xs, x = .ref a ∧ ((SqL K H1 a xs ∧ ∀ p, H1 p = none → Q (.ref p) (upd H1 p (.lst xs.reverse))) ∨ (SqT K H1 a xs ∧ ∀ p o, H1 p = none → o.dict = none → Q (.ref p) (upd H1 p (.frz o (.tup xs.reverse)))))
theorem pe_revA {e : Expr} {te : TE} {k : Nat} {p1 p2 p3 pos : Pos} (he : PE X e te) : PE X (.Subscript e (.Slice none none (some (.UnaryOp .USub (.Constant (.int 1) k p1) p2)) p3) pos) (tRevA X.K te) := by
  refine ⟨fun pins s σ H Q I h => ?_⟩
  refine Subscript_ (thn (he.run pins s σ H _ I h) fun v s1 ⟨x, H1, I1, r1, q1⟩ => ?_)
  obtain ⟨a, xs, ex, q⟩ := q1
  subst ex
  cases r1
  have hst : PO X (some (.UnaryOp .USub (.Constant (.int 1) k p1) p2)) (tPart (tUn (rU fun i => .int (-i)) (tC (.int 1)))) := po_some (pe_un un_neg pe_int)
  refine wpAny_Slice (thn (po_none.run pins s1 σ H1 (fun o H2 => o = none ∧ H2 = H1) I1 ⟨rfl, rfl⟩) fun vl s2 ⟨l, H2, I2, pl, el, e2⟩ => ?_)
  subst el e2
  refine thn (po_none.run pins s2 σ H2 (fun o H3 => o = none ∧ H3 = H2) I2 ⟨rfl, rfl⟩) fun vu s3 ⟨u, H3, I3, pu, eu, e3⟩ => ?_
  subst eu e3
  refine thn (hst.run pins s3 σ H3 (fun o H4 => o = some (-1) ∧ H4 = H3) I3 ⟨1, rfl, -1, rfl, rfl, rfl⟩) fun vs s4 ⟨o, H4, I4, ps, eo, e4⟩ => ?_
  subst eo e4
  have I5 : Inv X pins σ H4 { s4 with heap := s4.heap.push { cls := .type "slice", data := .fields #[vl, vu, vs] } } := I4.kept (t' := s4.toks) fun b ob q => Heap.get?_push_of_some _ q
  show wpAny (model X.prog X.w) X.A (subscriptTail e (.Slice none none (some (.UnaryOp .USub (.Constant (.int 1) k p1) p2)) p3) (.ref a) (.ref s4.heap.objs.size)) (EP X pins σ Q) X.xe { s4 with heap := s4.heap.push { cls := .type "slice", data := .fields #[vl, vu, vs] } }
  rcases q with ⟨hx, q⟩ | ⟨hx, q⟩
  · obtain ⟨its, r, ht, hz⟩ := I5.list hx
    have hlen := r.length
    refine tail_any (ops := [.ref a, .ref s4.heap.objs.size]) ht.isList.typeIs (PySem.slot_list_getitem.lookup) ?_ (by with_unfolding_all rfl)
    refine wpAny_getItem_list_slice ht.isList (Heap.IsSliceOf.new _ vl vu vs) pl pu ps (by decide) ?_ (by rw [List.size_toArray]; omega)
    rw [PySem.W.krv_pick]
    refine ⟨.ref _, _, I5.laid (t' := s4.toks) (o := .lst xs.reverse) (fun b ob q => Heap.get?_push_of_some _ q) (Nat.le_refl _) ?_, rfl, q _ (I5.hok.fresh (Nat.le_refl _))⟩
    exact ⟨by rw [List.length_reverse]; exact hz, _, 0, r.reverse, Heap.get?_push_size _ rfl⟩
  · obtain ⟨its, r, ht, hz⟩ := I5.tuple hx
    have hlen := r.length
    refine tail_any (ops := [.ref a, .ref s4.heap.objs.size]) ht.typeIs (PyProof.Rows.slot_tuple_getitem.lookup) ?_ (by with_unfolding_all rfl)
    refine HT.getItem_tuple_rev ht (Heap.IsSliceOf.new _ vl vu vs) pl pu ps ?_ (by rw [List.size_toArray]; omega)
    have hr : (its.reverse).toArray = its.toArray.reverse := by simp
    exact laidN (k := s4.toks) I5 rfl rfl r.reverse (by rw [hr]) (by rw [List.length_reverse]; exact hz) q

/-! ### a[b], by data -/
theorem atI_len {α β : Type} {xs : List α} {ys : List β} (e : xs.length = ys.length) (i : Int) : ixN xs.length i = ixN ys.length i := by rw [e]
theorem DqAll.atI {vs : List V} {ds : List D} (h : DqAll K F vs ds) {i : Int} {d : D} (e : atI ds i = some d) : ∃ v, L2.atI vs i = some v ∧ Dq K F v d := by
  unfold L2.atI at e ⊢
  rw [h.length]
  cases hn : ixN ds.length i with
  | none => rw [hn] at e; cases e
  | some j =>
    rw [hn] at e
    exact h.get' e
theorem KvP.val : ∀ {ks : List (Key × V)} {kvs : List (D × D)}, KvP K F ks kvs → ∀ (k : Key) {q : D × D}, kvs.find? (fun q => PyData.eqv q.1 (keyD k)) = some q → ∃ v, valV ks k = some v ∧ Dq K F v q.2
  | _, _, .nil, _, _, e => by cases e
  | _, _, .cons (k := k') (v := v) a t, k, q, e => by
    rw [List.find?_cons] at e
    by_cases c : k' = k
    · subst c
      rw [eqv_keyD, decide_eq_true rfl] at e
      cases e
      exact ⟨v, valV_pos rfl, a⟩
    · rw [eqv_keyD, decide_eq_false c] at e
      obtain ⟨w, e1, e2⟩ := KvP.val t k e
      exact ⟨w, by rw [valV_neg c]; exact e1, e2⟩
theorem ixR_D (hu : X.A.units + 64 < cLine) : IxR X (rD2 X.K ixD) := by
  intro value slice pins s σ H x y v u Q I rx ry ⟨F, dx, dy, d, e, px, py, hg, q⟩ hs
  cases dx with
  | list ds =>
    cases dy <;> simp only [ixD] at hg <;> try cases hg
    rename_i i
    split at hg
    · rename_i d' hd
      cases hg
      obtain ⟨l, xs, rfl, h1, a1⟩ := px.lst e
      cases py.int
      obtain ⟨w, e1, e2⟩ := a1.atI hd
      exact ix_list value slice pins s σ H _ _ v u Q I rx ry ⟨l, xs, i, w, rfl, rfl, .inl h1, e1, q.fin e e2⟩ hs
    · cases hg
  | tuple ds =>
    cases dy <;> simp only [ixD] at hg <;> try cases hg
    rename_i i
    split at hg
    · rename_i d' hd
      cases hg
      obtain ⟨l, xs, rfl, h1, a1⟩ := px.tup e
      cases py.int
      obtain ⟨w, e1, e2⟩ := a1.atI hd
      exact ix_tup value slice pins s σ H _ _ v u Q I rx ry ⟨l, xs, i, w, rfl, rfl, h1, e1, q.fin e e2⟩ hs
    · cases hg
  | str z =>
    cases dy <;> simp only [ixD] at hg <;> try cases hg
    rename_i i
    split at hg
    · rename_i hz
      split at hg
      · rename_i c hc
        cases hg
        cases px.str
        cases py.int
        exact ix_str value slice pins s σ H _ _ v u Q I rx ry ⟨z, i, c, rfl, rfl, size_line hz, hc, q.fin e (.str _)⟩ hs
      · cases hg
    · cases hg
  | dict kvs =>
    simp only [ixD] at hg
    split at hg
    · rename_i k hk
      by_cases ok : okKeys kvs = true
      · rw [if_pos ok] at hg
        split at hg
        · rename_i p hp
          cases hg
          have hk := keyOf_some hk
          subst hk
          obtain ⟨l, ks, rfl, h1, h2⟩ := px.dict e ok
          cases rx
          have hy := py.key
          subst hy
          obtain ⟨w, e1, e2⟩ := h2.val k hp
          have g : DGet H l (kV k) (some w) := by rw [← e1]; exact DGet.rk h1
          exact tail_any (ops := [.ref l, u]) (dict_typeIs I g) slot_dict_getitem.lookup (d_getItem (by omega) I g ry fun w' s' I' r' => ⟨w, H, I', r', q.fin e e2⟩) hs
        · cases hg
      · rw [if_neg ok] at hg; cases hg
    · cases hg
  | _ => cases dy <;> simp [ixD] at hg

/-! ### a[l:h], by data -/
def rSlD (K : PySem.W.Frag) : V → Option Int → Option Int → Hp → VK → Prop := fun x lo hi H Q => ∃ F dx d, Same F H ∧ Pk K F H x dx ∧ slD dx lo hi = .ok d ∧ okE K Q F H d
theorem DqAll.cut {vs : List V} {ds : List D} (h : DqAll K F vs ds) (lo hi : Option Int) : DqAll K F (cutV vs lo hi) (cutD ds lo hi) := by
  unfold cutV cutD
  rw [h.length]
  exact (h.drop _).take _
theorem cutV_whole (xs : List V) (lo hi : Option Int) (h : HT.sIx xs.length 0 lo = 0 ∧ HT.sIx xs.length xs.length hi = xs.length) : cutV xs lo hi = xs := by
  unfold cutV
  rw [h.1, h.2]
  simp
/-- tuple(xs) -/
theorem call_tupleN : CallR X (.type "tuple") (fun xs H Q => ∃ p ys, xs = [.ref p] ∧ ((SqL X.K H p ys ∧ ∀ l o, H l = none → o.dict = none → Q (.ref l) (upd H l (.frz o (.tup ys)))) ∨ (SqT X.K H p ys ∧ Q (.ref p) H))) := by
  intro pins s σ H xs us Q I r h
  obtain ⟨p, ys, rfl, h⟩ := h
  obtain ⟨u, rfl, rx⟩ := vals1 r
  cases rx
  rcases h with ⟨hq, q⟩ | ⟨hq, q⟩
  · obtain ⟨its, r', pl, hz⟩ := I.list hq
    have hlen := r'.length
    refine call_tuple_list pl.isList (fun h' kp => ?_) (by simp only [List.size_toArray] <;> omega)
    exact laidN (k := s.toks) (I.kept (t' := s.toks) kp) rfl rfl r' rfl hz q
  · obtain ⟨its, r', pl, hz⟩ := I.tuple hq
    exact call_tuple_same pl ⟨.ref p, H, I, rfl, q⟩
/-- t[lo:hi] -/
def rSlN (K : PySem.W.Frag) : V → Option Int → Option Int → Hp → VK → Prop := fun x lo hi H Q => ∃ a xs, x = .ref a ∧ SqT K H a xs ∧
  (HT.sIx xs.length 0 lo = 0 ∧ HT.sIx xs.length xs.length hi = xs.length → Q (.ref a) H) ∧ (¬ (HT.sIx xs.length 0 lo = 0 ∧ HT.sIx xs.length xs.length hi = xs.length) → ∀ p o, H p = none → o.dict = none → Q (.ref p) (upd H p (.frz o (.tup (cutV xs lo hi)))))
theorem sl_tupN : SlR X (rSlN X.K) := by
  intro pins s σ H x v vl vu lo hi sl Q I rx hs pl pu h
  obtain ⟨a, xs, rfl, hx, q1, q2⟩ := h
  cases rx
  obtain ⟨its, r, ht, hz⟩ := I.tuple hx
  have hlen : its.toArray.size = xs.length := by rw [List.size_toArray]; exact r.length.symm
  refine ⟨"tuple", _, PyProof.Rows.slot_tuple_getitem.lookup, ht.typeIs, ?_⟩
  by_cases hw : HT.sIx xs.length 0 lo = 0 ∧ HT.sIx xs.length xs.length hi = xs.length
  · exact getItem_tuple_whole ht hs pl pu (by rw [hlen]; exact hw) ⟨.ref a, H, I, rfl, q1 hw⟩
  · refine HT.getItem_tuple_cut ht hs pl pu (by rw [hlen]; exact hw) ?_ (by rw [hlen]; exact hz)
    rw [hlen]
    exact laidN (k := s.toks) I rfl rfl ((r.drop (HT.sIx xs.length 0 lo)).take (HT.sIx xs.length xs.length hi - HT.sIx xs.length 0 lo)) rfl (Nat.le_trans (cutV_length xs lo hi) hz) (q2 hw)
theorem slR_D : SlR X (rSlD X.K) := by
  intro pins s σ H x v vl vu lo hi sl Q I rx hs pl pu ⟨F, dx, d, e, px, hg, q⟩
  cases dx <;> simp only [slD] at hg <;> try cases hg
  · rename_i ds
    obtain ⟨l, xs, rfl, h1, a1⟩ := px.lst e
    exact sl_list pins s σ H _ v vl vu lo hi sl Q I rx hs pl pu ⟨l, xs, rfl, .inl h1, new_lst e q (a1.cut lo hi)⟩
  · rename_i ds
    obtain ⟨l, xs, rfl, h1, a1⟩ := px.tup e
    refine sl_tupN pins s σ H _ v vl vu lo hi sl Q I rx hs pl pu ⟨l, xs, rfl, h1, fun z => ?_, fun _ => new_tup e q (a1.cut lo hi)⟩
    have hc := a1.cut lo hi
    rw [cutV_whole xs lo hi z] at hc
    cases px with
    | dq qq =>
      cases qq with
      | tup h2 h3 =>
        have hl := I.tuple_inj (Same.sqN e h2).sq h1
        subst hl
        exact q.fin e (.tup h2 hc)
  · split at hg
    · rename_i ee; cases ee
    · rename_i ee; cases ee
    · rename_i ee
      cases ee
      cases hg
      obtain ⟨l, xs, rfl, h1, a1⟩ := px.scr e
      exact sl_list pins s σ H _ v vl vu lo hi sl Q I rx hs pl pu ⟨l, xs, rfl, h1, new_lst e q (a1.cut lo hi)⟩
    · cases hg
/-! ### isinstance, by data -/
def tyN : Ty → String
  | .int => "int" | .bool => "bool" | .str => "str" | .tuple => "tuple" | .list => "list" | .dict => "dict"
def dTy : D → String
  | .none => "NoneType" | .bool _ => "bool" | .int _ => "int" | .str _ => "str" | .list _ => "list" | .tuple _ => "tuple" | .dict _ => "dict"
theorem Pk.tyX {d : D} (ok : okD d = true) (e : Same F H) (h : Pk K F H v d) : TyX K H v (.type (dTy d)) := by
  cases d with
  | none => rw [h.non]; exact .base .non
  | bool b => rw [h.bl]; exact .base (.bl b)
  | int i => rw [h.int]; exact .base (.int i)
  | str x => rw [h.str]; exact .base (.str x)
  | list ds =>
    obtain ⟨l, xs, rfl, h1, a1⟩ := h.lst e
    rcases h1 with h1 | ⟨o, h1⟩
    · exact .base (.lst h1)
    · exact .base (.frz h1)
  | tuple ds =>
    obtain ⟨l, xs, rfl, h1, a1⟩ := h.tup e
    rcases h1 with (h1 | ⟨o, h1⟩) | ⟨o, its, n, h1, h2, _⟩
    · exact .base (.tup h1)
    · exact .fTuple h1
    · exact .kTuple h1 h2
  | dict kvs =>
    obtain ⟨l, ks, rfl, h1, h2⟩ := h.dict e ok
    rcases h1 with h1 | ⟨o, h1⟩
    · exact .base (.dK h1)
    · exact .fDict h1
theorem ty_all (t : Ty) (d : D) : kitB (dTy d) (tyN t) = some (tyD t d) := by
  cases t <;> cases d <;> (simp only [tyN, dTy, tyD]; decide +kernel)
theorem ty_any (d : D) : ∀ ts : List Ty, PySem.W.kitAny K (.type (dTy d)) (ts.map fun t => Value.type (tyN t)) = some (ts.any fun t => tyD t d)
  | [] => rfl
  | t :: ts => by
    rw [List.map_cons, List.any_cons]
    refine kitAny_cons (kit_ty (ty_all t d)) (fun h => ?_) (fun h => ?_)
    · rw [h, Bool.false_or]; exact ty_any d ts
    · rw [h, Bool.true_or]
end
end BW

namespace BW
open PySem PySem.W L2 PySem.Spec PyProof.Rows
section
variable {prog : Program} {w : World} {A : Around} {E : Value → Shared → Prop} {s : Shared}
/-- the items of a tuple, for sorted, list, set -/
theorem collect_tup {l : Addr} {vs : List Value} {Q : List Value → Shared → Prop} (hl : IsTup s.heap l vs.toArray)
    (h : Q vs { s with heap := (s.heap.push (seqObj "list" #[] 0)).update s.heap.objs.size (Obj.mapSeq (· ++ vs.toArray)) }) (hsz : vs.length ≤ sizeLine := by size_fits) :
    wpAny (model prog w) A (collect (.ref l)) Q E s := by
  obtain ⟨o, ho, hc, n, hd⟩ := id hl
  unfold collect
  refine wpAny_bind (wpAny_runValue (codeAny_builtin entry_proto_collect' ?_))
  show wpAny _ _ (do again (.builtin "list.__iadd__" ⟨[← newList [], .ref l], []⟩)) _ _ s
  refine wpAny_bind (wpAny_newList (wpAny_pure ⟨Code.quiet_builtin _ (by decide +kernel), codeAny_builtin entry_list_iadd' ?_⟩))
  show wpAny _ _ (Builtin.List.listExtendWith (.ref s.heap.objs.size) (.ref l) (.ref s.heap.objs.size)) _ _ { s with heap := s.heap.push (seqObj "list" #[] 0) }
  unfold Builtin.List.listExtendWith
  have ho' : (s.heap.push (seqObj "list" #[] 0)).get? l = some o := Heap.get?_push_of_some _ ho
  refine wpAny_bind (wpAny_typeOf (T := "tuple") ⟨o, ho', hc⟩ ?_)
  have ht : (Value.type "tuple" == Value.type "tuple") = true := by rfl
  rw [if_pos (by rw [ht]; simp)]
  refine wpAny_bind (listItems_at ho' hd ?_)
  refine wpAny_bind (listItems_at (xs := #[]) (n := 0) (Heap.get?_push_size _ rfl) rfl ?_)
  rw [if_neg (by simp)]
  refine wpAny_bind (listUpdate_at (xs := #[]) (n := 0) (Heap.get?_push_size _ rfl) rfl ?_ (Nat.zero_le _) (by show (#[] ++ vs.toArray).size ≤ sizeLine + 1; simp only [Array.size_append, List.size_toArray, List.length_nil]; omega))
  refine wpAny_pure ?_
  show wpAny (model prog w) A (do
      let o ← load s.heap.objs.size
      match o.data with
      | .seq xs _ => pure xs.toList
      | _ => unsupported "internal:collect") Q E { s with heap := (s.heap.push (seqObj "list" #[] 0)).update s.heap.objs.size (Obj.mapSeq (· ++ vs.toArray)) }
  refine wpAny_bind (wpAny_load (get?_update_seq (Heap.get?_push_size _ rfl) _) ?_)
  show wpAny _ _ (pure ((#[] : Array Value) ++ vs.toArray).toList) Q E _
  rw [show ((#[] : Array Value) ++ vs.toArray).toList = vs by simp]
  exact wpAny_pure h
theorem copy_keeps {h : Heap} {vs : List Value} : ∀ b o, h.get? b = some o → ((h.push (seqObj "list" #[] 0)).update h.objs.size (Obj.mapSeq (· ++ vs.toArray))).get? b = some o := fun b o e => by
  rw [Heap.get?_update_ne _ _ _ _ (Nat.ne_of_lt (Heap.lt_size e)), Heap.get?_push_ne _ _ _ (Nat.ne_of_lt (Heap.lt_size e))]
  exact e
/-- sorted of anything whose items can be collected -/
theorem sorted_gen {a : Addr} {κ : Heap → Nat → PyProof.Rows.KeyKind} {vs : List Value} {Q : Value → Shared → Prop} (hL : vs.length ≤ sizeLine)
    (col : ∀ {R : List Value → Shared → Prop}, (∀ (h1 : Heap) (t1 : Nat), (∀ b o, s.heap.get? b = some o → h1.get? b = some o) → R vs { s with heap := h1, toks := t1 }) → wpAny (model prog w) A.in1 (collect (.ref a)) R E s)
    (S : ∀ (h1 : Heap) (t1 : Nat), (∀ b o, s.heap.get? b = some o → h1.get? b = some o) → SortsAt prog w A.in1.in1 { s with heap := sortingHeap (h1.push (seqObj "list" vs.toArray 0)) h1.objs.size vs, toks := t1 } (κ h1 t1) vs)
    (h : ∀ (h1 : Heap) (t1 : Nat), (∀ b o, s.heap.get? b = some o → h1.get? b = some o) → Q (.ref h1.objs.size) { s with heap := sortedHeap (h1.push (seqObj "list" vs.toArray 0)) h1.objs.size vs (sortVals (κ h1 t1) false vs vs).toArray, toks := t1 }) :
    wpAny (model prog w) A (call (.builtin "sorted") [.ref a]) Q E s := by
  refine call_function_entry_kw kind_sorted plain_sorted entry_sorted (args_sorted1 _) ?_
  unfold Builtin.«sorted»
  refine wpAny_bind (m := checkCount "sorted" 1 1 _) (wpAny_pure ?_)
  refine wpAny_bind (col fun h1 t1 k1 => ?_)
  refine wpAny_bind (wpAny_newList ?_ hL)
  show wpAny _ _ _ _ _ { s with heap := h1.push (seqObj "list" vs.toArray 0), toks := t1 }
  have hat : (h1.push (seqObj "list" vs.toArray 0)).get? h1.objs.size = some (seqObj "list" vs.toArray 0) := Heap.get?_push_size _ rfl
  refine wpAny_bind (wpAny_holding (wpAny_call_entry_kw slot_list_sort ⟨_, hat, rfl⟩ entry_list_sort ?body (args_list_sort _)))
  case body =>
    show wpAny (model prog w) A.in1.in1 (Builtin.«list.sort» ⟨[.ref h1.objs.size], []⟩) _ _ _
    refine list_sort_vals (s := { s with heap := h1.push (seqObj "list" vs.toArray 0), toks := t1 }) hat (S h1 t1 k1) hL ?_
    exact ⟨_, rfl, wpAny_pure ⟨_, rfl, h h1 t1 k1⟩⟩
end
section
variable {K : PySem.W.Frag} {F H : Hp} {v : V} {X : Cx}
/-- values and what they stand for -/
def EqR (K : PySem.W.Frag) (F : Hp) (u : Value) (d : D) : Prop := ∃ x : V, RelV x u ∧ Dq K F x d ∧ d.plain = true
theorem each_of : ∀ {xs : List V} {us : List Value} {ds : List D}, PyData.plainAll ds = true → Vals xs us → DqAll K F xs ds → EachIs (EqR K F) us ds
  | _, _, _, _, .nil, .nil => .nil
  | _, _, _, p, .cons r t, .cons a b => by
    simp only [PyData.plainAll, Bool.and_eq_true] at p
    exact .cons ⟨_, r, a, p.1⟩ (each_of p.2 t b)
theorem of_each {us : List Value} {ds : List D} (h : EachIs (EqR K F) us ds) : ∃ xs : List V, Vals xs us ∧ DqAll K F xs ds := by
  induction h with
  | nil => exact ⟨[], .nil, .nil⟩
  | cons a _ ih =>
    obtain ⟨x, r, q, _⟩ := a
    obtain ⟨xs, r2, q2⟩ := ih
    exact ⟨x :: xs, .cons r r2, .cons q q2⟩
theorem each_reads {pins : List (Addr × Obj)} {s : Shared} {σ : L2.St} (I : Inv X pins σ H s) (e : Same F H) {h' : Heap} (k : ∀ b o, s.heap.get? b = some o → h'.get? b = some o) {us : List Value} {ds : List D} (h : EachIs (EqR X.K F) us ds) : EachIs (fun v b => ∃ as, Reads h' v b as) us ds :=
  h.mono fun u d ⟨x, r, q, p⟩ => by
    obtain ⟨as, z⟩ := Dq.reads I p (q.up e) r
    exact ⟨as, PyProof.Rows.Reads.keeps k z⟩
theorem depth_mem : ∀ {xs : List D} {d : D}, d ∈ xs → d.depth ≤ PyData.depthAll xs
  | x :: xs, d, h => by
    rw [PyData.depthAll]
    rcases List.mem_cons.mp h with rfl | h
    · exact Nat.le_max_left _ _
    · exact Nat.le_trans (depth_mem h) (Nat.le_max_right _ _)
theorem sortable_of {ds : List D} (h : sortable ds = true) : PySem.W.AllAlike ds ∧ Sortable ds ∧ ds.length ≤ 1000000 ∧ (∀ d ∈ ds, d.depth ≤ 60) ∧ PyData.plainAll ds = true := by
  unfold sortable comparable at h
  simp only [Bool.and_eq_true, List.all_eq_true, Bool.or_eq_true] at h
  obtain ⟨⟨⟨h1, h2⟩, h3⟩, h4⟩ := h
  refine ⟨fun d hd d' hd' => h1 d hd d' hd', ?_, size_of h3, fun d hd => Nat.le_trans (depth_mem hd) (depth_list h2), plain_list h2⟩
  rcases h4 with h4 | h4
  · refine .inl fun d hd => ?_
    have := h4 d hd
    cases d <;> simp [ctup] at this
    rename_i xs
    cases xs with
    | nil => simp at this
    | cons x r => exact ⟨x, r, rfl⟩
  · refine .inr fun d hd => ?_
    have := h4 d hd
    cases d <;> simp [ntup] at this <;> simp
theorem allAlike_id {ds : List D} (h : PySem.W.AllAlike ds) : PySem.W.AllAlike (ds.map id) := by rw [List.map_id]; exact h
/-- sorted of values that stand for data, however they are collected -/
theorem sorted_D {pins : List (Addr × Obj)} {s : Shared} {σ : L2.St} {a : Addr} {us : List Value} {ds : List D} {Q : VK} (hu : X.A.units + 64 < cLine) (I : Inv X pins σ H s) (e : Same F H) (hs : sortable ds = true) (each : EachIs (EqR X.K F) us ds)
    (col : ∀ {R : List Value → Shared → Prop}, (∀ (h1 : Heap) (t1 : Nat), (∀ b o, s.heap.get? b = some o → h1.get? b = some o) → R us { s with heap := h1, toks := t1 }) → wpAny (model X.prog X.w) X.A.in1 (collect (.ref a)) R X.xe s)
    (q : okE X.K Q F H (.list (sortD ds))) : wpAny (model X.prog X.w) X.A (call (.builtin "sorted") [.ref a]) (EP X pins σ Q) X.xe s := by
  obtain ⟨hal, hk, hz, hdep, hpl⟩ := sortable_of hs
  have hl : us.length = ds.length := each.length
  have hL : us.length ≤ sizeLine := by rw [hl]; exact Nat.le_trans hz (by rw [sizeLine_eq]; decide)
  have hu2 : X.A.in1.in1.units = X.A.units + 2 := rfl
  have keep : ∀ h1 : Heap, (∀ b o, s.heap.get? b = some o → h1.get? b = some o) → ∀ b o, s.heap.get? b = some o → (sortingHeap (h1.push (seqObj "list" us.toArray 0)) h1.objs.size us).get? b = some o := fun h1 k1 b o eb =>
    sortingHeap_old (Nat.ne_of_lt (Heap.lt_size (k1 b o eb))) (Heap.get?_push_of_some _ (k1 b o eb))
  let κ : Heap → Nat → PyProof.Rows.KeyKind := fun h1 _ => dataKind (sortingHeap (h1.push (seqObj "list" us.toArray 0)) h1.objs.size us) ds
  refine sorted_gen (κ := κ) hL col (fun h1 t1 k1 => ?_) (fun h1 t1 k1 => ?_)
  · exact SortsAt.data (s := { s with heap := sortingHeap (h1.push (seqObj "list" us.toArray 0)) h1.objs.size us, toks := t1 }) (each_reads I e (keep h1 k1) each) hal hk fun d hd => by
      have := hdep d hd
      omega
  · have out : EachIs (EqR X.K F) (sortVals (κ h1 t1) false us us) (sortD ds) := by
      have := sortVals_data (h' := sortingHeap (h1.push (seqObj "list" us.toArray 0)) h1.objs.size us) (R := EqR X.K F) (enc := id) (vs := us) (bs := ds) false each (each_reads I e (keep h1 k1) each) (by rw [List.map_id]; exact hal)
      rw [List.map_id] at this
      exact this
    obtain ⟨xs, rv, dq⟩ := of_each out
    have hlen : xs.length = ds.length := by
      rw [dq.length]
      exact List.length_mergeSort ds
    have hat : (h1.push (seqObj "list" us.toArray 0)).get? h1.objs.size = some (seqObj "list" us.toArray 0) := Heap.get?_push_size _ rfl
    obtain ⟨ep, he'⟩ := sortedHeap_at (out := (sortVals (κ h1 t1) false us us).toArray) hat
    have I1 : Inv X pins σ H { s with heap := h1, toks := t1 } := I.kept k1
    refine ⟨.ref h1.objs.size, _, I1.laid (t' := t1) (o := .lst xs) (fun b ob eb => ?_) (Nat.le_refl _) ?_, rfl, new_lst e q dq _ (I1.hok.fresh (Nat.le_refl _))⟩
    · have hlt := Heap.lt_size eb
      rw [sortedHeap_old (Nat.ne_of_lt hlt) (by rw [size_push']; exact Nat.lt_succ_of_lt hlt)]
      exact Heap.get?_push_of_some _ eb
    · exact ⟨by rw [hlen]; exact Nat.le_trans hz (by rw [sizeLine_eq]; decide), _, ep, rv, he'⟩
theorem each_of_get {R : Value → D → Prop} : ∀ {us : List Value} {ds : List D}, us.length = ds.length → (∀ (i : Nat) (v : Value) (d : D), us[i]? = some v → ds[i]? = some d → R v d) → EachIs R us ds
  | [], [], _, _ => .nil
  | u :: us, d :: ds, hl, h => .cons (h 0 u d rfl rfl) (each_of_get (by simpa using hl) fun i v d hv hd => h (i + 1) v d (by simpa using hv) (by simpa using hd))
  | [], _ :: _, hl, _ => by simp at hl
  | _ :: _, [], hl, _ => by simp at hl
theorem KvP.length : ∀ {ks : List (Key × V)} {kvs : List (D × D)}, KvP K F ks kvs → ks.length = kvs.length
  | _, _, .nil => rfl
  | _, _, .cons _ t => by simp [KvP.length t]
theorem KvP.keyAt : ∀ {ks : List (Key × V)} {kvs : List (D × D)}, KvP K F ks kvs → ∀ {i : Nat} {p : D × D}, kvs[i]? = some p → ∃ k : Key, (∃ v, ks[i]? = some (k, v)) ∧ p.1 = keyD k
  | _, _, .nil, _, _, e => by simp at e
  | _, _, .cons a t, 0, _, e => by simp at e; subst e; exact ⟨_, ⟨_, rfl⟩, rfl⟩
  | _, _, .cons a t, i + 1, _, e => by
    obtain ⟨k, h1, h2⟩ := KvP.keyAt t (i := i) (by simpa using e)
    exact ⟨k, by simpa using h1, h2⟩
theorem kv_get' {ks : List (Key × V)} {vs : List (Key × Value)} (h : KV ks vs) {i : Nat} {k : Key} (e : ∃ v, ks[i]? = some (k, v)) : ∃ u, vs[i]? = some (k, u) := by
  obtain ⟨v, e⟩ := e
  obtain ⟨u, h1, _⟩ := kv_get h e
  exact ⟨u, h1⟩
/-- sorted, by data -/
def rD1 (K : PySem.W.Frag) (g : D → Res D) : List V → Hp → VK → Prop := fun xs H Q => ∃ F x dx d, xs = [x] ∧ Same F H ∧ Pk K F H x dx ∧ g dx = .ok d ∧ okE K Q F H d
theorem cr_sortedD (hc : X.calm = true) (hu : X.A.units + 64 < cLine) : CallR X (.builtin "sorted") (rD1 X.K (b1D .sorted)) := by
  intro pins s σ H xs us Q I r ⟨F, x, dx, d, ex, e, px, hg, q⟩
  subst ex
  obtain ⟨u, rfl, rx⟩ := vals1 r
  have hitems : ∀ ys, items dx = some ys → sortable ys = true → d = .list (sortD ys) → wpAny (model X.prog X.w) X.A (call (.builtin "sorted") [u]) (EP X pins σ Q) X.xe s := by
    intro ys hi hs hd
    subst hd
    have hz := size_line (Bool.and_eq_true_iff.mp (Bool.and_eq_true_iff.mp hs).1).2
    cases dx <;> simp [items] at hi
    · subst hi
      obtain ⟨l, xs, rfl, h1, a1⟩ := px.lst e
      cases rx
      obtain ⟨_, its, n, rv, hl, ho⟩ := Inv.rdL I h1
      exact sorted_D hu I e hs (each_of (sortable_of hs).2.2.2.2 rv a1) (fun {R} h => collect_list (vs := its) ⟨_, ho, rfl, n, rfl⟩ (h _ _ copy_keeps) (by rw [← rv.length, a1.length]; exact hz)) q
    · subst hi
      obtain ⟨l, xs, rfl, h1, a1⟩ := px.tup e
      cases rx
      obtain ⟨its, rv, ht, _⟩ := I.tuple h1
      exact sorted_D hu I e hs (each_of (sortable_of hs).2.2.2.2 rv a1) (fun {R} h => collect_tup (vs := its) ht (h _ _ copy_keeps) (by rw [← rv.length, a1.length]; exact hz)) q
  cases dx with
  | list ys =>
    obtain ⟨hs, rfl⟩ := ite_okb (show (if sortable ys = true then Res.ok (.list (sortD ys)) else .bad) = Res.ok d from hg)
    exact hitems ys rfl hs rfl
  | tuple ys =>
    obtain ⟨hs, rfl⟩ := ite_okb (show (if sortable ys = true then Res.ok (.list (sortD ys)) else .bad) = Res.ok d from hg)
    exact hitems ys rfl hs rfl
  | dict kvs =>
    obtain ⟨hs, rfl⟩ := ite_okb (show (if (okKeys kvs && sortable (kvs.map (·.1))) = true then Res.ok (.list (sortD (kvs.map (·.1)))) else .bad) = Res.ok d from hg)
    obtain ⟨ok, hs⟩ := Bool.and_eq_true_iff.mp hs
    obtain ⟨l, ks, rfl, h1, h2⟩ := px.dict e ok
    cases rx
    obtain ⟨z, lo, vs, rel, dd⟩ := h1.ok I.hok
    obtain ⟨es, ep, hraw, hsz, hat⟩ := Heap.DictOf.raw dd
    have h16 : es.size ≤ sizeLine := by rw [hsz, ← rel.length]; exact z
    have hks : ks.length = kvs.length := h2.length
    have each : EachIs (EqR X.K F) (es.toList.map (·.key)) (kvs.map (·.1)) := by
      refine each_of_get (by rw [List.length_map, List.length_map, Array.length_toList, hsz, ← rel.length, hks]) fun i v d hv hd => ?_
      rw [List.getElem?_map] at hv hd
      cases q1 : es.toList[i]? with
      | none => rw [q1] at hv; cases hv
      | some en =>
        rw [q1] at hv
        cases hv
        have hi : i < es.size := by
          have := (List.getElem?_eq_some_iff.mp q1).1
          rwa [Array.length_toList] at this
        have hen : es[i] = en := by
          rw [Array.getElem?_toList, Array.getElem?_eq_getElem hi] at q1
          exact Option.some.inj q1
        cases q2 : kvs[i]? with
        | none => rw [q2] at hd; cases hd
        | some p =>
          rw [q2] at hd
          cases hd
          obtain ⟨k, hk1, hk2⟩ := h2.keyAt q2
          obtain ⟨u, hu1⟩ := kv_get' rel hk1
          obtain ⟨g1, g2⟩ := hat i hi k u hu1
          have g1 : keyIs k en.key = true := by rw [← hen]; exact g1
          refine ⟨kV k, keyIs_rel g1, ?_⟩
          show Dq X.K F (kV k) p.1 ∧ p.1.plain = true
          rw [hk2]
          exact ⟨keyD_V k, by cases k <;> rfl⟩
    refine sorted_D hu I e hs each (fun {R} h => ?_) q
    refine kdu_collect (A := X.A.in1) (KdlSrc.rawDict lo) (I.ok.hd hc) hraw h16 fun h' tk acc hk hacc => ?_
    have hacc2 : acc.toList = es.toList.map (·.key) := by
      refine List.ext_getElem? fun i => ?_
      rw [Array.getElem?_toList, List.getElem?_map, Array.getElem?_toList]
      by_cases hi : i < es.size
      · have hia : i < acc.size := by rw [hacc.1]; exact hi
        obtain ⟨hi', ev⟩ := hacc.2 i acc[i] (Array.getElem?_eq_getElem hia)
        rw [Array.getElem?_eq_getElem hia, Array.getElem?_eq_getElem hi, ev]
        rfl
      · rw [Array.getElem?_eq_none (by rw [hacc.1]; omega), Array.getElem?_eq_none (by omega)]
        rfl
    rw [hacc2]
    exact h _ _ hk
  | _ => cases hg
end
end BW

namespace BW
open PySem PySem.W L2 PySem.Spec PyProof.Rows
section
variable {K : PySem.W.Frag} {F H : Hp} {v : V} {X : Cx}
theorem mapR_ok {α β : Type} {f : α → Res β} : ∀ {xs : List α} {ys : List β}, mapR f xs = .ok ys → xs.length = ys.length ∧ ∀ (i : Nat) (x : α), xs[i]? = some x → ∃ y, ys[i]? = some y ∧ f x = .ok y
  | [], ys, h => by cases h; exact ⟨rfl, fun i x e => by simp at e⟩
  | x :: xs, ys, h => by
    obtain ⟨y, h1, h2⟩ := bind_ok (show (f x >>= fun y => mapR f xs >>= fun ys => Res.ok (y :: ys)) = .ok ys from h)
    obtain ⟨ys', h3, h4⟩ := bind_ok h2
    cases h4
    obtain ⟨e1, e2⟩ := mapR_ok h3
    refine ⟨by simp [e1], fun i z e => ?_⟩
    cases i with
    | zero => simp at e; subst e; exact ⟨y, rfl, h1⟩
    | succ i => obtain ⟨w, a, b⟩ := e2 i z (by simpa using e); exact ⟨w, by simpa using a, b⟩
theorem asInt_ok {d : D} {i : Int} (h : asInt d = .ok i) : d = .int i := by cases d <;> simp [asInt] at h; exact congrArg _ h
theorem asBool_ok {d : D} {b : Bool} (h : asBool d = .ok b) : d = .bool b := by cases d <;> simp [asBool] at h; exact congrArg _ h
theorem ints_ok : ∀ {xs : List D} {ns : List Int}, mapR asInt xs = .ok ns → xs = ns.map .int
  | [], ns, h => by cases h; rfl
  | x :: xs, ns, h => by
    obtain ⟨y, h1, h2⟩ := bind_ok (show (asInt x >>= fun y => mapR asInt xs >>= fun ys => Res.ok (y :: ys)) = .ok ns from h)
    obtain ⟨ys', h3, h4⟩ := bind_ok h2
    cases h4
    rw [List.map_cons, asInt_ok h1, ints_ok h3]
theorem bools_ok : ∀ {xs : List D} {ns : List Bool}, mapR asBool xs = .ok ns → xs = ns.map .bool
  | [], ns, h => by cases h; rfl
  | x :: xs, ns, h => by
    obtain ⟨y, h1, h2⟩ := bind_ok (show (asBool x >>= fun y => mapR asBool xs >>= fun ys => Res.ok (y :: ys)) = .ok ns from h)
    obtain ⟨ys', h3, h4⟩ := bind_ok h2
    cases h4
    rw [List.map_cons, asBool_ok h1, bools_ok h3]
theorem DqAll.ints : ∀ {vs : List V} {ns : List Int}, DqAll K F vs (ns.map .int) → vs = ns.map V.int
  | _, [], h => by cases h; rfl
  | _, n :: ns, h => by
    rw [List.map_cons] at h
    cases h with
    | cons a t => cases a; rw [DqAll.ints t]; rfl
theorem DqAll.bls : ∀ {vs : List V} {ns : List Bool}, DqAll K F vs (ns.map .bool) → vs = ns.map V.bl
  | _, [], h => by cases h; rfl
  | _, n :: ns, h => by
    rw [List.map_cons] at h
    cases h with
    | cons a t => cases a; rw [DqAll.bls t]; rfl
def b1F : B1 → Value
  | .len => .builtin "len" | .abs => .builtin "abs" | .int => .type "int" | .tuple => .type "tuple" | .list => .type "list" | .sorted => .builtin "sorted"
  | .sum => .builtin "sum" | .min => .builtin "min" | .max => .builtin "max" | .all => .builtin "all" | .any => .builtin "any" | .setsorted => .none | .setlen => .none
theorem comparable_of {ds : List D} (h : comparable ds = true) (hn : ds.all notNone = true) : PySem.W.AlikeAll ds ∧ PyData.depthAll ds ≤ 60 ∧ PyData.plainAll ds = true := by
  unfold comparable at h
  simp only [Bool.and_eq_true, List.all_eq_true] at h hn
  refine ⟨⟨fun d hd d' hd' => h.1 d hd d' hd', fun d hd e => ?_⟩, depth_list h.2, plain_list h.2⟩
  have := hn d hd
  rw [e] at this
  cases this
theorem minmax_end {pins : List (Addr × Obj)} {s : Shared} {σ : L2.St} {Q : VK} {us : List Value} {xs : List V} {ds : List D} {r : D} (I : Inv X pins σ H s) (e : Same F H) (rv : Vals xs us) (a : DqAll X.K F xs ds) (hp : PyData.plainAll ds = true) (q : okE X.K Q F H r)
    {i : Nat} {u : Value} {h' : Heap} {tk : Nat} {bs : List Addr} (hu : us[i]? = some u) (hr : Reads h' u r bs) (hk : ∀ b o, s.heap.get? b = some o → h'.get? b = some o) : EP X pins σ Q u { s with heap := h', toks := tk } := by
  have hi : i < us.length := (List.getElem?_eq_some_iff.mp hu).1
  have hx : i < xs.length := by rw [rv.length]; exact hi
  obtain ⟨x, hx⟩ : ∃ x, xs[i]? = some x := ⟨xs[i], List.getElem?_eq_getElem hx⟩
  obtain ⟨u', hu', ru⟩ := rv.get hx
  rw [hu] at hu'
  cases hu'
  obtain ⟨d, hd, dq⟩ := a.get hx
  have I' : Inv X pins σ H { s with heap := h', toks := tk } := I.kept hk
  have hpl : d.plain = true := plain_mem hp (List.mem_of_getElem? hd)
  obtain ⟨as, hr2⟩ := Dq.reads I' hpl (dq.up e) ru
  have := PySem.SeqAt.plain_unique _ _ _ _ _ hpl hr2 hr
  subst this
  exact ⟨x, H, I', ru, q.fin e dq⟩
theorem readsAllOf {pins : List (Addr × Obj)} {s : Shared} {σ : L2.St} {us : List Value} {xs : List V} {ds : List D} (I : Inv X pins σ H s) (e : Same F H) (hp : PyData.plainAll ds = true) (rv : Vals xs us) (a : DqAll X.K F xs ds) : ∃ as, ReadsAll s.heap us ds as := DqAll.reads I hp (a.up e) rv
theorem cr_b1 (b : B1) (hb : b ≠ .setsorted ∧ b ≠ .setlen) (hc : X.calm = true) (hu : X.A.units + 64 < cLine) : CallR X (b1F b) (rD1 X.K (b1D b)) := by
  cases b with
  | sorted => exact cr_sortedD hc hu
  | setsorted => exact absurd rfl hb.1
  | setlen => exact absurd rfl hb.2
  | len =>
    intro pins s σ H xs us Q I r ⟨F, x, dx, d, ex, e, px, hg, q⟩
    subst ex
    cases dx with
    | list ds =>
      cases hg
      obtain ⟨l, xs, rfl, h1, a1⟩ := px.lst e
      exact call_len pins s σ H _ us Q I r ⟨_, xs.length, rfl, .inl ⟨xs, .inl h1, rfl⟩, by rw [a1.length]; exact q.fin e (.int _)⟩
    | tuple ds =>
      cases hg
      obtain ⟨l, xs, rfl, h1, a1⟩ := px.tup e
      exact call_len pins s σ H _ us Q I r ⟨_, xs.length, rfl, .inr ⟨xs, h1, rfl⟩, by rw [a1.length]; exact q.fin e (.int _)⟩
    | dict kvs =>
      obtain ⟨ok, hg⟩ := ite_okb (show (if okKeys kvs = true then Res.ok (.int kvs.length) else .bad) = Res.ok d from hg)
      cases hg
      obtain ⟨l, ks, rfl, h1, h2⟩ := px.dict e ok
      obtain ⟨u, rfl, rx⟩ := vals1 r
      cases rx
      exact d_len I h1 fun t s' I' => ⟨.int kvs.length, H, I', ⟨t, by rw [h2.length]⟩, q.fin e (.int _)⟩
    | str z =>
      obtain ⟨hz, rfl⟩ := ite_okb (show (if sizeOk z.length = true then Res.ok (.int z.length) else .bad) = Res.ok d from hg)
      cases px.str
      exact call_len pins s σ H _ us Q I r ⟨_, z.length, rfl, ⟨size_line hz, rfl⟩, q.fin e (.int _)⟩
    | _ => cases hg
  | abs =>
    intro pins s σ H xs us Q I r ⟨F, x, dx, d, ex, e, px, hg, q⟩
    subst ex
    cases dx <;> try cases hg
    cases px.int
    exact call_abs pins s σ H _ us Q I r ⟨_, rfl, q.fin e (.int _)⟩
  | int =>
    intro pins s σ H xs us Q I r ⟨F, x, dx, d, ex, e, px, hg, q⟩
    subst ex
    cases dx <;> try cases hg
    cases px.int
    exact call_int1 pins s σ H _ us Q I r (.inl ⟨_, rfl, q.fin e (.int _)⟩)
  | tuple =>
    intro pins s σ H xs us Q I r ⟨F, x, dx, d, ex, e, px, hg, q⟩
    subst ex
    cases dx <;> try cases hg
    · obtain ⟨l, xs, rfl, h1, a1⟩ := px.lst e
      exact call_tupleN pins s σ H _ us Q I r ⟨l, xs, rfl, .inl ⟨.inl h1, new_tup e q a1⟩⟩
    · obtain ⟨l, xs, rfl, h1, a1⟩ := px.tup e
      exact call_tupleN pins s σ H _ us Q I r ⟨l, xs, rfl, .inr ⟨h1, q.fin e px.tupF⟩⟩
  | list =>
    intro pins s σ H xs us Q I r ⟨F, x, dx, d, ex, e, px, hg, q⟩
    subst ex
    cases dx <;> try cases hg
    · obtain ⟨l, xs, rfl, h1, a1⟩ := px.lst e
      exact call_list_of pins s σ H _ us Q I r ⟨l, xs, rfl, .inl (.inl h1), new_lst e q a1⟩
    · obtain ⟨l, xs, rfl, h1, a1⟩ := px.tup e
      exact call_list_of pins s σ H _ us Q I r ⟨l, xs, rfl, .inr h1, new_lst e q a1⟩
  | sum =>
    intro pins s σ H xs us Q I r ⟨F, x, dx, d, ex, e, px, hg, q⟩
    subst ex
    cases dx with
    | list ds =>
      obtain ⟨ns, h1, h2⟩ := bind_ok (show (mapR asInt ds >>= fun ns => Res.ok (.int ns.sum)) = Res.ok d from hg)
      cases h2
      have := ints_ok h1
      subst this
      obtain ⟨l, xs, rfl, h1, a1⟩ := px.lst e
      have := a1.ints
      subst this
      exact cr_sum hc pins s σ H _ us Q I r ⟨l, ns, rfl, .inl h1, q.fin e (.int _)⟩
    | tuple ds =>
      obtain ⟨ns, h1, h2⟩ := bind_ok (show (mapR asInt ds >>= fun ns => Res.ok (.int ns.sum)) = Res.ok d from hg)
      cases h2
      have := ints_ok h1
      subst this
      obtain ⟨l, xs, rfl, h1, a1⟩ := px.tup e
      have := a1.ints
      subst this
      obtain ⟨u, rfl, rx⟩ := vals1 r
      cases rx
      obtain ⟨its, rv, ht, _⟩ := I.tuple h1
      have hi := rv.ints
      obtain ⟨zs, hx⟩ := hi.allInts.items
      have hn : numsOf its.toArray.toList = ns := hi.numsOf
      have hl : s.heap.IsTuple l its.toArray := ht
      rw [hx] at hl hn
      rw [nums_intItems] at hn
      refine ktm_sumG (I.ok.hd hc) hl fun h' tk t' hk => ?_
      refine ⟨.int ns.sum, H, I.kept hk, ⟨t', ?_⟩, q.fin e (.int _)⟩
      rw [preSum_eq, List.take_of_length_le (by simp), hn]
    | _ => cases hg
  | all =>
    intro pins s σ H xs us Q I r ⟨F, x, dx, d, ex, e, px, hg, q⟩
    subst ex
    cases dx with
    | list ds =>
      obtain ⟨ns, h1, h2⟩ := bind_ok (show (mapR asBool ds >>= fun ns => Res.ok (.bool (ns.all id))) = Res.ok d from hg)
      cases h2
      have := bools_ok h1
      subst this
      obtain ⟨l, xs, rfl, h1, a1⟩ := px.lst e
      have := a1.bls
      subst this
      exact cr_all hc pins s σ H _ us Q I r ⟨l, ns, rfl, .inl h1, q.fin e (.bl _)⟩
    | _ => cases hg
  | any =>
    intro pins s σ H xs us Q I r ⟨F, x, dx, d, ex, e, px, hg, q⟩
    subst ex
    cases dx with
    | list ds =>
      obtain ⟨ns, h1, h2⟩ := bind_ok (show (mapR asBool ds >>= fun ns => Res.ok (.bool (ns.any id))) = Res.ok d from hg)
      cases h2
      have := bools_ok h1
      subst this
      obtain ⟨l, xs, rfl, h1, a1⟩ := px.lst e
      have := a1.bls
      subst this
      exact cr_any hc pins s σ H _ us Q I r ⟨l, ns, rfl, .inl h1, q.fin e (.bl _)⟩
    | _ => cases hg
  | min =>
    intro pins s σ H xs us Q I r ⟨F, x, dx, d, ex, e, px, hg, q⟩
    subst ex
    obtain ⟨u, rfl, rx⟩ := vals1 r
    cases dx with
    | list ds =>
      cases ds with
      | nil => cases hg
      | cons y ys =>
        obtain ⟨hz, rfl⟩ := ite_okb (show (if (comparable (y :: ys) && (y :: ys).all notNone) = true then Res.ok (minD y ys) else .bad) = Res.ok d from hg)
        obtain ⟨z1, z2⟩ := Bool.and_eq_true_iff.mp hz
        obtain ⟨al, hd, hp⟩ := comparable_of z1 z2
        obtain ⟨l, xs, rfl, h1, a1⟩ := px.lst e
        cases rx
        obtain ⟨_, its, n, rv, hl, ho⟩ := Inv.rdL I h1
        obtain ⟨as, hr⟩ := readsAllOf I e hp rv a1
        exact min_list_data (vs := its.toArray) (I.ok.hd hc) ⟨_, ho, rfl, n, rfl⟩ hr al (by omega) fun i u h' tk bs hu' hr' hk => minmax_end I e rv a1 hp q (by simpa using hu') hr' hk
    | tuple ds =>
      cases ds with
      | nil => cases hg
      | cons y ys =>
        obtain ⟨hz, rfl⟩ := ite_okb (show (if (comparable (y :: ys) && (y :: ys).all notNone) = true then Res.ok (minD y ys) else .bad) = Res.ok d from hg)
        obtain ⟨z1, z2⟩ := Bool.and_eq_true_iff.mp hz
        obtain ⟨al, hd, hp⟩ := comparable_of z1 z2
        obtain ⟨l, xs, rfl, h1, a1⟩ := px.tup e
        cases rx
        obtain ⟨its, rv, ht, _⟩ := I.tuple h1
        obtain ⟨as, hr⟩ := readsAllOf I e hp rv a1
        exact min_tuple_data (vs := its.toArray) (I.ok.hd hc) ht hr al (by omega) fun i u h' tk bs hu' hr' hk => minmax_end I e rv a1 hp q (by simpa using hu') hr' hk
    | _ => cases hg
  | max =>
    intro pins s σ H xs us Q I r ⟨F, x, dx, d, ex, e, px, hg, q⟩
    subst ex
    obtain ⟨u, rfl, rx⟩ := vals1 r
    cases dx with
    | list ds =>
      cases ds with
      | nil => cases hg
      | cons y ys =>
        obtain ⟨hz, rfl⟩ := ite_okb (show (if (comparable (y :: ys) && (y :: ys).all notNone) = true then Res.ok (maxD y ys) else .bad) = Res.ok d from hg)
        obtain ⟨z1, z2⟩ := Bool.and_eq_true_iff.mp hz
        obtain ⟨al, hd, hp⟩ := comparable_of z1 z2
        obtain ⟨l, xs, rfl, h1, a1⟩ := px.lst e
        cases rx
        obtain ⟨_, its, n, rv, hl, ho⟩ := Inv.rdL I h1
        obtain ⟨as, hr⟩ := readsAllOf I e hp rv a1
        exact max_list_data (vs := its.toArray) (I.ok.hd hc) ⟨_, ho, rfl, n, rfl⟩ hr al (by omega) fun i u h' tk bs hu' hr' hk => minmax_end I e rv a1 hp q (by simpa using hu') hr' hk
    | tuple ds =>
      cases ds with
      | nil => cases hg
      | cons y ys =>
        obtain ⟨hz, rfl⟩ := ite_okb (show (if (comparable (y :: ys) && (y :: ys).all notNone) = true then Res.ok (maxD y ys) else .bad) = Res.ok d from hg)
        obtain ⟨z1, z2⟩ := Bool.and_eq_true_iff.mp hz
        obtain ⟨al, hd, hp⟩ := comparable_of z1 z2
        obtain ⟨l, xs, rfl, h1, a1⟩ := px.tup e
        cases rx
        obtain ⟨its, rv, ht, _⟩ := I.tuple h1
        obtain ⟨as, hr⟩ := readsAllOf I e hp rv a1
        exact max_tuple_data (vs := its.toArray) (I.ok.hd hc) ht hr al (by omega) fun i u h' tk bs hu' hr' hk => minmax_end I e rv a1 hp q (by simpa using hu') hr' hk
    | _ => cases hg
/-- two arguments -/
def rDD (K : PySem.W.Frag) (g : D → D → Res D) : List V → Hp → VK → Prop := fun xs H Q => ∃ F x y dx dy d, xs = [x, y] ∧ Same F H ∧ Pk K F H x dx ∧ Pk K F H y dy ∧ g dx dy = .ok d ∧ okE K Q F H d
def b2F : B2 → Value
  | .min2 => .builtin "min" | .max2 => .builtin "max"
theorem cr_b2 (b : B2) (hc : X.calm = true) : CallR X (b2F b) (rDD X.K (b2D b)) := by
  cases b with
  | min2 =>
    intro pins s σ H xs us Q I r ⟨F, x, y, dx, dy, d, ex, e, px, py, hg, q⟩
    subst ex
    cases dx <;> cases dy <;> try cases hg
    cases px.int; cases py.int
    exact call_min2 hc pins s σ H _ us Q I r ⟨_, _, rfl, q.fin e (.int _)⟩
  | max2 =>
    intro pins s σ H xs us Q I r ⟨F, x, y, dx, dy, d, ex, e, px, py, hg, q⟩
    subst ex
    cases dx <;> cases dy <;> try cases hg
    cases px.int; cases py.int
    exact call_max2 hc pins s σ H _ us Q I r ⟨_, _, rfl, q.fin e (.int _)⟩
end
end BW

namespace BW
open PySem PySem.W L2 PySem.Spec PyProof.Rows
/-! ### the operations raise nothing -/
def NoEx {α : Type} (r : Res α) : Prop := ∀ c, r ≠ .ex c
theorem NoEx.ok {α : Type} (a : α) : NoEx (Res.ok a) := fun c h => nomatch h
theorem NoEx.bad {α : Type} : NoEx (Res.bad : Res α) := fun c h => nomatch h
theorem NoEx.ite {α : Type} {c : Prop} [Decidable c] {a b : Res α} (ha : NoEx a) (hb : NoEx b) : NoEx (if c then a else b) := by
  by_cases h : c
  · rw [if_pos h]; exact ha
  · rw [if_neg h]; exact hb
theorem NoEx.bind {α β : Type} {x : Res α} {f : α → Res β} (hx : NoEx x) (hf : ∀ a, NoEx (f a)) : NoEx (x >>= f) := by
  cases x with
  | ok a => exact hf a
  | ex c => exact absurd rfl (hx c)
  | bad => exact NoEx.bad
theorem nx_opD (o : Op) (x y : D) : NoEx (opD o x y) := by
  unfold opD
  split <;> first | exact NoEx.ok _ | exact NoEx.bad | exact NoEx.ite (NoEx.ok _) NoEx.bad
theorem nx_ltD (x y : D) : NoEx (ltD x y) := by
  unfold ltD
  split
  · exact NoEx.ok _
  · exact NoEx.ite (NoEx.ok _) NoEx.bad
theorem nx_inD (x y : D) : NoEx (inD x y) := by
  unfold inD
  split
  · exact NoEx.ite (NoEx.ok _) NoEx.bad
  · split
    · split
      · exact NoEx.ite (NoEx.ok _) NoEx.bad
      · exact NoEx.bad
    · exact NoEx.bad
theorem nx_cmpB (o : Cmp) (x y : D) : NoEx (cmpB o x y) := by
  cases o
  · exact NoEx.ite (NoEx.ok _) NoEx.bad
  · exact NoEx.ite (NoEx.ok _) NoEx.bad
  · exact nx_ltD _ _
  · exact NoEx.bind (nx_ltD _ _) fun _ => NoEx.ok _
  · exact nx_ltD _ _
  · exact NoEx.bind (nx_ltD _ _) fun _ => NoEx.ok _
  · exact nx_inD _ _
  · exact NoEx.bind (nx_inD _ _) fun _ => NoEx.ok _
theorem nx_ixD (x y : D) : NoEx (ixD x y) := by
  unfold ixD
  split
  · split
    · exact NoEx.ok _
    · exact NoEx.bad
  · split
    · exact NoEx.ok _
    · exact NoEx.bad
  · refine NoEx.ite ?_ NoEx.bad
    split
    · exact NoEx.ok _
    · exact NoEx.bad
  · split
    · refine NoEx.ite ?_ NoEx.bad
      split
      · exact NoEx.ok _
      · exact NoEx.bad
    · exact NoEx.bad
  · exact NoEx.bad
theorem nx_asInt (d : D) : NoEx (asInt d) := by cases d <;> first | exact NoEx.ok _ | exact NoEx.bad
theorem nx_asBool (d : D) : NoEx (asBool d) := by cases d <;> first | exact NoEx.ok _ | exact NoEx.bad
theorem nx_mapR {α β : Type} {f : α → Res β} (h : ∀ a, NoEx (f a)) : ∀ xs : List α, NoEx (mapR f xs)
  | [] => NoEx.ok _
  | x :: xs => NoEx.bind (h x) fun _ => NoEx.bind (nx_mapR h xs) fun _ => NoEx.ok _
theorem nx_revD (x : D) : NoEx (revD x) := by cases x <;> first | exact NoEx.ok _ | exact NoEx.bad
theorem nx_slD (x : D) (l h : Option Int) : NoEx (slD x l h) := by
  unfold slD
  split <;> first | exact NoEx.ok _ | exact NoEx.bad
theorem nx_b1D (b : B1) (x : D) : NoEx (b1D b x) := by
  unfold b1D
  split <;> try first | exact NoEx.ok _ | exact NoEx.bad | exact NoEx.ite (NoEx.ok _) NoEx.bad | exact NoEx.bind (nx_mapR nx_asInt _) fun _ => NoEx.ok _ | exact NoEx.bind (nx_mapR nx_asBool _) fun _ => NoEx.ok _
  split
  · exact NoEx.bad
  · split <;> try first | exact NoEx.bad | exact NoEx.ite (NoEx.ok _) NoEx.bad
    · split
      · exact NoEx.bad
      · exact NoEx.ite (NoEx.ok _) NoEx.bad
    · split
      · exact NoEx.bad
      · exact NoEx.ite (NoEx.ok _) NoEx.bad
    · exact NoEx.bind (nx_mapR nx_asInt _) fun _ => NoEx.ite (NoEx.ok _) NoEx.bad
    · exact NoEx.bind (nx_mapR nx_asInt _) fun _ => NoEx.ite (NoEx.ok _) NoEx.bad
theorem nx_b2D (b : B2) (x y : D) : NoEx (b2D b x y) := by
  unfold b2D
  split <;> first | exact NoEx.ok _ | exact NoEx.bad
theorem rs.noex {β : Type} {W : WN} {σ : L2.St} {F H : Hp} {okb : Hp → Hp → β → Prop} {r : Res β} (h : rs W σ F H okb r) (n : NoEx r) : ∃ b, r = .ok b ∧ okb F H b := by
  cases r with
  | ok b => exact ⟨b, rfl, h⟩
  | ex c => exact absurd rfl (n c)
  | bad => exact h.elim

/-- what a context must have -/
structure XOk (X : Cx) : Prop where
  nd : X.N.Nodup
  calm : X.calm = true
  room : X.A.units + 64 < cLine
section
variable {X : Cx} {W : WN} {e a b c : Expr} {es : List Expr} {pos : Pos} {f g h : Env → Res D} {fa : Env → Res (List D)}
theorem PE.pk (x : PE X e (tE X.K W f)) : PE X e (tP X.K W f) := PE.weak x fun σ H Q ⟨F, env, R, h⟩ => ⟨F, env, R, by
  cases q : f env with
  | ok d => rw [q] at h; exact fun v H' F' y z => h v H' F' y (.dq z)
  | ex c => rw [q] at h; exact h
  | bad => rw [q] at h; exact h⟩
/-! ### constants and names -/
theorem c_int {i : Int} {j : Nat} : PE X (.Constant (.int i) j pos) (tE X.K W fun _ => .ok (.int i)) := PE.weak pe_int fun σ H Q ⟨F, env, R, h⟩ => h.end R.sub (.int i)
theorem c_bl {i : Bool} {j : Nat} : PE X (.Constant (.bool i) j pos) (tE X.K W fun _ => .ok (.bool i)) := PE.weak pe_bl fun σ H Q ⟨F, env, R, h⟩ => h.end R.sub (.bl i)
theorem c_str {i : Str} {j : Nat} : PE X (.Constant (.str i) j pos) (tE X.K W fun _ => .ok (.str i)) := PE.weak pe_str fun σ H Q ⟨F, env, R, h⟩ => h.end R.sub (.str i)
theorem c_non {j : Nat} : PE X (.Constant .none j pos) (tE X.K W fun _ => .ok .none) := PE.weak pe_non fun σ H Q ⟨F, env, R, h⟩ => h.end R.sub .non
theorem c_glob {x : Str} {v : V} {u : Value} {d : D} (hg : Gl X x) (hm : X.mg x = some u) (r : RelV v u) (q : ∀ F, Dq X.K F v d) (hd : (x == ("__debug__" : Str)) = false) : PE X (.Name x pos) (tE X.K W fun _ => .ok d) :=
  PE.weak (pe_glob hg hm r hd) fun σ H Q ⟨F, env, R, h⟩ => h.end R.sub (q F)
theorem slot_strict {K : PySem.W.Frag} {F H : Hp} {σ : L2.St} {env : Env} {i : Nat} {d : D} (R : RE K F H σ env) (h : strict env i = .ok d) : ∃ v, σ[i]? = some (some v) ∧ Dq K F v d := by
  have s := R.slot i
  unfold strict at h
  cases q : getS env i with
  | fz d' => rw [q] at h s; cases h; exact s
  | _ => rw [q] at h; cases h
theorem slot_peek {K : PySem.W.Frag} {F H : Hp} {σ : L2.St} {env : Env} {i : Nat} {d : D} (R : RE K F H σ env) (h : peek env i = .ok d) : ∃ v, σ[i]? = some (some v) ∧ Pk K F H v d := by
  have s := R.slot i
  unfold peek at h
  cases q : getS env i with
  | un => rw [q] at h; cases h
  | fz d' => rw [q] at h s; cases h; obtain ⟨v, e, z⟩ := s; exact ⟨v, e, .dq z⟩
  | ol ds => rw [q] at h s; cases h; obtain ⟨l, xs, e, z1, z2, z3⟩ := s; exact ⟨_, e, .ol rfl z1 z3⟩
  | od kvs => rw [q] at h s; cases h; obtain ⟨l, xs, e, z1, z2, z3⟩ := s; exact ⟨_, e, .od rfl z1 z3⟩
theorem nx_strict (σ : Env) (i : Nat) : NoEx (strict σ i) := by
  unfold strict
  split <;> first | exact NoEx.ok _ | exact NoEx.bad
theorem nx_peek (σ : Env) (i : Nat) : NoEx (peek σ i) := by
  unfold peek
  split <;> first | exact NoEx.ok _ | exact NoEx.bad
theorem c_v {i : Nat} {x : Str} (hN : X.N[i]? = some x) (hv : Vis X.env.scope x) (hd : (x == ("__debug__" : Str)) = false) (hcd : (x == ("__classdict__" : Str)) = false) : PE X (.Name x pos) (tE X.K W fun σ => strict σ i) :=
  PE.weak (pe_var hN hv hd hcd) fun σ H Q ⟨F, env, R, h⟩ => by
    obtain ⟨d, e, h⟩ := h.noex (nx_strict _ _)
    obtain ⟨v, e1, z⟩ := slot_strict R e
    exact ⟨v, e1, h.fin R.sub z⟩
theorem c_p {i : Nat} {x : Str} (hN : X.N[i]? = some x) (hv : Vis X.env.scope x) (hd : (x == ("__debug__" : Str)) = false) (hcd : (x == ("__classdict__" : Str)) = false) : PE X (.Name x pos) (tP X.K W fun σ => peek σ i) :=
  PE.weak (pe_var hN hv hd hcd) fun σ H Q ⟨F, env, R, h⟩ => by
    obtain ⟨d, e, h⟩ := h.noex (nx_peek _ _)
    obtain ⟨v, e1, z⟩ := slot_peek R e
    exact ⟨v, e1, h v H F (Ext.refl R.sub) z⟩
/-! ### operators -/
theorem c_op (o : Op) (ha : PE X a (tP X.K W f)) (hb : PE X b (tP X.K W g)) : PE X (.BinOp a (opM o) b pos) (tE X.K W fun σ => do let x ← f σ; let y ← g σ; opD o x y) :=
  PE.weak (pe_op (opR_D o) ha hb) fun σ H Q ⟨F, env, R, h⟩ => goP mnE R h fun dx v F1 H1 _ x1 R1 p1 h1 => goP mnE R1 h1 fun dy w F2 H2 _ x2 R2 p2 h2 => by
    obtain ⟨d, e, q⟩ := h2.noex (nx_opD _ _ _)
    exact ⟨F2, dx, dy, d, x2.sub, p1.ext x2, p2, e, q⟩
theorem nomarkM (b : Expr) (o : Cmp) (hin : o = .isin ∨ o = .notin → behindInMarks (cmpM o) b = false) : behindInMarks (cmpM o) b = false := by
  cases o <;> first | exact hin (.inl rfl) | exact hin (.inr rfl) | exact nomark b
theorem c_cmp (ok : XOk X) (o : Cmp) (ha : PE X a (tP X.K W f)) (hb : PE X b (tP X.K W g)) (hm : behindInMarks (cmpM o) b = false) : PE X (.Compare a [cmpM o] [b] pos) (tE X.K W fun σ => do let x ← f σ; let y ← g σ; cmpV o x y) :=
  PE.weak (pe_cmpR (cmpR_D o ok.room) ha hb hm) fun σ H Q ⟨F, env, R, h⟩ => goP mnE R h fun dx v F1 H1 _ x1 R1 p1 h1 => goP mnE R1 h1 fun dy w F2 H2 _ x2 R2 p2 h2 => by
    obtain ⟨d, e, q⟩ := h2.noex (NoEx.bind (nx_cmpB _ _ _) fun _ => NoEx.ok _)
    exact ⟨F2, dx, dy, d, x2.sub, p1.ext x2, p2, e, q⟩
/-- as a test -/
def evT (f : Env → Res D) : Env → Res Bool := fun σ => do let x ← f σ; asBool x
theorem bind_assoc' {α β γ : Type} (x : Res α) (f : α → Res β) (g : β → Res γ) : ((x >>= f) >>= g) = (x >>= fun a => f a >>= g) := by cases x <;> rfl
theorem c_cmpT (ok : XOk X) (o : Cmp) (ha : PE X a (tP X.K W f)) (hb : PE X b (tP X.K W g)) (hm : behindInMarks (cmpM o) b = false) : PT X (.Compare a [cmpM o] [b] pos) (tT X.K W (evT fun σ => do let x ← f σ; let y ← g σ; cmpV o x y)) :=
  PT.weak (pt_cmpR (cmpR_D o ok.room) ha hb hm) fun σ H Q ⟨F, env, R, h⟩ => by
    unfold evT at h
    rw [bind_assoc'] at h
    refine goP mnT R h fun dx v F1 H1 _ x1 R1 p1 h1 => ?_
    rw [bind_assoc'] at h1
    refine goP mnT R1 h1 fun dy w F2 H2 _ x2 R2 p2 h2 => ?_
    have h3 : rs W σ F2 H2 (okT Q) (cmpB o dx dy) := by
      cases q : cmpB o dx dy with
      | ok r => unfold cmpV at h2; rw [q] at h2; exact h2
      | ex c => exact absurd q (nx_cmpB _ _ _ c)
      | bad => unfold cmpV at h2; rw [q] at h2; exact h2
    obtain ⟨r, e, q⟩ := h3.noex (nx_cmpB _ _ _)
    refine ⟨F2, dx, dy, .bool r, x2.sub, p1.ext x2, p2, ?_, fun v' H' F' y z => ?_⟩
    · unfold cmpV; rw [e]; rfl
    · cases z; exact ⟨r, rfl, q H' F' y⟩
/-- a test from a value -/
theorem c_tst (ha : PE X a (tP X.K W f)) (he : ∀ whole, isTrue a X.env whole = (do let v ← whole; standAt a.pos; holding [v] (truthy v))) : PT X a (tT X.K W (evT f)) :=
  PT.weak (pt_val ha he) fun σ H Q ⟨F, env, R, h⟩ => goP mnT R h fun d v F1 H1 _ x1 R1 p1 h1 => by
    obtain ⟨r, e, q⟩ := h1.noex (nx_asBool _)
    have := asBool_ok e
    subst this
    cases p1.bl
    exact ⟨r, rfl, q H1 F1 (Ext.refl x1.sub)⟩
/-- a op b op' c -/
def evCh (o q : Cmp) (f g h : Env → Res D) : Env → Res D := fun σ => do
  let x ← f σ
  let y ← g σ
  let r ← cmpB o x y
  if r then do
    let z ← h σ
    let r' ← cmpB q y z
    .ok (.bool r')
  else .ok (.bool false)
theorem cmpV_of {o : Cmp} {x y : D} {r : Bool} (h : cmpB o x y = .ok r) : cmpV o x y = .ok (.bool r) := by unfold cmpV; rw [h]; rfl
theorem chain_read (o q : Cmp) {σ : L2.St} {H : Hp} {Q : VK} (h0 : tE X.K W (evCh o q f g h) σ H Q) : tChain (rD2 X.K (cmpV o)) (rD2 X.K (cmpV q)) (tP X.K W f) (tP X.K W g) (tP X.K W h) σ H Q := by
  obtain ⟨F, env, R, h0⟩ := h0
  refine goP mnE R h0 fun dx v F1 H1 _ x1 R1 p1 h1 => goP mnE R1 h1 fun dy w F2 H2 _ x2 R2 p2 h2 => ?_
  have nb := nx_cmpB o dx dy
  cases hr : cmpB o dx dy with
  | ex c => exact absurd hr (nb c)
  | bad => rw [hr] at h2; exact h2.elim
  | ok r =>
    rw [hr] at h2
    refine ⟨F2, dx, dy, .bool r, x2.sub, p1.ext x2, p2, cmpV_of hr, fun v' H' F' y3 z3 => ?_⟩
    cases z3
    refine ⟨r, rfl, ?_⟩
    cases r with
    | false =>
      refine iteF ?_
      exact (rs.ext mnE y3 h2).end y3.sub (.bl false)
    | true =>
      refine iteT ?_
      have h3 := rs.ext mnE y3 h2
      refine goP mnE (R2.ext y3) h3 fun dz w2 F4 H4 _ x4 R4 p4 h4 => ?_
      obtain ⟨d, e, q'⟩ := h4.noex (NoEx.bind (nx_cmpB _ _ _) fun _ => NoEx.ok _)
      exact ⟨F4, dy, dz, d, x4.sub, (p2.ext y3).ext x4, p4, e, q'⟩
theorem c_ch (ok : XOk X) (o q : Cmp) (ha : PE X a (tP X.K W f)) (hb : PE X b (tP X.K W g)) (hc : PE X c (tP X.K W h)) (hm : lastMarks [cmpM o, cmpM q] [b, c] = false) : PE X (.Compare a [cmpM o, cmpM q] [b, c] pos) (tE X.K W (evCh o q f g h)) :=
  PE.weak (pe_chain (cmpR_D o ok.room) (cmpR_D q ok.room) ha hb hc hm) fun σ H Q z => chain_read o q z
theorem bool_res (f : Env → Res D) (hb : ∀ env d, f env = .ok d → ∃ r, d = .bool r) {σ : L2.St} {H : Hp} {Q : Bool → Hp → Prop} (h : tT X.K W (evT f) σ H Q) : tE X.K W f σ H fun v H1 => ∃ k, v = .bl k ∧ Q k H1 := by
  obtain ⟨F, env, R, h⟩ := h
  refine goE mnT R h fun d v F1 H1 e x1 R1 p1 h1 => ?_
  obtain ⟨r, rfl⟩ := hb env d e
  cases p1
  exact ⟨r, rfl, h1 H1 F1 (Ext.refl x1.sub)⟩
theorem evCh_bool (o q : Cmp) (f g h : Env → Res D) (env : Env) (d : D) (e : evCh o q f g h env = .ok d) : ∃ r, d = .bool r := by
  unfold evCh at e
  obtain ⟨x, _, e⟩ := bind_ok e
  obtain ⟨y, _, e⟩ := bind_ok e
  obtain ⟨r, _, e⟩ := bind_ok e
  cases r with
  | false => cases e; exact ⟨_, rfl⟩
  | true =>
    obtain ⟨z, _, e⟩ := bind_ok e
    obtain ⟨r', _, e⟩ := bind_ok e
    cases e; exact ⟨_, rfl⟩
theorem c_chT (ok : XOk X) (o q : Cmp) (ha : PE X a (tP X.K W f)) (hb : PE X b (tP X.K W g)) (hc : PE X c (tP X.K W h)) (hm : lastMarks [cmpM o, cmpM q] [b, c] = false) : PT X (.Compare a [cmpM o, cmpM q] [b, c] pos) (tT X.K W (evT (evCh o q f g h))) :=
  PT.weak (pt_chain (cmpR_D o ok.room) (cmpR_D q ok.room) ha hb hc hm) fun σ H Q z => chain_read o q (bool_res _ (evCh_bool o q f g h) z)
/-! ### and, or, not -/
def evAnd (f g : Env → Res D) : Env → Res D := fun σ => do
  let x ← f σ
  let t ← asBool x
  if t then g σ else .ok (.bool false)
def evOr (f g : Env → Res D) : Env → Res D := fun σ => do
  let x ← f σ
  let t ← asBool x
  if t then .ok (.bool true) else g σ
theorem goB {β : Type} {okb : Hp → Hp → β → Prop} {K : PySem.W.Frag} {F H : Hp} {σ : L2.St} {d : D} {k : Bool → Res β} (h : rs W σ F H okb (asBool d >>= k)) : ∃ r, d = .bool r ∧ rs W σ F H okb (k r) := by
  cases q : asBool d with
  | ok r => rw [q] at h; exact ⟨r, asBool_ok q, h⟩
  | ex c => exact absurd q (nx_asBool _ c)
  | bad => rw [q] at h; exact h.elim
theorem c_and1 (ha : PE X a (tE X.K W f)) : PE X (.BoolOp .And [a] pos) (tE X.K W f) := pe_one ha
theorem c_or1 (ha : PE X a (tE X.K W f)) : PE X (.BoolOp .Or [a] pos) (tE X.K W f) := pe_one ha
theorem c_and {rest : List Expr} (ha : PE X a (tP X.K W f)) (hb : PE X (.BoolOp .And (b :: rest) pos) (tE X.K W g)) : PE X (.BoolOp .And (a :: b :: rest) pos) (tE X.K W (evAnd f g)) :=
  PE.weak (pe_and ha hb) fun σ H Q ⟨F, env, R, h⟩ => goP mnE R h fun d v F1 H1 _ x1 R1 p1 h1 => by
    obtain ⟨r, rfl, h2⟩ := goB (K := X.K) h1
    cases p1.bl
    refine ⟨r, rfl, ?_⟩
    cases r with
    | true => exact iteT ⟨F1, env, R1, h2⟩
    | false => exact iteF (h2.end x1.sub (.bl false))
theorem c_or {rest : List Expr} (ha : PE X a (tP X.K W f)) (hb : PE X (.BoolOp .Or (b :: rest) pos) (tE X.K W g)) : PE X (.BoolOp .Or (a :: b :: rest) pos) (tE X.K W (evOr f g)) :=
  PE.weak (pe_or ha hb) fun σ H Q ⟨F, env, R, h⟩ => goP mnE R h fun d v F1 H1 _ x1 R1 p1 h1 => by
    obtain ⟨r, rfl, h2⟩ := goB (K := X.K) h1
    cases p1.bl
    refine ⟨r, rfl, ?_⟩
    cases r with
    | true => exact iteT (h2.end x1.sub (.bl true))
    | false => exact iteF ⟨F1, env, R1, h2⟩
theorem c_not (ha : PE X a (tP X.K W f)) : PE X (.UnaryOp .Not a pos) (tE X.K W fun σ => do let x ← f σ; let t ← asBool x; .ok (.bool !t)) :=
  PE.weak (pe_not ha) fun σ H Q ⟨F, env, R, h⟩ => goP mnE R h fun d v F1 H1 _ x1 R1 p1 h1 => by
    obtain ⟨r, rfl, h2⟩ := goB (K := X.K) h1
    cases p1.bl
    exact ⟨r, rfl, h2.end x1.sub (.bl _)⟩
/-- as tests -/
theorem w_and1 (ha : PT X a (tT X.K W (evT f))) : PW X (.BoolOp .And [a] pos) (tT X.K W (evT f)) := pw_and1 ha
theorem w_or1 (ha : PT X a (tT X.K W (evT f))) : PW X (.BoolOp .Or [a] pos) (tT X.K W (evT f)) := pw_or1 ha
theorem evT_bind {β : Type} (f : Env → Res D) (env : Env) (k : Bool → Res β) : (evT f env >>= k) = (f env >>= fun x => asBool x >>= k) := bind_assoc' _ _ _
theorem ite_bind {α β : Type} (c : Bool) (x y : Res α) (k : α → Res β) : ((if c = true then x else y) >>= k) = if c = true then x >>= k else y >>= k := by cases c <;> rfl
theorem evT_and (f g : Env → Res D) (env : Env) : evT (evAnd f g) env = (evT f env >>= fun t => if t = true then evT g env else .ok false) := by
  rw [evT_bind]
  unfold evT evAnd
  rw [bind_assoc']
  congr 1
  funext x
  rw [bind_assoc']
  congr 1
  funext t
  rw [ite_bind]
  rfl
theorem evT_or (f g : Env → Res D) (env : Env) : evT (evOr f g) env = (evT f env >>= fun t => if t = true then .ok true else evT g env) := by
  rw [evT_bind]
  unfold evT evOr
  rw [bind_assoc']
  congr 1
  funext x
  rw [bind_assoc']
  congr 1
  funext t
  rw [ite_bind]
  rfl
theorem w_and {rest : List Expr} (ha : PT X a (tT X.K W (evT f))) (hb : PW X (.BoolOp .And (b :: rest) pos) (tT X.K W (evT g))) : PW X (.BoolOp .And (a :: b :: rest) pos) (tT X.K W (evT (evAnd f g))) :=
  PW.weak (pw_and ha hb) fun σ H Q ⟨F, env, R, h⟩ => by
    rw [evT_and] at h
    refine goT mnT R h fun r F1 H1 _ x1 R1 h2 => ?_
    cases r with
    | true => exact iteT ⟨F1, env, R1, h2⟩
    | false => exact iteF (h2 H1 F1 (Ext.refl x1.sub))
theorem w_or {rest : List Expr} (ha : PT X a (tT X.K W (evT f))) (hb : PW X (.BoolOp .Or (b :: rest) pos) (tT X.K W (evT g))) : PW X (.BoolOp .Or (a :: b :: rest) pos) (tT X.K W (evT (evOr f g))) :=
  PW.weak (pw_or ha hb) fun σ H Q ⟨F, env, R, h⟩ => by
    rw [evT_or] at h
    refine goT mnT R h fun r F1 H1 _ x1 R1 h2 => ?_
    cases r with
    | true => exact iteT (h2 H1 F1 (Ext.refl x1.sub))
    | false => exact iteF ⟨F1, env, R1, h2⟩
theorem c_notT (ha : PT X a (tT X.K W (evT f))) : PT X (.UnaryOp .Not a pos) (tT X.K W (evT fun σ => do let x ← f σ; let t ← asBool x; .ok (.bool !t))) :=
  PT.weak (pt_not ha) fun σ H Q ⟨F, env, R, h⟩ => by
    have e : evT (fun σ => do let x ← f σ; let t ← asBool x; .ok (.bool !t)) env = (evT f env >>= fun t => .ok !t) := by
      rw [evT_bind]
      unfold evT
      rw [bind_assoc']
      congr 1
      funext x
      rw [bind_assoc']
      rfl
    rw [e] at h
    exact goT mnT R h fun r F1 H1 _ x1 R1 h2 => h2 H1 F1 (Ext.refl x1.sub)
theorem c_neg (ha : PE X a (tP X.K W f)) : PE X (.UnaryOp .USub a pos) (tE X.K W fun σ => do let x ← f σ; let i ← asInt x; .ok (.int (-i))) :=
  PE.weak (pe_un un_neg ha) fun σ H Q ⟨F, env, R, h⟩ => goP mnE R h fun d v F1 H1 _ x1 R1 p1 h1 => by
    cases q : asInt d with
    | ok i =>
      rw [q] at h1
      have := asInt_ok q
      subst this
      cases p1.int
      exact ⟨i, rfl, h1.end x1.sub (.int _)⟩
    | ex c => exact absurd q (nx_asInt _ c)
    | bad => rw [q] at h1; exact h1.elim
theorem c_ite (hc : PT X c (tT X.K W (evT h))) (ha : PE X a (tE X.K W f)) (hb : PE X b (tE X.K W g)) : PE X (.IfExp c a b pos) (tE X.K W fun σ => do let x ← h σ; let t ← asBool x; if t then f σ else g σ) :=
  PE.weak (pe_ifExp hc ha hb) fun σ H Q ⟨F, env, R, z⟩ => by
    have z : rs W σ F H (okE X.K Q) (evT h env >>= fun t => if t = true then f env else g env) := by rw [evT_bind]; exact z
    refine goT mnE R z fun r F1 H1 _ x1 R1 h2 => ?_
    cases r with
    | true => exact iteT ⟨F1, env, R1, h2⟩
    | false => exact iteF ⟨F1, env, R1, h2⟩
theorem Pk.isnon {K : PySem.W.Frag} {F H : Hp} {v : V} {d : D} (p : Pk K F H v d) : decide (v = .non) = !notNone d := by
  cases p with
  | dq q => cases q <;> simp [notNone]
  | ol e _ _ => subst e; simp [notNone]
  | od e _ _ => subst e; simp [notNone]
theorem c_isN (ha : PE X a (tP X.K W f)) {j : Nat} {p2 : Pos} : PE X (.Compare a [.Is] [.Constant .none j p2] pos) (tE X.K W fun σ => do let x ← f σ; .ok (.bool !(notNone x))) :=
  PE.weak (pe_cmp (pc_isN ha) rfl) fun σ H Q ⟨F, env, R, h⟩ => goP mnE R h fun d v F1 H1 _ x1 R1 p1 h1 => by
    rw [p1.isnon]
    exact h1.end x1.sub (.bl _)
theorem c_notN (ha : PE X a (tP X.K W f)) {j : Nat} {p2 : Pos} : PE X (.Compare a [.IsNot] [.Constant .none j p2] pos) (tE X.K W fun σ => do let x ← f σ; .ok (.bool (notNone x))) :=
  PE.weak (pe_cmp (pc_notN ha) rfl) fun σ H Q ⟨F, env, R, h⟩ => goP mnE R h fun d v F1 H1 _ x1 R1 p1 h1 => by
    rw [p1.isnon, Bool.not_not]
    exact h1.end x1.sub (.bl _)
theorem c_isNT (ha : PE X a (tP X.K W f)) {j : Nat} {p2 : Pos} : PT X (.Compare a [.Is] [.Constant .none j p2] pos) (tT X.K W (evT fun σ => do let x ← f σ; .ok (.bool !(notNone x)))) :=
  PT.weak (pt_cmp (pc_isN ha) rfl) fun σ H Q ⟨F, env, R, h⟩ => by
    unfold evT at h
    rw [bind_assoc'] at h
    refine goP mnT R h fun d v F1 H1 _ x1 R1 p1 h1 => ⟨_, rfl, ?_⟩
    rw [p1.isnon]
    exact h1 H1 F1 (Ext.refl x1.sub)
theorem c_notNT (ha : PE X a (tP X.K W f)) {j : Nat} {p2 : Pos} : PT X (.Compare a [.IsNot] [.Constant .none j p2] pos) (tT X.K W (evT fun σ => do let x ← f σ; .ok (.bool (notNone x)))) :=
  PT.weak (pt_cmp (pc_notN ha) rfl) fun σ H Q ⟨F, env, R, h⟩ => by
    unfold evT at h
    rw [bind_assoc'] at h
    refine goP mnT R h fun d v F1 H1 _ x1 R1 p1 h1 => ⟨_, rfl, ?_⟩
    rw [p1.isnon, Bool.not_not]
    exact h1 H1 F1 (Ext.refl x1.sub)
/-! ### subscripts -/
theorem c_ix (ok : XOk X) (ha : PE X a (tP X.K W f)) (hb : PE X b (tP X.K W g)) (hs : PlainIx b) : PE X (.Subscript a b pos) (tE X.K W fun σ => do let x ← f σ; let y ← g σ; ixD x y) :=
  PE.weak (pe_ix (ixR_D ok.room) ha hb hs) fun σ H Q ⟨F, env, R, h⟩ => goP mnE R h fun dx v F1 H1 _ x1 R1 p1 h1 => goP mnE R1 h1 fun dy w F2 H2 _ x2 R2 p2 h2 => by
    obtain ⟨d, e, q⟩ := h2.noex (nx_ixD _ _)
    exact ⟨F2, dx, dy, d, x2.sub, p1.ext x2, p2, e, q⟩
theorem goI {β : Type} {okb : Hp → Hp → β → Prop} {F H : Hp} {σ : L2.St} {d : D} {k : Int → Res β} (h : rs W σ F H okb (asInt d >>= k)) : ∃ r, d = .int r ∧ rs W σ F H okb (k r) := by
  cases q : asInt d with
  | ok r => rw [q] at h; exact ⟨r, asInt_ok q, h⟩
  | ex c => exact absurd q (nx_asInt _ c)
  | bad => rw [q] at h; exact h.elim
theorem c_slf {p2 : Pos} (ha : PE X a (tP X.K W f)) (hb : PE X b (tP X.K W g)) : PE X (.Subscript a (.Slice (some b) none none p2) pos) (tE X.K W fun σ => do let x ← f σ; let y ← g σ; let i ← asInt y; slD x (some i) none) :=
  PE.weak (pe_slice slR_D ha (po_some hb) po_none) fun σ H Q ⟨F, env, R, h⟩ => goP mnE R h fun dx v F1 H1 _ x1 R1 p1 h1 => goP mnE R1 h1 fun dy w F2 H2 _ x2 R2 p2 h2 => by
    obtain ⟨i, rfl, h3⟩ := goI h2
    cases p2.int
    obtain ⟨d, e, q⟩ := h3.noex (nx_slD _ _ _)
    exact ⟨i, rfl, F2, dx, d, x2.sub, p1.ext x2, e, q⟩
theorem c_slt {p2 : Pos} (ha : PE X a (tP X.K W f)) (hb : PE X b (tP X.K W g)) : PE X (.Subscript a (.Slice none (some b) none p2) pos) (tE X.K W fun σ => do let x ← f σ; let y ← g σ; let i ← asInt y; slD x none (some i)) :=
  PE.weak (pe_slice slR_D ha po_none (po_some hb)) fun σ H Q ⟨F, env, R, h⟩ => goP mnE R h fun dx v F1 H1 _ x1 R1 p1 h1 => goP mnE R1 h1 fun dy w F2 H2 _ x2 R2 p2 h2 => by
    obtain ⟨i, rfl, h3⟩ := goI h2
    cases p2.int
    obtain ⟨d, e, q⟩ := h3.noex (nx_slD _ _ _)
    exact ⟨i, rfl, F2, dx, d, x2.sub, p1.ext x2, e, q⟩
theorem c_slb {p2 : Pos} (ha : PE X a (tP X.K W f)) (hb : PE X b (tP X.K W g)) (hc : PE X c (tP X.K W h)) : PE X (.Subscript a (.Slice (some b) (some c) none p2) pos) (tE X.K W fun σ => do let x ← f σ; let y ← g σ; let i ← asInt y; let z ← h σ; let j ← asInt z; slD x (some i) (some j)) :=
  PE.weak (pe_slice slR_D ha (po_some hb) (po_some hc)) fun σ H Q ⟨F, env, R, h⟩ => goP mnE R h fun dx v F1 H1 _ x1 R1 p1 h1 => goP mnE R1 h1 fun dy w F2 H2 _ x2 R2 p2 h2 => by
    obtain ⟨i, rfl, h3⟩ := goI h2
    cases p2.int
    refine ⟨i, rfl, goP mnE R2 h3 fun dz w3 F3 H3 _ x3 R3 p3 h4 => ?_⟩
    obtain ⟨j, rfl, h5⟩ := goI h4
    cases p3.int
    obtain ⟨d, e, q⟩ := h5.noex (nx_slD _ _ _)
    exact ⟨j, rfl, F3, dx, d, x3.sub, (p1.ext x2).ext x3, e, q⟩
theorem c_rev {k : Nat} {p1 p2 p3 : Pos} (ha : PE X a (tP X.K W f)) : PE X (.Subscript a (.Slice none none (some (.UnaryOp .USub (.Constant (.int 1) k p1) p2)) p3) pos) (tE X.K W fun σ => do let x ← f σ; revD x) :=
  PE.weak (pe_revA ha) fun σ H Q ⟨F, env, R, h⟩ => goP mnE R h fun dx v F1 H1 _ x1 R1 p1 h1 => by
    obtain ⟨d, e, q⟩ := h1.noex (nx_revD _)
    cases dx <;> try cases e
    · obtain ⟨l, xs, rfl, h2, a1⟩ := p1.lst x1.sub
      exact ⟨l, xs, rfl, .inl ⟨.inl h2, new_lst x1.sub q a1.rev⟩⟩
    · obtain ⟨l, xs, rfl, h2, a1⟩ := p1.tup x1.sub
      exact ⟨l, xs, rfl, .inr ⟨h2, new_tup x1.sub q a1.rev⟩⟩
/-! ### displays, argument lists -/
theorem c_nil : PA X [] (tA X.K W fun _ => .ok []) := PA.weak pa_nil fun σ H Q ⟨F, env, R, h⟩ => h [] H F (Ext.refl R.sub) .nil
theorem c_cons (ha : PE X e (tE X.K W f)) (hr : PA X es (tA X.K W fa)) (hs : starEach (e :: es) X.env = (false, eval e X.env) :: starEach es X.env) : PA X (e :: es) (tA X.K W fun σ => do let d ← f σ; let ds ← fa σ; .ok (d :: ds)) :=
  PA.weak (pa_cons ha hr hs) fun σ H Q ⟨F, env, R, h⟩ => goE mnA R h fun d v F1 H1 _ x1 R1 p1 h1 => goA mnA R1 h1 fun ds vs F2 H2 _ x2 R2 p2 h2 => h2 (v :: vs) H2 F2 (Ext.refl x2.sub) (.cons (p1.up x2.f) p2)
/-- a tuple of written items -/
def tTupN (t : TA) : TE := fun σ H Q => t σ H fun xs H1 => xs.length ≤ sizeLine ∧ ∀ p o, H1 p = none → o.dict = none → Q (.ref p) (upd H1 p (.frz o (.tup xs)))
theorem pe_tupN {k : Nat} {t : TA} (h : PA X es t) : PE X (.Tuple es k pos) (tTupN t) := by
  refine ⟨fun pins s σ H Q I hq => ?_⟩
  refine wpAny_Tuple_spliced (thn (h.run pos pins s σ H _ I hq) fun us s1 ⟨xs, H1, I1, r, z, q⟩ => ⟨by rw [← r.length]; exact z, ?_⟩)
  exact laidN (k := s1.toks) I1 rfl rfl r rfl z q
theorem c_tup {k : Nat} (ha : PA X es (tA X.K W fa)) (hl : ∀ env ds, fa env = .ok ds → ds.length ≤ 1000000) : PE X (.Tuple es k pos) (tE X.K W fun σ => do let ds ← fa σ; .ok (.tuple ds)) :=
  PE.weak (pe_tupN ha) fun σ H Q ⟨F, env, R, h⟩ => goA mnE R h fun ds vs F1 H1 e x1 R1 p1 h1 =>
    ⟨by rw [p1.length]; exact Nat.le_trans (hl env ds e) (by rw [sizeLine_eq]; decide), new_tup x1.sub h1 p1⟩
theorem c_lst (ha : PA X es (tA X.K W fa)) (hl : ∀ env ds, fa env = .ok ds → ds.length ≤ 1000000) : PE X (.List es pos) (tE X.K W fun σ => do let ds ← fa σ; .ok (.list ds)) :=
  PE.weak (pe_lst ha) fun σ H Q ⟨F, env, R, h⟩ => goA mnE R h fun ds vs F1 H1 e x1 R1 p1 h1 =>
    ⟨by rw [p1.length]; exact Nat.le_trans (hl env ds e) (by rw [sizeLine_eq]; decide), new_lst x1.sub h1 p1⟩
end
end BW

namespace BW
open PySem PySem.W L2 PySem.Spec PyProof.Rows
/-! ### enumerate of a tuple -/
section
variable {prog : Program} {w : World} {A : Around} {E : Value → Shared → Prop} {s : Shared}
theorem meets_enumT (l : Addr) (items : Array Value) (n : Nat) (dct : Option Addr) (sl : Array (Option Value)) :
    Meets (Builtin.«enumerate.__new__» ⟨[.type "enumerate", .ref l], []⟩) (fun _ R s => s.heap.get? l = some { cls := .type "tuple", dict := dct, data := .seq items n, slots := sl } ∧
      R (.ok (.ret (.ref (s.heap.push { cls := .type "tuple_iterator", data := .fields #[.ref l, .int 0 0] }).objs.size)))
        { s with heap := (s.heap.push { cls := .type "tuple_iterator", data := .fields #[.ref l, .int 0 0] }).push { cls := .type "enumerate", data := .fields #[.none, .bool false, .ref s.heap.objs.size, rawInt 0, .none, .none] } }) :=
  .of_wp fun prog w A R s h => by
    obtain ⟨hp, g, d, tk, os⟩ := s; obtain ⟨hl, h⟩ := h
    have hsub := sub_enumerate
    have hT : Heap.IsTuple (Shared.heap ⟨hp, g, d, tk, os⟩) l items := ⟨_, hl, rfl, n, rfl⟩
    wp_walk using wpAny_loadPart' hl
    refine wpAny_stack_any fun st => wpAny_pure ?_
    split
    · rename_i c _ _ _ _ _
      cases (c == Value.type "enumerate")
      · wp_walk using wpAny_loadPart' hl, wpAny_pyIter_tuple hT
        exact ⟨_, rfl, h⟩
      · wp_walk using wpAny_loadPart' hl, wpAny_pyIter_tuple hT
        exact ⟨_, rfl, h⟩
    · wp_walk using wpAny_loadPart' hl, wpAny_pyIter_tuple hT
      exact ⟨_, rfl, h⟩
theorem call_enumT {l : Addr} {items : Array Value} {Q : Value → Shared → Prop} (hL : s.heap.IsTuple l items)
    (h : ∀ h', IsEnum h' (s.heap.objs.size + 1) s.heap.objs.size 0 .none → h'.IsTupleIter s.heap.objs.size l 0 →
      (∀ b o, s.heap.get? b = some o → h'.get? b = some o) → Q (.ref (s.heap.objs.size + 1)) { s with heap := h' }) :
    wpAny (model prog w) A (call (.type "enumerate") [.ref l]) Q E s := by
  obtain ⟨⟨c, dct, dt, sl⟩, hl, hc, n, hd⟩ := hL
  replace hc : c = .type "tuple" := hc
  replace hd : dt = .seq items n := hd
  subst hc hd
  refine callType_new PySem.F.called_enumerate (by decide) (PySem.F.typeCall_enumerate_1 _) (PySem.F.newCall_enumerate_1 _) (fun obj => PySem.F.args_object_init_2 obj _) PySem.F.entry_enumerate_new
    (meets_enumT l items n dct sl) ⟨hl, ?_⟩
  have hz : (s.heap.push { cls := .type "tuple_iterator", data := .fields #[.ref l, .int 0 0] }).objs.size = s.heap.objs.size + 1 := Heap.size_push ..
  show _ ∧ _
  rw [hz]
  have he : IsEnum ((s.heap.push { cls := .type "tuple_iterator", data := .fields #[.ref l, .int 0 0] }).push
      { cls := .type "enumerate", data := .fields #[.none, .bool false, .ref s.heap.objs.size, rawInt 0, .none, .none] }) (s.heap.objs.size + 1) s.heap.objs.size 0 .none := by
    have z := Heap.get?_push_size (s.heap.push { cls := .type "tuple_iterator", data := .fields #[.ref l, .int 0 0] })
      (o := { cls := .type "enumerate", data := .fields #[.none, .bool false, .ref s.heap.objs.size, rawInt 0, .none, .none] }) rfl
    rw [hz] at z; exact z
  exact ⟨⟨_, he, rfl⟩, h _ he ⟨_, Heap.get?_push_of_some _ (Heap.get?_push_size _ rfl), rfl, rfl⟩ fun b o x => Heap.get?_push_of_some _ (Heap.get?_push_of_some _ x)⟩
end
/-- a tuple's items with their numbers -/
def IteT (K : PySem.W.Frag) (a : Addr) : L2.It :=
  ⟨fun i H => ∃ (xs : List V) (x : V), SqT K H a xs ∧ xs[i]? = some x, fun i H v H' => ∃ T x, v = .ref T ∧ H T = none ∧ H' = upd H T (.tup [.int (i : Nat), x]) ∧ ∀ xs, SqT K H a xs → xs[i]? = some x, fun i H => ∃ xs : List V, SqT K H a xs ∧ xs.length = i⟩
theorem turn_enumT {P : Program} {w : World} {K : PySem.W.Frag} {elts : List Expr} {kk : Nat} {tpos : Pos} (a e it : Addr) :
    Turn P w K (.Tuple elts kk tpos) (IteT K a) [e, it] e (fun i h => (∃ old, IsEnum h e it (0 + (i : Int)) old) ∧ h.IsTupleIter it a i ∧ e ≠ it) where
  mem := by simp
  obj := fun i h st b hb => by
    obtain ⟨⟨old, he⟩, ⟨o, ho, hc, hd⟩, _⟩ := st
    have e' : b = e ∨ b = it := by simpa using hb
    rcases e' with z | z
    · rw [z]; exact ⟨_, he, fun v q => nomatch q⟩
    · rw [z]; exact ⟨o, ho, fun v q => by rw [hd] at q; cases q⟩
  keep := fun i h h' st k => let ⟨⟨old, he⟩, hi, hne⟩ := st; ⟨⟨old, k e (by simp) _ he⟩, hi.at fun o q => k it (by simp) o q, hne⟩
  item := by
    intro X hP hw hK hc i pins s σ H E I hf st hg
    subst hP hw hK
    obtain ⟨⟨old, he⟩, hit, hne⟩ := st
    obtain ⟨xs, x, hq, hx⟩ := hg
    obtain ⟨its, rv, p, hz⟩ := I.tuple hq
    obtain ⟨u, hu, ru⟩ := rv.get hx
    have hel : e < s.heap.objs.size := Heap.lt_size he
    have hil : it < s.heap.objs.size := by obtain ⟨_, q, _⟩ := hit; exact Heap.lt_size q
    have pt : s.heap.IsTuple a its.toArray := p
    have ha : a ≠ it := by
      rintro rfl
      obtain ⟨o1, q1, c1, _⟩ := hit
      obtain ⟨o2, q2, c2, _⟩ := pt
      rw [q1] at q2; cases q2; rw [c1] at c2; exact absurd c2 (by decide)
    have hae : a ≠ e := by
      rintro rfl
      obtain ⟨o2, q2, c2, _⟩ := pt
      have he' : s.heap.get? a = some _ := he
      rw [he'] at q2; cases q2; exact absurd c2 (by simp)
    have Dr := Draws.tuple (prog := X.prog) (w := X.w) (A := X.A.in1) (I.ok.hd hc) it a ha its.toArray
    have W := WalksT.enumFrom 0 Dr e hne (by simp; exact ⟨hne, fun z => hae z.symm⟩) (by simp)
    have hi : i < its.toArray.size := by
      have := (List.getElem?_eq_some_iff.mp hu).1
      simpa using this
    refine W.item i s _ _ hi ⟨⟨old, he⟩, hit, pt⟩ fun T vals h' tk hP hT hTu hm hk => ?_
    obtain ⟨t, y, hy, ev⟩ := hP
    have hy' : its[i]? = some y := by simpa using hy
    rw [hu] at hy'
    cases hy'
    subst ev
    refine ⟨_, rfl, W.go elts kk tpos i T { s with heap := h', toks := tk } _ _ hm fun h'' st' hk' => ?_⟩
    have hT2 : h''.IsTuple T #[.int (0 + (i : Int)) t, u] := hTu.at fun o q => hk' T o (W.apart i T h' hm) q
    have new : ObjOk X.prog X.w (upd H T (.tup [.int (i : Nat), x])) h'' T (.tup [.int (i : Nat), x]) :=
      ⟨by show 2 ≤ sizeLine; decide, [.int (0 + (i : Int)) t, u], .cons ⟨t, by rw [Int.zero_add]⟩ (.cons ru .nil), hT2⟩
    have I1 : Inv X pins σ (upd H T (.tup [.int (i : Nat), x])) { s with heap := h'', toks := tk } :=
      I.turnedNew (ch := [e, it]) (fun b ob hb q => hk' b ob hb (hk b ob hb q)) hf hT new
    refine ⟨.ref T, _, I1, rfl, ⟨T, x, rfl, I.hok.fresh hT, rfl, fun ys hy => by rw [I.tuple_inj hy hq]; exact hx⟩, ⟨?_, st'.2.1, hne⟩, fun b hb => ?_⟩
    · have e1 : (0 + ((i + 1 : Nat) : Int)) = 0 + ((i : Nat) : Int) + 1 := by omega
      exact st'.1
    · have hb' : b < s.heap.objs.size := by
        have e' : b = e ∨ b = it := by simpa using hb
        rcases e' with z | z
        · rw [z]; exact hel
        · rw [z]; exact hil
      rw [upd_ne (Nat.ne_of_lt (Nat.lt_of_lt_of_le hb' hT))]
      exact (hf b hb).1
  done := by
    intro X hP hw hK hc i pins s σ H E I hf st hg
    subst hP hw hK
    obtain ⟨⟨old, he⟩, hit, hne⟩ := st
    obtain ⟨xs, hq, hx⟩ := hg
    obtain ⟨its, rv, p, hz⟩ := I.tuple hq
    have pt : s.heap.IsTuple a its.toArray := p
    have ha : a ≠ it := by
      rintro rfl
      obtain ⟨o1, q1, c1, _⟩ := hit
      obtain ⟨o2, q2, c2, _⟩ := pt
      rw [q1] at q2; cases q2; rw [c1] at c2; exact absurd c2 (by decide)
    have hae : a ≠ e := by
      rintro rfl
      obtain ⟨o2, q2, c2, _⟩ := pt
      have he' : s.heap.get? a = some _ := he
      rw [he'] at q2; cases q2; exact absurd c2 (by simp)
    have Dr := Draws.tuple (prog := X.prog) (w := X.w) (A := X.A.in1) (I.ok.hd hc) it a ha its.toArray
    have W := WalksT.enumFrom 0 Dr e hne (by simp; exact ⟨hne, fun z => hae z.symm⟩) (by simp)
    have hi : i = its.toArray.size := by
      rw [List.size_toArray, ← rv.length]; exact hx.symm
    subst hi
    exact W.done s _ _ ⟨⟨old, he⟩, hit, pt⟩ fun h' tk hk => ⟨rfl, I.turnedL (t' := tk) (ch := [e, it]) hk hf⟩
  self := fun A i s Q E st h => let ⟨⟨_, he⟩, _⟩ := st; wpAny_pyIter_enum he h

/-! ### walks, by data -/
structure Wk (K : PySem.W.Frag) (J : L2.It) (S F0 : Hp) (ds : List D) : Prop where
  goes : ∀ i H, i < ds.length → Same S H → J.go i H
  stops : ∀ H, Same S H → J.stop ds.length H
  yld : ∀ i H x H', i < ds.length → Same S H → J.yld i H x H' → ∀ F, Same F0 F → Same F H → ∃ d F', ds[i]? = some d ∧ Ext F F' H H' ∧ Dq K F' x d
section
variable {K : PySem.W.Frag} {S F0 : Hp} {ds : List D} {a b : Addr} {xs ys : List V}
theorem Wk.down {J : L2.It} {S' : Hp} (w : Wk K J S F0 ds) (e : Same S S') : Wk K J S' F0 ds :=
  ⟨fun i H hi h => w.goes i H hi (e.trans h), fun H h => w.stops H (e.trans h), fun i H x H' hi h => w.yld i H x H' hi (e.trans h)⟩
theorem wk_list (h : Rd S a (.lst xs)) (q : DqAll K F0 xs ds) : Wk K (Itl K a) S F0 ds where
  goes := fun i H hi e => by
    rw [← q.length] at hi
    exact ⟨xs, xs[i], .inl (Same.rd e h), by simp [hi]⟩
  stops := fun H e => ⟨xs, .inl (Same.rd e h), by rw [q.length]; exact Nat.le_refl _⟩
  yld := fun i H x H' hi e y F eF s => by
    obtain ⟨rfl, hy⟩ := y
    obtain ⟨d, hd, dq⟩ := (q.up eF).get (hy xs (.inl (Same.rd e h)))
    exact ⟨d, F, hd, Ext.refl s, dq⟩
theorem wk_tup (h : SqT K S a xs) (q : DqAll K F0 xs ds) : Wk K (Itt K a) S F0 ds where
  goes := fun i H hi e => by
    rw [← q.length] at hi
    exact ⟨xs, xs[i], Same.sqT e h, by simp [hi]⟩
  stops := fun H e => ⟨xs, Same.sqT e h, by rw [q.length]; exact Nat.le_refl _⟩
  yld := fun i H x H' hi e y F eF s => by
    obtain ⟨rfl, hy⟩ := y
    obtain ⟨d, hd, dq⟩ := (q.up eF).get (hy xs (Same.sqT e h))
    exact ⟨d, F, hd, Ext.refl s, dq⟩
theorem wk_range {lo : Int} {n : Nat} : Wk K (Itr lo n) S F0 ((List.range n).map fun k => .int (lo + (k : Nat))) where
  goes := fun i H hi _ => by show i < n; simpa using hi
  stops := fun H _ => by simp [Itr]
  yld := fun i H x H' hi e y F eF s => by
    obtain ⟨rfl, rfl⟩ := y
    have hi : i < n := by simpa using hi
    exact ⟨.int (lo + i), F, by simp [hi], Ext.refl s, .int _⟩
theorem wk_rangeC {lo : Int} {n : Nat} : Wk K (Itc lo (-1) n) S F0 ((List.range n).map fun k => .int (lo - (k : Nat))) where
  goes := fun i H hi _ => by show i < n; simpa using hi
  stops := fun H _ => by simp [Itc]
  yld := fun i H x H' hi e y F eF s => by
    obtain ⟨rfl, rfl⟩ := y
    have hi : i < n := by simpa using hi
    refine ⟨.int (lo - i), F, by simp [hi], Ext.refl s, ?_⟩
    have : lo + (i : Int) * (-1) = lo - i := by omega
    rw [this]
    exact .int _
theorem enumD_get : ∀ (ds : List D) (n : Int) (i : Nat), (enumD n ds)[i]? = (ds[i]?).map fun d => wpD [.int (n + i), d]
  | [], n, i => by simp [enumD]
  | d :: ds, n, 0 => by simp [enumD]
  | d :: ds, n, i + 1 => by
    simp only [enumD, List.getElem?_cons_succ, enumD_get ds (n + 1) i]
    have : n + 1 + (i : Int) = n + ((i + 1 : Nat) : Int) := by omega
    rw [this]
theorem enumD_length : ∀ (ds : List D) (n : Int), (enumD n ds).length = ds.length
  | [], _ => rfl
  | d :: ds, n => by simp [enumD, enumD_length ds (n + 1)]
/-- a new pair -/
theorem pair_new {F H : Hp} {T : Addr} {x y : V} {dx dy : D} (s : Same F H) (hT : H T = none) (qx : Dq K F x dx) (qy : Dq K F y dy) : ∃ F', Ext F F' H (upd H T (.tup [x, y])) ∧ Dq K F' (.ref T) (wpD [dx, dy]) := by
  have e := Ext.laid (o := .tup [x, y]) s hT
  exact ⟨_, e, .wp (.inl (.inl upd_same)) (.cons (qx.up e.f) (.cons (qy.up e.f) .nil))⟩
theorem wk_enumL (h : Rd S a (.lst xs)) (q : DqAll K F0 xs ds) : Wk K (Ite K a) S F0 (enumD 0 ds) where
  goes := fun i H hi e => by
    rw [enumD_length, ← q.length] at hi
    exact ⟨xs, xs[i], .inl (Same.rd e h), by simp [hi]⟩
  stops := fun H e => ⟨xs, .inl (Same.rd e h), by rw [q.length, enumD_length]; exact Nat.le_refl _⟩
  yld := fun i H v H' hi e y F eF s => by
    obtain ⟨T, x, rfl, hT, rfl, hy⟩ := y
    obtain ⟨d, hd, dq⟩ := (q.up eF).get (hy xs (.inl (Same.rd e h)))
    obtain ⟨F', x', z⟩ := pair_new (x := .int (i : Nat)) s hT (.int _) dq
    exact ⟨_, F', by rw [enumD_get, hd]; simp only [Option.map_some, Int.zero_add], x', z⟩
theorem wk_enumT (h : SqT K S a xs) (q : DqAll K F0 xs ds) : Wk K (IteT K a) S F0 (enumD 0 ds) where
  goes := fun i H hi e => by
    rw [enumD_length, ← q.length] at hi
    exact ⟨xs, xs[i], Same.sqT e h, by simp [hi]⟩
  stops := fun H e => ⟨xs, Same.sqT e h, by rw [q.length, enumD_length]⟩
  yld := fun i H v H' hi e y F eF s => by
    obtain ⟨T, x, rfl, hT, rfl, hy⟩ := y
    obtain ⟨d, hd, dq⟩ := (q.up eF).get (hy xs (Same.sqT e h))
    obtain ⟨F', x', z⟩ := pair_new (x := .int (i : Nat)) s hT (.int _) dq
    exact ⟨_, F', by rw [enumD_get, hd]; simp only [Option.map_some, Int.zero_add], x', z⟩
theorem zipD_get : ∀ (ds es : List D) (i : Nat) (d e : D), ds[i]? = some d → es[i]? = some e → (zipD ds es)[i]? = some (wpD [d, e])
  | [], _, _, _, _, h, _ => by simp at h
  | _ :: _, [], _, _, _, _, h => by simp at h
  | x :: ds, y :: es, 0, d, e, h1, h2 => by simp at h1 h2; subst h1 h2; rfl
  | x :: ds, y :: es, i + 1, d, e, h1, h2 => by
    simp only [zipD, List.getElem?_cons_succ] at h1 h2 ⊢
    exact zipD_get ds es i d e h1 h2
theorem zipD_length : ∀ ds es : List D, (zipD ds es).length = min ds.length es.length
  | [], _ => by simp [zipD]
  | _ :: _, [] => by simp [zipD]
  | x :: ds, y :: es => by simp only [zipD, List.length_cons, zipD_length ds es]; omega
theorem wk_zipL {es : List D} (h : Rd S a (.lst xs)) (h2 : Rd S b (.lst ys)) (q : DqAll K F0 xs ds) (q2 : DqAll K F0 ys es) : Wk K (Itz K a b) S F0 (zipD ds es) where
  goes := fun i H hi e => by
    rw [zipD_length, ← q.length, ← q2.length] at hi
    have i1 : i < xs.length := by omega
    have i2 : i < ys.length := by omega
    exact ⟨xs, ys, xs[i], ys[i], .inl (Same.rd e h), .inl (Same.rd e h2), by simp [i1], by simp [i2]⟩
  stops := fun H e => ⟨xs, ys, .inl (Same.rd e h), .inl (Same.rd e h2), by rw [q.length, q2.length, zipD_length]; omega⟩
  yld := fun i H v H' hi e y F eF s => by
    obtain ⟨T, x, z, rfl, hT, rfl, hy, hy2⟩ := y
    obtain ⟨d, hd, dq⟩ := (q.up eF).get (hy xs (.inl (Same.rd e h)))
    obtain ⟨d2, hd2, dq2⟩ := (q2.up eF).get (hy2 ys (.inl (Same.rd e h2)))
    obtain ⟨F', x', z⟩ := pair_new s hT dq dq2
    exact ⟨_, F', zipD_get _ _ _ _ _ hd hd2, x', z⟩
theorem wk_zipT {es : List D} (h : SqT K S a xs) (h2 : SqT K S b ys) (q : DqAll K F0 xs ds) (q2 : DqAll K F0 ys es) : Wk K (RZ.ItzT K a b) S F0 (zipD ds es) where
  goes := fun i H hi e => by
    rw [zipD_length, ← q.length, ← q2.length] at hi
    have i1 : i < xs.length := by omega
    have i2 : i < ys.length := by omega
    exact ⟨xs, ys, xs[i], ys[i], Same.sqT e h, Same.sqT e h2, by simp [i1], by simp [i2]⟩
  stops := fun H e => ⟨xs, ys, Same.sqT e h, Same.sqT e h2, by rw [q.length, q2.length, zipD_length]; omega⟩
  yld := fun i H v H' hi e y F eF s => by
    obtain ⟨T, x, z, rfl, hT, rfl, hy, hy2⟩ := y
    obtain ⟨d, hd, dq⟩ := (q.up eF).get (hy xs (Same.sqT e h))
    obtain ⟨d2, hd2, dq2⟩ := (q2.up eF).get (hy2 ys (Same.sqT e h2))
    obtain ⟨F', x', z⟩ := pair_new s hT dq dq2
    exact ⟨_, F', zipD_get _ _ _ _ _ hd hd2, x', z⟩
end

/-! ### what is walked -/
def itm (d : D) : Res (List D) := match items d with
  | some xs => .ok xs
  | none => .bad
/-- pk: the walked thing may be this def's own (a comprehension's source) -/
def okI (K : PySem.W.Frag) (pk : Bool) (R : L2.It → Hp → Prop) : Hp → Hp → List D → Prop := fun F H ds => ∀ J H' F', Ext F F' H H' → Wk K J (if pk then H' else F') F' ds → R J H'
theorem mnI {K : PySem.W.Frag} {pk : Bool} {R : L2.It → Hp → Prop} : Mn (okI K pk R) := fun _ _ _ _ _ x h J H' F' y q => h J H' F' (x.trans y) q
def tI (K : PySem.W.Frag) (W : WN) (pk : Bool) (f : Env → Res (List D)) : TI := fun σ H R => ∃ F env, RE K F H σ env ∧ rs W σ F H (okI K pk R) (f env)
theorem nx_itm (d : D) : NoEx (itm d) := by
  unfold itm
  split
  · exact NoEx.ok _
  · exact NoEx.bad
section
variable {X : Cx} {W : WN} {e a b c tg : Expr} {pos p : Pos} {f g h : Env → Res D}
theorem PI.weak {wi wi' : TI} {iter : Expr} (h : PI X tg iter wi) (w : ∀ σ H R, wi' σ H R → wi σ H R) : PI X tg iter wi' := ⟨fun pins s σ H R I q => h.run pins s σ H R I (w _ _ _ q)⟩
/-- frozen is enough for both -/
theorem Wk.any {K : PySem.W.Frag} {J : L2.It} {F H : Hp} {ds : List D} {pk : Bool} (w : Wk K J F F ds) (s : Same F H) : Wk K J (if pk = true then H else F) F ds := by
  cases pk
  · exact w
  · exact w.down s
def iSeq (K : PySem.W.Frag) (te : TE) : TI := fun σ H R => te σ H fun x H1 => ∃ a, x = .ref a ∧ ((∃ xs, SqL K H1 a xs ∧ R (Itl K a) H1) ∨ (∃ xs, SqT K H1 a xs ∧ R (Itt K a) H1))
theorem pi_seq {te : TE} (he : PE X e te) : PI X tg e (iSeq X.K te) := by
  refine ⟨fun pins s σ H R I h => ?_⟩
  refine thn (he.run pins s σ H _ I h) fun v s1 ⟨x, H1, I1, r1, a, ex, q1⟩ => ?_
  subst ex
  cases r1
  rcases q1 with ⟨xs, hq, q⟩ | ⟨xs, hq, q⟩
  · obtain ⟨its, rv, p, hz⟩ := I1.list hq
    exact wpAny_pyIter_list p.isList (pi_one (tk := s1.toks) I1 _ (turn_list a _) ⟨_, Heap.get?_push_size _ rfl, rfl, rfl⟩ q)
  · obtain ⟨its, rv, p, hz⟩ := I1.tuple hq
    exact wpAny_pyIter_tuple (show s1.heap.IsTuple a its.toArray from p) (pi_one (tk := s1.toks) I1 _ (turn_tuple a _) ⟨_, Heap.get?_push_size _ rfl, rfl, rfl⟩ q)
theorem goM {β : Type} {okb : Hp → Hp → β → Prop} {F H : Hp} {σ : L2.St} {d : D} {k : List D → Res β} (h : rs W σ F H okb (itm d >>= k)) : ∃ xs, items d = some xs ∧ rs W σ F H okb (k xs) := by
  unfold itm at h
  cases q : items d with
  | some xs => rw [q] at h; exact ⟨xs, rfl, h⟩
  | none => rw [q] at h; exact h.elim
theorem items_list {d : D} {xs : List D} (h : items d = some xs) : d = .list xs ∨ d = .tuple xs := by
  cases d <;> simp [items] at h <;> subst h
  · exact .inl rfl
  · exact .inr rfl
theorem bind_pure' {α : Type} (x : Res α) : (x >>= fun a => Res.ok a) = x := by cases x <;> rfl
theorem i_E (ha : PE X e (tE X.K W f)) {pk : Bool} : PI X tg e (tI X.K W pk fun σ => do let d ← f σ; itm d) :=
  PI.weak (pi_seq ha) fun σ H R ⟨F, env, RR, h⟩ => goE mnI RR h fun d v F1 H1 _ x1 R1 p1 h1 => by
    rw [← bind_pure' (itm d)] at h1
    obtain ⟨xs, hx, h2⟩ := goM h1
    rcases items_list hx with rfl | rfl
    · cases p1 with
      | lst z1 z2 => exact ⟨_, rfl, .inl ⟨_, .inl (Same.rd x1.sub z1), h2 _ H1 F1 (Ext.refl x1.sub) ((wk_list z1 z2).any x1.sub)⟩⟩
    · cases p1 with
      | tup z1 z2 => exact ⟨_, rfl, .inr ⟨_, Same.sqT x1.sub z1.sq, h2 _ H1 F1 (Ext.refl x1.sub) ((wk_tup z1.sq z2).any x1.sub)⟩⟩
theorem i_P (ha : PE X e (tP X.K W f)) : PI X tg e (tI X.K W true fun σ => do let d ← f σ; itm d) :=
  PI.weak (pi_seq ha) fun σ H R ⟨F, env, RR, h⟩ => goP mnI RR h fun d v F1 H1 _ x1 R1 p1 h1 => by
    rw [← bind_pure' (itm d)] at h1
    obtain ⟨xs, hx, h2⟩ := goM h1
    rcases items_list hx with rfl | rfl
    · obtain ⟨l, vs, rfl, z1, z2⟩ := p1.lst x1.sub
      exact ⟨_, rfl, .inl ⟨_, .inl z1, h2 _ H1 F1 (Ext.refl x1.sub) (wk_list z1 z2)⟩⟩
    · obtain ⟨l, vs, rfl, z1, z2⟩ := p1.tup x1.sub
      exact ⟨_, rfl, .inr ⟨_, z1, h2 _ H1 F1 (Ext.refl x1.sub) (wk_tup z1 z2)⟩⟩
/-! ### ranges -/
theorem rngD_ok {x y z d : D} (h : rngD x y z = .ok d) : ∃ i j s, x = .int i ∧ y = .int j ∧ z = .int s ∧ (-(2 ^ 62) ≤ i ∧ i < 2 ^ 62 ∧ -(2 ^ 62) ≤ j ∧ j < 2 ^ 62) ∧
    ((s = 1 ∧ d = .list ((List.range (j - i).toNat).map fun k => .int (i + (k : Nat)))) ∨ (s = -1 ∧ d = .list ((List.range (i - j).toNat).map fun k => .int (i - (k : Nat))))) := by
  unfold rngD at h
  obtain ⟨i, e1, h⟩ := bind_ok h
  obtain ⟨j, e2, h⟩ := bind_ok h
  obtain ⟨s, e3, h⟩ := bind_ok h
  refine ⟨i, j, s, asInt_ok e1, asInt_ok e2, asInt_ok e3, ?_⟩
  dsimp only at h
  by_cases hs : s = 1
  · rw [if_pos hs] at h
    obtain ⟨hz, rfl⟩ := ite_okb h
    simp only [Bool.and_eq_true, decide_eq_true_eq] at hz
    exact ⟨⟨hz.1.1.1, hz.1.1.2, hz.1.2, hz.2⟩, .inl ⟨hs, rfl⟩⟩
  · rw [if_neg hs] at h
    by_cases hs2 : s = -1
    · rw [if_pos hs2] at h
      obtain ⟨hz, rfl⟩ := ite_okb h
      simp only [Bool.and_eq_true, decide_eq_true_eq] at hz
      exact ⟨⟨hz.1.1.1, hz.1.1.2, hz.1.2, hz.2⟩, .inr ⟨hs2, rfl⟩⟩
    · rw [if_neg hs2] at h; cases h
theorem nx_rngD (x y z : D) : NoEx (rngD x y z) := by
  unfold rngD
  refine NoEx.bind (nx_asInt _) fun _ => NoEx.bind (nx_asInt _) fun _ => NoEx.bind (nx_asInt _) fun _ => ?_
  exact NoEx.ite (NoEx.ite (NoEx.ok _) NoEx.bad) (NoEx.ite (NoEx.ite (NoEx.ok _) NoEx.bad) NoEx.bad)
theorem goR {β : Type} {okb : Hp → Hp → β → Prop} {F H : Hp} {σ : L2.St} {x y z : D} {k : D → Res β} (h : rs W σ F H okb (rngD x y z >>= k)) : ∃ d, rngD x y z = .ok d ∧ rs W σ F H okb (k d) := by
  cases q : rngD x y z with
  | ok d => rw [q] at h; exact ⟨d, rfl, h⟩
  | ex c => exact absurd q (nx_rngD _ _ _ c)
  | bad => rw [q] at h; exact h.elim
theorem i_range1 {pk : Bool} (hg : Gl X "range") (hm : X.mg "range" = none) (ha : PE X a (tP X.K W f)) (hs : starEach [a] X.env = [(false, eval a X.env)]) :
    PI X tg (.Call (.Name "range" p) [a] [] pos) (tI X.K W pk fun σ => do let y ← f σ; let d ← rngD (.int 0) y (.int 1); itm d) :=
  PI.weak (pi_range1 hg hm (pa_cons ha pa_nil hs) hs) fun σ H R ⟨F, env, RR, h⟩ => goP mnI RR h fun d v F1 H1 _ x1 R1 p1 h1 => by
    obtain ⟨r, e, h2⟩ := goR h1
    obtain ⟨i, j, s, e1, rfl, e3, hz, hd⟩ := rngD_ok e
    cases e1; cases e3
    cases p1.int
    rcases hd with ⟨_, rfl⟩ | ⟨e, _⟩
    · refine ⟨j, rfl, hz.2.2.1, hz.2.2.2, ?_⟩
      rw [show (j - 0).toNat = j.toNat by omega] at h2
      exact h2 _ H1 F1 (Ext.refl x1.sub) (wk_range.any x1.sub)
    · exact absurd e (by decide)
theorem i_range2 {pk : Bool} (hg : Gl X "range") (hm : X.mg "range" = none) (ha : PE X a (tP X.K W f)) (hb : PE X b (tP X.K W g)) (hs : starEach [a, b] X.env = [(false, eval a X.env), (false, eval b X.env)]) (hs2 : starEach [b] X.env = [(false, eval b X.env)]) :
    PI X tg (.Call (.Name "range" p) [a, b] [] pos) (tI X.K W pk fun σ => do let x ← f σ; let y ← g σ; let d ← rngD x y (.int 1); itm d) :=
  PI.weak (pi_range2 hg hm (pa_cons ha (pa_cons hb pa_nil hs2) (by rw [hs, hs2])) hs hs2) fun σ H R ⟨F, env, RR, h⟩ => goP mnI RR h fun d v F1 H1 _ x1 R1 p1 h1 => goP mnI R1 h1 fun d2 v2 F2 H2 _ x2 R2 p2 h2 => by
    obtain ⟨r, e, h3⟩ := goR h2
    obtain ⟨i, j, s, rfl, rfl, e3, hz, hd⟩ := rngD_ok e
    cases e3
    cases p1.int
    cases p2.int
    rcases hd with ⟨_, rfl⟩ | ⟨e, _⟩
    · exact ⟨i, j, rfl, hz, h3 _ H2 F2 (Ext.refl x2.sub) (wk_range.any x2.sub)⟩
    · exact absurd e (by decide)
theorem i_range3 {pk : Bool} (hg : Gl X "range") (hm : X.mg "range" = none) (ha : PE X a (tP X.K W f)) (hb : PE X b (tP X.K W g)) (hc : PE X c (tP X.K W h)) (hs : starEach [a, b, c] X.env = (false, eval a X.env) :: starEach [b, c] X.env) (hs2 : starEach [b, c] X.env = (false, eval b X.env) :: starEach [c] X.env) (hs3 : starEach [c] X.env = (false, eval c X.env) :: starEach [] X.env)
    (hpl : (backTo pos (starEach [b, c] X.env)).any (·.1) = false) :
    PI X tg (.Call (.Name "range" p) [a, b, c] [] pos) (tI X.K W pk fun σ => do let x ← f σ; let y ← g σ; let z ← h σ; let d ← rngD x y z; match z with | .int (-1) => itm d | _ => .bad) :=
  PI.weak (pi_range3 hg hm (pa_cons ha (pa_cons hb (pa_cons hc pa_nil hs3) hs2) hs) hs hpl) fun σ H R ⟨F, env, RR, h⟩ => goP mnI RR h fun d v F1 H1 _ x1 R1 p1 h1 => goP mnI R1 h1 fun d2 v2 F2 H2 _ x2 R2 p2 h2 => goP mnI R2 h2 fun d3 v3 F3 H3 _ x3 R3 p3 h3 => by
    obtain ⟨r, e, h4⟩ := goR h3
    obtain ⟨i, j, s, rfl, rfl, rfl, hz, hd⟩ := rngD_ok e
    cases p1.int
    cases p2.int
    cases p3.int
    rcases hd with ⟨rfl, rfl⟩ | ⟨rfl, rfl⟩
    · exact h4.elim
    · exact ⟨i, j, -1, (i - j).toNat, rfl, RgC.neg hz.1 hz.2.1 hz.2.2.1 hz.2.2.2, h4 _ H3 F3 (Ext.refl x3.sub) (wk_rangeC.any x3.sub)⟩
/-! ### enumerate, zip -/
def iEnumA (K : PySem.W.Frag) (ta : TA) : TI := fun σ H R => ta σ H fun vs H1 => ∃ a, vs = [.ref a] ∧ ((∃ xs, SqL K H1 a xs ∧ R (Ite K a) H1) ∨ (∃ xs, SqT K H1 a xs ∧ R (IteT K a) H1))
theorem pi_enumA {ta : TA} {tpos : Pos} {elts : List Expr} {kk : Nat} (hg : Gl X "enumerate") (hm : X.mg "enumerate" = none) (ha : PA X [e] ta) (hs : starEach [e] X.env = [(false, eval e X.env)]) :
    PI X (.Tuple elts kk tpos) (.Call (.Name "enumerate" p) [e] [] pos) (iEnumA X.K ta) := by
  refine ⟨fun pins s σ H R I h => ?_⟩
  refine Call_ (ld_blt I hg hm boot_enumerate (PyProof.Rows.callWith_type1 (thn (ha.run pos pins s σ H _ I h) fun us s1 ⟨vs, H1, I1, r1, q1⟩ => ?_) hs rfl))
  obtain ⟨a, ex, q⟩ := q1
  subst ex
  have hf : ∀ b, b ∈ [s1.heap.objs.size + 1, s1.heap.objs.size] → FpOk X pins H1 b := fun b hb => by
    have e' : b = s1.heap.objs.size + 1 ∨ b = s1.heap.objs.size := by simpa using hb
    have hle : s1.heap.objs.size ≤ b := by
      rcases e' with z | z
      · rw [z]; exact Nat.le_add_right _ _
      · rw [z]; exact Nat.le_refl _
    exact I1.fpOk hle (I1.hok.fresh hle)
  cases r1 with
  | cons r rr =>
    cases rr
    cases r
    rcases q with ⟨xs, hq, q⟩ | ⟨xs, hq, q⟩
    · obtain ⟨its, rv, p', hz⟩ := I1.list hq
      refine call_enumerate_list p'.isList fun h' he hit hsz hk => wpAny_pyIter_enum he ?_
      have I2 : Inv X pins σ H1 { s1 with heap := h' } := I1.kept (t' := s1.toks) hk
      exact ⟨s1.heap.objs.size + 1, [s1.heap.objs.size + 1, s1.heap.objs.size], _, _, H1, rfl, I2, turn_enum a (s1.heap.objs.size + 1) s1.heap.objs.size, ⟨⟨.none, he⟩, hit, Nat.succ_ne_self _⟩, hf, q⟩
    · obtain ⟨its, rv, p', hz⟩ := I1.tuple hq
      refine call_enumT (show s1.heap.IsTuple a its.toArray from p') fun h' he hit hk => wpAny_pyIter_enum he ?_
      have I2 : Inv X pins σ H1 { s1 with heap := h' } := I1.kept (t' := s1.toks) hk
      exact ⟨s1.heap.objs.size + 1, [s1.heap.objs.size + 1, s1.heap.objs.size], _, _, H1, rfl, I2, turn_enumT a (s1.heap.objs.size + 1) s1.heap.objs.size, ⟨⟨.none, he⟩, hit, Nat.succ_ne_self _⟩, hf, q⟩
theorem i_enum {tpos : Pos} {elts : List Expr} {kk : Nat} (hg : Gl X "enumerate") (hm : X.mg "enumerate" = none) (ha : PE X a (tE X.K W f)) {pk : Bool} (hs : starEach [a] X.env = [(false, eval a X.env)]) :
    PI X (.Tuple elts kk tpos) (.Call (.Name "enumerate" p) [a] [] pos) (tI X.K W pk fun σ => do let x ← f σ; let xs ← itm x; .ok (enumD 0 xs)) :=
  PI.weak (pi_enumA hg hm (pa_cons ha pa_nil hs) hs) fun σ H R ⟨F, env, RR, h⟩ => goE mnI RR h fun d v F1 H1 _ x1 R1 p1 h1 => by
    obtain ⟨xs, hx, h2⟩ := goM h1
    rcases items_list hx with rfl | rfl
    · cases p1 with
      | lst z1 z2 => exact ⟨_, rfl, .inl ⟨_, .inl (Same.rd x1.sub z1), h2 _ H1 F1 (Ext.refl x1.sub) ((wk_enumL z1 z2).any x1.sub)⟩⟩
    · cases p1 with
      | tup z1 z2 => exact ⟨_, rfl, .inr ⟨_, Same.sqT x1.sub z1.sq, h2 _ H1 F1 (Ext.refl x1.sub) ((wk_enumT z1.sq z2).any x1.sub)⟩⟩
theorem i_enumP {tpos : Pos} {elts : List Expr} {kk : Nat} (hg : Gl X "enumerate") (hm : X.mg "enumerate" = none) (ha : PE X a (tP X.K W f)) (hs : starEach [a] X.env = [(false, eval a X.env)]) :
    PI X (.Tuple elts kk tpos) (.Call (.Name "enumerate" p) [a] [] pos) (tI X.K W true fun σ => do let x ← f σ; let xs ← itm x; .ok (enumD 0 xs)) :=
  PI.weak (pi_enumA hg hm (pa_cons ha pa_nil hs) hs) fun σ H R ⟨F, env, RR, h⟩ => goP mnI RR h fun d v F1 H1 _ x1 R1 p1 h1 => by
    obtain ⟨xs, hx, h2⟩ := goM h1
    rcases items_list hx with rfl | rfl
    · obtain ⟨l, vs, rfl, z1, z2⟩ := p1.lst x1.sub
      exact ⟨_, rfl, .inl ⟨_, .inl z1, h2 _ H1 F1 (Ext.refl x1.sub) (wk_enumL z1 z2)⟩⟩
    · obtain ⟨l, vs, rfl, z1, z2⟩ := p1.tup x1.sub
      exact ⟨_, rfl, .inr ⟨_, z1, h2 _ H1 F1 (Ext.refl x1.sub) (wk_enumT z1 z2)⟩⟩
def zpD (x y : D) : Res (List D) := match x, y with
  | .list xs, .list ys => .ok (zipD xs ys)
  | .tuple xs, .tuple ys => .ok (zipD xs ys)
  | _, _ => .bad
theorem nx_zpD (x y : D) : NoEx (zpD x y) := by
  unfold zpD
  split <;> first | exact NoEx.ok _ | exact NoEx.bad
theorem i_zip {tpos : Pos} {elts : List Expr} {kk : Nat} {pk : Bool} (hg : Gl X "zip") (hm : X.mg "zip" = none) (ha : PE X a (tE X.K W f)) (hb : PE X b (tE X.K W g)) (hs : starEach [a, b] X.env = (false, eval a X.env) :: starEach [b] X.env) (hs2 : starEach [b] X.env = (false, eval b X.env) :: starEach [] X.env) (hpl : (backTo pos (starEach [b] X.env)).any (·.1) = false) :
    PI X (.Tuple elts kk tpos) (.Call (.Name "zip" p) [a, b] [] pos) (tI X.K W pk fun σ => do let x ← f σ; let y ← g σ; zpD x y) :=
  PI.weak (RZ.pi_zipA hg hm (pa_cons ha (pa_cons hb pa_nil hs2) hs) hs hpl) fun σ H R ⟨F, env, RR, h⟩ => goE mnI RR h fun d v F1 H1 _ x1 R1 p1 h1 => goE mnI R1 h1 fun d2 v2 F2 H2 _ x2 R2 p2 h2 => by
    obtain ⟨r, e, h3⟩ := h2.noex (nx_zpD _ _)
    unfold zpD at e
    split at e
    · cases e
      cases p1 with
      | lst z1 z2 => cases p2 with
        | lst z3 z4 => exact ⟨_, _, _, _, rfl, .inl ⟨.inl (Same.rd x2.sub (Same.rd x2.f z1)), .inl (Same.rd x2.sub z3), h3 _ H2 F2 (Ext.refl x2.sub) ((wk_zipL (Same.rd x2.f z1) z3 (z2.up x2.f) z4).any x2.sub)⟩⟩
    · cases e
      cases p1 with
      | tup z1 z2 => cases p2 with
        | tup z3 z4 => exact ⟨_, _, _, _, rfl, .inr ⟨Same.sqT x2.sub (Same.sqT x2.f z1.sq), Same.sqT x2.sub z3.sq, h3 _ H2 F2 (Ext.refl x2.sub) ((wk_zipT (Same.sqT x2.f z1.sq) z3.sq (z2.up x2.f) z4).any x2.sub)⟩⟩
    · cases e
theorem i_zipP {tpos : Pos} {elts : List Expr} {kk : Nat} (hg : Gl X "zip") (hm : X.mg "zip" = none) (ha : PE X a (tP X.K W f)) (hb : PE X b (tP X.K W g)) (hs : starEach [a, b] X.env = (false, eval a X.env) :: starEach [b] X.env) (hs2 : starEach [b] X.env = (false, eval b X.env) :: starEach [] X.env) (hpl : (backTo pos (starEach [b] X.env)).any (·.1) = false) :
    PI X (.Tuple elts kk tpos) (.Call (.Name "zip" p) [a, b] [] pos) (tI X.K W true fun σ => do let x ← f σ; let y ← g σ; zpD x y) :=
  PI.weak (RZ.pi_zipA hg hm (pa_cons ha (pa_cons hb pa_nil hs2) hs) hs hpl) fun σ H R ⟨F, env, RR, h⟩ => goP mnI RR h fun d v F1 H1 _ x1 R1 p1 h1 => goP mnI R1 h1 fun d2 v2 F2 H2 _ x2 R2 p2 h2 => by
    obtain ⟨r, e, h3⟩ := h2.noex (nx_zpD _ _)
    unfold zpD at e
    split at e
    · cases e
      obtain ⟨l, vs, rfl, z1, z2⟩ := (p1.ext x2).lst x2.sub
      obtain ⟨l2, vs2, rfl, z3, z4⟩ := p2.lst x2.sub
      exact ⟨_, _, _, _, rfl, .inl ⟨.inl z1, .inl z3, h3 _ H2 F2 (Ext.refl x2.sub) (wk_zipL z1 z3 z2 z4)⟩⟩
    · cases e
      obtain ⟨l, vs, rfl, z1, z2⟩ := (p1.ext x2).tup x2.sub
      obtain ⟨l2, vs2, rfl, z3, z4⟩ := p2.tup x2.sub
      exact ⟨_, _, _, _, rfl, .inr ⟨z1, z3, h3 _ H2 F2 (Ext.refl x2.sub) (wk_zipT z1 z3 z2 z4)⟩⟩
    · cases e
end
end BW

namespace BW
open PySem PySem.W L2 PySem.Spec PyProof.Rows
/-! ### slots that are set -/
theorem getS_set {env : Env} {i j : Nat} {s : Sl} : getS (setS env i s) j = if i = j ∧ i < env.length then s else getS env j := by
  unfold getS setS
  simp only [List.getD_eq_getElem?_getD, List.getElem?_set]
  by_cases h : i = j
  · subst h
    by_cases h2 : i < env.length
    · simp [h2]
    · simp [h2, List.getElem?_eq_none (Nat.le_of_not_lt h2)]
  · simp [h]
theorem RE.set {K : PySem.W.Frag} {F H : Hp} {σ : L2.St} {env : Env} (R : RE K F H σ env) (i : Nat) {v : V} {s : Sl} (q : SlotOk K F H (some (some v)) s) : RE K F H (σ.set i (some v)) (setS env i s) := by
  refine ⟨R.sub, by simp [setS, R.len], fun j => ?_⟩
  rw [getS_set]
  by_cases h : i = j ∧ i < env.length
  · obtain ⟨rfl, h2⟩ := h
    rw [if_pos ⟨rfl, h2⟩, List.getElem?_set_self (by rw [← R.len]; exact h2)]
    exact q
  · rw [if_neg h]
    by_cases e : i = j
    · subst e
      have h2 : ¬ i < env.length := fun z => h ⟨rfl, z⟩
      have : getS env i = .un := by unfold getS; rw [List.getD_eq_getElem?_getD, List.getElem?_eq_none (Nat.le_of_not_lt h2)]; rfl
      rw [this]; trivial
    · rw [List.getElem?_set_ne e]; exact R.slot j
theorem RE.un {K : PySem.W.Frag} {F H : Hp} {σ : L2.St} {env : Env} (R : RE K F H σ env) (i : Nat) (o : Option V) : RE K F H (σ.set i o) (setS env i .un) := by
  refine ⟨R.sub, by simp [setS, R.len], fun j => ?_⟩
  rw [getS_set]
  by_cases h : i = j ∧ i < env.length
  · rw [if_pos h]; trivial
  · rw [if_neg h]
    by_cases e : i = j
    · subst e
      have h2 : ¬ i < env.length := fun z => h ⟨rfl, z⟩
      have : getS env i = .un := by unfold getS; rw [List.getD_eq_getElem?_getD, List.getElem?_eq_none (Nat.le_of_not_lt h2)]; rfl
      rw [this]; trivial
    · rw [List.getElem?_set_ne e]; exact R.slot j
theorem RE.wipe {K : PySem.W.Frag} {F H : Hp} {σ : L2.St} {env : Env} (R : RE K F H σ env) : ∀ vs : List Nat, RE K F H (L2.wipe σ vs) (wipeS env vs)
  | [] => R
  | i :: vs => (R.wipe vs).un i none
/-- changed at these slots only -/
def Chg (l : List Nat) (σ σ' : L2.St) : Prop := σ'.length = σ.length ∧ ∀ i, i ∉ l → σ'[i]? = σ[i]?
theorem Chg.refl {l : List Nat} {σ : L2.St} : Chg l σ σ := ⟨rfl, fun _ _ => rfl⟩
theorem Chg.trans {l : List Nat} {σ σ' σ'' : L2.St} (a : Chg l σ σ') (b : Chg l σ' σ'') : Chg l σ σ'' := ⟨b.1.trans a.1, fun i h => (b.2 i h).trans (a.2 i h)⟩
theorem Chg.mono {l m : List Nat} {σ σ' : L2.St} (a : Chg l σ σ') (h : ∀ i ∈ l, i ∈ m) : Chg m σ σ' := ⟨a.1, fun i n => a.2 i fun z => n (h i z)⟩
theorem wipe_in {σ : L2.St} {i : Nat} : ∀ {vs : List Nat}, i ∈ vs → (L2.wipe σ vs)[i]? = if i < σ.length then some none else none
  | v :: vs, h => by
    unfold L2.wipe
    by_cases e : v = i
    · subst e
      by_cases z : v < σ.length
      · rw [if_pos z, List.getElem?_set_self (by rw [wipe_length]; exact z)]
      · rw [if_neg z, List.getElem?_eq_none (by rw [List.length_set, wipe_length]; exact Nat.le_of_not_lt z)]
    · rw [List.getElem?_set_ne e]
      rcases List.mem_cons.mp h with h | h
      · exact absurd h.symm e
      · exact wipe_in h
theorem Chg.wipe {vs : List Nat} {σ σ' : L2.St} (a : Chg vs σ σ') : L2.wipe σ' vs = L2.wipe σ vs := by
  apply List.ext_getElem?
  intro i
  by_cases h : i ∈ vs
  · rw [wipe_in h, wipe_in h, a.1]
  · rw [wipe_out h, wipe_out h, a.2 i h]
theorem wipe_chg (vs : List Nat) (σ : L2.St) : Chg vs σ (L2.wipe σ vs) := ⟨wipe_length σ vs, fun i h => wipe_out h⟩
theorem wipe_wipe (vs : List Nat) (σ : L2.St) : L2.wipe (L2.wipe σ vs) vs = L2.wipe σ vs := (wipe_chg vs σ).wipe

/-! ### targets -/
mutual
def Tg.sl : Tg → List Nat
  | .n i => [i]
  | .t ts => Tg.sls ts
def Tg.sls : List Tg → List Nat
  | [] => []
  | a :: ts => a.sl ++ Tg.sls ts
end
def tG (K : PySem.W.Frag) (T : Tg) : TG := fun v σ H Q => ∃ F env d env', RE K F H σ env ∧ Dq K F v d ∧ bindT T d env = .ok env' ∧ ∀ σ', RE K F H σ' env' → Chg T.sl σ σ' → Q σ' H
def tGs (K : PySem.W.Frag) (Ts : List Tg) : TGs := fun vs σ H Q => ∃ F env ds env', RE K F H σ env ∧ DqAll K F vs ds ∧ bindTs Ts ds env = .ok env' ∧ ∀ σ', RE K F H σ' env' → Chg (Tg.sls Ts) σ σ' → Q σ' H
section
variable {X : Cx} {W : WN} {pos : Pos} {e : Expr} {es : List Expr}
theorem PG.weak {t t' : TG} (h : PG X e t) (w : ∀ v σ H Q, t' v σ H Q → t v σ H Q) : PG X e t' := ⟨fun pins s σ H v u Q I r q => h.run pins s σ H v u Q I r (w _ _ _ _ q)⟩
theorem PGs.weak {t t' : TGs} (h : PGs X es t) (w : ∀ v σ H Q, t' v σ H Q → t v σ H Q) : PGs X es t' := ⟨fun pins s σ H v u Q I r q => h.run pins s σ H v u Q I r (w _ _ _ _ q)⟩
theorem g_n {i : Nat} {x : Str} (hN : X.N.Nodup) (hi : X.N[i]? = some x) (hx : Loc X.env.scope x) (hf : X.fn x = true ∨ X.env.scope.names.lookup x = some .local) : PG X (.Name x pos) (tG X.K (.n i)) :=
  PG.weak (pg_name hN hi hx hf) fun v σ H Q ⟨F, env, d, env', R, q, e, h⟩ => by
    cases e
    exact h _ (R.set i ⟨v, rfl, q⟩) ⟨by simp, fun j hj => by rw [List.getElem?_set_ne (fun z => hj (by simp [Tg.sl, z]))]⟩
theorem g_nil : PGs X [] (tGs X.K []) := PGs.weak pgs_nil fun v σ H Q ⟨F, env, ds, env', R, q, e, h⟩ => by
  cases q with
  | nil => cases e; exact ⟨rfl, h _ R Chg.refl⟩
  | cons a b => cases e
theorem g_cons {T : Tg} {Ts : List Tg} (h1 : PG X e (tG X.K T)) (h2 : PGs X es (tGs X.K Ts)) (hs : (assignEach (e :: es) X.env).map (·.2) = assign e X.env :: (assignEach es X.env).map (·.2)) : PGs X (e :: es) (tGs X.K (T :: Ts)) :=
  PGs.weak (pgs_cons h1 h2 hs) fun v σ H Q ⟨F, env, ds, env', R, q, e, h⟩ => by
    cases q with
    | nil => cases e
    | cons a b =>
      obtain ⟨env1, e1, e2⟩ := bind_ok e
      refine ⟨_, _, rfl, F, env, _, env1, R, a, e1, fun σ1 R1 c1 => ⟨F, env1, _, env', R1, b, e2, fun σ2 R2 c2 => h σ2 R2 ?_⟩⟩
      exact (c1.mono fun i hi => by simp [Tg.sls, hi]).trans (c2.mono fun i hi => by simp [Tg.sls, hi])
theorem bindTs_len : ∀ {Ts : List Tg} {ds : List D} {env env' : Env}, bindTs Ts ds env = .ok env' → ds.length = Ts.length
  | [], [], _, _, _ => rfl
  | [], _ :: _, _, _, e => by cases e
  | _ :: _, [], _, _, e => by cases e
  | T :: Ts, d :: ds, env, env', e => by
    obtain ⟨env1, e1, e2⟩ := bind_ok e
    simp [bindTs_len e2]
theorem g_t {k n : Nat} {Ts : List Tg} (hc : X.calm = true) (h : PGs X es (tGs X.K Ts)) (hl : Ts.length = n) (hn : (assignEach es X.env).length = n) (hst : (assignEach es X.env).findIdx? (·.1) = none) : PG X (.Tuple es k pos) (tG X.K (.t Ts)) := by
  refine ⟨fun pins s σ H v u Q I r ⟨F, env, d, env', R, q, e, hh⟩ => ?_⟩
  cases d with
  | tuple ds =>
    cases q with
    | tup z1 z2 => exact (pg_tup hc h hn hst).run pins s σ H _ u Q I r ⟨_, _, rfl, (Same.sqN R.sub z1).sq, by rw [z2.length, bindTs_len (show bindTs Ts ds env = .ok env' from e), hl], F, env, ds, env', R, z2, e, fun σ' R' c => hh σ' R' c⟩
  | list ds =>
    cases q with
    | lst z1 z2 => exact (pg_lst hc h hn hst).run pins s σ H _ u Q I r ⟨_, _, rfl, .inl (Same.rd R.sub z1), by rw [z2.length, bindTs_len (show bindTs Ts ds env = .ok env' from e), hl], F, env, ds, env', R, z2, e, fun σ' R' c => hh σ' R' c⟩
  | dict kvs =>
    cases q with
    | wp z1 z2 => exact (pg_tup hc h hn hst).run pins s σ H _ u Q I r ⟨_, _, rfl, Same.sqT R.sub z1, by rw [z2.length, bindTs_len (show bindTs Ts _ env = .ok env' from e), hl], F, env, _, env', R, z2, e, fun σ' R' c => hh σ' R' c⟩
    | scr z1 z2 => cases e
    | dK z1 z2 =>
      cases z2 with
      | nil => cases e
      | @cons k' v' d' ks' ds' a b => cases k' <;> cases ds' <;> first | cases e | (cases d' <;> cases e)
  | _ => cases e
end

/-! ### comprehensions -/
def W0 : WN := fun _ _ _ => False
theorem rs.quiet {β : Type} {W : WN} {σ : L2.St} {F H : Hp} {okb : Hp → Hp → β → Prop} {r : Res β} (h : rs W σ F H okb r.quiet) : rs W0 σ F H okb r := by
  cases r with
  | ok b => exact h
  | ex c => exact h.elim
  | bad => exact h
/-- the heap without the list that is made -/
theorem ext_mask {F1 H1 F Hb F4 H4 : Hp} {L : Addr} {o : HO} (x : Ext F1 F H1 Hb) (hb : Hb L = none) (h1 : H1 L = none) (y : Ext F F4 (upd Hb L o) H4) :
    ∃ Hc, Hc L = none ∧ Ext F1 F4 H1 Hc ∧ ∀ o', upd H4 L o' = upd Hc L o' := by
  have fD : F L = none := by
    cases q : F L with
    | none => rfl
    | some u => rw [x.sub _ _ q] at hb; cases hb
  have f4D : F4 L = none := y.none upd_same fD
  refine ⟨fun a => if a = L then none else H4 a, by simp, ⟨x.f.trans y.f, fun a u h => ?_, fun a u h => ?_, fun a u h => ?_⟩, fun o' => ?_⟩
  · have ne : a ≠ L := fun z => by rw [z, h1] at h; cases h
    simp only [ne, if_false]
    exact y.h _ _ (by rw [upd_ne ne]; exact x.h _ _ h)
  · have ne : a ≠ L := fun z => by rw [z, f4D] at h; cases h
    simp only [ne, if_false]
    exact y.sub _ _ h
  · rcases y.new a u h with z | z
    · exact x.new a u z
    · right
      cases q : H1 a with
      | none => rfl
      | some w =>
        have ne : a ≠ L := fun z => by rw [z, h1] at q; cases q
        rw [upd_ne ne, x.h _ _ q] at z; cases z
  · funext a
    unfold upd
    by_cases e : a = L
    · simp [e]
    · simp [e]
theorem compR_cons {f : D → Res (Option D)} {x : D} {r ys : List D} (h : compR f (x :: r) = .ok ys) : ∃ o zs, f x = .ok o ∧ compR f r = .ok zs ∧ ys = (match o with | some y => y :: zs | none => zs) := by
  unfold compR at h
  obtain ⟨o, e1, h⟩ := bind_ok h
  obtain ⟨zs, e2, h⟩ := bind_ok h
  refine ⟨o, zs, e1, e2, ?_⟩
  cases o with
  | some y => cases h; rfl
  | none => cases h; rfl
theorem nx_compR {f : D → Res (Option D)} (h : ∀ d, NoEx (f d)) : ∀ xs : List D, NoEx (compR f xs)
  | [] => NoEx.ok _
  | x :: xs => NoEx.bind (h x) fun o => NoEx.bind (nx_compR h xs) fun zs => by cases o <;> exact NoEx.ok _
theorem nx_quiet {α : Type} (r : Res α) : NoEx r.quiet := by
  cases r
  · exact NoEx.ok _
  · exact NoEx.bad
  · exact NoEx.bad
/-- one item of a comprehension -/
def compF (T : Tg) (fc : Env → Res Bool) (fe : Env → Res D) (vs : List Nat) (env : Env) : D → Res (Option D) := fun d => (do
  let σ' ← bindT T d (wipeS env vs)
  let b ← fc σ'
  if b then do
    let y ← fe σ'
    .ok (some y)
  else .ok none).quiet
def compD (fi : Env → Res (List D)) (T : Tg) (fc : Env → Res Bool) (fe : Env → Res D) (vs : List Nat) : Env → Res D := fun env => do
  let xs ← fi env
  let ys ← compR (compF T fc fe vs env) xs
  if sizeOk ys.length then .ok (.list ys) else .bad
theorem goX {β : Type} {W : WN} {okb : Hp → Hp → β → Prop} {F H : Hp} {σ : L2.St} {f : D → Res (Option D)} {xs : List D} {k : List D → Res β} (n : ∀ d, NoEx (f d)) (h : rs W σ F H okb (compR f xs >>= k)) : ∃ ys, compR f xs = .ok ys ∧ rs W σ F H okb (k ys) := by
  cases q : compR f xs with
  | ok d => rw [q] at h; exact ⟨d, rfl, h⟩
  | ex c => exact absurd q (nx_compR n _ c)
  | bad => rw [q] at h; exact h.elim
theorem quiet_ok' {α : Type} {r : Res α} {a : α} (h : r.quiet = .ok a) : r = .ok a := by
  cases r <;> first | exact h | cases h
section
variable {K : PySem.W.Frag} {F F' H H' : Hp}
/-- what is new and not frozen -/
inductive Fr (K : PySem.W.Frag) (F H : Hp) (l : Addr) : D → Prop
  | lst {xs : List V} {ds : List D} : H l = some (.lst xs) → DqAll K F xs ds → Fr K F H l (.list ds)
  | dk {ks : List (Key × V)} {kvs : List (D × D)} : H l = some (.dK ks) → KvP K F ks kvs → Fr K F H l (.dict kvs)
theorem Fr.ext {l : Addr} {d : D} (x : Ext F F' H H') (h : Fr K F H l d) : Fr K F' H' l d := by
  cases h with
  | lst a b => exact .lst (x.h _ _ a) (b.up x.f)
  | dk a b => exact .dk (x.h _ _ a) (b.up x.f)
end
/-- a value, or what is new and this def's own -/
def okV (K : PySem.W.Frag) (o : Bool) (Q : VK) : Hp → Hp → D → Prop := fun F H d => ∀ v H' F', Ext F F' H H' → (match o with | false => Dq K F' v d | true => ∃ l, v = .ref l ∧ H l = none ∧ F' l = none ∧ Fr K F' H' l d) → Q v H'
theorem mnV {K : PySem.W.Frag} {o : Bool} {Q : VK} : Mn (okV K o Q) := fun F F' H H' d x h v H'' F'' y q => h v H'' F'' (x.trans y) (by
  cases o with
  | false => exact q
  | true =>
    obtain ⟨l, e, n, m⟩ := q
    exact ⟨l, e, x.h.free n, m⟩)
def tV (K : PySem.W.Frag) (W : WN) (o : Bool) (f : Env → Res D) : TE := fun σ H Q => ∃ F env, RE K F H σ env ∧ rs W σ F H (okV K o Q) (f env)
section
variable {X : Cx} {W : WN}
theorem lc_rd {fi : Env → Res (List D)} {T : Tg} {fc : Env → Res Bool} {fe : Env → Res D} {vs : List Nat} (hT : ∀ i ∈ T.sl, i ∈ vs) (o : Bool) (σ : L2.St) (H : Hp) (Q : VK) (h : tV X.K W o (compD fi T fc fe vs) σ H Q) :
    tLc (tI X.K W true fi) (tG X.K T) (tT X.K W0 fc) (tE X.K W0 fe) vs σ H Q := by
  obtain ⟨F, env, R, h⟩ := h
  refine ⟨F, env, R, ?_⟩
  unfold compD at h
  cases q0 : fi env with
  | ex c => rw [q0] at h; exact h
  | bad => rw [q0] at h; exact h
  | ok ds =>
  rw [q0] at h
  intro J H1 F1 x1 wk L hL
  simp only [if_true] at wk
  have h := rs.ext (W := W) (σ := σ) mnV x1 h
  obtain ⟨ys, hy, h⟩ := goX (fun d => nx_quiet _) h
  have hz : sizeOk ys.length = true := by
    cases z : sizeOk ys.length with
    | true => rfl
    | false => rw [z] at h; exact h.elim
  rw [hz] at h
  have hz' : ys.length ≤ 1000000 := by simpa [sizeOk] using hz
  have R1 := R.ext x1
  let Pv : Nat → Hp → Prop := fun i Hc => ∃ F2 Hb acc accd rest, Hc = upd Hb L (.lst acc) ∧ Hb L = none ∧ Ext F1 F2 H1 Hb ∧ DqAll X.K F2 acc accd ∧ ys = accd ++ rest ∧ compR (compF T fc fe vs env) (ds.drop i) = .ok rest
  have start : Pv 0 (upd H1 L (.lst [])) := ⟨F1, H1, [], [], ys, rfl, hL, Ext.refl x1.sub, .nil, rfl, by rw [List.drop_zero]; exact hy⟩
  refine ⟨fun i m Hc => m = ds.length - i ∧ i ≤ ds.length ∧ Pv i Hc, ⟨ds.length, by simp, Nat.zero_le _, start⟩, ?_⟩
  rintro i m Hc ⟨rfl, hi, F2, Hb, acc, accd, rest, rfl, hbL, x2, qa, ey, er⟩
  have s2 : Same H1 (upd Hb L (.lst acc)) := fun a u z => by rw [upd_ne (ne_of_none z hL)]; exact x2.h _ _ z
  have s3 : Same F2 (upd Hb L (.lst acc)) := fun a u z => by rw [upd_ne (ne_of_none (x2.sub _ _ z) hbL)]; exact x2.sub _ _ z
  by_cases hlt : i < ds.length
  · refine .inr ⟨wk.goes i _ hlt s2, Pv (i + 1), fun H' p' => ⟨ds.length - (i + 1), by omega, rfl, hlt, p'⟩, fun x H' y => ?_⟩
    obtain ⟨d, F3, hd, x3, qd⟩ := wk.yld i _ x H' hlt s2 y F2 x2.f s3
    have edrop : ds.drop i = d :: ds.drop (i + 1) := by
      rw [List.drop_eq_getElem_cons hlt]
      rw [List.getElem?_eq_getElem hlt] at hd
      rw [Option.some.inj hd]
    rw [edrop] at er
    obtain ⟨oo, zs, e1, e2, e3⟩ := compR_cons er
    have e1 := quiet_ok' e1
    obtain ⟨env', eb, e1⟩ := bind_ok e1
    obtain ⟨b, ec, e1⟩ := bind_ok e1
    have xb : Ext F2 F2 Hb (upd Hb L (.lst acc)) := Ext.own x2.sub hbL
    have R3 : RE X.K F3 H' (L2.wipe σ vs) (wipeS env vs) := (((R1.ext x2).ext xb).ext x3).wipe vs
    refine ⟨F3, wipeS env vs, d, env', R3, qd, eb, fun σ2 R4 c4 => ⟨by rw [(c4.mono hT).wipe, wipe_wipe], ?_⟩⟩
    refine ⟨F3, env', R4, ?_⟩
    rw [ec]
    intro H5 F5 x5
    have y5 := x3.trans x5
    cases b with
    | false =>
      cases e1
      subst e3
      simp only [Bool.false_eq_true, if_false]
      obtain ⟨Hc, c1, c2, c3⟩ := ext_mask x2 hbL hL y5
      have hL5 : H5 L = some (.lst acc) := y5.h _ _ upd_same
      refine ⟨F5, Hc, acc, accd, rest, ?_, c1, c2, qa.up y5.f, ey, e2⟩
      rw [← c3]
      funext a
      unfold upd
      by_cases z : a = L
      · simp [z, hL5]
      · simp [z]
    | true =>
      obtain ⟨y', ee, e1⟩ := bind_ok (show (fe env' >>= fun y => Res.ok (some y)) = .ok oo from e1)
      cases e1
      subst e3
      simp only [if_true]
      refine ⟨F5, env', R4.ext x5, ?_⟩
      rw [ee]
      intro v6 H6 F6 x6 q6
      have y6 := y5.trans x6
      obtain ⟨Hc, c1, c2, c3⟩ := ext_mask x2 hbL hL y6
      have hl : acc.length < sizeLine := by
        have : accd.length < ys.length := by rw [ey]; simp
        rw [sizeLine_eq, qa.length]
        omega
      refine ⟨acc, y6.h _ _ upd_same, hl, F6, Hc, acc ++ [v6], accd ++ [y'], zs, c3 _, c1, c2, (qa.up y6.f).app (.cons q6 .nil), by rw [ey]; simp, e2⟩
  · have e : i = ds.length := by omega
    subst e
    refine .inl ⟨wk.stops _ s2, ?_⟩
    rw [List.drop_length] at er
    cases er
    have ey : ys = accd := by rw [ey]; simp
    subst ey
    cases o with
    | false =>
      have x3 := Ext.laid (o := .lst acc) x2.sub hbL
      exact h _ _ _ (x2.trans x3) (.lst (.inl upd_same) (qa.up x3.f))
    | true =>
      have x3 := Ext.own (o := .lst acc) x2.sub hbL
      have hF : F2 L = none := by
        cases q : F2 L with
        | none => rfl
        | some u => rw [x2.sub _ _ q] at hbL; cases hbL
      exact h _ _ _ (x2.trans x3) ⟨L, rfl, hL, hF, .lst upd_same qa⟩
theorem c_comp {o : Bool} {elt tg iter : Expr} {ifs : List Expr} {scope : Scope} {own : List (Str × Nat)} {pos : Pos} {fi : Env → Res (List D)} {T : Tg} {fc : Env → Res Bool} {fe : Env → Res D} (ok : XOk X) (hi : PI X tg iter (tI X.K W true fi)) (bo : BlkOk X.N X.env.scope scope own)
    (hg : ∀ (s : Shared) (H : Hp) (C : Addr) (cl : List (Str × Addr)) (fp : List Addr), PG (X.blk s H scope (compEnvC scope cl C X.env) fp) tg (tG X.K T)) (ht : ∀ (s : Shared) (H : Hp) (C : Addr) (cl : List (Str × Addr)) (fp : List Addr), PTs (X.blk s H scope (compEnvC scope cl C X.env) fp) ifs (tT X.K W0 fc))
    (he : ∀ (s : Shared) (H : Hp) (C : Addr) (cl : List (Str × Addr)) (fp : List Addr), PE (X.blk s H scope (compEnvC scope cl C X.env) fp) elt (tE X.K W0 fe)) (hs : ∀ x, foldedSetIterable iter X.env x = pure x) (hT : ∀ i ∈ T.sl, i ∈ own.map (·.2)) :
    PE X (.ListComp elt [⟨tg, iter, ifs, 0⟩] scope pos) (tV X.K W o (compD fi T fc fe (own.map (·.2)))) :=
  PE.weak (pe_lc ok.calm ok.nd hi bo hg ht he hs) fun σ H Q h => lc_rd hT o σ H Q h
theorem t_yes : PTs X [] (tT X.K W fun _ => .ok true) := ⟨fun pins s σ H Q I ⟨F, env, R, h⟩ => pts_nil.run pins s σ H Q I (h H F (Ext.refl R.sub))⟩
end
end BW

namespace BW
open PySem PySem.W L2 PySem.Spec PyProof.Rows
def b1S : B1 → Str
  | .len => "len" | .abs => "abs" | .int => "int" | .tuple => "tuple" | .list => "list" | .sorted => "sorted"
  | .sum => "sum" | .min => "min" | .max => "max" | .all => "all" | .any => "any" | .setsorted => "?" | .setlen => "?"
def b2S : B2 → Str
  | .min2 => "min" | .max2 => "max"
def tyS : Ty → Str
  | .int => "int" | .bool => "bool" | .str => "str" | .tuple => "tuple" | .list => "list" | .dict => "dict"
theorem bt_len : bootBuiltins "len" = some (.builtin "len") := by decide +kernel
theorem bt_abs : bootBuiltins "abs" = some (.builtin "abs") := by decide +kernel
theorem bt_int : bootBuiltins "int" = some (.type "int") := by decide +kernel
theorem bt_tuple : bootBuiltins "tuple" = some (.type "tuple") := by decide +kernel
theorem bt_list : bootBuiltins "list" = some (.type "list") := by decide +kernel
theorem bt_bool : bootBuiltins "bool" = some (.type "bool") := by decide +kernel
theorem bt_str : bootBuiltins "str" = some (.type "str") := by decide +kernel
theorem bt_dict : bootBuiltins "dict" = some (.type "dict") := by decide +kernel
theorem bt_sorted : bootBuiltins "sorted" = some (.builtin "sorted") := by decide +kernel
theorem bt_sum : bootBuiltins "sum" = some (.builtin "sum") := by decide +kernel
theorem bt_min : bootBuiltins "min" = some (.builtin "min") := by decide +kernel
theorem bt_max : bootBuiltins "max" = some (.builtin "max") := by decide +kernel
theorem bt_all : bootBuiltins "all" = some (.builtin "all") := by decide +kernel
theorem bt_any : bootBuiltins "any" = some (.builtin "any") := by decide +kernel
theorem bt_isi : bootBuiltins "isinstance" = some (.builtin "isinstance") := by decide +kernel
section
variable {X : Cx} {W : WN} {a c : Expr} {es : List Expr} {pos p : Pos} {f g h : Env → Res D} {fa : Env → Res (List D)}
theorem c_b1 (ok : XOk X) (b : B1) (hb : b ≠ .setsorted ∧ b ≠ .setlen) (hg : Gl X (b1S b)) (hm : X.mg (b1S b) = none) (ha : PE X a (tP X.K W f)) (hs : starEach [a] X.env = (false, eval a X.env) :: starEach [] X.env) :
    PE X (.Call (.Name (b1S b) p) [a] [] pos) (tE X.K W fun σ => do let x ← f σ; b1D b x) := by
  have key : PE X (.Call (.Name (b1S b) p) [a] [] pos) (tCB (rD1 X.K (b1D b)) (tCons (tP X.K W f) tNil)) := by
    have cr := cr_b1 b hb ok.calm ok.room
    have ha' := pa_cons ha pa_nil hs
    cases b with
    | setsorted => exact absurd rfl hb.1
    | setlen => exact absurd rfl hb.2
    | len => exact pe_callB cr hg hm bt_len ha' (by decide) (by decide) hs rfl
    | abs => exact pe_callB cr hg hm bt_abs ha' (by decide) (by decide) hs rfl
    | int => exact pe_callTy cr hg hm bt_int ha' (by decide) (by decide) hs rfl
    | tuple => exact pe_callTy cr hg hm bt_tuple ha' (by decide) (by decide) hs rfl
    | list => exact pe_callTy cr hg hm bt_list ha' (by decide) (by decide) hs rfl
    | sorted => exact pe_callB cr hg hm bt_sorted ha' (by decide) (by decide) hs rfl
    | sum => exact pe_callB cr hg hm bt_sum ha' (by decide) (by decide) hs rfl
    | min => exact pe_callB cr hg hm bt_min ha' (by decide) (by decide) hs rfl
    | max => exact pe_callB cr hg hm bt_max ha' (by decide) (by decide) hs rfl
    | all => exact pe_callB cr hg hm bt_all ha' (by decide) (by decide) hs rfl
    | any => exact pe_callB cr hg hm bt_any ha' (by decide) (by decide) hs rfl
  exact PE.weak key fun σ H Q ⟨F, env, R, h⟩ => goP mnE R h fun dx v F1 H1 _ x1 R1 p1 h1 => by
    obtain ⟨d, e, q⟩ := h1.noex (nx_b1D _ _)
    exact ⟨F1, v, dx, d, rfl, x1.sub, p1, e, q⟩
theorem c_b2 (ok : XOk X) (b : B2) (hg : Gl X (b2S b)) (hm : X.mg (b2S b) = none) (ha : PE X a (tP X.K W f)) (hc : PE X c (tP X.K W g)) (hs : starEach [a, c] X.env = (false, eval a X.env) :: starEach [c] X.env) (hs2 : starEach [c] X.env = (false, eval c X.env) :: starEach [] X.env) (hpl : (backTo pos (starEach [c] X.env)).any (·.1) = false) :
    PE X (.Call (.Name (b2S b) p) [a, c] [] pos) (tE X.K W fun σ => do let x ← f σ; let y ← g σ; b2D b x y) := by
  have key : PE X (.Call (.Name (b2S b) p) [a, c] [] pos) (tCB (rDD X.K (b2D b)) (tCons (tP X.K W f) (tCons (tP X.K W g) tNil))) := by
    have cr := cr_b2 (X := X) b ok.calm
    have ha' := pa_cons ha (pa_cons hc pa_nil hs2) hs
    cases b with
    | min2 => exact pe_callB cr hg hm bt_min ha' (by decide) (by decide) hs hpl
    | max2 => exact pe_callB cr hg hm bt_max ha' (by decide) (by decide) hs hpl
  exact PE.weak key fun σ H Q ⟨F, env, R, h⟩ => goP mnE R h fun dx v F1 H1 _ x1 R1 p1 h1 => goP mnE R1 h1 fun dy w F2 H2 _ x2 R2 p2 h2 => by
    obtain ⟨d, e, q⟩ := h2.noex (nx_b2D _ _ _)
    exact ⟨F2, v, w, dx, dy, d, rfl, x2.sub, p1.ext x2, p2, e, q⟩
/-! ### isinstance -/
theorem c_ty (t : Ty) (hg : Gl X (tyS t)) (hm : X.mg (tyS t) = none) : PE X (.Name (tyS t) p) (tC (.ty (tyN t))) := by
  cases t with
  | int => exact pe_bltn hg hm bt_int rfl (by decide) (by decide)
  | bool => exact pe_bltn hg hm bt_bool rfl (by decide) (by decide)
  | str => exact pe_bltn hg hm bt_str rfl (by decide) (by decide)
  | tuple => exact pe_bltn hg hm bt_tuple rfl (by decide) (by decide)
  | list => exact pe_bltn hg hm bt_list rfl (by decide) (by decide)
  | dict => exact pe_bltn hg hm bt_dict rfl (by decide) (by decide)
/-- the types of a tuple of types -/
inductive Tys (X : Cx) : List Expr → List Ty → Prop
  | nil : Tys X [] []
  | cons {t : Ty} {ts : List Ty} {p : Pos} {es : List Expr} : Gl X (tyS t) → X.mg (tyS t) = none → Tys X es ts → Tys X (.Name (tyS t) p :: es) (t :: ts)
theorem a_tys {ts : List Ty} (h : Tys X es ts) : PA X es (fun σ H Q => Q (ts.map fun t => V.ty (tyN t)) H) := by
  induction h with
  | nil => exact pa_nil
  | cons h1 h2 _ ih => exact pa_cons (c_ty _ h1 h2) ih rfl
theorem cls_all : ∀ ts : List Ty, Paired ClsV (ts.map fun t => V.ty (tyN t)) (ts.map fun t => Value.type (tyN t))
  | [] => .nil
  | t :: ts => .cons (.ty _) (cls_all ts)
theorem c_isiT {ts : List Ty} {k : Nat} {tp : Pos} (hl : ts.length ≤ 100) (hg : Gl X "isinstance") (hm : X.mg "isinstance" = none) (ha : PE X a (tP X.K W f)) (ht : Tys X es ts) (hs : starEach [a, .Tuple es k tp] X.env = (false, eval a X.env) :: starEach [.Tuple es k tp] X.env) :
    PE X (.Call (.Name "isinstance" p) [a, .Tuple es k tp] [] pos) (tE X.K W fun σ => do let x ← f σ; if okD x then .ok (.bool (ts.any fun t => tyD t x)) else .bad) := by
  have key := pe_callB (p := p) (pos := pos) call_isiT hg hm bt_isi (pa_cons ha (pa_cons (pe_tup (x1 := k) (pos := tp) (a_tys ht)) pa_nil rfl) hs) (by decide) (by decide) hs rfl
  exact PE.weak key fun σ H Q ⟨F, env, R, h⟩ => goP mnE R h fun dx v F1 H1 _ x1 R1 p1 h1 => by
    have ok : okD dx = true := by
      by_cases z : okD dx = true
      · exact z
      · rw [if_neg z] at h1; exact h1.elim
    rw [if_pos ok] at h1
    refine ⟨by rw [List.length_map, sizeLine_eq]; omega, fun q hq => ?_⟩
    have x2 := Ext.own (o := .tup (ts.map fun t => V.ty (tyN t))) x1.sub hq
    exact ⟨v, q, _, _, _, _, rfl, upd_same, cls_all ts, (p1.ext x2).tyX ok x2.sub, ty_any dx ts, h1 _ _ _ x2 (.bl _)⟩
theorem c_isi {t : Ty} {tp : Pos} (hg : Gl X "isinstance") (hm : X.mg "isinstance" = none) (ha : PE X a (tP X.K W f)) (hg2 : Gl X (tyS t)) (hm2 : X.mg (tyS t) = none) (hs : starEach [a, .Name (tyS t) tp] X.env = (false, eval a X.env) :: starEach [.Name (tyS t) tp] X.env) :
    PE X (.Call (.Name "isinstance" p) [a, .Name (tyS t) tp] [] pos) (tE X.K W fun σ => do let x ← f σ; if okD x then .ok (.bool ([t].any fun t => tyD t x)) else .bad) := by
  have key := pe_callB (p := p) (pos := pos) call_isi hg hm bt_isi (pa_cons ha (pa_cons (c_ty t hg2 hm2) pa_nil rfl) hs) (by decide) (by decide) hs rfl
  exact PE.weak key fun σ H Q ⟨F, env, R, h⟩ => goP mnE R h fun dx v F1 H1 _ x1 R1 p1 h1 => by
    have ok : okD dx = true := by
      by_cases z : okD dx = true
      · exact z
      · rw [if_neg z] at h1; exact h1.elim
    rw [if_pos ok] at h1
    refine ⟨v, _, _, _, _, rfl, .ty _, p1.tyX ok x1.sub, ?_, h1 _ _ _ (Ext.refl x1.sub) (.bl _)⟩
    rw [kit_ty (ty_all t dx)]
    simp
/-! ### defs of one's own -/
/-- the wish of an exception by its class's name -/
def WofX (C : Str → Value) (w : WX) : WN := fun c σ H => w (C c) none σ H
/-- what a def promises: its answer on data -/
def spF (K : PySem.W.Frag) (C : Str → Value) (n : Nat) (r : List D → Res D) : Sp := fun vs H Q E => vs.length = n ∧ ∃ F ds, Same F H ∧ DqAll K F vs ds ∧ rs (fun c _ H' => E (C c) none H') [] F H (okE K Q) (r ds)
variable {C : Str → Value} {w : WX}
theorem c_call {e : Expr} {k n : Nat} {fA : Addr} {fd : FuncData} {ps : List Str} {x : Str} {r : List D → Res D} (F : FnOk X.prog X.w X.K X.mg X.base (L2.CX X.prog X.w) k fA fd ps (spF X.K C n r)) (hr : Room k X.A) (hg : Gl X x) (hm : X.mg x = some (.ref fA)) (hk : PySem.W.keepIn X.K (.ref fA) = true) (hb : Binds X.K fd ps []) (tk : Takes X w)
    (ha : PA X (e :: es) (tA X.K (WofX C w) fa)) (hl : ∀ env ds, fa env = .ok ds → ds.length = n) (hdb : (x == ("__debug__" : Str)) = false) (he : starEach (e :: es) X.env = (false, eval e X.env) :: starEach es X.env) (hpl : (backTo pos (starEach es X.env)).any (·.1) = false) :
    PE X (.Call (.Name x p) (e :: es) [] pos) (tE X.K (WofX C w) fun σ => do let ds ← fa σ; r ds) :=
  PE.weak (pe_callS (E := WE w) F hr hg hm hk hb (fun σ => passAt tk σ) ha hdb he hpl) fun σ H Q ⟨F0, env, R, h⟩ => goA mnE R h fun ds vs F1 H1 e1 x1 R1 p1 h1 =>
    ⟨by rw [p1.length]; exact hl _ _ e1, F1, ds, x1.sub, p1, by
      cases q : r ds with
      | ok d => rw [q] at h1; exact h1
      | ex c => rw [q] at h1; exact h1
      | bad => rw [q] at h1; exact h1⟩
theorem takes0 {X : Cx} : Takes X (fun _ _ _ _ => False) := fun u s' h => by
  obtain ⟨_, _, _, _, _, _, _, _, _, _, _, _, _, _, _, _, z⟩ := h
  exact z.elim
end
end BW

namespace BW
open PySem PySem.W L2 PySem.Spec PyProof.Rows
/-! ### the state of a def between its statements -/
def Own (σ : L2.St) (env : Env) (i : Nat) (l : Addr) : Prop := σ[i]? = some (some (.ref l)) ∧ ((∃ ds, getS env i = .ol ds) ∨ ∃ kvs, getS env i = .od kvs)
structure RS (K : PySem.W.Frag) (F0 H0 F H : Hp) (σ : L2.St) (env : Env) : Prop where
  re : RE K F H σ env
  x : Ext F0 F H0 H
  new : ∀ i l, Own σ env i l → H0 l = none
  apart : ∀ i j l, Own σ env i l → Own σ env j l → i = j
section
variable {K : PySem.W.Frag} {F0 H0 F F' H H' : Hp} {σ : L2.St} {env : Env}
theorem RS.ext (R : RS K F0 H0 F H σ env) (x : Ext F F' H H') : RS K F0 H0 F' H' σ env := ⟨R.re.ext x, R.x.trans x, R.new, R.apart⟩
theorem Own.obj (R : RS K F0 H0 F H σ env) {i : Nat} {l : Addr} (o : Own σ env i l) : F l = none ∧ ((∃ ds xs, getS env i = .ol ds ∧ H l = some (.lst xs) ∧ DqAll K F xs ds) ∨ ∃ kvs ks, getS env i = .od kvs ∧ H l = some (.dK ks) ∧ KvP K F ks kvs) := by
  have s := R.re.slot i
  rcases o with ⟨e, ⟨ds, q⟩ | ⟨kvs, q⟩⟩
  · rw [q, e] at s
    obtain ⟨l', xs, e', h1, h2, h3⟩ := s
    cases e'
    exact ⟨h2, .inl ⟨ds, xs, q, h1, h3⟩⟩
  · rw [q, e] at s
    obtain ⟨l', xs, e', h1, h2, h3⟩ := s
    cases e'
    exact ⟨h2, .inr ⟨kvs, xs, q, h1, h3⟩⟩
theorem RS.ol (R : RS K F0 H0 F H σ env) {i : Nat} {ds : List D} (q : getS env i = .ol ds) : ∃ l xs, σ[i]? = some (some (.ref l)) ∧ Own σ env i l ∧ H l = some (.lst xs) ∧ F l = none ∧ H0 l = none ∧ DqAll K F xs ds := by
  have s := R.re.slot i
  rw [q] at s
  obtain ⟨l, xs, e, h1, h2, h3⟩ := s
  have o : Own σ env i l := ⟨e, .inl ⟨ds, q⟩⟩
  exact ⟨l, xs, e, o, h1, h2, R.new i l o, h3⟩
theorem RS.od (R : RS K F0 H0 F H σ env) {i : Nat} {ds : List (D × D)} (q : getS env i = .od ds) : ∃ l xs, σ[i]? = some (some (.ref l)) ∧ Own σ env i l ∧ H l = some (.dK xs) ∧ F l = none ∧ H0 l = none ∧ KvP K F xs ds := by
  have s := R.re.slot i
  rw [q] at s
  obtain ⟨l, xs, e, h1, h2, h3⟩ := s
  have o : Own σ env i l := ⟨e, .inr ⟨ds, q⟩⟩
  exact ⟨l, xs, e, o, h1, h2, R.new i l o, h3⟩
/-- a slot's owned list or dict is new; what stands elsewhere is older -/
theorem own_set {i j : Nat} {v : V} {s : Sl} {l : Addr} (hl : env.length = σ.length) (o : Own (σ.set i (some v)) (setS env i s) j l) : (j = i ∧ i < env.length ∧ v = .ref l ∧ ((∃ ds, s = .ol ds) ∨ ∃ kvs, s = .od kvs)) ∨ (j ≠ i ∧ Own σ env j l) := by
  obtain ⟨e, q⟩ := o
  rw [getS_set] at q
  by_cases h : i = j
  · subst h
    by_cases h2 : i < env.length
    · rw [if_pos ⟨rfl, h2⟩] at q
      rw [List.getElem?_set_self (by rw [← hl]; exact h2)] at e
      cases e
      exact .inl ⟨rfl, h2, rfl, q⟩
    · rw [List.getElem?_eq_none (by rw [List.length_set, ← hl]; exact Nat.le_of_not_lt h2)] at e
      cases e
  · rw [if_neg (fun z => h z.1)] at q
    rw [List.getElem?_set_ne h] at e
    exact .inr ⟨fun z => h z.symm, e, q⟩
theorem RS.fz (R : RS K F0 H0 F H σ env) (i : Nat) {v : V} {d : D} (q : Dq K F v d) : RS K F0 H0 F H (σ.set i (some v)) (setS env i (.fz d)) := by
  refine ⟨R.re.set i ⟨v, rfl, q⟩, R.x, fun j l o => ?_, fun j k l o o' => ?_⟩
  · rcases own_set R.re.len o with ⟨_, _, _, ⟨_, z⟩ | ⟨_, z⟩⟩ | ⟨_, o⟩
    · cases z
    · cases z
    · exact R.new j l o
  · rcases own_set R.re.len o with ⟨_, _, _, ⟨_, z⟩ | ⟨_, z⟩⟩ | ⟨_, o⟩
    · cases z
    · cases z
    · rcases own_set R.re.len o' with ⟨_, _, _, ⟨_, z⟩ | ⟨_, z⟩⟩ | ⟨_, o'⟩
      · cases z
      · cases z
      · exact R.apart j k l o o'
/-- what a value is that a name is set to -/
def Vk (K : PySem.W.Frag) (H0 F H : Hp) (v : V) : Bool → D → Prop
  | false, d => Dq K F v d
  | true, d => ∃ l, v = .ref l ∧ H0 l = none ∧ F l = none ∧ Fr K F H l d
theorem Vk.ext {v : V} {o : Bool} {d : D} (x : Ext F F' H H') (h : Vk K H0 F H v o d) : Vk K H0 F' H' v o d := by
  cases o with
  | false => exact Dq.up x.f h
  | true =>
    obtain ⟨l, e, h0, hF, q⟩ := h
    refine ⟨l, e, h0, ?_, q.ext x⟩
    cases q with
    | lst a b => exact x.none a hF
    | dk a b => exact x.none a hF
theorem RS.put (R : RS K F0 H0 F H σ env) (i : Nat) {v : V} {o : Bool} {d : D} {s : Sl} (q : Vk K H0 F H v o d) (e : toSl o d = .ok s) (hn : o = true → ∀ j l, v = .ref l → ¬ Own σ env j l) : RS K F0 H0 F H (σ.set i (some v)) (setS env i s) := by
  cases o with
  | false => cases e; exact R.fz i q
  | true =>
    obtain ⟨l, rfl, h0, hF, q⟩ := q
    have key : SlotOk K F H (some (some (.ref l))) s ∧ ((∃ ds, s = .ol ds) ∨ ∃ kvs, s = .od kvs) := by
      cases q with
      | lst a b => cases e; exact ⟨⟨l, _, rfl, a, hF, b⟩, .inl ⟨_, rfl⟩⟩
      | dk a b => cases e; exact ⟨⟨l, _, rfl, a, hF, b⟩, .inr ⟨_, rfl⟩⟩
    refine ⟨R.re.set i key.1, R.x, fun j l' o => ?_, fun j k l' o o' => ?_⟩
    · rcases own_set R.re.len o with ⟨_, _, e', _⟩ | ⟨_, o⟩
      · cases e'; exact h0
      · exact R.new j l' o
    · rcases own_set R.re.len o with ⟨z, _, e', _⟩ | ⟨z, o⟩
      · cases e'
        rcases own_set R.re.len o' with ⟨z', _, _, _⟩ | ⟨_, o'⟩
        · rw [z, z']
        · exact absurd o' (hn rfl k _ rfl)
      · rcases own_set R.re.len o' with ⟨z', _, e', _⟩ | ⟨_, o'⟩
        · cases e'; exact absurd o (hn rfl j _ rfl)
        · exact R.apart j k l' o o'
/-- an owned list or dict is written -/
theorem RS.mut (R : RS K F0 H0 F H σ env) {i : Nat} {l : Addr} {u : HO} {s : Sl} (o : Own σ env i l) (hs : SlotOk K F (upd H l u) (some (some (.ref l))) s) : RS K F0 H0 F (upd H l u) σ (setS env i s) := by
  obtain ⟨hF, _⟩ := o.obj R
  have h0 := R.new i l o
  have ei : σ.set i (some (.ref l)) = σ := by
    apply List.ext_getElem?
    intro j
    by_cases h : i = j
    · subst h
      rw [List.getElem?_set_self (by rw [← Nat.not_le]; intro z; have o1 := o.1; rw [List.getElem?_eq_none z] at o1; cases o1), o.1]
    · rw [List.getElem?_set_ne h]
  have sub : Same F (upd H l u) := fun a w h => by
    have ne : a ≠ l := fun z => by rw [z, hF] at h; cases h
    rw [upd_ne ne]; exact R.re.sub _ _ h
  have x : Ext F0 F H0 (upd H l u) := ⟨R.x.f, fun a w h => by
    have ne : a ≠ l := fun z => by rw [z, h0] at h; cases h
    rw [upd_ne ne]; exact R.x.h _ _ h, sub, R.x.new⟩
  have ow : ∀ j l', Own σ (setS env i s) j l' → Own σ env j l' := fun j l' z => by
    rw [← ei] at z
    rcases own_set R.re.len z with ⟨rfl, _, e, _⟩ | ⟨_, z⟩
    · cases e; exact o
    · exact z
  refine ⟨⟨sub, by simp [setS, R.re.len], fun j => ?_⟩, x, fun j l' z => R.new j l' (ow j l' z), fun j k l' z z' => R.apart j k l' (ow _ _ z) (ow _ _ z')⟩
  rw [getS_set]
  by_cases h : i = j ∧ i < env.length
  · rw [if_pos h, ← h.1, o.1]; exact hs
  · rw [if_neg h]
    have ne : i ≠ j := fun z => h ⟨z, by rw [R.re.len, ← Nat.not_le]; intro w; have o1 := o.1; rw [List.getElem?_eq_none w] at o1; cases o1⟩
    have sj := R.re.slot j
    cases q : getS env j with
    | un => trivial
    | fz d => rw [q] at sj; exact sj
    | ol ds =>
      rw [q] at sj
      obtain ⟨l', xs, e, h1, h2, h3⟩ := sj
      have : l' ≠ l := fun z => by subst z; exact ne (R.apart i j l' o ⟨e, .inl ⟨_, q⟩⟩)
      exact ⟨l', xs, e, by rw [upd_ne this]; exact h1, h2, h3⟩
    | od ds =>
      rw [q] at sj
      obtain ⟨l', xs, e, h1, h2, h3⟩ := sj
      have : l' ≠ l := fun z => by subst z; exact ne (R.apart i j l' o ⟨e, .inr ⟨_, q⟩⟩)
      exact ⟨l', xs, e, by rw [upd_ne this]; exact h1, h2, h3⟩
/-- an owned list is frozen -/
theorem RS.freeze (R : RS K F0 H0 F H σ env) {i : Nat} {ds : List D} (q : getS env i = .ol ds) : ∃ F', Same F F' ∧ RS K F0 H0 F' H σ (setS env i (.fz (.list ds))) := by
  obtain ⟨l, xs, e, o, h1, h2, h3, h4⟩ := R.ol q
  have ff : Same F (upd F l (.lst xs)) := fun a w h => by
    have ne : a ≠ l := fun z => by rw [z, h2] at h; cases h
    rw [upd_ne ne]; exact h
  have sub : Same (upd F l (.lst xs)) H := fun a w h => by
    by_cases z : a = l
    · subst z; rw [upd_same] at h; cases h; exact h1
    · rw [upd_ne z] at h; exact R.re.sub _ _ h
  have ei : σ.set i (some (.ref l)) = σ := by
    apply List.ext_getElem?
    intro j
    by_cases h : i = j
    · subst h
      rw [List.getElem?_set_self (by rw [← Nat.not_le]; intro z; rw [List.getElem?_eq_none z] at e; cases e), e]
    · rw [List.getElem?_set_ne h]
  have ow : ∀ j l', Own σ (setS env i (.fz (.list ds))) j l' → j ≠ i ∧ Own σ env j l' := fun j l' z => by
    rw [← ei] at z
    rcases own_set R.re.len z with ⟨_, _, _, ⟨_, z⟩ | ⟨_, z⟩⟩ | z
    · cases z
    · cases z
    · exact z
  refine ⟨_, ff, ⟨sub, by simp [setS, R.re.len], fun j => ?_⟩, ⟨R.x.f.trans ff, R.x.h, sub, fun a w h => ?_⟩, fun j l' z => R.new j l' (ow j l' z).2, fun j k l' z z' => R.apart j k l' (ow _ _ z).2 (ow _ _ z').2⟩
  · rw [getS_set]
    by_cases h : i = j ∧ i < env.length
    · rw [if_pos h, ← h.1, e]
      exact ⟨_, rfl, .lst (.inl upd_same) (h4.up ff)⟩
    · rw [if_neg h]
      have ne : i ≠ j := fun z => h ⟨z, by rw [R.re.len, ← Nat.not_le]; intro w; rw [List.getElem?_eq_none w] at e; cases e⟩
      have sj := R.re.slot j
      cases q' : getS env j with
      | un => trivial
      | fz d => rw [q'] at sj; obtain ⟨v, a, b⟩ := sj; exact ⟨v, a, b.up ff⟩
      | ol ds =>
        rw [q'] at sj
        obtain ⟨l', xs', e', g1, g2, g3⟩ := sj
        have : l' ≠ l := fun z => by subst z; exact ne (R.apart i j l' o ⟨e', .inl ⟨_, q'⟩⟩)
        exact ⟨l', xs', e', g1, by rw [upd_ne this]; exact g2, g3.up ff⟩
      | od ds =>
        rw [q'] at sj
        obtain ⟨l', xs', e', g1, g2, g3⟩ := sj
        have : l' ≠ l := fun z => by subst z; exact ne (R.apart i j l' o ⟨e', .inr ⟨_, q'⟩⟩)
        exact ⟨l', xs', e', g1, by rw [upd_ne this]; exact g2, g3.up ff⟩
  · by_cases z : a = l
    · subst z; exact .inr h3
    · rw [upd_ne z] at h; exact R.x.new a w h
/-- an owned dict is frozen -/
theorem RS.freezeD (R : RS K F0 H0 F H σ env) {i : Nat} {ds : List (D × D)} (q : getS env i = .od ds) : ∃ F', Same F F' ∧ RS K F0 H0 F' H σ (setS env i (.fz (.dict ds))) := by
  obtain ⟨l, xs, e, o, h1, h2, h3, h4⟩ := R.od q
  have ff : Same F (upd F l (.dK xs)) := fun a w h => by
    have ne : a ≠ l := fun z => by rw [z, h2] at h; cases h
    rw [upd_ne ne]; exact h
  have sub : Same (upd F l (.dK xs)) H := fun a w h => by
    by_cases z : a = l
    · subst z; rw [upd_same] at h; cases h; exact h1
    · rw [upd_ne z] at h; exact R.re.sub _ _ h
  have ei : σ.set i (some (.ref l)) = σ := by
    apply List.ext_getElem?
    intro j
    by_cases h : i = j
    · subst h
      rw [List.getElem?_set_self (by rw [← Nat.not_le]; intro z; rw [List.getElem?_eq_none z] at e; cases e), e]
    · rw [List.getElem?_set_ne h]
  have ow : ∀ j l', Own σ (setS env i (.fz (.dict ds))) j l' → j ≠ i ∧ Own σ env j l' := fun j l' z => by
    rw [← ei] at z
    rcases own_set R.re.len z with ⟨_, _, _, ⟨_, z⟩ | ⟨_, z⟩⟩ | z
    · cases z
    · cases z
    · exact z
  refine ⟨_, ff, ⟨sub, by simp [setS, R.re.len], fun j => ?_⟩, ⟨R.x.f.trans ff, R.x.h, sub, fun a w h => ?_⟩, fun j l' z => R.new j l' (ow j l' z).2, fun j k l' z z' => R.apart j k l' (ow _ _ z).2 (ow _ _ z').2⟩
  · rw [getS_set]
    by_cases h : i = j ∧ i < env.length
    · rw [if_pos h, ← h.1, e]
      exact ⟨_, rfl, .dK (.inl upd_same) (h4.up ff)⟩
    · rw [if_neg h]
      have ne : i ≠ j := fun z => h ⟨z, by rw [R.re.len, ← Nat.not_le]; intro w; rw [List.getElem?_eq_none w] at e; cases e⟩
      have sj := R.re.slot j
      cases q' : getS env j with
      | un => trivial
      | fz d => rw [q'] at sj; obtain ⟨v, a, b⟩ := sj; exact ⟨v, a, b.up ff⟩
      | ol ds =>
        rw [q'] at sj
        obtain ⟨l', xs', e', g1, g2, g3⟩ := sj
        have : l' ≠ l := fun z => by subst z; exact ne (R.apart i j l' o ⟨e', .inl ⟨_, q'⟩⟩)
        exact ⟨l', xs', e', g1, by rw [upd_ne this]; exact g2, g3.up ff⟩
      | od ds =>
        rw [q'] at sj
        obtain ⟨l', xs', e', g1, g2, g3⟩ := sj
        have : l' ≠ l := fun z => by subst z; exact ne (R.apart i j l' o ⟨e', .inr ⟨_, q'⟩⟩)
        exact ⟨l', xs', e', g1, by rw [upd_ne this]; exact g2, g3.up ff⟩
  · by_cases z : a = l
    · subst z; exact .inr h3
    · rw [upd_ne z] at h; exact R.x.new a w h
theorem bindT_bad (Ts : List Tg) (kvs : List (D × D)) (env : Env) (z : ¬ ∃ ds, kvs = [(.bool true, .list ds)]) : BW.bindT (.t Ts) (.dict kvs) env = .bad := by
  unfold BW.bindT
  split
  · rename_i h; cases h
  · rename_i h1 h2; cases h2
  · rename_i h1 h2; cases h2
  · rename_i h1 h2; cases h2; exact absurd ⟨_, rfl⟩ z
  · rfl
mutual
/-- targets set values only -/
theorem bindT_own : ∀ (T : Tg) (d : D) (env env' : Env), bindT T d env = .ok env' → ∀ i, (∀ d, getS env' i ≠ .fz d) → getS env' i ≠ .un → i ∉ T.sl ∧ getS env' i = getS env i
  | .n j, d, env, env', e, i, h, h2 => by
    cases e
    rw [getS_set] at h h2 ⊢
    by_cases z : j = i ∧ j < env.length
    · rw [if_pos z] at h; exact absurd rfl (h d)
    · rw [if_neg z] at h h2 ⊢
      refine ⟨fun m => ?_, rfl⟩
      have m : i = j := by simpa [Tg.sl] using m
      refine h2 ?_
      have : ¬ i < env.length := fun w => z ⟨m.symm, by rw [← m]; exact w⟩
      unfold getS; rw [List.getD_eq_getElem?_getD, List.getElem?_eq_none (Nat.le_of_not_lt this)]; rfl
  | .t Ts, .tuple ds, env, env', e, i, h, h2 => bindTs_own Ts ds env env' e i h h2
  | .t Ts, .list ds, env, env', e, i, h, h2 => bindTs_own Ts ds env env' e i h h2
  | .t _, .none, _, _, e, _, _, _ => by cases e
  | .t _, .bool _, _, _, e, _, _, _ => by cases e
  | .t _, .int _, _, _, e, _, _, _ => by cases e
  | .t _, .str _, _, _, e, _, _, _ => by cases e
  | .t Ts, .dict kvs, env, env', e, i, h, h2 => by
    by_cases z : ∃ ds, kvs = [(.bool true, .list ds)]
    · obtain ⟨ds, rfl⟩ := z; exact bindTs_own Ts ds env env' e i h h2
    · rw [bindT_bad Ts kvs env z] at e; cases e
theorem bindTs_own : ∀ (Ts : List Tg) (ds : List D) (env env' : Env), bindTs Ts ds env = .ok env' → ∀ i, (∀ d, getS env' i ≠ .fz d) → getS env' i ≠ .un → i ∉ Tg.sls Ts ∧ getS env' i = getS env i
  | [], [], env, env', e, i, h, h2 => by cases e; exact ⟨by simp [Tg.sls], rfl⟩
  | [], _ :: _, _, _, e, _, _, _ => by cases e
  | _ :: _, [], _, _, e, _, _, _ => by cases e
  | T :: Ts, d :: ds, env, env', e, i, h, h2 => by
    obtain ⟨env1, e1, e2⟩ := bind_ok e
    obtain ⟨a1, a2⟩ := bindTs_own Ts ds env1 env' e2 i h h2
    rw [a2] at h h2
    obtain ⟨b1, b2⟩ := bindT_own T d env env1 e1 i h h2
    exact ⟨by simp [Tg.sls, a1, b1], by rw [a2, b2]⟩
end
theorem RS.bindT (R : RS K F0 H0 F H σ env) {T : Tg} {d : D} {env' : Env} {σ' : L2.St} (e : bindT T d env = .ok env') (R' : RE K F H σ' env') (c : Chg T.sl σ σ') : RS K F0 H0 F H σ' env' := by
  have ow : ∀ j l, Own σ' env' j l → Own σ env j l := fun j l ⟨e1, q⟩ => by
    obtain ⟨n, g⟩ := bindT_own T d env env' e j (fun d z => by rcases q with ⟨_, q⟩ | ⟨_, q⟩ <;> rw [z] at q <;> cases q) (fun z => by rcases q with ⟨_, q⟩ | ⟨_, q⟩ <;> rw [z] at q <;> cases q)
    rw [g] at q
    rw [c.2 j n] at e1
    exact ⟨e1, q⟩
  exact ⟨R', R.x, fun j l o => R.new j l (ow j l o), fun j k l o o' => R.apart j k l (ow j l o) (ow k l o')⟩
theorem nx_bindT : ∀ (T : Tg) (d : D) (env : Env), NoEx (BW.bindT T d env) := by
  intro T d env c h
  exact bindT_noex T d env c h
where
  bindT_noex : ∀ (T : Tg) (d : D) (env : Env) (c : Str), BW.bindT T d env ≠ .ex c
    | .n _, _, _, _, h => by cases h
    | .t Ts, .tuple ds, env, c, h => bindTs_noex Ts ds env c h
    | .t Ts, .list ds, env, c, h => bindTs_noex Ts ds env c h
    | .t _, .none, _, _, h => by cases h
    | .t _, .bool _, _, _, h => by cases h
    | .t _, .int _, _, _, h => by cases h
    | .t _, .str _, _, _, h => by cases h
    | .t Ts, .dict kvs, env, c, h => by
      by_cases z : ∃ ds, kvs = [(.bool true, .list ds)]
      · obtain ⟨ds, rfl⟩ := z; exact bindTs_noex Ts ds env c h
      · rw [bindT_bad Ts kvs env z] at h; cases h
  bindTs_noex : ∀ (Ts : List Tg) (ds : List D) (env : Env) (c : Str), BW.bindTs Ts ds env ≠ .ex c
    | [], [], _, _, h => by cases h
    | [], _ :: _, _, _, h => by cases h
    | _ :: _, [], _, _, h => by cases h
    | T :: Ts, d :: ds, env, c, h => by
      unfold BW.bindTs at h
      cases q : BW.bindT T d env with
      | ok e => rw [q] at h; exact bindTs_noex Ts ds e c h
      | ex c' => exact bindT_noex T d env c' q
      | bad => rw [q] at h; cases h
end

/-! ### statements' readings -/
section
variable (K : PySem.W.Frag) (W : WN) (F0 H0 : Hp)
def sR (F : Hp) (D : Ends) : SR → Prop
  | .nx env => ∀ σ' H' F', Same F F' → RS K F0 H0 F' H' σ' env → D.nx σ' H'
  | .bk env => ∀ σ' H' F', Same F F' → RS K F0 H0 F' H' σ' env → D.bk σ' H'
  | .ct env => ∀ σ' H' F', Same F F' → RS K F0 H0 F' H' σ' env → D.ct σ' H'
  | .rt d => ∀ v H' F', Same F F' → Ext F0 F' H0 H' → Dq K F' v d → D.rt v H'
  | .ex c => ∀ σ' H' F', Same F F' → Ext F0 F' H0 H' → W c σ' H'
  | .bad => False
def tS (f : Env → SR) : TS := fun D σ H => ∃ F env, RS K F0 H0 F H σ env ∧ sR K W F0 H0 F D (f env)
end
section
variable {K : PySem.W.Frag} {W : WN} {F0 H0 F F' H : Hp} {σ : L2.St} {env : Env} {D : Ends} {f : Env → Res BW.D} {β : Type}
theorem sR.up {r : SR} (s : Same F F') (h : sR K W F0 H0 F D r) : sR K W F0 H0 F' D r := by
  cases r with
  | nx e => exact fun σ' H' F2 z => h σ' H' F2 (s.trans z)
  | bk e => exact fun σ' H' F2 z => h σ' H' F2 (s.trans z)
  | ct e => exact fun σ' H' F2 z => h σ' H' F2 (s.trans z)
  | rt d => exact fun v H' F2 z => h v H' F2 (s.trans z)
  | ex c => exact fun σ' H' F2 z => h σ' H' F2 (s.trans z)
  | bad => exact h
theorem gS {f : Env → Res BW.D} {P : VK} {k : BW.D → SR} (R : RS K F0 H0 F H σ env) (h : sR K W F0 H0 F D ((f env).sr k)) (cont : ∀ d v F1 H1, f env = .ok d → Ext F F1 H H1 → RS K F0 H0 F1 H1 σ env → Dq K F1 v d → sR K W F0 H0 F1 D (k d) → P v H1) : tE K W f σ H P := by
  refine ⟨F, env, R.re, ?_⟩
  cases q : f env with
  | ok d => rw [q] at h; exact fun v H' F' x z => cont d v F' H' q x (R.ext x) z (sR.up x.f h)
  | ex c => rw [q] at h; exact fun H' s => by obtain ⟨F', x, _⟩ := Ext.grown R.re.sub s; exact h σ H' F' x.f (R.x.trans x)
  | bad => rw [q] at h; exact h
theorem gSP {f : Env → Res BW.D} {P : VK} {k : BW.D → SR} (R : RS K F0 H0 F H σ env) (h : sR K W F0 H0 F D ((f env).sr k)) (cont : ∀ d v F1 H1, f env = .ok d → Ext F F1 H H1 → RS K F0 H0 F1 H1 σ env → Pk K F1 H1 v d → sR K W F0 H0 F1 D (k d) → P v H1) : tP K W f σ H P := by
  refine ⟨F, env, R.re, ?_⟩
  cases q : f env with
  | ok d => rw [q] at h; exact fun v H' F' x z => cont d v F' H' q x (R.ext x) z (sR.up x.f h)
  | ex c => rw [q] at h; exact fun H' s => by obtain ⟨F', x, _⟩ := Ext.grown R.re.sub s; exact h σ H' F' x.f (R.x.trans x)
  | bad => rw [q] at h; exact h
theorem gST {f : Env → Res Bool} {P : Bool → Hp → Prop} {k : Bool → SR} (R : RS K F0 H0 F H σ env) (h : sR K W F0 H0 F D ((f env).sr k)) (cont : ∀ d F1 H1, f env = .ok d → Ext F F1 H H1 → RS K F0 H0 F1 H1 σ env → sR K W F0 H0 F1 D (k d) → P d H1) : tT K W f σ H P := by
  refine ⟨F, env, R.re, ?_⟩
  cases q : f env with
  | ok d => rw [q] at h; exact fun H' F' x => cont d F' H' q x (R.ext x) (sR.up x.f h)
  | ex c => rw [q] at h; exact fun H' s => by obtain ⟨F', x, _⟩ := Ext.grown R.re.sub s; exact h σ H' F' x.f (R.x.trans x)
  | bad => rw [q] at h; exact h
theorem gSI {f : Env → Res (List BW.D)} {P : L2.It → Hp → Prop} {k : List BW.D → SR} (R : RS K F0 H0 F H σ env) (h : sR K W F0 H0 F D ((f env).sr k)) (cont : ∀ d J F1 H1, f env = .ok d → Ext F F1 H H1 → RS K F0 H0 F1 H1 σ env → Wk K J F1 F1 d → sR K W F0 H0 F1 D (k d) → P J H1) : tI K W false f σ H P := by
  refine ⟨F, env, R.re, ?_⟩
  cases q : f env with
  | ok d => rw [q] at h; exact fun J H' F' x z => cont d J F' H' q x (R.ext x) z (sR.up x.f h)
  | ex c => rw [q] at h; exact fun H' s => by obtain ⟨F', x, _⟩ := Ext.grown R.re.sub s; exact h σ H' F' x.f (R.x.trans x)
  | bad => rw [q] at h; exact h
theorem sr_noex {α : Type} {r : Res α} {k : α → SR} (h : sR K W F0 H0 F D (r.sr k)) (n : NoEx r) : ∃ a, r = .ok a ∧ sR K W F0 H0 F D (k a) := by
  cases r with
  | ok a => exact ⟨a, rfl, h⟩
  | ex c => exact absurd rfl (n c)
  | bad => exact h.elim
end
end BW

namespace BW
open PySem PySem.W L2 PySem.Spec PyProof.Rows
section
variable {X : Cx} {W : WN} {F0 H0 : Hp} {a b c e : Expr} {es : List Expr} {pos : Pos} {f g : Env → Res D} {fa : Env → Res (List D)} {st : Stmt} {sts as bs : List Stmt} {fs gs : Env → SR}
/-! ### in a row -/
theorem s_nil : PSs X [] (tS X.K W F0 H0 fun σ => .nx σ) := PSs.weak pss_nil fun D σ H ⟨F, env, R, h⟩ => h σ H F (Same.refl F) R
theorem s_cons (h1 : PS X st (tS X.K W F0 H0 fs)) (h2 : PSs X sts (tS X.K W F0 H0 gs)) : PSs X (st :: sts) (tS X.K W F0 H0 fun σ => (fs σ).andThen gs) :=
  PSs.weak (pss_cons h1 h2) fun D σ H ⟨F, env, R, h⟩ => ⟨F, env, R, by
    dsimp only at h
    cases q : fs env with
    | nx e => rw [q] at h; exact fun σ' H' F' s R' => ⟨F', e, R', sR.up s h⟩
    | rt d => rw [q] at h; exact h
    | bk e => rw [q] at h; exact h
    | ct e => rw [q] at h; exact h
    | ex c => rw [q] at h; exact h
    | bad => rw [q] at h; exact h⟩
/-- a list is frozen ahead of the rest -/
theorem s_fr {i : Nat} (h : PSs X sts (tS X.K W F0 H0 gs)) : PSs X sts (tS X.K W F0 H0 fun σ => (match getS σ i with | .ol ds => SR.nx (setS σ i (.fz (.list ds))) | .od kvs => .nx (setS σ i (.fz (.dict kvs))) | _ => .nx σ).andThen gs) :=
  PSs.weak h fun D σ H ⟨F, env, R, hh⟩ => by
    dsimp only at hh
    cases q : getS env i with
    | ol ds =>
      rw [q] at hh
      obtain ⟨F', s, R'⟩ := R.freeze q
      exact ⟨F', _, R', sR.up s hh⟩
    | un => rw [q] at hh; exact ⟨F, env, R, hh⟩
    | fz d => rw [q] at hh; exact ⟨F, env, R, hh⟩
    | od d =>
      rw [q] at hh
      obtain ⟨F', s, R'⟩ := R.freezeD q
      exact ⟨F', _, R', sR.up s hh⟩
theorem s_pass : PS X (.Pass pos) (tS X.K W F0 H0 fun σ => .nx σ) := PS.weak ps_pass fun D σ H ⟨F, env, R, h⟩ => h σ H F (Same.refl F) R
theorem s_doc {x : Str} {j : Nat} {pos' : Pos} : PS X (.Expr (.Constant (.str x) j pos) pos') (tS X.K W F0 H0 fun σ => .nx σ) := PS.weak ps_doc fun D σ H ⟨F, env, R, h⟩ => h σ H F (Same.refl F) R
theorem s_brk : PS X (.Break pos) (tS X.K W F0 H0 fun σ => .bk σ) := PS.weak ps_break fun D σ H ⟨F, env, R, h⟩ => h σ H F (Same.refl F) R
theorem s_cnt : PS X (.Continue pos) (tS X.K W F0 H0 fun σ => .ct σ) := PS.weak ps_continue fun D σ H ⟨F, env, R, h⟩ => h σ H F (Same.refl F) R
theorem s_ret (he : PE X e (tE X.K W f)) : PS X (.Return (some e) pos) (tS X.K W F0 H0 fun σ => (f σ).sr .rt) := PS.weak (ps_ret he) fun D σ H ⟨F, env, R, h⟩ => gS R h fun d v F1 H1 _ x1 R1 q h1 => h1 v H1 F1 (Same.refl _) R1.x q
theorem s_retN : PS X (.Return none pos) (tS X.K W F0 H0 fun σ => .rt .none) := PS.weak ps_retN fun D σ H ⟨F, env, R, h⟩ => h .non H F (Same.refl _) R.x .non
theorem s_xp (he : PE X e (tE X.K W f)) (hs : swapsWith e none pos.line X.env = pure false) : PS X (.Expr e pos) (tS X.K W F0 H0 fun σ => (f σ).sr fun _ => .nx σ) := PS.weak (ps_expr he hs) fun D σ H ⟨F, env, R, h⟩ => gS R h fun d v F1 H1 _ x1 R1 q h1 => h1 σ H1 F1 (Same.refl _) R1
theorem s_if (hc : PT X c (tT X.K W (evT f))) (ha : PSs X as (tS X.K W F0 H0 fs)) (hb : PSs X bs (tS X.K W F0 H0 gs)) : PS X (.If c as bs pos) (tS X.K W F0 H0 fun σ => (f σ).sr fun d => (asBool d).sr fun t => if t then fs σ else gs σ) :=
  PS.weak (ps_if hc ha hb) fun D σ H ⟨F, env, R, h⟩ => by
    have e : ((f env).sr fun d => (asBool d).sr fun t => if t then fs env else gs env) = (evT f env).sr fun t => if t then fs env else gs env := by
      unfold evT
      cases f env <;> rfl
    dsimp only at h
    rw [e] at h
    refine gST R h fun t F1 H1 _ x1 R1 h1 => ?_
    cases t with
    | true => exact ⟨F1, env, R1, h1⟩
    | false => exact ⟨F1, env, R1, h1⟩
/-! ### names are set -/
theorem v_E (he : PE X e (tE X.K W f)) : PE X e (tV X.K W false f) := he
theorem RS.notOwn {K : PySem.W.Frag} {F0 H0 F H : Hp} {σ : L2.St} {env : Env} (R : RS K F0 H0 F H σ env) {l : Addr} (n : H l = none) {j : Nat} : ¬ Own σ env j l := fun ow => by
  obtain ⟨_, ⟨_, _, _, z, _⟩ | ⟨_, _, _, z, _⟩⟩ := ow.obj R
  · rw [n] at z; cases z
  · rw [n] at z; cases z
theorem gSV {K : PySem.W.Frag} {F H : Hp} {σ : L2.St} {env : Env} {D : Ends} {o : Bool} {P : VK} {k : BW.D → SR} (R : RS K F0 H0 F H σ env) (h : sR K W F0 H0 F D ((f env).sr k)) (cont : ∀ d v F1 H1, f env = .ok d → Ext F F1 H H1 → RS K F0 H0 F1 H1 σ env → Vk K H0 F1 H1 v o d → (o = true → ∀ l, v = .ref l → H l = none) → sR K W F0 H0 F1 D (k d) → P v H1) : tV K W o f σ H P := by
  refine ⟨F, env, R.re, ?_⟩
  cases q : f env with
  | ok d =>
    rw [q] at h
    intro v H' F' x z
    refine cont d v F' H' q x (R.ext x) ?_ (fun ho l e => ?_) (sR.up x.f h)
    · cases o with
      | false => exact z
      | true =>
        obtain ⟨l, e, n, m⟩ := z
        exact ⟨l, e, R.x.h.free n, m⟩
    · subst ho
      obtain ⟨l', e', n, m⟩ := z
      rw [e] at e'
      cases e'
      exact n
  | ex c => rw [q] at h; exact fun H' s => by obtain ⟨F', x, _⟩ := Ext.grown R.re.sub s; exact h σ H' F' x.f (R.x.trans x)
  | bad => rw [q] at h; exact h
theorem nx_toSl (o : Bool) (d : D) : NoEx (toSl o d) := by cases o <;> cases d <;> first | exact NoEx.ok _ | exact NoEx.bad
theorem s_set {i : Nat} {x : Str} {p' : Pos} {o : Bool} (hN : X.N.Nodup) (hi : X.N[i]? = some x) (hx : Loc X.env.scope x) (hf : X.fn x = true ∨ X.env.scope.names.lookup x = some .local) (he : PE X e (tV X.K W o f)) (hs : swapsWith e (some (.Name x p')) pos.line X.env = pure false) :
    PS X (.Assign [.Name x p'] e pos) (tS X.K W F0 H0 fun σ => (f σ).sr fun d => (toSl o d).sr fun s => .nx (setS σ i s)) :=
  PS.weak (ps_set hN hi hx he hs hf) fun D σ H ⟨F, env, R, h⟩ => gSV R h fun d v F1 H1 _ x1 R1 q n h1 => by
    obtain ⟨s, e, h2⟩ := sr_noex h1 (nx_toSl _ _)
    exact h2 _ H1 F1 (Same.refl _) (R1.put i q e fun ho j l el => R.notOwn (n ho l el))
theorem s_unp {T : Tg} (he : PE X e (tE X.K W f)) (hg : PG X a (tG X.K T)) (hs : swapsWithSole [a] e pos.line X.env = pure false) (hw : swappedStores [a] e X.env = pure none) (h1 : (assignEach [a] X.env).map (·.2) = [assign a X.env]) :
    PS X (.Assign [a] e pos) (tS X.K W F0 H0 fun σ => (f σ).sr fun d => (bindT T d σ).sr .nx) :=
  PS.weak (ps_asg he hg hs hw h1) fun D σ H ⟨F, env, R, h⟩ => gS R h fun d v F1 H1 _ x1 R1 q h1 => by
    obtain ⟨env', e, h2⟩ := sr_noex h1 (nx_bindT _ _ _)
    exact ⟨F1, env, d, env', R1.re, q, e, fun σ' R' c => h2 σ' H1 F1 (Same.refl _) (R1.bindT e R' c)⟩
/-! ### loops -/
theorem s_for {iter tg : Expr} {body : List Stmt} {fi : Env → Res (List D)} {T : Tg} (ok : XOk X) (hp : PassesOwn (model X.prog X.w) X.A X.env X.xe) (hi : PI X tg iter (tI X.K W false fi)) (hg : PG X tg (tG X.K T)) (hb : PSs X body (tS X.K W F0 H0 fs)) (hs : ∀ x, foldedSetIterable iter X.env x = pure x) :
    PS X (.For tg iter body [] pos) (tS X.K W F0 H0 fun σ => (fi σ).sr fun xs => forR (fun d σ => (bindT T d σ).sr fs) xs σ) :=
  PS.weak (ps_for hp ok.calm hi hg hb hs) fun D σ H ⟨F, env, R, h⟩ => gSI R h fun ds J F1 H1 _ x1 R1 wk h1 => by
    refine ⟨fun i m σ H => m = ds.length - i ∧ i ≤ ds.length ∧ ∃ F2 env2, Same F1 F2 ∧ RS X.K F0 H0 F2 H σ env2 ∧ sR X.K W F0 H0 F2 D (forR (fun d σ => (bindT T d σ).sr fs) (ds.drop i) env2), ⟨ds.length, by simp, Nat.zero_le _, F1, env, Same.refl _, R1, by rw [List.drop_zero]; exact h1⟩, ?_⟩
    rintro i m σ H ⟨rfl, hi, F2, env2, s2, R2, h2⟩
    have s3 : Same F1 H := s2.trans R2.re.sub
    by_cases hlt : i < ds.length
    · refine .inr ⟨wk.goes i H hlt s3, fun σ' H' => ∃ F3 env3, Same F1 F3 ∧ RS X.K F0 H0 F3 H' σ' env3 ∧ sR X.K W F0 H0 F3 D (forR (fun d σ => (bindT T d σ).sr fs) (ds.drop (i + 1)) env3), fun σ' H' p => ⟨ds.length - (i + 1), by omega, rfl, hlt, p⟩, fun x H' y => ?_⟩
      obtain ⟨d, F3, hd, x3, qd⟩ := wk.yld i H x H' hlt s3 y F2 s2 R2.re.sub
      have R3 := R2.ext x3
      have h3 := sR.up x3.f h2
      have edrop : ds.drop i = d :: ds.drop (i + 1) := by
        rw [List.drop_eq_getElem_cons hlt]
        rw [List.getElem?_eq_getElem hlt] at hd
        rw [Option.some.inj hd]
      rw [edrop] at h3
      unfold forR at h3
      cases eb : bindT T d env2 with
      | ex c => exact absurd eb (nx_bindT _ _ _ c)
      | bad => rw [eb] at h3; exact h3.elim
      | ok env3 =>
        rw [eb] at h3
        refine ⟨F3, env2, d, env3, R3.re, qd, eb, fun σ' R' c => ⟨F3, env3, R3.bindT eb R' c, ?_⟩⟩
        have h3 : sR X.K W F0 H0 F3 D (match fs env3 with | .nx σ' => forR (fun d σ => (bindT T d σ).sr fs) (ds.drop (i + 1)) σ' | .ct σ' => forR (fun d σ => (bindT T d σ).sr fs) (ds.drop (i + 1)) σ' | .bk σ' => .nx σ' | y => y) := h3
        cases q : fs env3 with
        | nx e => rw [q] at h3; exact fun σ' H' F' s R' => ⟨F', e, s2.trans (x3.f.trans s), R', sR.up s h3⟩
        | ct e => rw [q] at h3; exact fun σ' H' F' s R' => ⟨F', e, s2.trans (x3.f.trans s), R', sR.up s h3⟩
        | bk e => rw [q] at h3; exact h3
        | rt d => rw [q] at h3; exact h3
        | ex c => rw [q] at h3; exact h3
        | bad => rw [q] at h3; exact h3
    · have e : i = ds.length := by omega
      subst e
      refine .inl ⟨wk.stops H s3, ?_⟩
      rw [List.drop_length] at h2
      exact h2 σ H F2 (Same.refl _) R2
theorem s_while {body : List Stmt} {fc : Env → Res Bool} {n : Nat} (hp : PassesOwn (model X.prog X.w) X.A X.env X.xe) (hc : PT X c (tT X.K W fc)) (hb : PSs X body (tS X.K W F0 H0 fs)) :
    PS X (.While c body [] pos) (tS X.K W F0 H0 fun σ => whileR fc fs n σ) :=
  PS.weak (ps_while hp hc hb) fun D σ H ⟨F, env, R, h⟩ => by
    refine ⟨fun m σ H => ∃ F env, RS X.K F0 H0 F H σ env ∧ sR X.K W F0 H0 F D (whileR fc fs m env), ⟨n, F, env, R, h⟩, ?_⟩
    rintro m σ H ⟨F, env, R, h⟩
    cases m with
    | zero => exact h.elim
    | succ m =>
      unfold whileR at h
      refine gST R h fun t F1 H1 _ x1 R1 h1 => ?_
      cases t with
      | false => exact h1 σ H1 F1 (Same.refl _) R1
      | true =>
        simp only [if_true] at h1 ⊢
        refine ⟨fun σ' H' => ∃ F3 env3, RS X.K F0 H0 F3 H' σ' env3 ∧ sR X.K W F0 H0 F3 D (whileR fc fs m env3), fun σ' H' p => ⟨m, Nat.lt_succ_self _, p⟩, F1, env, R1, ?_⟩
        cases q : fs env with
        | nx e => rw [q] at h1; exact fun σ' H' F' s R' => ⟨F', e, R', sR.up s h1⟩
        | ct e => rw [q] at h1; exact fun σ' H' F' s R' => ⟨F', e, R', sR.up s h1⟩
        | bk e => rw [q] at h1; exact h1
        | rt d => rw [q] at h1; exact h1
        | ex c => rw [q] at h1; exact h1
        | bad => rw [q] at h1; exact h1
/-! ### own lists -/
theorem own_var {i : Nat} {x : Str} (hN : X.N[i]? = some x) (hv : Vis X.env.scope x) (hd : (x == ("__debug__" : Str)) = false) (hcd : (x == ("__classdict__" : Str)) = false) : PE X (.Name x pos) (tVar i) := pe_var hN hv hd hcd
/-- what a slot must hold -/
theorem s_ol {i : Nat} {k : List D → Env → SR} {t : TS} (h : PS X st t) (w : ∀ D σ H F env ds l xs, RS X.K F0 H0 F H σ env → getS env i = .ol ds → σ[i]? = some (some (.ref l)) → Own σ env i l → H l = some (.lst xs) → DqAll X.K F xs ds → sR X.K W F0 H0 F D (k ds env) → t D σ H) :
    PS X st (tS X.K W F0 H0 fun σ => match getS σ i with | .ol ds => k ds σ | _ => .bad) :=
  PS.weak h fun D σ H ⟨F, env, R, hh⟩ => by
    dsimp only at hh
    cases q : getS env i with
    | ol ds =>
      rw [q] at hh
      obtain ⟨l, xs, e, o, h1, h2, h3, h4⟩ := R.ol q
      exact w D σ H F env ds l xs R q e o h1 h4 hh
    | un => rw [q] at hh; exact hh.elim
    | fz d => rw [q] at hh; exact hh.elim
    | od d => rw [q] at hh; exact hh.elim
theorem s_app {i : Nat} {x : Str} {ap cp p' : Pos} (hN : X.N[i]? = some x) (hv : Vis X.env.scope x) (hd : (x == ("__debug__" : Str)) = false) (hcd : (x == ("__classdict__" : Str)) = false) (he : PE X e (tE X.K W f)) (hb : attributeBase (.Name x p') "append" X.env (eval (.Name x p') X.env) = eval (.Name x p') X.env)
    (hfew : ((backTo cp (starEach [e] X.env)).all (fun x => !x.1) && (backToKw cp (keywordEach [] X.env)).all (fun x => x.1.isSome) && decide (([e] : List Expr).length + ([] : List Keyword).length + (if ([] : List Keyword).isEmpty then 0 else 1) < 30)) = true)
    (hl : (ap.endLine == cp.line) = true) (hs : starEach [e] X.env = (false, eval e X.env) :: starEach [] X.env) (hsw : swapsWith (.Call (.Attribute (.Name x p') "append" ap) [e] [] cp) none pos.line X.env = pure false) :
    PS X (.Expr (.Call (.Attribute (.Name x p') "append" ap) [e] [] cp) pos) (tS X.K W F0 H0 fun σ => match getS σ i with | .ol ds => (f σ).sr fun d => if sizeOk ds.length then .nx (setS σ i (.ol (ds ++ [d]))) else .bad | _ => .bad) :=
  s_ol (ps_expr (pe_bm PySem.F.plainAttrs_list PySem.F.slot_list_append PySem.F.type_list_append mt_append (pe_var hN hv hd hcd) (pa_cons he pa_nil hs) hb hfew hl hs rfl) hsw) fun D σ H F env ds l xs R q e o h1 h4 h => by
    refine ⟨_, e, .inl ⟨rfl, xs, .inl (.inl h1)⟩, ?_⟩
    refine gS R h fun d v F1 H1 _ x1 R1 q1 h2 => ?_
    have g1 := x1.h _ _ h1
    by_cases hz : sizeOk ds.length = true
    · rw [if_pos hz] at h2
      have hF : F1 l = none := (o.obj R1).1
      refine ⟨l, xs, v, rfl, rfl, g1, by rw [h4.length]; exact size_lt hz, ?_⟩
      exact h2 σ _ F1 (Same.refl _) (R1.mut o ⟨l, _, rfl, upd_same, hF, (h4.up x1.f).app (.cons q1 .nil)⟩)
    · rw [if_neg hz] at h2; exact h2.elim
/-- xs.extend(ys), ys a list that may be read -/
def rExtR : V → List V → Hp → VK → Prop := fun x vs H Q => ∃ l b xs zs, x = .ref l ∧ vs = [.ref b] ∧ H l = some (.lst xs) ∧ Rd H b (.lst zs) ∧ xs.length + zs.length ≤ sizeLine ∧ Q .non (upd H l (.lst (xs ++ zs)))
theorem mt_extR : MtM X "list.extend" rExtR := by
  intro pins s σ H x vs v us Q I rx rv h
  obtain ⟨l, b, xs, zs, rfl, rfl, hH, hB, hz, q⟩ := h
  cases rx
  obtain ⟨u, rfl, ru⟩ := rv.one
  cases ru
  obtain ⟨z, its, n, r, hl, e⟩ := I.lstM hH
  obtain ⟨z2, its2, n2, r2, hl2, e2⟩ := Inv.rdL I hB
  have hsz : its.toArray.size + its2.toArray.size ≤ sizeLine := by rw [List.size_toArray, List.size_toArray]; omega
  have hlong : ¬ (!its.toArray.isEmpty && Builtin.List.listTooLong (its.toArray.size + its2.toArray.size)) = true := by
    rw [notLongL hsz, Bool.and_false]
    exact Bool.false_ne_true
  refine call_meets F.slot_list_extend ⟨_, e, rfl⟩ F.entry_list_extend (F.args_list_extend_2 _ _)
    (AutoSeq1.list_extend_list_list_0 l its.toArray n b its2.toArray n2 hlong (by rw [List.size_toArray]; omega) (by omega)) ⟨e, e2, ?_⟩
  refine ⟨.non, _, I.lset (its' := its ++ its2) hH e (by simp) (r.append r2) ?_, rfl, q⟩
  rw [List.length_append]
  omega
theorem s_ext {i : Nat} {x : Str} {ap cp p' : Pos} (hN : X.N[i]? = some x) (hv : Vis X.env.scope x) (hd : (x == ("__debug__" : Str)) = false) (hcd : (x == ("__classdict__" : Str)) = false) (he : PE X e (tE X.K W f)) (hb : attributeBase (.Name x p') "extend" X.env (eval (.Name x p') X.env) = eval (.Name x p') X.env)
    (hfew : ((backTo cp (starEach [e] X.env)).all (fun x => !x.1) && (backToKw cp (keywordEach [] X.env)).all (fun x => x.1.isSome) && decide (([e] : List Expr).length + ([] : List Keyword).length + (if ([] : List Keyword).isEmpty then 0 else 1) < 30)) = true)
    (hl : (ap.endLine == cp.line) = true) (hs : starEach [e] X.env = (false, eval e X.env) :: starEach [] X.env) (hsw : swapsWith (.Call (.Attribute (.Name x p') "extend" ap) [e] [] cp) none pos.line X.env = pure false) :
    PS X (.Expr (.Call (.Attribute (.Name x p') "extend" ap) [e] [] cp) pos) (tS X.K W F0 H0 fun σ => match getS σ i with | .ol ds => (f σ).sr fun d => (match d with | .list ys => if sizeOk (ds.length + ys.length) then .nx (setS σ i (.ol (ds ++ ys))) else .bad | _ => .bad) | _ => .bad) :=
  s_ol (ps_expr (pe_bm PySem.F.plainAttrs_list PySem.F.slot_list_extend PySem.F.type_list_extend mt_extR (pe_var hN hv hd hcd) (pa_cons he pa_nil hs) hb hfew hl hs rfl) hsw) fun D σ H F env ds l xs R q e o h1 h4 h => by
    refine ⟨_, e, .inl ⟨rfl, xs, .inl (.inl h1)⟩, ?_⟩
    refine gS R h fun d v F1 H1 _ x1 R1 q1 h2 => ?_
    have g1 := x1.h _ _ h1
    cases d with
    | list ys =>
      dsimp only at h2
      by_cases hz : sizeOk (ds.length + ys.length) = true
      · rw [if_pos hz] at h2
        have hF : F1 l = none := (o.obj R1).1
        cases q1 with
        | lst z1 z2 =>
          refine ⟨l, _, xs, _, rfl, rfl, g1, Same.rd x1.sub z1, by rw [h4.length, z2.length]; exact size_line hz, ?_⟩
          exact h2 σ _ F1 (Same.refl _) (R1.mut o ⟨l, _, rfl, upd_same, hF, (h4.up x1.f).app z2⟩)
      · rw [if_neg hz] at h2; exact h2.elim
    | _ => exact h2.elim
/-! ### xs[i] = v -/
theorem nx_sr {α : Type} (d : D) : NoEx (asInt d) := nx_asInt d
def gIx (K : PySem.W.Frag) (W : WN) (i : Nat) (fx : Env → Res D) : TG := gSub (tVar i) (tE K W fx) rSetL
theorem keyD_eqv (k : Key) : ∀ {ks : List (Key × V)} {kvs : List (D × D)} {K : PySem.W.Frag} {F : Hp} {v : V} {d : D}, KvP K F ks kvs → Dq K F v d → KvP K F (ks.map (fun kv => if kv.1 = k then (kv.1, v) else kv)) (kvs.map (fun q => if PyData.eqv q.1 (keyD k) then (q.1, d) else q))
  | _, _, _, _, _, _, .nil, _ => .nil
  | _, _, _, _, _, _, .cons (k := k') a t, q => by
    simp only [List.map_cons, eqv_keyD]
    by_cases h : k' = k
    · simp only [h, if_true, decide_true]
      exact .cons q (keyD_eqv k t q)
    · simp only [h, if_false, decide_false]
      exact .cons a (keyD_eqv k t q)
theorem KvP.app {K : PySem.W.Frag} {F : Hp} : ∀ {ks : List (Key × V)} {kvs : List (D × D)} {js : List (Key × V)} {jvs : List (D × D)}, KvP K F ks kvs → KvP K F js jvs → KvP K F (ks ++ js) (kvs ++ jvs)
  | _, _, _, _, .nil, h => h
  | _, _, _, _, .cons a t, h => .cons a (t.app h)
theorem KvP.put {K : PySem.W.Frag} {F : Hp} {ks : List (Key × V)} {kvs : List (D × D)} {v : V} {d : D} (h : KvP K F ks kvs) (k : Key) (q : Dq K F v d) : KvP K F (putK ks k v) (putD kvs (keyD k) d) := by
  have e : (ks.any fun kv => decide (kv.1 = k)) = (kvs.any fun q => PyData.eqv q.1 (keyD k)) := by
    exact (KvP.any' k h).symm
  unfold putK putD
  rw [e]
  split
  · exact keyD_eqv k h q
  · exact h.app (.cons q .nil)
theorem s_setix {i : Nat} {x : Str} {ix : Expr} {p' : Pos} (ok : XOk X) (hN : X.N[i]? = some x) (hv : Vis X.env.scope x) (hd : (x == ("__debug__" : Str)) = false) (hcd : (x == ("__classdict__" : Str)) = false) (he : PE X e (tE X.K W f)) (hx : PE X ix (tE X.K W g))
    (ha : ∀ v, assign (.Subscript (.Name x p') ix pos) X.env v = (do
      let ov ← holding [v] (eval (.Name x p') X.env)
      let iv ← holding [v, ov] (eval ix X.env)
      standAt pos
      holding [v, ov, iv] (setItem ov iv v)
      release [v, ov, iv] []))
    {spos : Pos} (hs : swapsWithSole [.Subscript (.Name x p') ix pos] e spos.line X.env = pure false) (hw : swappedStores [.Subscript (.Name x p') ix pos] e X.env = pure none) (h1 : (assignEach [.Subscript (.Name x p') ix pos] X.env).map (·.2) = [assign (.Subscript (.Name x p') ix pos) X.env]) :
    PS X (.Assign [.Subscript (.Name x p') ix pos] e spos) (tS X.K W F0 H0 fun σ => match getS σ i with
      | .ol ds => (f σ).sr fun d => (g σ).sr fun j => (asInt j).sr fun k => (match listIx ds k with
        | some m => .nx (setS σ i (.ol (ds.set m d)))
        | none => .bad)
      | .od kvs => (f σ).sr fun d => (g σ).sr fun j => (match keyOf j with
        | some _ => if sizeOk kvs.length then .nx (setS σ i (.od (putD kvs j d))) else .bad
        | none => .bad)
      | _ => .bad) := by
  have hu : X.A.units + 1 < cLine := by have := ok.room; omega
  have k1 := ps_asg (pos := spos) he (pg_sub (pe_var (pos := p') hN hv hd hcd) hx set_list ha) hs hw h1
  have k2 := ps_asg (pos := spos) he (pg_sub (pe_var (pos := p') hN hv hd hcd) hx (L2.set_dict hu) ha) hs hw h1
  refine ⟨fun pins s σ H D I ⟨F, env, R, hh⟩ => ?_⟩
  dsimp only at hh
  cases q : getS env i with
  | un => rw [q] at hh; exact hh.elim
  | fz d => rw [q] at hh; exact hh.elim
  | ol ds =>
    rw [q] at hh
    refine k1.run pins s σ H D I ?_
    obtain ⟨l, xs, e, o, h1, h2, h3, h4⟩ := R.ol q
    refine gS R hh fun d v F1 H1 _ x1 R1 q1 h2 => ?_
    refine ⟨_, e, gS R1 h2 fun j w F2 H2 _ x2 R2 q2 h5 => ?_⟩
    obtain ⟨k, ej, h6⟩ := sr_noex h5 (nx_asInt _)
    cases asInt_ok ej
    cases q2
    have g1 := x2.h _ _ (x1.h _ _ h1)
    have hF : F2 l = none := (o.obj R2).1
    cases em : listIx ds k with
    | none => rw [em] at h6; exact h6.elim
    | some m =>
      rw [em] at h6
      refine ⟨l, xs, k, m, rfl, rfl, g1, by rw [h4.length]; exact em, ?_⟩
      exact h6 σ _ F2 (Same.refl _) (R2.mut o ⟨l, _, rfl, upd_same, hF, ((h4.up x1.f).up x2.f).set (q1.up x2.f) m⟩)
  | od kvs =>
    rw [q] at hh
    refine k2.run pins s σ H D I ?_
    obtain ⟨l, xs, e, o, h1, h2, h3, h4⟩ := R.od q
    refine gS R hh fun d v F1 H1 _ x1 R1 q1 h2 => ?_
    refine ⟨_, e, gS R1 h2 fun j w F2 H2 _ x2 R2 q2 h5 => ?_⟩
    have g1 := x2.h _ _ (x1.h _ _ h1)
    have hF : F2 l = none := (o.obj R2).1
    cases ek : keyOf j with
    | none => rw [ek] at h5; exact h5.elim
    | some k =>
      rw [ek] at h5
      dsimp only at h5
      by_cases hz : sizeOk kvs.length = true
      · rw [if_pos hz] at h5
        cases keyOf_some ek
        have ew : w = kV k := (Pk.dq q2 : Pk X.K F2 H2 w (keyD k)).key
        subst ew
        have hlen := size_lt hz
        rw [← h4.length] at hlen
        exact ⟨l, _, rfl, DPut.k g1 hlen, h5 σ _ F2 (Same.refl _) (R2.mut o ⟨l, _, rfl, upd_same, hF, ((h4.up x1.f).up x2.f).put k (q1.up x2.f)⟩)⟩
      · rw [if_neg hz] at h5; exact h5.elim
end
end BW

namespace BW
open PySem PySem.W L2 PySem.Spec PyProof.Rows
/-! ### new lists and dicts that are this def's own -/
theorem vF_sr {α : Type} {o : Bool} {f : Env → Res D} {σ : Env} {k : Sl → SR} : ((vF o f σ).sr fun d => (toSl o d).sr k) = (f σ).sr fun d => (toSl o d).sr k := by
  cases o with
  | false => rfl
  | true =>
    show ((f σ >>= freshD).sr fun d => (toSl true d).sr k) = (f σ).sr fun d => (toSl true d).sr k
    cases f σ with
    | ok d => cases d <;> rfl
    | ex c => rfl
    | bad => rfl
theorem nx_freshD (d : D) : NoEx (freshD d) := by cases d <;> first | exact NoEx.ok _ | exact NoEx.bad
section
variable {X : Cx} {W : WN} {F0 H0 : Hp} {a b c e : Expr} {es : List Expr} {pos : Pos} {f g : Env → Res D} {fa : Env → Res (List D)} {st : Stmt} {sts as bs : List Stmt} {fs gs : Env → SR}
theorem new_lstV {K : PySem.W.Frag} {F H : Hp} {Q : VK} {ds : List D} {xs : List V} (e : Same F H) (h : okV K true Q F H (.list ds)) (q : DqAll K F xs ds) : ∀ p, H p = none → Q (.ref p) (upd H p (.lst xs)) := fun p hp => by
  have hF : F p = none := by
    cases z : F p with
    | none => rfl
    | some u => rw [e _ _ z] at hp; cases hp
  exact h _ _ F (Ext.own e hp) ⟨p, rfl, hp, hF, .lst upd_same q⟩
theorem PE.weakV {e : Expr} {o : Bool} {f f' : Env → Res D} (h : PE X e (tV X.K W o f)) (w : ∀ σ, f' σ = f σ ∨ f' σ = .bad) : PE X e (tV X.K W o f') := PE.weak h fun σ H Q ⟨F, env, R, hh⟩ => ⟨F, env, R, by
  rcases w env with z | z
  · rw [z] at hh; exact hh
  · rw [z] at hh; exact hh.elim⟩
theorem v_lst (ha : PA X es (tA X.K W fa)) (hl : ∀ env ds, fa env = .ok ds → ds.length ≤ 1000000) : PE X (.List es pos) (tV X.K W true fun σ => do let ds ← fa σ; .ok (.list ds)) :=
  PE.weak (pe_lst ha) fun σ H Q ⟨F, env, R, h⟩ => goA mnV R h fun ds vs F1 H1 e x1 R1 p1 h1 =>
    ⟨by rw [p1.length]; exact Nat.le_trans (hl env ds e) (by rw [sizeLine_eq]; decide), new_lstV x1.sub h1 p1⟩
theorem opF_inv {o : Op} {x y d : D} (h : opD o x y >>= freshD = .ok d) : (o = .add ∧ ∃ xs ys, x = .list xs ∧ y = .list ys ∧ sizeOk (xs.length + ys.length) = true ∧ d = .list (xs ++ ys)) ∨
    (o = .mul ∧ ∃ xs j, x = .list xs ∧ y = .int j ∧ 0 ≤ j ∧ j ≤ 1000000 ∧ sizeOk (xs.length * j.toNat) = true ∧ d = .list (List.replicate j.toNat xs).flatten) := by
  obtain ⟨d', e1, e2⟩ := bind_ok h
  unfold opD at e1
  split at e1 <;> first
    | (cases e1; cases e2; done)
    | (cases e1; done)
    | (obtain ⟨_, rfl⟩ := ite_okb e1; cases e2; done)
    | skip
  · obtain ⟨hz, rfl⟩ := ite_okb e1
    cases e2
    exact .inl ⟨rfl, _, _, rfl, rfl, hz, rfl⟩
  · obtain ⟨hz, rfl⟩ := ite_okb e1
    cases e2
    simp only [Bool.and_eq_true, decide_eq_true_eq] at hz
    exact .inr ⟨rfl, _, _, rfl, rfl, hz.1.1, hz.1.2, hz.2, rfl⟩
theorem v_op (o : Op) (ho : o = .add ∨ o = .mul) (ha : PE X a (tP X.K W f)) (hb : PE X b (tP X.K W g)) : PE X (.BinOp a (opM o) b pos) (tV X.K W true fun σ => (do let x ← f σ; let y ← g σ; opD o x y) >>= freshD) := by
  have hb2 : ∀ σ, ((do let x ← f σ; let y ← g σ; opD o x y) >>= freshD) = (do let x ← f σ; let y ← g σ; (opD o x y >>= freshD)) := fun σ => by
    cases f σ <;> first | rfl | skip
    cases g σ <;> rfl
  have key : ∀ σ H Q, tV X.K W true (fun σ => (do let x ← f σ; let y ← g σ; opD o x y) >>= freshD) σ H Q → tP X.K W f σ H fun x H1 => tP X.K W g σ H1 fun y H2 => ∃ F2 dx dy d, Same F2 H2 ∧ Pk X.K F2 H2 x dx ∧ Pk X.K F2 H2 y dy ∧ opD o dx dy >>= freshD = .ok d ∧ okV X.K true Q F2 H2 d := by
    intro σ H Q ⟨F, env, R, h⟩
    dsimp only at h
    rw [hb2] at h
    refine goP mnV R h fun dx v F1 H1 _ x1 R1 p1 h1 => goP mnV R1 h1 fun dy w F2 H2 _ x2 R2 p2 h2 => ?_
    obtain ⟨d, e, q⟩ := h2.noex (NoEx.bind (nx_opD _ _ _) nx_freshD)
    exact ⟨F2, dx, dy, d, x2.sub, p1.ext x2, p2, e, q⟩
  rcases ho with rfl | rfl
  · refine PE.weak (pe_op (r := fun x y H2 Q => ∃ F2 dx dy d, Same F2 H2 ∧ Pk X.K F2 H2 x dx ∧ Pk X.K F2 H2 y dy ∧ opD .add dx dy >>= freshD = .ok d ∧ okV X.K true Q F2 H2 d) ?_ ha hb) key
    intro pins s σ H x y v u Q I rx ry ⟨F2, dx, dy, d, s2, p1, p2, e, q⟩
    rcases opF_inv e with ⟨_, xs, ys, rfl, rfl, hz, rfl⟩ | ⟨z, _⟩
    · obtain ⟨l, vs, rfl, z1, z2⟩ := p1.lst s2
      obtain ⟨l2, vs2, rfl, z3, z4⟩ := p2.lst s2
      exact op_catR pins s σ H _ _ v u Q I rx ry ⟨l, l2, vs, vs2, rfl, rfl, z1, z3, by rw [z2.length, z4.length]; exact size_line hz, new_lstV s2 q (z2.app z4)⟩
    · cases z
  · refine PE.weak (pe_op (r := fun x y H2 Q => ∃ F2 dx dy d, Same F2 H2 ∧ Pk X.K F2 H2 x dx ∧ Pk X.K F2 H2 y dy ∧ opD .mul dx dy >>= freshD = .ok d ∧ okV X.K true Q F2 H2 d) ?_ ha hb) key
    intro pins s σ H x y v u Q I rx ry ⟨F2, dx, dy, d, s2, p1, p2, e, q⟩
    rcases opF_inv e with ⟨z, _⟩ | ⟨_, xs, j, rfl, rfl, hj, hj2, hz, rfl⟩
    · cases z
    · obtain ⟨l, vs, rfl, z1, z2⟩ := p1.lst s2
      cases p2.int
      exact op_repR pins s σ H _ _ v u Q I rx ry ⟨l, j, vs, rfl, rfl, z1, by omega, by omega, by rw [z2.length]; exact size_line hz, new_lstV s2 q (z2.rep _)⟩
/-- {} -/
theorem v_dnil : PE X (.Dict [] [] pos) (tV X.K W true fun _ => .ok (.dict [])) := PE.weak pe_dnewK fun σ H Q ⟨F, env, R, h⟩ => by
  intro p hp
  have hF : F p = none := by
    cases z : F p with
    | none => rfl
    | some u => rw [R.sub _ _ z] at hp; cases hp
  exact h _ _ F (Ext.own R.sub hp) ⟨p, rfl, hp, hF, .dk upd_same .nil⟩
theorem s_setLc {o : Bool} {i : Nat} {y : Str} {py : Pos} {elt tg iter : Expr} {ifs : List Expr} {scope : Scope} {own : List (Str × Nat)} {spos : Pos} {fi : Env → Res (List D)} {T : Tg} {fc : Env → Res Bool} {fe : Env → Res D} (ok : XOk X) (hy : X.N[i]? = some y) (hyl : X.env.scope.names.lookup y = some .local)
    (hsw : swapsWith (.ListComp elt [⟨tg, iter, ifs, 0⟩] scope pos) (some (.Name y py)) spos.line X.env = pure true) (hi : PI X tg iter (tI X.K W true fi)) (bo : BlkOk X.N X.env.scope scope own)
    (hg : ∀ (s : Shared) (H : Hp) (C : Addr) (cl : List (Str × Addr)) (fp : List Addr), PG (X.blk s H scope (compEnvC scope cl C X.env) fp) tg (tG X.K T)) (ht : ∀ (s : Shared) (H : Hp) (C : Addr) (cl : List (Str × Addr)) (fp : List Addr), PTs (X.blk s H scope (compEnvC scope cl C X.env) fp) ifs (tT X.K W0 fc))
    (he : ∀ (s : Shared) (H : Hp) (C : Addr) (cl : List (Str × Addr)) (fp : List Addr), PE (X.blk s H scope (compEnvC scope cl C X.env) fp) elt (tE X.K W0 fe)) (hs : ∀ x, foldedSetIterable iter X.env x = pure x) (hT : ∀ i ∈ T.sl, i ∈ own.map (·.2)) :
    PS X (.Assign [.Name y py] (.ListComp elt [⟨tg, iter, ifs, 0⟩] scope pos) spos) (tS X.K W F0 H0 fun σ => (compD fi T fc fe (own.map (·.2)) σ).sr fun d => (toSl o d).sr fun s => .nx (setS σ i s)) :=
  PS.weak (ps_setLc ok.calm ok.nd hy hyl hsw hi bo hg ht he hs) fun D σ H ⟨F, env, R, h⟩ => lc_rd hT o σ H _ (gSV R h fun d v F1 H1 _ x1 R1 q n h1 => by
    obtain ⟨s, e, h2⟩ := sr_noex h1 (nx_toSl _ _)
    exact h2 _ H1 F1 (Same.refl _) (R1.put i q e fun ho j l el => R.notOwn (n ho l el)))
/-! ### more statements -/
theorem ipD (o : Op) (ho : augOk o = true) : PIp X (opM o) (fun x y H Q => ∃ i j k, x = .int i ∧ y = .int j ∧ opD o (.int i) (.int j) = .ok (.int k) ∧ Q (.int k) H) := by
  intro pins s σ H x y v u Q I rx ry ⟨i, j, k, hx, hy, e, q⟩
  cases o <;> try cases ho
  · cases e; exact iop_add pins s σ H x y v u Q I rx ry ⟨i, j, hx, hy, q⟩
  · cases e; exact iop_sub pins s σ H x y v u Q I rx ry ⟨i, j, hx, hy, q⟩
  · obtain ⟨hz, e⟩ := ite_ok (show (if (smallI i || smallI j) = true then Res.ok (PyData.int (i * j)) else .bad) = .ok (.int k) from e)
    cases e
    refine iop_mul pins s σ H x y v u Q I rx ry ⟨i, j, hx, hy, ?_, q⟩
    rcases Bool.or_eq_true_iff.mp hz with z | z
    · exact .inl (smallI_of z)
    · exact .inr (smallI_of z)
theorem opD_int {o : Op} {i j : Int} {d : D} (h : opD o (.int i) (.int j) = .ok d) : ∃ k, d = .int k := by
  cases o <;> simp only [opD] at h <;> first | (cases h; exact ⟨_, rfl⟩) | (obtain ⟨_, rfl⟩ := ite_ok h; exact ⟨_, rfl⟩)
theorem s_aug {i : Nat} {x : Str} {p' : Pos} {o : Op} (ok : XOk X) (hi : X.N[i]? = some x) (hx : Loc X.env.scope x) (hf : X.fn x = true ∨ X.env.scope.names.lookup x = some .local) (ho : augOk o = true) (he : PE X e (tE X.K W f)) :
    PS X (.AugAssign (.Name x p') (opM o) e pos) (tS X.K W F0 H0 fun σ => (strict σ i).sr fun x => (f σ).sr fun y => match x, y with
      | .int _, .int _ => if augOk o then (opD o x y).sr fun d => .nx (setS σ i (.fz d)) else .bad
      | _, _ => .bad) :=
  PS.weak (ps_aug ok.nd hi hx he (ipD o ho) hf) fun D σ H ⟨F, env, R, h⟩ => by
    obtain ⟨d, e1, h1⟩ := sr_noex h (nx_strict _ _)
    obtain ⟨v, e2, q⟩ := slot_strict R.re e1
    refine ⟨v, e2, gS R h1 fun d2 w F1 H1 _ x1 R1 q2 h2 => ?_⟩
    cases d <;> try (exact h2.elim)
    cases d2 <;> try (exact h2.elim)
    dsimp only at h2
    rw [if_pos ho] at h2
    obtain ⟨d3, e3, h3⟩ := sr_noex h2 (nx_opD _ _ _)
    obtain ⟨k, rfl⟩ := opD_int e3
    cases q
    cases q2
    exact ⟨_, _, k, rfl, rfl, e3, h3 _ H1 F1 (Same.refl _) (R1.fz i (.int k))⟩
theorem s_par {i j : Nat} {x y : Str} {px py pt : Pos} {kt k2 : Nat} {pt2 : Pos} {o1 o2 : Bool} (ok : XOk X) (hi : X.N[i]? = some x) (hj : X.N[j]? = some y) (hij : i ≠ j) (hx : X.env.scope.names.lookup x = some .local) (hy : X.env.scope.names.lookup y = some .local)
    (ha : PE X a (tV X.K W o1 f)) (hb : PE X b (tV X.K W o2 g)) (s1 : starEach [a, b] X.env = (false, eval a X.env) :: starEach [b] X.env) (s2 : starEach [b] X.env = (false, eval b X.env) :: starEach [] X.env)
    (hw : swappedStores [.Tuple [.Name x px, .Name y py] kt pt] (.Tuple [a, b] k2 pt2) X.env = pure (some [x, y]))
    (hs : swapsWithSole [.Tuple [.Name x px, .Name y py] kt pt] (.Tuple [a, b] k2 pt2) pos.line X.env = pure false) :
    PS X (.Assign [.Tuple [.Name x px, .Name y py] kt pt] (.Tuple [a, b] k2 pt2) pos) (tS X.K W F0 H0 fun σ => (f σ).sr fun d1 => (g σ).sr fun d2 => (toSl o1 d1).sr fun s1 => (toSl o2 d2).sr fun s2 => .nx (setS (setS σ i s1) j s2)) :=
  PS.weak (ps_par ok.calm ok.nd hi hj hij hx hy (pa_cons ha (pa_cons hb pa_nil s2) s1) hw hs) fun D σ H ⟨F, env, R, h⟩ =>
    gSV R h fun d1 v F1 H1 _ x1 R1 q1 n1 h1 => gSV R1 h1 fun d2 w F2 H2 _ x2 R2 q2 n2 h2 => by
      obtain ⟨t1, e1, h3⟩ := sr_noex h2 (nx_toSl _ _)
      obtain ⟨t2, e2, h4⟩ := sr_noex h3 (nx_toSl _ _)
      refine ⟨v, w, rfl, h4 _ H2 F2 (Same.refl _) ((R2.put i (q1.ext x2) e1 fun ho j l el => R.notOwn (n1 ho l el)).put j q2 e2 fun ho k l el ow => ?_)⟩
      have z1 := n2 ho l el
      rcases own_set R2.re.len ow with ⟨_, _, ev, z⟩ | ⟨_, z⟩
      · cases o1 with
        | false => cases e1; rcases z with ⟨_, z⟩ | ⟨_, z⟩ <;> cases z
        | true =>
          obtain ⟨l2, e2', _, m2, z2⟩ := q1
          rw [ev] at e2'
          cases e2'
          cases z2 with
          | lst z2 _ => rw [z1] at z2; cases z2
          | dk z2 _ => rw [z1] at z2; cases z2
      · exact R1.notOwn z1 z
end
end BW

namespace BW
open PySem PySem.W L2 PySem.Spec PyProof.Rows
section
variable {X : Cx} {W : WN} {F0 H0 : Hp} {a b c e : Expr} {es : List Expr} {pos tpos : Pos} {f g : Env → Res D} {st : Stmt}
/-! ### xs[i] op= e -/
def rGetL : V → V → Hp → VK → Prop := fun x y H Q => ∃ p xs i v, x = .ref p ∧ y = .int i ∧ H p = some (.lst xs) ∧ atI xs i = some v ∧ Q v H
theorem get_listO : PGet X rGetL := by
  intro pins s σ H o i ov iv Q I ro ri ⟨p, xs, k, z, h1, h2, hp, he, q⟩
  subst h1 h2
  cases ro
  obtain ⟨t, rfl⟩ := ri
  obtain ⟨its, r, pl, hz⟩ := I.list (.inl (.inl hp))
  obtain ⟨j, e1, e2, e3, e4, e5⟩ := atI_get he
  obtain ⟨w, ew, rw'⟩ := r.get e2
  have hl := r.length
  have hn := line63
  have fin : EP X pins σ Q w s := ⟨z, H, I, rw', q⟩
  by_cases h0 : 0 ≤ k
  · have hj : k.toNat = j := by
      rw [seqIndex_of h0 e5] at e1
      exact Option.some.inj e1
    exact wpAny_getItem_list pl.isList h0 (by omega) (by rw [hj]; simpa using ew) fin
  · have hj : (k + (its.toArray.size : Int)).toNat = j := by
      rw [seqIndex_neg (by omega) e4] at e1
      rw [List.size_toArray, ← hl]
      exact Option.some.inj e1
    exact wpAny_getItem_list_neg pl.isList (by omega) (by rw [List.size_toArray] <;> omega) (by omega) (by rw [hj]; simpa using ew) fin
theorem atI_of_ix {α : Type} {xs : List α} {i : Int} {j : Nat} {v : α} (h : ixN xs.length i = some j) (h2 : xs[j]? = some v) : atI xs i = some v := by
  unfold atI
  rw [h]
  exact h2
def augIx (f : Env → Res D) (o : Op) (σ : Env) (i : Nat) (ds : List D) (m : Nat) : SR := match ds[m]? with
  | some (.int u) => (f σ).sr fun y => (asInt y).sr fun w => if augOk o then (opD o (.int u) (.int w)).sr fun d => .nx (setS σ i (.ol (ds.set m d))) else .bad
  | _ => .bad
theorem s_augix {i : Nat} {x : Str} {ix : Expr} {p' : Pos} {o : Op} (hN : X.N[i]? = some x) (hv : Vis X.env.scope x) (hd : (x == ("__debug__" : Str)) = false) (hcd : (x == ("__classdict__" : Str)) = false) (ho : augOk o = true) (he : PE X e (tE X.K W f)) (hx : PE X ix (tE X.K W g))
    (ha : ∀ ov iv new, augStore ix ov iv new = (do holding [new, ov, iv] (setItem ov iv new); release [new, ov, iv] []; pure .next)) :
    PS X (.AugAssign (.Subscript (.Name x p') ix tpos) (opM o) e pos) (tS X.K W F0 H0 fun σ => match getS σ i with
      | .ol ds => (g σ).sr fun j => (asInt j).sr fun k => match listIx ds k with
        | some m => augIx f o σ i ds m
        | none => .bad
      | _ => .bad) :=
  PS.weak (ps_augS (pe_var (pos := p') hN hv hd hcd) hx get_listO he (ipD o ho) set_list ha) fun D σ H ⟨F, env, R, hh⟩ => by
    dsimp only at hh
    cases q : getS env i with
    | un => rw [q] at hh; exact hh.elim
    | fz d => rw [q] at hh; exact hh.elim
    | od d => rw [q] at hh; exact hh.elim
    | ol ds =>
      rw [q] at hh
      obtain ⟨l, xs, e, ow, h1, h2, h3, h4⟩ := R.ol q
      refine ⟨_, e, gS R hh fun j w F1 H1 _ x1 R1 q1 h5 => ?_⟩
      obtain ⟨k, ej, h6⟩ := sr_noex h5 (nx_asInt _)
      cases asInt_ok ej
      cases q1
      have g1 := x1.h _ _ h1
      cases em : listIx ds k with
      | none => rw [em] at h6; exact h6.elim
      | some m =>
        rw [em] at h6
        unfold augIx at h6
        cases eu : ds[m]? with
        | none => simp only [eu] at h6; exact h6.elim
        | some du =>
          simp only [eu] at h6
          cases du <;> try (exact h6.elim)
          rename_i u
          dsimp only at h6
          have h4' := h4.up x1.f
          obtain ⟨vu, ev, qu⟩ := h4'.get' eu
          cases qu
          have em' : ixN xs.length k = some m := by rw [h4.length]; exact em
          refine ⟨l, xs, k, _, rfl, rfl, g1, atI_of_ix em' ev, gS R1 h6 fun d2 w2 F2 H2 _ x2 R2 q2 h7 => ?_⟩
          obtain ⟨w3, ew, h8⟩ := sr_noex h7 (nx_asInt _)
          cases asInt_ok ew
          cases q2
          rw [if_pos ho] at h8
          obtain ⟨d3, e3, h9⟩ := sr_noex h8 (nx_opD _ _ _)
          obtain ⟨z, rfl⟩ := opD_int e3
          have hF : F2 l = none := (ow.obj R2).1
          refine ⟨_, _, z, rfl, rfl, e3, l, xs, k, m, rfl, rfl, x2.h _ _ g1, em', ?_⟩
          exact h9 σ _ F2 (Same.refl _) (R2.mut ow ⟨l, _, rfl, upd_same, hF, (h4'.up x2.f).set (.int z) m⟩)
/-! ### y = xs.pop() -/
theorem s_pop {i j : Nat} {x y : Str} {ap cp p' py : Pos} (nd : X.N.Nodup) (hij : i ≠ j) (hN : X.N[i]? = some x) (hv : Vis X.env.scope x) (hd : (x == ("__debug__" : Str)) = false) (hcd : (x == ("__classdict__" : Str)) = false) (hi : X.N[j]? = some y) (hx : Loc X.env.scope y) (hf : X.fn y = true ∨ X.env.scope.names.lookup y = some .local)
    (hb : attributeBase (.Name x p') "pop" X.env (eval (.Name x p') X.env) = eval (.Name x p') X.env) (hl : (ap.endLine == cp.line) = true) (hs : swapsWith (.Call (.Attribute (.Name x p') "pop" ap) [] [] cp) (some (.Name y py)) pos.line X.env = pure false) :
    PS X (.Assign [.Name y py] (.Call (.Attribute (.Name x p') "pop" ap) [] [] cp) pos) (tS X.K W F0 H0 fun σ => match getS σ i with
      | .ol ds => (match ds[ds.length - 1]? with
        | some d => .nx (setS (setS σ i (.ol ds.dropLast)) j (.fz d))
        | none => .bad)
      | _ => .bad) :=
  PS.weak (ps_set nd hi hx (pe_bm0 PySem.F.plainAttrs_list PySem.F.slot_list_pop PySem.F.type_list_pop mt_pop (pe_var hN hv hd hcd) hb hl) hs hf) fun D σ H ⟨F, env, R, hh⟩ => by
    dsimp only at hh
    cases q : getS env i with
    | un => rw [q] at hh; exact hh.elim
    | fz d => rw [q] at hh; exact hh.elim
    | od d => rw [q] at hh; exact hh.elim
    | ol ds =>
      rw [q] at hh
      obtain ⟨l, xs, e, ow, h1, h2, h3, h4⟩ := R.ol q
      cases eu : ds[ds.length - 1]? with
      | none => simp only [eu] at hh; exact hh.elim
      | some d =>
        simp only [eu] at hh
        obtain ⟨v, ev, qv⟩ := h4.get' eu
        refine ⟨_, e, .inl ⟨rfl, xs, .inl (.inl h1)⟩, l, xs, v, rfl, rfl, h1, by rw [h4.length]; exact ev, ?_⟩
        have hdl : DqAll X.K F xs.dropLast ds.dropLast := by
          rw [List.dropLast_eq_take, List.dropLast_eq_take, h4.length]
          exact h4.take _
        have RM : RS X.K F0 H0 F (upd H l (.lst xs.dropLast)) σ (setS env i (.ol ds.dropLast)) := R.mut ow ⟨l, _, rfl, upd_same, (ow.obj R).1, hdl⟩
        exact hh _ _ F (Same.refl _) (RM.fz j qv)
end
end BW

namespace BW
open PySem PySem.W L2 PySem.Spec PyProof.Rows
/-- one item of a dict comprehension -/
def dcompF (T : Tg) (fc : Env → Res Bool) (fk fv : Env → Res D) (vs : List Nat) (env : Env) : D → Res (Option (D × D)) := fun d => (do
  let σ' ← bindT T d (wipeS env vs)
  let b ← fc σ'
  if b then do
    let y ← fk σ'
    let z ← fv σ'
    .ok (some (y, z))
  else .ok none).quiet
def dcompD (fi : Env → Res (List D)) (T : Tg) (fc : Env → Res Bool) (fk fv : Env → Res D) (vs : List Nat) : Env → Res D := fun env => do
  let xs ← fi env
  let ys ← dcompR (dcompF T fc fk fv vs env) xs []
  .ok (.dict ys)
theorem nx_dcompR {f : D → Res (Option (D × D))} (h : ∀ d, NoEx (f d)) : ∀ (xs : List D) (acc : List (D × D)), NoEx (dcompR f xs acc)
  | [], _ => NoEx.ok _
  | x :: xs, acc => NoEx.bind (h x) fun o => by
    cases o with
    | none => exact nx_dcompR h xs acc
    | some q => exact NoEx.ite (nx_dcompR h xs _) NoEx.bad
section
variable {X : Cx} {W : WN} {F0 H0 : Hp}
theorem goXd {β : Type} {okb : Hp → Hp → β → Prop} {F H : Hp} {σ : L2.St} {f : D → Res (Option (D × D))} {xs : List D} {k : List (D × D) → Res β} (n : ∀ d, NoEx (f d)) (h : rs W σ F H okb (dcompR f xs [] >>= k)) : ∃ ys, dcompR f xs [] = .ok ys ∧ rs W σ F H okb (k ys) := by
  cases q : dcompR f xs [] with
  | ok d => rw [q] at h; exact ⟨d, rfl, h⟩
  | ex c => exact absurd q (nx_dcompR n _ _ c)
  | bad => rw [q] at h; exact h.elim
theorem dc_rd {fi : Env → Res (List D)} {T : Tg} {fc : Env → Res Bool} {fk fv : Env → Res D} {vs : List Nat} (hT : ∀ i ∈ T.sl, i ∈ vs) (o : Bool) (σ : L2.St) (H : Hp) (Q : VK) (h : tV X.K W o (dcompD fi T fc fk fv vs) σ H Q) :
    tDc (tI X.K W true fi) (tG X.K T) (tT X.K W0 fc) (tE X.K W0 fk) (tE X.K W0 fv) vs σ H Q := by
  obtain ⟨F, env, R, h⟩ := h
  refine ⟨F, env, R, ?_⟩
  unfold dcompD at h
  cases q0 : fi env with
  | ex c => rw [q0] at h; exact h
  | bad => rw [q0] at h; exact h
  | ok ds =>
  rw [q0] at h
  intro J H1 F1 x1 wk L hL
  simp only [if_true] at wk
  have h := rs.ext (W := W) (σ := σ) mnV x1 h
  obtain ⟨ys, hy, h⟩ := goXd (fun d => nx_quiet _) h
  have R1 := R.ext x1
  let Pv : Nat → Hp → Prop := fun i Hc => ∃ F2 Hb acc accd, Hc = upd Hb L (.dK acc) ∧ Hb L = none ∧ Ext F1 F2 H1 Hb ∧ KvP X.K F2 acc accd ∧ dcompR (dcompF T fc fk fv vs env) (ds.drop i) accd = .ok ys
  have start : Pv 0 (upd H1 L (.dK [])) := ⟨F1, H1, [], [], rfl, hL, Ext.refl x1.sub, .nil, by rw [List.drop_zero]; exact hy⟩
  refine ⟨fun i m Hc => m = ds.length - i ∧ i ≤ ds.length ∧ Pv i Hc, ⟨ds.length, by simp, Nat.zero_le _, start⟩, ?_⟩
  rintro i m Hc ⟨rfl, hi, F2, Hb, acc, accd, rfl, hbL, x2, qa, er⟩
  have s2 : Same H1 (upd Hb L (.dK acc)) := fun a u z => by rw [upd_ne (ne_of_none z hL)]; exact x2.h _ _ z
  have s3 : Same F2 (upd Hb L (.dK acc)) := fun a u z => by rw [upd_ne (ne_of_none (x2.sub _ _ z) hbL)]; exact x2.sub _ _ z
  by_cases hlt : i < ds.length
  · refine .inr ⟨wk.goes i _ hlt s2, Pv (i + 1), fun H' p' => ⟨ds.length - (i + 1), by omega, rfl, hlt, p'⟩, fun x H' y => ?_⟩
    obtain ⟨d, F3, hd, x3, qd⟩ := wk.yld i _ x H' hlt s2 y F2 x2.f s3
    have edrop : ds.drop i = d :: ds.drop (i + 1) := by
      rw [List.drop_eq_getElem_cons hlt]
      rw [List.getElem?_eq_getElem hlt] at hd
      rw [Option.some.inj hd]
    rw [edrop] at er
    unfold dcompR at er
    obtain ⟨oo, e1, e2⟩ := bind_ok er
    have e1 := quiet_ok' e1
    obtain ⟨env', eb, e1⟩ := bind_ok e1
    obtain ⟨b, ec, e1⟩ := bind_ok e1
    have xb : Ext F2 F2 Hb (upd Hb L (.dK acc)) := Ext.own x2.sub hbL
    have R3 : RE X.K F3 H' (L2.wipe σ vs) (wipeS env vs) := (((R1.ext x2).ext xb).ext x3).wipe vs
    refine ⟨F3, wipeS env vs, d, env', R3, qd, eb, fun σ2 R4 c4 => ⟨by rw [(c4.mono hT).wipe, wipe_wipe], ?_⟩⟩
    refine ⟨F3, env', R4, ?_⟩
    rw [ec]
    intro H5 F5 x5
    have y5 := x3.trans x5
    cases b with
    | false =>
      cases e1
      simp only [Bool.false_eq_true, if_false]
      obtain ⟨Hc, c1, c2, c3⟩ := ext_mask x2 hbL hL y5
      have hL5 : H5 L = some (.dK acc) := y5.h _ _ upd_same
      refine ⟨F5, Hc, acc, accd, ?_, c1, c2, qa.up y5.f, e2⟩
      rw [← c3]
      funext a
      unfold upd
      by_cases z : a = L
      · simp [z, hL5]
      · simp [z]
    | true =>
      obtain ⟨y', ee, e1⟩ := bind_ok (show (fk env' >>= fun y => fv env' >>= fun z => Res.ok (some (y, z))) = .ok oo from e1)
      obtain ⟨z', ez, e1⟩ := bind_ok e1
      cases e1
      simp only [if_true]
      obtain ⟨hz, e2⟩ : ((keyOf y').isSome && sizeOk accd.length) = true ∧ dcompR (dcompF T fc fk fv vs env) (ds.drop (i + 1)) (putD accd y' z') = .ok ys := by
        have e2 : (if ((keyOf y').isSome && sizeOk accd.length) = true then dcompR (dcompF T fc fk fv vs env) (ds.drop (i + 1)) (putD accd y' z') else .bad) = .ok ys := e2
        by_cases z : ((keyOf y').isSome && sizeOk accd.length) = true
        · rw [if_pos z] at e2; exact ⟨z, e2⟩
        · rw [if_neg z] at e2; cases e2
      obtain ⟨hk, hs⟩ := Bool.and_eq_true_iff.mp hz
      obtain ⟨kk, hk⟩ := Option.isSome_iff_exists.mp hk
      cases keyOf_some hk
      refine ⟨F5, env', R4.ext x5, ?_⟩
      rw [ee]
      intro v6 H6 F6 x6 q6
      have y6 := y5.trans x6
      refine ⟨F6, env', (R4.ext x5).ext x6, ?_⟩
      rw [ez]
      intro v7 H7 F7 x7 q7
      have y7 := y6.trans x7
      obtain ⟨Hc, c1, c2, c3⟩ := ext_mask x2 hbL hL y7
      have hl : acc.length < sizeLine := by rw [qa.length]; exact size_lt hs
      refine ⟨acc, kk, (Pk.dq q6 : Pk X.K F6 H6 v6 (keyD kk)).key, y7.h _ _ upd_same, hl, F7, Hc, _, _, c3 _, c1, c2, (qa.up y7.f).put kk q7, e2⟩
  · have e : i = ds.length := by omega
    subst e
    refine .inl ⟨wk.stops _ s2, ?_⟩
    rw [List.drop_length] at er
    cases er
    cases o with
    | false =>
      have x3 := Ext.laid (o := .dK acc) x2.sub hbL
      exact h _ _ _ (x2.trans x3) (.dK (.inl upd_same) (qa.up x3.f))
    | true =>
      have x3 := Ext.own (o := .dK acc) x2.sub hbL
      have hF : F2 L = none := by
        cases q : F2 L with
        | none => rfl
        | some u => rw [x2.sub _ _ q] at hbL; cases hbL
      exact h _ _ _ (x2.trans x3) ⟨L, rfl, hL, hF, .dk upd_same qa⟩
section
variable {o : Bool} {kx vx tg iter : Expr} {ifs : List Expr} {scope : Scope} {own : List (Str × Nat)} {pos : Pos} {fi : Env → Res (List D)} {T : Tg} {fc : Env → Res Bool} {fk fv : Env → Res D} (ok : XOk X) (hi : PI X tg iter (tI X.K W true fi)) (bo : BlkOk X.N X.env.scope scope own)
    (hg : ∀ (s : Shared) (H : Hp) (C : Addr) (cl : List (Str × Addr)) (fp : List Addr), PG (X.blk s H scope (compEnvC scope cl C X.env) fp) tg (tG X.K T)) (ht : ∀ (s : Shared) (H : Hp) (C : Addr) (cl : List (Str × Addr)) (fp : List Addr), PTs (X.blk s H scope (compEnvC scope cl C X.env) fp) ifs (tT X.K W0 fc))
    (hk : ∀ (s : Shared) (H : Hp) (C : Addr) (cl : List (Str × Addr)) (fp : List Addr), PE (X.blk s H scope (compEnvC scope cl C X.env) fp) kx (tE X.K W0 fk))
    (he : ∀ (s : Shared) (H : Hp) (C : Addr) (cl : List (Str × Addr)) (fp : List Addr), PE (X.blk s H scope (compEnvC scope cl C X.env) fp) vx (tE X.K W0 fv)) (hs : ∀ x, foldedSetIterable iter X.env x = pure x) (hT : ∀ i ∈ T.sl, i ∈ own.map (·.2))
include ok hi bo hg ht hk he hs hT
theorem c_dcomp : PE X (.DictComp kx vx [⟨tg, iter, ifs, 0⟩] scope pos) (tV X.K W o (dcompD fi T fc fk fv (own.map (·.2)))) :=
  PE.weak (pe_dc ok.calm ok.nd hi bo hg ht hk he hs) fun σ H Q h => dc_rd hT o σ H Q h
/-- name = {..} on one line, the name a local -/
theorem s_setDc {i : Nat} {y : Str} {py : Pos} {spos : Pos} (hy : X.N[i]? = some y) (hyl : X.env.scope.names.lookup y = some .local)
    (hsw : swapsWith (.DictComp kx vx [⟨tg, iter, ifs, 0⟩] scope pos) (some (.Name y py)) spos.line X.env = pure true) :
    PS X (.Assign [.Name y py] (.DictComp kx vx [⟨tg, iter, ifs, 0⟩] scope pos) spos) (tS X.K W F0 H0 fun σ => (dcompD fi T fc fk fv (own.map (·.2)) σ).sr fun d => (toSl o d).sr fun s => .nx (setS σ i s)) := by
  refine ⟨fun pins s σ H D I ⟨F, env, R, hh⟩ => ?_⟩
  rw [exec_Assign_Name_used _ _ _ _ hsw]
  refine wpAny_bind (wpAny_standAt (wpAny_bind ?_))
  show wpAny _ X.A (do let _ ← comprehension (.DictComp kx vx [⟨tg, iter, ifs, 0⟩] scope pos) scope X.env (firstIterPos [⟨tg, iter, ifs, 0⟩] pos) newDict false (eval iter X.env) (some (assign (.Name y py) X.env))) _ _ s
  have h : tDc (tI X.K W true fi) (tG X.K T) (tT X.K W0 fc) (tE X.K W0 fk) (tE X.K W0 fv) (own.map (·.2)) σ H (fun x H1 => gName i x σ H1 D.nx) :=
    dc_rd hT o σ H _ (gSV R hh fun d v F1 H1 _ x1 R1 q n h1 => by
      obtain ⟨s, e, h2⟩ := sr_noex h1 (nx_toSl _ _)
      exact h2 _ H1 F1 (Same.refl _) (R1.put i q e fun ho j l el => R.notOwn (n ho l el)))
  refine wpAny_bind (thn (dc_core (Qf := fun _ s' => SP X pins D .next s') ok.calm ok.nd I hi bo hg ht hk he hs h fun L C s' m H' I' q hn f => ?_) fun _ s' hq => wpAny_pure (wpAny_pure hq))
  show wpAny _ _ (assign (.Name y py) X.env (.ref L)) _ _ _
  refine wpAny_assign_Name (store_ok2 (v := V.ref L) I' ok.nd hy (.inl hyl) rfl (fun s2 I2 ⟨a, sb, ha⟩ => ?_) (.inr hyl))
  obtain ⟨f0, f1, f2, f3, f4, f5⟩ := f
  have haC : C ≠ a := by
    rcases ha with z | z
    · rw [z]; exact f1
    · exact fun e => f4 y a z e.symm
  refine ⟨m, hn.sameBut sb haC, fun h3 sb3 => ?_⟩
  exact ⟨_, H', I2.turned (t' := s2.toks) (fun b o hb e => (sb3.2 b hb).trans e) f0 f1 f3 f4 f5, q⟩
end
/-! ### d.update(e) -/
def mergeK (ks js : List (Key × V)) : List (Key × V) := js.foldl (fun acc q => putK acc q.1 q.2) ks
theorem mergeK_kv : ∀ {js : List (Key × V)} {jvs : List (Key × Value)} {ks : List (Key × V)} {vs : List (Key × Value)}, KV js jvs → KV ks vs → KV (mergeK ks js) (PySem.merged vs jvs)
  | _, _, _, _, .nil, h => h
  | _, _, _, _, .cons (a := (k, v)) (b := (k', u)) ⟨e, r⟩ t, h => by
    have e : k = k' := e
    subst e
    have := mergeK_kv t (KV.put h k r)
    exact this
theorem KvP.merge {K : PySem.W.Frag} {F : Hp} : ∀ {js : List (Key × V)} {jvs : List (D × D)} {ks : List (Key × V)} {kvs : List (D × D)}, KvP K F js jvs → KvP K F ks kvs → KvP K F (mergeK ks js) (mergeD kvs jvs)
  | _, _, _, _, .nil, h => h
  | _, _, _, _, .cons (k := k) a t, h => by
    have := KvP.merge t (h.put k a)
    exact this
theorem putK_len (ks : List (Key × V)) (k : Key) (v : V) : (putK ks k v).length ≤ ks.length + 1 := by
  unfold putK
  split <;> simp
theorem mergeK_len : ∀ (js ks : List (Key × V)), (mergeK ks js).length ≤ ks.length + js.length
  | [], ks => Nat.le_refl _
  | q :: js, ks => by
    have h1 := mergeK_len js (putK ks q.1 q.2)
    have h2 := putK_len ks q.1 q.2
    simp only [List.length_cons]
    show (mergeK (putK ks q.1 q.2) js).length ≤ _
    omega
def rUpd : V → List V → Hp → VK → Prop := fun x vs H Q => ∃ l b ks js, x = .ref l ∧ vs = [.ref b] ∧ l ≠ b ∧ H l = some (.dK ks) ∧ Rd H b (.dK js) ∧ ks.length + js.length ≤ sizeLine ∧ Q .non (upd H l (.dK (mergeK ks js)))
theorem mt_upd : MtM X "dict.update" rUpd := by
  intro pins s σ H x vs v us Q I rx rv ⟨l, b, ks, js, ex, ev, ne, hl, hb, hz, q⟩
  subst ex ev
  cases rx
  obtain ⟨u, rfl, ru⟩ := rv.one
  cases ru
  obtain ⟨z1, lo1, vs1, r1, d1⟩ := dk_of I.hok hl
  obtain ⟨z2, lo2, vs2, r2, d2⟩ := hb.ok I.hok
  refine call_meetsIn PySem.F.slot_dict_update d1.typeIs PySem.F.entry_dict_update (PySem.F.args_dict_update_2 _ _) (PySem.meets_dict_update _ l b ne lo2)
    ⟨vs1, vs2, d1, d2, by rw [← r1.length, ← r2.length]; exact hz, fun h' hm _ hs => ?_⟩
  have hm' : ObjOk X.prog X.w (upd H l (.dK (mergeK ks js))) h' l (.dK (mergeK ks js)) := ⟨Nat.le_trans (mergeK_len js ks) hz, lo1, _, mergeK_kv r2 r1, hm⟩
  obtain ⟨od, _, _, eo, _⟩ := hm
  exact ⟨.non, _, I.write (x := l) (e := l) (t' := s.toks) (by rw [hl]; exact trivial) (.inl rfl) (fun b' u hb' hu => (hs.2 b' hb').trans hu) ⟨od, eo⟩ hm', rfl, q⟩
/-- what a slot must hold -/
theorem s_od {st : Stmt} {i : Nat} {k : List (D × D) → Env → SR} {t : TS} (h : PS X st t) (w : ∀ D σ H F env kvs l ks, RS X.K F0 H0 F H σ env → getS env i = .od kvs → σ[i]? = some (some (.ref l)) → Own σ env i l → H l = some (.dK ks) → KvP X.K F ks kvs → sR X.K W F0 H0 F D (k kvs env) → t D σ H) :
    PS X st (tS X.K W F0 H0 fun σ => match getS σ i with | .od kvs => k kvs σ | _ => .bad) :=
  PS.weak h fun D σ H ⟨F, env, R, hh⟩ => by
    dsimp only at hh
    cases q : getS env i with
    | od kvs =>
      rw [q] at hh
      obtain ⟨l, xs, e, o, h1, h2, h3, h4⟩ := R.od q
      exact w D σ H F env kvs l xs R q e o h1 h4 hh
    | un => rw [q] at hh; exact hh.elim
    | fz d => rw [q] at hh; exact hh.elim
    | ol d => rw [q] at hh; exact hh.elim
theorem s_upd {e : Expr} {f : Env → Res D} {i : Nat} {x : Str} {ap cp p' pos : Pos} (hN : X.N[i]? = some x) (hv : Vis X.env.scope x) (hd : (x == ("__debug__" : Str)) = false) (hcd : (x == ("__classdict__" : Str)) = false) (he : PE X e (tE X.K W f)) (hb : attributeBase (.Name x p') "update" X.env (eval (.Name x p') X.env) = eval (.Name x p') X.env)
    (hfew : ((backTo cp (starEach [e] X.env)).all (fun x => !x.1) && (backToKw cp (keywordEach [] X.env)).all (fun x => x.1.isSome) && decide (([e] : List Expr).length + ([] : List Keyword).length + (if ([] : List Keyword).isEmpty then 0 else 1) < 30)) = true)
    (hl : (ap.endLine == cp.line) = true) (hs : starEach [e] X.env = (false, eval e X.env) :: starEach [] X.env) (hsw : swapsWith (.Call (.Attribute (.Name x p') "update" ap) [e] [] cp) none pos.line X.env = pure false) :
    PS X (.Expr (.Call (.Attribute (.Name x p') "update" ap) [e] [] cp) pos) (tS X.K W F0 H0 fun σ => match getS σ i with | .od kvs => (f σ).sr fun d => (match d with | .dict js => if okKeys js && sizeOk (kvs.length + js.length) then .nx (setS σ i (.od (mergeD kvs js))) else .bad | _ => .bad) | _ => .bad) :=
  s_od (ps_expr (pe_bm PySem.F.plainAttrs_dict PySem.F.slot_dict_update PySem.F.type_dict_update mt_upd (pe_var hN hv hd hcd) (pa_cons he pa_nil hs) hb hfew hl hs rfl) hsw) fun D σ H F env kvs l ks R q e o h1 h4 h => by
    refine ⟨_, e, .inr (.inr (.inl ⟨rfl, .inl ⟨ks, h1⟩⟩)), ?_⟩
    refine gS R h fun d v F1 H1 _ x1 R1 q1 h2 => ?_
    have g1 := x1.h _ _ h1
    cases d with
    | dict js =>
      dsimp only at h2
      by_cases hz : (okKeys js && sizeOk (kvs.length + js.length)) = true
      · rw [if_pos hz] at h2
        obtain ⟨ok, hz⟩ := Bool.and_eq_true_iff.mp hz
        have hF : F1 l = none := (o.obj R1).1
        obtain ⟨b, jk, rfl, z1, z2⟩ := (Pk.dq q1 : Pk X.K F1 H1 v (.dict js)).dict x1.sub ok
        have ne : l ≠ b := fun z => by
          subst z
          cases q1 with
          | dK a _ =>
            rcases a with a | ⟨_, a⟩ <;> (rw [hF] at a; cases a)
          | scr a _ => simp [okKeys, keyOf] at ok
          | wp a _ => simp [okKeys, keyOf] at ok
        refine ⟨l, b, ks, jk, rfl, rfl, ne, g1, z1, by rw [h4.length, z2.length]; exact size_line hz, ?_⟩
        exact h2 σ _ F1 (Same.refl _) (R1.mut o ⟨l, _, rfl, upd_same, hF, KvP.merge z2 (h4.up x1.f)⟩)
      · rw [if_neg hz] at h2; exact h2.elim
    | _ => exact h2.elim
end
end BW

namespace BW
open PySem PySem.W L2 PySem.Spec PyProof.Rows
section
variable {P : Program} {w : World} {A : Around} {E : Value → Shared → Prop} {s : Shared}
/-- the heap with a new empty set -/
abbrev newSetH (w : World) (h : Heap) : Heap := h.push { cls := .type "set", dict := none, data := .set #[] 0 (.fresh 0 0 (!w.params.followText "set-order")) }
/-- its filling from a list of ints -/
theorem set_fill {B A0 : Around} {l : Addr} {items : Array Value} (ns : List Int) {R : Value → Shared → Prop} {R' : Value → Shared → Prop} (hh : B.handled = none) (hl : s.heap.IsList l items) (hit : IntsAre items.toList ns) (hb : ns.length + 1 < scanBound)
    (h : ∀ (h' : Heap) (tk c : Nat), SetR w h' s.heap.objs.size (fun j => decide (j ∈ ns)) c → c ≤ ns.length → (∀ b o, s.heap.get? b = some o → h'.get? b = some o) → R .none { s with heap := h', toks := tk }) :
    wpAny (model P w) B (Builtin.«set.__init__» ⟨[.ref s.heap.objs.size, .ref l], []⟩) (fun fin s' => match fin with | .done f => wants R R' (.ok f) s' | .again c' => c'.quiet = true ∧ codeAny (model P w) A0 c' (wants R R') s') (fun e s' => wants R R' (.error e) s') { s with heap := newSetH w s.heap } := by
  have hisz : items.size = ns.length := by
    have q := IntsAre.length hit
    rw [Array.length_toList] at q
    exact q
  have hS : (newSetH w s.heap).get? s.heap.objs.size = some { cls := .type "set", dict := none, data := .set #[] 0 (.fresh 0 0 (!w.params.followText "set-order")) } := Heap.get?_push_size _ rfl
  obtain ⟨ol, hol, hcl, nl, hdl⟩ := hl
  obtain ⟨ocls, odict, odata, oslots⟩ := ol
  simp only at hcl hdl
  subst hcl; subst hdl
  have hol' := Heap.get?_push_of_some { cls := .type "set", dict := none, data := .set #[] 0 (.fresh 0 0 (!w.params.followText "set-order")) } hol
  have hsls := F.sub_list_set
  have hslf := F.sub_list_frozenset
  have hne : (Value.type "list" == Value.type "dict") = false := by decide
  have hl1 : (newSetH w s.heap).IsList l items := ⟨_, hol', rfl, nl, rfl⟩
  unfold Builtin.«set.__init__» noKeywords Builtin.Frozenset.updateFrom
  generalize hPI : pyIter = PI
  wp_walk
  subst hPI
  refine wpAny_pyIter_list hl1 ?_
  refine wpAny_bind (wpAny_runValue ?_)
  have hlS : l < s.heap.objs.size := Heap.lt_size hol
  have hh3 : B.in1.handled = none := by simp [hh]
  have hz1 : (newSetH w s.heap).objs.size = s.heap.objs.size + 1 := Heap.size_push ..
  have hneI : l ≠ (newSetH w s.heap).objs.size := by rw [hz1]; exact Nat.ne_of_lt (Nat.lt_succ_of_lt hlS)
  have hSf : s.heap.objs.size ∉ [(newSetH w s.heap).objs.size, l] := by
    rw [hz1]
    simp only [List.mem_cons, List.not_mem_nil, or_false, not_or]
    exact ⟨Nat.ne_of_lt (Nat.lt_succ_self _), Nat.ne_of_gt hlS⟩
  have hval : ∀ (i : Nat) (v : Value), items[i]? = some v → ∃ k t, ns[i]? = some k ∧ v = .int k t := fun i v hv => by
    have hi : i < ns.length := by rw [← hisz]; exact (Array.getElem?_eq_some_iff.mp hv).1
    obtain ⟨t, e⟩ := PyProof.Rows.IntsAre.int_at hit i v (by rw [Array.getElem?_toList]; exact hv)
    exact ⟨ns[i], t, List.getElem?_eq_getElem hi, by rw [e, List.getD_eq_getElem?_getD, List.getElem?_eq_getElem hi]; rfl⟩
  refine set_update_ints ((Walks.list hh3 _ l hneI items).toS) s.heap.objs.size hSf ns hisz hb hval (items.size - 0) 0 _ rfl (Nat.zero_le _) ?hst ?hS0 ?hR
  case hst => exact ⟨⟨_, Heap.get?_push_size _ rfl, rfl, rfl⟩, (hl1.push _)⟩
  case hS0 => exact ⟨0, Nat.le_refl 0, setR_new_at (Heap.get?_push_of_some _ hS)⟩
  case hR =>
  intro s' c hm hc hR
  obtain ⟨h', g2, d', tk', os'⟩ := s'
  have eg : g2 = s.gens := hm.gens
  have ed : d' = s.drawn := hm.drawn
  have eo : os' = s.os := hm.os
  subst eg; subst ed; subst eo
  show wpAny _ _ _ _ _ _
  refine wpAny_pure ?_
  show wpAny _ _ (ret Value.none) _ _ _
  rw [hisz] at hc
  refine wpAny_pure (h h' tk' c hR hc fun b o e => ?_)
  have hb0 : b < s.heap.objs.size := Heap.lt_size e
  have hb1 : b ≠ s.heap.objs.size := Nat.ne_of_lt hb0
  have hb2 : b ≠ (newSetH w s.heap).objs.size := by rw [hz1]; exact Nat.ne_of_lt (Nat.lt_succ_of_lt hb0)
  exact hm.heap b o (by simp only [List.mem_cons, List.not_mem_nil, or_false, not_or]; exact ⟨hb1, hb2⟩) (Heap.get?_push_of_some _ (Heap.get?_push_of_some _ e))
/-- set(xs), xs a list of ints -/
theorem call_set_ints {l : Addr} {items : Array Value} (ns : List Int) {Q : Value → Shared → Prop} (hh : A.handled = none) (hl : s.heap.IsList l items) (hit : IntsAre items.toList ns) (hb : ns.length + 1 < scanBound)
    (h : ∀ (h' : Heap) (tk c : Nat), SetR w h' s.heap.objs.size (fun j => decide (j ∈ ns)) c → c ≤ ns.length → (∀ b o, s.heap.get? b = some o → h'.get? b = some o) → Q (.ref s.heap.objs.size) { s with heap := h', toks := tk }) :
    wpAny (model P w) A (call (.type "set") [.ref l]) Q E s := by
  obtain ⟨c, tl, hmro⟩ := F.called_set.mro
  have hmade := F.called_set.made
  have hsub := F.called_set.sub
  refine wpAny_call (codeAny_of_tree ?_)
  show wpAny _ _ (callAny (.type "set") _) _ _ _
  refine wpAny_pure ⟨Code.quiet_builtin _ (by decide +kernel), codeAny_builtin F.entry_type_call ?_⟩
  rw [Around.under_plain (weight_type_call_type "set" [.ref l] []) rfl]
  have h1 := F.called_set.notType
  have h2 := F.called_set.canCreate
  have hct := F.typeCall_set_1 (.ref l)
  repeat (any_goals (first | assumption | wp_step))
  refine codeAny_mono (code_set_led1 (.ref l) (E := E) (Q₁ := fun obj s₁ => obj = .ref s.heap.objs.size ∧ s₁ = { s with heap := newSetH w s.heap }) ⟨rfl, rfl⟩) fun r s₁ hr => ?_
  cases r with
  | error e => exact hr
  | ok fl =>
    cases fl with
    | ret obj =>
      obtain ⟨rfl, rfl⟩ := hr
      have hT : Shared.TypeIs { s with heap := newSetH w s.heap } (.ref s.heap.objs.size) "set" := ⟨_, Heap.get?_push_size _ rfl, rfl⟩
      have hli := F.called_set.init.lookup
      have hbi := F.called_set.init.bind (.ref s.heap.objs.size)
      repeat (any_goals (first | assumption | wp_step))
      refine codeAny_mono (codeAny_call_builtin (R := wants (fun r s₂ => r = .none ∧ Q (.ref s.heap.objs.size) s₂) E) F.called_set.init.plain F.entry_set_init (check_set_init_1 hT (set_fill (s := s) ns (by simp [hh]) hl hit hb fun h' tk c a b k => ⟨rfl, h h' tk c a b k⟩))) fun r₂ s₂ hr₂ => ?_
      cases r₂ with
      | error e => exact hr₂
      | ok fl₂ =>
        cases fl₂ with
        | ret r =>
          obtain ⟨rfl, hr₂⟩ := hr₂
          repeat (any_goals (first | assumption | wp_step))
        | _ => exact hr₂.elim
    | _ => exact hr.elim
end
section
variable {X : Cx}
/-- set(xs), a list or tuple of ints -/
def rSetI (K : PySem.W.Frag) (w : World) : List V → Hp → VK → Prop := fun xs H Q => ∃ (a : Addr) (ns : List Int), xs = [.ref a] ∧ (SqL K H a (ns.map V.int) ∨ SqT K H a (ns.map V.int)) ∧ ns.length ≤ 60 ∧ ∀ p c, H p = none → c ≤ ns.length → Q (.ref p) (upd H p (SetO w p (fun j => decide (j ∈ ns)) c))
theorem cr_setI (hc : X.calm = true) : CallR X (.type "set") (rSetI X.K X.w) := by
  intro pins s σ H xs us Q I r ⟨a, ns, ex, hs, hl, q⟩
  subst ex
  obtain ⟨u, rfl, rx⟩ := vals1 r
  cases rx
  have hb : ns.length + 1 < scanBound := by unfold scanBound; omega
  have fin : ∀ (h' : Heap) (tk c : Nat), SetR X.w h' s.heap.objs.size (fun j => decide (j ∈ ns)) c → c ≤ ns.length → (∀ b o, s.heap.get? b = some o → h'.get? b = some o) → EP X pins σ Q (.ref s.heap.objs.size) { s with heap := h', toks := tk } := fun h' tk c R hcl k =>
    ⟨.ref s.heap.objs.size, _, I.laid (t' := tk) k (Nat.le_refl _) (setO_new R), rfl, q _ c (I.hok.fresh (Nat.le_refl _)) hcl⟩
  rcases hs with hs | hs
  · obtain ⟨its, rv, pl, hz⟩ := I.list hs
    exact call_set_ints ns (I.ok.hd hc) pl.isList (by simpa using RZ.intsAre_vals rv) hb fin
  · obtain ⟨its, rv, pt, hz⟩ := I.tuple hs
    exact call_set_tupI ns (I.ok.hd hc) (show s.heap.IsTuple a its.toArray from pt) (by simpa using RZ.intsAre_vals rv) hb fin
theorem eraseDups_nodup : ∀ (l : List Int), l.eraseDups.Nodup
  | [] => by simp
  | a :: l => by
    rw [List.eraseDups_cons]
    refine List.nodup_cons.mpr ⟨?_, eraseDups_nodup _⟩
    rw [List.mem_eraseDups]
    simp
termination_by l => l.length
decreasing_by simp only [List.length_cons]; exact Nat.lt_succ_of_le (List.length_filter_le _ _)
theorem setI_perm (ns : List Int) : (setI ns).Perm ns.eraseDups := List.mergeSort_perm _ _
theorem setI_mem {ns : List Int} {k : Int} : k ∈ setI ns ↔ k ∈ ns := by rw [(setI_perm ns).mem_iff, List.mem_eraseDups]
theorem setI_nodup (ns : List Int) : (setI ns).Nodup := (setI_perm ns).nodup_iff.mpr (eraseDups_nodup ns)
theorem setI_sorted (ns : List Int) : (setI ns).Pairwise (· < ·) := by
  have h1 : (setI ns).Pairwise (fun a b => decide (a ≤ b) = true) := List.pairwise_mergeSort (le := fun a b => decide (a ≤ b)) (fun a b c h1 h2 => by simp only [decide_eq_true_eq] at *; omega) (fun a b => by simp only [Bool.or_eq_true, decide_eq_true_eq]; omega) _
  have h2 : (setI ns).Pairwise (· ≠ ·) := setI_nodup ns
  exact h1.imp₂ (fun a b h z => by simp only [decide_eq_true_eq] at h; omega) h2
/-- ascending lists of the same members are the same -/
theorem asc_unique : ∀ {l m : List Int}, l.Pairwise (· < ·) → m.Pairwise (· < ·) → (∀ k, k ∈ l ↔ k ∈ m) → l = m
  | [], [], _, _, _ => rfl
  | [], b :: m, _, _, h => by have := (h b).mpr (by simp); simp at this
  | a :: l, [], _, _, h => by have := (h a).mp (by simp); simp at this
  | a :: l, b :: m, h1, h2, h => by
    obtain ⟨h1, h1'⟩ := List.pairwise_cons.mp h1
    obtain ⟨h2, h2'⟩ := List.pairwise_cons.mp h2
    have e : a = b := by
      rcases List.mem_cons.mp ((h a).mp (by simp)) with e | e
      · exact e
      · rcases List.mem_cons.mp ((h b).mpr (by simp)) with e' | e'
        · exact e'.symm
        · have := h1 b e'; have := h2 a e; omega
    subst e
    rw [asc_unique h1' h2' fun k => ?_]
    have hk := h k
    simp only [List.mem_cons] at hk
    constructor
    · intro hl
      rcases hk.mp (.inr hl) with e | e
      · subst e; have := h1 _ hl; omega
      · exact e
    · intro hl
      rcases hk.mpr (.inr hl) with e | e
      · subst e; have := h2 _ hl; omega
      · exact e
theorem bt_set : bootBuiltins "set" = some (.type "set") := by decide +kernel
variable {W : WN} {a : Expr} {pos p p2 q : Pos} {f : Env → Res D}
/-- the ints of what is walked -/
theorem items_ints {dx : D} {xs : List D} {ns : List Int} {K : PySem.W.Frag} {F H : Hp} {v : V} (s : Same F H) (px : Pk K F H v dx) (hi : items dx = some xs) (hn : mapR asInt xs = .ok ns) : ∃ l, v = .ref l ∧ (SqL K H l (ns.map V.int) ∨ SqT K H l (ns.map V.int)) := by
  have e := ints_ok hn
  rcases items_list hi with rfl | rfl
  · obtain ⟨l, vs, rfl, h1, h2⟩ := px.lst s
    rw [e] at h2
    rw [DqAll.ints h2] at h1
    exact ⟨l, rfl, .inl (.inl h1)⟩
  · obtain ⟨l, vs, rfl, h1, h2⟩ := px.tup s
    rw [e] at h2
    rw [DqAll.ints h2] at h1
    exact ⟨l, rfl, .inr h1⟩
theorem setsorted_ok {dx d : D} (h : b1D .setsorted dx = .ok d) : ∃ xs ns, items dx = some xs ∧ mapR asInt xs = .ok ns ∧ ns.length ≤ 60 ∧ d = .list ((setI ns).map .int) := by
  have h' : (match items dx with | none => Res.bad | some xs => (do let ns ← mapR asInt xs; if decide (ns.length ≤ 60) = true then .ok (.list ((setI ns).map .int)) else .bad : Res D)) = .ok d := by
    cases dx <;> exact h
  cases hi : items dx with
  | none => rw [hi] at h'; cases h'
  | some xs =>
    rw [hi] at h'
    obtain ⟨ns, e1, e2⟩ := bind_ok h'
    obtain ⟨z, e2⟩ := ite_okb e2
    exact ⟨xs, ns, rfl, e1, of_decide_eq_true z, e2.symm⟩
theorem setlen_ok {dx d : D} (h : b1D .setlen dx = .ok d) : ∃ xs ns, items dx = some xs ∧ mapR asInt xs = .ok ns ∧ ns.length ≤ 60 ∧ d = .int (setI ns).length := by
  have h' : (match items dx with | none => Res.bad | some xs => (do let ns ← mapR asInt xs; if decide (ns.length ≤ 60) = true then .ok (.int (setI ns).length) else .bad : Res D)) = .ok d := by
    cases dx <;> exact h
  cases hi : items dx with
  | none => rw [hi] at h'; cases h'
  | some xs =>
    rw [hi] at h'
    obtain ⟨ns, e1, e2⟩ := bind_ok h'
    obtain ⟨z, e2⟩ := ite_okb e2
    exact ⟨xs, ns, rfl, e1, of_decide_eq_true z, e2.symm⟩
theorem c_sset (ok : XOk X) (hg : Gl X "sorted") (hm : X.mg "sorted" = none) (hg2 : Gl X "set") (hm2 : X.mg "set" = none) (ha : PE X a (tP X.K W f)) (hs : starEach [a] X.env = (false, eval a X.env) :: starEach [] X.env) :
    PE X (.Call (.Name "sorted" p) [.Call (.Name "set" p2) [a] [] q] [] pos) (tE X.K W fun σ => do let x ← f σ; b1D .setsorted x) := by
  have k1 := pe_callTy (p := p2) (pos := q) (cr_setI ok.calm) hg2 hm2 bt_set (pa_cons ha pa_nil hs) (by decide) (by decide) hs rfl
  have k2 := pe_callB (p := p) (pos := pos) (cr_sortedSet ok.calm) hg hm bt_sorted (pa_cons k1 pa_nil rfl) (by decide) (by decide) rfl rfl
  refine PE.weak k2 fun σ H Q ⟨F, env, R, h⟩ => goP mnE R h fun dx v F1 H1 _ x1 R1 p1 h1 => ?_
  obtain ⟨d, e, qq⟩ := h1.noex (nx_b1D _ _)
  obtain ⟨xs, ns, hi, hn, hl, rfl⟩ := setsorted_ok e
  obtain ⟨l, rfl, sq⟩ := items_ints x1.sub p1 hi hn
  refine ⟨l, ns, rfl, sq, hl, fun P c hP hcl => ⟨P, _, c, rfl, upd_same, by omega, fun ms Pq pw mem len hq => ?_⟩⟩
  have em : ms = setI ns := asc_unique pw (setI_sorted ns) fun k => by rw [mem k, setI_mem]; simp
  subst em
  have y1 := Ext.own (o := SetO X.w P (fun j => decide (j ∈ ns)) c) x1.sub hP
  have y2 := Ext.laid (o := .lst ((setI ns).map V.int)) y1.sub hq
  exact qq _ _ _ (y1.trans y2) (.lst (.inl upd_same) (dq_intsF _))
where dq_intsF {K : PySem.W.Frag} {F : Hp} : ∀ ns : List Int, DqAll K F (ns.map V.int) (ns.map .int)
  | [] => .nil
  | n :: ns => .cons (.int n) (dq_intsF ns)
/-- len(set) -/
def rLenSet (w : World) : List V → Hp → VK → Prop := fun vs H Q => ∃ (b : Addr) (ns : List Int) (c : Nat), vs = [V.ref b] ∧ H b = some (SetO w b (fun j => decide (j ∈ ns)) c) ∧ c ≤ 60 ∧ Q (.int (setI ns).length) H
theorem cr_lenSet : CallR X (.builtin "len") (rLenSet X.w) := by
  intro pins s σ H vs us Q I r ⟨b, ns, c, ev, hb, hc, qq⟩
  subst ev
  obtain ⟨u, rfl, rx⟩ := vals1 r
  cases rx
  obtain ⟨o, es, ep, t, ho, hex, hd, g, nd, hm, hbd, hf, hn, hr, hl⟩ := setO_get I hb
  have en : es.size = (setI ns).length := by
    have h1 : (es.toList.map L2.keyOf).Perm (setI ns) := by
      refine (List.perm_ext_iff_of_nodup nd (setI_nodup ns)).mpr fun k => ?_
      rw [← hm k, setI_mem]
      simp
    have := h1.length_eq
    rw [List.length_map, Array.length_toList] at this
    exact this
  exact call_len_set ho hex hd hf (by omega) ⟨.int (setI ns).length, H, I.tok _, ⟨_, by rw [en]⟩, qq⟩
theorem c_lset (ok : XOk X) (hg : Gl X "len") (hm : X.mg "len" = none) (hg2 : Gl X "set") (hm2 : X.mg "set" = none) (ha : PE X a (tP X.K W f)) (hs : starEach [a] X.env = (false, eval a X.env) :: starEach [] X.env) :
    PE X (.Call (.Name "len" p) [.Call (.Name "set" p2) [a] [] q] [] pos) (tE X.K W fun σ => do let x ← f σ; b1D .setlen x) := by
  have k1 := pe_callTy (p := p2) (pos := q) (cr_setI ok.calm) hg2 hm2 bt_set (pa_cons ha pa_nil hs) (by decide) (by decide) hs rfl
  have k2 := pe_callB (p := p) (pos := pos) cr_lenSet hg hm bt_len (pa_cons k1 pa_nil rfl) (by decide) (by decide) rfl rfl
  refine PE.weak k2 fun σ H Q ⟨F, env, R, h⟩ => goP mnE R h fun dx v F1 H1 _ x1 R1 p1 h1 => ?_
  obtain ⟨d, e, qq⟩ := h1.noex (nx_b1D _ _)
  obtain ⟨xs, ns, hi, hn, hl, rfl⟩ := setlen_ok e
  obtain ⟨l, rfl, sq⟩ := items_ints x1.sub p1 hi hn
  refine ⟨l, ns, rfl, sq, hl, fun P c hP hcl => ⟨P, ns, c, rfl, upd_same, by omega, ?_⟩⟩
  have y1 := Ext.own (o := SetO X.w P (fun j => decide (j ∈ ns)) c) x1.sub hP
  exact qq _ _ _ y1 (.int _)
end
end BW

namespace BW
open PySem PySem.W L2 PySem.Spec PyProof.Rows
/-- what is known of the exceptions' classes -/
def ClsOk (K : PySem.W.Frag) (C : Str → Value) (sub : Str → Str → Option Bool) : Prop := ∀ c x b, sub c x = some b → PySem.W.exmOne K (C c) (C x) = some b ∧ PySem.W.kitOne K (C c) (C x) = some b ∧ ∃ Dx, C c = .ref Dx ∧ ExcC K Dx
/-- a constant, as a value -/
def scalV : D → Option V
  | .none => some .non
  | .bool b => some (.bl b)
  | .int i => some (.int i)
  | .str x => some (.str x)
  | _ => none
theorem scalV_q {K : PySem.W.Frag} {F : Hp} {d : D} {v : V} (h : scalV d = some v) : Dq K F v d := by
  cases d <;> cases h
  · exact .non
  · exact .bl _
  · exact .int _
  · exact .str _
def scalE (d : D) (j : Nat) (p : Pos) : Expr := match d with
  | .bool b => .Constant (.bool b) j p
  | .int i => .Constant (.int i) j p
  | .str x => .Constant (.str x) j p
  | _ => .Constant .none j p
theorem pe_scal {X : Cx} {d : D} {v : V} {j : Nat} {p : Pos} (h : scalV d = some v) : PE X (scalE d j p) (tC v) := by
  cases d <;> cases h
  · exact pe_non
  · exact pe_bl
  · exact pe_int
  · exact pe_str
section
variable {X : Cx} {C : Str → Value} {w : WX} {sub : Str → Str → Option Bool} {F0 H0 : Hp} {e : Expr} {pos pos' np : Pos} {body : List Stmt} {fb : Env → SR}
theorem s_raise {c : Str} (ok : XOk X) (tk : Takes X w) (he : PMk X e (fun _ H Q => Q (C c) none H)) : PS X (.Raise (some e) none pos) (tS X.K (WofX C w) F0 H0 fun _ => .ex c) :=
  PS.weak (ps_raise ok.calm tk he) fun D σ H ⟨F, env, R, h⟩ => h σ H F (Same.refl _) R.x
/-- an except clause: a constant is answered -/
def tsK (v : V) : Addr → Value → Option Addr → TS := fun _ _ _ D _ H => D.rt v H
inductive HdsR (X : Cx) (C : Str → Value) : List ExceptHandler → List (Str × HR) → List (Value × (Addr → Value → Option Addr → TS)) → Prop
  | nil : HdsR X C [] [] []
  | cons {x : Str} {d : D} {v : V} {j : Nat} {p np rp pos' : Pos} {hds : List ExceptHandler} {rs : List (Str × HR)} {l : List (Value × (Addr → Value → Option Addr → TS))} : Names X x (C x) → scalV d = some v → HdsR X C hds rs l →
      HdsR X C (.ExceptHandler (some (.Name x np)) none [.Return (some (scalE d j p)) rp] pos' :: hds) ((x, .k d) :: rs) ((C x, tsK v) :: l)
theorem HdsR.ok {hds : List ExceptHandler} {rs : List (Str × HR)} {l : List (Value × (Addr → Value → Option Addr → TS))} (h : HdsR X C hds rs l) : HdsOk X hds l := by
  induction h with
  | nil => exact .nil
  | cons hn hv _ ih =>
    refine .cons hn (fun a oe cls d pn hz hf => ?_) ih
    exact PSs.weak (pss_one (ps_ret (pe_scal hv))) fun D σ H h => h
theorem wish_many (ck : ClsOk X.K C sub) {F : Hp} {D : Ends} {c : Str} {hds : List ExceptHandler} {rs : List (Str × HR)} {l : List (Value × (Addr → Value → Option Addr → TS))} (h : HdsR X C hds rs l) (hh : sR X.K (WofX C w) F0 H0 F D (handleR sub rs c)) :
    sR X.K (WofX C (wMany X.K w D l)) F0 H0 F D (.ex c) := by
  induction h with
  | nil => exact hh
  | @cons x d v j p np rp pos' hds rs l hn hv _ ih =>
    unfold handleR at hh
    cases q : sub c x with
    | none => rw [q] at hh; exact hh.elim
    | some b =>
      obtain ⟨e1, _, _⟩ := ck c x b q
      rw [q] at hh
      cases b with
      | true =>
        dsimp only at hh
        exact fun σ' H' F' s x => ⟨true, e1, fun _ a _ => hh v H' F' s x (scalV_q hv), fun z => nomatch z⟩
      | false =>
        dsimp only at hh
        exact fun σ' H' F' s x => ⟨false, e1, (fun z => nomatch z), fun _ => ih hh σ' H' F' s x⟩
theorem s_try {h₀ : ExceptHandler} {hds : List ExceptHandler} {rs : List (Str × HR)} {l : List (Value × (Addr → Value → Option Addr → TS))} (ck : ClsOk X.K C sub) (hs : X.stack = X.env :: X.outer) (hf : X.env.frame = some X.env.locals) (tk : Takes X w)
    (hb : ∀ (W : WX) (pn : List (Addr × Obj)) (xe : Value → Shared → Prop), Takes (X.tr pn xe) W → PassesOwn (model X.prog X.w) X.A X.env xe → PSs (X.tr pn xe) body (tS X.K (WofX C W) F0 H0 fb))
    (hh : HdsR X C (h₀ :: hds) rs l) : PS X (.Try body (h₀ :: hds) [] [] pos) (tS X.K (WofX C w) F0 H0 fun σ => tryR sub rs (fb σ)) :=
  PS.weak (ps_try_many hs hf tk hb hh.ok) fun D σ H ⟨F, env, R, h⟩ => ⟨F, env, R, by
    dsimp only at h
    cases q : fb env with
    | nx e => rw [q] at h; exact h
    | rt e => rw [q] at h; exact h
    | bk e => rw [q] at h; exact h
    | ct e => rw [q] at h; exact h
    | bad => rw [q] at h; exact h
    | ex c => rw [q] at h; exact wish_many ck hh h⟩
/-! ### except X as e: by isinstance(e, Y) -/
/-- isinstance(e, Y), e the error of the suite at slot i -/
def tIsE (K : PySem.W.Frag) (i : Nat) (cv : Value) (a : Addr) (cls : Value) (d : Option Addr) : TE := fun σ H Q => ∃ Dx b, cls = .ref Dx ∧ d = none ∧ ExcC K Dx ∧ (∃ σ0 : L2.St, σ = σ0.set i (some (.ref a))) ∧ PySem.W.kitOne K (.ref Dx) cv = some b ∧ Q (.bl b) H
theorem pe_isE {x n : Str} {i : Nat} {a : Addr} {oe : Obj} {cls : Value} {d : Option Addr} {pn : List (Addr × Obj)} {c' : Addr} {p p1 p2 pos : Pos} (hz : Zc cls d oe) (hf : ∃ vs, oe.data = .fields vs) (hN : X.N[i]? = some n) (hv : Vis X.env.scope n) (hd : (n == ("__debug__" : Str)) = false) (hcd : (n == ("__classdict__" : Str)) = false)
    (hg : Gl X "isinstance") (hm : X.mg "isinstance" = none) (gx : Gl X x) (mx : X.mg x = some (.ref c')) (hdx : (x == ("__debug__" : Str)) = false) : PE (X.suite a ((a, oe) :: pn)) (.Call (.Name "isinstance" p) [.Name n p1, .Name x p2] [] pos) (tIsE X.K i (.ref c') a cls d) := by
  refine ⟨fun pins s σ H Q I ⟨Dx, b, e1, e2, ec, es, ek, q⟩ => ?_⟩
  subst e1 e2
  have es : σ[i]? = some (some (.ref a)) := by
    obtain ⟨σ0, rfl⟩ := es
    have hi : i < X.N.length := (List.getElem?_eq_some_iff.mp hN).1
    have hl := I.len
    rw [List.length_set] at hl
    exact List.getElem?_set_self (by rw [hl]; exact hi)
  have ha : PA (X.suite a ((a, oe) :: pn)) [.Name n p1, .Name x p2] (tCons (tVar i) (tCons (tC (.ref c')) tNil)) := pa_cons (pe_var (X := X.suite a ((a, oe) :: pn)) hN hv hd hcd) (pa_cons (pe_glob (X := X.suite a ((a, oe) :: pn)) (v := .ref c') gx mx rfl hdx) pa_nil rfl) rfl
  exact (pe_callB (X := X.suite a ((a, oe) :: pn)) (call_isE ec hz hf) hg hm bt_isi ha (by decide) (by decide) rfl rfl).run pins s σ H Q I ⟨_, es, .ref c', .ref c', b, rfl, (fun u r => r), ek, q⟩
/-- return isinstance(e, Y) -/
def tsIs (K : PySem.W.Frag) (i : Nat) (cv : Value) (v1 v2 : V) : Addr → Value → Option Addr → TS := fun a cls d D σ H => tIsE K i cv a cls d σ H fun v H' => (v = .bl true ∧ D.rt v1 H') ∨ (v = .bl false ∧ D.rt v2 H')
theorem su_is {x n : Str} {i : Nat} {a : Addr} {oe : Obj} {cls : Value} {d : Option Addr} {pn : List (Addr × Obj)} {c' : Addr} {p p1 p2 pos rp : Pos} (hz : Zc cls d oe) (hf : ∃ vs, oe.data = .fields vs) (hN : X.N[i]? = some n) (hv : Vis X.env.scope n) (hd : (n == ("__debug__" : Str)) = false) (hcd : (n == ("__classdict__" : Str)) = false)
    (hg : Gl X "isinstance") (hm : X.mg "isinstance" = none) (gx : Gl X x) (mx : X.mg x = some (.ref c')) (hdx : (x == ("__debug__" : Str)) = false) : PSs (X.suite a ((a, oe) :: pn)) [.Return (some (.Call (.Name "isinstance" p) [.Name n p1, .Name x p2] [] pos)) rp] (tsIs X.K i (.ref c') (.bl true) (.bl false) a cls d) :=
  PSs.weak (pss_one (ps_ret (pe_isE hz hf hN hv hd hcd hg hm gx mx hdx))) fun D σ H ⟨Dx, b, e1, e2, ec, es, ek, q⟩ => ⟨Dx, b, e1, e2, ec, es, ek, by
    rcases q with ⟨e, q⟩ | ⟨e, q⟩
    · rw [e]; exact q
    · rw [e]; exact q⟩
theorem su_isIf {x n : Str} {i : Nat} {a : Addr} {oe : Obj} {cls : Value} {d : Option Addr} {pn : List (Addr × Obj)} {c' : Addr} {d1 d2 : D} {v1 v2 : V} {j1 j2 : Nat} {p p1 p2 pos rp q1 q2 q3 : Pos} (h1 : scalV d1 = some v1) (h2 : scalV d2 = some v2) (hz : Zc cls d oe) (hf : ∃ vs, oe.data = .fields vs) (hN : X.N[i]? = some n) (hv : Vis X.env.scope n) (hd : (n == ("__debug__" : Str)) = false) (hcd : (n == ("__classdict__" : Str)) = false)
    (hg : Gl X "isinstance") (hm : X.mg "isinstance" = none) (gx : Gl X x) (mx : X.mg x = some (.ref c')) (hdx : (x == ("__debug__" : Str)) = false) : PSs (X.suite a ((a, oe) :: pn)) [.Return (some (.IfExp (.Call (.Name "isinstance" p) [.Name n p1, .Name x p2] [] pos) (scalE d1 j1 q1) (scalE d2 j2 q2) q3)) rp] (tsIs X.K i (.ref c') v1 v2 a cls d) :=
  PSs.weak (pss_one (ps_ret (pe_ifExp (pt_val (pe_isE hz hf hN hv hd hcd hg hm gx mx hdx)) (pe_scal h1) (pe_scal h2)))) fun D σ H ⟨Dx, b, e1, e2, ec, es, ek, q⟩ => by
    refine ⟨Dx, b, e1, e2, ec, es, ek, b, rfl, ?_⟩
    rcases q with ⟨e, q⟩ | ⟨e, q⟩
    · cases e; exact q
    · cases e; exact q
theorem s_tryAs {x n y : Str} {i : Nat} {c' : Addr} {v1 v2 : V} {d1 d2 : D} {st : Stmt} (ck : ClsOk X.K C sub) (h1 : scalV d1 = some v1) (h2 : scalV d2 = some v2) (hs : X.stack = X.env :: X.outer) (hf : X.env.frame = some X.env.locals) (tk : Takes X w) (hN : X.N.Nodup) (hi : X.N[i]? = some n) (hln : X.env.kindOf n = some .local) (hc : Names X x (C x)) (hy : C y = .ref c')
    (hb : ∀ (W : WX) (pn : List (Addr × Obj)) (xe : Value → Shared → Prop), Takes (X.tr pn xe) W → PassesOwn (model X.prog X.w) X.A X.env xe → PSs (X.tr pn xe) body (tS X.K (WofX C W) F0 H0 fb))
    (hsu : ∀ (a : Addr) (oe : Obj) (cls : Value) (d : Option Addr) (pn : List (Addr × Obj)), Zc cls d oe → (∃ vs, oe.data = .fields vs) → PSs (X.suite a ((a, oe) :: pn)) [st] (tsIs X.K i (.ref c') v1 v2 a cls d)) :
    PS X (.Try body [.ExceptHandler (some (.Name x np)) (some n) [st] pos'] [] [] pos) (tS X.K (WofX C w) F0 H0 fun σ => tryR sub [(x, .is y d1 d2)] (fb σ)) :=
  PS.weak (ps_try_as hs hf hN hi hln hc tk hb hsu) fun D σ H ⟨F, env, R, h⟩ => ⟨F, env, R, by
    dsimp only at h
    cases q : fb env with
    | nx e => rw [q] at h; exact h
    | rt e => rw [q] at h; exact h
    | bk e => rw [q] at h; exact h
    | ct e => rw [q] at h; exact h
    | bad => rw [q] at h; exact h
    | ex c =>
      rw [q] at h
      intro σ' H' F' s x'
      have h : sR X.K (WofX C w) F0 H0 F D (handleR sub [(x, .is y d1 d2)] c) := h
      unfold handleR at h
      cases q1 : sub c x with
      | none => rw [q1] at h; exact h.elim
      | some b =>
        obtain ⟨e1, _, _⟩ := ck c x b q1
        rw [q1] at h
        cases b with
        | false => exact ⟨false, e1, (fun z => nomatch z), fun _ => h σ' H' F' s x'⟩
        | true =>
          refine ⟨true, e1, fun _ a na => ?_, fun z => nomatch z⟩
          dsimp only at h
          cases q2 : sub c y with
          | none => rw [q2] at h; exact h.elim
          | some b2 =>
            obtain ⟨_, e2, Dx, e3, e4⟩ := ck c y b2 q2
            rw [q2] at h
            dsimp only at h
            rw [e3, hy] at e2
            refine ⟨Dx, b2, e3, rfl, e4, ?_, e2, ?_⟩
            · exact ⟨σ', rfl⟩
            · cases b2 with
              | true => exact .inl ⟨rfl, h v1 H' F' s x' (scalV_q h1)⟩
              | false => exact .inr ⟨rfl, h v2 H' F' s x' (scalV_q h2)⟩⟩
end
end BW

namespace BW
open PySem PySem.W L2 PySem.Spec PyProof.Rows
/-! ### clauses with a name and clauses without, mixed -/
abbrev Cl := Value × (Addr → Value → Option Addr → TS)
/-- the ends of a suite whose name is emptied behind it -/
def tidyE (i : Nat) (D : Ends) : Ends := { nx := fun τ G => D.nx (τ.set i none) G, rt := D.rt, bk := fun τ G => D.bk (τ.set i none) G, ct := fun τ G => D.ct (τ.set i none) G }
/-- what is wished of an exception, clause by clause; i: the slot of a clause's name, emptied when its suite is left -/
def wMix (K : PySem.W.Frag) (W0 : WX) (D : Ends) : List (Option Nat × Cl) → WX
  | [] => W0
  | (o, cl, su) :: r => fun cls dx σ H => ∃ b, PySem.W.exmOne K cls cl = some b ∧ (b = false → wMix K W0 D r cls dx σ H) ∧
      (b = true → ∀ a, H a = none → match o with
        | none => su a cls dx D σ H
        | some i => su a cls dx (tidyE i D) (σ.set i (some (.ref a))) H)
inductive MixOk (X : Cx) : List ExceptHandler → List (Option Nat × Cl) → Prop
  | nil : MixOk X [] []
  | bare {x : Str} {cl : Value} {su : Addr → Value → Option Addr → TS} {st : Stmt} {sts : List Stmt} {p1 p2 : Pos} {hs : List ExceptHandler} {l : List (Option Nat × Cl)} : Names X x cl →
      (∀ (a : Addr) (ob : Obj) (cls : Value) (dx : Option Addr) (pn : List (Addr × Obj)), Zc cls dx ob → (∃ vs, ob.data = .fields vs) → PSs (X.suite a ((a, ob) :: pn)) (st :: sts) (su a cls dx)) → MixOk X hs l →
      MixOk X (.ExceptHandler (some (.Name x p1)) none (st :: sts) p2 :: hs) ((none, cl, su) :: l)
  | named {x y : Str} {i : Nat} {cl : Value} {su : Addr → Value → Option Addr → TS} {st : Stmt} {sts : List Stmt} {p1 p2 : Pos} {hs : List ExceptHandler} {l : List (Option Nat × Cl)} : Names X x cl → X.N[i]? = some y → X.env.kindOf y = some .local →
      (∀ (a : Addr) (ob : Obj) (cls : Value) (dx : Option Addr) (pn : List (Addr × Obj)), Zc cls dx ob → (∃ vs, ob.data = .fields vs) → PSs (X.suite a ((a, ob) :: pn)) (st :: sts) (su a cls dx)) → MixOk X hs l →
      MixOk X (.ExceptHandler (some (.Name x p1)) (some y) (st :: sts) p2 :: hs) ((some i, cl, su) :: l)
section
variable {X : Cx} {body : List Stmt} {hd : ExceptHandler} {hds : List ExceptHandler} {l : List (Option Nat × Cl)} {pos : Pos} {tb : WX → TS} {W0 : WX}
theorem ps_try_mix (nd : X.N.Nodup) (hst : X.stack = X.env :: X.outer) (hfm : X.env.frame = some X.env.locals) (tk : Takes X W0)
    (hb : ∀ (W : WX) (pn : List (Addr × Obj)) (xe : Value → Shared → Prop), Takes (X.tr pn xe) W → PassesOwn (model X.prog X.w) X.A X.env xe → PSs (X.tr pn xe) body (tb W))
    (hh : MixOk X (hd :: hds) l) : PS X (.Try body (hd :: hds) [] [] pos) (fun D σ H => tb (wMix X.K W0 D l) D σ H) := by
  constructor
  intro pins st0 σ0 Hs D inv hyp
  have okx := inv.ok
  have fr1 : X.A.frames = some (X.env :: X.outer) := by rw [okx.frames, hst]
  apply wpAny_Try_except
  apply wpAny_mono ((hb (wMix X.K W0 D l) (X.pn ++ pins)
    (fun er q1 => wpAny (model X.prog X.w) X.A (noteFrame er X.env)
      (fun _ q2 => wpAny (model X.prog X.w) X.A (setFlight er none)
        (fun _ q3 => wpAny (model X.prog X.w) X.A (handleBy er X.env (hd :: hds)) (SP X pins D) X.xe q3) X.xe q2) X.xe q1)
    (fun u sC caught => ?_) PassesOwn.looking).run [] st0 σ0 Hs D (inv.toTry _) hyp)
  · intro fl sE res
    cases fl with
    | next => obtain ⟨τ, G, jj, qq⟩ := res; exact wpAny_execs_nil ⟨τ, G, jj.ofTry okx, qq⟩
    | brk => obtain ⟨τ, G, jj, qq⟩ := res; exact ⟨τ, G, jj.ofTry okx, qq⟩
    | cont => obtain ⟨τ, G, jj, qq⟩ := res; exact ⟨τ, G, jj.ofTry okx, qq⟩
    | ret u => obtain ⟨vv, τ, G, jj, rr, qq⟩ := res; exact ⟨vv, τ, G, jj.ofTry okx, rr, qq⟩
  · exact fun _ _ z => z
  · obtain ⟨ad, B, sI, pinsI, τ, G, cls, dx, rfl, jTry, nb, up0, sky0, free, os, ag, wish⟩ := caught
    have jb : Inv X pins τ G sI := jTry.ofTry okx
    have sky1 : Sky B (X.env :: X.outer) ad (Zc cls dx) X.env.locals sC.heap := hst ▸ sky0
    change wpAny (model X.prog X.w) X.A (noteFrame (.ref ad) X.env) _ _ _
    apply Sky.land Zc.steady fr1 hfm sky1
    intro hA fa upA
    have jA : Inv X pins τ G { sC with heap := hA } := jb.landed nb fa.1 (up0.trans upA) os ag
    obtain ⟨obA, fsA, getA, zcA, datA⟩ := fa.there
    have away : ad ∉ frs (X.env :: X.outer) := by
      intro hm
      obtain ⟨_, ob2, get2, nofields⟩ := fa.2.2.1.mem hm
      rw [getA] at get2
      cases get2
      exact nofields _ datA
    have notLoc : ad ≠ X.env.locals := fun z => away (List.mem_filterMap.mpr ⟨X.env, by simp, by rw [hfm, z]⟩)
    have notFs : ad ∉ X.fs := by
      intro hm
      obtain ⟨e1, m1, m2⟩ := List.mem_filterMap.mp hm
      exact away (List.mem_filterMap.mpr ⟨e1, by simp [m1], m2⟩)
    have suA := jA.suite getA datA free notLoc notFs
    have walk : ∀ {hs' : List ExceptHandler} {l' : List (Option Nat × Cl)}, MixOk X hs' l' → wMix X.K W0 D l' cls dx τ G → wpAny (model X.prog X.w) X.A (handleBy (.ref ad) X.env hs') (SP X pins D) X.xe { sC with heap := hA } := by
      intro hs' l' mk
      -- the clause's test
      have look : PySem.W.Looks (model X.prog X.w) hA (typeOf (.ref ad)) cls := fun _ _ _ _ kp q => wpAny_typeOf_ref (kp _ _ getA) (by rw [zcA.1]; exact q)
      have test : ∀ {x : Str} {cl : Value} {p1 : Pos} {Q : Value → Shared → Prop} {E : Value → Shared → Prop}, Names X x cl → Q cl { sC with heap := hA } → wpAny (model X.prog X.w) (X.A.mark (some (.ref ad))) (eval (.Name x p1) X.env) Q E { sC with heap := hA } := by
        intro x cl p1 Q E nm q
        obtain ⟨g1, g2, g3 | ⟨g3, g4, g5⟩⟩ := nm
        · exact ld_glob (X := X.suite ad ((ad, obA) :: (X.pn ++ pins))) suA g1 g3 q g2
        · exact ld_blt (X := X.suite ad ((ad, obA) :: (X.pn ++ pins))) suA g1 g3 g4 q g5 g2
      induction mk with
      | nil =>
        intro wi
        apply wpAny_handleBy_nil
        obtain ⟨_, _, _, obF, vsF, T, oT, tsF, _, _, datF, oneF, _⟩ := id fa
        obtain ⟨_, _, _, _, _, _, _, _, getF, _, _, _, _⟩ := id fa
        unfold PySem.passOn
        have land : wpAny (model X.prog X.w) X.A (setFlight (.ref ad) X.env.frame) (fun _ s4 => wpAny (model X.prog X.w) X.A (throw (.ref ad) : Sem Flow) (SP X pins D) X.xe s4) X.xe { sC with heap := hA } := by
          rw [hfm]
          apply HandSPX.setFlight_upZ fa
          intro hB hhB upB
          apply wpAny_throw
          exact tk _ _ ⟨ad, B, sI, pins, τ, G, cls, dx, rfl, jb, nb, (up0.trans upA).trans upB, .inr (.inr (hst ▸ hhB)), free, os, ag, wi⟩
        obtain ⟨k1, k2, k3, oe, vs, T', oT', ts', he, hz, hdd, h1, hr⟩ := id fa
        apply wpAny_bind
        apply wpAny_field he hdd h1
        rw [if_neg (by simp)]
        first
          | exact wpAny_bind (wpAny_pure (wpAny_bind land))
          | exact wpAny_bind land
      | bare nm hsu _ ih =>
        intro wi
        obtain ⟨b, one, no, yes⟩ := wi
        apply wpAny_handleBy_cons (codeAny_handlers_test ?_) (by intro q; cases q)
        apply test nm
        apply (PySem.W.exm_one (M := model X.prog X.w) jA.kIn look one).here
        cases b with
        | false => exact ih (no rfl)
        | true =>
          apply codeAny_handlers_suite
          apply HandSPX.lands_againZ fa
          intro hB fb upB
          have jB : Inv X pins τ G { sC with heap := hB } := jb.landed nb fb.1 ((up0.trans upA).trans upB) os ag
          obtain ⟨obB, _, getB, zcB, datB⟩ := fb.there
          have suB := jB.suite getB datB free notLoc notFs
          apply wpAny_mono ((hsu ad obB cls dx (X.pn ++ pins) zcB ⟨_, datB⟩).run [] _ _ G _ suB (yes rfl ad free))
          · intro fl sE res
            cases fl with
            | next => obtain ⟨τ', G', su', qq⟩ := res; exact ⟨_, _, su'.unsuite okx, qq⟩
            | brk => obtain ⟨τ', G', su', qq⟩ := res; exact ⟨_, _, su'.unsuite okx, qq⟩
            | cont => obtain ⟨τ', G', su', qq⟩ := res; exact ⟨_, _, su'.unsuite okx, qq⟩
            | ret u => obtain ⟨vv, τ', G', su', rr, qq⟩ := res; exact ⟨_, _, _, su'.unsuite okx, rr, qq⟩
          · exact fun _ _ z => z.elim
      | @named x y i cl su s1 sts p1 p2 hs2 l2 nm hN hk hsu _ ih =>
        intro wi
        obtain ⟨b, one, no, yes⟩ := wi
        apply wpAny_handleBy_cons (codeAny_handlers_test ?_) (by intro q; cases q)
        apply test nm
        apply (PySem.W.exm_one (M := model X.prog X.w) jA.kIn look one).here
        cases b with
        | false => exact ih (no rfl)
        | true =>
          apply codeAny_handlers_suite_as
          apply HandSPX.lands_againZ fa
          intro hB fb upB
          have jB : Inv X pins τ G { sC with heap := hB } := jb.landed nb fb.1 ((up0.trans upA).trans upB) os ag
          obtain ⟨obB, _, getB, zcB, datB⟩ := fb.there
          have suB := jB.suite getB datB free notLoc notFs
          refine store_ok (X := X.suite ad ((ad, obB) :: (X.pn ++ pins))) (v := .ref ad) suB nd hN (.inl hk) rfl (fun sN suN => ?_) (.inr hk)
          apply wpAny_mono ((hsu ad obB cls dx (X.pn ++ pins) zcB ⟨_, datB⟩).run [] sN _ G _ suN (yes rfl ad free))
          · intro fl sE res
            have out : ∀ {τ' : L2.St} {G' : Hp} {Q : Shared → Prop}, Inv (X.suite ad ((ad, obB) :: (X.pn ++ pins))) [] τ' G' sE → (∀ s7, Inv X pins (τ'.set i none) G' s7 → Q s7) →
                wpAny (model X.prog X.w) X.A (do bindName X.env y .none; unbindBehindTheSuite X.env y p2) (fun _ s7 => Q s7) X.xe sE := fun su' hq => gone_ok (su'.unsuite okx) nd hN hk hq
            cases fl with
            | next => obtain ⟨τ', G', su', qq⟩ := res; exact out su' fun _ j7 => ⟨_, _, j7, qq⟩
            | brk => obtain ⟨τ', G', su', qq⟩ := res; exact out su' fun _ j7 => ⟨_, _, j7, qq⟩
            | cont => obtain ⟨τ', G', su', qq⟩ := res; exact out su' fun _ j7 => ⟨_, _, j7, qq⟩
            | ret u => obtain ⟨vv, τ', G', su', rr, qq⟩ := res; exact out su' fun _ j7 => ⟨_, _, _, j7, rr, qq⟩
          · exact fun _ _ z => z.elim
    exact walk hh wish
end
section
variable {X : Cx} {C : Str → Value} {sub : Str → Str → Option Bool} {w : WX} {F0 H0 : Hp} {body : List Stmt} {pos : Pos} {fb : Env → SR}
/-- the clauses by their form -/
inductive HdsM (X : Cx) (C : Str → Value) : List ExceptHandler → List (Str × HR) → List (Option Nat × Cl) → Prop
  | nil : HdsM X C [] [] []
  | k {x : Str} {d : D} {v : V} {j : Nat} {p np rp pos' : Pos} {hds : List ExceptHandler} {rs : List (Str × HR)} {l : List (Option Nat × Cl)} : Names X x (C x) → scalV d = some v → HdsM X C hds rs l →
      HdsM X C (.ExceptHandler (some (.Name x np)) none [.Return (some (scalE d j p)) rp] pos' :: hds) ((x, .k d) :: rs) ((none, C x, tsK v) :: l)
  | is {x n y : Str} {i : Nat} {c' : Addr} {d1 d2 : D} {v1 v2 : V} {st : Stmt} {np pos' : Pos} {hds : List ExceptHandler} {rs : List (Str × HR)} {l : List (Option Nat × Cl)} : Names X x (C x) → X.N[i]? = some n → X.env.kindOf n = some .local → C y = .ref c' → scalV d1 = some v1 → scalV d2 = some v2 →
      (∀ (a : Addr) (oe : Obj) (cls : Value) (d : Option Addr) (pn : List (Addr × Obj)), Zc cls d oe → (∃ vs, oe.data = .fields vs) → PSs (X.suite a ((a, oe) :: pn)) [st] (tsIs X.K i (.ref c') v1 v2 a cls d)) → HdsM X C hds rs l →
      HdsM X C (.ExceptHandler (some (.Name x np)) (some n) [st] pos' :: hds) ((x, .is y d1 d2) :: rs) ((some i, C x, tsIs X.K i (.ref c') v1 v2) :: l)
theorem HdsM.ok {hds : List ExceptHandler} {rs : List (Str × HR)} {l : List (Option Nat × Cl)} (h : HdsM X C hds rs l) : MixOk X hds l := by
  induction h with
  | nil => exact .nil
  | k hn hv _ ih => exact .bare hn (fun a oe cls d pn hz hf => PSs.weak (pss_one (ps_ret (pe_scal hv))) fun D σ H h => h) ih
  | is hn hi hk _ _ _ hsu _ ih => exact .named hn hi hk hsu ih
theorem wish_mix (ck : ClsOk X.K C sub) {F : Hp} {D : Ends} {c : Str} {hds : List ExceptHandler} {rs : List (Str × HR)} {l : List (Option Nat × Cl)} (h : HdsM X C hds rs l) (hh : sR X.K (WofX C w) F0 H0 F D (handleR sub rs c)) :
    sR X.K (WofX C (wMix X.K w D l)) F0 H0 F D (.ex c) := by
  induction h with
  | nil => exact hh
  | @k x d v j p np rp pos' hds rs l hn hv _ ih =>
    unfold handleR at hh
    cases q : sub c x with
    | none => rw [q] at hh; exact hh.elim
    | some b =>
      obtain ⟨e1, _, _⟩ := ck c x b q
      rw [q] at hh
      cases b with
      | true => exact fun σ' H' F' s x => ⟨true, e1, (fun z => nomatch z), fun _ a _ => hh v H' F' s x (scalV_q hv)⟩
      | false => exact fun σ' H' F' s x => ⟨false, e1, (fun _ => ih hh σ' H' F' s x), fun z => nomatch z⟩
  | @is x n y i c' d1 d2 v1 v2 st np pos' hds rs l hn hi hk hy h1 h2 hsu _ ih =>
    unfold handleR at hh
    cases q : sub c x with
    | none => rw [q] at hh; exact hh.elim
    | some b =>
      obtain ⟨e1, _, _⟩ := ck c x b q
      rw [q] at hh
      cases b with
      | false => exact fun σ' H' F' s x => ⟨false, e1, (fun _ => ih hh σ' H' F' s x), fun z => nomatch z⟩
      | true =>
        refine fun σ' H' F' s x' => ⟨true, e1, (fun z => nomatch z), fun _ a na => ?_⟩
        dsimp only at hh
        cases q2 : sub c y with
        | none => rw [q2] at hh; exact hh.elim
        | some b2 =>
          obtain ⟨_, e2, Dx, e3, e4⟩ := ck c y b2 q2
          rw [q2] at hh
          dsimp only at hh
          rw [e3, hy] at e2
          refine ⟨Dx, b2, e3, rfl, e4, ⟨σ', rfl⟩, e2, ?_⟩
          cases b2 with
          | true => exact .inl ⟨rfl, hh v1 H' F' s x' (scalV_q h1)⟩
          | false => exact .inr ⟨rfl, hh v2 H' F' s x' (scalV_q h2)⟩
theorem s_tryM {h₀ : ExceptHandler} {hds : List ExceptHandler} {rs : List (Str × HR)} {l : List (Option Nat × Cl)} (ck : ClsOk X.K C sub) (nd : X.N.Nodup) (hs : X.stack = X.env :: X.outer) (hf : X.env.frame = some X.env.locals) (tk : Takes X w)
    (hb : ∀ (W : WX) (pn : List (Addr × Obj)) (xe : Value → Shared → Prop), Takes (X.tr pn xe) W → PassesOwn (model X.prog X.w) X.A X.env xe → PSs (X.tr pn xe) body (tS X.K (WofX C W) F0 H0 fb))
    (hh : HdsM X C (h₀ :: hds) rs l) : PS X (.Try body (h₀ :: hds) [] [] pos) (tS X.K (WofX C w) F0 H0 fun σ => tryR sub rs (fb σ)) :=
  PS.weak (ps_try_mix nd hs hf tk hb hh.ok) fun D σ H ⟨F, env, R, h⟩ => ⟨F, env, R, by
    dsimp only at h
    cases q : fb env with
    | ex c => rw [q] at h; exact wish_mix ck hh h
    | _ => rw [q] at h; exact h⟩
end
end BW

namespace BW
open PySem PySem.W L2 PySem.Spec PyProof.Rows
section
variable {X : Cx} {W : WN} {F0 H0 : Hp} {a b c e : Expr} {pos p pa p2 ap cp : Pos} {f g : Env → Res D} {st : Stmt} {sts : List Stmt} {gs : Env → SR}
/-! ### what is not covered: nothing is promised -/
theorem c_any : PE X e (tE X.K W fun _ => .bad) := ⟨fun pins s σ H Q I ⟨_, _, _, h⟩ => h.elim⟩
theorem t_any : PT X e (tT X.K W fun _ => .bad) := ⟨fun pins s σ H Q I ⟨_, _, _, h⟩ => h.elim⟩
theorem w_any : PW X e (tT X.K W fun _ => .bad) := ⟨fun wh pins s σ H Q I ⟨_, _, _, h⟩ => h.elim⟩
theorem s_any : PS X st (tS X.K W F0 H0 fun _ => .bad) := ⟨fun pins s σ H D I ⟨_, _, _, h⟩ => h.elim⟩
/-! ### slots are forgotten -/
theorem RS.wipe {K : PySem.W.Frag} {F H : Hp} {σ : L2.St} {env : Env} (R : RS K F0 H0 F H σ env) : ∀ is : List Nat, RS K F0 H0 F H σ (wipeS env is)
  | [] => R
  | i :: is => by
    have R := R.wipe is
    have key : ∀ j, getS (setS (wipeS env is) i .un) j = if i = j ∧ i < (wipeS env is).length then .un else getS (wipeS env is) j := fun j => getS_set ..
    have ow : ∀ j l, Own σ (setS (wipeS env is) i .un) j l → Own σ (wipeS env is) j l := fun j l ⟨e, q⟩ => by
      rw [key j] at q
      by_cases h : i = j ∧ i < (wipeS env is).length
      · rw [if_pos h] at q
        rcases q with ⟨_, q⟩ | ⟨_, q⟩ <;> cases q
      · rw [if_neg h] at q
        exact ⟨e, q⟩
    refine ⟨⟨R.re.sub, by simp [wipeS, setS, R.re.len], fun j => ?_⟩, R.x, fun j l o => R.new j l (ow j l o), fun j k l o o' => R.apart j k l (ow _ _ o) (ow _ _ o')⟩
    show SlotOk K F H (σ[j]?) (getS (setS (wipeS env is) i .un) j)
    rw [key j]
    split
    · trivial
    · exact R.re.slot j
theorem s_wipe {is : List Nat} (h : PSs X sts (tS X.K W F0 H0 gs)) : PSs X sts (tS X.K W F0 H0 fun σ => gs (wipeS σ is)) :=
  PSs.weak h fun D σ H ⟨F, env, R, hh⟩ => ⟨F, _, R.wipe is, hh⟩
/-! ### list(range(..)), tuple(range(..)) -/
theorem rl_data {K : PySem.W.Frag} {F : Hp} {i j : Int} : DqAll K F (rgV i j) ((List.range (j - i).toNat).map fun k => .int (i + (k : Nat))) := by
  unfold rgV
  generalize List.range (j - i).toNat = L
  induction L with
  | nil => exact .nil
  | cons a L ih => exact .cons (.int _) ih
theorem rlD_ok {t : Bool} {x y d : D} (h : rlD t x y = .ok d) : ∃ i j, x = .int i ∧ y = .int j ∧ RgOk i j ∧ d = (if t then .tuple ((List.range (j - i).toNat).map fun k => .int (i + (k : Nat))) else .list ((List.range (j - i).toNat).map fun k => .int (i + (k : Nat)))) := by
  unfold rlD rngD at h
  obtain ⟨i, rfl⟩ : ∃ i, x = .int i := by cases x <;> first | exact ⟨_, rfl⟩ | cases h
  obtain ⟨j, rfl⟩ : ∃ j, y = .int j := by cases y <;> first | exact ⟨_, rfl⟩ | cases h
  refine ⟨i, j, rfl, rfl, ?_⟩
  simp only [asInt, Res.ok_bind, if_true] at h
  split at h
  · rename_i hc
    simp only [Res.ok_bind] at h
    split at h
    · rename_i hs
      simp only [sizeOk, List.length_map, List.length_range, decide_eq_true_eq] at hs
      simp only [Bool.and_eq_true, decide_eq_true_eq] at hc
      refine ⟨⟨by omega, by omega, by omega, by omega, by omega⟩, ?_⟩
      cases t <;> simpa using h.symm
    · cases h
  · simp at h
theorem rlD_noex {t : Bool} {x y : D} : NoEx (rlD t x y) := fun c h => by
  unfold rlD rngD at h
  obtain ⟨i, rfl⟩ : ∃ i, x = .int i := by cases x <;> first | exact ⟨_, rfl⟩ | cases h
  obtain ⟨j, rfl⟩ : ∃ j, y = .int j := by cases y <;> first | exact ⟨_, rfl⟩ | cases h
  simp only [asInt, Res.ok_bind, if_true] at h
  split at h
  · simp only [Res.ok_bind] at h
    split at h <;> cases h
  · cases h
/-- tuple(range(..)) -/
def tTupRgN (te : L2.St → Hp → (Int → Int → Hp → Prop) → Prop) : TE := fun σ H Q => te σ H fun a b H1 => RgOk a b ∧ ∀ q o, H1 q = none → o.dict = none → Q (.ref q) (upd H1 q (.frz o (.tup (rgV a b))))
theorem pe_tupRgN {te : L2.St → Hp → (Int → Int → Hp → Prop) → Prop} {e : Expr} {p pos : Pos} (hc : X.calm = true) (hg : Gl X "tuple") (hm : X.mg "tuple" = none) (he : PRg X e te) (na : starEach [e] X.env = (false, eval e X.env) :: starEach [] X.env) : PE X (.Call (.Name "tuple" p) [e] [] pos) (tTupRgN te) := by
  refine ⟨fun pins s σ H Q I h => ?_⟩
  refine Call_ (ld_blt I hg hm boot_tuple (PyProof.Rows.callWith_type1 (args_cons (thn (he pins s σ H _ I h) fun x s1 ⟨r, a, b, t, u, v, H1, ex, hr, I1, ok, q⟩ => args_nil ?_) na) na))
  subst ex
  obtain ⟨b1, b2, b3, b4, b5⟩ := ok
  refine call_tuple_range (n := (b - a).toNat) (I1.ok.hd hc) hr (small_one b1 b2 b3 b4) (rangeSize_nat a b) b5 fun h' tk acc hk hi => ?_
  have I2 : Inv X pins σ H1 { s1 with heap := h', toks := tk } := I1.kept hk
  exact laidN (k := tk) I2 rfl rfl (vals_rg hi) rfl (by rw [rgV_length, sizeLine_eq]; omega) q
theorem c_rl2 (ok : XOk X) (t : Bool) (hg : Gl X (if t then "tuple" else "list")) (hm : X.mg (if t then "tuple" else "list") = none) (hg2 : Gl X "range") (hm2 : X.mg "range" = none) (ha : PE X a (tP X.K W f)) (hb : PE X b (tP X.K W g))
    (hs : starEach [.Call (.Name "range" p2) [a, b] [] pa] X.env = (false, eval (.Call (.Name "range" p2) [a, b] [] pa) X.env) :: starEach [] X.env) (hs1 : starEach [a, b] X.env = (false, eval a X.env) :: starEach [b] X.env) (hs2 : starEach [b] X.env = (false, eval b X.env) :: starEach [] X.env) (hpl : (backTo pa (starEach [b] X.env)).any (·.1) = false) :
    PE X (.Call (.Name (if t then "tuple" else "list") p) [.Call (.Name "range" p2) [a, b] [] pa] [] pos) (tE X.K W fun σ => do let x ← f σ; let y ← g σ; rlD t x y) := by
  have pr := prg_2 (p := p2) (pos := pa) hg2 hm2 ha hb hs1 hs2 hpl
  cases t with
  | true =>
    refine PE.weak (pe_tupRgN ok.calm hg hm pr hs) fun σ H Q ⟨F, env, R, h⟩ => goP mnE R h fun dx v F1 H1 _ x1 R1 p1 h1 => goP mnE R1 h1 fun dy w F2 H2 _ x2 R2 p2 h2 => ?_
    obtain ⟨d, e, q⟩ := h2.noex rlD_noex
    obtain ⟨i, j, rfl, rfl, ro, rfl⟩ := rlD_ok e
    cases (p1.ext x2).int
    cases p2.int
    exact ⟨i, j, rfl, rfl, ro, new_tup x2.sub q rl_data⟩
  | false =>
    refine PE.weak (pe_listRg ok.calm hg hm pr hs) fun σ H Q ⟨F, env, R, h⟩ => goP mnE R h fun dx v F1 H1 _ x1 R1 p1 h1 => goP mnE R1 h1 fun dy w F2 H2 _ x2 R2 p2 h2 => ?_
    obtain ⟨d, e, q⟩ := h2.noex rlD_noex
    obtain ⟨i, j, rfl, rfl, ro, rfl⟩ := rlD_ok e
    cases (p1.ext x2).int
    cases p2.int
    exact ⟨i, j, rfl, rfl, ro, new_lst x2.sub q rl_data⟩
theorem c_rl1 (ok : XOk X) (t : Bool) (hg : Gl X (if t then "tuple" else "list")) (hm : X.mg (if t then "tuple" else "list") = none) (hg2 : Gl X "range") (hm2 : X.mg "range" = none) (hb : PE X b (tP X.K W g))
    (hs : starEach [.Call (.Name "range" p2) [b] [] pa] X.env = (false, eval (.Call (.Name "range" p2) [b] [] pa) X.env) :: starEach [] X.env) (hs2 : starEach [b] X.env = (false, eval b X.env) :: starEach [] X.env) :
    PE X (.Call (.Name (if t then "tuple" else "list") p) [.Call (.Name "range" p2) [b] [] pa] [] pos) (tE X.K W fun σ => do let y ← g σ; rlD t (.int 0) y) := by
  have pr := prg_1 (p := p2) (pos := pa) hg2 hm2 hb hs2
  cases t with
  | true =>
    refine PE.weak (pe_tupRgN ok.calm hg hm pr hs) fun σ H Q ⟨F, env, R, h⟩ => goP mnE R h fun dy w F2 H2 _ x2 R2 p2 h2 => ?_
    obtain ⟨d, e, q⟩ := h2.noex rlD_noex
    obtain ⟨i, j, e1, rfl, ro, rfl⟩ := rlD_ok e
    cases e1
    cases p2.int
    exact ⟨j, rfl, ro, new_tup x2.sub q rl_data⟩
  | false =>
    refine PE.weak (pe_listRg ok.calm hg hm pr hs) fun σ H Q ⟨F, env, R, h⟩ => goP mnE R h fun dy w F2 H2 _ x2 R2 p2 h2 => ?_
    obtain ⟨d, e, q⟩ := h2.noex rlD_noex
    obtain ⟨i, j, e1, rfl, ro, rfl⟩ := rlD_ok e
    cases e1
    cases p2.int
    exact ⟨j, rfl, ro, new_lst x2.sub q rl_data⟩
/-! ### xs.index(y), ''.join(xs) -/
theorem room65 {k : Nat} {A : Around} (r : Room k A) : A.units + 65 < cLine := by have := r.un; omega
theorem nx_idxD (xs : List D) (y : D) : NoEx (idxD xs y) := by
  unfold idxD
  split
  · split <;> first | exact NoEx.ok _ | exact NoEx.bad
  · exact NoEx.bad
theorem Pk.dp {K : PySem.W.Frag} {F H : Hp} {v : V} {d : D} (e : Same F H) (h : Pk K F H v d) (hp : d.plain = true) : Dp K H v d := by
  cases h with
  | dq q => exact (q.up e).dp _ _ hp
  | ol a b q => subst a; exact .lst (.inl (.inl b)) ((q.up e).dp _ _ (by simpa [PyData.plain] using hp))
  | od a b q => simp [PyData.plain] at hp
/-- t.index(x): the first place of an equal one -/
def rIndexT (K : PySem.W.Frag) : V → List V → Hp → VK → Prop := fun x xs H Q => ∃ (a : Addr) (y : V) (ts : List V) (d : PyData) (ds : List PyData) (j : Nat) (z : PyData), x = V.ref a ∧ xs = [y] ∧ SqT K H a ts ∧ DpAll K H ts ds ∧ Dp K H y d ∧
  SeqAt.shaped (.list ds) = true ∧ SeqAt.shaped d = true ∧ ds[j]? = some z ∧ PyData.eqv z d = true ∧ (∀ (m : Nat) (z' : PyData), m < j → ds[m]? = some z' → PyData.eqv z' d = false) ∧ Q (.int (j : Nat)) H
theorem mt_indexT (hu : X.A.units + 65 < cLine) : MtR X "tuple.index" (rIndexT X.K) := by
  intro pins s σ H x xs v us Q I rx rxs h
  obtain ⟨a, y, ts, d, ds, j, z, rfl, rfl, hs, ha, hy, sl, sd, hz, hzj, hno, q⟩ := h
  cases rx
  obtain ⟨u, rfl, ry⟩ := vals1 rxs
  obtain ⟨bs, rd⟩ := Dp.reads I d y u hy ry
  obtain ⟨its, rv, ⟨⟨cls, dd, data, sls⟩, ho, hc, n, hdt⟩, hlen⟩ := I.tuple hs
  simp only at hc hdt
  subst hc hdt
  obtain ⟨as, ra⟩ := Dp.readsAll I ds _ its ha rv
  have hlay : PyData.canLayAll0 ds = true := SeqAt.canLay_of_shaped sl
  have hroom : X.A.units + 1 + min (PyData.depthAll ds) d.depth < cLine := room_in_shaped sd hu
  have hmap : its.map (SeqAt.readOf s.heap) = ds := SeqAt.readsAll_map ds its as hlay ra
  have hget : ∀ (m : Nat) (hm : m < its.toArray.size) (z' : PyData), ds[m]? = some z' → SeqAt.readOf s.heap its.toArray[m] = z' := fun m hm z' hz' => by
    have hm' : m < its.length := by simpa using hm
    rw [← hmap, List.getElem?_map, List.getElem?_eq_getElem hm'] at hz'
    simpa using Option.some.inj hz'
  have hlen2 : its.length = ds.length := SeqAt.ReadsAll.length ds its as ra
  have hj : j < its.toArray.size := by
    have := (List.getElem?_eq_some_iff.mp hz).1
    simp; omega
  refine call_meets PySem.F.slot_tuple_index ⟨_, ho, rfl⟩ PySem.F.entry_tuple_index (PySem.F.args_tuple_index_2 _ _)
    (TI.tuple_indexAt a its.toArray n dd sls u (fun w => PyData.eqv (SeqAt.readOf s.heap w) d) j hj ?_ ?_) ⟨ho, SeqAt.items_eqAt (vs := its.toArray) (show ReadsAll s.heap its.toArray.toList ds as from ra) rd hlay (SeqAt.canLay_of_shaped sd) hroom, ⟨.int (j : Nat), H, I.tok _, ⟨_, rfl⟩, q⟩⟩
  · show PyData.eqv (SeqAt.readOf s.heap its.toArray[j]) d = true
    rw [hget j hj z hz]; exact hzj
  · intro m hm hmj
    have hmd : m < ds.length := by have : m < its.length := by simpa using hm
                                   omega
    have hz' : ds[m]? = some ds[m] := List.getElem?_eq_getElem hmd
    show PyData.eqv (SeqAt.readOf s.heap its.toArray[m]) d = false
    rw [hget m hm _ hz']
    exact hno m _ hmj hz'
/-- xs.index(y) for a list or a tuple -/
def tIdx (K : PySem.W.Frag) (to : TE) (t : TA) : TE := fun σ H Q => to σ H fun x H1 => (tyV K "list" x H1 ∧ t σ H1 fun xs H2 => rIndexD K x xs H2 Q) ∨ ((∃ a ts, x = .ref a ∧ SqN K H1 a ts) ∧ t σ H1 fun xs H2 => rIndexT K x xs H2 Q)
theorem pe_idx {o e : Expr} {to : TE} {t : TA} {ap cp : Pos} (hu : X.A.units + 65 < cLine) (ho : PE X o to) (ha : PA X [e] t) (hbase : attributeBase o "index" X.env (eval o X.env) = eval o X.env) (hs : starEach [e] X.env = (false, eval e X.env) :: starEach [] X.env)
    (hfew : ((backTo cp (starEach [e] X.env)).all (fun x => !x.1) && (backToKw cp (keywordEach [] X.env)).all (fun x => x.1.isSome) && decide (([e] : List Expr).length + ([] : List Keyword).length + (if ([] : List Keyword).isEmpty then 0 else 1) < 30)) = true)
    (hl : (ap.endLine == cp.line) = true) : PE X (.Call (.Attribute o "index" ap) [e] [] cp) (tIdx X.K to t) := by
  refine ⟨fun pins s σ H Q I h => ?_⟩
  refine wpAny_Call_method_late hbase hfew hl rfl (thn (ho.run pins s σ H _ I h) fun v s1 ⟨x, H1, I1, r1, q1⟩ => ?_)
  rcases q1 with ⟨ty, q1⟩ | ⟨⟨a, ts, rfl, hN⟩, q1⟩
  · obtain ⟨h1, h2⟩ := tyV_is I1 r1 ty
    refine ⟨"list", _, PySem.F.plainAttrs_list, PySem.F.slot_list_index, PySem.F.type_list_index, h1, h2, ?_⟩
    have hA := ha.run cp pins s1 σ H1 _ I1 q1
    rw [hs] at hA ⊢
    exact Calls.callWith_builtin rfl (Calls.evalArgs_plain (thn hA fun us s2 ⟨vs, H2, I2, r2, q2⟩ => mt_indexD hu pins s2 σ H2 x vs v us Q I2 r1 r2 q2))
  · cases r1
    obtain ⟨ob, eo, hc, hd⟩ : ∃ ob, s1.heap.get? a = some ob ∧ ob.cls = .type "tuple" ∧ ob.dict = none := by
      rcases hN with ⟨ob, hob, hd⟩ | ⟨ob, its, n, h1, h2, h3, _⟩
      · obtain ⟨eo, _, its, _, o2, e2, hc, _⟩ := (show ObjOk X.prog X.w H1 s1.heap a (.frz ob (.tup ts)) from I1.hok a _ hob)
        rw [eo] at e2; cases e2
        exact ⟨ob, eo, hc, hd⟩
      · exact ⟨ob, I1.kIn a ob h1, h2, h3⟩
    refine ⟨"tuple", _, PySem.F.plainAttrs_tuple, PySem.F.slot_tuple_index, PySem.F.type_tuple_index, ⟨ob, eo, hc⟩, fun b eb => by cases eb; exact ⟨ob, eo, hd⟩, ?_⟩
    have hA := ha.run cp pins s1 σ H1 _ I1 q1
    rw [hs] at hA ⊢
    exact Calls.callWith_builtin rfl (Calls.evalArgs_plain (thn hA fun us s2 ⟨vs, H2, I2, r2, q2⟩ => mt_indexT hu pins s2 σ H2 (.ref a) vs _ us Q I2 rfl r2 q2))
theorem c_idx (hu : X.A.units + 65 < cLine) (ha : PE X a (tP X.K W f)) (hb : PE X b (tP X.K W g)) (hbase : attributeBase a "index" X.env (eval a X.env) = eval a X.env) (hs : starEach [b] X.env = (false, eval b X.env) :: starEach [] X.env)
    (hfew : ((backTo cp (starEach [b] X.env)).all (fun x => !x.1) && (backToKw cp (keywordEach [] X.env)).all (fun x => x.1.isSome) && decide (([b] : List Expr).length + ([] : List Keyword).length + (if ([] : List Keyword).isEmpty then 0 else 1) < 30)) = true)
    (hl : (ap.endLine == cp.line) = true) : PE X (.Call (.Attribute a "index" ap) [b] [] cp) (tE X.K W fun σ => do let x ← f σ; let xs ← asL x; let y ← g σ; idxD xs y) :=
  PE.weak (pe_idx hu ha (pa_cons hb pa_nil hs) hbase hs hfew hl) fun σ H Q ⟨F, env, R, h⟩ => goP mnE R h fun dx v F1 H1 _ x1 R1 p1 h1 => by
    have hp : ∀ {z : D}, sm z = true → z.plain = true := fun z => by unfold BW.sm at z; simp only [Bool.and_eq_true] at z; exact z.1
    have both : (∃ ds, dx = .list ds) ∨ ∃ ds, dx = .tuple ds := by cases dx <;> first | exact .inl ⟨_, rfl⟩ | exact .inr ⟨_, rfl⟩ | exact h1.elim
    rcases both with ⟨ds, rfl⟩ | ⟨ds, rfl⟩
    · obtain ⟨l, xs, rfl, hr, ha⟩ := p1.lst x1.sub
      simp only [asL, Res.ok_bind] at h1
      refine .inl ⟨.inl ⟨rfl, xs, .inl hr⟩, goP mnE R1 h1 fun dy w F2 H2 _ x2 R2 p2 h2 => ?_⟩
      obtain ⟨d, e, q⟩ := h2.noex (nx_idxD _ _)
      unfold idxD at e
      split at e
      · rename_i hc
        simp only [Bool.and_eq_true] at hc
        obtain ⟨⟨⟨c1, c2⟩, c3⟩, c4⟩ := hc
        split at e
        · rename_i j hj
          cases e
          rw [List.findIdx?_eq_some_iff_getElem] at hj
          obtain ⟨hlt, h5, h6⟩ := hj
          have dy' : Dp X.K H2 w dy := p2.dp x2.sub (hp c4)
          have dl : Dp X.K H2 (.ref l) (.list ds) := (Pk.ext x2 p1).dp x2.sub (hp c3)
          refine ⟨l, w, dy, ds, j, ds[j], rfl, rfl, dl, dy', c1, c2, List.getElem?_eq_getElem hlt, h5, fun m z hm hz => ?_, q.fin x2.sub (.int _)⟩
          have := h6 m hm
          rw [List.getElem?_eq_getElem (by omega)] at hz
          cases hz
          simpa using this
        · cases e
      · cases e
    · obtain ⟨l, xs, rfl, hr, ha⟩ := p1.tupN x1.sub
      simp only [asL, Res.ok_bind] at h1
      refine .inr ⟨⟨l, xs, rfl, hr⟩, goP mnE R1 h1 fun dy w F2 H2 _ x2 R2 p2 h2 => ?_⟩
      obtain ⟨d, e, q⟩ := h2.noex (nx_idxD _ _)
      unfold idxD at e
      split at e
      · rename_i hc
        simp only [Bool.and_eq_true] at hc
        obtain ⟨⟨⟨c1, c2⟩, c3⟩, c4⟩ := hc
        split at e
        · rename_i j hj
          cases e
          rw [List.findIdx?_eq_some_iff_getElem] at hj
          obtain ⟨hlt, h5, h6⟩ := hj
          have dy' : Dp X.K H2 w dy := p2.dp x2.sub (hp c4)
          have hpl : PyData.plainAll ds = true := by simpa [PyData.plain] using hp c3
          refine ⟨l, w, xs, dy, ds, j, ds[j], rfl, rfl, (Same.sqN x2.h hr).sq, (ha.up (x2.f.trans x2.sub)).dp _ _ hpl, dy', c1, c2, List.getElem?_eq_getElem hlt, h5, fun m z hm hz => ?_, q.fin x2.sub (.int _)⟩
          have := h6 m hm
          rw [List.getElem?_eq_getElem (by omega)] at hz
          cases hz
          simpa using this
        · cases e
      · cases e
theorem strs_data {K : PySem.W.Frag} {F : Hp} : ∀ {ds : List D} {vs : List V} {zs : List Str}, DqAll K F vs ds → mapR asStr ds = .ok zs → vs = zs.map V.str
  | [], _, _, .nil, h => by cases h; rfl
  | d :: ds, _, zs, .cons h1 h2, h => by
    unfold mapR at h
    obtain ⟨z, rfl⟩ : ∃ z, d = .str z := by cases d <;> first | exact ⟨_, rfl⟩ | cases h
    simp only [asStr, Res.ok_bind] at h
    cases q : mapR asStr ds with
    | ok ys =>
      rw [q] at h
      cases h
      cases h1
      rw [strs_data h2 q]
      rfl
    | ex _ => rw [q] at h; cases h
    | bad => rw [q] at h; cases h
theorem nx_strs : ∀ ds : List D, NoEx (mapR asStr ds)
  | [] => NoEx.ok _
  | d :: ds => by
    unfold mapR
    refine NoEx.bind ?_ fun _ => NoEx.bind (nx_strs ds) fun _ => NoEx.ok _
    cases d <;> first | exact NoEx.ok _ | exact NoEx.bad
theorem nx_joinD (x : Str) (y : D) : NoEx (joinD x y) := by
  unfold joinD
  split
  · refine NoEx.bind (nx_strs _) fun zs => ?_
    split <;> first | exact NoEx.ok _ | exact NoEx.bad
  · exact NoEx.bad
theorem c_join {x : Str} {j : Nat} (hb : PE X b (tP X.K W g)) (hbase : attributeBase (.Constant (.str x) j p) "join" X.env (eval (.Constant (.str x) j p) X.env) = eval (.Constant (.str x) j p) X.env) (hs : starEach [b] X.env = (false, eval b X.env) :: starEach [] X.env)
    (hfew : ((backTo cp (starEach [b] X.env)).all (fun x => !x.1) && (backToKw cp (keywordEach [] X.env)).all (fun x => x.1.isSome) && decide (([b] : List Expr).length + ([] : List Keyword).length + (if ([] : List Keyword).isEmpty then 0 else 1) < 30)) = true)
    (hl : (ap.endLine == cp.line) = true) : PE X (.Call (.Attribute (.Constant (.str x) j p) "join" ap) [b] [] cp) (tE X.K W fun σ => do let y ← g σ; joinD x y) :=
  PE.weak (pe_bm PySem.F.plainAttrs_str PySem.F.slot_str_join PySem.F.type_str_join mt_join pe_str (pa_cons hb pa_nil hs) hbase hfew hl hs rfl) fun σ H Q ⟨F, env, R, h⟩ =>
    ⟨rfl, goP mnE R h fun dy w F2 H2 _ x2 R2 p2 h2 => by
      obtain ⟨d, e, q⟩ := h2.noex (nx_joinD _ _)
      unfold joinD at e
      have fin : ∀ {vs : List V} {ys : List D} {l : Addr}, DqAll X.K H2 vs ys → (SqL X.K H2 l vs ∨ SqT X.K H2 l vs) → w = .ref l → (do let zs ← mapR asStr ys; if decide ((zs.map (·.length)).sum + zs.length * x.length ≤ 1000000) then .ok (.str (Txt.join x zs)) else .bad : Res D) = .ok d → ∃ a p, ∃ ys : List Str, V.str x = .str a ∧ [w] = [.ref p] ∧ (SqL X.K H2 p (ys.map V.str) ∨ SqT X.K H2 p (ys.map V.str)) ∧ (ys.map (·.length)).sum + ys.length * a.length ≤ 16777216 ∧ Q (.str (Txt.join a ys)) H2 := fun {vs ys l} hd hl hw e => by
        cases q2 : mapR asStr ys with
        | ex _ => rw [q2] at e; cases e
        | bad => rw [q2] at e; cases e
        | ok zs =>
          rw [q2] at e
          simp only [Res.ok_bind] at e
          split at e
          · rename_i hz
            cases e
            have := strs_data hd q2
            subst this
            refine ⟨x, l, zs, rfl, by rw [hw], hl, ?_, q.fin x2.sub (.str _)⟩
            have := of_decide_eq_true hz
            omega
          · cases e
      have hd : (∃ ys, dy = .list ys) ∨ ∃ ys, dy = .tuple ys := by cases dy <;> first | exact .inl ⟨_, rfl⟩ | exact .inr ⟨_, rfl⟩ | cases e
      rcases hd with ⟨ys, rfl⟩ | ⟨ys, rfl⟩
      · obtain ⟨l, xs, rfl, hr, ha⟩ := p2.lst x2.sub
        exact fin (ha.up x2.sub) (.inl (.inl hr)) rfl e
      · obtain ⟨l, xs, rfl, hr, ha⟩ := p2.tup x2.sub
        exact fin (ha.up x2.sub) (.inr hr) rfl e⟩
end
end BW

namespace BW
open PySem PySem.W L2 PySem.Spec PyProof.Rows
/-! ### the text against its form -/
/-- what the module holds: defs (place, number of parameters), constants -/
structure GC where
  fns : List (Str × Nat × Nat)
  con : List (Str × D)
  exc : List Str
/-- plain: one of these -/
def plainE : Expr → Bool
  | .Starred _ _ => false
  | _ => true
theorem star_plain {e : Expr} {es : List Expr} {env : PySem.Env} (h : plainE e = true) : starEach (e :: es) env = (false, eval e env) :: starEach es env := by
  cases e <;> first | rfl | exact absurd h Bool.false_ne_true
theorem back_plain {env : PySem.Env} {pos : Pos} : ∀ {es : List Expr}, es.all plainE = true → (backTo pos (starEach es env)).any (·.1) = false
  | [], _ => rfl
  | e :: es, h => by
    simp only [List.all_cons, Bool.and_eq_true] at h
    rw [star_plain h.1]
    show (false || (backTo pos (starEach es env)).any (·.1)) = false
    rw [back_plain h.2]
    rfl
def plainTg : Expr → Bool
  | .Starred _ _ => false
  | _ => true
theorem asg_plain {e : Expr} {es : List Expr} {env : PySem.Env} (h : plainTg e = true) : assignEach (e :: es) env = (false, assign e env) :: assignEach es env := by
  cases e <;> first | rfl | exact absurd h Bool.false_ne_true
def notSet : Expr → Bool
  | .Set _ _ _ => false
  | _ => true
theorem fold_notSet {e : Expr} {env : PySem.Env} (h : notSet e = true) (x : Value) : foldedSetIterable e env x = pure x := by
  cases e <;> first | rfl | exact absurd h Bool.false_ne_true
def tstB : Expr → Bool
  | .UnaryOp .Not _ _ => false
  | .BoolOp _ _ _ => false
  | .IfExp _ _ _ _ => false
  | .Compare _ _ _ _ => false
  | _ => true
theorem tst_plain {e : Expr} {env : PySem.Env} (h : tstB e = true) (whole : Sem Value) : isTrue e env whole = (do let v ← whole; standAt e.pos; holding [v] (truthy v)) := by
  cases e with
  | UnaryOp op a p => cases op <;> first | rfl | exact absurd h Bool.false_ne_true
  | BoolOp _ _ _ => exact absurd h Bool.false_ne_true
  | IfExp _ _ _ _ => exact absurd h Bool.false_ne_true
  | Compare _ _ _ _ => exact absurd h Bool.false_ne_true
  | _ => rfl
def ixB : Expr → Bool
  | .Slice _ _ _ _ => false
  | _ => true
theorem ix_plain {e : Expr} (h : ixB e = true) : PlainIx e := by
  cases e <;> first | exact absurd h Bool.false_ne_true | (intro o i; rfl)
def visB (sc : Scope) (x : Str) : Bool := match sc.names.lookup x with
  | some .local => true
  | some .cell => true
  | some .free => true
  | _ => false
theorem vis_of {sc : Scope} {x : Str} (h : visB sc x = true) : Vis sc x := by
  unfold visB at h
  split at h <;> first | exact .inl (by assumption) | exact .inr (.inl (by assumption)) | exact .inr (.inr (by assumption)) | exact absurd h Bool.false_ne_true
def locB (sc : Scope) (x : Str) : Bool := match sc.names.lookup x with
  | some .local => true
  | some .cell => true
  | _ => false
theorem loc_of {sc : Scope} {x : Str} (h : locB sc x = true) : Loc sc x := by
  unfold locB at h
  split at h <;> first | exact .inl (by assumption) | exact .inr (by assumption) | exact absurd h Bool.false_ne_true
def slotB (N : List Str) (sc : Scope) (x : Str) (i : Nat) : Bool := decide (N[i]? = some x) && visB sc x && !(x == ("__debug__" : Str)) && !(x == ("__classdict__" : Str))
theorem slot_of {N : List Str} {sc : Scope} {x : Str} {i : Nat} (h : slotB N sc x i = true) : N[i]? = some x ∧ Vis sc x ∧ (x == ("__debug__" : Str)) = false ∧ (x == ("__classdict__" : Str)) = false := by
  unfold slotB at h
  simp only [Bool.and_eq_true, decide_eq_true_eq, Bool.not_eq_true'] at h
  exact ⟨h.1.1.1, vis_of h.1.1.2, h.1.2, h.2⟩
def glB (sc : Scope) (x : Str) : Bool := decide (sc.names.lookup x = some .globalImplicit) && !(x == ("__debug__" : Str))
/-- scalars alike -/
def scEq : D → D → Bool
  | .none, .none => true
  | .bool a, .bool b => a == b
  | .int a, .int b => decide (a = b)
  | .str a, .str b => decide (a = b)
  | _, _ => false
theorem scEq_of {a b : D} (h : scEq a b = true) : a = b ∧ ∃ v, scalV a = some v := by
  cases a <;> cases b <;> first | exact absurd h Bool.false_ne_true | skip
  · exact ⟨rfl, _, rfl⟩
  · exact ⟨congrArg _ (by simpa [scEq] using h), _, rfl⟩
  · exact ⟨congrArg _ (by simpa [scEq] using h), _, rfl⟩
  · exact ⟨congrArg _ (by simpa [scEq] using h), _, rfl⟩
mutual
/-- data alike (no dict) -/
def dEq : D → D → Bool
  | .none, .none => true
  | .bool a, .bool b => a == b
  | .int a, .int b => decide (a = b)
  | .str a, .str b => decide (a = b)
  | .tuple a, .tuple b => dEqs a b
  | .list a, .list b => dEqs a b
  | _, _ => false
def dEqs : List D → List D → Bool
  | [], [] => true
  | a :: as, b :: bs => dEq a b && dEqs as bs
  | _, _ => false
end
mutual
theorem dEq_of : ∀ {a b : D}, dEq a b = true → a = b
  | .none, b, h => by cases b <;> first | rfl | exact absurd h Bool.false_ne_true
  | .bool x, b, h => by
    cases b <;> first | exact absurd h Bool.false_ne_true | skip
    exact congrArg _ (by simpa [dEq] using h)
  | .int x, b, h => by
    cases b <;> first | exact absurd h Bool.false_ne_true | skip
    exact congrArg _ (by simpa [dEq] using h)
  | .str x, b, h => by
    cases b <;> first | exact absurd h Bool.false_ne_true | skip
    exact congrArg _ (by simpa [dEq] using h)
  | .tuple x, b, h => by
    cases b <;> first | exact absurd h Bool.false_ne_true | skip
    exact congrArg _ (dEqs_of h)
  | .list x, b, h => by
    cases b <;> first | exact absurd h Bool.false_ne_true | skip
    exact congrArg _ (dEqs_of h)
  | .dict x, b, h => by cases b <;> exact absurd h Bool.false_ne_true
theorem dEqs_of : ∀ {a b : List D}, dEqs a b = true → a = b
  | [], [], _ => rfl
  | [], _ :: _, h => absurd h Bool.false_ne_true
  | _ :: _, [], h => absurd h Bool.false_ne_true
  | a :: as, b :: bs, h => by
    have h : dEq a b = true ∧ dEqs as bs = true := by simpa [dEqs] using h
    rw [dEq_of h.1, dEqs_of h.2]
end
def ckK (G : GC) (sc : Scope) (e : Expr) (d : D) : Bool := match e with
  | .Constant .none _ _ => scEq .none d
  | .Constant (.bool b) _ _ => scEq (.bool b) d
  | .Constant (.int b) _ _ => scEq (.int b) d
  | .Constant (.str b) _ _ => scEq (.str b) d
  | .Name x _ => glB sc x && (match G.con.lookup x with | some d' => dEq d' d | none => false)
  | _ => false
def ckL (r : Expr → E → Bool) : List Expr → List E → Bool
  | [], [] => true
  | e :: es, i :: is => plainE e && r e i && ckL r es is
  | _, _ => false
def ckTys (sc : Scope) : List Expr → List Ty → Bool
  | [], [] => true
  | .Name x _ :: es, t :: ts => decide (x = tyS t) && glB sc x && ckTys sc es ts
  | _, _ => false
/-- what the built-in names are -/
def biNames : List Str := ["len", "abs", "int", "tuple", "list", "sorted", "sum", "min", "max", "all", "any", "isinstance", "range", "enumerate", "zip", "bool", "str", "dict", "set"]
inductive Md | e | p | t | w
abbrev Ck := Md → List Str → Scope → Expr → E → Bool
mutual
def ckG (lc : Str → Bool) (N : List Str) (sc : Scope) : Expr → Tg → Bool
  | .Name x _, .n i => decide (N[i]? = some x) && locB sc x && (lc x || decide (sc.names.lookup x = some .local))
  | .Tuple es _ _, .t ts => ckGs lc N sc es ts
  | _, _ => false
def ckGs (lc : Str → Bool) (N : List Str) (sc : Scope) : List Expr → List Tg → Bool
  | [], [] => true
  | e :: es, t :: ts => plainTg e && ckG lc N sc e t && ckGs lc N sc es ts
  | _, _ => false
end
/-- what is walked; pk: the walked thing may be this def's own -/
def ckI (r : Ck) (N : List Str) (sc : Scope) (pk : Bool) (tg e : Expr) : E → Bool
  | .rng a b c => (match e with
    | .Call (.Name x _) [y] [] _ => decide (x = ("range" : Str)) && glB sc x && (match a with | .k (.int 0) => true | _ => false) && (match c with | .k (.int 1) => true | _ => false) && plainE y && r .p N sc y b
    | .Call (.Name x _) [y, z] [] _ => decide (x = ("range" : Str)) && glB sc x && (match c with | .k (.int 1) => true | _ => false) && plainE y && plainE z && r .p N sc y a && r .p N sc z b
    | .Call (.Name x _) [y, z, u] [] _ => decide (x = ("range" : Str)) && glB sc x && (match c with | .neg (.k (.int 1)) => true | _ => false) && plainE y && plainE z && plainE u && r .p N sc y a && r .p N sc z b && r .p N sc u c
    | _ => false)
  | .enm a => (match e, tg with
    | .Call (.Name x _) [y] [] _, .Tuple _ _ _ => decide (x = ("enumerate" : Str)) && glB sc x && plainE y && r (if pk then .p else .e) N sc y a
    | _, _ => false)
  | .zip a b => (match e, tg with
    | .Call (.Name x _) [y, z] [] _, .Tuple _ _ _ => decide (x = ("zip" : Str)) && glB sc x && plainE y && plainE z && r (if pk then .p else .e) N sc y a && r (if pk then .p else .e) N sc z b
    | _, _ => false)
  | E => r (if pk then .p else .e) N sc e E
def ownS (N : List Str) (own : List Nat) : List (Str × Nat) := own.filterMap fun i => (N[i]?).map fun x => (x, i)
/-- a comprehension -/
def ckComp (r : Ck) (N : List Str) (sc : Scope) (e : Expr) (elt : E) (T : Tg) (it c : E) (own : List Nat) : Bool := match e with
  | .ListComp x [⟨tg, iter, ifs, 0⟩] scope _ =>
    blkC N sc scope (ownS N own) && decide ((ownS N own).map (·.2) = own) && notSet iter && T.sl.all (fun i => decide (i ∈ own)) && ckI r N sc true tg iter it && ckG (fun x => scope.names.lookup x == some .cell) N (relS scope sc) tg T && r .e N (relS scope sc) x elt &&
      (match ifs with
      | [] => (match c with | .k (.bool true) => true | _ => false)
      | [t] => r .t N (relS scope sc) t c
      | _ => false)
  | _ => false
/-- a dict comprehension -/
def ckDComp (r : Ck) (N : List Str) (sc : Scope) (e : Expr) (kx vx : E) (T : Tg) (it c : E) (own : List Nat) : Bool := match e with
  | .DictComp x y [⟨tg, iter, ifs, 0⟩] scope _ =>
    blkC N sc scope (ownS N own) && decide ((ownS N own).map (·.2) = own) && notSet iter && T.sl.all (fun i => decide (i ∈ own)) && ckI r N sc true tg iter it && ckG (fun x => scope.names.lookup x == some .cell) N (relS scope sc) tg T && r .e N (relS scope sc) x kx && r .e N (relS scope sc) y vx &&
      (match ifs with
      | [] => (match c with | .k (.bool true) => true | _ => false)
      | [t] => r .t N (relS scope sc) t c
      | _ => false)
  | _ => false
def ckB1 (r : Ck) (N : List Str) (sc : Scope) (e : Expr) (b : B1) (a : E) : Bool := match b with
  | .setsorted => (match e with | .Call (.Name x _) [.Call (.Name z _) [y] [] _] [] _ => decide (x = ("sorted" : Str)) && decide (z = ("set" : Str)) && glB sc x && glB sc z && plainE y && r .p N sc y a | _ => false)
  | .setlen => (match e with | .Call (.Name x _) [.Call (.Name z _) [y] [] _] [] _ => decide (x = ("len" : Str)) && decide (z = ("set" : Str)) && glB sc x && glB sc z && plainE y && r .p N sc y a | _ => false)
  | b => (match e with | .Call (.Name x _) [y] [] _ => decide (x = b1S b) && decide (b ≠ .setsorted ∧ b ≠ .setlen) && glB sc x && plainE y && r .p N sc y a | _ => false)
def ckE1 (G : GC) (r : Ck) (N : List Str) (sc : Scope) (e : Expr) : E → Bool
  | .k d => ckK G sc e d
  | .v i => (match e with | .Name x _ => slotB N sc x i | _ => false)
  | .p _ => false
  | .tup es => (match e with | .Tuple xs _ _ => ckL (r .e N sc) xs es && decide (es.length ≤ 1000) | _ => false)
  | .lst es => (match e with | .List xs _ => ckL (r .e N sc) xs es && decide (es.length ≤ 1000) | _ => false)
  | .op o a b => (match e with | .BinOp x q y _ => decide (q = opM o) && r .p N sc x a && r .p N sc y b | _ => false)
  | .cmp o a b => (match e with | .Compare x [q] [y] _ => decide (q = cmpM o) && !behindInMarks (cmpM o) y && r .p N sc x a && r .p N sc y b | _ => false)
  | .ch o q a b c => (match e with | .Compare x [o', q'] [y, z] _ => decide (o' = cmpM o) && decide (q' = cmpM q) && !lastMarks [cmpM o, cmpM q] [y, z] && r .p N sc x a && r .p N sc y b && r .p N sc z c | _ => false)
  | .and a b => (match e with
    | .BoolOp .And (x :: y :: rest) p => r .p N sc x a && (match rest with | [] => r .e N sc y b | _ => r .e N sc (.BoolOp .And (y :: rest) p) b)
    | _ => false)
  | .or a b => (match e with
    | .BoolOp .Or (x :: y :: rest) p => r .p N sc x a && (match rest with | [] => r .e N sc y b | _ => r .e N sc (.BoolOp .Or (y :: rest) p) b)
    | _ => false)
  | .not a => (match e with | .UnaryOp .Not x _ => r .p N sc x a | _ => false)
  | .neg a => (match e with | .UnaryOp .USub x _ => r .p N sc x a | _ => false)
  | .ite c a b => (match e with | .IfExp x y z _ => r .t N sc x c && r .e N sc y a && r .e N sc z b | _ => false)
  | .isN a => (match e with | .Compare x [.Is] [.Constant .none _ _] _ => r .p N sc x a | _ => false)
  | .notN a => (match e with | .Compare x [.IsNot] [.Constant .none _ _] _ => r .p N sc x a | _ => false)
  | .ix a b => (match e with | .Subscript x y _ => ixB y && r .p N sc x a && r .p N sc y b | _ => false)
  | .slf a l => (match e with | .Subscript x (.Slice (some y) none none _) _ => r .p N sc x a && r .p N sc y l | _ => false)
  | .slt a h => (match e with | .Subscript x (.Slice none (some y) none _) _ => r .p N sc x a && r .p N sc y h | _ => false)
  | .slb a l h => (match e with | .Subscript x (.Slice (some y) (some z) none _) _ => r .p N sc x a && r .p N sc y l && r .p N sc z h | _ => false)
  | .rev a => (match e with | .Subscript x (.Slice none none (some (.UnaryOp .USub (.Constant (.int 1) _ _) _)) _) _ => r .p N sc x a | _ => false)
  | .call f es => (match e with
    | .Call (.Name x _) (a :: as) [] _ => glB sc x && decide (G.fns.lookup x = some (f, es.length)) && ckL (r .e N sc) (a :: as) es
    | _ => false)
  | .b1 b a => ckB1 r N sc e b a
  | .b2 b a c => (match e with | .Call (.Name x _) [y, z] [] _ => decide (x = b2S b) && glB sc x && plainE y && plainE z && r .p N sc y a && r .p N sc z c | _ => false)
  | .isi a ts => (match e with
    | .Call (.Name x _) [y, .Tuple es _ _] [] _ => decide (x = ("isinstance" : Str)) && glB sc x && plainE y && decide (ts.length ≤ 100) && ckTys sc es ts && r .p N sc y a
    | .Call (.Name x _) [y, .Name z _] [] _ => decide (x = ("isinstance" : Str)) && glB sc x && plainE y && glB sc z && (match ts with | [t] => decide (z = tyS t) | _ => false) && r .p N sc y a
    | _ => false)
  | .comp elt T it c own => ckComp r N sc e elt T it c own
  | .dcomp kx vx T it c own => ckDComp r N sc e kx vx T it c own
  | .any => true
  | .rl t a b => (match e with
    | .Call (.Name x _) [.Call (.Name z _) [y] [] _] [] _ => decide (x = (if t then "tuple" else "list" : Str)) && decide (z = ("range" : Str)) && glB sc x && glB sc z && (match a with | .k (.int 0) => true | _ => false) && plainE y && r .p N sc y b
    | .Call (.Name x _) [.Call (.Name z _) [y, u] [] _] [] _ => decide (x = (if t then "tuple" else "list" : Str)) && decide (z = ("range" : Str)) && glB sc x && glB sc z && plainE y && plainE u && r .p N sc y a && r .p N sc u b
    | _ => false)
  | .idx a b => (match e with
    | .Call (.Attribute (.Name x p') y ap) [z] [] cp => decide (y = ("index" : Str)) && plainE z && (ap.endLine == cp.line) && r .p N sc (.Name x p') a && r .p N sc z b
    | _ => false)
  | .join a b => (match e with
    | .Call (.Attribute (.Constant (.str x) j p') y ap) [z] [] cp => decide (y = ("join" : Str)) && decide (x = a) && plainE z && (ap.endLine == cp.line) && r .p N sc z b
    | _ => false)
  | _ => false
def ckT0 (r : Ck) (N : List Str) (sc : Scope) (e : Expr) (E : E) : Bool := match e with
  | .BoolOp _ _ _ => r .w N sc e E
  | .UnaryOp .Not x _ => (match E with | .not a => r .t N sc x a | _ => false)
  | .Compare x [o] [y] _ => (match E with
    | .cmp o' a b => decide (o = cmpM o') && !behindInMarks (cmpM o') y && r .p N sc x a && r .p N sc y b
    | .isN a => (match o, y with | .Is, .Constant .none _ _ => r .p N sc x a | _, _ => false)
    | .notN a => (match o, y with | .IsNot, .Constant .none _ _ => r .p N sc x a | _, _ => false)
    | _ => false)
  | .Compare x [o, q] [y, z] _ => (match E with
    | .ch o' q' a b c => decide (o = cmpM o') && decide (q = cmpM q') && !lastMarks [cmpM o', cmpM q'] [y, z] && r .p N sc x a && r .p N sc y b && r .p N sc z c
    | _ => false)
  | e => tstB e && r .p N sc e E
def isAny : E → Bool
  | .any => true
  | _ => false
def ckT1 (r : Ck) (N : List Str) (sc : Scope) (e : Expr) (E : E) : Bool := isAny E || ckT0 r N sc e E
def ckW0 (r : Ck) (N : List Str) (sc : Scope) (e : Expr) (E : E) : Bool := match e with
  | .BoolOp .And [x] _ => r .t N sc x E
  | .BoolOp .Or [x] _ => r .t N sc x E
  | .BoolOp .And (x :: y :: rest) p => (match E with | .and a b => r .t N sc x a && r .w N sc (.BoolOp .And (y :: rest) p) b | _ => false)
  | .BoolOp .Or (x :: y :: rest) p => (match E with | .or a b => r .t N sc x a && r .w N sc (.BoolOp .Or (y :: rest) p) b | _ => false)
  | _ => false
def ckW1 (r : Ck) (N : List Str) (sc : Scope) (e : Expr) (E : E) : Bool := isAny E || ckW0 r N sc e E
def ck (G : GC) : Nat → Ck
  | 0, _, _, _, _, _ => false
  | n + 1, .e, N, sc, e, E => ckE1 G (ck G n) N sc e E
  | n + 1, .p, N, sc, e, E => (match E with
    | .p i => (match e with | .Name x _ => slotB N sc x i | _ => false)
    | E => ckE1 G (ck G n) N sc e E)
  | n + 1, .t, N, sc, e, E => ckT1 (ck G n) N sc e E
  | n + 1, .w, N, sc, e, E => ckW1 (ck G n) N sc e E

/-! ### what the module's names hold -/
structure GX (P : Program) (wd : World) (K : PySem.W.Frag) (mg : Str → Option Value) (base : Heap) (G : GC) (C : Str → Value) (sub : Str → Str → Option Bool) (fe : FE) (k : Nat) : Prop where
  bi : ∀ x ∈ biNames, mg x = none
  con : ∀ x d, G.con.lookup x = some d → ∃ v u, mg x = some u ∧ RelV v u ∧ ∀ F : Hp, Dq K F v d
  fns : ∀ x i n, G.fns.lookup x = some (i, n) → ∃ f fd ps, mg x = some (.ref f) ∧ PySem.W.keepIn K (.ref f) = true ∧ Binds K fd ps [] ∧ FnOk P wd K mg base (L2.CX P wd) k f fd ps (spF K C n (fe i))
  ck : ClsOk K C sub
  exc : ∀ x ∈ G.exc, ∃ Cx bmB B newId initId, C x = .ref Cx ∧ PySem.ExcBaseFacts B newId initId bmB ∧ PySem.W.excIn K Cx bmB newId = true ∧ mg x = some (.ref Cx) ∧ PySem.W.keepIn K (.ref Cx) = true ∧ PySem.W.subIn K (.ref Cx) (.type "BaseException") = some true ∧ PySem.W.typeIn K (.ref Cx) = some (.type "type")
structure EC (X : Cx) (G : GC) (C : Str → Value) (sub : Str → Str → Option Bool) (fe : FE) (k : Nat) (w : WX) (N : List Str) (sc : Scope) : Prop where
  ok : XOk X
  n : X.N = N
  se : X.env.scope = sc
  tk : Takes X w
  hr : Room k X.A
  gx : GX X.prog X.w X.K X.mg X.base G C sub fe k
section
variable {X : Cx} {G : GC} {C : Str → Value} {sub : Str → Str → Option Bool} {fe : FE} {k : Nat} {w : WX} {N : List Str} {sc : Scope}
theorem EC.gl (c : EC X G C sub fe k w N sc) {x : Str} (h : glB sc x = true) : Gl X x ∧ (x == ("__debug__" : Str)) = false := by
  unfold glB at h
  simp only [Bool.and_eq_true, decide_eq_true_eq, Bool.not_eq_true'] at h
  refine ⟨?_, h.2⟩
  show X.env.scope.names.lookup x = some .globalImplicit
  rw [c.se]
  exact h.1
theorem EC.slot (c : EC X G C sub fe k w N sc) {x : Str} {i : Nat} (h : slotB N sc x i = true) : X.N[i]? = some x ∧ Vis X.env.scope x ∧ (x == ("__debug__" : Str)) = false ∧ (x == ("__classdict__" : Str)) = false := by
  rw [c.n, c.se]
  exact slot_of h
theorem EC.blk (c : EC X G C sub fe k w N sc) (scope : Scope) (s : Shared) (H : Hp) (A : Addr) (cl : List (Str × Addr)) (fp : List Addr) : EC (X.blk s H scope (compEnvC scope cl A X.env) fp) G C sub fe k (fun _ _ _ _ => False) N (relS scope sc) :=
  ⟨⟨c.ok.nd, c.ok.calm, c.ok.room⟩, c.n, by rw [← c.se]; rfl, takes0, c.hr, c.gx⟩
/-! ### targets -/
mutual
theorem ckG_ok {lc : Str → Bool} (hc : X.calm = true) (nd : X.N.Nodup) (hn : X.N = N) (hs : X.env.scope = sc) (hl : ∀ x, lc x = true → X.fn x = true) : ∀ (e : Expr) (T : Tg), ckG lc N sc e T = true → PG X e (tG X.K T)
  | .Name x p, .n i, h => by
    unfold ckG at h
    simp only [Bool.and_eq_true, decide_eq_true_eq, Bool.or_eq_true] at h
    refine g_n nd (by rw [hn]; exact h.1.1) (by rw [hs]; exact loc_of h.1.2) ?_
    rcases h.2 with z | z
    · exact .inl (hl _ z)
    · exact .inr (by rw [hs]; exact z)
  | .Tuple es k p, .t ts, h => by
    unfold ckG at h
    exact g_t hc (ckGs_ok hc nd hn hs hl es ts h) rfl (ckGs_len es ts h).1 (ckGs_len es ts h).2
  | .Tuple es k p, .n i, h => by simp [ckG] at h
  | .Name x p, .t ts, h => by simp [ckG] at h
  | .BoolOp .., _, h => by simp [ckG] at h
  | .NamedExpr .., _, h => by simp [ckG] at h
  | .BinOp .., _, h => by simp [ckG] at h
  | .UnaryOp .., _, h => by simp [ckG] at h
  | .Lambda .., _, h => by simp [ckG] at h
  | .IfExp .., _, h => by simp [ckG] at h
  | .Dict .., _, h => by simp [ckG] at h
  | .Set .., _, h => by simp [ckG] at h
  | .ListComp .., _, h => by simp [ckG] at h
  | .SetComp .., _, h => by simp [ckG] at h
  | .DictComp .., _, h => by simp [ckG] at h
  | .GeneratorExp .., _, h => by simp [ckG] at h
  | .Await .., _, h => by simp [ckG] at h
  | .Yield .., _, h => by simp [ckG] at h
  | .YieldFrom .., _, h => by simp [ckG] at h
  | .Compare .., _, h => by simp [ckG] at h
  | .Call .., _, h => by simp [ckG] at h
  | .FormattedValue .., _, h => by simp [ckG] at h
  | .JoinedStr .., _, h => by simp [ckG] at h
  | .Constant .., _, h => by simp [ckG] at h
  | .Attribute .., _, h => by simp [ckG] at h
  | .Subscript .., _, h => by simp [ckG] at h
  | .Starred .., _, h => by simp [ckG] at h
  | .List .., _, h => by simp [ckG] at h
  | .Slice .., _, h => by simp [ckG] at h
theorem ckGs_ok {lc : Str → Bool} (hc : X.calm = true) (nd : X.N.Nodup) (hn : X.N = N) (hs : X.env.scope = sc) (hl : ∀ x, lc x = true → X.fn x = true) : ∀ (es : List Expr) (Ts : List Tg), ckGs lc N sc es Ts = true → PGs X es (tGs X.K Ts)
  | [], [], _ => g_nil
  | e :: es, t :: ts, h => by
    unfold ckGs at h
    simp only [Bool.and_eq_true] at h
    exact g_cons (ckG_ok hc nd hn hs hl e t h.1.2) (ckGs_ok hc nd hn hs hl es ts h.2) (by rw [asg_plain h.1.1]; rfl)
  | [], _ :: _, h => by simp [ckGs] at h
  | _ :: _, [], h => by simp [ckGs] at h
theorem ckGs_len {lc : Str → Bool} {env : PySem.Env} : ∀ (es : List Expr) (Ts : List Tg), ckGs lc N sc es Ts = true → (assignEach es env).length = Ts.length ∧ (assignEach es env).findIdx? (·.1) = none
  | [], [], _ => ⟨rfl, rfl⟩
  | e :: es, t :: ts, h => by
    unfold ckGs at h
    simp only [Bool.and_eq_true] at h
    obtain ⟨a, b⟩ := ckGs_len (env := env) es ts h.2
    rw [asg_plain h.1.1]
    refine ⟨by simp [a], ?_⟩
    rw [List.findIdx?_cons]
    simp [b]
  | [], _ :: _, h => by simp [ckGs] at h
  | _ :: _, [], h => by simp [ckGs] at h
end
end
end BW

namespace BW
open PySem PySem.W L2 PySem.Spec PyProof.Rows
section
variable {G : GC} {C : Str → Value} {sub : Str → Str → Option Bool} {fe : FE} {k : Nat}
/-- what a check of an expression promises -/
def CkOk (G : GC) (C : Str → Value) (sub : Str → Str → Option Bool) (fe : FE) (k : Nat) (r : Ck) : Prop :=
  ∀ (X : Cx) (w : WX) (N : List Str) (sc : Scope), EC X G C sub fe k w N sc → ∀ (e : Expr) (i : E),
    (r .e N sc e i = true → PE X e (tE X.K (WofX C w) (ev fe i))) ∧ (r .p N sc e i = true → PE X e (tP X.K (WofX C w) (ev fe i))) ∧
    (r .t N sc e i = true → PT X e (tT X.K (WofX C w) (evT (ev fe i)))) ∧ (r .w N sc e i = true → PW X e (tT X.K (WofX C w) (evT (ev fe i))))
variable {X : Cx} {w : WX} {N : List Str} {sc : Scope} {r : Ck}
theorem CkOk.e (h : CkOk G C sub fe k r) (c : EC X G C sub fe k w N sc) {e : Expr} {i : E} (x : r .e N sc e i = true) : PE X e (tE X.K (WofX C w) (ev fe i)) := (h X w N sc c e i).1 x
theorem CkOk.p (h : CkOk G C sub fe k r) (c : EC X G C sub fe k w N sc) {e : Expr} {i : E} (x : r .p N sc e i = true) : PE X e (tP X.K (WofX C w) (ev fe i)) := (h X w N sc c e i).2.1 x
theorem CkOk.t (h : CkOk G C sub fe k r) (c : EC X G C sub fe k w N sc) {e : Expr} {i : E} (x : r .t N sc e i = true) : PT X e (tT X.K (WofX C w) (evT (ev fe i))) := (h X w N sc c e i).2.2.1 x
theorem CkOk.pw (h : CkOk G C sub fe k r) (c : EC X G C sub fe k w N sc) {e : Expr} {i : E} (x : r .w N sc e i = true) : PW X e (tT X.K (WofX C w) (evT (ev fe i))) := (h X w N sc c e i).2.2.2 x
theorem PE.fn {X : Cx} {W : WN} {e : Expr} {f g : Env → Res D} (h : PE X e (tE X.K W f)) (q : f = g) : PE X e (tE X.K W g) := q ▸ h
theorem PI.fn {X : Cx} {W : WN} {tg e : Expr} {pk : Bool} {f g : Env → Res (List D)} (h : PI X tg e (tI X.K W pk f)) (q : f = g) : PI X tg e (tI X.K W pk g) := q ▸ h
theorem PA.fn {X : Cx} {W : WN} {e : List Expr} {f g : Env → Res (List D)} (h : PA X e (tA X.K W f)) (q : f = g) : PA X e (tA X.K W g) := q ▸ h
/-! ### lists of expressions -/
theorem ckL_ok (h : CkOk G C sub fe k r) (c : EC X G C sub fe k w N sc) : ∀ {es : List Expr} {is : List E}, ckL (r .e N sc) es is = true → PA X es (tA X.K (WofX C w) (evs fe is))
  | [], [], _ => PA.fn c_nil (by funext σ; simp [evs])
  | e :: es, i :: is, x => by
    simp only [ckL, Bool.and_eq_true] at x
    exact PA.fn (c_cons (h.e c x.1.2) (ckL_ok h c x.2) (star_plain x.1.1)) (by funext σ; simp [evs])
  | [], _ :: _, x => by simp [ckL] at x
  | _ :: _, [], x => by simp [ckL] at x
theorem ckL_plain {f : Expr → E → Bool} : ∀ {es : List Expr} {is : List E}, ckL f es is = true → es.all plainE = true ∧ es.length = is.length
  | [], [], _ => ⟨rfl, rfl⟩
  | e :: es, i :: is, x => by
    simp only [ckL, Bool.and_eq_true] at x
    obtain ⟨a, b⟩ := ckL_plain x.2
    exact ⟨by simp [x.1.1, a], by simp [b]⟩
  | [], _ :: _, x => by simp [ckL] at x
  | _ :: _, [], x => by simp [ckL] at x
theorem evs_len : ∀ {is : List E} {env : Env} {ds : List D}, evs fe is env = .ok ds → ds.length = is.length
  | [], _, _, h => by simp only [evs] at h; cases h; rfl
  | i :: is, env, ds, h => by
    simp only [evs] at h
    obtain ⟨d, _, h⟩ := bind_ok h
    obtain ⟨ds', e, h⟩ := bind_ok h
    cases h
    simp [evs_len e]
theorem ckTys_ok (c : EC X G C sub fe k w N sc) : ∀ {es : List Expr} {ts : List Ty}, ckTys sc es ts = true → Tys X es ts
  | [], [], _ => .nil
  | .Name x _ :: es, t :: ts, h => by
    simp only [ckTys, Bool.and_eq_true, decide_eq_true_eq] at h
    obtain ⟨⟨rfl, h1⟩, h2⟩ := h
    exact .cons (c.gl h1).1 (c.gx.bi _ (by cases t <;> decide)) (ckTys_ok c h2)
  | [], _ :: _, h => by simp [ckTys] at h
  | e :: _, [], h => by cases e <;> simp [ckTys] at h
  | .BoolOp .. :: _, _ :: _, h => by simp [ckTys] at h
  | .NamedExpr .. :: _, _ :: _, h => by simp [ckTys] at h
  | .BinOp .. :: _, _ :: _, h => by simp [ckTys] at h
  | .UnaryOp .. :: _, _ :: _, h => by simp [ckTys] at h
  | .Lambda .. :: _, _ :: _, h => by simp [ckTys] at h
  | .IfExp .. :: _, _ :: _, h => by simp [ckTys] at h
  | .Dict .. :: _, _ :: _, h => by simp [ckTys] at h
  | .Set .. :: _, _ :: _, h => by simp [ckTys] at h
  | .ListComp .. :: _, _ :: _, h => by simp [ckTys] at h
  | .SetComp .. :: _, _ :: _, h => by simp [ckTys] at h
  | .DictComp .. :: _, _ :: _, h => by simp [ckTys] at h
  | .GeneratorExp .. :: _, _ :: _, h => by simp [ckTys] at h
  | .Await .. :: _, _ :: _, h => by simp [ckTys] at h
  | .Yield .. :: _, _ :: _, h => by simp [ckTys] at h
  | .YieldFrom .. :: _, _ :: _, h => by simp [ckTys] at h
  | .Compare .. :: _, _ :: _, h => by simp [ckTys] at h
  | .Call .. :: _, _ :: _, h => by simp [ckTys] at h
  | .FormattedValue .. :: _, _ :: _, h => by simp [ckTys] at h
  | .JoinedStr .. :: _, _ :: _, h => by simp [ckTys] at h
  | .Constant .. :: _, _ :: _, h => by simp [ckTys] at h
  | .Attribute .. :: _, _ :: _, h => by simp [ckTys] at h
  | .Subscript .. :: _, _ :: _, h => by simp [ckTys] at h
  | .Starred .. :: _, _ :: _, h => by simp [ckTys] at h
  | .List .. :: _, _ :: _, h => by simp [ckTys] at h
  | .Tuple .. :: _, _ :: _, h => by simp [ckTys] at h
  | .Slice .. :: _, _ :: _, h => by simp [ckTys] at h
theorem few_plain {a : Expr} {cp : Pos} {env : PySem.Env} (h : plainE a = true) : ((backTo cp (starEach [a] env)).all (fun x => !x.1) && (backToKw cp (keywordEach [] env)).all (fun x => x.1.isSome) && decide (([a] : List Expr).length + ([] : List Keyword).length + (if ([] : List Keyword).isEmpty then 0 else 1) < 30)) = true := by
  rw [star_plain h]
  rfl
/-! ### constants -/
theorem ckK_ok (c : EC X G C sub fe k w N sc) {e : Expr} {d : D} (h : ckK G sc e d = true) : PE X e (tE X.K (WofX C w) (ev fe (.k d))) := by
  have hf : (ev fe (.k d)) = fun _ => .ok d := by funext σ; simp [ev]
  rw [hf]
  unfold ckK at h
  split at h
  · obtain ⟨rfl, _⟩ := scEq_of h; exact c_non
  · obtain ⟨rfl, _⟩ := scEq_of h; exact c_bl
  · obtain ⟨rfl, _⟩ := scEq_of h; exact c_int
  · obtain ⟨rfl, _⟩ := scEq_of h; exact c_str
  · simp only [Bool.and_eq_true] at h
    obtain ⟨h1, h2⟩ := h
    split at h2
    · rename_i x _ d' hl
      have := dEq_of h2
      subst this
      obtain ⟨v, u, m, rv, sv⟩ := c.gx.con _ _ hl
      exact c_glob (c.gl h1).1 m rv sv (c.gl h1).2
    · cases h2
  · cases h
/-! ### what is walked -/
theorem bi_of (c : EC X G C sub fe k w N sc) (x : Str) (h : x ∈ biNames) : X.mg x = none := c.gx.bi x h
theorem ckI_ok (h : CkOk G C sub fe k r) (c : EC X G C sub fe k w N sc) {pk : Bool} {tg e : Expr} {i : E} (x : ckI r N sc pk tg e i = true) : PI X tg e (tI X.K (WofX C w) pk fun σ => do let d ← ev fe i σ; itm d) := by
  have gen : ∀ {i : E}, r (if pk then .p else .e) N sc e i = true → PI X tg e (tI X.K (WofX C w) pk fun σ => do let d ← ev fe i σ; itm d) := fun {i} x => by
    cases pk with
    | true => exact i_P (h.p c x)
    | false => exact i_E (h.e c x)
  cases i with
  | rng a b cc =>
    simp only [ckI] at x
    split at x
    · rename_i x0 _ y _
      simp only [Bool.and_eq_true, decide_eq_true_eq] at x
      obtain ⟨⟨⟨⟨⟨rfl, x1⟩, x2⟩, x3⟩, x4⟩, x5⟩ := x
      split at x2
      · split at x3
        · refine PI.fn (i_range1 (c.gl x1).1 (bi_of c _ (by decide)) (h.p c x5) (star_plain x4)) ?_
          funext σ
          simp only [ev, Res.ok_bind]
          cases ev fe b σ <;> rfl
        · cases x3
      · cases x2
    · simp only [Bool.and_eq_true, decide_eq_true_eq] at x
      obtain ⟨⟨⟨⟨⟨⟨rfl, x1⟩, x2⟩, x3⟩, x4⟩, x5⟩, x6⟩ := x
      split at x2
      · refine PI.fn (i_range2 (c.gl x1).1 (bi_of c _ (by decide)) (h.p c x5) (h.p c x6) (by rw [star_plain x3, star_plain x4]; rfl) (star_plain x4)) ?_
        funext σ
        simp only [ev]
        cases ev fe a σ <;> first | rfl | skip
        cases ev fe b σ <;> rfl
      · cases x2
    · simp only [Bool.and_eq_true, decide_eq_true_eq] at x
      obtain ⟨⟨⟨⟨⟨⟨⟨⟨rfl, x1⟩, x2⟩, x3⟩, x4⟩, x5⟩, x6⟩, x7⟩, x8⟩ := x
      split at x2
      · refine PI.fn (i_range3 (c.gl x1).1 (bi_of c _ (by decide)) (h.p c x6) (h.p c x7) (h.p c x8) (star_plain x3) (star_plain x4) (star_plain x5) (back_plain (by simp [x4, x5]))) ?_
        funext σ
        simp only [ev, Res.ok_bind]
        cases ev fe a σ <;> first | rfl | skip
        cases ev fe b σ <;> rfl
      · cases x2
    · cases x
  | enm a =>
    simp only [ckI] at x
    split at x
    · simp only [Bool.and_eq_true, decide_eq_true_eq] at x
      obtain ⟨⟨⟨rfl, x1⟩, x2⟩, x3⟩ := x
      have e : (fun σ => (do let x ← ev fe a σ; let xs ← itm x; .ok (enumD 0 xs) : Res (List D))) = (fun σ => (do let d ← ev fe (.enm a) σ; itm d : Res (List D))) := by
        funext σ
        simp only [ev]
        cases ev fe a σ with
        | ok d => cases d <;> rfl
        | ex _ => rfl
        | bad => rfl
      cases pk with
      | true => exact PI.fn (i_enumP (c.gl x1).1 (bi_of c _ (by decide)) (h.p c x3) (star_plain x2)) e
      | false => exact PI.fn (i_enum (c.gl x1).1 (bi_of c _ (by decide)) (h.e c x3) (star_plain x2)) e
    · cases x
  | zip a b =>
    simp only [ckI] at x
    split at x
    · simp only [Bool.and_eq_true, decide_eq_true_eq] at x
      obtain ⟨⟨⟨⟨⟨rfl, x1⟩, x2⟩, x3⟩, x4⟩, x5⟩ := x
      have e : (fun σ => (do let x ← ev fe a σ; let y ← ev fe b σ; zpD x y : Res (List D))) = (fun σ => (do let d ← ev fe (.zip a b) σ; itm d : Res (List D))) := by
        funext σ
        simp only [ev]
        cases ev fe a σ with
        | ok d =>
          cases ev fe b σ with
          | ok d2 => cases d <;> cases d2 <;> rfl
          | ex _ => rfl
          | bad => rfl
        | ex _ => rfl
        | bad => rfl
      cases pk with
      | true => exact PI.fn (i_zipP (c.gl x1).1 (bi_of c _ (by decide)) (h.p c x4) (h.p c x5) (star_plain x2) (star_plain x3) (back_plain (by simp [x3]))) e
      | false => exact PI.fn (i_zip (c.gl x1).1 (bi_of c _ (by decide)) (h.e c x4) (h.e c x5) (star_plain x2) (star_plain x3) (back_plain (by simp [x3]))) e
    · cases x
  | _ => exact gen x
theorem ckComp_ok (h : CkOk G C sub fe k r) (c : EC X G C sub fe k w N sc) {o : Bool} {e : Expr} {elt it cc : E} {T : Tg} {own : List Nat} (x : ckComp r N sc e elt T it cc own = true) : PE X e (tV X.K (WofX C w) o (ev fe (.comp elt T it cc own))) := by
  unfold ckComp at x
  split at x
  · rename_i x0 tg iter ifs scope p
    simp only [Bool.and_eq_true, decide_eq_true_eq, List.all_eq_true] at x
    obtain ⟨⟨⟨⟨⟨⟨⟨x1, x2⟩, x3⟩, x4⟩, x5⟩, x6⟩, x7⟩, x8⟩ := x
    have bo : BlkOk X.N X.env.scope scope (ownS N own) := by rw [c.n, c.se]; exact blkOk_by x1
    have hg : ∀ (s : Shared) (H : Hp) (A : Addr) (cl : List (Str × Addr)) (fp : List Addr), PG (X.blk s H scope (compEnvC scope cl A X.env) fp) tg (tG X.K T) := fun s H A cl fp =>
      ckG_ok (X := X.blk s H scope (compEnvC scope cl A X.env) fp) c.ok.calm c.ok.nd c.n (c.blk scope s H A cl fp).se (fun x z => z) tg T x6
    have ht : ∀ (s : Shared) (H : Hp) (A : Addr) (cl : List (Str × Addr)) (fp : List Addr), PTs (X.blk s H scope (compEnvC scope cl A X.env) fp) ifs (tT X.K W0 (evT (ev fe cc))) := fun s H A cl fp => by
      split at x8
      · split at x8
        · have : (evT (ev fe (.k (.bool true)))) = fun _ => Res.ok true := by funext σ; simp [evT, ev, asBool]
          rw [this]
          exact t_yes (X := X.blk s H scope (compEnvC scope cl A X.env) fp)
        · cases x8
      · exact pts_one (h.t (c.blk scope s H A cl fp) x8)
      · cases x8
    have he : ∀ (s : Shared) (H : Hp) (A : Addr) (cl : List (Str × Addr)) (fp : List Addr), PE (X.blk s H scope (compEnvC scope cl A X.env) fp) x0 (tE X.K W0 (ev fe elt)) := fun s H A cl fp => h.e (c.blk scope s H A cl fp) x7
    have key := c_comp (o := o) (W := WofX C w) (pos := p) c.ok (ckI_ok h c x5) bo hg ht he (fold_notSet x3) (by rw [x2]; exact x4)
    rw [x2] at key
    refine PE.weak key fun σ H Q ⟨F, env, R, hh⟩ => ⟨F, env, R, ?_⟩
    have e : compD (fun σ => do let d ← ev fe it σ; itm d) T (evT (ev fe cc)) (ev fe elt) own env = ev fe (.comp elt T it cc own) env := by
      unfold compD
      simp only [ev]
      cases ev fe it env with
      | ex _ => rfl
      | bad => rfl
      | ok d =>
        have ef : compF T (evT (ev fe cc)) (ev fe elt) own env = fun d => (do
          let σ' ← bindT T d (wipeS env own)
          let t ← ev fe cc σ'
          let b ← asBool t
          if b then do
            let y ← ev fe elt σ'
            .ok (some y)
          else .ok none).quiet := by
          funext d
          unfold compF evT
          congr 1
          cases bindT T d (wipeS env own) with
          | ex _ => rfl
          | bad => rfl
          | ok σ' => simp only [Res.ok_bind, bind_assoc']
        rw [ef]
        cases d <;> rfl
    rw [e]
    exact hh
  · cases x
/-- the parts of a dict comprehension -/
structure DcParts (X : Cx) (C : Str → Value) (w : WX) (fe : FE) (x y tg iter : Expr) (ifs : List Expr) (scope : Scope) (own : List (Str × Nat)) (kx vx : E) (T : Tg) (it cc : E) : Prop where
  hi : PI X tg iter (tI X.K (WofX C w) true fun σ => do let d ← ev fe it σ; itm d)
  bo : BlkOk X.N X.env.scope scope own
  hg : ∀ (s : Shared) (H : Hp) (A : Addr) (cl : List (Str × Addr)) (fp : List Addr), PG (X.blk s H scope (compEnvC scope cl A X.env) fp) tg (tG X.K T)
  ht : ∀ (s : Shared) (H : Hp) (A : Addr) (cl : List (Str × Addr)) (fp : List Addr), PTs (X.blk s H scope (compEnvC scope cl A X.env) fp) ifs (tT X.K W0 (evT (ev fe cc)))
  hk : ∀ (s : Shared) (H : Hp) (A : Addr) (cl : List (Str × Addr)) (fp : List Addr), PE (X.blk s H scope (compEnvC scope cl A X.env) fp) x (tE X.K W0 (ev fe kx))
  he : ∀ (s : Shared) (H : Hp) (A : Addr) (cl : List (Str × Addr)) (fp : List Addr), PE (X.blk s H scope (compEnvC scope cl A X.env) fp) y (tE X.K W0 (ev fe vx))
  hs : ∀ x, foldedSetIterable iter X.env x = pure x
  hT : ∀ i ∈ T.sl, i ∈ own.map (·.2)
theorem dcD_ev {kx vx it cc : E} {T : Tg} {own : List Nat} : dcompD (fun σ => do let d ← ev fe it σ; itm d) T (evT (ev fe cc)) (ev fe kx) (ev fe vx) own = ev fe (.dcomp kx vx T it cc own) := by
  funext env
  unfold dcompD
  simp only [ev]
  cases ev fe it env with
  | ex _ => rfl
  | bad => rfl
  | ok d =>
    have ef : dcompF T (evT (ev fe cc)) (ev fe kx) (ev fe vx) own env = fun d => (do
      let σ' ← bindT T d (wipeS env own)
      let t ← ev fe cc σ'
      let b ← asBool t
      if b then do
        let y ← ev fe kx σ'
        let z ← ev fe vx σ'
        .ok (some (y, z))
      else .ok none).quiet := by
      funext d
      unfold dcompF evT
      congr 1
      cases bindT T d (wipeS env own) with
      | ex _ => rfl
      | bad => rfl
      | ok σ' => simp only [Res.ok_bind, bind_assoc']
    rw [ef]
    cases d <;> rfl
theorem ckDComp_parts (h : CkOk G C sub fe k r) (c : EC X G C sub fe k w N sc) {e : Expr} {kx vx it cc : E} {T : Tg} {own : List Nat} (x : ckDComp r N sc e kx vx T it cc own = true) :
    ∃ x0 y0 tg iter ifs scope p, e = .DictComp x0 y0 [⟨tg, iter, ifs, 0⟩] scope p ∧ (ownS N own).map (·.2) = own ∧ DcParts X C w fe x0 y0 tg iter ifs scope (ownS N own) kx vx T it cc := by
  unfold ckDComp at x
  split at x
  · rename_i x0 y0 tg iter ifs scope p
    simp only [Bool.and_eq_true, decide_eq_true_eq, List.all_eq_true] at x
    obtain ⟨⟨⟨⟨⟨⟨⟨⟨x1, x2⟩, x3⟩, x4⟩, x5⟩, x6⟩, x7⟩, x7'⟩, x8⟩ := x
    refine ⟨x0, y0, tg, iter, ifs, scope, p, rfl, x2, ckI_ok h c x5, by rw [c.n, c.se]; exact blkOk_by x1, fun s H A cl fp => ?_, fun s H A cl fp => ?_, fun s H A cl fp => h.e (c.blk scope s H A cl fp) x7, fun s H A cl fp => h.e (c.blk scope s H A cl fp) x7', fold_notSet x3, by rw [x2]; exact x4⟩
    · exact ckG_ok (X := X.blk s H scope (compEnvC scope cl A X.env) fp) c.ok.calm c.ok.nd c.n (c.blk scope s H A cl fp).se (fun x z => z) tg T x6
    · split at x8
      · split at x8
        · have : (evT (ev fe (.k (.bool true)))) = fun _ => Res.ok true := by funext σ; simp [evT, ev, asBool]
          rw [this]
          exact t_yes (X := X.blk s H scope (compEnvC scope cl A X.env) fp)
        · cases x8
      · exact pts_one (h.t (c.blk scope s H A cl fp) x8)
      · cases x8
  · cases x
theorem ckDComp_ok (h : CkOk G C sub fe k r) (c : EC X G C sub fe k w N sc) {o : Bool} {e : Expr} {kx vx it cc : E} {T : Tg} {own : List Nat} (x : ckDComp r N sc e kx vx T it cc own = true) : PE X e (tV X.K (WofX C w) o (ev fe (.dcomp kx vx T it cc own))) := by
  obtain ⟨x0, y0, tg, iter, ifs, scope, p, rfl, e2, q⟩ := ckDComp_parts h c x
  have key := c_dcomp (o := o) (W := WofX C w) (pos := p) c.ok q.hi q.bo q.hg q.ht q.hk q.he q.hs q.hT
  rw [e2, dcD_ev] at key
  exact key
theorem ckE1_ok (h : CkOk G C sub fe k r) (c : EC X G C sub fe k w N sc) {e : Expr} {i : E} (x : ckE1 G r N sc e i = true) : PE X e (tE X.K (WofX C w) (ev fe i)) := by
  cases i with
  | k d => exact ckK_ok c x
  | v i =>
    simp only [ckE1] at x
    split at x
    · obtain ⟨h1, h2, h3, h4⟩ := c.slot x
      exact PE.fn (c_v h1 h2 h3 h4) (by funext σ; simp [ev])
    · cases x
  | p i => cases x
  | tup es =>
    simp only [ckE1] at x
    split at x
    · simp only [Bool.and_eq_true, decide_eq_true_eq] at x
      exact PE.fn (c_tup (ckL_ok h c x.1) fun env ds e => by rw [evs_len e]; omega) (by funext σ; simp [ev])
    · cases x
  | lst es =>
    simp only [ckE1] at x
    split at x
    · simp only [Bool.and_eq_true, decide_eq_true_eq] at x
      exact PE.fn (c_lst (ckL_ok h c x.1) fun env ds e => by rw [evs_len e]; omega) (by funext σ; simp [ev])
    · cases x
  | op o a b =>
    simp only [ckE1] at x
    split at x
    · simp only [Bool.and_eq_true, decide_eq_true_eq] at x
      obtain ⟨⟨rfl, x1⟩, x2⟩ := x
      exact PE.fn (c_op o (h.p c x1) (h.p c x2)) (by funext σ; simp [ev])
    · cases x
  | cmp o a b =>
    simp only [ckE1] at x
    split at x
    · simp only [Bool.and_eq_true, decide_eq_true_eq, Bool.not_eq_true'] at x
      obtain ⟨⟨⟨rfl, x0⟩, x1⟩, x2⟩ := x
      exact PE.fn (c_cmp c.ok o (h.p c x1) (h.p c x2) x0) (by funext σ; simp [ev, cmpV])
    · cases x
  | ch o q a b cc =>
    simp only [ckE1] at x
    split at x
    · simp only [Bool.and_eq_true, decide_eq_true_eq, Bool.not_eq_true'] at x
      obtain ⟨⟨⟨⟨⟨rfl, rfl⟩, x0⟩, x1⟩, x2⟩, x3⟩ := x
      exact PE.fn (c_ch c.ok o q (h.p c x1) (h.p c x2) (h.p c x3) x0) (by funext σ; simp [ev, evCh])
    · cases x
  | and a b =>
    simp only [ckE1] at x
    split at x
    · rename_i x0 y0 rest p
      simp only [Bool.and_eq_true] at x
      obtain ⟨x1, x2⟩ := x
      have hb : PE X (.BoolOp .And (y0 :: rest) p) (tE X.K (WofX C w) (ev fe b)) := by
        split at x2
        · exact c_and1 (h.e c x2)
        · exact h.e c x2
      exact PE.fn (c_and (h.p c x1) hb) (by funext σ; simp [ev, evAnd])
    · cases x
  | or a b =>
    simp only [ckE1] at x
    split at x
    · rename_i x0 y0 rest p
      simp only [Bool.and_eq_true] at x
      obtain ⟨x1, x2⟩ := x
      have hb : PE X (.BoolOp .Or (y0 :: rest) p) (tE X.K (WofX C w) (ev fe b)) := by
        split at x2
        · exact c_or1 (h.e c x2)
        · exact h.e c x2
      exact PE.fn (c_or (h.p c x1) hb) (by funext σ; simp [ev, evOr])
    · cases x
  | not a =>
    simp only [ckE1] at x
    split at x
    · exact PE.fn (c_not (h.p c x)) (by funext σ; simp [ev])
    · cases x
  | neg a =>
    simp only [ckE1] at x
    split at x
    · exact PE.fn (c_neg (h.p c x)) (by funext σ; simp [ev])
    · cases x
  | ite cc a b =>
    simp only [ckE1] at x
    split at x
    · simp only [Bool.and_eq_true] at x
      exact PE.fn (c_ite (h.t c x.1.1) (h.e c x.1.2) (h.e c x.2)) (by funext σ; simp [ev])
    · cases x
  | isN a =>
    simp only [ckE1] at x
    split at x
    · exact PE.fn (c_isN (h.p c x)) (by funext σ; simp [ev])
    · cases x
  | notN a =>
    simp only [ckE1] at x
    split at x
    · exact PE.fn (c_notN (h.p c x)) (by funext σ; simp [ev])
    · cases x
  | ix a b =>
    simp only [ckE1] at x
    split at x
    · simp only [Bool.and_eq_true] at x
      exact PE.fn (c_ix c.ok (h.p c x.1.2) (h.p c x.2) (ix_plain x.1.1)) (by funext σ; simp [ev])
    · cases x
  | slf a l =>
    simp only [ckE1] at x
    split at x
    · simp only [Bool.and_eq_true] at x
      exact PE.fn (c_slf (h.p c x.1) (h.p c x.2)) (by funext σ; simp [ev])
    · cases x
  | slt a l =>
    simp only [ckE1] at x
    split at x
    · simp only [Bool.and_eq_true] at x
      exact PE.fn (c_slt (h.p c x.1) (h.p c x.2)) (by funext σ; simp [ev])
    · cases x
  | slb a l hh =>
    simp only [ckE1] at x
    split at x
    · simp only [Bool.and_eq_true] at x
      exact PE.fn (c_slb (h.p c x.1.1) (h.p c x.1.2) (h.p c x.2)) (by funext σ; simp [ev])
    · cases x
  | rev a =>
    simp only [ckE1] at x
    split at x
    · exact PE.fn (c_rev (h.p c x)) (by funext σ; simp [ev])
    · cases x
  | call f es =>
    simp only [ckE1] at x
    split at x
    · simp only [Bool.and_eq_true, decide_eq_true_eq] at x
      obtain ⟨⟨x1, x2⟩, x3⟩ := x
      obtain ⟨fA, fd, ps, m, kp, bd, fn⟩ := c.gx.fns _ _ _ x2
      obtain ⟨p1, p2⟩ := ckL_plain x3
      rw [List.all_cons, Bool.and_eq_true] at p1
      exact PE.fn (c_call fn c.hr (c.gl x1).1 m kp bd c.tk (ckL_ok h c x3) (fun env ds e => by rw [evs_len e]) (c.gl x1).2 (star_plain p1.1) (back_plain p1.2)) (by funext σ; simp [ev])
    · cases x
  | b1 b a =>
    simp only [ckE1] at x
    unfold ckB1 at x
    split at x
    · split at x
      · simp only [Bool.and_eq_true, decide_eq_true_eq] at x
        obtain ⟨⟨⟨⟨⟨rfl, rfl⟩, x1⟩, x2⟩, x3⟩, x4⟩ := x
        exact PE.fn (c_sset c.ok (c.gl x1).1 (bi_of c _ (by decide)) (c.gl x2).1 (bi_of c _ (by decide)) (h.p c x4) (star_plain x3)) (by funext σ; simp [ev])
      · cases x
    · split at x
      · simp only [Bool.and_eq_true, decide_eq_true_eq] at x
        obtain ⟨⟨⟨⟨⟨rfl, rfl⟩, x1⟩, x2⟩, x3⟩, x4⟩ := x
        exact PE.fn (c_lset c.ok (c.gl x1).1 (bi_of c _ (by decide)) (c.gl x2).1 (bi_of c _ (by decide)) (h.p c x4) (star_plain x3)) (by funext σ; simp [ev])
      · cases x
    · split at x
      · simp only [Bool.and_eq_true, decide_eq_true_eq] at x
        obtain ⟨⟨⟨⟨rfl, x1⟩, x2⟩, x3⟩, x4⟩ := x
        refine PE.fn (c_b1 c.ok b x1 (c.gl x2).1 (bi_of c _ ?_) (h.p c x4) (star_plain x3)) (by funext σ; simp [ev])
        cases b <;> first | decide | exact absurd rfl x1.1 | exact absurd rfl x1.2
      · cases x
  | b2 b a cc =>
    simp only [ckE1] at x
    split at x
    · simp only [Bool.and_eq_true, decide_eq_true_eq] at x
      obtain ⟨⟨⟨⟨⟨rfl, x2⟩, x3⟩, x4⟩, x5⟩, x6⟩ := x
      refine PE.fn (c_b2 c.ok b (c.gl x2).1 (bi_of c _ ?_) (h.p c x5) (h.p c x6) (star_plain x3) (star_plain x4) (back_plain (by simp [x4]))) (by funext σ; simp [ev])
      cases b <;> decide
    · cases x
  | isi a ts =>
    simp only [ckE1] at x
    split at x
    · simp only [Bool.and_eq_true, decide_eq_true_eq] at x
      obtain ⟨⟨⟨⟨⟨rfl, x1⟩, x2⟩, x3⟩, x4⟩, x5⟩ := x
      exact PE.fn (c_isiT x3 (c.gl x1).1 (bi_of c _ (by decide)) (h.p c x5) (ckTys_ok c x4) (star_plain x2)) (by funext σ; simp [ev])
    · simp only [Bool.and_eq_true, decide_eq_true_eq] at x
      obtain ⟨⟨⟨⟨⟨rfl, x1⟩, x2⟩, x3⟩, x4⟩, x5⟩ := x
      split at x4
      · rename_i t
        have x4 := of_decide_eq_true x4
        subst x4
        exact PE.fn (c_isi (c.gl x1).1 (bi_of c _ (by decide)) (h.p c x5) (c.gl x3).1 (bi_of c _ (by cases t <;> decide)) (star_plain x2)) (by funext σ; simp [ev])
      · cases x4
    · cases x
  | rng _ _ _ => cases x
  | enm _ => cases x
  | zip _ _ => cases x
  | comp elt T it cc own => exact ckComp_ok (o := false) h c x
  | dnil => cases x
  | dcomp kx vx T it cc own => exact ckDComp_ok (o := false) h c x
  | any => exact PE.fn c_any (by funext σ; simp [ev])
  | rl t a b =>
    simp only [ckE1] at x
    split at x
    · simp only [Bool.and_eq_true, decide_eq_true_eq] at x
      obtain ⟨⟨⟨⟨⟨⟨rfl, rfl⟩, x1⟩, x2⟩, x3⟩, x4⟩, x5⟩ := x
      split at x3
      · exact PE.fn (c_rl1 c.ok t (c.gl x1).1 (bi_of c _ (by cases t <;> decide)) (c.gl x2).1 (bi_of c _ (by decide)) (h.p c x5) (star_plain rfl) (star_plain x4)) (by funext σ; simp [ev])
      · cases x3
    · simp only [Bool.and_eq_true, decide_eq_true_eq] at x
      obtain ⟨⟨⟨⟨⟨⟨⟨rfl, rfl⟩, x1⟩, x2⟩, x3⟩, x4⟩, x5⟩, x6⟩ := x
      exact PE.fn (c_rl2 c.ok t (c.gl x1).1 (bi_of c _ (by cases t <;> decide)) (c.gl x2).1 (bi_of c _ (by decide)) (h.p c x5) (h.p c x6) (star_plain rfl) (star_plain x3) (star_plain x4) (back_plain (by simp [x4]))) (by funext σ; simp [ev])
    · cases x
  | idx a b =>
    simp only [ckE1] at x
    split at x
    · simp only [Bool.and_eq_true, decide_eq_true_eq] at x
      obtain ⟨⟨⟨⟨rfl, x1⟩, x3⟩, x4⟩, x5⟩ := x
      exact PE.fn (c_idx (room65 c.hr) (h.p c x4) (h.p c x5) rfl (star_plain x1) (few_plain x1) x3) (by funext σ; simp [ev])
    · cases x
  | join a b =>
    simp only [ckE1] at x
    split at x
    · simp only [Bool.and_eq_true, decide_eq_true_eq] at x
      obtain ⟨⟨⟨⟨rfl, rfl⟩, x1⟩, x3⟩, x5⟩ := x
      exact PE.fn (c_join (h.p c x5) rfl (star_plain x1) (few_plain x1) x3) (by funext σ; simp [ev])
    · cases x
theorem isAny_of {e : E} (h : isAny e = true) : e = .any := by cases e <;> first | rfl | exact absurd h Bool.false_ne_true
theorem ckT0_ok (h : CkOk G C sub fe k r) (c : EC X G C sub fe k w N sc) {e : Expr} {i : E} (x : ckT0 r N sc e i = true) : PT X e (tT X.K (WofX C w) (evT (ev fe i))) := by
  unfold ckT0 at x
  split at x
  · exact (h.pw c x).pt
  · split at x
    · rename_i a
      have := c_notT (pos := by assumption) (h.t c x)
      refine PT.weak this fun σ H Q ⟨F, env, R, hh⟩ => ⟨F, env, R, ?_⟩
      simpa [ev] using hh
    · cases x
  · split at x
    · rename_i o' a b
      simp only [Bool.and_eq_true, decide_eq_true_eq, Bool.not_eq_true'] at x
      obtain ⟨⟨⟨rfl, x0⟩, x1⟩, x2⟩ := x
      have e : (fun σ => (do let x ← ev fe a σ; let y ← ev fe b σ; cmpV o' x y : Res D)) = ev fe (.cmp o' a b) := by funext σ; simp [ev, cmpV]
      rw [← e]
      exact c_cmpT c.ok o' (h.p c x1) (h.p c x2) x0
    · rename_i a
      split at x
      · have e : (fun σ => (do let x ← ev fe a σ; .ok (.bool !(notNone x)) : Res D)) = ev fe (.isN a) := by funext σ; simp [ev]
        rw [← e]
        exact c_isNT (h.p c x)
      · cases x
    · rename_i a
      split at x
      · have e : (fun σ => (do let x ← ev fe a σ; .ok (.bool (notNone x)) : Res D)) = ev fe (.notN a) := by funext σ; simp [ev]
        rw [← e]
        exact c_notNT (h.p c x)
      · cases x
    · cases x
  · split at x
    · rename_i o' q' a b cc
      simp only [Bool.and_eq_true, decide_eq_true_eq, Bool.not_eq_true'] at x
      obtain ⟨⟨⟨⟨⟨rfl, rfl⟩, x0⟩, x1⟩, x2⟩, x3⟩ := x
      have e : evCh o' q' (ev fe a) (ev fe b) (ev fe cc) = ev fe (.ch o' q' a b cc) := by funext σ; simp [ev, evCh]
      rw [← e]
      exact c_chT c.ok o' q' (h.p c x1) (h.p c x2) (h.p c x3) x0
    · cases x
  · simp only [Bool.and_eq_true] at x
    exact c_tst (h.p c x.2) (tst_plain x.1)
theorem ckT1_ok (h : CkOk G C sub fe k r) (c : EC X G C sub fe k w N sc) {e : Expr} {i : E} (x : ckT1 r N sc e i = true) : PT X e (tT X.K (WofX C w) (evT (ev fe i))) := by
  unfold ckT1 at x
  rw [Bool.or_eq_true] at x
  rcases x with x | x
  · rw [isAny_of x, show evT (ev fe E.any) = fun _ => .bad by funext σ; simp [evT, ev]]; exact t_any
  · exact ckT0_ok h c x
theorem ckW0_ok (h : CkOk G C sub fe k r) (c : EC X G C sub fe k w N sc) {e : Expr} {i : E} (x : ckW0 r N sc e i = true) : PW X e (tT X.K (WofX C w) (evT (ev fe i))) := by
  unfold ckW0 at x
  split at x
  · exact w_and1 (h.t c x)
  · exact w_or1 (h.t c x)
  · split at x
    · rename_i a b
      simp only [Bool.and_eq_true] at x
      have e : evAnd (ev fe a) (ev fe b) = ev fe (.and a b) := by funext σ; simp [ev, evAnd]
      rw [← e]
      exact w_and (h.t c x.1) (h.pw c x.2)
    · cases x
  · split at x
    · rename_i a b
      simp only [Bool.and_eq_true] at x
      have e : evOr (ev fe a) (ev fe b) = ev fe (.or a b) := by funext σ; simp [ev, evOr]
      rw [← e]
      exact w_or (h.t c x.1) (h.pw c x.2)
    · cases x
  · cases x
theorem ckW1_ok (h : CkOk G C sub fe k r) (c : EC X G C sub fe k w N sc) {e : Expr} {i : E} (x : ckW1 r N sc e i = true) : PW X e (tT X.K (WofX C w) (evT (ev fe i))) := by
  unfold ckW1 at x
  rw [Bool.or_eq_true] at x
  rcases x with x | x
  · rw [isAny_of x, show evT (ev fe E.any) = fun _ => .bad by funext σ; simp [evT, ev]]; exact w_any
  · exact ckW0_ok h c x
theorem ck_ok : ∀ n : Nat, CkOk G C sub fe k (ck G n)
  | 0 => fun X w N sc c e i => ⟨(fun x => nomatch x), (fun x => nomatch x), (fun x => nomatch x), (fun x => nomatch x)⟩
  | n + 1 => fun X w N sc c e i => ⟨fun x => ckE1_ok (ck_ok n) c x, fun x => by
      simp only [ck] at x
      split at x
      · split at x
        · obtain ⟨h1, h2, h3, h4⟩ := c.slot x
          rename_i j _ _ _
          have e : (fun σ => peek σ j) = ev fe (.p j) := by funext σ; simp only [ev]
          rw [← e]
          exact c_p h1 h2 h3 h4
        · cases x
      · exact PE.pk (ckE1_ok (ck_ok n) c x), fun x => ckT1_ok (ck_ok n) c x, fun x => ckW1_ok (ck_ok n) c x⟩
end
end BW

namespace BW
open PySem PySem.W L2 PySem.Spec PyProof.Rows
def notComp : Expr → Bool
  | .ListComp _ _ _ _ => false
  | .SetComp _ _ _ _ => false
  | .DictComp _ _ _ _ _ => false
  | _ => true
theorem swaps_plain {e : Expr} {t : Option Expr} {l : Nat} {env : PySem.Env} (h : notComp e = true) : swapsWith e t l env = pure false := by
  cases e <;> first | rfl | exact absurd h Bool.false_ne_true
/-- name = [..]: is the store swapped with the list -/
def swB (sc : Scope) (x : Str) (p : Pos) (scope : Scope) (vp : Pos) : Bool := decide (sc.names.lookup x = some .local) && (p.line == vp.line) && !(scope.names.any fun (n, k) => n == x && (k == .local || k == .cell))
theorem sw_comp {elt : Expr} {gs : List Comprehension} {scope : Scope} {vp p : Pos} {x : Str} {l : Nat} {env : PySem.Env} (hk : env.scope.kind = .function) : swapsWith (.ListComp elt gs scope vp) (some (.Name x p)) l env = pure (swB env.scope x p scope vp) := by
  have hb : env.blockKind = .function := by unfold Env.blockKind; rw [hk]; rfl
  unfold swapsWith swB
  simp only [hb, Expr.pos]
  have : (env.kindOf x == some NameKind.local) = decide (List.lookup x env.scope.names = some NameKind.local) := by
    show (List.lookup x env.scope.names == some NameKind.local) = _
    by_cases h : List.lookup x env.scope.names = some NameKind.local <;> simp [h]
  rw [this]
  rfl
theorem sw_dcomp {a b : Expr} {gs : List Comprehension} {scope : Scope} {vp p : Pos} {x : Str} {l : Nat} {env : PySem.Env} (hk : env.scope.kind = .function) : swapsWith (.DictComp a b gs scope vp) (some (.Name x p)) l env = pure (swB env.scope x p scope vp) := by
  have hb : env.blockKind = .function := by unfold Env.blockKind; rw [hk]; rfl
  unfold swapsWith swB
  simp only [hb, Expr.pos]
  have : (env.kindOf x == some NameKind.local) = decide (List.lookup x env.scope.names = some NameKind.local) := by
    show (List.lookup x env.scope.names == some NameKind.local) = _
    by_cases h : List.lookup x env.scope.names = some NameKind.local <;> simp [h]
  rw [this]
  rfl
theorem dcomp_fresh {fi : Env → Res (List D)} {T : Tg} {fc : Env → Res Bool} {fk fv : Env → Res D} {vs : List Nat} {σ : Env} : dcompD fi T fc fk fv vs σ >>= freshD = dcompD fi T fc fk fv vs σ := by
  unfold dcompD
  cases fi σ with
  | ex _ => rfl
  | bad => rfl
  | ok d =>
    simp only [Res.ok_bind]
    cases dcompR (dcompF T fc fk fv vs σ) d [] <;> rfl
def notTup : Expr → Bool
  | .Tuple _ _ _ => false
  | _ => true
theorem swst_plain {tg e : Expr} {env : PySem.Env} (h : notTup e = true) : swappedStores [tg] e env = pure none := by
  cases e <;> first | exact absurd h Bool.false_ne_true | (cases tg <;> rfl)
def swNames (sc : Scope) (ts : List Expr) : List Str := ts.filterMap fun
  | .Name id pos => if sc.names.lookup id == some .local && pos.line == (ts.head?.map (·.pos.line)).getD 0 then some id else none
  | _ => none
/-- several names are set, and not one by one -/
def swNone (sc : Scope) (tg a : Expr) : Bool := match a with
  | .Tuple _ _ _ => (match tg with | .Tuple ts _ _ => decide (ts.length ≠ 2 ∧ ts.length ≠ 3) || decide ((swNames sc ts).length ≠ ts.length) | _ => false)
  | _ => true
theorem swNone_of {tg a : Expr} {env : PySem.Env} (h : swNone env.scope tg a = true) : swappedStores [tg] a env = pure none := by
  unfold swNone at h
  split at h
  · rename_i vs k p
    split at h
    · rename_i ts k2 p2
      rw [Bool.or_eq_true, decide_eq_true_eq, decide_eq_true_eq] at h
      unfold swappedStores
      dsimp only
      split
      · rfl
      · rename_i hc
        split
        · rfl
        · have hn : (swNames env.scope ts).length ≠ ts.length := by
            rcases h with h | h
            · exfalso
              apply hc
              have h1 := h.1
              have h2 := h.2
              simp [h1, h2]
            · exact h
          refine if_pos ?_
          rw [Bool.or_eq_true]
          exact .inl (bne_iff_ne.mpr hn)
    · cases h
  · rename_i hne
    unfold swappedStores
    split
    · rename_i x y he
      exfalso
      split at he
      · exact hne _ _ _ rfl
      · exact hne _ _ _ rfl
      · cases he
    · rfl
theorem swst_sub {a b e : Expr} {p : Pos} {env : PySem.Env} : swappedStores [.Subscript a b p] e env = pure none := by cases e <;> rfl
/-- x, y = a, b -/
def parB (sc : Scope) (x y : Str) (px py : Pos) (a b : Expr) : Bool :=
  decide (sc.names.lookup x = some .local) && decide (sc.names.lookup y = some .local) && (py.line == px.line) && !(x == y) && !([a, b].all (foldedForSure 8)) && !([a, b].all (constantsAlone 8)) && plainE a && plainE b
theorem par_of {x y : Str} {px py pt pt2 : Pos} {kt k2 : Nat} {a b : Expr} {env : PySem.Env} (hk : env.scope.kind = .function) (h : parB env.scope x y px py a b = true) :
    swappedStores [.Tuple [.Name x px, .Name y py] kt pt] (.Tuple [a, b] k2 pt2) env = pure (some [x, y]) := by
  have hb : env.blockKind = .function := by unfold Env.blockKind; rw [hk]; rfl
  unfold parB at h
  simp only [Bool.and_eq_true, decide_eq_true_eq, Bool.not_eq_true', beq_iff_eq, beq_eq_false_iff_ne] at h
  obtain ⟨⟨⟨⟨⟨⟨⟨h1, h2⟩, h3⟩, h4⟩, h5⟩, h6⟩, h7⟩, h8⟩ := h
  have k1 : env.kindOf x = some .local := h1
  have k2' : env.kindOf y = some .local := h2
  have st : ([a, b].any fun | .Starred .. => true | _ => false) = false := by
    cases a <;> first | exact absurd h7 Bool.false_ne_true | (cases b <;> first | exact absurd h8 Bool.false_ne_true | rfl)
  have er : [x, y].eraseDups = [x, y] := by
    have h9 : (y == x) = false := beq_eq_false_iff_ne.mpr fun e => h4 e.symm
    simp [List.eraseDups_cons, h9]
  unfold swappedStores
  simp [hb, st, Expr.pos, k1, k2', h3, er, h5, h6]
  intro z
  exfalso
  rcases z with z | z
  · cases a <;> first | exact absurd h7 Bool.false_ne_true | cases z
  · cases b <;> first | exact absurd h8 Bool.false_ne_true | cases z
/-! ### statements against their form -/
/-- a value, or a new list or dict -/
def ckV (G : GC) (r : Ck) (N : List Str) (sc : Scope) (o : Bool) (e : Expr) (i : E) : Bool := match o with
  | false => r .e N sc e i
  | true => (match i with
    | .lst es => (match e with | .List xs _ => ckL (r .e N sc) xs es && decide (es.length ≤ 1000) | _ => false)
    | .op o a b => (match e with | .BinOp x q y _ => decide (q = opM o) && decide (o = .add ∨ o = .mul) && r .p N sc x a && r .p N sc y b | _ => false)
    | .comp elt T it c own => ckComp r N sc e elt T it c own
    | .dnil => (match e with | .Dict [] [] _ => true | _ => false)
    | .dcomp kx vx T it c own => ckDComp r N sc e kx vx T it c own
    | _ => false)
/-- name = value -/
def ckSet (G : GC) (r : Ck) (N : List Str) (sc : Scope) (o : Bool) (s : Stmt) (j : Nat) (i : E) : Bool := match s with
  | .Assign [.Name x p'] e _ => decide (N[j]? = some x) && locB sc x && (match e with
    | .ListComp _ [⟨_, _, _, 0⟩] scope vp => (match i with
      | .comp elt T it c own => ckComp r N sc e elt T it c own
      | _ => false)
    | .DictComp _ _ [⟨_, _, _, 0⟩] scope vp => (match i with
      | .dcomp kx vx T it c own => ckDComp r N sc e kx vx T it c own
      | _ => false)
    | e => notComp e && ckV G r N sc o e i)
  | _ => false
def ckHs (G : GC) (sc : Scope) : List ExceptHandler → List (Str × HR) → Bool
  | [], [] => true
  | .ExceptHandler (some (.Name x _)) none [.Return (some (.Constant c _ _)) _] _ :: hs, (y, .k d) :: rs => decide (x = y) && decide (x ∈ G.exc) && glB sc x &&
    (match c with | .bool b => scEq (.bool b) d | .int b => scEq (.int b) d | .str b => scEq (.str b) d | .none => scEq .none d | _ => false) && ckHs G sc hs rs
  | _, _ => false
def ckSs (r : Stmt → S → Bool) : List Stmt → List S → Bool
  | ss, .fr _ :: is => ckSs r ss is
  | ss, .wipe _ :: is => ckSs r ss is
  | s :: ss, i :: is => r s i && ckSs r ss is
  | [], [] => true
  | _, _ => false
def ckPar (G : GC) (r : Ck) (N : List Str) (sc : Scope) (s : Stmt) (is : List (Nat × Bool)) (es : List E) : Bool := match is, es with
  | [(j1, o1), (j2, o2)], [e1, e2] => (match s with
    | .Assign [.Tuple [.Name x px, .Name y py] _ _] (.Tuple [a, b] _ _) _ => parB sc x y px py a b && decide (N[j1]? = some x) && decide (N[j2]? = some y) && decide (j1 ≠ j2) && ckV G r N sc o1 a e1 && ckV G r N sc o2 b e2
    | _ => false)
  | _, _ => false
def ckIs (nm c : Str) (r : Expr) (d1 d2 : D) : Bool := match r with
  | .Call (.Name f _) [.Name e' _, .Name c' _] [] _ => decide (f = ("isinstance" : Str)) && decide (e' = nm) && decide (c' = c) && scEq (.bool true) d1 && scEq (.bool false) d2
  | .IfExp (.Call (.Name f _) [.Name e' _, .Name c' _] [] _) (.Constant (.str s1) _ _) (.Constant (.str s2) _ _) _ => decide (f = ("isinstance" : Str)) && decide (e' = nm) && decide (c' = c) && scEq (.str s1) d1 && scEq (.str s2) d2
  | _ => false
def ckTr0 (G : GC) (sc : Scope) (N : List Str) (rb : List Stmt → Bool) (s : Stmt) (hs : List (Str × HR)) : Bool := match hs with
  | [(y, .is c d1 d2)] => (match s with
    | .Try body [.ExceptHandler (some (.Name x _)) (some nm) [.Return (some r) _] _] [] [] _ => decide (x = y) && decide (x ∈ G.exc) && decide (c ∈ G.exc) && glB sc x && glB sc c && glB sc "isinstance" && (match N.findIdx? (· == nm) with | some j => slotB N sc nm j | none => false) && decide (sc.names.lookup nm = some .local) && rb body && ckIs nm c r d1 d2
    | _ => false)
  | hs => (match s with | .Try body (h0 :: hds) [] [] _ => ckHs G sc (h0 :: hds) hs && rb body | _ => false)
def ckHsM (G : GC) (sc : Scope) (N : List Str) : List ExceptHandler → List (Str × HR) → Bool
  | [], [] => true
  | .ExceptHandler (some (.Name x _)) none [.Return (some (.Constant c _ _)) _] _ :: hs, (y, .k d) :: rs => decide (x = y) && decide (x ∈ G.exc) && glB sc x &&
    (match c with | .bool b => scEq (.bool b) d | .int b => scEq (.int b) d | .str b => scEq (.str b) d | .none => scEq .none d | _ => false) && ckHsM G sc N hs rs
  | .ExceptHandler (some (.Name x _)) (some nm) [.Return (some r) _] _ :: hs, (y, .is c d1 d2) :: rs => decide (x = y) && decide (x ∈ G.exc) && decide (c ∈ G.exc) && glB sc x && glB sc c && glB sc "isinstance" && (match N.findIdx? (· == nm) with | some j => slotB N sc nm j | none => false) && decide (sc.names.lookup nm = some .local) && ckIs nm c r d1 d2 && ckHsM G sc N hs rs
  | _, _ => false
def ckTr (G : GC) (sc : Scope) (N : List Str) (rb : List Stmt → Bool) (s : Stmt) (hs : List (Str × HR)) : Bool := ckTr0 G sc N rb s hs || (match s with | .Try body (h0 :: hds) [] [] _ => ckHsM G sc N (h0 :: hds) hs && rb body | _ => false)
def ckS (G : GC) (N : List Str) (sc : Scope) (m : Nat) : Nat → Stmt → S → Bool
  | 0, _, _ => false
  | n + 1, s, i => match i with
    | .set j e => ckSet G (ck G m) N sc false s j e
    | .setO j e => ckSet G (ck G m) N sc true s j e
    | .unp T e => (match s with | .Assign [tg] a _ => plainTg tg && notComp a && swNone sc tg a && ckG (fun _ => true) N sc tg T && ck G m .e N sc a e | _ => false)
    | .par is es => ckPar G (ck G m) N sc s is es
    | .setix j x e => (match s with | .Assign [.Subscript (.Name y _) ix _] a _ => slotB N sc y j && notComp a && ixB ix && ck G m .e N sc a e && ck G m .e N sc ix x | _ => false)
    | .aug j o e => (match s with | .AugAssign (.Name x _) q a _ => decide (N[j]? = some x) && locB sc x && decide (q = opM o) && augOk o && ck G m .e N sc a e | _ => false)
    | .app j e => (match s with | .Expr (.Call (.Attribute (.Name x _) y ap) [a] [] cp) _ => decide (y = ("append" : Str)) && slotB N sc x j && plainE a && (ap.endLine == cp.line) && ck G m .e N sc a e | _ => false)
    | .ext j e => (match s with | .Expr (.Call (.Attribute (.Name x _) y ap) [a] [] cp) _ => decide (y = ("extend" : Str)) && slotB N sc x j && plainE a && (ap.endLine == cp.line) && ck G m .e N sc a e | _ => false)
    | .upd j e => (match s with | .Expr (.Call (.Attribute (.Name x _) y ap) [a] [] cp) _ => decide (y = ("update" : Str)) && slotB N sc x j && plainE a && (ap.endLine == cp.line) && ck G m .e N sc a e | _ => false)
    | .xp e => (match s with | .Expr a _ => notComp a && ck G m .e N sc a e | _ => false)
    | .ret e => (match s with | .Return (some a) _ => ck G m .e N sc a e | .Return none _ => (match e with | .k .none => true | _ => false) | _ => false)
    | .raise c => (match s with | .Raise (some (.Call (.Name x _) [.Constant (.str _) _ _] [] _)) none _ => decide (x = c) && decide (x ∈ G.exc) && glB sc x | _ => false)
    | .ite c a b => (match s with | .If t as bs _ => ck G m .t N sc t c && ckSs (ckS G N sc m n) as a && ckSs (ckS G N sc m n) bs b | _ => false)
    | .for T it b => (match s with | .For tg iter body [] _ => notSet iter && ckG (fun _ => true) N sc tg T && ckI (ck G m) N sc false tg iter it && ckSs (ckS G N sc m n) body b | _ => false)
    | .while c b => (match s with | .While t body [] _ => ck G m .t N sc t c && ckSs (ckS G N sc m n) body b | _ => false)
    | .brk => (match s with | .Break _ => true | _ => false)
    | .cnt => (match s with | .Continue _ => true | _ => false)
    | .pass => (match s with | .Pass _ => true | .Expr (.Constant (.str _) _ _) _ => true | _ => false)
    | .tr b hs => ckTr G sc N (fun ss => ckSs (ckS G N sc m n) ss b) s hs
    | .any => true
    | .augix j x o e => (match s with | .AugAssign (.Subscript (.Name y _) ix _) q a _ => slotB N sc y j && ixB ix && decide (q = opM o) && augOk o && ck G m .e N sc a e && ck G m .e N sc ix x | _ => false)
    | .pop j i => (match s with | .Assign [.Name y _] (.Call (.Attribute (.Name x _) z ap) [] [] cp) _ => decide (z = ("pop" : Str)) && slotB N sc x i && decide (N[j]? = some y) && locB sc y && (ap.endLine == cp.line) && decide (i ≠ j) | _ => false)
    | _ => false
structure SC (X : Cx) (G : GC) (C : Str → Value) (sub : Str → Str → Option Bool) (fe : FE) (k : Nat) (w : WX) (N : List Str) (sc : Scope) : Prop extends EC X G C sub fe k w N sc where
  po : PassesOwn (model X.prog X.w) X.A X.env X.xe
  kd : sc.kind = .function
  fn : ∀ x, X.fn x = true
  st : X.stack = X.env :: X.outer
  fr : X.env.frame = some X.env.locals
section
variable {G : GC} {C : Str → Value} {sub : Str → Str → Option Bool} {fe : FE} {k : Nat} {X : Cx} {w : WX} {N : List Str} {sc : Scope} {F0 H0 : Hp}
theorem PS.fn {X : Cx} {K : PySem.W.Frag} {W : WN} {s : Stmt} {f g : Env → SR} (h : PS X s (tS K W F0 H0 f)) (q : ∀ σ, f σ = g σ) : PS X s (tS K W F0 H0 g) := by
  have : f = g := funext q
  exact this ▸ h
theorem PSs.fn {X : Cx} {K : PySem.W.Frag} {W : WN} {s : List Stmt} {f g : Env → SR} (h : PSs X s (tS K W F0 H0 f)) (q : ∀ σ, f σ = g σ) : PSs X s (tS K W F0 H0 g) := by
  have : f = g := funext q
  exact this ▸ h
theorem SC.loc (c : SC X G C sub fe k w N sc) {x : Str} (h : locB sc x = true) : Loc X.env.scope x ∧ (X.fn x = true ∨ X.env.scope.names.lookup x = some .local) := ⟨by rw [c.se]; exact loc_of h, .inl (c.fn x)⟩
theorem ckV_ok (c : SC X G C sub fe k w N sc) {m : Nat} {o : Bool} {e : Expr} {i : E} (x : ckV G (ck G m) N sc o e i = true) : PE X e (tV X.K (WofX C w) o (vF o (ev fe i))) := by
  have hk : CkOk G C sub fe k (ck G m) := ck_ok m
  have c' := c.toEC
  cases o with
  | false => exact v_E (hk.e c' x)
  | true =>
    unfold ckV at x
    dsimp only at x
    split at x
    · split at x
      · rename_i es _ xs _
        simp only [Bool.and_eq_true, decide_eq_true_eq] at x
        have e : (fun σ => (do let ds ← evs fe es σ; .ok (.list ds) : Res D)) = vF true (ev fe (.lst es)) := by
          funext σ
          simp only [vF, ev]
          cases evs fe es σ <;> rfl
        rw [← e]
        exact v_lst (ckL_ok hk c' x.1) fun env ds e => by rw [evs_len e]; omega
      · cases x
    · split at x
      · rename_i o a b _ _ _ _ _
        simp only [Bool.and_eq_true, decide_eq_true_eq] at x
        obtain ⟨⟨⟨rfl, x0⟩, x1⟩, x2⟩ := x
        have e : (fun σ => ((do let x ← ev fe a σ; let y ← ev fe b σ; opD o x y) >>= freshD : Res D)) = vF true (ev fe (.op o a b)) := by
          funext σ
          simp only [vF, ev]
        rw [← e]
        exact v_op o x0 (hk.p c' x1) (hk.p c' x2)
      · cases x
    · rename_i elt T it cc own
      have key := ckComp_ok (o := true) hk c' x
      have e : ∀ σ, ev fe (.comp elt T it cc own) σ >>= freshD = ev fe (.comp elt T it cc own) σ := fun σ => by
        simp only [ev]
        cases ev fe it σ with
        | ex _ => rfl
        | bad => rfl
        | ok d =>
          simp only [Res.ok_bind]
          cases items d with
          | none => rfl
          | some xs =>
            dsimp only
            cases compR _ xs with
            | ex _ => rfl
            | bad => rfl
            | ok ys =>
              simp only [Res.ok_bind]
              split <;> rfl
      have e2 : vF true (ev fe (.comp elt T it cc own)) = ev fe (.comp elt T it cc own) := funext e
      rw [e2]
      exact key
    · split at x
      · have e : (fun _ => (.ok (.dict []) : Res D)) = vF true (ev fe .dnil) := by funext σ; simp only [vF, ev]; rfl
        rw [← e]
        exact v_dnil
      · cases x
    · rename_i kx vx T it cc own
      have key := ckDComp_ok (o := true) hk c' x
      have e : ∀ σ, ev fe (.dcomp kx vx T it cc own) σ >>= freshD = ev fe (.dcomp kx vx T it cc own) σ := fun σ => by
        rw [← dcD_ev]
        exact dcomp_fresh
      have e2 : vF true (ev fe (.dcomp kx vx T it cc own)) = ev fe (.dcomp kx vx T it cc own) := funext e
      rw [e2]
      exact key
    · cases x
end
end BW

namespace BW
open PySem PySem.W L2 PySem.Spec PyProof.Rows
section
variable {G : GC} {C : Str → Value} {sub : Str → Str → Option Bool} {fe : FE} {k : Nat} {X : Cx} {w : WX} {N : List Str} {sc : Scope} {F0 H0 : Hp}
theorem ckSet_ok (c : SC X G C sub fe k w N sc) {m : Nat} {o : Bool} {s : Stmt} {j : Nat} {i : E} (x : ckSet G (ck G m) N sc o s j i = true) : PS X s (tS X.K (WofX C w) F0 H0 fun σ => (ev fe i σ).sr fun d => (toSl o d).sr fun s => .nx (setS σ j s)) := by
  have hk : CkOk G C sub fe k (ck G m) := ck_ok m
  have c' := c.toEC
  have kd : X.env.scope.kind = .function := by rw [c.se]; exact c.kd
  unfold ckSet at x
  split at x
  · rename_i x0 p' e p
    simp only [Bool.and_eq_true, decide_eq_true_eq] at x
    obtain ⟨⟨x1, x2⟩, x3⟩ := x
    obtain ⟨l1, l2⟩ := c.loc x2
    split at x3
    · rename_i x5 tg iter ifs scope vp
      split at x3
      · rename_i elt T it cc own
        cases hsw : swB X.env.scope x0 p' scope vp with
        | false => exact s_set c.ok.nd (by rw [c.n]; exact x1) l1 l2 (ckComp_ok hk c' x3) (by rw [sw_comp kd, hsw])
        | true =>
          have hyl : X.env.scope.names.lookup x0 = some .local := by
            unfold swB at hsw
            simp only [Bool.and_eq_true, decide_eq_true_eq] at hsw
            exact hsw.1.1
          unfold ckComp at x3
          simp only [Bool.and_eq_true, decide_eq_true_eq, List.all_eq_true] at x3
          obtain ⟨⟨⟨⟨⟨⟨⟨y1, y2⟩, y3⟩, y4⟩, y5⟩, y6⟩, y7⟩, y8⟩ := x3
          have bo : BlkOk X.N X.env.scope scope (ownS N own) := by rw [c.n, c.se]; exact blkOk_by y1
          have hg : ∀ (s : Shared) (H : Hp) (A : Addr) (cl : List (Str × Addr)) (fp : List Addr), PG (X.blk s H scope (compEnvC scope cl A X.env) fp) tg (tG X.K T) := fun s H A cl fp =>
            ckG_ok (X := X.blk s H scope (compEnvC scope cl A X.env) fp) c.ok.calm c.ok.nd c.n (c'.blk scope s H A cl fp).se (fun x z => z) tg T y6
          have ht : ∀ (s : Shared) (H : Hp) (A : Addr) (cl : List (Str × Addr)) (fp : List Addr), PTs (X.blk s H scope (compEnvC scope cl A X.env) fp) ifs (tT X.K W0 (evT (ev fe cc))) := fun s H A cl fp => by
            split at y8
            · split at y8
              · have : (evT (ev fe (.k (.bool true)))) = fun _ => Res.ok true := by funext σ; simp [evT, ev, asBool]
                rw [this]
                exact t_yes (X := X.blk s H scope (compEnvC scope cl A X.env) fp)
              · cases y8
            · exact pts_one (hk.t (c'.blk scope s H A cl fp) y8)
            · cases y8
          have he : ∀ (s : Shared) (H : Hp) (A : Addr) (cl : List (Str × Addr)) (fp : List Addr), PE (X.blk s H scope (compEnvC scope cl A X.env) fp) x5 (tE X.K W0 (ev fe elt)) := fun s H A cl fp => hk.e (c'.blk scope s H A cl fp) y7
          have key := s_setLc (o := o) (W := WofX C w) (F0 := F0) (H0 := H0) (spos := p) c.ok (by rw [c.n]; exact x1) hyl (by rw [sw_comp kd, hsw]) (ckI_ok hk c' y5) bo hg ht he (fold_notSet y3) (by rw [y2]; exact y4)
          rw [y2] at key
          refine PS.fn key fun env => ?_
          have e : compD (fun σ => do let d ← ev fe it σ; itm d) T (evT (ev fe cc)) (ev fe elt) own env = ev fe (.comp elt T it cc own) env := by
            unfold compD
            simp only [ev]
            cases ev fe it env with
            | ex _ => rfl
            | bad => rfl
            | ok d =>
              have ef : compF T (evT (ev fe cc)) (ev fe elt) own env = fun d => (do
                let σ' ← bindT T d (wipeS env own)
                let t ← ev fe cc σ'
                let b ← asBool t
                if b then do
                  let y ← ev fe elt σ'
                  .ok (some y)
                else .ok none).quiet := by
                funext d
                unfold compF evT
                congr 1
                cases bindT T d (wipeS env own) with
                | ex _ => rfl
                | bad => rfl
                | ok σ' => simp only [Res.ok_bind, bind_assoc']
              rw [ef]
              cases d <;> rfl
          rw [e]
      · cases x3
    · rename_i kx0 vx0 tg0 iter0 ifs0 scope vp
      split at x3
      · rename_i kx vx T it cc own
        cases hsw : swB X.env.scope x0 p' scope vp with
        | false => exact s_set c.ok.nd (by rw [c.n]; exact x1) l1 l2 (ckDComp_ok hk c' x3) (by rw [sw_dcomp kd, hsw])
        | true =>
          have hyl : X.env.scope.names.lookup x0 = some .local := by
            unfold swB at hsw
            simp only [Bool.and_eq_true, decide_eq_true_eq] at hsw
            exact hsw.1.1
          obtain ⟨x5, y5, tg, iter, ifs, sc5, p5, e5, e2, qq⟩ := ckDComp_parts hk c' x3
          cases e5
          have key := s_setDc (o := o) (W := WofX C w) (F0 := F0) (H0 := H0) (spos := p) c.ok qq.hi qq.bo qq.hg qq.ht qq.hk qq.he qq.hs qq.hT (by rw [c.n]; exact x1) hyl (by rw [sw_dcomp kd, hsw])
          rw [e2, dcD_ev] at key
          exact key
      · cases x3
    · simp only [Bool.and_eq_true] at x3
      exact PS.fn (s_set c.ok.nd (by rw [c.n]; exact x1) l1 l2 (ckV_ok c x3.2) (swaps_plain x3.1)) fun σ => vF_sr (α := Unit)
  · cases x
theorem ckHs_ok (c : SC X G C sub fe k w N sc) : ∀ {hs : List ExceptHandler} {rs : List (Str × HR)}, ckHs G sc hs rs = true → ∃ l, HdsR X C hs rs l := by
  intro hs rs
  induction hs generalizing rs with
  | nil => intro x; cases rs with | nil => exact ⟨[], .nil⟩ | cons => cases x
  | cons h hs ih =>
    intro x
    unfold ckHs at x
    split at x
    · rename_i e1 e2; cases e2
    · rename_i x0 _ cst _ _ _ _ hs' y d rs' e
      cases e
      simp only [Bool.and_eq_true, decide_eq_true_eq] at x
      obtain ⟨⟨⟨⟨rfl, x1⟩, x2⟩, x3⟩, x4⟩ := x
      obtain ⟨l, hl⟩ := ih x4
      obtain ⟨Cx, _, _, _, _, hC, _, _, hm, _⟩ := c.gx.exc _ x1
      have hn : Names X x0 (C x0) := ⟨(c.toEC.gl x2).1, (c.toEC.gl x2).2, .inl (by rw [hC]; exact hm)⟩
      split at x3
      · obtain ⟨rfl, v, sv⟩ := scEq_of x3; exact ⟨_, .cons (d := .bool _) hn sv hl⟩
      · obtain ⟨rfl, v, sv⟩ := scEq_of x3; exact ⟨_, .cons (d := .int _) hn sv hl⟩
      · obtain ⟨rfl, v, sv⟩ := scEq_of x3; exact ⟨_, .cons (d := .str _) hn sv hl⟩
      · obtain ⟨rfl, v, sv⟩ := scEq_of x3; exact ⟨_, .cons (d := .none) hn sv hl⟩
      · cases x3
    · cases x
theorem ckHsM_ok (c : SC X G C sub fe k w N sc) : ∀ {hs : List ExceptHandler} {rs : List (Str × HR)}, ckHsM G sc N hs rs = true → ∃ l, HdsM X C hs rs l := by
  intro hs rs
  have c' := c.toEC
  induction hs generalizing rs with
  | nil => intro x; cases rs with | nil => exact ⟨[], .nil⟩ | cons => cases x
  | cons h hs ih =>
    intro x
    unfold ckHsM at x
    split at x
    · rename_i e1 e2; cases e2
    · rename_i x0 _ cst _ _ _ _ hs' y d rs' e
      cases e
      simp only [Bool.and_eq_true, decide_eq_true_eq] at x
      obtain ⟨⟨⟨⟨rfl, x1⟩, x2⟩, x3⟩, x4⟩ := x
      obtain ⟨l, hl⟩ := ih x4
      obtain ⟨Cx, _, _, _, _, hC, _, _, hm, _⟩ := c.gx.exc _ x1
      have hn : Names X x0 (C x0) := ⟨(c'.gl x2).1, (c'.gl x2).2, .inl (by rw [hC]; exact hm)⟩
      split at x3
      · obtain ⟨rfl, v, sv⟩ := scEq_of x3; exact ⟨_, .k (d := .bool _) hn sv hl⟩
      · obtain ⟨rfl, v, sv⟩ := scEq_of x3; exact ⟨_, .k (d := .int _) hn sv hl⟩
      · obtain ⟨rfl, v, sv⟩ := scEq_of x3; exact ⟨_, .k (d := .str _) hn sv hl⟩
      · obtain ⟨rfl, v, sv⟩ := scEq_of x3; exact ⟨_, .k (d := .none) hn sv hl⟩
      · cases x3
    · rename_i x0 _ nm r _ _ hs' y cc d1 d2 rs' e
      cases e
      simp only [Bool.and_eq_true, decide_eq_true_eq] at x
      obtain ⟨⟨⟨⟨⟨⟨⟨⟨⟨rfl, x1⟩, x2⟩, x3⟩, x4⟩, x5⟩, x6⟩, x7⟩, x9⟩, x10⟩ := x
      obtain ⟨l, hl⟩ := ih x10
      obtain ⟨Cx, _, _, _, _, hC, _, _, hm, _⟩ := c.gx.exc _ x1
      obtain ⟨Cy, _, _, _, _, hCy, _, _, hmy, _⟩ := c.gx.exc _ x2
      have hn : Names X x0 (C x0) := ⟨(c'.gl x3).1, (c'.gl x3).2, .inl (by rw [hC]; exact hm)⟩
      split at x6
      · rename_i jn _
        obtain ⟨h1, h2, h3, h4⟩ := c'.slot x6
        have hk : X.env.kindOf nm = some .local := by show X.env.scope.names.lookup _ = _; rw [c.se]; exact x7
        unfold ckIs at x9
        split at x9
        · simp only [Bool.and_eq_true, decide_eq_true_eq] at x9
          obtain ⟨⟨⟨⟨rfl, rfl⟩, rfl⟩, q1⟩, q2⟩ := x9
          obtain ⟨rfl, _⟩ := scEq_of q1
          obtain ⟨rfl, _⟩ := scEq_of q2
          exact ⟨_, .is (d1 := .bool true) (d2 := .bool false) (v1 := .bl true) (v2 := .bl false) hn h1 hk hCy rfl rfl (fun a oe cls d pn hz hf => su_is hz hf h1 h2 h3 h4 (c'.gl x5).1 (bi_of c' _ (by decide)) (c'.gl x4).1 hmy (c'.gl x4).2) hl⟩
        · simp only [Bool.and_eq_true, decide_eq_true_eq] at x9
          obtain ⟨⟨⟨⟨rfl, rfl⟩, rfl⟩, q1⟩, q2⟩ := x9
          obtain ⟨rfl, _⟩ := scEq_of q1
          obtain ⟨rfl, _⟩ := scEq_of q2
          exact ⟨_, .is (d1 := .str _) (d2 := .str _) (v1 := .str _) (v2 := .str _) hn h1 hk hCy rfl rfl (fun a oe cls d pn hz hf => su_isIf (d1 := .str _) (d2 := .str _) rfl rfl hz hf h1 h2 h3 h4 (c'.gl x5).1 (bi_of c' _ (by decide)) (c'.gl x4).1 hmy (c'.gl x4).2) hl⟩
        · cases x9
      · cases x6
    · cases x
/-- what a check of a statement promises -/
def CkS (G : GC) (C : Str → Value) (sub : Str → Str → Option Bool) (fe : FE) (k : Nat) (N : List Str) (sc : Scope) (n : Nat) (r : Stmt → S → Bool) : Prop :=
  ∀ (X : Cx) (w : WX) (F0 H0 : Hp), SC X G C sub fe k w N sc → ∀ s i, r s i = true → PS X s (tS X.K (WofX C w) F0 H0 (ex1 fe sub n i))
theorem ckSs_ok {n : Nat} {r : Stmt → S → Bool} (h : CkS G C sub fe k N sc n r) (c : SC X G C sub fe k w N sc) : ∀ (is : List S) (ss : List Stmt), ckSs r ss is = true → PSs X ss (tS X.K (WofX C w) F0 H0 (exs fe sub n is))
  | [], [], _ => PSs.fn s_nil fun σ => by simp [exs]
  | [], _ :: _, x => by simp [ckSs] at x
  | i :: is, ss, x => by
    have key : (∃ j, i = .fr j ∧ ckSs r ss is = true) ∨ (∃ j, i = .wipe j ∧ ckSs r ss is = true) ∨ ∃ s ss', ss = s :: ss' ∧ r s i = true ∧ ckSs r ss' is = true := by
      cases ss with
      | nil =>
        cases i with
        | fr j => exact .inl ⟨j, rfl, by simpa [ckSs] using x⟩
        | wipe j => exact .inr (.inl ⟨j, rfl, by simpa [ckSs] using x⟩)
        | _ => simp [ckSs] at x
      | cons s ss' =>
        cases i with
        | fr j => exact .inl ⟨j, rfl, by simpa [ckSs] using x⟩
        | wipe j => exact .inr (.inl ⟨j, rfl, by simpa [ckSs] using x⟩)
        | _ => exact .inr (.inr ⟨s, ss', rfl, by simpa [ckSs] using x⟩)
    rcases key with ⟨j, rfl, h2⟩ | ⟨j, rfl, h2⟩ | ⟨s, ss', rfl, h1, h2⟩
    · refine PSs.fn (s_fr (i := j) (ckSs_ok h c is ss h2)) fun σ => ?_
      simp only [exs, ex1]
      all_goals (cases getS σ j <;> rfl)
    · refine PSs.fn (s_wipe (is := j) (ckSs_ok h c is ss h2)) fun σ => ?_
      simp only [exs, ex1]
      rfl
    · refine PSs.fn (s_cons (h X w F0 H0 c s i h1) (ckSs_ok h c is ss' h2)) fun σ => ?_
      simp only [exs]
theorem SC.tr (c : SC X G C sub fe k w N sc) (W : WX) (pn : List (Addr × Obj)) (xe : Value → Shared → Prop) (tk : Takes (X.tr pn xe) W) (po : PassesOwn (model X.prog X.w) X.A X.env xe) : SC (X.tr pn xe) G C sub fe k W N sc :=
  ⟨⟨⟨c.ok.nd, c.ok.calm, c.ok.room⟩, c.n, c.se, tk, c.hr, c.gx⟩, po, c.kd, c.fn, c.st, c.fr⟩
theorem asg_sub {o ix : Expr} {pos : Pos} {env : PySem.Env} (h : ixB ix = true) (v : Value) : assign (.Subscript o ix pos) env v = (do
      let ov ← holding [v] (eval o env)
      let iv ← holding [v, ov] (eval ix env)
      standAt pos
      holding [v, ov, iv] (setItem ov iv v)
      release [v, ov, iv] []) := by
  cases ix <;> first | exact absurd h Bool.false_ne_true | rfl
theorem augSt_of {ix : Expr} (h : ixB ix = true) (ov iv new : Value) : augStore ix ov iv new = (do holding [new, ov, iv] (setItem ov iv new); release [new, ov, iv] []; pure .next) := by
  cases ix <;> first | exact absurd h Bool.false_ne_true | rfl
theorem ckS_ok {m n : Nat} : ∀ q : Nat, CkS G C sub fe k N sc n (ckS G N sc m q)
  | 0 => fun X w F0 H0 c s i x => by cases x
  | q + 1 => fun X w F0 H0 c s i x => by
    have hk : CkOk G C sub fe k (ck G m) := ck_ok m
    have c' := c.toEC
    have kd : X.env.scope.kind = .function := by rw [c.se]; exact c.kd
    have hb : ∀ {is : List S} {ss : List Stmt}, ckSs (ckS G N sc m q) ss is = true → PSs X ss (tS X.K (WofX C w) F0 H0 (exs fe sub n is)) := fun {is ss} x => ckSs_ok (ckS_ok q) c is ss x
    cases i with
    | set j e => exact PS.fn (ckSet_ok c x) fun σ => by simp only [ex1, toSl]; cases ev fe e σ <;> rfl
    | setO j e => exact PS.fn (ckSet_ok c x) fun σ => by simp only [ex1]
    | unp T e =>
      simp only [ckS] at x
      split at x
      · simp only [Bool.and_eq_true] at x
        obtain ⟨⟨⟨⟨x1, x2⟩, x3⟩, x4⟩, x5⟩ := x
        exact PS.fn (s_unp (hk.e c' x5) (ckG_ok c.ok.calm c.ok.nd c.n c.se (fun x _ => c.fn x) _ _ x4) (swaps_plain x2) (swNone_of (by rw [c.se]; exact x3)) (by rw [asg_plain x1]; rfl)) fun σ => by simp only [ex1]
      · cases x
    | par is es =>
      simp only [ckS] at x
      unfold ckPar at x
      split at x
      · rename_i j1 o1 j2 o2 e1 e2
        split at x
        · rename_i x0 px y py kt pt a b k2 pt2 p
          simp only [Bool.and_eq_true, decide_eq_true_eq] at x
          obtain ⟨⟨⟨⟨⟨x1, x2⟩, x3⟩, x4⟩, x5⟩, x6⟩ := x
          have x1' : parB X.env.scope x0 y px py a b = true := by rw [c.se]; exact x1
          have x1c := x1'
          unfold parB at x1'
          simp only [Bool.and_eq_true, decide_eq_true_eq] at x1'
          obtain ⟨⟨⟨⟨⟨⟨⟨z1, z2⟩, z3⟩, z4⟩, z5⟩, z6⟩, z7⟩, z8⟩ := x1'
          refine PS.fn (s_par (W := WofX C w) (F0 := F0) (H0 := H0) (pos := p) c.ok (by rw [c.n]; exact x2) (by rw [c.n]; exact x3) x4 z1 z2 (ckV_ok c x5) (ckV_ok c x6) (star_plain z7) (star_plain z8) (par_of kd x1c) rfl) fun σ => ?_
          simp only [ex1, evP]
          cases vF o1 (ev fe e1) σ with
          | ex _ => rfl
          | bad => rfl
          | ok d1 =>
            cases vF o2 (ev fe e2) σ with
            | ex _ => rfl
            | bad => rfl
            | ok d2 =>
              show ((toSl o1 d1).sr fun s1 => (toSl o2 d2).sr fun s2 => SR.nx (setS (setS σ j1 s1) j2 s2)) = (parR [(j1, o1), (j2, o2)] [d1, d2] σ).sr .nx
              unfold parR
              cases toSl o1 d1 with
              | ex _ => rfl
              | bad => rfl
              | ok t1 =>
                simp only [parR, Res.ok_bind]
                cases toSl o2 d2 <;> rfl
        · cases x
      · cases x
    | setix j ix e =>
      simp only [ckS] at x
      split at x
      · simp only [Bool.and_eq_true] at x
        obtain ⟨⟨⟨⟨x1, x2⟩, x0⟩, x3⟩, x4⟩ := x
        obtain ⟨h1, h2, h3, h4⟩ := c'.slot x1
        exact PS.fn (s_setix c.ok h1 h2 h3 h4 (hk.e c' x3) (hk.e c' x4) (asg_sub x0) (by unfold swapsWithSole; exact swaps_plain x2) swst_sub rfl) fun σ => by
          simp only [ex1]
          all_goals (cases getS σ j <;> rfl)
      · cases x
    | aug j o e =>
      simp only [ckS] at x
      split at x
      · simp only [Bool.and_eq_true, decide_eq_true_eq] at x
        obtain ⟨⟨⟨⟨x1, x2⟩, rfl⟩, x4⟩, x5⟩ := x
        obtain ⟨l1, l2⟩ := c.loc x2
        exact PS.fn (s_aug c.ok (by rw [c.n]; exact x1) l1 l2 x4 (hk.e c' x5)) fun σ => by
          simp only [ex1]
          all_goals rfl
      · cases x
    | app j e =>
      simp only [ckS] at x
      split at x
      · simp only [Bool.and_eq_true, decide_eq_true_eq] at x
        obtain ⟨⟨⟨⟨rfl, x1⟩, x2⟩, x3⟩, x4⟩ := x
        obtain ⟨h1, h2, h3, h4⟩ := c'.slot x1
        exact PS.fn (s_app h1 h2 h3 h4 (hk.e c' x4) rfl (few_plain x2) x3 (star_plain x2) rfl) fun σ => by
          simp only [ex1]
          all_goals (cases getS σ j <;> rfl)
      · cases x
    | ext j e =>
      simp only [ckS] at x
      split at x
      · simp only [Bool.and_eq_true, decide_eq_true_eq] at x
        obtain ⟨⟨⟨⟨rfl, x1⟩, x2⟩, x3⟩, x4⟩ := x
        obtain ⟨h1, h2, h3, h4⟩ := c'.slot x1
        exact PS.fn (s_ext h1 h2 h3 h4 (hk.e c' x4) rfl (few_plain x2) x3 (star_plain x2) rfl) fun σ => by
          simp only [ex1]
          all_goals (cases getS σ j <;> rfl)
      · cases x
    | xp e =>
      simp only [ckS] at x
      split at x
      · simp only [Bool.and_eq_true] at x
        exact PS.fn (s_xp (hk.e c' x.2) (swaps_plain x.1)) fun σ => by simp only [ex1]
      · cases x
    | ret e =>
      simp only [ckS] at x
      split at x
      · exact PS.fn (s_ret (hk.e c' x)) fun σ => by simp only [ex1]
      · split at x
        · exact PS.fn s_retN fun σ => by simp only [ex1, ev]; rfl
        · cases x
      · cases x
    | raise cn =>
      simp only [ckS] at x
      split at x
      · rename_i x0 pp1 s1 jj1 pp2 pp3 pp4
        simp only [Bool.and_eq_true, decide_eq_true_eq] at x
        obtain ⟨⟨rfl, x1⟩, x2⟩ := x
        obtain ⟨Cx, bmB, B, newId, initId, hC, fF, q1, hm, kp, sb, ty⟩ := c.gx.exc _ x1
        have pm := pmk_own (X := X) (m := s1) (j := jj1) (p := pp1) (p2 := pp2) (pos := pp3) fF q1 hm kp (raises_own sb ty) (c'.gl x2).1 (c'.gl x2).2
        rw [← hC] at pm
        exact PS.fn (s_raise (c := x0) c.ok c.tk pm) fun σ => by simp only [ex1]
      · cases x
    | ite cc a b =>
      simp only [ckS] at x
      split at x
      · simp only [Bool.and_eq_true] at x
        exact PS.fn (s_if (hk.t c' x.1.1) (hb x.1.2) (hb x.2)) fun σ => by simp only [ex1]
      · cases x
    | «for» T it b =>
      simp only [ckS] at x
      split at x
      · simp only [Bool.and_eq_true] at x
        obtain ⟨⟨⟨x1, x2⟩, x3⟩, x4⟩ := x
        refine PS.fn (s_for c.ok c.po (ckI_ok hk c' x3) (ckG_ok c.ok.calm c.ok.nd c.n c.se (fun x _ => c.fn x) _ _ x2) (hb x4) (fold_notSet x1)) fun σ => ?_
        simp only [ex1]
        cases ev fe it σ with
        | ex _ => rfl
        | bad => rfl
        | ok d => cases d <;> rfl
      · cases x
    | «while» cc b =>
      simp only [ckS] at x
      split at x
      · simp only [Bool.and_eq_true] at x
        exact PS.fn (s_while (n := n) c.po (hk.t c' x.1) (hb x.2)) fun σ => by simp only [ex1]; rfl
      · cases x
    | brk =>
      simp only [ckS] at x
      split at x
      · exact PS.fn s_brk fun σ => by simp only [ex1]
      · cases x
    | cnt =>
      simp only [ckS] at x
      split at x
      · exact PS.fn s_cnt fun σ => by simp only [ex1]
      · cases x
    | pass =>
      simp only [ckS] at x
      split at x
      · exact PS.fn s_pass fun σ => by simp only [ex1]
      · exact PS.fn s_doc fun σ => by simp only [ex1]
      · cases x
    | tr b hs =>
      simp only [ckS] at x
      unfold ckTr at x
      rw [Bool.or_eq_true] at x
      have hbt : ∀ {body : List Stmt}, ckSs (ckS G N sc m q) body b = true → ∀ (W : WX) (pn : List (Addr × Obj)) (xe : Value → Shared → Prop), Takes (X.tr pn xe) W → PassesOwn (model X.prog X.w) X.A X.env xe → PSs (X.tr pn xe) body (tS X.K (WofX C W) F0 H0 (exs fe sub n b)) := fun {body} x W pn xe tk po =>
        ckSs_ok (X := X.tr pn xe) (ckS_ok q) (c.tr W pn xe tk po) b body x
      rcases x with x | x
      rotate_left
      · split at x
        · simp only [Bool.and_eq_true] at x
          obtain ⟨l, hl⟩ := ckHsM_ok c x.1
          exact PS.fn (s_tryM c.gx.ck c.ok.nd c.st c.fr c.tk (hbt x.2) hl) fun σ => by simp only [ex1]
        · cases x
      unfold ckTr0 at x
      split at x
      · split at x
        · simp only [Bool.and_eq_true, decide_eq_true_eq] at x
          obtain ⟨⟨⟨⟨⟨⟨⟨⟨⟨rfl, x1⟩, x2⟩, x3⟩, x4⟩, x5⟩, x6⟩, x7⟩, x8⟩, x9⟩ := x
          obtain ⟨Cx, _, _, _, _, hC, _, _, hm, _⟩ := c.gx.exc _ x1
          obtain ⟨Cy, _, _, _, _, hCy, _, _, hmy, _⟩ := c.gx.exc _ x2
          split at x6
          · rename_i jn _
            obtain ⟨h1, h2, h3, h4⟩ := c'.slot x6
            have hn := (show Names X _ (C _) from ⟨(c'.gl x3).1, (c'.gl x3).2, .inl (by rw [hC]; exact hm)⟩)
            unfold ckIs at x9
            split at x9
            · simp only [Bool.and_eq_true, decide_eq_true_eq] at x9
              obtain ⟨⟨⟨⟨rfl, rfl⟩, rfl⟩, q1⟩, q2⟩ := x9
              obtain ⟨rfl, _⟩ := scEq_of q1
              obtain ⟨rfl, _⟩ := scEq_of q2
              exact PS.fn (s_tryAs (d1 := .bool true) (d2 := .bool false) (v1 := .bl true) (v2 := .bl false) c.gx.ck rfl rfl c.st c.fr c.tk c.ok.nd h1 (by show X.env.scope.names.lookup _ = _; rw [c.se]; exact x7) hn hCy (hbt x8) fun a oe cls d pn hz hf => su_is hz hf h1 h2 h3 h4 (c'.gl x5).1 (bi_of c' _ (by decide)) (c'.gl x4).1 hmy (c'.gl x4).2) fun σ => by simp only [ex1]
            · simp only [Bool.and_eq_true, decide_eq_true_eq] at x9
              obtain ⟨⟨⟨⟨rfl, rfl⟩, rfl⟩, q1⟩, q2⟩ := x9
              obtain ⟨rfl, _⟩ := scEq_of q1
              obtain ⟨rfl, _⟩ := scEq_of q2
              exact PS.fn (s_tryAs (d1 := .str _) (d2 := .str _) (v1 := .str _) (v2 := .str _) c.gx.ck rfl rfl c.st c.fr c.tk c.ok.nd h1 (by show X.env.scope.names.lookup _ = _; rw [c.se]; exact x7) hn hCy (hbt x8) fun a oe cls d pn hz hf => su_isIf (d1 := .str _) (d2 := .str _) rfl rfl hz hf h1 h2 h3 h4 (c'.gl x5).1 (bi_of c' _ (by decide)) (c'.gl x4).1 hmy (c'.gl x4).2) fun σ => by simp only [ex1]
            · cases x9
          · cases x6
        · cases x
      · split at x
        · simp only [Bool.and_eq_true] at x
          obtain ⟨l, hl⟩ := ckHs_ok c x.1
          exact PS.fn (s_try c.gx.ck c.st c.fr c.tk (hbt x.2) hl) fun σ => by simp only [ex1]
        · cases x
    | augix j ixx o e =>
      simp only [ckS] at x
      split at x
      · simp only [Bool.and_eq_true, decide_eq_true_eq] at x
        obtain ⟨⟨⟨⟨⟨x1, x2⟩, rfl⟩, x3⟩, x4⟩, x5⟩ := x
        obtain ⟨h1, h2, h3, h4⟩ := c'.slot x1
        exact PS.fn (s_augix h1 h2 h3 h4 x3 (hk.e c' x4) (hk.e c' x5) (augSt_of x2)) fun σ => by
          simp only [ex1]
          all_goals (cases getS σ j <;> rfl)
      · cases x
    | pop j i =>
      simp only [ckS] at x
      split at x
      · simp only [Bool.and_eq_true, decide_eq_true_eq] at x
        obtain ⟨⟨⟨⟨⟨rfl, x1⟩, x2⟩, x3⟩, x4⟩, x5⟩ := x
        obtain ⟨h1, h2, h3, h4⟩ := c'.slot x1
        obtain ⟨l1, l2⟩ := c.loc x3
        exact PS.fn (s_pop c.ok.nd x5 h1 h2 h3 h4 (by rw [c.n]; exact x2) l1 l2 rfl x4 rfl) fun σ => by
          simp only [ex1]
          all_goals (cases getS σ i <;> rfl)
      · cases x
    | upd j e =>
      simp only [ckS] at x
      split at x
      · simp only [Bool.and_eq_true, decide_eq_true_eq] at x
        obtain ⟨⟨⟨⟨rfl, x1⟩, x2⟩, x3⟩, x4⟩ := x
        obtain ⟨h1, h2, h3, h4⟩ := c'.slot x1
        exact PS.fn (s_upd h1 h2 h3 h4 (hk.e c' x4) rfl (few_plain x2) x3 (star_plain x2) rfl) fun σ => by
          simp only [ex1]
          all_goals (cases getS σ j <;> rfl)
      · cases x
    | fr j => cases x
    | wipe j => cases x
    | any => exact PS.fn s_any fun σ => by simp only [ex1]
end
end BW

namespace BW
open PySem PySem.W L2 PySem.Spec PyProof.Rows
/-! ### defs -/
/-- a def's form: its name, its names (the parameters first), its body -/
structure DI where
  nm : Str
  ps : List Str
  N : List Str
  body : List S
def ansR : SR → Res D
  | .rt d => .ok d
  | .nx _ => .ok .none
  | .ex c => .ex c
  | _ => .bad
def runD (fe : FE) (sub : Str → Str → Option Bool) (n : Nat) (d : DI) (ds : List D) : Res D :=
  if ds.length = d.ps.length then ansR (exs fe sub n d.body (ds.map .fz ++ List.replicate (d.N.length - ds.length) .un)) else .bad
def feN (sub : Str → Str → Option Bool) (n : Nat) (T : List DI) : Nat → FE
  | 0, _, _ => .bad
  | k + 1, i, ds => match T[i]? with
    | some d => runD (feN sub n T k) sub n d ds
    | none => .bad
section
variable {P : Program} {wd : World} {K : PySem.W.Frag} {mg : Str → Option Value} {base : Heap} {G : GC} {C : Str → Value} {sub : Str → Str → Option Bool}
theorem start_slot {F H : Hp} {N : List Str} {vs : List V} {ds : List D} (s : Same F H) (h : DqAll K F vs ds) (hl : vs.length ≤ N.length) : RE K F H (L2.start N vs) (ds.map .fz ++ List.replicate (N.length - ds.length) .un) := by
  refine ⟨s, by simp [L2.start, h.length], fun i => ?_⟩
  unfold L2.start getS
  rw [List.getD_eq_getElem?_getD]
  have el := h.length
  by_cases hi : i < ds.length
  · have hv : i < vs.length := by rw [el]; exact hi
    have e1 : (vs.map some ++ List.replicate (N.length - vs.length) none)[i]? = (vs.map some)[i]? := List.getElem?_append_left (by simpa using hv)
    have e2 : (ds.map Sl.fz ++ List.replicate (N.length - ds.length) .un)[i]? = (ds.map Sl.fz)[i]? := List.getElem?_append_left (by simpa using hi)
    rw [e1, e2, List.getElem?_map, List.getElem?_map]
    obtain ⟨v, e, q⟩ := h.get' (List.getElem?_eq_getElem hi)
    rw [e, List.getElem?_eq_getElem hi]
    exact ⟨v, rfl, q⟩
  · have e2 : (ds.map Sl.fz ++ List.replicate (N.length - ds.length) Sl.un)[i]?.getD .un = .un := by
      rw [List.getElem?_append_right (by simpa using hi), List.getElem?_replicate]
      split <;> rfl
    rw [e2]
    trivial
theorem start_RS {F H : Hp} {N : List Str} {vs : List V} {ds : List D} (s : Same F H) (h : DqAll K F vs ds) (hl : vs.length ≤ N.length) : RS K F H F H (L2.start N vs) (ds.map .fz ++ List.replicate (N.length - ds.length) .un) := by
  have no : ∀ i, (∀ xs, getS (ds.map Sl.fz ++ List.replicate (N.length - ds.length) .un) i ≠ .ol xs) ∧ ∀ xs, getS (ds.map Sl.fz ++ List.replicate (N.length - ds.length) .un) i ≠ .od xs := fun i => by
    unfold getS
    rw [List.getD_eq_getElem?_getD]
    by_cases hi : i < ds.length
    · rw [List.getElem?_append_left (by simpa using hi), List.getElem?_map, List.getElem?_eq_getElem hi]
      exact ⟨fun xs z => (nomatch z), fun xs z => (nomatch z)⟩
    · rw [List.getElem?_append_right (by simpa using hi), List.getElem?_replicate]
      split <;> exact ⟨fun xs z => (nomatch z), fun xs z => (nomatch z)⟩
  have nw : ∀ i l, ¬ Own (L2.start N vs) (ds.map Sl.fz ++ List.replicate (N.length - ds.length) .un) i l := fun i l ⟨_, z⟩ => by
    rcases z with ⟨xs, z⟩ | ⟨xs, z⟩
    · exact (no i).1 xs z
    · exact (no i).2 xs z
  exact ⟨start_slot s h hl, Ext.refl s, fun i l o => absurd o (nw i l), fun i j l o _ => absurd o (nw i l)⟩
/-- one def, a level up -/
theorem fn_step {x qual : Str} {st : Stmt} {f : Addr} {fd : FuncData} {k m n q : Nat} {fe : FE} {d : DI} (F : L2.Fun K x qual st f fd) (S : FnScope d.N d.ps (defScope st)) (gx : GX P wd K mg base G C sub fe k) (hck : ckSs (ckS G d.N (defScope st) m q) (defBody st) d.body = true) :
    FnOk P wd K mg base (L2.CX P wd) (k + 1) f fd d.ps (spF K C d.ps.length (runD fe sub n d)) := by
  have hps : d.ps.length ≤ d.N.length := by have := congrArg List.length S.pre; rw [List.length_take] at this; omega
  refine F.okX S (fun vs H Q E h => h.1) fun cdv A outer s H vs Q E hr ⟨hl, F0, ds, sm, qa, h⟩ => ?_
  have hd : ds.length = d.ps.length := by rw [← qa.length]; exact hl
  unfold runD at h
  rw [if_pos hd] at h
  have sc : SC (cxOf (L2.CX P wd) P wd K mg base d.N qual (defScope st) f cdv A outer s H E) G C sub fe k (fun cls dd _ H => E cls dd H) d.N (defScope st) :=
    ⟨⟨⟨S.nd, rfl, by have := hr.un; show (A.deeper _).units + 64 < cLine; omega⟩, rfl, rfl, takes_of rfl rfl rfl rfl, hr, gx⟩, passes_of rfl, S.kind, fun _ => rfl, rfl, rfl⟩
  refine ⟨_, ckSs_ok (F0 := F0) (H0 := H) (n := n) (ckS_ok (m := m) q) sc d.body (defBody st) hck, F0, _, start_RS sm qa (by rw [hl]; exact hps), ?_⟩
  cases e : exs fe sub n d.body (ds.map .fz ++ List.replicate (d.N.length - ds.length) .un) with
  | nx env' => rw [e] at h; exact fun σ' H' F' s R => h .non H' F' R.x .non
  | rt r => rw [e] at h; exact fun v H' F' s x q => h v H' F' x q
  | ex c => rw [e] at h; exact fun σ' H' F' s x => h H' x.h
  | bk env' => rw [e] at h; exact h.elim
  | ct env' => rw [e] at h; exact h.elim
  | bad => rw [e] at h; exact h.elim
end
/-- what is known of a def of the table -/
structure DefOk (K : PySem.W.Frag) (G : GC) (m q : Nat) (d : DI) (f : Addr) (fd : FuncData) : Prop where
  kp : PySem.W.keepIn K (.ref f) = true
  bd : Binds K fd d.ps []
  ex : ∃ st : Stmt, L2.Fun K d.nm d.nm st f fd ∧ FnScope d.N d.ps (defScope st) ∧ ckSs (ckS G d.N (defScope st) m q) (defBody st) d.body = true
/-- what is known of an error's class -/
structure ExcOk (K : PySem.W.Frag) (mg : Str → Option Value) (C : Str → Value) (x : Str) : Prop where
  ex : ∃ Cx bmB B newId initId, C x = .ref Cx ∧ PySem.ExcBaseFacts B newId initId bmB ∧ PySem.W.excIn K Cx bmB newId = true ∧ mg x = some (.ref Cx) ∧ PySem.W.keepIn K (.ref Cx) = true ∧ PySem.W.subIn K (.ref Cx) (.type "BaseException") = some true ∧ PySem.W.typeIn K (.ref Cx) = some (.type "type")
section
variable {P : Program} {wd : World} {K : PySem.W.Frag} {mg : Str → Option Value} {base : Heap} {G : GC} {C : Str → Value} {sub : Str → Str → Option Bool} {m q n : Nat} {T : List DI}
theorem fn0_ok {f : Addr} {fd : FuncData} {ps : List Str} : FnOk P wd K mg base (L2.CX P wd) 0 f fd ps (spF K C ps.length fun _ => .bad) :=
  ⟨fun vs H Q E h => h.1, fun A outer s H args us vs Q E hr e0 hb r ⟨_, _, _, _, _, h⟩ => h.elim⟩
/-- the module: its defs, constants, errors -/
structure ModOk (K : PySem.W.Frag) (mg : Str → Option Value) (G : GC) (C : Str → Value) (sub : Str → Str → Option Bool) (m q : Nat) (T : List DI) : Prop where
  fns : ∀ e ∈ G.fns, ∃ d f fd, T[e.2.1]? = some d ∧ DefOk K G m q d f fd ∧ mg e.1 = some (.ref f) ∧ d.ps.length = e.2.2
  bi : ∀ x ∈ biNames, mg x = none
  con : ∀ e ∈ G.con, ∃ v u, mg e.1 = some u ∧ RelV v u ∧ ∀ F : Hp, Dq K F v e.2
  ck : ClsOk K C sub
  exc : ∀ x ∈ G.exc, ExcOk K mg C x
theorem all_fn (M : ModOk K mg G C sub m q T) : ∀ k : Nat, (∀ i d f fd, T[i]? = some d → DefOk K G m q d f fd → FnOk P wd K mg base (L2.CX P wd) k f fd d.ps (spF K C d.ps.length (feN sub n T k i))) ∧ GX P wd K mg base G C sub (feN sub n T k) k
  | 0 => by
    have h0 : ∀ i d f fd, T[i]? = some d → DefOk K G m q d f fd → FnOk P wd K mg base (L2.CX P wd) 0 f fd d.ps (spF K C d.ps.length (feN sub n T 0 i)) := fun i d f fd e D => fn0_ok
    refine ⟨h0, M.bi, fun x d e => M.con _ (PySem.mem_of_lookup e), fun x i a e => ?_, M.ck, fun x hx => (M.exc x hx).ex⟩
    obtain ⟨d, f, fd, h1, h2, h3, h4⟩ := M.fns _ (PySem.mem_of_lookup e)
    exact ⟨f, fd, d.ps, h3, h2.kp, h2.bd, by rw [show a = d.ps.length from h4.symm]; exact h0 i d f fd h1 h2⟩
  | k + 1 => by
    obtain ⟨_, gx⟩ := all_fn M k
    have h0 : ∀ i d f fd, T[i]? = some d → DefOk K G m q d f fd → FnOk P wd K mg base (L2.CX P wd) (k + 1) f fd d.ps (spF K C d.ps.length (feN sub n T (k + 1) i)) := fun i d f fd e D => by
      obtain ⟨st, h4, h5, h6⟩ := D.ex
      have : feN sub n T (k + 1) i = runD (feN sub n T k) sub n d := by
        funext ds
        simp only [feN, e]
      rw [this]
      exact fn_step h4 h5 gx h6
    refine ⟨h0, M.bi, fun x d e => M.con _ (PySem.mem_of_lookup e), fun x i a e => ?_, M.ck, fun x hx => (M.exc x hx).ex⟩
    obtain ⟨d, f, fd, h1, h2, h3, h4⟩ := M.fns _ (PySem.mem_of_lookup e)
    exact ⟨f, fd, d.ps, h3, h2.kp, h2.bd, by rw [show a = d.ps.length from h4.symm]; exact h0 i d f fd h1 h2⟩
/-! ### the law -/
/-- the script, as data: it is only sliced -/
def scrD (ns : List Int) : D := .dict [(.none, .list (ns.map .int))]
/-- the law's promise, where its answer is True -/
def spL (r : List D → Res D) (K : PySem.W.Frag) : Sp := fun vs H Q _ => vs.length = 1 ∧ ∃ F ds, Same F H ∧ DqAll K F vs ds ∧ r ds = .ok (.bool true) ∧ okE K Q F H (.bool true)
theorem spL_of {r : List D → Res D} {k : Nat} {f : Addr} {fd : FuncData} {ps : List Str} (hp : ps.length = 1) (F : FnOk P wd K mg base (L2.CX P wd) k f fd ps (spF K C 1 r)) : FnOk P wd K mg base (L2.CX P wd) k f fd ps (spL r K) :=
  ⟨fun vs H Q E h => h.1.trans hp.symm, fun A outer s H args us vs Q E hr e0 hb rv ⟨hl, F0, ds, sm, qa, e, ok⟩ => F.run A outer s H args us vs Q E hr e0 hb rv ⟨hl, F0, ds, sm, qa, by rw [e]; exact ok⟩⟩
theorem dq_ints {F : Hp} : ∀ ns : List Int, DqAll K F (ns.map V.int) (ns.map .int)
  | [] => .nil
  | n :: ns => .cons (.int n) (dq_ints ns)
theorem bw_walk {l : PySem.W.OpenLaw} {q0 : Program} {loose : List Str} {XP : (Str → Option Value) → Heap → Prop} {YP : World → Heap → Prop} {d : DefRec} {K : Params → PySem.W.Frag} {x : Str} {k : Nat} {r : List D → Res D}
    (hlaw : ∀ ns : List Int, ns.length ≤ 63 → r [scrD ns] = .ok (.bool true)) (hn : l.most = some 63) (hdf : d.params.defaults = []) (hr : Room k callerA) (hY : ∀ (w : World) (h : Heap), YP w h → (K w.params).In h)
    (F : ∀ (w : World) (mg : Str → Option Value) (fa : Addr) (h : Heap), (K w.params).In h → h.Ns mainGlobals mg → mg d.name = some (.ref fa) →
      ∃ fd : FuncData, (∀ (s : Shared) (u : Value), BindsTo s fd ⟨[u], []⟩ [(x, u)]) ∧ ∀ base : Heap, (K w.params).In base → base.Ns mainGlobals mg → FnOk l.prog w (K w.params) mg base (L2.CX l.prog w) k fa fd [x] (spL r (K w.params))) :
    PySem.W.WalkO q0 loose XP YP l.row.toRowW d [] (fun f vs => PySem.call f vs) :=
  L2.walk_of (n := 63) (k := k) (x := x) (CX := fun w => L2.CX l.prog w) (sp := fun w => spL r (K w.params)) hn (by decide) hdf hr hY F
    (fun w H a ns hl _ hS => ⟨rfl, H, [scrD ns], Same.refl H, .cons (.scr hS (dq_ints ns)) .nil, hlaw ns hl, fun v H' F' x q => by cases q; rfl⟩)
    fun w H s e s' h => by
      obtain ⟨_, _, _, _, _, _, _, _, _, _, _, _, z⟩ := h
      exact z.elim
/-! ### words for the facts -/
def scB (N P : List Str) (sc : Scope) : Bool := decide (sc.kind = .function) && !sc.isCoroutine && !sc.isGenerator && decide N.Nodup && decide (N.take P.length = P) && P.all (fun x => locB sc x) && sc.names.all (fun y => !decide (y.2 = .free))
theorem scope_by {N P : List Str} {sc : Scope} (h : scB N P sc = true) : FnScope N P sc := by
  unfold scB at h
  simp only [Bool.and_eq_true, Bool.not_eq_true', decide_eq_true_eq, List.all_eq_true, decide_eq_false_iff_not] at h
  obtain ⟨⟨⟨⟨⟨⟨h1, h2⟩, h3⟩, h4⟩, h5⟩, h6⟩, h7⟩ := h
  exact ⟨h1, h2, h3, h4, h5, fun x hx => loc_of (h6 x hx), h7⟩
theorem def_mk {st : Stmt} {d : DI} {f : Addr} {oc : Value} {od an : Option Addr} {osl : Array (Option Value)} {kV doc pm cdv ct : Value}
    (l : K.lookup f = some ⟨oc, od, .func (PySem.W.fnOf d.nm d.nm (defArgs st) (defBody st) (defScope st) .none kV doc pm an cdv ct), osl⟩) (c : PySem.W.codeIn K cdv d.nm = true) (k : PySem.W.keepIn K (.ref f) = true)
    (hb : ∀ us : List Value, us.length = d.ps.length → bindArgs (PySem.W.fnOf d.nm d.nm (defArgs st) (defBody st) (defScope st) .none kV doc pm an cdv ct) ⟨us, []⟩ = pure (d.ps.zip us)) (hs : scB d.N d.ps (defScope st) = true) (hc : ckSs (ckS G d.N (defScope st) m q) (defBody st) d.body = true) :
    DefOk K G m q d f (PySem.W.fnOf d.nm d.nm (defArgs st) (defBody st) (defScope st) .none kV doc pm an cdv ct) :=
  ⟨k, .all hb, st, L2.fun_mk l c k, scope_by hs, hc⟩
theorem exm_by {c x : Addr} {b : Bool} (h1 : PySem.W.subIn K (.ref x) (.type "BaseException") = some true) (h2 : PySem.W.isClsIn K x = true) (h3 : PySem.W.typeIn K (.ref x) = some (.type "type")) (h4 : PySem.W.subIn K (.ref c) (.ref x) = some b) (h5 : c = x → b = true) :
    PySem.W.exmOne K (.ref c) (.ref x) = some b ∧ PySem.W.kitOne K (.ref c) (.ref x) = some b := by
  have e1 : (PySem.W.subIn K (.ref x) (.type "BaseException") == some true) = true := by rw [h1] <;> rfl
  have e2 : ((PySem.W.clsIn K x).isSome && PySem.W.typeIn K (.ref x) == some (.type "type")) = true := by
    have h2' : (PySem.W.clsIn K x).isSome = true := h2
    rw [h2', h3] <;> rfl
  have ek : PySem.W.kitCls K (.ref c) (.ref x) = some b := by
    show (if ((PySem.W.clsIn K x).isSome && PySem.W.typeIn K (.ref x) == some (.type "type")) = true then PySem.W.subIn K (.ref c) (.ref x) else none) = some b
    rw [if_pos e2]
    exact h4
  constructor
  · show (if (PySem.W.subIn K (.ref x) (.type "BaseException") == some true) = true then PySem.W.kitCls K (.ref c) (.ref x) else none) = some b
    rw [if_pos e1]
    exact ek
  · show (if (Value.ref c == Value.ref x) = true then some true else PySem.W.kitCls K (.ref c) (.ref x)) = some b
    by_cases e : (Value.ref c == Value.ref x) = true
    · rw [if_pos e]
      have e : Value.ref c = Value.ref x := by simpa using e
      rw [h5 (Value.ref.inj e)]
    · rw [if_neg e]
      exact ek
end
end BW

namespace BW
open PySem PySem.W L2
/-! ### words for plain laws -/
@[simp] theorem getS_0 (s : Sl) (l : Env) : getS (s :: l) 0 = s := rfl
@[simp] theorem getS_s (s : Sl) (l : Env) (i : Nat) : getS (s :: l) (i + 1) = getS l i := rfl
@[simp] theorem setS_0 (s t : Sl) (l : Env) : setS (s :: l) 0 t = t :: l := rfl
@[simp] theorem setS_s (s t : Sl) (l : Env) (i : Nat) : setS (s :: l) (i + 1) t = s :: setS l i t := rfl
@[simp] theorem sr_ok {α : Type} (a : α) (f : α → SR) : (Res.ok a).sr f = f a := rfl
@[simp] theorem nx_then (σ : Env) (f : Env → SR) : (SR.nx σ).andThen f = f σ := rfl
@[simp] theorem rt_then (d : D) (f : Env → SR) : (SR.rt d).andThen f = .rt d := rfl
@[simp] theorem ex_then (c : Str) (f : Env → SR) : (SR.ex c).andThen f = .ex c := rfl
@[simp] theorem bk_then (σ : Env) (f : Env → SR) : (SR.bk σ).andThen f = .bk σ := rfl
@[simp] theorem ct_then (σ : Env) (f : Env → SR) : (SR.ct σ).andThen f = .ct σ := rfl
@[simp] theorem ex_sr {α : Type} (c : Str) (f : α → SR) : (Res.ex c : Res α).sr f = .ex c := rfl
@[simp] theorem asBool_b (b : Bool) : asBool (.bool b) = .ok b := rfl
@[simp] theorem asInt_i (i : Int) : asInt (.int i) = .ok i := rfl
@[simp] theorem items_l (xs : List D) : items (.list xs) = some xs := rfl
@[simp] theorem items_t (xs : List D) : items (.tuple xs) = some xs := rfl
theorem feN_succ {sub : Str → Str → Option Bool} {n : Nat} {T : List DI} {k i : Nat} {d : DI} {ds : List D} (h : T[i]? = some d) : feN sub n T (k + 1) i ds = runD (feN sub n T k) sub n d ds := by
  simp only [feN, h]
theorem run_env {fe : FE} {sub : Str → Str → Option Bool} {n : Nat} {d : DI} {ds : List D} (env : Env) (hl : ds.length = d.ps.length) (he : ds.map Sl.fz ++ List.replicate (d.N.length - ds.length) .un = env) : runD fe sub n d ds = ansR (exs fe sub n d.body env) := by
  unfold runD
  rw [if_pos hl, he]
/-- a comprehension over what a list encodes -/
theorem compR_map {α : Type} {f : D → Res (Option D)} (enc : α → D) (g : α → Option D) : ∀ (L : List α), (∀ a ∈ L, f (enc a) = .ok (g a)) → compR f (L.map enc) = .ok (L.filterMap g)
  | [], _ => rfl
  | a :: L, h => by
    rw [List.map_cons, compR, h a (by simp), compR_map enc g L fun b hb => h b (by simp [hb])]
    simp only [Res.ok_bind]
    cases q : g a with
    | none => rw [List.filterMap_cons_none q]
    | some y => rw [List.filterMap_cons_some q]
theorem dcompR_map {α : Type} {f : D → Res (Option (D × D))} (enc : α → D) (g : α → Option (D × D)) : ∀ (L : List α) (acc : List (D × D)), (∀ a ∈ L, f (enc a) = .ok (g a)) → (∀ a ∈ L, ∀ q, g a = some q → (keyOf q.1).isSome = true) → acc.length + L.length ≤ 1000000 →
    dcompR f (L.map enc) acc = .ok ((L.filterMap g).foldl (fun acc q => putD acc q.1 q.2) acc)
  | [], acc, _, _, _ => rfl
  | a :: L, acc, h, hk, hz => by
    simp only [List.length_cons] at hz
    rw [List.map_cons, dcompR, h a (by simp)]
    simp only [Res.ok_bind]
    cases q : g a with
    | none =>
      rw [List.filterMap_cons_none q]
      exact dcompR_map enc g L acc (fun b hb => h b (by simp [hb])) (fun b hb => hk b (by simp [hb])) (by omega)
    | some y =>
      rw [List.filterMap_cons_some q, List.foldl_cons]
      have e1 := hk a (by simp) y q
      have e2 : sizeOk acc.length = true := by unfold sizeOk; rw [decide_eq_true_eq]; omega
      dsimp only
      rw [e1, e2]
      have hl : (putD acc y.1 y.2).length ≤ acc.length + 1 := by unfold putD; split <;> simp
      exact dcompR_map enc g L _ (fun b hb => h b (by simp [hb])) (fun b hb => hk b (by simp [hb])) (by omega)
/-- a comprehension, evaluated -/
theorem ev_comp {α : Type} {fe : FE} {elt it c : E} {tg : Tg} {own : List Nat} {σ : Env} {dx : D} (enc : α → D) (L : List α) (g : α → Option D) (hi : ev fe it σ = .ok dx) (hx : items dx = some (L.map enc)) (hz : L.length ≤ 1000000)
    (h : ∀ a ∈ L, (do
        let σ' ← bindT tg (enc a) (wipeS σ own)
        let t ← ev fe c σ'
        let b ← asBool t
        if b then do
          let y ← ev fe elt σ'
          .ok (some y)
        else .ok none) = Res.ok (g a)) : ev fe (.comp elt tg it c own) σ = .ok (.list (L.filterMap g)) := by
  simp only [ev, hi, Res.ok_bind, hx]
  rw [compR_map enc g L fun a ha => by rw [h a ha]; rfl]
  simp only [Res.ok_bind]
  have : sizeOk (L.filterMap g).length = true := by
    unfold sizeOk
    rw [decide_eq_true_eq]
    exact Nat.le_trans (List.length_filterMap_le _ _) hz
  rw [if_pos this]
/-- a for, turn by turn -/
theorem forR_inv {f : D → Env → SR} {P : Nat → Env → Prop} : ∀ (xs : List D) (i : Nat) (σ : Env), (∀ j d σ, xs[j]? = some d → P (i + j) σ → ∃ σ', f d σ = .nx σ' ∧ P (i + j + 1) σ') → P i σ → ∃ σ', forR f xs σ = .nx σ' ∧ P (i + xs.length) σ'
  | [], i, σ, _, p => ⟨σ, rfl, p⟩
  | d :: xs, i, σ, h, p => by
    obtain ⟨σ1, e1, p1⟩ := h 0 d σ rfl p
    obtain ⟨σ2, e2, p2⟩ := forR_inv xs (i + 1) σ1 (fun j d' σ' hd p' => by
      have := h (j + 1) d' σ' (by simpa using hd) (by rw [show i + (j + 1) = i + 1 + j by omega]; exact p')
      rw [show i + (j + 1) = i + 1 + j by omega] at this
      exact this) p1
    exact ⟨σ2, by unfold forR; rw [e1]; exact e2, by rw [List.length_cons, show i + (xs.length + 1) = i + 1 + xs.length by omega]; exact p2⟩
theorem forR_cons {f : D → Env → SR} {d : D} {xs : List D} {σ σ' : Env} (h : f d σ = .nx σ') : forR f (d :: xs) σ = forR f xs σ' := by
  simp only [forR, h]
theorem forR_rt {f : D → Env → SR} {d r : D} {xs : List D} {σ : Env} (h : f d σ = .rt r) : forR f (d :: xs) σ = .rt r := by
  simp only [forR, h]
/-! ### operators on ints -/
@[simp] theorem op_add_i (i j : Int) : opD .add (.int i) (.int j) = .ok (.int (i + j)) := rfl
@[simp] theorem op_sub_i (i j : Int) : opD .sub (.int i) (.int j) = .ok (.int (i - j)) := rfl
theorem op_mul_r (i j : Int) (h : smallI j = true) : opD .mul (.int i) (.int j) = .ok (.int (i * j)) := by
  show (if (smallI i || smallI j) = true then _ else _) = _
  rw [h, Bool.or_true]; rfl
theorem op_mul_l (i j : Int) (h : smallI i = true) : opD .mul (.int i) (.int j) = .ok (.int (i * j)) := by
  show (if (smallI i || smallI j) = true then _ else _) = _
  rw [h, Bool.true_or]; rfl
theorem op_mod_i (i j : Int) (h : 0 < j) : opD .mod (.int i) (.int j) = .ok (.int (i % j)) := by
  show (if decide (0 < j) = true then _ else _) = _
  rw [if_pos (by simpa using h)]
theorem op_fdiv_i (i j : Int) (h : 0 < j) (h2 : j < 1073741824) : opD .fdiv (.int i) (.int j) = .ok (.int (i / j)) := by
  show (if (decide (0 < j) && decide (j < 1073741824)) = true then _ else _) = _
  rw [if_pos (by simp [h, h2])]
@[simp] theorem b1_int (i : Int) : b1D .int (.int i) = .ok (.int i) := rfl
@[simp] theorem b1_abs (i : Int) : b1D .abs (.int i) = .ok (.int (if i < 0 then -i else i)) := rfl
@[simp] theorem b1_lenl (xs : List D) : b1D .len (.list xs) = .ok (.int xs.length) := rfl
@[simp] theorem b1_lent (xs : List D) : b1D .len (.tuple xs) = .ok (.int xs.length) := rfl
@[simp] theorem b1_tupl (xs : List D) : b1D .tuple (.list xs) = .ok (.tuple xs) := rfl
@[simp] theorem b1_tupt (xs : List D) : b1D .tuple (.tuple xs) = .ok (.tuple xs) := rfl
@[simp] theorem b1_listt (xs : List D) : b1D .list (.tuple xs) = .ok (.list xs) := rfl
@[simp] theorem b1_listl (xs : List D) : b1D .list (.list xs) = .ok (.list xs) := rfl
@[simp] theorem lt_i (i j : Int) : cmpB .lt (.int i) (.int j) = .ok (decide (i < j)) := rfl
@[simp] theorem gt_i (i j : Int) : cmpB .gt (.int i) (.int j) = .ok (decide (j < i)) := rfl
@[simp] theorem le_i (i j : Int) : cmpB .le (.int i) (.int j) = .ok (decide (i ≤ j)) := by
  show Res.ok (!decide (j < i)) = _
  congr 1
  by_cases h : j < i
  · simp [h]
  · simp [h]; omega
@[simp] theorem ge_i (i j : Int) : cmpB .ge (.int i) (.int j) = .ok (decide (j ≤ i)) := by
  show Res.ok (!decide (i < j)) = _
  congr 1
  by_cases h : i < j
  · simp [h]
  · simp [h]; omega
theorem rng1 (n : Int) (h1 : -(2 ^ 62) ≤ n) (h2 : n < 2 ^ 62) : rngD (.int 0) (.int n) (.int 1) = .ok (.list ((List.range n.toNat).map fun k => .int (k : Nat))) := by
  unfold rngD
  simp only [asInt_i, Res.ok_bind, if_true]
  rw [if_pos (by simp only [Bool.and_eq_true, decide_eq_true_eq]; omega)]
  simp
@[simp] theorem strict_0 (d : D) (l : Env) : strict (.fz d :: l) 0 = .ok d := rfl
@[simp] theorem strict_s (s : Sl) (l : Env) (i : Nat) : strict (s :: l) (i + 1) = strict l i := rfl
@[simp] theorem peek_0 (d : D) (l : Env) : peek (.fz d :: l) 0 = .ok d := rfl
@[simp] theorem peek_0l (d : List D) (l : Env) : peek (.ol d :: l) 0 = .ok (.list d) := rfl
@[simp] theorem peek_0d (d : List (D × D)) (l : Env) : peek (.od d :: l) 0 = .ok (.dict d) := rfl
@[simp] theorem peek_s (s : Sl) (l : Env) (i : Nat) : peek (s :: l) (i + 1) = peek l i := rfl
@[simp] theorem bindT_n (i : Nat) (d : D) (σ : Env) : bindT (.n i) d σ = .ok (setS σ i (.fz d)) := by unfold bindT; rfl
theorem size_ok {n : Nat} (h : n ≤ 1000000) : sizeOk n = true := by unfold sizeOk; rw [decide_eq_true_eq]; exact h
/-! ### the draws -/
def drI : List S := [
          .ite (.cmp .gt (.v 6) (.k (.int 0))) [
            .app 2 (.op .mod (.b1 .int (.v 6)) (.k (.int 1009))),
            .set 6 (.op .fdiv (.v 6) (.k (.int 1009)))] []]
def dr1 : List S := [
      .set 6 (.b1 .abs (.v 4)),
      .set 3 (.op .mod (.b1 .int (.op .add (.op .add (.op .mul (.v 3) (.k (.int 48271))) (.v 6)) (.k (.int 11)))) (.k (.int 2147483647))),
      .ite (.cmp .ge (.v 6) (.op .pow (.k (.int 10)) (.k (.int 18)))) [
        .for (.n 5) (.rng (.k (.int 0)) (.k (.int 60)) (.k (.int 1))) drI] [
        .app 2 (.op .mod (.op .fdiv (.b1 .int (.op .add (.op .mul (.v 3) (.k (.int 16807))) (.k (.int 5)))) (.k (.int 3))) (.k (.int 65521)))]]
def dr2 : List S := [
      .ite (.cmp .lt (.b1 .len (.p 2)) (.v 1)) [
        .set 3 (.op .mod (.b1 .int (.op .add (.op .add (.op .mul (.v 3) (.k (.int 69621))) (.v 5)) (.k (.int 1)))) (.k (.int 2147483647))),
        .app 2 (.op .mod (.op .fdiv (.b1 .int (.v 3)) (.k (.int 7))) (.k (.int 65521)))] []]
def dDraws : DI := ⟨"_law_draws", ["script", "many"], ["script", "many", "draws", "seed", "cell", "k", "number"], [
    .setO 2 (.lst []),
    .set 3 (.k (.int 7)),
    .for (.n 4) (.slt (.v 0) (.k (.int 63))) dr1,
    .for (.n 5) (.rng (.k (.int 0)) (.v 1) (.k (.int 1))) dr2,
    .ret (.slt (.p 2) (.v 1))]⟩
/-- the state of the draws' loops: at most n draws so far -/
def DrI (scr many : D) (n : Nat) (σ : Env) : Prop := ∃ (draws : List Int) (seed : Int) (a b c : Sl), σ = [.fz scr, .fz many, .ol (draws.map .int), .fz (.int seed), a, b, c] ∧ draws.length ≤ n ∧ ∀ d ∈ draws, 0 ≤ d ∧ d < 65521
def DrN (scr many : D) (n : Nat) (σ : Env) : Prop := ∃ (draws : List Int) (seed num : Int) (a b : Sl), σ = [.fz scr, .fz many, .ol (draws.map .int), .fz (.int seed), a, b, .fz (.int num)] ∧ draws.length ≤ n ∧ ∀ d ∈ draws, 0 ≤ d ∧ d < 65521
section
variable {fe : FE} {sub : Str → Str → Option Bool} {n : Nat}
theorem drI_ok {scr many : D} {m : Nat} (hm : m ≤ 500000) {σ : Env} {d : D} (h : DrN scr many m σ) : ∃ σ', exs fe sub n drI (setS σ 5 (.fz d)) = .nx σ' ∧ DrN scr many (m + 1) σ' := by
  obtain ⟨draws, seed, num, a, b, rfl, hl, hd⟩ := h
  by_cases c : 0 < num
  · refine ⟨_, ?_, draws ++ [num % 1009], seed, num / 1009, a, .fz d, rfl, by simp; omega, ?_⟩
    · simp [drI, exs, ex1, ev, c, op_mod_i, op_fdiv_i, size_ok (show draws.length ≤ 1000000 by omega)]
    · intro x hx
      rcases List.mem_append.mp hx with hx | hx
      · exact hd x hx
      · have : x = num % 1009 := by simpa using hx
        omega
  · exact ⟨_, by simp [drI, exs, ex1, ev, c], draws, seed, num, a, .fz d, rfl, by omega, hd⟩
theorem pow18 : opD .pow (.int 10) (.int 18) = .ok (.int 1000000000000000000) := by rfl
theorem dr1_ok {scr many : D} {m : Nat} (hm : m ≤ 400000) {σ : Env} {c : Int} (h : DrI scr many m σ) : ∃ σ', exs fe sub n dr1 (setS σ 4 (.fz (.int c))) = .nx σ' ∧ DrI scr many (m + 60) σ' := by
  obtain ⟨draws, seed, a, b, z, rfl, hl, hd⟩ := h
  by_cases big : (1000000000000000000 : Int) ≤ (if c < 0 then -c else c)
  · have r60 : rngD (.int 0) (.int 60) (.int 1) = .ok (.list ((List.range 60).map fun k => .int (k : Nat))) := rng1 60 (by decide) (by decide)
    have st : DrN scr many (m + 0) [.fz scr, .fz many, .ol (draws.map .int), .fz (.int ((seed * 48271 + (if c < 0 then -c else c) + 11) % 2147483647)), .fz (.int c), b, .fz (.int (if c < 0 then -c else c))] := ⟨draws, _, _, _, _, rfl, by omega, hd⟩
    obtain ⟨σ', e, p⟩ := forR_inv (f := fun d σ => (bindT (.n 5) d σ).sr fun σ' => exs fe sub n drI σ') (P := fun i σ => DrN scr many (m + i) σ) ((List.range 60).map fun k => .int (k : Nat)) 0 _ (fun j d σ hj hp => by
      have hjl : j < 60 := by
        have := (List.getElem?_eq_some_iff.mp hj).1
        simpa using this
      rw [show 0 + j = j by omega] at hp
      obtain ⟨σ', e, p⟩ := drI_ok (fe := fe) (sub := sub) (n := n) (by omega) (d := d) hp
      exact ⟨σ', by simpa using e, by rw [show m + (0 + j + 1) = m + j + 1 by omega]; exact p⟩) st
    obtain ⟨draws', seed', num', a', b', rfl, hl', hd'⟩ := p
    refine ⟨_, ?_, draws', seed', a', b', .fz (.int num'), rfl, by simpa using hl', hd'⟩
    simp only [bindT_n, sr_ok] at e
    simp [dr1, exs, ex1, ev, op_mul_r _ 48271 rfl, op_mod_i, pow18, big, r60, e]
  · have hs := size_ok (show draws.length ≤ 1000000 by omega)
    refine ⟨_, by simp [dr1, exs, ex1, ev, op_mul_r _ 48271 rfl, op_mul_r _ 16807 rfl, op_mod_i, op_fdiv_i, pow18, big, hs]; rfl, draws ++ [_], _, _, _, _, by simp; exact ⟨rfl, rfl, rfl, rfl, rfl⟩, by simp; omega, ?_⟩
    intro x hx
    rcases List.mem_append.mp hx with hx | hx
    · exact hd x hx
    · have hx := List.mem_singleton.mp hx
      rw [hx]
      omega
theorem dr2_ok {scr : D} {many : Int} {m i : Nat} (hm : m ≤ 500000) {σ : Env} {d : Int} (h : ∃ (draws : List Int) (seed : Int) (a b c : Sl), σ = [.fz scr, .fz (.int many), .ol (draws.map .int), .fz (.int seed), a, b, c] ∧ draws.length ≤ m ∧ (i ≤ draws.length ∨ many ≤ draws.length) ∧ ∀ d ∈ draws, 0 ≤ d ∧ d < 65521) :
    ∃ σ', exs fe sub n dr2 (setS σ 5 (.fz (.int d))) = .nx σ' ∧ ∃ (draws : List Int) (seed : Int) (a b c : Sl), σ' = [.fz scr, .fz (.int many), .ol (draws.map .int), .fz (.int seed), a, b, c] ∧ draws.length ≤ m + 1 ∧ (i + 1 ≤ draws.length ∨ many ≤ draws.length) ∧ ∀ d ∈ draws, 0 ≤ d ∧ d < 65521 := by
  obtain ⟨draws, seed, a, b, c, rfl, hl, hi, hd⟩ := h
  by_cases big : (draws.length : Int) < many
  · have hs := size_ok (show draws.length ≤ 1000000 by omega)
    refine ⟨_, by simp [dr2, exs, ex1, ev, op_mul_r _ 69621 rfl, op_mod_i, op_fdiv_i, big, hs]; rfl, draws ++ [_], _, _, _, _, by simp; exact ⟨rfl, rfl, rfl, rfl, rfl⟩, by simp; omega, .inl (by simp; omega), ?_⟩
    intro x hx
    rcases List.mem_append.mp hx with hx | hx
    · exact hd x hx
    · have hx := List.mem_singleton.mp hx
      rw [hx]
      omega
  · exact ⟨[.fz scr, .fz (.int many), .ol (draws.map .int), .fz (.int seed), a, .fz (.int d), c], by simp [dr2, exs, ex1, ev, big], draws, seed, _, _, _, rfl, by omega, .inr (by omega), hd⟩
theorem cutD_take {α : Type} (xs : List α) (k : Nat) : cutD xs none (some (k : Int)) = xs.take k := by
  unfold cutD
  rw [HT.sIx_none, HT.sIx_nat]
  simp only [List.drop_zero, Nat.sub_zero]
  by_cases h : k ≤ xs.length
  · rw [Nat.min_eq_left h]
  · rw [Nat.min_eq_right (by omega), List.take_of_length_le (Nat.le_refl _), List.take_of_length_le (by omega)]
theorem draws_a (ns : List Int) (hl : ns.length ≤ 63) (scr many : D) : ∃ (dr : List Int) (seed : Int) (a b c : Sl), forR (fun d σ => exs fe sub n dr1 (setS σ 4 (.fz d))) ((ns.take 63).map .int) [.fz scr, .fz many, .ol [], .fz (.int 7), .un, .un, .un] = .nx [.fz scr, .fz many, .ol (dr.map .int), .fz (.int seed), a, b, c] ∧ dr.length ≤ 3780 ∧ ∀ d ∈ dr, 0 ≤ d ∧ d < 65521 := by
  obtain ⟨σ1, e1, p1⟩ := forR_inv (f := fun d σ => exs fe sub n dr1 (setS σ 4 (.fz d))) (P := fun i σ => DrI scr many (i * 60) σ) ((ns.take 63).map .int) 0 [.fz scr, .fz many, .ol [], .fz (.int 7), .un, .un, .un] (fun j d σ hj hp => by
    rw [List.getElem?_map] at hj
    obtain ⟨c, hc, rfl⟩ := Option.map_eq_some_iff.mp hj
    have hjl := (List.getElem?_eq_some_iff.mp hc).1
    rw [List.length_take] at hjl
    obtain ⟨σ', e, p⟩ := dr1_ok (fe := fe) (sub := sub) (n := n) (m := (0 + j) * 60) (by omega) (c := c) hp
    exact ⟨σ', e, by rw [show (0 + j + 1) * 60 = (0 + j) * 60 + 60 by omega]; exact p⟩) ⟨[], 7, .un, .un, .un, rfl, Nat.zero_le _, fun d h => nomatch h⟩
  obtain ⟨dr, seed, a, b, c, rfl, hdl, hdd⟩ := p1
  refine ⟨dr, seed, a, b, c, e1, ?_, hdd⟩
  rw [List.length_map, List.length_take] at hdl
  omega
theorem draws_b (scr : D) (many : Nat) (hm : many ≤ 100000) (dr : List Int) (seed : Int) (a b c : Sl) (hl : dr.length ≤ 3780) (hd : ∀ d ∈ dr, 0 ≤ d ∧ d < 65521) :
    ∃ (dr' : List Int) (seed' : Int) (a' b' c' : Sl), forR (fun d σ => exs fe sub n dr2 (setS σ 5 (.fz d))) ((List.range many).map fun k => .int (k : Nat)) [.fz scr, .fz (.int many), .ol (dr.map .int), .fz (.int seed), a, b, c] = .nx [.fz scr, .fz (.int many), .ol (dr'.map .int), .fz (.int seed'), a', b', c'] ∧ many ≤ dr'.length ∧ ∀ d ∈ dr', 0 ≤ d ∧ d < 65521 := by
  obtain ⟨σ2, e2, p2⟩ := forR_inv (f := fun d σ => exs fe sub n dr2 (setS σ 5 (.fz d))) (P := fun i σ => ∃ (draws : List Int) (seed : Int) (a b c : Sl), σ = [.fz scr, .fz (.int many), .ol (draws.map .int), .fz (.int seed), a, b, c] ∧ draws.length ≤ 3780 + i ∧ (i ≤ draws.length ∨ (many : Int) ≤ draws.length) ∧ ∀ d ∈ draws, 0 ≤ d ∧ d < 65521)
    ((List.range many).map fun k => .int (k : Nat)) 0 [.fz scr, .fz (.int many), .ol (dr.map .int), .fz (.int seed), a, b, c] (fun j d σ hj hp => by
      rw [List.getElem?_map] at hj
      obtain ⟨k, hk, rfl⟩ := Option.map_eq_some_iff.mp hj
      have hjl := (List.getElem?_eq_some_iff.mp hk).1
      rw [List.length_range] at hjl
      obtain ⟨σ', e, p⟩ := dr2_ok (fe := fe) (sub := sub) (n := n) (m := 3780 + (0 + j)) (i := 0 + j) (by omega) (d := (k : Nat)) hp
      exact ⟨σ', e, p⟩) ⟨dr, seed, a, b, c, rfl, by omega, .inl (by omega), hd⟩
  obtain ⟨dr2, seed2, a2, b2, c2, rfl, hl2, hi2, hd2⟩ := p2
  refine ⟨dr2, seed2, a2, b2, c2, e2, ?_, hd2⟩
  rw [List.length_map, List.length_range] at hi2
  omega
theorem slD_scr (ns : List Int) (k : Nat) : slD (scrD ns) none (some (k : Int)) = .ok (.list ((ns.take k).map .int)) := by
  show Res.ok (PyData.list (cutD (ns.map .int) none (some (k : Int)))) = _
  rw [cutD_take, List.map_take]
theorem slD_take (xs : List D) (k : Nat) : slD (.list xs) none (some (k : Int)) = .ok (.list (xs.take k)) := by
  show Res.ok (PyData.list (cutD xs none (some (k : Int)))) = _
  rw [cutD_take]
end
end BW

namespace BW
open PySem PySem.W L2
section
variable {fe : FE} {sub : Str → Str → Option Bool} {n : Nat}
theorem draws_ok (ns : List Int) (hl : ns.length ≤ 63) (many : Nat) (hm : many ≤ 100000) : ∃ draws : List Int, runD fe sub n dDraws [scrD ns, .int many] = .ok (.list (draws.map .int)) ∧ draws.length = many ∧ ∀ d ∈ draws, 0 ≤ d ∧ d < 65521 := by
  have e0 := run_env (fe := fe) (sub := sub) (n := n) (d := dDraws) (ds := [scrD ns, .int many]) [.fz (scrD ns), .fz (.int many), .un, .un, .un, .un, .un] rfl rfl
  obtain ⟨dr, seed, a, b, c, e1, h1, h2⟩ := draws_a (fe := fe) (sub := sub) (n := n) ns hl (scrD ns) (.int many)
  obtain ⟨dr', seed', a', b', c', e2, h3, h4⟩ := draws_b (fe := fe) (sub := sub) (n := n) (scrD ns) many hm dr seed a b c h1 h2
  refine ⟨dr'.take many, ?_, by rw [List.length_take]; omega, fun d hd => h4 d (List.mem_of_mem_take hd)⟩
  have es := slD_scr ns 63
  have er := rng1 many (by omega) (by omega)
  rw [Int.toNat_natCast] at er
  have et := slD_take (dr'.map .int) many
  rw [e0]
  generalize hscr : scrD ns = scr at *
  rw [show ((63 : Nat) : Int) = 63 from rfl] at es
  simp -implicitDefEqProofs only [dDraws, exs, ex1, ev, evs, toSl, Res.ok_bind, sr_ok, setS_0, setS_s, nx_then, strict_0, strict_s, asInt_i, es, items_l, bindT_n, e1, er, e2, peek_0l, peek_s, et, rt_then]
  show Res.ok _ = _
  rw [List.map_take]
end
/-! ### comprehensions by plain lists -/
theorem ev_map {α : Type} {fe : FE} {elt it : E} {tg : Tg} {own : List Nat} {σ : Env} {dx : D} (enc : α → D) (L : List α) (h : α → D) (hi : ev fe it σ = .ok dx) (hx : items dx = some (L.map enc)) (hz : L.length ≤ 1000000)
    (hh : ∀ a ∈ L, (do let σ' ← bindT tg (enc a) (wipeS σ own); ev fe elt σ') = Res.ok (h a)) : ev fe (.comp elt tg it (.k (.bool true)) own) σ = .ok (.list (L.map h)) := by
  rw [ev_comp enc L (fun a => some (h a)) hi hx hz fun a ha => ?_]
  · rw [List.filterMap_eq_map']
  · have := hh a ha
    cases q : bindT tg (enc a) (wipeS σ own) with
    | ok σ' =>
      rw [q] at this
      simp only [Res.ok_bind] at this ⊢
      simp [ev, this]
    | ex c => rw [q] at this; cases this
    | bad => rw [q] at this; cases this
theorem fm_ite {α β : Type} (p : α → Bool) (h : α → β) : ∀ L : List α, L.filterMap (fun a => if p a = true then some (h a) else none) = (L.filter p).map h
  | [] => rfl
  | a :: L => by
    by_cases q : p a = true
    · simp [q, fm_ite p h L]
    · simp [q, fm_ite p h L]
theorem ev_filter {α : Type} {fe : FE} {elt it c : E} {tg : Tg} {own : List Nat} {σ : Env} {dx : D} (enc : α → D) (L : List α) (p : α → Bool) (h : α → D) (hi : ev fe it σ = .ok dx) (hx : items dx = some (L.map enc)) (hz : L.length ≤ 1000000)
    (hc : ∀ a ∈ L, (do let σ' ← bindT tg (enc a) (wipeS σ own); ev fe c σ') = Res.ok (.bool (p a)))
    (hh : ∀ a ∈ L, p a = true → (do let σ' ← bindT tg (enc a) (wipeS σ own); ev fe elt σ') = Res.ok (h a)) : ev fe (.comp elt tg it c own) σ = .ok (.list ((L.filter p).map h)) := by
  rw [ev_comp enc L (fun a => if p a = true then some (h a) else none) hi hx hz fun a ha => ?_]
  · rw [fm_ite]
  · have h1 := hc a ha
    have h2 := hh a ha
    cases q : bindT tg (enc a) (wipeS σ own) with
    | ok σ' =>
      rw [q] at h1 h2
      simp only [Res.ok_bind] at h1 h2 ⊢
      rw [h1]
      simp only [Res.ok_bind, asBool_b]
      by_cases z : p a = true
      · rw [z]
        simp [h2 z]
      · simp [z]
    | ex c => rw [q] at h1; cases h1
    | bad => rw [q] at h1; cases h1
theorem mapR_bools {α : Type} (p : α → Bool) : ∀ L : List α, mapR asBool (L.map fun a => .bool (p a)) = .ok (L.map p)
  | [] => rfl
  | a :: L => by simp [mapR, mapR_bools p L]
theorem b1_all {α : Type} (p : α → Bool) (L : List α) : b1D .all (.list (L.map fun a => .bool (p a))) = .ok (.bool (L.all p)) := by
  show (do let bs ← mapR asBool (L.map fun a => .bool (p a)); .ok (.bool (bs.all id)) : Res D) = _
  rw [mapR_bools]
  simp
theorem b1_any {α : Type} (p : α → Bool) (L : List α) : b1D .any (.list (L.map fun a => .bool (p a))) = .ok (.bool (L.any p)) := by
  show (do let bs ← mapR asBool (L.map fun a => .bool (p a)); .ok (.bool (bs.any id)) : Res D) = _
  rw [mapR_bools]
  simp
@[simp] theorem wipeS_nil (σ : Env) : wipeS σ [] = σ := rfl
@[simp] theorem wipeS_cons (σ : Env) (i : Nat) (r : List Nat) : wipeS σ (i :: r) = setS (wipeS σ r) i .un := rfl
/-! ### one step of the evaluator at a time (comprehensions stay closed) -/
section
variable (fe : FE) (sub : Str → Str → Option Bool) (n : Nat) (σ : Env)
@[simp] theorem e_k (d : D) : ev fe (.k d) σ = .ok d := by rw [ev]
@[simp] theorem e_v (i : Nat) : ev fe (.v i) σ = strict σ i := by rw [ev]
@[simp] theorem e_p (i : Nat) : ev fe (.p i) σ = peek σ i := by rw [ev]
@[simp] theorem e_tup (es : List E) : ev fe (.tup es) σ = (do let ds ← evs fe es σ; .ok (.tuple ds)) := by rw [ev]
@[simp] theorem e_lst (es : List E) : ev fe (.lst es) σ = (do let ds ← evs fe es σ; .ok (.list ds)) := by rw [ev]
@[simp] theorem e_nil : evs fe [] σ = .ok [] := by rw [evs]
@[simp] theorem e_cons (e : E) (es : List E) : evs fe (e :: es) σ = (do let d ← ev fe e σ; let ds ← evs fe es σ; .ok (d :: ds)) := by rw [evs]
@[simp] theorem e_op (o : Op) (a b : E) : ev fe (.op o a b) σ = (do let x ← ev fe a σ; let y ← ev fe b σ; opD o x y) := by rw [ev]
@[simp] theorem e_cmp (o : Cmp) (a b : E) : ev fe (.cmp o a b) σ = (do let x ← ev fe a σ; let y ← ev fe b σ; let r ← cmpB o x y; .ok (.bool r)) := by rw [ev]
@[simp] theorem e_ch (o q : Cmp) (a b c : E) : ev fe (.ch o q a b c) σ = (do
    let x ← ev fe a σ
    let y ← ev fe b σ
    let r ← cmpB o x y
    if r then do
      let z ← ev fe c σ
      let r' ← cmpB q y z
      .ok (.bool r')
    else .ok (.bool false)) := by rw [ev]
@[simp] theorem e_and (a b : E) : ev fe (.and a b) σ = (do let x ← ev fe a σ; let t ← asBool x; if t then ev fe b σ else .ok (.bool false)) := by rw [ev]
@[simp] theorem e_or (a b : E) : ev fe (.or a b) σ = (do let x ← ev fe a σ; let t ← asBool x; if t then .ok (.bool true) else ev fe b σ) := by rw [ev]
@[simp] theorem e_not (a : E) : ev fe (.not a) σ = (do let x ← ev fe a σ; let t ← asBool x; .ok (.bool !t)) := by rw [ev]
@[simp] theorem e_neg (a : E) : ev fe (.neg a) σ = (do let x ← ev fe a σ; let i ← asInt x; .ok (.int (-i))) := by rw [ev]
@[simp] theorem e_ite (c a b : E) : ev fe (.ite c a b) σ = (do let x ← ev fe c σ; let t ← asBool x; if t then ev fe a σ else ev fe b σ) := by rw [ev]
@[simp] theorem e_isN (a : E) : ev fe (.isN a) σ = (do let x ← ev fe a σ; .ok (.bool !(notNone x))) := by rw [ev]
@[simp] theorem e_notN (a : E) : ev fe (.notN a) σ = (do let x ← ev fe a σ; .ok (.bool (notNone x))) := by rw [ev]
@[simp] theorem e_ix (a b : E) : ev fe (.ix a b) σ = (do let x ← ev fe a σ; let y ← ev fe b σ; ixD x y) := by rw [ev]
@[simp] theorem e_slf (a l : E) : ev fe (.slf a l) σ = (do let x ← ev fe a σ; let y ← ev fe l σ; let i ← asInt y; slD x (some i) none) := by rw [ev]
@[simp] theorem e_slt (a h : E) : ev fe (.slt a h) σ = (do let x ← ev fe a σ; let z ← ev fe h σ; let j ← asInt z; slD x none (some j)) := by rw [ev]
@[simp] theorem e_slb (a l h : E) : ev fe (.slb a l h) σ = (do let x ← ev fe a σ; let y ← ev fe l σ; let i ← asInt y; let z ← ev fe h σ; let j ← asInt z; slD x (some i) (some j)) := by rw [ev]
@[simp] theorem e_rev (a : E) : ev fe (.rev a) σ = (do let x ← ev fe a σ; revD x) := by rw [ev]
@[simp] theorem e_call (f : Nat) (es : List E) : ev fe (.call f es) σ = (do let ds ← evs fe es σ; fe f ds) := by rw [ev]
@[simp] theorem e_b1 (b : B1) (a : E) : ev fe (.b1 b a) σ = (do let x ← ev fe a σ; b1D b x) := by rw [ev]
@[simp] theorem e_b2 (b : B2) (a c : E) : ev fe (.b2 b a c) σ = (do let x ← ev fe a σ; let y ← ev fe c σ; b2D b x y) := by rw [ev]
@[simp] theorem e_isi (a : E) (ts : List Ty) : ev fe (.isi a ts) σ = (do let x ← ev fe a σ; if okD x then .ok (.bool (ts.any fun t => tyD t x)) else .bad) := by rw [ev]
@[simp] theorem e_rng (a b c : E) : ev fe (.rng a b c) σ = (do let x ← ev fe a σ; let y ← ev fe b σ; let z ← ev fe c σ; rngD x y z) := by rw [ev]
@[simp] theorem e_dnil : ev fe .dnil σ = .ok (.dict []) := by rw [ev]
theorem e_enm {a : E} {xs : List D} {x : D} (h : ev fe a σ = .ok x) (hx : items x = some xs) : ev fe (.enm a) σ = .ok (.list (enumD 0 xs)) := by
  rw [ev, h]
  simp only [Res.ok_bind, hx]
theorem e_zipT {a b : E} {xs ys : List D} (h : ev fe a σ = .ok (.tuple xs)) (h2 : ev fe b σ = .ok (.tuple ys)) : ev fe (.zip a b) σ = .ok (.list (zipD xs ys)) := by
  rw [ev, h, h2]
  rfl
theorem e_zipL {a b : E} {xs ys : List D} (h : ev fe a σ = .ok (.list xs)) (h2 : ev fe b σ = .ok (.list ys)) : ev fe (.zip a b) σ = .ok (.list (zipD xs ys)) := by
  rw [ev, h, h2]
  rfl
@[simp] theorem x_nil : exs fe sub n [] σ = .nx σ := by rw [exs]
@[simp] theorem x_cons (s : S) (r : List S) : exs fe sub n (s :: r) σ = (ex1 fe sub n s σ).andThen (exs fe sub n r) := by rw [exs]
@[simp] theorem x_set (i : Nat) (e : E) : ex1 fe sub n (.set i e) σ = (ev fe e σ).sr fun d => .nx (setS σ i (.fz d)) := by rw [ex1]
@[simp] theorem x_setO (i : Nat) (e : E) : ex1 fe sub n (.setO i e) σ = (ev fe e σ).sr fun d => (toSl true d).sr fun s => .nx (setS σ i s) := by rw [ex1]
@[simp] theorem x_unp (T : Tg) (e : E) : ex1 fe sub n (.unp T e) σ = (ev fe e σ).sr fun d => (bindT T d σ).sr .nx := by rw [ex1]
@[simp] theorem x_xp (e : E) : ex1 fe sub n (.xp e) σ = (ev fe e σ).sr fun _ => .nx σ := by rw [ex1]
@[simp] theorem x_ret (e : E) : ex1 fe sub n (.ret e) σ = (ev fe e σ).sr .rt := by rw [ex1]
@[simp] theorem x_raise (c : Str) : ex1 fe sub n (.raise c) σ = .ex c := by rw [ex1]
@[simp] theorem x_ite (c : E) (a b : List S) : ex1 fe sub n (.ite c a b) σ = (ev fe c σ).sr fun d => (asBool d).sr fun t => if t then exs fe sub n a σ else exs fe sub n b σ := by rw [ex1]
theorem x_for {T : Tg} {it : E} {b : List S} {x : D} {xs : List D} (h : ev fe it σ = .ok x) (hx : items x = some xs) : ex1 fe sub n (.for T it b) σ = forR (fun d σ => (bindT T d σ).sr fun σ' => exs fe sub n b σ') xs σ := by
  rw [ex1, h]
  simp only [sr_ok, hx]
@[simp] theorem x_app {i : Nat} {e : E} : ex1 fe sub n (.app i e) σ = (match getS σ i with | .ol ds => (ev fe e σ).sr fun d => if sizeOk ds.length then .nx (setS σ i (.ol (ds ++ [d]))) else .bad | _ => .bad) := by rw [ex1]; all_goals rfl
@[simp] theorem x_tr (b : List S) (hs : List (Str × HR)) : ex1 fe sub n (.tr b hs) σ = tryR sub hs (exs fe sub n b σ) := by rw [ex1]
@[simp] theorem x_brk : ex1 fe sub n .brk σ = .bk σ := by rw [ex1]
@[simp] theorem x_cnt : ex1 fe sub n .cnt σ = .ct σ := by rw [ex1]
@[simp] theorem x_pass : ex1 fe sub n .pass σ = .nx σ := by rw [ex1]
end
/-! ### data: plain, not deep -/
theorem plainAll_map {α : Type} {f : α → D} : ∀ {L : List α}, (∀ a ∈ L, (f a).plain = true) → PyData.plainAll (L.map f) = true
  | [], _ => rfl
  | a :: L, h => by
    simp only [List.map_cons, PyData.plainAll, Bool.and_eq_true]
    exact ⟨h a (by simp), plainAll_map fun b hb => h b (by simp [hb])⟩
theorem depthAll_map {α : Type} {f : α → D} {m : Nat} : ∀ {L : List α}, (∀ a ∈ L, (f a).depth ≤ m) → PyData.depthAll (L.map f) ≤ m
  | [], _ => Nat.zero_le _
  | a :: L, h => by
    simp only [List.map_cons, PyData.depthAll]
    exact Nat.max_le.mpr ⟨h a (by simp), depthAll_map fun b hb => h b (by simp [hb])⟩
/-- plain, at most m deep -/
def Sm (m : Nat) (d : D) : Prop := d.plain = true ∧ d.depth ≤ m
theorem Sm.sm {m : Nat} {d : D} (h : Sm m d) (hm : m ≤ 60) : sm d = true := by
  unfold BW.sm
  rw [h.1, Bool.true_and, decide_eq_true_eq]
  exact Nat.le_trans h.2 hm
theorem Sm.int (i : Int) : Sm 0 (.int i) := ⟨rfl, Nat.le_refl _⟩
theorem Sm.str (x : Str) : Sm 0 (.str x) := ⟨rfl, Nat.le_refl _⟩
theorem Sm.bool (x : Bool) : Sm 0 (.bool x) := ⟨rfl, Nat.le_refl _⟩
theorem Sm.none : Sm 0 .none := ⟨rfl, Nat.le_refl _⟩
theorem Sm.le {m k : Nat} {d : D} (h : Sm m d) (hm : m ≤ k) : Sm k d := ⟨h.1, Nat.le_trans h.2 hm⟩
theorem Sm.list {α : Type} {f : α → D} {m : Nat} {L : List α} (h : ∀ a ∈ L, Sm m (f a)) : Sm (m + 1) (.list (L.map f)) := by
  refine ⟨?_, ?_⟩
  · rw [PyData.plain]; exact plainAll_map fun a ha => (h a ha).1
  · rw [PyData.depth]; exact Nat.succ_le_succ (depthAll_map fun a ha => (h a ha).2)
theorem Sm.tup {α : Type} {f : α → D} {m : Nat} {L : List α} (h : ∀ a ∈ L, Sm m (f a)) : Sm (m + 1) (.tuple (L.map f)) := by
  refine ⟨?_, ?_⟩
  · rw [PyData.plain]; exact plainAll_map fun a ha => (h a ha).1
  · rw [PyData.depth]; exact Nat.succ_le_succ (depthAll_map fun a ha => (h a ha).2)
theorem Sm.tuple2 {m : Nat} {a b : D} (h1 : Sm m a) (h2 : Sm m b) : Sm (m + 1) (.tuple [a, b]) := Sm.tup (f := id) (L := [a, b]) fun x hx => by
  rcases List.mem_cons.mp hx with rfl | hx
  · exact h1
  · rw [List.mem_singleton.mp hx]; exact h2
theorem eq_self {m : Nat} {d : D} (h : Sm m d) (hm : m ≤ 60) : cmpB .eq d d = .ok true := by
  show (if (sm d && sm d) = true then _ else _) = _
  rw [h.sm hm, Bool.and_self, if_pos rfl, SeqAt.eqv_refl_plain d h.1]
theorem ne_self {m : Nat} {d : D} (h : Sm m d) (hm : m ≤ 60) : cmpB .ne d d = .ok false := by
  show (if (sm d && sm d) = true then _ else _) = _
  rw [h.sm hm, Bool.and_self, if_pos rfl, SeqAt.eqv_refl_plain d h.1]
  rfl
theorem eq_i (i j : Int) : cmpB .eq (.int i) (.int j) = .ok (decide (i = j)) := by
  show Res.ok (i == j) = Res.ok (decide (i = j))
  congr 1
theorem in_ints {x : D} {ns : List Int} (l : Int) (hx : items x = some (ns.map .int)) : cmpB .isin (.int l) x = .ok (ns.contains l) := by
  show inD (.int l) x = _
  unfold inD
  rw [hx]
  dsimp only
  rw [if_pos (by rw [(Sm.int l).sm (by decide), (Sm.list (f := PyData.int) (L := ns) fun a _ => Sm.int a).sm (by decide)]; rfl)]
  congr 1
  induction ns generalizing x with
  | nil => rfl
  | cons a ns ih =>
    simp only [List.map_cons, List.any_cons, List.contains_cons]
    rw [ih (x := .list (ns.map .int)) rfl]
    congr 1
    show (a == l) = (l == a)
    by_cases h : a = l
    · rw [h]
    · rw [beq_eq_false_iff_ne.mpr h, beq_eq_false_iff_ne.mpr (Ne.symm h)]
theorem notin_ints {x : D} {ns : List Int} (l : Int) (hx : items x = some (ns.map .int)) : cmpB .notin (.int l) x = .ok (!ns.contains l) := by
  have h := in_ints l hx
  show (do let r ← inD (.int l) x; .ok !r : Res Bool) = _
  rw [show inD (.int l) x = .ok (ns.contains l) from h]
  rfl
theorem comp_ints (ns : List Int) : (comparable (ns.map .int) && (ns.map PyData.int).all notNone) = true := by
  unfold comparable
  rw [Bool.and_eq_true, Bool.and_eq_true]
  refine ⟨⟨?_, (Sm.list (f := PyData.int) (L := ns) fun a _ => Sm.int a).sm (by decide)⟩, ?_⟩
  · rw [List.all_eq_true]
    intro a ha
    rw [List.all_eq_true]
    intro b hb
    obtain ⟨i, _, rfl⟩ := List.mem_map.mp ha
    obtain ⟨j, _, rfl⟩ := List.mem_map.mp hb
    rfl
  · rw [List.all_eq_true]
    intro a ha
    obtain ⟨i, _, rfl⟩ := List.mem_map.mp ha
    rfl
theorem min_ints {x : D} {n : Int} {ns : List Int} (hx : items x = some ((n :: ns).map .int)) : b1D .min x = .ok (.int (ns.foldl min n)) := by
  have h := comp_ints (n :: ns)
  have e : (if (comparable ((n :: ns).map .int) && ((n :: ns).map PyData.int).all notNone) = true then Res.ok (minD (.int n) (ns.map .int)) else .bad) = .ok (.int (ns.foldl min n)) := by rw [if_pos h, minD_ints]
  rcases items_list hx with rfl | rfl <;> exact e
theorem max_ints {x : D} {n : Int} {ns : List Int} (hx : items x = some ((n :: ns).map .int)) : b1D .max x = .ok (.int (ns.foldl max n)) := by
  have h := comp_ints (n :: ns)
  have e : (if (comparable ((n :: ns).map .int) && ((n :: ns).map PyData.int).all notNone) = true then Res.ok (maxD (.int n) (ns.map .int)) else .bad) = .ok (.int (ns.foldl max n)) := by rw [if_pos h, maxD_ints]
  rcases items_list hx with rfl | rfl <;> exact e
/-! ### dicts, sorted ints -/
theorem ev_dmap {α : Type} {fe : FE} {kx vx it : E} {tg : Tg} {own : List Nat} {σ : Env} {dx : D} (enc : α → D) (L : List α) (hk hv : α → D) (hi : ev fe it σ = .ok dx) (hx : items dx = some (L.map enc)) (hz : L.length ≤ 1000000) (hok : ∀ a ∈ L, (keyOf (hk a)).isSome = true)
    (h1 : ∀ a ∈ L, (do let σ' ← bindT tg (enc a) (wipeS σ own); ev fe kx σ') = Res.ok (hk a)) (h2 : ∀ a ∈ L, (do let σ' ← bindT tg (enc a) (wipeS σ own); ev fe vx σ') = Res.ok (hv a)) :
    ev fe (.dcomp kx vx tg it (.k (.bool true)) own) σ = .ok (.dict (mergeD [] (L.map fun a => (hk a, hv a)))) := by
  simp only [ev, hi, Res.ok_bind, hx]
  rw [dcompR_map enc (fun a => some (hk a, hv a)) L [] (fun a ha => ?_) (fun a ha q hq => by cases hq; exact hok a ha) (by simpa using hz)]
  · rw [List.filterMap_eq_map']
    rfl
  · have g1 := h1 a ha
    have g2 := h2 a ha
    cases q : bindT tg (enc a) (wipeS σ own) with
    | ok σ' =>
      rw [q] at g1 g2
      simp only [Res.ok_bind] at g1 g2 ⊢
      simp [g1, g2]
    | ex c => rw [q] at g1; cases g1
    | bad => rw [q] at g1; cases g1
@[simp] theorem x_upd (fe : FE) (sub : Str → Str → Option Bool) (n : Nat) (σ : Env) (i : Nat) (e : E) : ex1 fe sub n (.upd i e) σ = (match getS σ i with
    | .od kvs => (ev fe e σ).sr fun d => match d with
      | .dict js => if okKeys js && sizeOk (kvs.length + js.length) then .nx (setS σ i (.od (mergeD kvs js))) else .bad
      | _ => .bad
    | _ => .bad) := by rw [ex1]; all_goals rfl
theorem sortD_ints (ns : List Int) : sortD (ns.map .int) = (ns.mergeSort (fun a b => decide (a ≤ b))).map .int := by
  unfold sortD
  symm
  apply List.map_mergeSort
  intro a _ b _
  have h := congrFun (congrFun (dataLe_int (β := Int) fun b => b) a) b
  exact h.symm
theorem sortable_ints {ns : List Int} (hz : ns.length ≤ 1000000) : sortable (ns.map .int) = true := by
  unfold sortable
  rw [Bool.and_eq_true, Bool.and_eq_true]
  refine ⟨⟨(Bool.and_eq_true_iff.mp (comp_ints ns)).1, by rw [List.length_map]; exact size_ok hz⟩, ?_⟩
  rw [Bool.or_eq_true]
  right
  rw [List.all_eq_true]
  intro a ha
  obtain ⟨i, _, rfl⟩ := List.mem_map.mp ha
  rfl
/-- a dict of ints, each with the same value -/
def intKv (v : D) (ks : List Int) : List (D × D) := ks.map fun i => (.int i, v)
def addI (ks : List Int) (i : Int) : List Int := if ks.contains i then ks else ks ++ [i]
theorem putD_int (v : D) (ks : List Int) (i : Int) : putD (intKv v ks) (.int i) v = intKv v (addI ks i) := by
  have h : ((intKv v ks).any fun q => PyData.eqv q.1 (.int i)) = ks.contains i := by
    induction ks with
    | nil => rfl
    | cons k ks ih =>
      simp only [intKv, List.map_cons, List.any_cons, List.contains_cons] at ih ⊢
      rw [ih]
      congr 1
      show (k == i) = (i == k)
      by_cases h : k = i
      · rw [h]
      · rw [beq_eq_false_iff_ne.mpr h, beq_eq_false_iff_ne.mpr (Ne.symm h)]
  unfold putD addI
  rw [h]
  by_cases c : ks.contains i = true
  · rw [if_pos c, if_pos c]
    unfold intKv
    rw [List.map_map]
    apply List.map_congr_left
    intro k _
    simp only [Function.comp]
    split <;> rfl
  · rw [if_neg c, if_neg c]
    simp [intKv]
theorem mergeD_int (v : D) : ∀ (js ks : List Int), mergeD (intKv v ks) (intKv v js) = intKv v (js.foldl addI ks)
  | [], _ => rfl
  | j :: js, ks => by
    have ih := mergeD_int v js (addI ks j)
    unfold mergeD at ih ⊢
    simp only [intKv, List.map_cons, List.foldl_cons] at ih ⊢
    rw [← ih]
    congr 1
    exact putD_int v ks j
theorem mem_addI {ks : List Int} {i k : Int} : k ∈ addI ks i ↔ k ∈ ks ∨ k = i := by
  unfold addI
  by_cases c : ks.contains i = true
  · rw [if_pos c]
    constructor
    · exact .inl
    · rintro (h | rfl)
      · exact h
      · simpa using c
  · rw [if_neg c]
    simp
theorem mem_foldI {k : Int} : ∀ {js ks : List Int}, k ∈ js.foldl addI ks ↔ k ∈ ks ∨ k ∈ js
  | [], ks => by simp
  | j :: js, ks => by rw [List.foldl_cons, mem_foldI, mem_addI, List.mem_cons, or_assoc]
theorem nodup_addI {ks : List Int} {i : Int} (h : ks.Nodup) : (addI ks i).Nodup := by
  unfold addI
  by_cases c : ks.contains i = true
  · rw [if_pos c]; exact h
  · rw [if_neg c]
    rw [List.nodup_append]
    refine ⟨h, by simp, fun a ha b hb => ?_⟩
    rw [List.mem_singleton.mp hb]
    rintro rfl
    exact c (by simpa using ha)
theorem nodup_foldI : ∀ {js ks : List Int}, ks.Nodup → (js.foldl addI ks).Nodup
  | [], _, h => h
  | j :: js, ks, h => by
    rw [List.foldl_cons]
    exact nodup_foldI (js := js) (nodup_addI h)
theorem len_addI (ks : List Int) (i : Int) : (addI ks i).length ≤ ks.length + 1 := by
  unfold addI
  split <;> simp
theorem len_foldI : ∀ (js ks : List Int), (js.foldl addI ks).length ≤ ks.length + js.length
  | [], _ => Nat.le_refl _
  | j :: js, ks => by
    have h1 := len_foldI js (addI ks j)
    have h2 := len_addI ks j
    simp only [List.foldl_cons, List.length_cons]
    omega
theorem okKeys_int (v : D) (ks : List Int) : okKeys (intKv v ks) = true := by
  unfold okKeys intKv
  rw [List.all_eq_true]
  intro q hq
  obtain ⟨i, _, rfl⟩ := List.mem_map.mp hq
  rfl
/-- sorted(a dict of ints), the keys each once -/
theorem sorted_kv (v : D) {ks : List Int} (h : ks.Nodup) (hz : ks.length ≤ 1000000) : b1D .sorted (.dict (intKv v ks)) = .ok (.list ((setI ks).map .int)) := by
  have e : (intKv v ks).map (·.1) = ks.map .int := by simp [intKv]
  show (if (okKeys (intKv v ks) && sortable ((intKv v ks).map (·.1))) = true then Res.ok (PyData.list (sortD ((intKv v ks).map (·.1)))) else .bad) = _
  rw [e, okKeys_int, sortable_ints hz, Bool.and_self, if_pos rfl, sortD_ints]
  congr 3
  refine asc_unique ?_ (setI_sorted ks) fun k => by rw [(List.mergeSort_perm _ _).mem_iff, setI_mem]
  have h1 := List.pairwise_mergeSort (le := fun a b : Int => decide (a ≤ b)) (fun a b c h1 h2 => by simp only [decide_eq_true_eq] at *; omega) (fun a b => by simp only [Bool.or_eq_true, decide_eq_true_eq]; omega) ks
  have h2 : (ks.mergeSort (fun a b => decide (a ≤ b))).Pairwise (· ≠ ·) := (List.mergeSort_perm ks _).nodup_iff.mpr h
  exact h1.imp₂ (fun a b h z => by simp only [decide_eq_true_eq] at h; omega) h2
@[simp] theorem x_ext (fe : FE) (sub : Str → Str → Option Bool) (n : Nat) (σ : Env) (i : Nat) (e : E) : ex1 fe sub n (.ext i e) σ = (match getS σ i with
    | .ol ds => (ev fe e σ).sr fun d => match d with
      | .list xs => if sizeOk (ds.length + xs.length) then .nx (setS σ i (.ol (ds ++ xs))) else .bad
      | _ => .bad
    | _ => .bad) := by rw [ex1]; all_goals rfl
theorem eraseDups_len : ∀ (l : List Int), l.eraseDups.length ≤ l.length
  | [] => by simp
  | a :: l => by
    rw [List.eraseDups_cons]
    simp only [List.length_cons]
    exact Nat.succ_le_succ (Nat.le_trans (eraseDups_len _) (List.length_filter_le _ _))
termination_by l => l.length
decreasing_by simp only [List.length_cons]; exact Nat.lt_succ_of_le (List.length_filter_le _ _)
theorem setI_len (ns : List Int) : (setI ns).length ≤ ns.length := by
  rw [(setI_perm ns).length_eq]
  exact eraseDups_len ns
theorem dataLt_row (a b : List Int) : dataLt (.tuple (a.map .int)) (.tuple (b.map .int)) = decide (a < b) := by
  rw [dataLt_tuple]
  exact dataLt_ints a b
end BW

namespace BW
open PySem PySem.W L2
/-! ### loops and comprehensions, by name -/
section
variable (fe : FE) (sub : Str → Str → Option Bool) (n : Nat) (σ : Env)
def forB (T : Tg) (b : List S) : D → Env → SR := fun d σ => (bindT T d σ).sr fun σ' => exs fe sub n b σ'
@[simp] theorem x_forB (T : Tg) (it : E) (b : List S) : ex1 fe sub n (.for T it b) σ = (ev fe it σ).sr fun x => match items x with | none => .bad | some xs => forR (forB fe sub n T b) xs σ := by rw [ex1]; all_goals rfl
def compG (elt : E) (tg : Tg) (c : E) (own : List Nat) (σ : Env) (d : D) : Res (Option D) := (do
  let σ' ← bindT tg d (wipeS σ own)
  let t ← ev fe c σ'
  let b ← asBool t
  if b then do
    let y ← ev fe elt σ'
    .ok (some y)
  else .ok none : Res (Option D)).quiet
@[simp] theorem e_comp (elt it c : E) (tg : Tg) (own : List Nat) : ev fe (.comp elt tg it c own) σ = (do
    let x ← ev fe it σ
    match items x with
    | none => .bad
    | some xs => do
      let ys ← compR (compG fe elt tg c own σ) xs
      if sizeOk ys.length then .ok (.list ys) else .bad) := by rw [ev]; all_goals rfl
def dcompG (kx vx : E) (tg : Tg) (c : E) (own : List Nat) (σ : Env) (d : D) : Res (Option (D × D)) := (do
  let σ' ← bindT tg d (wipeS σ own)
  let t ← ev fe c σ'
  let b ← asBool t
  if b then do
    let y ← ev fe kx σ'
    let z ← ev fe vx σ'
    .ok (some (y, z))
  else .ok none : Res (Option (D × D))).quiet
@[simp] theorem e_dcomp (kx vx it c : E) (tg : Tg) (own : List Nat) : ev fe (.dcomp kx vx tg it c own) σ = (do
    let x ← ev fe it σ
    match items x with
    | none => .bad
    | some xs => do
      let ys ← dcompR (dcompG fe kx vx tg c own σ) xs []
      .ok (.dict ys)) := by rw [ev]; all_goals rfl
@[simp] theorem e_enm' (a : E) : ev fe (.enm a) σ = (do let x ← ev fe a σ; match items x with | some xs => .ok (.list (enumD 0 xs)) | none => .bad) := by rw [ev]; all_goals rfl
@[simp] theorem e_zip' (a b : E) : ev fe (.zip a b) σ = (do let x ← ev fe a σ; let y ← ev fe b σ; match x, y with | .list xs, .list ys => .ok (.list (zipD xs ys)) | .tuple xs, .tuple ys => .ok (.list (zipD xs ys)) | _, _ => .bad) := by rw [ev]; all_goals rfl
@[simp] theorem e_rl (t : Bool) (a b : E) : ev fe (.rl t a b) σ = (do let x ← ev fe a σ; let y ← ev fe b σ; rlD t x y) := by rw [ev]
@[simp] theorem e_idx (a b : E) : ev fe (.idx a b) σ = (do let x ← ev fe a σ; let xs ← asL x; let y ← ev fe b σ; idxD xs y) := by rw [ev]
@[simp] theorem e_join (a : Str) (b : E) : ev fe (.join a b) σ = (do let y ← ev fe b σ; joinD a y) := by rw [ev]
@[simp] theorem x_fr (i : Nat) : ex1 fe sub n (.fr i) σ = (match getS σ i with | .ol ds => .nx (setS σ i (.fz (.list ds))) | .od kvs => .nx (setS σ i (.fz (.dict kvs))) | _ => .nx σ) := by rw [ex1]; all_goals rfl
@[simp] theorem x_wipe (is : List Nat) : ex1 fe sub n (.wipe is) σ = .nx (wipeS σ is) := by rw [ex1]
@[simp] theorem x_par (is : List (Nat × Bool)) (es : List E) : ex1 fe sub n (.par is es) σ = (evP fe is es σ).sr fun ds => (parR is ds σ).sr .nx := by rw [ex1]
@[simp] theorem evP_nil (r : List (Nat × Bool)) : evP fe r [] σ = .ok [] := by cases r <;> rfl
@[simp] theorem evP_f (i : Nat) (r : List (Nat × Bool)) (e : E) (es : List E) : evP fe ((i, false) :: r) (e :: es) σ = (do let d ← ev fe e σ; let ds ← evP fe r es σ; .ok (d :: ds)) := rfl
@[simp] theorem evP_t (i : Nat) (r : List (Nat × Bool)) (e : E) (es : List E) : evP fe ((i, true) :: r) (e :: es) σ = (do let d ← (ev fe e σ >>= freshD); let ds ← evP fe r es σ; .ok (d :: ds)) := rfl
@[simp] theorem parR_nil : parR [] [] σ = .ok σ := rfl
@[simp] theorem parR_f (i : Nat) (r : List (Nat × Bool)) (d : D) (ds : List D) : parR ((i, false) :: r) (d :: ds) σ = parR r ds (setS σ i (.fz d)) := rfl
@[simp] theorem parR_t (i : Nat) (r : List (Nat × Bool)) (d : List D) (ds : List D) : parR ((i, true) :: r) (.list d :: ds) σ = parR r ds (setS σ i (.ol d)) := rfl
def augD (o : Op) (x y : D) : Res D := match x, y with
  | .int i, .int j => if augOk o then opD o (.int i) (.int j) else .bad
  | _, _ => .bad
@[simp] theorem x_aug (i : Nat) (o : Op) (e : E) : ex1 fe sub n (.aug i o e) σ = (strict σ i).sr fun x => (ev fe e σ).sr fun y => (augD o x y).sr fun d => .nx (setS σ i (.fz d)) := by
  rw [ex1]
  cases strict σ i with
  | ex c => rfl
  | bad => rfl
  | ok x =>
    cases ev fe e σ with
    | ex c => rfl
    | bad => rfl
    | ok y =>
      simp only [sr_ok, augD]
      cases x <;> cases y <;> first | rfl | (dsimp only; split <;> rfl)
@[simp] theorem augD_add (i j : Int) : augD .add (.int i) (.int j) = .ok (.int (i + j)) := rfl
@[simp] theorem augD_sub (i j : Int) : augD .sub (.int i) (.int j) = .ok (.int (i - j)) := rfl
def whC (c : E) : Env → Res Bool := fun σ => do let d ← ev fe c σ; asBool d
def whB (b : List S) : Env → SR := fun σ => exs fe sub n b σ
@[simp] theorem x_while (c : E) (b : List S) : ex1 fe sub n (.while c b) σ = whileR (whC fe c) (whB fe sub n b) n σ := by rw [ex1]; all_goals rfl
def setixS (σ : Env) (i : Nat) (s : Sl) (j d : D) : SR := match s with
  | .ol ds => (asInt j).sr fun k => match listIx ds k with
    | some m => .nx (setS σ i (.ol (ds.set m d)))
    | none => .bad
  | .od kvs => match keyOf j with
    | some _ => if sizeOk kvs.length then .nx (setS σ i (.od (putD kvs j d))) else .bad
    | none => .bad
  | _ => .bad
@[simp] theorem x_setix (i : Nat) (x e : E) : ex1 fe sub n (.setix i x e) σ = (match getS σ i with
    | .ol ds => (ev fe e σ).sr fun d => (ev fe x σ).sr fun j => setixS σ i (.ol ds) j d
    | .od kvs => (ev fe e σ).sr fun d => (ev fe x σ).sr fun j => setixS σ i (.od kvs) j d
    | _ => .bad) := by
  rw [ex1]
  all_goals (cases getS σ i <;> rfl)
@[simp] theorem setixS_nat (i : Nat) (ds : List D) (k : Nat) (d : D) (h : k < ds.length) : setixS σ i (.ol ds) (.int (k : Int)) d = .nx (setS σ i (.ol (ds.set k d))) := by
  show (match listIx ds (k : Int) with | some m => SR.nx (setS σ i (.ol (ds.set m d))) | none => .bad) = _
  have : listIx ds (k : Int) = some k := by
    unfold listIx ixN
    rw [if_pos (by omega), if_pos (by omega), Int.toNat_natCast]
  rw [this]
@[simp] theorem x_extS (i : Nat) (e : E) : ex1 fe sub n (.ext i e) σ = (match getS σ i with
    | .ol ds => (ev fe e σ).sr fun d => match d with
      | .list xs => if sizeOk (ds.length + xs.length) then .nx (setS σ i (.ol (ds ++ xs))) else .bad
      | _ => .bad
    | _ => .bad) := by
  rw [ex1]
  all_goals (cases getS σ i <;> rfl)
@[simp] theorem x_pop (j i : Nat) : ex1 fe sub n (.pop j i) σ = (match getS σ i with
    | .ol ds => (match ds[ds.length - 1]? with
      | some d => .nx (setS (setS σ i (.ol ds.dropLast)) j (.fz d))
      | none => .bad)
    | _ => .bad) := by
  rw [ex1]
  all_goals (cases getS σ i <;> rfl)
@[simp] theorem x_augix (i : Nat) (x : E) (o : Op) (e : E) : ex1 fe sub n (.augix i x o e) σ = (match getS σ i with
    | .ol ds => (ev fe x σ).sr fun j => (asInt j).sr fun k => (match listIx ds k with
      | some m => augIx (ev fe e) o σ i ds m
      | none => .bad)
    | _ => .bad) := by
  rw [ex1]
  all_goals (cases getS σ i <;> rfl)
end
@[simp] theorem compR_nil {α β : Type} (f : α → Res (Option β)) : compR f [] = .ok [] := rfl
theorem compR_congr {α β : Type} {f g : α → Res (Option β)} : ∀ {L : List α}, (∀ a ∈ L, f a = g a) → compR f L = compR g L
  | [], _ => rfl
  | a :: L, h => by rw [compR, compR, h a (by simp), compR_congr fun b hb => h b (by simp [hb])]
@[simp] theorem compR_mapL {α β γ : Type} (f : β → Res (Option γ)) (enc : α → β) : ∀ L : List α, compR f (L.map enc) = compR (fun a => f (enc a)) L
  | [] => rfl
  | a :: L => by rw [List.map_cons, compR, compR, compR_mapL f enc L]
theorem compR_ok {α β : Type} {f : α → Res (Option β)} {L : List α} {g : α → β} (h : ∀ a ∈ L, f a = .ok (some (g a))) : compR f L = .ok (L.map g) := by
  rw [compR_congr h]
  induction L with
  | nil => rfl
  | cons a L ih => rw [compR, ih fun b hb => h b (by simp [hb])]; rfl
theorem compR_okf {α β : Type} {f : α → Res (Option β)} {L : List α} {p : α → Bool} {g : α → β} (h : ∀ a ∈ L, f a = .ok (if p a then some (g a) else none)) : compR f L = .ok ((L.filter p).map g) := by
  rw [compR_congr h]
  induction L with
  | nil => rfl
  | cons a L ih =>
    rw [compR, ih fun b hb => h b (by simp [hb])]
    by_cases q : p a = true <;> simp [q]
theorem zipD_map {α β : Type} (f : α → D) (g : β → D) : ∀ (a : List α) (b : List β), zipD (a.map f) (b.map g) = (a.zip b).map fun p => wpD [f p.1, g p.2]
  | [], _ => by simp [zipD]
  | _ :: _, [] => by simp [zipD]
  | x :: a, y :: b => by simp [zipD, zipD_map f g a b]
theorem zipD_tail {α : Type} (f : α → D) (a : List α) : zipD (a.map f) (a.map f).tail = (a.zip a.tail).map fun p => wpD [f p.1, f p.2] := by
  rw [← List.map_tail, zipD_map]
theorem cut_drop {α : Type} (xs : List α) : cutD xs (some 1) none = xs.tail := by
  rw [← List.drop_one]
  show cutD xs (some ((1 : Nat) : Int)) none = _
  unfold cutD
  rw [HT.sIx_nat, HT.sIx_none]
  cases xs with
  | nil => rfl
  | cons a r => rw [show min 1 (a :: r).length = 1 by simp]; exact List.take_of_length_le (by simp)
theorem cutD_drop {α : Type} (xs : List α) (k : Nat) : cutD xs (some (k : Int)) none = xs.drop k := by
  unfold cutD
  rw [HT.sIx_nat, HT.sIx_none]
  by_cases h : k ≤ xs.length
  · rw [Nat.min_eq_left h]; exact List.take_of_length_le (by simp)
  · rw [Nat.min_eq_right (by omega), List.drop_of_length_le (Nat.le_refl _), List.drop_of_length_le (by omega)]; simp
theorem slT_take (xs : List D) (k : Nat) : slD (.tuple xs) none (some (k : Int)) = .ok (.tuple (xs.take k)) := by
  show Res.ok (PyData.tuple (cutD xs none (some (k : Int)))) = _
  rw [cutD_take]
theorem slT_drop (xs : List D) (k : Nat) : slD (.tuple xs) (some (k : Int)) none = .ok (.tuple (xs.drop k)) := by
  show Res.ok (PyData.tuple (cutD xs (some (k : Int)) none)) = _
  rw [cutD_drop]
theorem slL_drop (xs : List D) (k : Nat) : slD (.list xs) (some (k : Int)) none = .ok (.list (xs.drop k)) := by
  show Res.ok (PyData.list (cutD xs (some (k : Int)) none)) = _
  rw [cutD_drop]
theorem add_tup (xs ys : List D) (h : xs.length + ys.length ≤ 1000000) : opD .add (.tuple xs) (.tuple ys) = .ok (.tuple (xs ++ ys)) := by
  show (if sizeOk (xs.length + ys.length) = true then Res.ok (PyData.tuple (xs ++ ys)) else .bad) = _
  rw [if_pos (size_ok h)]
theorem add_lst (xs ys : List D) (h : xs.length + ys.length ≤ 1000000) : opD .add (.list xs) (.list ys) = .ok (.list (xs ++ ys)) := by
  show (if sizeOk (xs.length + ys.length) = true then Res.ok (PyData.list (xs ++ ys)) else .bad) = _
  rw [if_pos (size_ok h)]
@[simp] theorem rev_tup (xs : List D) : revD (.tuple xs) = .ok (.tuple xs.reverse) := rfl
@[simp] theorem rev_lst (xs : List D) : revD (.list xs) = .ok (.list xs.reverse) := rfl
@[simp] theorem sl_tailT (xs : List D) : slD (.tuple xs) (some 1) none = .ok (.tuple xs.tail) := by simp [slD, cut_drop]
@[simp] theorem sl_tailL (xs : List D) : slD (.list xs) (some 1) none = .ok (.list xs.tail) := by simp [slD, cut_drop]
@[simp] theorem compR_some {α β : Type} (g : α → β) : ∀ L : List α, compR (fun a => .ok (some (g a))) L = .ok (L.map g)
  | [] => rfl
  | a :: L => by rw [compR, compR_some g L]; rfl
theorem compR_if {α β : Type} (p : α → Bool) (g : α → β) : ∀ L : List α, compR (fun a => if p a = true then .ok (some (g a)) else .ok none) L = .ok ((L.filter p).map g)
  | [] => rfl
  | a :: L => by
    rw [compR, compR_if p g L]
    by_cases h : p a = true
    · simp [h]
    · simp [h]
@[simp] theorem compR_ifP {α β : Type} (p : α → Prop) [DecidablePred p] (g : α → β) (L : List α) : compR (fun a => if p a then .ok (some (g a)) else .ok none) L = .ok ((L.filter fun a => decide (p a)).map g) := by
  have := compR_if (fun a => decide (p a)) g L
  simpa using this
/-- a comprehension without a condition -/
theorem compG_t (fe : FE) (elt : E) (tg : Tg) (own : List Nat) (σ : Env) (d : D) : compG fe elt tg (.k (.bool true)) own σ d = (do let σ' ← bindT tg d (wipeS σ own); let y ← ev fe elt σ'; .ok (some y) : Res (Option D)).quiet := by
  unfold compG
  cases bindT tg d (wipeS σ own) <;> simp
@[simp] theorem quiet_ite {α : Type} (c : Prop) [Decidable c] (a b : Res α) : (if c then a else b).quiet = if c then a.quiet else b.quiet := by split <;> rfl
/-! ### loops, turn by turn -/
/-- E i: the names ahead of the turn i -/
theorem forR_ix {α : Type} {f : D → Env → SR} (enc : α → D) : ∀ (L : List α) (E : Nat → Env), (∀ i (hi : i < L.length), f (enc L[i]) (E i) = .nx (E (i + 1))) → forR f (L.map enc) (E 0) = .nx (E L.length)
  | [], E, _ => rfl
  | a :: L, E, h => by
    have h0 : f (enc a) (E 0) = .nx (E 1) := h 0 (by simp)
    rw [List.map_cons, forR_cons h0]
    exact forR_ix enc L (fun i => E (i + 1)) fun i hi => h (i + 1) (by simpa using hi)
theorem forR_fold {α st : Type} {f : D → Env → SR} (enc : α → D) (E : st → Env) (g : st → α → st) : ∀ (L : List α) (s : st), (∀ a ∈ L, ∀ s, f (enc a) (E s) = .nx (E (g s a))) → forR f (L.map enc) (E s) = .nx (E (L.foldl g s))
  | [], s, _ => rfl
  | a :: L, s, h => by
    rw [List.map_cons, forR_cons (h a (by simp) s), List.foldl_cons]
    exact forR_fold enc E g L (g s a) fun b hb => h b (by simp [hb])
/-- turns that all leave the names as they were, but where one returns -/
theorem forR_find {α : Type} {f : D → Env → SR} (enc : α → D) (σ : Env) (r : α → Option D) : ∀ (L : List α), (∀ a ∈ L, f (enc a) σ = match r a with | some d => .rt d | none => .nx σ) → forR f (L.map enc) σ = match L.findSome? r with | some d => .rt d | none => .nx σ
  | [], _ => rfl
  | a :: L, h => by
    have h1 := h a (by simp)
    cases q : r a with
    | some d =>
      rw [q] at h1
      rw [List.map_cons, forR_rt h1, List.findSome?_cons_of_isSome (by rw [q]; rfl), q]
    | none =>
      rw [q] at h1
      rw [List.map_cons, forR_cons h1, forR_find enc σ r L fun b hb => h b (by simp [hb])]
      simp [List.findSome?, q]
theorem forR_same {f : D → Env → SR} (σ : Env) : ∀ (L : List D), (∀ a ∈ L, f a σ = .nx σ) → forR f L σ = .nx σ
  | [], _ => rfl
  | a :: L, h => by rw [forR_cons (h a (by simp)), forR_same σ L fun b hb => h b (by simp [hb])]
theorem forR_brk {f : D → Env → SR} {d : D} {xs : List D} {σ σ' : Env} (h : f d σ = .bk σ') : forR f (d :: xs) σ = .nx σ' := by
  simp only [forR, h]
theorem whileR_ix {c : Env → Res Bool} {f : Env → SR} : ∀ (N fuel : Nat) (E : Nat → Env), N < fuel → (∀ i, i < N → c (E i) = .ok true ∧ f (E i) = .nx (E (i + 1))) → c (E N) = .ok false → whileR c f fuel (E 0) = .nx (E N)
  | 0, fuel + 1, E, _, _, h => by simp [whileR, h]
  | N + 1, fuel + 1, E, hl, h1, h2 => by
    obtain ⟨a, b⟩ := h1 0 (by omega)
    rw [whileR, a]
    simp only [sr_ok, if_true, b]
    exact whileR_ix N fuel (fun i => E (i + 1)) (by omega) (fun i hi => h1 (i + 1) (by omega)) h2
theorem forR_foldI {α st : Type} {f : D → Env → SR} (enc : α → D) (E : st → Env) (g : st → α → st) (I : st → Prop) : ∀ (L : List α) (s : st), I s → (∀ a ∈ L, ∀ s, I s → f (enc a) (E s) = .nx (E (g s a)) ∧ I (g s a)) → forR f (L.map enc) (E s) = .nx (E (L.foldl g s)) ∧ I (L.foldl g s)
  | [], s, i, _ => ⟨rfl, i⟩
  | a :: L, s, i, h => by
    obtain ⟨h1, h2⟩ := h a (by simp) s i
    rw [List.map_cons, forR_cons h1, List.foldl_cons]
    exact forR_foldI enc E g I L (g s a) h2 fun b hb => h b (by simp [hb])
theorem whileR_meas {c : Env → Res Bool} {f : Env → SR} (I : Env → Nat → Prop) (F : Env → Prop) (h : ∀ σ m, I σ m → (c σ = .ok false ∧ F σ) ∨ (c σ = .ok true ∧ ∃ σ' m', f σ = .nx σ' ∧ I σ' m' ∧ m' < m)) : ∀ (m : Nat) (σ : Env) (fuel : Nat), I σ m → m < fuel → ∃ σ', whileR c f fuel σ = .nx σ' ∧ F σ' := fun m => by
  induction m using Nat.strongRecOn with
  | _ m ih =>
    intro σ fuel i hl
    obtain ⟨fuel, rfl⟩ : ∃ n, fuel = n + 1 := ⟨fuel - 1, by omega⟩
    rcases h σ m i with ⟨h1, h2⟩ | ⟨h1, σ', m', h2, h3, h4⟩
    · exact ⟨σ, by rw [whileR, h1]; simp, h2⟩
    · obtain ⟨σ'', e, q⟩ := ih m' h4 σ' fuel h3 (by omega)
      refine ⟨σ'', ?_, q⟩
      rw [whileR, h1]
      simp only [sr_ok, if_true, h2]
      exact e
/-- rows are appended -/
theorem forR_app {α : Type} {f : D → Env → SR} (enc : α → D) (E : List D → Env) (h : α → List D) (N : Nat) : ∀ (L : List α) (acc : List D), (∀ a ∈ L, (h a).length ≤ 1) → (∀ a ∈ L, ∀ acc : List D, acc.length ≤ N → f (enc a) (E acc) = .nx (E (acc ++ h a))) → acc.length + L.length ≤ N → forR f (L.map enc) (E acc) = .nx (E (acc ++ L.flatMap h))
  | [], acc, _, _, _ => by simp [forR]
  | a :: L, acc, h1, hf, hz => by
    simp only [List.length_cons] at hz
    have := h1 a (by simp)
    rw [List.map_cons, forR_cons (hf a (by simp) acc (by omega)), forR_app enc E h N L _ (fun b hb => h1 b (by simp [hb])) (fun b hb => hf b (by simp [hb])) (by simp; omega)]
    simp
theorem flatMap_if {α β : Type} (q : α → Bool) (x : α → β) : ∀ L : List α, L.flatMap (fun a => if q a then [x a] else []) = (L.filter q).map x
  | [] => rfl
  | a :: L => by
    rw [List.flatMap_cons, flatMap_if q x L]
    by_cases h : q a = true <;> simp [h]
/-- a loop that is left at the first that passes -/
theorem forR_until {α : Type} {f : D → Env → SR} (enc : α → D) (σ : Env) (q : α → Bool) (E : α → Env) : ∀ L : List α, (∀ a ∈ L, q a = false → f (enc a) σ = .nx σ) → (∀ a ∈ L, q a = true → f (enc a) σ = .bk (E a)) → forR f (L.map enc) σ = match L.find? q with | some a => .nx (E a) | none => .nx σ
  | [], _, _ => rfl
  | a :: L, h1, h2 => by
    cases h : q a with
    | true =>
      rw [List.map_cons, forR_brk (h2 a (by simp) h), List.find?_cons_of_pos h]
    | false =>
      rw [List.map_cons, forR_cons (h1 a (by simp) h), List.find?_cons_of_neg (by simp [h]), forR_until enc σ q E L (fun b hb => h1 b (by simp [hb])) (fun b hb => h2 b (by simp [hb]))]
theorem nodup_len {α : Type} [DecidableEq α] : ∀ {A B : List α}, A.Nodup → (∀ a ∈ A, a ∈ B) → A.length ≤ B.length
  | [], _, _, _ => Nat.zero_le _
  | a :: A, B, hn, hs => by
    obtain ⟨h1, h2⟩ := List.nodup_cons.mp hn
    have hb := hs a (by simp)
    have := nodup_len (A := A) (B := B.erase a) h2 fun x hx => (List.mem_erase_of_ne (show x ≠ a from fun e => h1 (by rw [← e]; exact hx))).mpr (hs x (by simp [hx]))
    rw [List.length_erase_of_mem hb] at this
    have := List.length_pos_of_mem hb
    simp only [List.length_cons]
    omega
/-! ### numbers from 0 on -/
abbrev natD (k : Nat) : D := .int (k : Int)
theorem enumD_from {α : Type} (f : α → D) (d : α) : ∀ (L : List α) (n : Nat), enumD (n : Int) (L.map f) = (List.range L.length).map fun i => wpD [natD (n + i), f (L.getD i d)]
  | [], n => rfl
  | a :: L, n => by
    rw [List.map_cons, enumD, List.length_cons, List.range_succ_eq_map, List.map_cons, List.map_map]
    have := enumD_from f d L (n + 1)
    rw [show ((n : Int) + 1) = ((n + 1 : Nat) : Int) by omega, this]
    congr 1
    apply List.map_congr_left
    intro i _
    simp only [Function.comp, List.getD_cons_succ]
    rw [show n + 1 + i = n + (i + 1) by omega]
theorem enumD_map {α : Type} (f : α → D) (d : α) (L : List α) : enumD 0 (L.map f) = (List.range L.length).map fun i => wpD [natD i, f (L.getD i d)] := by
  have := enumD_from f d L 0
  simpa using this
theorem in_nats {x : D} {ns : List Nat} (l : Nat) (hx : items x = some (ns.map natD)) : cmpB .isin (.int (l : Int)) x = .ok (ns.contains l) := by
  have h := in_ints (x := x) (ns := ns.map fun k : Nat => (k : Int)) (l : Int) (by rw [hx, List.map_map]; rfl)
  rw [h]
  congr 1
  clear h hx
  induction ns with
  | nil => rfl
  | cons a ns ih =>
    rw [List.map_cons, List.contains_cons, List.contains_cons, ih]
    congr 1
    by_cases e : l = a
    · subst e; rw [beq_self_eq_true, beq_self_eq_true]
    · have : ¬ (l : Int) = (a : Int) := fun z => e (Int.ofNat.inj z)
      rw [beq_eq_false_iff_ne.mpr e]
      exact beq_eq_false_iff_ne.mpr this
@[simp] theorem in_natL (l : Nat) (ns : List Nat) : cmpB .isin (.int (l : Int)) (.list (ns.map natD)) = .ok (ns.contains l) := in_nats l rfl
@[simp] theorem in_natT (l : Nat) (ns : List Nat) : cmpB .isin (.int (l : Int)) (.tuple (ns.map natD)) = .ok (ns.contains l) := in_nats l rfl
@[simp] theorem notin_natL (l : Nat) (ns : List Nat) : cmpB .notin (.int (l : Int)) (.list (ns.map natD)) = .ok (!ns.contains l) := by
  show (do let r ← inD (.int (l : Int)) (.list (ns.map natD)); .ok !r : Res Bool) = _
  rw [show inD (.int (l : Int)) (.list (ns.map natD)) = .ok (ns.contains l) from in_natL l ns]; rfl
@[simp] theorem notin_natT (l : Nat) (ns : List Nat) : cmpB .notin (.int (l : Int)) (.tuple (ns.map natD)) = .ok (!ns.contains l) := by
  show (do let r ← inD (.int (l : Int)) (.tuple (ns.map natD)); .ok !r : Res Bool) = _
  rw [show inD (.int (l : Int)) (.tuple (ns.map natD)) = .ok (ns.contains l) from in_natT l ns]; rfl
@[simp] theorem eq_ii (i j : Int) : cmpB .eq (.int i) (.int j) = .ok (decide (i = j)) := eq_i i j
@[simp] theorem ne_ii (i j : Int) : cmpB .ne (.int i) (.int j) = .ok (!decide (i = j)) := by
  show Res.ok (!(i == j)) = Res.ok (!decide (i = j))
  congr 2
@[simp] theorem eq_ss (i j : Str) : cmpB .eq (.str i) (.str j) = .ok (decide (i = j)) := by
  show Res.ok (i == j) = Res.ok (decide (i = j))
  congr 1
@[simp] theorem ne_ss (i j : Str) : cmpB .ne (.str i) (.str j) = .ok (!decide (i = j)) := by
  show Res.ok (!(i == j)) = Res.ok (!decide (i = j))
  congr 2
theorem rng_nat (n : Nat) (h : n ≤ 1000000) : rngD (.int 0) (.int (n : Int)) (.int 1) = .ok (.list ((List.range n).map natD)) := by
  rw [rng1 n (by omega) (by omega), Int.toNat_natCast]
/-- range(a, b) -/
theorem rng_map (a m : Nat) : (List.range m).map (fun k => PyData.int ((a : Int) + (k : Nat))) = (List.range' a m).map natD := by
  rw [List.range'_eq_map_range, List.map_map]
  exact List.map_congr_left fun x _ => congrArg PyData.int (Int.natCast_add a x).symm
theorem rngD_one (i j : Int) (h : (decide (-(2 ^ 62) ≤ i) && decide (i < 2 ^ 62) && decide (-(2 ^ 62) ≤ j) && decide (j < 2 ^ 62)) = true) : rngD (.int i) (.int j) (.int 1) = .ok (.list ((List.range (j - i).toNat).map fun k => .int (i + (k : Nat)))) := by
  unfold rngD
  simp only [asInt_i, Res.ok_bind, if_true]
  rw [if_pos h]
theorem rng_ab (a b : Nat) (ha : a ≤ 1000000) (hb : b ≤ 1000000) : rngD (.int (a : Int)) (.int (b : Int)) (.int 1) = .ok (.list ((List.range' a (b - a)).map natD)) := by
  rw [rngD_one _ _ (by simp only [Bool.and_eq_true, decide_eq_true_eq]; omega), show ((b : Int) - (a : Int)).toNat = b - a by omega, rng_map]
theorem shl_one (k : Nat) (h : k ≤ 1000) : opD .shl (.int 1) (.int (k : Int)) = .ok (.int ((2 ^ k : Nat) : Int)) := by
  show (if (decide (0 ≤ (k : Int)) && decide ((k : Int) ≤ 1000000) && decide ((1 : Int).natAbs < 2 ^ 64)) = true then Res.ok (PyData.int (1 * 2 ^ (k : Int).toNat)) else .bad) = _
  rw [if_pos (by simp only [Bool.and_eq_true, decide_eq_true_eq]; refine ⟨⟨by omega, by omega⟩, by decide⟩)]
  rw [Int.toNat_natCast, Int.one_mul, Int.natCast_pow]
  rfl
theorem shr_nat (n k : Nat) : opD .shr (.int (n : Int)) (.int (k : Int)) = .ok (.int ((n / 2 ^ k : Nat) : Int)) := by
  show (if decide (0 ≤ (k : Int)) = true then Res.ok (PyData.int ((n : Int) / 2 ^ (k : Int).toNat)) else .bad) = _
  rw [if_pos (by simp)]
  rw [Int.toNat_natCast, Int.natCast_ediv, Int.natCast_pow]
  rfl
theorem band_one (n : Nat) : opD .band (.int (n : Int)) (.int 1) = .ok (.int ((n % 2 : Nat) : Int)) := by
  show Res.ok (PyData.int (Builtin.bitAnd (n : Int) 1)) = _
  congr 2
  show ((Nat.land n 1 : Nat) : Int) = _
  rw [show Nat.land n 1 = n % 2 from Nat.and_one_is_mod n]
theorem mul_rep (d : D) (N : Nat) (h : N ≤ 1000000) : opD .mul (.list [d]) (.int (N : Int)) = .ok (.list (List.replicate N d)) := by
  show (if (decide (0 ≤ (N : Int)) && decide ((N : Int) ≤ 1000000) && sizeOk ([d].length * (N : Int).toNat)) = true then Res.ok (PyData.list (List.replicate (N : Int).toNat [d]).flatten) else .bad) = _
  rw [if_pos (by simp only [Bool.and_eq_true, decide_eq_true_eq]; exact ⟨⟨by omega, by omega⟩, size_ok (by simp; omega)⟩), Int.toNat_natCast]
  congr 2
  induction N with
  | zero => rfl
  | succ N ih => rw [List.replicate_succ, List.flatten_cons, ih (by omega)]; rfl
theorem mul_repT (d : D) (N : Nat) (h1 : 1 ≤ N) (h : N ≤ 1000) : opD .mul (.tuple [d]) (.int (N : Int)) = .ok (.tuple (List.replicate N d)) := by
  show (if (decide (1 ≤ (N : Int)) && decide ((N : Int) ≤ 1000) && ![d].isEmpty && decide ([d].length ≤ 1000)) = true then Res.ok (PyData.tuple (List.replicate (N : Int).toNat [d]).flatten) else .bad) = _
  rw [if_pos (by simp only [Bool.and_eq_true, decide_eq_true_eq]; refine ⟨⟨⟨by omega, by omega⟩, rfl⟩, by simp⟩), Int.toNat_natCast]
  congr 2
  clear h1 h
  induction N with
  | zero => rfl
  | succ N ih => rw [List.replicate_succ, List.flatten_cons, ih]; rfl
theorem rngD_neg (i j : Int) (h : (decide (-(2 ^ 62) ≤ i) && decide (i < 2 ^ 62) && decide (-(2 ^ 62) ≤ j) && decide (j < 2 ^ 62)) = true) : rngD (.int i) (.int j) (.int (-1)) = .ok (.list ((List.range (i - j).toNat).map fun k => .int (i - (k : Nat)))) := by
  unfold rngD
  simp only [asInt_i, Res.ok_bind, if_true]
  rw [if_neg (by decide), if_pos h]
theorem rng_down (a : Nat) (h : a ≤ 1000000) : rngD (.int (a : Int)) (.int (-1)) (.int (-1)) = .ok (.list ((List.range (a + 1)).map fun k => natD (a - k))) := by
  rw [rngD_neg _ _ (by simp only [Bool.and_eq_true, decide_eq_true_eq]; omega), show ((a : Int) - -1).toNat = a + 1 by omega]
  have : (List.range (a + 1)).map (fun k => PyData.int ((a : Int) - (k : Nat))) = (List.range (a + 1)).map fun k => natD (a - k) := List.map_congr_left fun x hx => by
    rw [List.mem_range] at hx
    exact congrArg PyData.int (by omega)
  rw [this]
theorem ixL_nat {α : Type} (enc : α → D) (L : List α) (k : Nat) (h : k < L.length) : ixD (.list (L.map enc)) (.int (k : Int)) = .ok (enc L[k]) := by
  show (match atI (L.map enc) (k : Int) with | some d => Res.ok d | none => .bad) = _
  have : atI (L.map enc) (k : Int) = some (enc L[k]) := by
    exact atI_nat (by rw [List.getElem?_map, List.getElem?_eq_getElem h]; rfl)
  rw [this]
theorem ixT_nat {α : Type} (enc : α → D) (L : List α) (k : Nat) (h : k < L.length) : ixD (.tuple (L.map enc)) (.int (k : Int)) = .ok (enc L[k]) := by
  show (match atI (L.map enc) (k : Int) with | some d => Res.ok d | none => .bad) = _
  have : atI (L.map enc) (k : Int) = some (enc L[k]) := by
    exact atI_nat (by rw [List.getElem?_map, List.getElem?_eq_getElem h]; rfl)
  rw [this]
@[simp] theorem sum_map {α : Type} (g : α → Int) (L : List α) : b1D .sum (.list (L.map fun a => .int (g a))) = .ok (.int (L.map g).sum) := by
  show (do let ns ← mapR asInt (L.map fun a => PyData.int (g a)); .ok (.int ns.sum) : Res D) = _
  have : mapR asInt (L.map fun a => PyData.int (g a)) = .ok (L.map g) := by
    induction L with
    | nil => rfl
    | cons a L ih => simp [mapR, ih]
  rw [this]; rfl
@[simp] theorem all_map {α : Type} (p : α → Bool) (L : List α) : b1D .all (.list (L.map fun a => .bool (p a))) = .ok (.bool (L.all p)) := b1_all p L
@[simp] theorem any_map {α : Type} (p : α → Bool) (L : List α) : b1D .any (.list (L.map fun a => .bool (p a))) = .ok (.bool (L.any p)) := b1_any p L
@[simp] theorem b2_max (i j : Int) : b2D .max2 (.int i) (.int j) = .ok (.int (max i j)) := by
  show Res.ok (PyData.int (if j > i then j else i)) = _
  congr 2
  split <;> omega
@[simp] theorem b2_min (i j : Int) : b2D .min2 (.int i) (.int j) = .ok (.int (min i j)) := by
  show Res.ok (PyData.int (if j < i then j else i)) = _
  congr 2
  split <;> omega
@[simp] theorem ix_0 (x : D) (xs : List D) : ixD (.tuple (x :: xs)) (.int 0) = .ok x := by simp [ixD, atI, ixN]
@[simp] theorem ix_1 (x y : D) (xs : List D) : ixD (.tuple (x :: y :: xs)) (.int 1) = .ok y := by
  show (match atI (x :: y :: xs) ((1 : Nat) : Int) with | some d => Res.ok d | none => .bad) = _
  rw [atI_nat (v := _) rfl]
@[simp] theorem ix_2 (x y z : D) (xs : List D) : ixD (.tuple (x :: y :: z :: xs)) (.int 2) = .ok z := by
  show (match atI (x :: y :: z :: xs) ((2 : Nat) : Int) with | some d => Res.ok d | none => .bad) = _
  rw [atI_nat (v := _) rfl]
@[simp] theorem ixl_0 (x : D) (xs : List D) : ixD (.list (x :: xs)) (.int 0) = .ok x := by simp [ixD, atI, ixN]
theorem sz_filterL {α : Type} {p : α → Bool} {L : List α} (h : L.length ≤ 1000000) : sizeOk (L.filter p).length = true := size_ok (Nat.le_trans (List.length_filter_le _ _) h)
theorem sz_filterR {n : Nat} {p : Nat → Bool} (h : n ≤ 1000000) : sizeOk ((List.range n).filter p).length = true := sz_filterL (by simpa using h)
theorem sz_map {α β : Type} {f : α → β} {L : List α} (h : sizeOk L.length = true) : sizeOk (L.map f).length = true := by rw [List.length_map]; exact h
theorem sz_filter {α : Type} {p : α → Bool} {L : List α} (h : sizeOk L.length = true) : sizeOk (L.filter p).length = true := size_ok (Nat.le_trans (List.length_filter_le _ _) (size_of h))
@[simp] theorem ansR_rt (d : D) : ansR (.rt d) = .ok d := rfl
@[simp] theorem ansR_nx (σ : Env) : ansR (.nx σ) = .ok .none := rfl
@[simp] theorem ansR_ex (c : Str) : ansR (.ex c) = .ex c := rfl
@[simp] theorem bindT_t (ts : List Tg) (ds : List D) (σ : Env) : bindT (.t ts) (.tuple ds) σ = bindTs ts ds σ := by rw [bindT]
@[simp] theorem bindT_l (ts : List Tg) (ds : List D) (σ : Env) : bindT (.t ts) (.list ds) σ = bindTs ts ds σ := by rw [bindT]
@[simp] theorem bindT_w (ts : List Tg) (ds : List D) (σ : Env) : bindT (.t ts) (.dict [(.bool true, .list ds)]) σ = bindTs ts ds σ := by rw [bindT]
@[simp] theorem bindTs_n (σ : Env) : bindTs [] [] σ = .ok σ := by rw [bindTs]
@[simp] theorem bindTs_c (t : Tg) (ts : List Tg) (d : D) (ds : List D) (σ : Env) : bindTs (t :: ts) (d :: ds) σ = (do let σ' ← bindT t d σ; bindTs ts ds σ') := by rw [bindTs]
@[simp] theorem toSl_l (ds : List D) : toSl true (.list ds) = .ok (.ol ds) := rfl
@[simp] theorem toSl_d (ds : List (D × D)) : toSl true (.dict ds) = .ok (.od ds) := rfl
/-! ### the evaluator, by simp -/
end BW

namespace Ord
open PySem PySem.W L2 BW
abbrev i_is_whole : Nat := 0
abbrev i_ascends : Nat := 1
abbrev i_are_parts : Nat := 2
abbrev i_is_wire : Nat := 3
abbrev i_are_bundles : Nat := 4
abbrev i_check_bundles : Nat := 5
abbrev i_cut_at : Nat := 6
abbrev i_bestorders_check : Nat := 7
abbrev i_members : Nat := 8
abbrev i_cuts : Nat := 9
abbrev i_together : Nat := 10
abbrev i_marks : Nat := 11
abbrev i_behind : Nat := 12
abbrev i_bestorders_first : Nat := 13
abbrev i_best_order : Nat := 14
abbrev i_marks_fault : Nat := 15
abbrev i_law_draws : Nat := 16
abbrev i_law_bundles : Nat := 17
abbrev i_law_cut : Nat := 18
abbrev i_law_two : Nat := 19
abbrev i_orders_check : Nat := 20
abbrev i_length : Nat := 21
abbrev i_length_of : Nat := 22
abbrev i_greatest_cut : Nat := 23
abbrev i_cut_of : Nat := 24
abbrev i_bettered : Nat := 25
abbrev i_law_length : Nat := 26
abbrev i_law_greatest : Nat := 27
abbrev i_law_drawn : Nat := 28
abbrev i_law_orders : Nat := 29
abbrev i_law_holds : Nat := 30
abbrev i_exchanges_check : Nat := 31
abbrev i_left : Nat := 32
abbrev i_exchanges_first : Nat := 33
abbrev i_prices : Nat := 34
abbrev i_best_exchange : Nat := 35
abbrev i_are_integers : Nat := 36
abbrev i_prices_fault : Nat := 37
abbrev i_law_costs : Nat := 38
abbrev i_exchanges : Nat := 39
abbrev i_gained : Nat := 40
abbrev i_law_least : Nat := 41
abbrev i_law_rows : Nat := 42
/-- is_whole: 0=value 1=least 2=most -/
abbrev e_is_whole (value_ least_ most_ : Sl := .un) : BW.Env := [value_, least_, most_]
def b_is_whole : List BW.S := [
    .ret (.and (.isi (.v 0) [.int]) (.and (.not (.isi (.v 0) [.bool])) (.ch .le .le (.v 1) (.v 0) (.v 2))))]
def d_is_whole : BW.DI := ⟨"is_whole", ["value", "least", "most"], ["value", "least", "most"], b_is_whole⟩
/-- ascends: 0=values 1=one 2=later -/
abbrev e_ascends (values_ one_ later_ : Sl := .un) : BW.Env := [values_, one_, later_]
def b_ascends : List BW.S := [
    .ret (.b1 .all (.comp (.cmp .lt (.v 1) (.v 2)) (.t [.n 1, .n 2]) (.zip (.v 0) (.slf (.v 0) (.k (.int 1)))) (.k (.bool true)) [1, 2]))]
def d_ascends : BW.DI := ⟨"ascends", ["values"], ["values", "one", "later"], b_ascends⟩
/-- _are_parts: 0=many 1=value 2=one -/
abbrev e_are_parts (many_ value_ one_ : Sl := .un) : BW.Env := [many_, value_, one_]
def b_are_parts : List BW.S := [
    .ret (.and (.isi (.v 1) [.tuple]) (.and (.b1 .all (.comp (.call i_is_whole [.v 2, .k (.int 0), .op .sub (.v 0) (.k (.int 1))]) (.n 2) (.v 1) (.k (.bool true)) [2])) (.call i_ascends [.v 1])))]
def d_are_parts : BW.DI := ⟨"_are_parts", ["many", "value"], ["many", "value", "one"], b_are_parts⟩
/-- _is_wire: 0=many 1=value -/
abbrev e_is_wire (many_ value_ : Sl := .un) : BW.Env := [many_, value_]
def b_is_wire : List BW.S := [
    .ite (.or (.not (.isi (.v 1) [.tuple])) (.or (.cmp .ne (.b1 .len (.v 1)) (.k (.int 2))) (.not (.call i_are_parts [.v 0, .ix (.v 1) (.k (.int 0))])))) [
      .ret (.k (.bool false))] [],
    .ret (.and (.cmp .gt (.b1 .len (.ix (.v 1) (.k (.int 0)))) (.k (.int 1))) (.call i_is_whole [.ix (.v 1) (.k (.int 1)), .k (.int 1), .k (.int 1000)]))]
def d_is_wire : BW.DI := ⟨"_is_wire", ["many", "value"], ["many", "value"], b_is_wire⟩
/-- are_bundles: 0=value 1=one -/
abbrev e_are_bundles (value_ one_ : Sl := .un) : BW.Env := [value_, one_]
def b_are_bundles : List BW.S := [
    .ite (.or (.not (.isi (.v 0) [.tuple])) (.or (.cmp .ne (.b1 .len (.v 0)) (.k (.int 2))) (.not (.call i_is_whole [.ix (.v 0) (.k (.int 0)), .k (.int 1), .k (.int 9)])))) [
      .ret (.k (.bool false))] [],
    .ite (.or (.not (.isi (.ix (.v 0) (.k (.int 1))) [.tuple])) (.cmp .gt (.b1 .len (.ix (.v 0) (.k (.int 1)))) (.k (.int 40)))) [
      .ret (.k (.bool false))] [],
    .ret (.b1 .all (.comp (.call i_is_wire [.ix (.v 0) (.k (.int 0)), .v 1]) (.n 1) (.ix (.v 0) (.k (.int 1))) (.k (.bool true)) [1]))]
def d_are_bundles : BW.DI := ⟨"are_bundles", ["value"], ["value", "one"], b_are_bundles⟩
/-- check_bundles: 0=value -/
abbrev e_check_bundles (value_ : Sl := .un) : BW.Env := [value_]
def b_check_bundles : List BW.S := [
    .ite (.not (.call i_are_bundles [.v 0])) [
      .raise "BadBundles"] []]
def d_check_bundles : BW.DI := ⟨"check_bundles", ["value"], ["value"], b_check_bundles⟩
/-- cut_at: 0=bundles 1=some 2=whole 3=parts 4=weight 5=inner 6=part -/
abbrev e_cut_at (bundles_ some_ whole_ parts_ weight_ inner_ part_ : Sl := .un) : BW.Env := [bundles_, some_, whole_, parts_, weight_, inner_, part_]
def b_cut_at_1 : List BW.S := [
    .set 5 (.b1 .len (.comp (.v 6) (.n 6) (.v 3) (.cmp .isin (.v 6) (.v 1)) [6])),
    .aug 2 .add (.ite (.ch .lt .lt (.k (.int 0)) (.v 5) (.b1 .len (.v 3))) (.v 4) (.k (.int 0))),
    .wipe [3, 4, 5]]
def b_cut_at : List BW.S := [
    .set 2 (.k (.int 0)),
    .for (.t [.n 3, .n 4]) (.ix (.v 0) (.k (.int 1))) b_cut_at_1,
    .ret (.v 2)]
def d_cut_at : BW.DI := ⟨"cut_at", ["bundles", "some"], ["bundles", "some", "whole", "parts", "weight", "inner", "part"], b_cut_at⟩
/-- _check: 0=goal 1=bundles -/
abbrev e_bestorders_check (goal_ bundles_ : Sl := .un) : BW.Env := [goal_, bundles_]
def b_bestorders_check : List BW.S := [
    .ite (.or (.not (.isi (.v 0) [.str])) (.cmp .notin (.v 0) (.tup [.k (.str "length"), .k (.str "cut")]))) [
      .raise "BadGoal"] [],
    .xp (.call i_check_bundles [.v 1])]
def d_bestorders_check : BW.DI := ⟨"_check", ["goal", "bundles"], ["goal", "bundles"], b_bestorders_check⟩
/-- _members: 0=number 1=many 2=part -/
abbrev e_members (number_ many_ part_ : Sl := .un) : BW.Env := [number_, many_, part_]
def b_members : List BW.S := [
    .ret (.comp (.v 2) (.n 2) (.rng (.k (.int 0)) (.v 1) (.k (.int 1))) (.cmp .eq (.op .band (.op .shr (.v 0) (.v 2)) (.k (.int 1))) (.k (.int 1))) [2])]
def d_members : BW.DI := ⟨"_members", ["number", "many"], ["number", "many", "part"], b_members⟩
/-- _cuts: 0=bundles 1=number -/
abbrev e_cuts (bundles_ number_ : Sl := .un) : BW.Env := [bundles_, number_]
def b_cuts : List BW.S := [
    .ret (.comp (.call i_cut_at [.v 0, .call i_members [.v 1, .ix (.v 0) (.k (.int 0))]]) (.n 1) (.rng (.k (.int 0)) (.op .shl (.k (.int 1)) (.ix (.v 0) (.k (.int 0)))) (.k (.int 1))) (.k (.bool true)) [1])]
def d_cuts : BW.DI := ⟨"_cuts", ["bundles"], ["bundles", "number"], b_cuts⟩
/-- _together: 0=goal 1=cut 2=mark -/
abbrev e_together (goal_ cut_ mark_ : Sl := .un) : BW.Env := [goal_, cut_, mark_]
def b_together : List BW.S := [
    .ret (.ite (.cmp .eq (.v 0) (.k (.str "length"))) (.op .add (.v 1) (.v 2)) (.b2 .max2 (.v 1) (.v 2)))]
def d_together : BW.DI := ⟨"_together", ["goal", "cut", "mark"], ["goal", "cut", "mark"], b_together⟩
/-- _marks: 0=goal 1=bundles 2=cuts 3=found 4=number 5=less 6=part 7=mark -/
abbrev e_marks (goal_ bundles_ cuts_ found_ number_ less_ part_ mark_ : Sl := .un) : BW.Env := [goal_, bundles_, cuts_, found_, number_, less_, part_, mark_]
def b_marks_1 : List BW.S := [
    .set 5 (.comp (.ix (.p 3) (.op .sub (.v 4) (.op .shl (.k (.int 1)) (.v 6)))) (.n 6) (.call i_members [.v 4, .ix (.v 1) (.k (.int 0))]) (.k (.bool true)) [6]),
    .app 3 (.b1 .min (.comp (.call i_together [.v 0, .ix (.v 2) (.v 4), .v 7]) (.n 7) (.v 5) (.k (.bool true)) [7])),
    .wipe [4, 5]]
def b_marks : List BW.S := [
    .setO 3 (.lst [.k (.int 0)]),
    .for (.n 4) (.rng (.k (.int 1)) (.b1 .len (.v 2)) (.k (.int 1))) b_marks_1,
    .fr 3,
    .ret (.v 3)]
def d_marks : BW.DI := ⟨"_marks", ["goal", "bundles", "cuts"], ["goal", "bundles", "cuts", "found", "number", "less", "part", "mark"], b_marks⟩
/-- _behind: 0=goal 1=bundles 2=cuts 3=many 4=found 5=number 6=rows 7=part 8=more -/
abbrev e_behind (goal_ bundles_ cuts_ many_ found_ number_ rows_ part_ more_ : Sl := .un) : BW.Env := [goal_, bundles_, cuts_, many_, found_, number_, rows_, part_, more_]
def b_behind_2 : List BW.S := [
    .ite (.cmp .eq (.op .band (.op .shr (.v 5) (.v 7)) (.k (.int 1))) (.k (.int 0))) [
      .set 8 (.op .add (.v 5) (.op .shl (.k (.int 1)) (.v 7))),
      .app 6 (.call i_together [.v 0, .ix (.v 2) (.v 8), .ix (.p 4) (.v 8)]),
      .wipe [8]] [
      .wipe [8]],
    .wipe [7, 8]]
def b_behind_1 : List BW.S := [
    .setO 6 (.lst []),
    .for (.n 7) (.rng (.k (.int 0)) (.v 3) (.k (.int 1))) b_behind_2,
    .setix 4 (.v 5) (.b1 .min (.p 6)),
    .wipe [5, 6, 7, 8]]
def b_behind : List BW.S := [
    .set 3 (.ix (.v 1) (.k (.int 0))),
    .setO 4 (.op .mul (.lst [.k (.int 0)]) (.b1 .len (.v 2))),
    .for (.n 5) (.rng (.op .sub (.b1 .len (.v 2)) (.k (.int 2))) (.neg (.k (.int 1))) (.neg (.k (.int 1)))) b_behind_1,
    .fr 4,
    .ret (.v 4)]
def d_behind : BW.DI := ⟨"_behind", ["goal", "bundles", "cuts"], ["goal", "bundles", "cuts", "many", "found", "number", "rows", "part", "more"], b_behind⟩
/-- _first: 0=goal 1=bundles 2=cuts 3=behind 4=order 5=number 6=done 7=part 8=more 9=here -/
abbrev e_bestorders_first (goal_ bundles_ cuts_ behind_ order_ number_ done_ part_ more_ here_ : Sl := .un) : BW.Env := [goal_, bundles_, cuts_, behind_, order_, number_, done_, part_, more_, here_]
def b_bestorders_first_2 : List BW.S := [
    .set 8 (.op .add (.v 5) (.op .shl (.k (.int 1)) (.v 7))),
    .ite (.cmp .notin (.v 7) (.p 4)) [
      .set 9 (.call i_together [.v 0, .ix (.v 2) (.v 8), .v 6]),
      .ite (.cmp .eq (.call i_together [.v 0, .v 9, .ix (.v 3) (.v 8)]) (.ix (.v 3) (.k (.int 0)))) [
        .app 4 (.v 7),
        .par [(5, false), (6, false)] [.v 8, .v 9],
        .wipe [7, 8, 9],
        .brk] [],
      .wipe [9]] [
      .wipe [9]],
    .wipe [7, 8, 9]]
def b_bestorders_first_1 : List BW.S := [
    .for (.n 7) (.rng (.k (.int 0)) (.ix (.v 1) (.k (.int 0))) (.k (.int 1))) b_bestorders_first_2,
    .wipe [7, 8, 9]]
def b_bestorders_first : List BW.S := [
    .set 3 (.call i_behind [.v 0, .v 1, .v 2]),
    .setO 4 (.lst []),
    .set 5 (.k (.int 0)),
    .set 6 (.k (.int 0)),
    .while (.cmp .lt (.b1 .len (.p 4)) (.ix (.v 1) (.k (.int 0)))) b_bestorders_first_1,
    .ret (.b1 .tuple (.p 4))]
def d_bestorders_first : BW.DI := ⟨"_first", ["goal", "bundles", "cuts"], ["goal", "bundles", "cuts", "behind", "order", "number", "done", "part", "more", "here"], b_bestorders_first⟩
/-- best_order: 0=goal 1=bundles 2=cuts 3=marks -/
abbrev e_best_order (goal_ bundles_ cuts_ marks_ : Sl := .un) : BW.Env := [goal_, bundles_, cuts_, marks_]
def b_best_order : List BW.S := [
    .xp (.call i_bestorders_check [.v 0, .v 1]),
    .set 2 (.call i_cuts [.v 1]),
    .set 3 (.call i_marks [.v 0, .v 1, .v 2]),
    .ret (.tup [.ix (.v 3) (.neg (.k (.int 1))), .call i_bestorders_first [.v 0, .v 1, .v 2], .b1 .tuple (.v 3)])]
def d_best_order : BW.DI := ⟨"best_order", ["goal", "bundles"], ["goal", "bundles", "cuts", "marks"], b_best_order⟩
/-- marks_fault: 0=goal 1=bundles 2=marks 3=cuts 4=number 5=part 6=one -/
abbrev e_marks_fault (goal_ bundles_ marks_ cuts_ number_ part_ one_ : Sl := .un) : BW.Env := [goal_, bundles_, marks_, cuts_, number_, part_, one_]
def b_marks_fault_2 : List BW.S := [
    .ite (.cmp .gt (.ix (.v 2) (.v 4)) (.call i_together [.v 0, .ix (.v 3) (.v 4), .ix (.v 2) (.op .sub (.v 4) (.op .shl (.k (.int 1)) (.v 5)))])) [
      .ret (.tup [.k (.str "set"), .v 4, .v 5])] [],
    .wipe [5]]
def b_marks_fault_1 : List BW.S := [
    .for (.n 5) (.call i_members [.v 4, .ix (.v 1) (.k (.int 0))]) b_marks_fault_2,
    .wipe [4, 5]]
def b_marks_fault : List BW.S := [
    .xp (.call i_bestorders_check [.v 0, .v 1]),
    .set 3 (.call i_cuts [.v 1]),
    .ite (.or (.not (.isi (.v 2) [.tuple])) (.cmp .ne (.b1 .len (.v 2)) (.b1 .len (.v 3)))) [
      .ret (.k (.tuple [(.str "form")]))] [],
    .ite (.not (.b1 .all (.comp (.and (.isi (.v 6) [.int]) (.not (.isi (.v 6) [.bool]))) (.n 6) (.v 2) (.k (.bool true)) [6]))) [
      .ret (.k (.tuple [(.str "form")]))] [],
    .ite (.cmp .gt (.ix (.v 2) (.k (.int 0))) (.k (.int 0))) [
      .ret (.tup [.k (.str "start")])] [],
    .for (.n 4) (.rng (.k (.int 1)) (.b1 .len (.v 3)) (.k (.int 1))) b_marks_fault_1,
    .ret (.k .none)]
def d_marks_fault : BW.DI := ⟨"marks_fault", ["goal", "bundles", "marks"], ["goal", "bundles", "marks", "cuts", "number", "part", "one"], b_marks_fault⟩
/-- _law_draws: 0=script 1=many 2=draws 3=seed 4=cell 5=k 6=number -/
abbrev e_law_draws (script_ many_ draws_ seed_ cell_ k_ number_ : Sl := .un) : BW.Env := [script_, many_, draws_, seed_, cell_, k_, number_]
def b_law_draws_3 : List BW.S := [
    .ite (.cmp .lt (.b1 .len (.p 2)) (.v 1)) [
      .set 3 (.op .mod (.b1 .int (.op .add (.op .add (.op .mul (.v 3) (.k (.int 69621))) (.v 5)) (.k (.int 1)))) (.k (.int 2147483647))),
      .app 2 (.op .mod (.op .fdiv (.b1 .int (.v 3)) (.k (.int 7))) (.k (.int 65521)))] []]
def b_law_draws_2 : List BW.S := [
    .ite (.cmp .gt (.v 6) (.k (.int 0))) [
      .app 2 (.op .mod (.b1 .int (.v 6)) (.k (.int 1009))),
      .set 6 (.op .fdiv (.v 6) (.k (.int 1009)))] []]
def b_law_draws_1 : List BW.S := [
    .set 6 (.b1 .abs (.v 4)),
    .set 3 (.op .mod (.b1 .int (.op .add (.op .add (.op .mul (.v 3) (.k (.int 48271))) (.v 6)) (.k (.int 11)))) (.k (.int 2147483647))),
    .ite (.cmp .ge (.v 6) (.op .pow (.k (.int 10)) (.k (.int 18)))) [
      .for (.n 5) (.rng (.k (.int 0)) (.k (.int 60)) (.k (.int 1))) b_law_draws_2] [
      .app 2 (.op .mod (.op .fdiv (.b1 .int (.op .add (.op .mul (.v 3) (.k (.int 16807))) (.k (.int 5)))) (.k (.int 3))) (.k (.int 65521)))]]
def b_law_draws : List BW.S := [
    .setO 2 (.lst []),
    .set 3 (.k (.int 7)),
    .for (.n 4) (.slt (.v 0) (.k (.int 63))) b_law_draws_1,
    .for (.n 5) (.rng (.k (.int 0)) (.v 1) (.k (.int 1))) b_law_draws_3,
    .ret (.slt (.p 2) (.v 1))]
def d_law_draws : BW.DI := ⟨"_law_draws", ["script", "many"], ["script", "many", "draws", "seed", "cell", "k", "number"], b_law_draws⟩
/-- _law_bundles: 0=draws 1=at 2=most 3=wires 4=many 5=kind 6=k 7=draw 8=parts 9=part -/
abbrev e_law_bundles (draws_ at_ most_ wires_ many_ kind_ k_ draw_ parts_ part_ : Sl := .un) : BW.Env := [draws_, at_, most_, wires_, many_, kind_, k_, draw_, parts_, part_]
def b_law_bundles_1 : List BW.S := [
    .set 7 (.op .fdiv (.b1 .int (.ix (.v 0) (.op .add (.op .add (.v 1) (.k (.int 2))) (.op .mod (.v 6) (.k (.int 14)))))) (.op .add (.k (.int 1)) (.op .fdiv (.v 6) (.k (.int 14))))),
    .set 8 (.comp (.v 9) (.n 9) (.rng (.k (.int 0)) (.v 4) (.k (.int 1))) (.cmp .eq (.op .mod (.op .fdiv (.v 7) (.op .add (.v 9) (.k (.int 1)))) (.ix (.lst [.k (.int 3), .k (.int 4), .k (.int 2)]) (.v 5))) (.k (.int 0))) [9]),
    .ite (.cmp .lt (.b1 .len (.v 8)) (.k (.int 2))) [
      .set 8 (.lst [.op .mod (.v 7) (.v 4), .op .mod (.op .add (.op .add (.op .mod (.v 7) (.v 4)) (.k (.int 1))) (.op .mod (.op .fdiv (.v 7) (.k (.int 64))) (.op .sub (.v 4) (.k (.int 1))))) (.v 4)])] [],
    .set 3 (.op .add (.v 3) (.tup [.tup [.b1 .tuple (.b1 .sorted (.v 8)), .op .add (.k (.int 1)) (.op .mod (.op .fdiv (.v 7) (.k (.int 16))) (.ix (.lst [.k (.int 5), .k (.int 60), .k (.int 3)]) (.v 5)))]])),
    .wipe [6, 7, 8]]
def b_law_bundles : List BW.S := [
    .unp (.t [.n 4, .n 5]) (.tup [.op .add (.k (.int 1)) (.op .mod (.b1 .int (.ix (.v 0) (.v 1))) (.v 2)), .op .mod (.b1 .int (.ix (.v 0) (.op .add (.v 1) (.k (.int 1))))) (.k (.int 3))]),
    .set 3 (.tup []),
    .ite (.cmp .gt (.v 4) (.k (.int 1))) [
      .for (.n 6) (.rng (.k (.int 0)) (.op .mod (.op .fdiv (.b1 .int (.ix (.v 0) (.op .add (.v 1) (.k (.int 1))))) (.k (.int 4))) (.ix (.lst [.k (.int 6), .k (.int 14), .k (.int 40)]) (.v 5))) (.k (.int 1))) b_law_bundles_1,
      .wipe [6, 7, 8]] [
      .wipe [6, 7, 8]],
    .ret (.tup [.v 4, .v 3])]
def d_law_bundles : BW.DI := ⟨"_law_bundles", ["draws", "at", "most"], ["draws", "at", "most", "wires", "many", "kind", "k", "draw", "parts", "part"], b_law_bundles⟩
/-- _law_cut: 0=bundles 1=some 2=parts 3=weight 4=part -/
abbrev e_law_cut (bundles_ some_ parts_ weight_ part_ : Sl := .un) : BW.Env := [bundles_, some_, parts_, weight_, part_]
def b_law_cut : List BW.S := [
    .ret (.b1 .sum (.comp (.v 3) (.t [.n 2, .n 3]) (.ix (.v 0) (.k (.int 1))) (.and (.b1 .any (.comp (.cmp .isin (.v 4) (.v 1)) (.n 4) (.v 2) (.k (.bool true)) [4])) (.not (.b1 .all (.comp (.cmp .isin (.v 4) (.v 1)) (.n 4) (.v 2) (.k (.bool true)) [4])))) [2, 3]))]
def d_law_cut : BW.DI := ⟨"_law_cut", ["bundles", "some"], ["bundles", "some", "parts", "weight", "part"], b_law_cut⟩
/-- _law_two: 0=k -/
abbrev e_law_two (k_ : Sl := .un) : BW.Env := [k_]
def b_law_two : List BW.S := [
    .ret (.ix (.lst [.k (.int 1), .k (.int 2), .k (.int 4), .k (.int 8), .k (.int 16), .k (.int 32), .k (.int 64), .k (.int 128), .k (.int 256), .k (.int 512)]) (.v 0))]
def d_law_two : BW.DI := ⟨"_law_two", ["k"], ["k"], b_law_two⟩
/-- _check: 0=bundles 1=order 2=one -/
abbrev e_orders_check (bundles_ order_ one_ : Sl := .un) : BW.Env := [bundles_, order_, one_]
def b_orders_check : List BW.S := [
    .xp (.call i_check_bundles [.v 0]),
    .ite (.or (.not (.isi (.v 1) [.tuple])) (.not (.b1 .all (.comp (.call i_is_whole [.v 2, .k (.int 0), .op .sub (.ix (.v 0) (.k (.int 0))) (.k (.int 1))]) (.n 2) (.v 1) (.k (.bool true)) [2])))) [
      .raise "BadOrder"] [],
    .ite (.cmp .ne (.b1 .sorted (.v 1)) (.rl false (.k (.int 0)) (.ix (.v 0) (.k (.int 0))))) [
      .raise "BadOrder"] []]
def d_orders_check : BW.DI := ⟨"_check", ["bundles", "order"], ["bundles", "order", "one"], b_orders_check⟩
/-- _length: 0=bundles 1=order 2=places 3=whole 4=parts 5=weight 6=own 7=place 8=part -/
abbrev e_length (bundles_ order_ places_ whole_ parts_ weight_ own_ place_ part_ : Sl := .un) : BW.Env := [bundles_, order_, places_, whole_, parts_, weight_, own_, place_, part_]
def b_length_1 : List BW.S := [
    .set 6 (.comp (.ix (.p 2) (.v 8)) (.n 8) (.v 4) (.k (.bool true)) [8]),
    .aug 3 .add (.op .mul (.v 5) (.op .sub (.b1 .max (.v 6)) (.b1 .min (.v 6)))),
    .wipe [4, 5, 6]]
def b_length : List BW.S := [
    .setO 2 (.dcomp (.v 8) (.v 7) (.t [.n 7, .n 8]) (.enm (.v 1)) (.k (.bool true)) [7, 8]),
    .set 3 (.k (.int 0)),
    .for (.t [.n 4, .n 5]) (.ix (.v 0) (.k (.int 1))) b_length_1,
    .ret (.v 3)]
def d_length : BW.DI := ⟨"_length", ["bundles", "order"], ["bundles", "order", "places", "whole", "parts", "weight", "own", "place", "part"], b_length⟩
/-- length_of: 0=bundles 1=order -/
abbrev e_length_of (bundles_ order_ : Sl := .un) : BW.Env := [bundles_, order_]
def b_length_of : List BW.S := [
    .xp (.call i_orders_check [.v 0, .v 1]),
    .ret (.call i_length [.v 0, .v 1])]
def d_length_of : BW.DI := ⟨"length_of", ["bundles", "order"], ["bundles", "order"], b_length_of⟩
/-- greatest_cut: 0=bundles 1=order 2=place -/
abbrev e_greatest_cut (bundles_ order_ place_ : Sl := .un) : BW.Env := [bundles_, order_, place_]
def b_greatest_cut : List BW.S := [
    .xp (.call i_orders_check [.v 0, .v 1]),
    .ret (.b1 .max (.op .add (.lst [.k (.int 0)]) (.comp (.call i_cut_at [.v 0, .slt (.v 1) (.v 2)]) (.n 2) (.rng (.k (.int 1)) (.b1 .len (.v 1)) (.k (.int 1))) (.k (.bool true)) [2])))]
def d_greatest_cut : BW.DI := ⟨"greatest_cut", ["bundles", "order"], ["bundles", "order", "place"], b_greatest_cut⟩
/-- cut_of: 0=bundles 1=parts -/
abbrev e_cut_of (bundles_ parts_ : Sl := .un) : BW.Env := [bundles_, parts_]
def b_cut_of : List BW.S := [
    .xp (.call i_check_bundles [.v 0]),
    .ite (.not (.call i_are_parts [.ix (.v 0) (.k (.int 0)), .v 1])) [
      .raise "BadParts"] [],
    .ret (.call i_cut_at [.v 0, .v 1])]
def d_cut_of : BW.DI := ⟨"cut_of", ["bundles", "parts"], ["bundles", "parts"], b_cut_of⟩
/-- bettered: 0=bundles 1=order 2=found 3=here 4=rows 5=place 6=other -/
abbrev e_bettered (bundles_ order_ found_ here_ rows_ place_ other_ : Sl := .un) : BW.Env := [bundles_, order_, found_, here_, rows_, place_, other_]
def b_bettered_2 : List BW.S := [
    .set 6 (.op .add (.op .add (.slt (.v 3) (.v 5)) (.tup [.ix (.v 3) (.op .add (.v 5) (.k (.int 1))), .ix (.v 3) (.v 5)])) (.slf (.v 3) (.op .add (.v 5) (.k (.int 2))))),
    .app 4 (.tup [.call i_length [.v 0, .v 6], .v 5, .v 6]),
    .wipe [5, 6]]
def b_bettered_1 : List BW.S := [
    .set 3 (.ix (.p 2) (.neg (.k (.int 1)))),
    .setO 4 (.lst []),
    .for (.n 5) (.rng (.k (.int 0)) (.op .sub (.b1 .len (.v 3)) (.k (.int 1))) (.k (.int 1))) b_bettered_2,
    .ite (.or (.cmp .eq (.b1 .len (.p 4)) (.k (.int 0))) (.cmp .ge (.ix (.b1 .min (.p 4)) (.k (.int 0))) (.call i_length [.v 0, .v 3]))) [
      .ret (.b1 .tuple (.p 2))] [],
    .app 2 (.ix (.b1 .min (.p 4)) (.k (.int 2))),
    .wipe [3, 4, 5, 6]]
def b_bettered : List BW.S := [
    .xp (.call i_orders_check [.v 0, .v 1]),
    .setO 2 (.lst [.v 1]),
    .while (.k (.bool true)) b_bettered_1]
def d_bettered : BW.DI := ⟨"bettered", ["bundles", "order"], ["bundles", "order", "found", "here", "rows", "place", "other"], b_bettered⟩
/-- _law_length: 0=bundles 1=order 2=parts 3=weight 4=part -/
abbrev e_law_length (bundles_ order_ parts_ weight_ part_ : Sl := .un) : BW.Env := [bundles_, order_, parts_, weight_, part_]
def b_law_length : List BW.S := [
    .ret (.b1 .sum (.comp (.op .mul (.v 3) (.op .sub (.b1 .max (.comp (.idx (.v 1) (.v 4)) (.n 4) (.v 2) (.k (.bool true)) [4])) (.b1 .min (.comp (.idx (.v 1) (.v 4)) (.n 4) (.v 2) (.k (.bool true)) [4])))) (.t [.n 2, .n 3]) (.ix (.v 0) (.k (.int 1))) (.k (.bool true)) [2, 3]))]
def d_law_length : BW.DI := ⟨"_law_length", ["bundles", "order"], ["bundles", "order", "parts", "weight", "part"], b_law_length⟩
/-- _law_greatest: 0=bundles 1=order 2=place -/
abbrev e_law_greatest (bundles_ order_ place_ : Sl := .un) : BW.Env := [bundles_, order_, place_]
def b_law_greatest : List BW.S := [
    .ret (.b1 .max (.op .add (.lst [.k (.int 0)]) (.comp (.call i_law_cut [.v 0, .slt (.v 1) (.v 2)]) (.n 2) (.rng (.k (.int 1)) (.b1 .len (.v 1)) (.k (.int 1))) (.k (.bool true)) [2])))]
def d_law_greatest : BW.DI := ⟨"_law_greatest", ["bundles", "order"], ["bundles", "order", "place"], b_law_greatest⟩
/-- _law_drawn: 0=draws 1=at 2=many 3=pair 4=k -/
abbrev e_law_drawn (draws_ at_ many_ pair_ k_ : Sl := .un) : BW.Env := [draws_, at_, many_, pair_, k_]
def b_law_drawn : List BW.S := [
    .ret (.b1 .tuple (.comp (.ix (.v 3) (.k (.int 1))) (.n 3) (.b1 .sorted (.comp (.tup [.b1 .int (.ix (.v 0) (.op .add (.v 1) (.v 4))), .v 4]) (.n 4) (.rng (.k (.int 0)) (.v 2) (.k (.int 1))) (.k (.bool true)) [4])) (.k (.bool true)) [3]))]
def d_law_drawn : BW.DI := ⟨"_law_drawn", ["draws", "at", "many"], ["draws", "at", "many", "pair", "k"], b_law_drawn⟩
/-- _law_orders: 0=many 1=rows 2=turn 3=longer 4=row 5=part -/
abbrev e_law_orders (many_ rows_ turn_ longer_ row_ part_ : Sl := .un) : BW.Env := [many_, rows_, turn_, longer_, row_, part_]
def b_law_orders_2 : List BW.S := [
    .set 3 (.op .add (.v 3) (.comp (.op .add (.v 4) (.tup [.v 5])) (.n 5) (.rng (.k (.int 0)) (.v 0) (.k (.int 1))) (.cmp .notin (.v 5) (.v 4)) [5])),
    .wipe [4]]
def b_law_orders_1 : List BW.S := [
    .set 3 (.lst []),
    .for (.n 4) (.v 1) b_law_orders_2,
    .set 1 (.v 3),
    .wipe [2, 3, 4]]
def b_law_orders : List BW.S := [
    .set 1 (.lst [.tup []]),
    .for (.n 2) (.rng (.k (.int 0)) (.v 0) (.k (.int 1))) b_law_orders_1,
    .ret (.v 1)]
def d_law_orders : BW.DI := ⟨"_law_orders", ["many"], ["many", "rows", "turn", "longer", "row", "part"], b_law_orders⟩
/-- _law_holds: 0=goal 1=bundles 2=marks 3=many 4=number 5=own 6=cut 7=part 8=less -/
abbrev e_law_holds (goal_ bundles_ marks_ many_ number_ own_ cut_ part_ less_ : Sl := .un) : BW.Env := [goal_, bundles_, marks_, many_, number_, own_, cut_, part_, less_]
def b_law_holds_2 : List BW.S := [
    .set 8 (.ix (.v 2) (.op .sub (.v 4) (.call i_law_two [.v 7]))),
    .ite (.cmp .gt (.ix (.v 2) (.v 4)) (.ite (.cmp .eq (.v 0) (.k (.str "length"))) (.op .add (.v 6) (.v 8)) (.b2 .max2 (.v 6) (.v 8)))) [
      .ret (.k (.bool false))] [],
    .wipe [7, 8]]
def b_law_holds_1 : List BW.S := [
    .set 5 (.comp (.v 7) (.n 7) (.rng (.k (.int 0)) (.v 3) (.k (.int 1))) (.cmp .eq (.op .mod (.op .fdiv (.v 4) (.call i_law_two [.v 7])) (.k (.int 2))) (.k (.int 1))) [7]),
    .set 6 (.call i_law_cut [.v 1, .v 5]),
    .for (.n 7) (.v 5) b_law_holds_2,
    .wipe [4, 5, 6, 7, 8]]
def b_law_holds : List BW.S := [
    .set 3 (.ix (.v 1) (.k (.int 0))),
    .ite (.or (.cmp .ne (.b1 .len (.v 2)) (.call i_law_two [.v 3])) (.cmp .gt (.ix (.v 2) (.k (.int 0))) (.k (.int 0)))) [
      .ret (.k (.bool false))] [],
    .for (.n 4) (.rng (.k (.int 1)) (.b1 .len (.v 2)) (.k (.int 1))) b_law_holds_1,
    .ret (.k (.bool true))]
def d_law_holds : BW.DI := ⟨"_law_holds", ["goal", "bundles", "marks"], ["goal", "bundles", "marks", "many", "number", "own", "cut", "part", "less"], b_law_holds⟩
/-- _check: 0=costs 1=row 2=one -/
abbrev e_exchanges_check (costs_ row_ one_ : Sl := .un) : BW.Env := [costs_, row_, one_]
def b_exchanges_check_1 : List BW.S := [
    .ite (.or (.not (.isi (.v 1) [.tuple])) (.cmp .ne (.b1 .len (.v 1)) (.b1 .len (.v 0)))) [
      .raise "BadCosts"] [],
    .ite (.not (.b1 .all (.comp (.call i_is_whole [.v 2, .k (.int 0), .k (.int 1000000)]) (.n 2) (.v 1) (.k (.bool true)) [2]))) [
      .raise "BadCosts"] [],
    .wipe [1]]
def b_exchanges_check : List BW.S := [
    .ite (.or (.not (.isi (.v 0) [.tuple])) (.not (.ch .le .le (.k (.int 1)) (.b1 .len (.v 0)) (.k (.int 8))))) [
      .raise "BadCosts"] [],
    .for (.n 1) (.v 0) b_exchanges_check_1]
def d_exchanges_check : BW.DI := ⟨"_check", ["costs"], ["costs", "row", "one"], b_exchanges_check⟩
/-- _left: 0=costs 1=many 2=found 3=number 4=pins 5=rows 6=least 7=count 8=pin 9=cost -/
abbrev e_left (costs_ many_ found_ number_ pins_ rows_ least_ count_ pin_ cost_ : Sl := .un) : BW.Env := [costs_, many_, found_, number_, pins_, rows_, least_, count_, pin_, cost_]
def b_left_1 : List BW.S := [
    .set 4 (.comp (.v 8) (.n 8) (.rng (.k (.int 0)) (.v 1) (.k (.int 1))) (.cmp .eq (.op .band (.op .shr (.v 3) (.v 8)) (.k (.int 1))) (.k (.int 1))) [8]),
    .set 5 (.comp (.tup [.op .add (.ix (.ix (.v 0) (.op .sub (.v 1) (.b1 .len (.v 4)))) (.v 8)) (.ix (.ix (.p 2) (.op .sub (.v 3) (.op .shl (.k (.int 1)) (.v 8)))) (.k (.int 0))), .v 8]) (.n 8) (.v 4) (.k (.bool true)) [8]),
    .set 6 (.ix (.b1 .min (.v 5)) (.k (.int 0))),
    .set 7 (.b1 .sum (.comp (.ix (.ix (.p 2) (.op .sub (.v 3) (.op .shl (.k (.int 1)) (.v 8)))) (.k (.int 1))) (.t [.n 9, .n 8]) (.v 5) (.cmp .eq (.v 9) (.v 6)) [9, 8])),
    .app 2 (.tup [.v 6, .v 7]),
    .wipe [3, 4, 5, 6, 7]]
def b_left : List BW.S := [
    .set 1 (.b1 .len (.v 0)),
    .setO 2 (.lst [.tup [.k (.int 0), .k (.int 1)]]),
    .for (.n 3) (.rng (.k (.int 1)) (.op .shl (.k (.int 1)) (.v 1)) (.k (.int 1))) b_left_1,
    .fr 2,
    .ret (.v 2)]
def d_left : BW.DI := ⟨"_left", ["costs"], ["costs", "many", "found", "number", "pins", "rows", "least", "count", "pin", "cost"], b_left⟩
/-- _first: 0=costs 1=left 2=found 3=number 4=row 5=pins 6=pin 7=one -/
abbrev e_exchanges_first (costs_ left_ found_ number_ row_ pins_ pin_ one_ : Sl := .un) : BW.Env := [costs_, left_, found_, number_, row_, pins_, pin_, one_]
def b_exchanges_first_1 : List BW.S := [
    .set 5 (.comp (.v 6) (.n 6) (.rng (.k (.int 0)) (.b1 .len (.v 0)) (.k (.int 1))) (.cmp .eq (.op .band (.op .shr (.v 3) (.v 6)) (.k (.int 1))) (.k (.int 1))) [6]),
    .set 6 (.ix (.comp (.v 7) (.n 7) (.v 5) (.cmp .eq (.op .add (.ix (.v 4) (.v 7)) (.ix (.ix (.v 1) (.op .sub (.v 3) (.op .shl (.k (.int 1)) (.v 7)))) (.k (.int 0)))) (.ix (.ix (.v 1) (.v 3)) (.k (.int 0)))) [7]) (.k (.int 0))),
    .app 2 (.v 6),
    .aug 3 .sub (.op .shl (.k (.int 1)) (.v 6)),
    .wipe [4, 5, 6]]
def b_exchanges_first : List BW.S := [
    .setO 2 (.lst []),
    .set 3 (.op .sub (.b1 .len (.v 1)) (.k (.int 1))),
    .for (.n 4) (.v 0) b_exchanges_first_1,
    .ret (.b1 .tuple (.p 2))]
def d_exchanges_first : BW.DI := ⟨"_first", ["costs", "left"], ["costs", "left", "found", "number", "row", "pins", "pin", "one"], b_exchanges_first⟩
/-- _prices: 0=costs 1=exchange 2=many 3=pins 4=grown 5=wire 6=own 7=pin 8=least -/
abbrev e_prices (costs_ exchange_ many_ pins_ grown_ wire_ own_ pin_ least_ : Sl := .un) : BW.Env := [costs_, exchange_, many_, pins_, grown_, wire_, own_, pin_, least_]
def b_prices_3 : List BW.S := [
    .set 8 (.op .sub (.op .add (.ix (.p 3) (.v 6)) (.ix (.ix (.v 0) (.v 5)) (.v 7))) (.ix (.ix (.v 0) (.v 5)) (.v 6))),
    .ite (.cmp .lt (.v 8) (.ix (.p 3) (.v 7))) [
      .setix 3 (.v 7) (.v 8),
      .set 4 (.k (.bool true))] [],
    .wipe [7, 8]]
def b_prices_2 : List BW.S := [
    .for (.n 7) (.rng (.k (.int 0)) (.v 2) (.k (.int 1))) b_prices_3,
    .wipe [5, 6, 7, 8]]
def b_prices_1 : List BW.S := [
    .set 4 (.k (.bool false)),
    .for (.t [.n 5, .n 6]) (.enm (.v 1)) b_prices_2,
    .wipe [5, 6, 7, 8]]
def b_prices : List BW.S := [
    .set 2 (.b1 .len (.v 0)),
    .setO 3 (.op .mul (.lst [.k (.int 0)]) (.v 2)),
    .set 4 (.k (.bool true)),
    .while (.v 4) b_prices_1,
    .ret (.tup [.b1 .tuple (.comp (.op .sub (.ix (.ix (.v 0) (.v 5)) (.v 6)) (.ix (.p 3) (.v 6))) (.t [.n 5, .n 6]) (.enm (.v 1)) (.k (.bool true)) [5, 6]), .b1 .tuple (.p 3)])]
def d_prices : BW.DI := ⟨"_prices", ["costs", "exchange"], ["costs", "exchange", "many", "pins", "grown", "wire", "own", "pin", "least"], b_prices⟩
/-- best_exchange: 0=costs 1=left 2=exchange -/
abbrev e_best_exchange (costs_ left_ exchange_ : Sl := .un) : BW.Env := [costs_, left_, exchange_]
def b_best_exchange : List BW.S := [
    .xp (.call i_exchanges_check [.v 0]),
    .set 1 (.call i_left [.v 0]),
    .set 2 (.call i_exchanges_first [.v 0, .v 1]),
    .ret (.tup [.ix (.ix (.v 1) (.neg (.k (.int 1)))) (.k (.int 0)), .v 2, .call i_prices [.v 0, .v 2]])]
def d_best_exchange : BW.DI := ⟨"best_exchange", ["costs"], ["costs", "left", "exchange"], b_best_exchange⟩
/-- _are_integers: 0=value 1=many 2=one -/
abbrev e_are_integers (value_ many_ one_ : Sl := .un) : BW.Env := [value_, many_, one_]
def b_are_integers : List BW.S := [
    .ite (.or (.not (.isi (.v 0) [.tuple])) (.cmp .ne (.b1 .len (.v 0)) (.v 1))) [
      .ret (.k (.bool false))] [],
    .ret (.b1 .all (.comp (.and (.isi (.v 2) [.int]) (.not (.isi (.v 2) [.bool]))) (.n 2) (.v 0) (.k (.bool true)) [2]))]
def d_are_integers : BW.DI := ⟨"_are_integers", ["value", "many"], ["value", "many", "one"], b_are_integers⟩
/-- prices_fault: 0=costs 1=prices 2=wire 3=row 4=pin 5=cost 6=one -/
abbrev e_prices_fault (costs_ prices_ wire_ row_ pin_ cost_ one_ : Sl := .un) : BW.Env := [costs_, prices_, wire_, row_, pin_, cost_, one_]
def b_prices_fault_2 : List BW.S := [
    .ite (.cmp .gt (.op .add (.ix (.ix (.v 1) (.k (.int 0))) (.v 2)) (.ix (.ix (.v 1) (.k (.int 1))) (.v 4))) (.v 5)) [
      .ret (.tup [.k (.str "pair"), .v 2, .v 4])] [],
    .wipe [4, 5]]
def b_prices_fault_1 : List BW.S := [
    .for (.t [.n 4, .n 5]) (.enm (.v 3)) b_prices_fault_2,
    .wipe [2, 3, 4, 5]]
def b_prices_fault : List BW.S := [
    .xp (.call i_exchanges_check [.v 0]),
    .ite (.or (.not (.isi (.v 1) [.tuple])) (.or (.cmp .ne (.b1 .len (.v 1)) (.k (.int 2))) (.not (.b1 .all (.comp (.call i_are_integers [.v 6, .b1 .len (.v 0)]) (.n 6) (.v 1) (.k (.bool true)) [6]))))) [
      .ret (.k (.tuple [(.str "form")]))] [],
    .for (.t [.n 2, .n 3]) (.enm (.v 0)) b_prices_fault_1,
    .ret (.k .none)]
def d_prices_fault : BW.DI := ⟨"prices_fault", ["costs", "prices"], ["costs", "prices", "wire", "row", "pin", "cost", "one"], b_prices_fault⟩
/-- _law_costs: 0=draws 1=at 2=most 3=rows 4=k 5=many 6=kind 7=row 8=j 9=draw -/
abbrev e_law_costs (draws_ at_ most_ rows_ k_ many_ kind_ row_ j_ draw_ : Sl := .un) : BW.Env := [draws_, at_, most_, rows_, k_, many_, kind_, row_, j_, draw_]
def b_law_costs_2 : List BW.S := [
    .set 9 (.op .fdiv (.b1 .int (.ix (.v 0) (.op .add (.op .add (.v 1) (.k (.int 1))) (.op .mod (.op .add (.op .mul (.v 4) (.v 5)) (.v 8)) (.k (.int 15)))))) (.op .add (.k (.int 1)) (.op .fdiv (.op .add (.op .mul (.v 4) (.v 5)) (.v 8)) (.k (.int 15))))),
    .set 7 (.op .add (.v 7) (.tup [.ite (.cmp .eq (.v 6) (.k (.int 0))) (.op .mul (.b1 .abs (.op .sub (.op .mod (.v 9) (.k (.int 9))) (.v 8))) (.op .add (.v 4) (.k (.int 1)))) (.op .mod (.v 9) (.ix (.lst [.k (.int 2), .k (.int 2), .k (.int 10), .k (.int 1000)]) (.v 6)))])),
    .wipe [8, 9]]
def b_law_costs_1 : List BW.S := [
    .set 7 (.tup []),
    .for (.n 8) (.rng (.k (.int 0)) (.v 5) (.k (.int 1))) b_law_costs_2,
    .set 3 (.op .add (.v 3) (.tup [.v 7])),
    .wipe [4, 7, 8, 9]]
def b_law_costs : List BW.S := [
    .par [(5, false), (6, false)] [.op .add (.k (.int 1)) (.op .mod (.b1 .int (.ix (.v 0) (.v 1))) (.v 2)), .op .mod (.op .fdiv (.b1 .int (.ix (.v 0) (.v 1))) (.k (.int 16))) (.k (.int 4))],
    .set 3 (.tup []),
    .for (.n 4) (.rng (.k (.int 0)) (.v 5) (.k (.int 1))) b_law_costs_1,
    .ret (.v 3)]
def d_law_costs : BW.DI := ⟨"_law_costs", ["draws", "at", "most"], ["draws", "at", "most", "rows", "k", "many", "kind", "row", "j", "draw"], b_law_costs⟩
/-- exchanges: 0=costs -/
abbrev e_exchanges (costs_ : Sl := .un) : BW.Env := [costs_]
def b_exchanges : List BW.S := [
    .xp (.call i_exchanges_check [.v 0]),
    .ret (.ix (.ix (.call i_left [.v 0]) (.neg (.k (.int 1)))) (.k (.int 1)))]
def d_exchanges : BW.DI := ⟨"exchanges", ["costs"], ["costs"], b_exchanges⟩
/-- gained: 0=costs 1=exchange 2=one 3=row 4=pin -/
abbrev e_gained (costs_ exchange_ one_ row_ pin_ : Sl := .un) : BW.Env := [costs_, exchange_, one_, row_, pin_]
def b_gained : List BW.S := [
    .xp (.call i_exchanges_check [.v 0]),
    .ite (.or (.not (.isi (.v 1) [.tuple])) (.not (.b1 .all (.comp (.call i_is_whole [.v 2, .k (.int 0), .op .sub (.b1 .len (.v 0)) (.k (.int 1))]) (.n 2) (.v 1) (.k (.bool true)) [2])))) [
      .raise "BadExchange"] [],
    .ite (.cmp .ne (.b1 .sorted (.v 1)) (.rl false (.k (.int 0)) (.b1 .len (.v 0)))) [
      .raise "BadExchange"] [],
    .ret (.op .sub (.b1 .sum (.comp (.ix (.v 3) (.v 4)) (.t [.n 3, .n 4]) (.zip (.v 0) (.v 1)) (.k (.bool true)) [3, 4])) (.ix (.ix (.call i_left [.v 0]) (.neg (.k (.int 1)))) (.k (.int 0))))]
def d_gained : BW.DI := ⟨"gained", ["costs", "exchange"], ["costs", "exchange", "one", "row", "pin"], b_gained⟩
/-- _law_least: 0=costs 1=many 2=rows 3=k 4=later 5=used 6=pin 7=key 8=old 9=cost 10=count -/
abbrev e_law_least (costs_ many_ rows_ k_ later_ used_ pin_ key_ old_ cost_ count_ : Sl := .un) : BW.Env := [costs_, many_, rows_, k_, later_, used_, pin_, key_, old_, cost_, count_]
def b_law_least_3 : List BW.S := [
    .ite (.cmp .notin (.v 6) (.v 5)) [
      .set 7 (.b1 .tuple (.b1 .sorted (.op .add (.v 5) (.tup [.v 6])))),
      .par [(9, false), (10, false)] [.op .add (.ix (.ix (.p 2) (.v 5)) (.k (.int 0))) (.ix (.ix (.v 0) (.v 3)) (.v 6)), .ix (.ix (.p 2) (.v 5)) (.k (.int 1))],
      .set 8 (.any),
      .setix 4 (.v 7) (.ite (.cmp .lt (.v 9) (.ix (.v 8) (.k (.int 0)))) (.tup [.v 9, .v 10]) (.tup [.ix (.v 8) (.k (.int 0)), .op .add (.ix (.v 8) (.k (.int 1))) (.ite (.cmp .eq (.v 9) (.ix (.v 8) (.k (.int 0)))) (.v 10) (.k (.int 0)))])),
      .wipe [7, 8, 9, 10]] [
      .wipe [7, 8, 9, 10]],
    .wipe [6, 7, 8, 9, 10]]
def b_law_least_2 : List BW.S := [
    .for (.n 6) (.rng (.k (.int 0)) (.v 1) (.k (.int 1))) b_law_least_3,
    .wipe [5, 6, 7, 8, 9, 10]]
def b_law_least_1 : List BW.S := [
    .setO 4 (.dnil),
    .fr 2,
    .for (.n 5) (.v 2) b_law_least_2,
    .fr 4,
    .setO 2 (.v 4),
    .wipe [3, 4, 5, 6, 7, 8, 9, 10]]
def b_law_least : List BW.S := [
    .set 1 (.b1 .len (.v 0)),
    .setO 2 (.any),
    .for (.n 3) (.rng (.k (.int 0)) (.v 1) (.k (.int 1))) b_law_least_1,
    .ret (.ix (.p 2) (.rl true (.k (.int 0)) (.v 1)))]
def d_law_least : BW.DI := ⟨"_law_least", ["costs"], ["costs", "many", "rows", "k", "later", "used", "pin", "key", "old", "cost", "count"], b_law_least⟩
/-- _law_rows: 0=many 1=rows 2=turn 3=longer 4=row 5=pin -/
abbrev e_law_rows (many_ rows_ turn_ longer_ row_ pin_ : Sl := .un) : BW.Env := [many_, rows_, turn_, longer_, row_, pin_]
def b_law_rows_2 : List BW.S := [
    .set 3 (.op .add (.v 3) (.comp (.op .add (.v 4) (.tup [.v 5])) (.n 5) (.rng (.k (.int 0)) (.v 0) (.k (.int 1))) (.cmp .notin (.v 5) (.v 4)) [5])),
    .wipe [4]]
def b_law_rows_1 : List BW.S := [
    .set 3 (.lst []),
    .for (.n 4) (.v 1) b_law_rows_2,
    .set 1 (.v 3),
    .wipe [2, 3, 4]]
def b_law_rows : List BW.S := [
    .set 1 (.lst [.tup []]),
    .for (.n 2) (.rng (.k (.int 0)) (.v 0) (.k (.int 1))) b_law_rows_1,
    .ret (.v 1)]
def d_law_rows : BW.DI := ⟨"_law_rows", ["many"], ["many", "rows", "turn", "longer", "row", "pin"], b_law_rows⟩
def T : List BW.DI := [d_is_whole, d_ascends, d_are_parts, d_is_wire, d_are_bundles, d_check_bundles, d_cut_at, d_bestorders_check, d_members, d_cuts, d_together, d_marks, d_behind, d_bestorders_first, d_best_order, d_marks_fault, d_law_draws, d_law_bundles, d_law_cut, d_law_two, d_orders_check, d_length, d_length_of, d_greatest_cut, d_cut_of, d_bettered, d_law_length, d_law_greatest, d_law_drawn, d_law_orders, d_law_holds, d_exchanges_check, d_left, d_exchanges_first, d_prices, d_best_exchange, d_are_integers, d_prices_fault, d_law_costs, d_exchanges, d_gained, d_law_least, d_law_rows]
abbrev fuel : Nat := 1000000000
structure Md where
  sub : Str → Str → Option Bool
  R : List BW.DI
def EE (m : Md) (k : Nat) : FE := feN m.sub fuel (T ++ m.R) k
theorem r_is_whole (m : Md) (k : Nat) (value_ least_ most_ : BW.D) : EE m (k + 1) i_is_whole [value_, least_, most_] = ansR (exs (EE m k) m.sub fuel b_is_whole [.fz value_, .fz least_, .fz most_]) := by
  unfold EE; rw [feN_succ (d := d_is_whole) rfl, run_env [.fz value_, .fz least_, .fz most_] rfl rfl]; rfl
theorem r_ascends (m : Md) (k : Nat) (values_ : BW.D) : EE m (k + 1) i_ascends [values_] = ansR (exs (EE m k) m.sub fuel b_ascends [.fz values_, .un, .un]) := by
  unfold EE; rw [feN_succ (d := d_ascends) rfl, run_env [.fz values_, .un, .un] rfl rfl]; rfl
theorem r_are_parts (m : Md) (k : Nat) (many_ value_ : BW.D) : EE m (k + 1) i_are_parts [many_, value_] = ansR (exs (EE m k) m.sub fuel b_are_parts [.fz many_, .fz value_, .un]) := by
  unfold EE; rw [feN_succ (d := d_are_parts) rfl, run_env [.fz many_, .fz value_, .un] rfl rfl]; rfl
theorem r_is_wire (m : Md) (k : Nat) (many_ value_ : BW.D) : EE m (k + 1) i_is_wire [many_, value_] = ansR (exs (EE m k) m.sub fuel b_is_wire [.fz many_, .fz value_]) := by
  unfold EE; rw [feN_succ (d := d_is_wire) rfl, run_env [.fz many_, .fz value_] rfl rfl]; rfl
theorem r_are_bundles (m : Md) (k : Nat) (value_ : BW.D) : EE m (k + 1) i_are_bundles [value_] = ansR (exs (EE m k) m.sub fuel b_are_bundles [.fz value_, .un]) := by
  unfold EE; rw [feN_succ (d := d_are_bundles) rfl, run_env [.fz value_, .un] rfl rfl]; rfl
theorem r_check_bundles (m : Md) (k : Nat) (value_ : BW.D) : EE m (k + 1) i_check_bundles [value_] = ansR (exs (EE m k) m.sub fuel b_check_bundles [.fz value_]) := by
  unfold EE; rw [feN_succ (d := d_check_bundles) rfl, run_env [.fz value_] rfl rfl]; rfl
theorem r_cut_at (m : Md) (k : Nat) (bundles_ some_ : BW.D) : EE m (k + 1) i_cut_at [bundles_, some_] = ansR (exs (EE m k) m.sub fuel b_cut_at [.fz bundles_, .fz some_, .un, .un, .un, .un, .un]) := by
  unfold EE; rw [feN_succ (d := d_cut_at) rfl, run_env [.fz bundles_, .fz some_, .un, .un, .un, .un, .un] rfl rfl]; rfl
theorem r_bestorders_check (m : Md) (k : Nat) (goal_ bundles_ : BW.D) : EE m (k + 1) i_bestorders_check [goal_, bundles_] = ansR (exs (EE m k) m.sub fuel b_bestorders_check [.fz goal_, .fz bundles_]) := by
  unfold EE; rw [feN_succ (d := d_bestorders_check) rfl, run_env [.fz goal_, .fz bundles_] rfl rfl]; rfl
theorem r_members (m : Md) (k : Nat) (number_ many_ : BW.D) : EE m (k + 1) i_members [number_, many_] = ansR (exs (EE m k) m.sub fuel b_members [.fz number_, .fz many_, .un]) := by
  unfold EE; rw [feN_succ (d := d_members) rfl, run_env [.fz number_, .fz many_, .un] rfl rfl]; rfl
theorem r_cuts (m : Md) (k : Nat) (bundles_ : BW.D) : EE m (k + 1) i_cuts [bundles_] = ansR (exs (EE m k) m.sub fuel b_cuts [.fz bundles_, .un]) := by
  unfold EE; rw [feN_succ (d := d_cuts) rfl, run_env [.fz bundles_, .un] rfl rfl]; rfl
theorem r_together (m : Md) (k : Nat) (goal_ cut_ mark_ : BW.D) : EE m (k + 1) i_together [goal_, cut_, mark_] = ansR (exs (EE m k) m.sub fuel b_together [.fz goal_, .fz cut_, .fz mark_]) := by
  unfold EE; rw [feN_succ (d := d_together) rfl, run_env [.fz goal_, .fz cut_, .fz mark_] rfl rfl]; rfl
theorem r_marks (m : Md) (k : Nat) (goal_ bundles_ cuts_ : BW.D) : EE m (k + 1) i_marks [goal_, bundles_, cuts_] = ansR (exs (EE m k) m.sub fuel b_marks [.fz goal_, .fz bundles_, .fz cuts_, .un, .un, .un, .un, .un]) := by
  unfold EE; rw [feN_succ (d := d_marks) rfl, run_env [.fz goal_, .fz bundles_, .fz cuts_, .un, .un, .un, .un, .un] rfl rfl]; rfl
theorem r_behind (m : Md) (k : Nat) (goal_ bundles_ cuts_ : BW.D) : EE m (k + 1) i_behind [goal_, bundles_, cuts_] = ansR (exs (EE m k) m.sub fuel b_behind [.fz goal_, .fz bundles_, .fz cuts_, .un, .un, .un, .un, .un, .un]) := by
  unfold EE; rw [feN_succ (d := d_behind) rfl, run_env [.fz goal_, .fz bundles_, .fz cuts_, .un, .un, .un, .un, .un, .un] rfl rfl]; rfl
theorem r_bestorders_first (m : Md) (k : Nat) (goal_ bundles_ cuts_ : BW.D) : EE m (k + 1) i_bestorders_first [goal_, bundles_, cuts_] = ansR (exs (EE m k) m.sub fuel b_bestorders_first [.fz goal_, .fz bundles_, .fz cuts_, .un, .un, .un, .un, .un, .un, .un]) := by
  unfold EE; rw [feN_succ (d := d_bestorders_first) rfl, run_env [.fz goal_, .fz bundles_, .fz cuts_, .un, .un, .un, .un, .un, .un, .un] rfl rfl]; rfl
theorem r_best_order (m : Md) (k : Nat) (goal_ bundles_ : BW.D) : EE m (k + 1) i_best_order [goal_, bundles_] = ansR (exs (EE m k) m.sub fuel b_best_order [.fz goal_, .fz bundles_, .un, .un]) := by
  unfold EE; rw [feN_succ (d := d_best_order) rfl, run_env [.fz goal_, .fz bundles_, .un, .un] rfl rfl]; rfl
theorem r_marks_fault (m : Md) (k : Nat) (goal_ bundles_ marks_ : BW.D) : EE m (k + 1) i_marks_fault [goal_, bundles_, marks_] = ansR (exs (EE m k) m.sub fuel b_marks_fault [.fz goal_, .fz bundles_, .fz marks_, .un, .un, .un, .un]) := by
  unfold EE; rw [feN_succ (d := d_marks_fault) rfl, run_env [.fz goal_, .fz bundles_, .fz marks_, .un, .un, .un, .un] rfl rfl]; rfl
theorem r_law_draws (m : Md) (k : Nat) (script_ many_ : BW.D) : EE m (k + 1) i_law_draws [script_, many_] = ansR (exs (EE m k) m.sub fuel b_law_draws [.fz script_, .fz many_, .un, .un, .un, .un, .un]) := by
  unfold EE; rw [feN_succ (d := d_law_draws) rfl, run_env [.fz script_, .fz many_, .un, .un, .un, .un, .un] rfl rfl]; rfl
theorem r_law_bundles (m : Md) (k : Nat) (draws_ at_ most_ : BW.D) : EE m (k + 1) i_law_bundles [draws_, at_, most_] = ansR (exs (EE m k) m.sub fuel b_law_bundles [.fz draws_, .fz at_, .fz most_, .un, .un, .un, .un, .un, .un, .un]) := by
  unfold EE; rw [feN_succ (d := d_law_bundles) rfl, run_env [.fz draws_, .fz at_, .fz most_, .un, .un, .un, .un, .un, .un, .un] rfl rfl]; rfl
theorem r_law_cut (m : Md) (k : Nat) (bundles_ some_ : BW.D) : EE m (k + 1) i_law_cut [bundles_, some_] = ansR (exs (EE m k) m.sub fuel b_law_cut [.fz bundles_, .fz some_, .un, .un, .un]) := by
  unfold EE; rw [feN_succ (d := d_law_cut) rfl, run_env [.fz bundles_, .fz some_, .un, .un, .un] rfl rfl]; rfl
theorem r_law_two (m : Md) (k : Nat) (k_ : BW.D) : EE m (k + 1) i_law_two [k_] = ansR (exs (EE m k) m.sub fuel b_law_two [.fz k_]) := by
  unfold EE; rw [feN_succ (d := d_law_two) rfl, run_env [.fz k_] rfl rfl]; rfl
theorem r_orders_check (m : Md) (k : Nat) (bundles_ order_ : BW.D) : EE m (k + 1) i_orders_check [bundles_, order_] = ansR (exs (EE m k) m.sub fuel b_orders_check [.fz bundles_, .fz order_, .un]) := by
  unfold EE; rw [feN_succ (d := d_orders_check) rfl, run_env [.fz bundles_, .fz order_, .un] rfl rfl]; rfl
theorem r_length (m : Md) (k : Nat) (bundles_ order_ : BW.D) : EE m (k + 1) i_length [bundles_, order_] = ansR (exs (EE m k) m.sub fuel b_length [.fz bundles_, .fz order_, .un, .un, .un, .un, .un, .un, .un]) := by
  unfold EE; rw [feN_succ (d := d_length) rfl, run_env [.fz bundles_, .fz order_, .un, .un, .un, .un, .un, .un, .un] rfl rfl]; rfl
theorem r_length_of (m : Md) (k : Nat) (bundles_ order_ : BW.D) : EE m (k + 1) i_length_of [bundles_, order_] = ansR (exs (EE m k) m.sub fuel b_length_of [.fz bundles_, .fz order_]) := by
  unfold EE; rw [feN_succ (d := d_length_of) rfl, run_env [.fz bundles_, .fz order_] rfl rfl]; rfl
theorem r_greatest_cut (m : Md) (k : Nat) (bundles_ order_ : BW.D) : EE m (k + 1) i_greatest_cut [bundles_, order_] = ansR (exs (EE m k) m.sub fuel b_greatest_cut [.fz bundles_, .fz order_, .un]) := by
  unfold EE; rw [feN_succ (d := d_greatest_cut) rfl, run_env [.fz bundles_, .fz order_, .un] rfl rfl]; rfl
theorem r_cut_of (m : Md) (k : Nat) (bundles_ parts_ : BW.D) : EE m (k + 1) i_cut_of [bundles_, parts_] = ansR (exs (EE m k) m.sub fuel b_cut_of [.fz bundles_, .fz parts_]) := by
  unfold EE; rw [feN_succ (d := d_cut_of) rfl, run_env [.fz bundles_, .fz parts_] rfl rfl]; rfl
theorem r_bettered (m : Md) (k : Nat) (bundles_ order_ : BW.D) : EE m (k + 1) i_bettered [bundles_, order_] = ansR (exs (EE m k) m.sub fuel b_bettered [.fz bundles_, .fz order_, .un, .un, .un, .un, .un]) := by
  unfold EE; rw [feN_succ (d := d_bettered) rfl, run_env [.fz bundles_, .fz order_, .un, .un, .un, .un, .un] rfl rfl]; rfl
theorem r_law_length (m : Md) (k : Nat) (bundles_ order_ : BW.D) : EE m (k + 1) i_law_length [bundles_, order_] = ansR (exs (EE m k) m.sub fuel b_law_length [.fz bundles_, .fz order_, .un, .un, .un]) := by
  unfold EE; rw [feN_succ (d := d_law_length) rfl, run_env [.fz bundles_, .fz order_, .un, .un, .un] rfl rfl]; rfl
theorem r_law_greatest (m : Md) (k : Nat) (bundles_ order_ : BW.D) : EE m (k + 1) i_law_greatest [bundles_, order_] = ansR (exs (EE m k) m.sub fuel b_law_greatest [.fz bundles_, .fz order_, .un]) := by
  unfold EE; rw [feN_succ (d := d_law_greatest) rfl, run_env [.fz bundles_, .fz order_, .un] rfl rfl]; rfl
theorem r_law_drawn (m : Md) (k : Nat) (draws_ at_ many_ : BW.D) : EE m (k + 1) i_law_drawn [draws_, at_, many_] = ansR (exs (EE m k) m.sub fuel b_law_drawn [.fz draws_, .fz at_, .fz many_, .un, .un]) := by
  unfold EE; rw [feN_succ (d := d_law_drawn) rfl, run_env [.fz draws_, .fz at_, .fz many_, .un, .un] rfl rfl]; rfl
theorem r_law_orders (m : Md) (k : Nat) (many_ : BW.D) : EE m (k + 1) i_law_orders [many_] = ansR (exs (EE m k) m.sub fuel b_law_orders [.fz many_, .un, .un, .un, .un, .un]) := by
  unfold EE; rw [feN_succ (d := d_law_orders) rfl, run_env [.fz many_, .un, .un, .un, .un, .un] rfl rfl]; rfl
theorem r_law_holds (m : Md) (k : Nat) (goal_ bundles_ marks_ : BW.D) : EE m (k + 1) i_law_holds [goal_, bundles_, marks_] = ansR (exs (EE m k) m.sub fuel b_law_holds [.fz goal_, .fz bundles_, .fz marks_, .un, .un, .un, .un, .un, .un]) := by
  unfold EE; rw [feN_succ (d := d_law_holds) rfl, run_env [.fz goal_, .fz bundles_, .fz marks_, .un, .un, .un, .un, .un, .un] rfl rfl]; rfl
theorem r_exchanges_check (m : Md) (k : Nat) (costs_ : BW.D) : EE m (k + 1) i_exchanges_check [costs_] = ansR (exs (EE m k) m.sub fuel b_exchanges_check [.fz costs_, .un, .un]) := by
  unfold EE; rw [feN_succ (d := d_exchanges_check) rfl, run_env [.fz costs_, .un, .un] rfl rfl]; rfl
theorem r_left (m : Md) (k : Nat) (costs_ : BW.D) : EE m (k + 1) i_left [costs_] = ansR (exs (EE m k) m.sub fuel b_left [.fz costs_, .un, .un, .un, .un, .un, .un, .un, .un, .un]) := by
  unfold EE; rw [feN_succ (d := d_left) rfl, run_env [.fz costs_, .un, .un, .un, .un, .un, .un, .un, .un, .un] rfl rfl]; rfl
theorem r_exchanges_first (m : Md) (k : Nat) (costs_ left_ : BW.D) : EE m (k + 1) i_exchanges_first [costs_, left_] = ansR (exs (EE m k) m.sub fuel b_exchanges_first [.fz costs_, .fz left_, .un, .un, .un, .un, .un, .un]) := by
  unfold EE; rw [feN_succ (d := d_exchanges_first) rfl, run_env [.fz costs_, .fz left_, .un, .un, .un, .un, .un, .un] rfl rfl]; rfl
theorem r_prices (m : Md) (k : Nat) (costs_ exchange_ : BW.D) : EE m (k + 1) i_prices [costs_, exchange_] = ansR (exs (EE m k) m.sub fuel b_prices [.fz costs_, .fz exchange_, .un, .un, .un, .un, .un, .un, .un]) := by
  unfold EE; rw [feN_succ (d := d_prices) rfl, run_env [.fz costs_, .fz exchange_, .un, .un, .un, .un, .un, .un, .un] rfl rfl]; rfl
theorem r_best_exchange (m : Md) (k : Nat) (costs_ : BW.D) : EE m (k + 1) i_best_exchange [costs_] = ansR (exs (EE m k) m.sub fuel b_best_exchange [.fz costs_, .un, .un]) := by
  unfold EE; rw [feN_succ (d := d_best_exchange) rfl, run_env [.fz costs_, .un, .un] rfl rfl]; rfl
theorem r_are_integers (m : Md) (k : Nat) (value_ many_ : BW.D) : EE m (k + 1) i_are_integers [value_, many_] = ansR (exs (EE m k) m.sub fuel b_are_integers [.fz value_, .fz many_, .un]) := by
  unfold EE; rw [feN_succ (d := d_are_integers) rfl, run_env [.fz value_, .fz many_, .un] rfl rfl]; rfl
theorem r_prices_fault (m : Md) (k : Nat) (costs_ prices_ : BW.D) : EE m (k + 1) i_prices_fault [costs_, prices_] = ansR (exs (EE m k) m.sub fuel b_prices_fault [.fz costs_, .fz prices_, .un, .un, .un, .un, .un]) := by
  unfold EE; rw [feN_succ (d := d_prices_fault) rfl, run_env [.fz costs_, .fz prices_, .un, .un, .un, .un, .un] rfl rfl]; rfl
theorem r_law_costs (m : Md) (k : Nat) (draws_ at_ most_ : BW.D) : EE m (k + 1) i_law_costs [draws_, at_, most_] = ansR (exs (EE m k) m.sub fuel b_law_costs [.fz draws_, .fz at_, .fz most_, .un, .un, .un, .un, .un, .un, .un]) := by
  unfold EE; rw [feN_succ (d := d_law_costs) rfl, run_env [.fz draws_, .fz at_, .fz most_, .un, .un, .un, .un, .un, .un, .un] rfl rfl]; rfl
theorem r_exchanges (m : Md) (k : Nat) (costs_ : BW.D) : EE m (k + 1) i_exchanges [costs_] = ansR (exs (EE m k) m.sub fuel b_exchanges [.fz costs_]) := by
  unfold EE; rw [feN_succ (d := d_exchanges) rfl, run_env [.fz costs_] rfl rfl]; rfl
theorem r_gained (m : Md) (k : Nat) (costs_ exchange_ : BW.D) : EE m (k + 1) i_gained [costs_, exchange_] = ansR (exs (EE m k) m.sub fuel b_gained [.fz costs_, .fz exchange_, .un, .un, .un]) := by
  unfold EE; rw [feN_succ (d := d_gained) rfl, run_env [.fz costs_, .fz exchange_, .un, .un, .un] rfl rfl]; rfl
theorem r_law_least (m : Md) (k : Nat) (costs_ : BW.D) : EE m (k + 1) i_law_least [costs_] = ansR (exs (EE m k) m.sub fuel b_law_least [.fz costs_, .un, .un, .un, .un, .un, .un, .un, .un, .un, .un]) := by
  unfold EE; rw [feN_succ (d := d_law_least) rfl, run_env [.fz costs_, .un, .un, .un, .un, .un, .un, .un, .un, .un, .un] rfl rfl]; rfl
theorem r_law_rows (m : Md) (k : Nat) (many_ : BW.D) : EE m (k + 1) i_law_rows [many_] = ansR (exs (EE m k) m.sub fuel b_law_rows [.fz many_, .un, .un, .un, .un, .un]) := by
  unfold EE; rw [feN_succ (d := d_law_rows) rfl, run_env [.fz many_, .un, .un, .un, .un, .un] rfl rfl]; rfl
end Ord

namespace Ord
open PySem PySem.W L2 BW
variable {m : Md} {k : Nat}
abbrev Wire := List Nat × Int
def wD (w : Wire) : BW.D := .tuple [.tuple (w.1.map natD), .int w.2]
def bD (n : Nat) (ws : List Wire) : BW.D := .tuple [.int n, .tuple (ws.map wD)]
def asc (L : List Nat) : Prop := L.Pairwise (· < ·)
structure GoodW (n : Nat) (w : Wire) : Prop where
  asc : asc w.1
  lt : ∀ p ∈ w.1, p < n
  two : 2 ≤ w.1.length
  w1 : 1 ≤ w.2
  w2 : w.2 ≤ 1000
structure Good (n : Nat) (ws : List Wire) : Prop where
  n1 : 1 ≤ n
  n9 : n ≤ 9
  len : ws.length ≤ 40
  ok : ∀ w ∈ ws, GoodW n w
theorem is_whole_i (v a b : Int) : EE m (k + 1) i_is_whole [.int v, .int a, .int b] = .ok (.bool (decide (a ≤ v) && decide (v ≤ b))) := by
  rw [r_is_whole]
  by_cases h : a ≤ v <;> simp [b_is_whole, okD, tyD, h]
theorem asc_zip : ∀ L : List Nat, asc L → ((L.zip (L.drop 1)).all fun p => decide ((p.1 : Int) < p.2)) = true
  | [], _ => rfl
  | [a], _ => rfl
  | a :: b :: L, h => by
    have h1 : asc (b :: L) := (List.pairwise_cons.mp h).2
    have h2 := asc_zip (b :: L) h1
    have h3 : a < b := (List.pairwise_cons.mp h).1 b (by simp)
    simp only [List.drop_succ_cons, List.drop_zero] at h2 ⊢
    simp only [List.zip_cons_cons, List.all_cons, Bool.and_eq_true, decide_eq_true_eq]
    exact ⟨by omega, by simpa using h2⟩
theorem ascends_ok {L : List Nat} (h : asc L) (hz : L.length ≤ 1000) : EE m (k + 1) i_ascends [.tuple (L.map natD)] = .ok (.bool true) := by
  rw [r_ascends]
  have h2 := asc_zip L h
  rw [List.drop_one] at h2
  simp -implicitDefEqProofs (disch := first | omega | (simp only [List.length_map, List.length_cons, List.length_nil, List.length_append, List.length_range, List.length_replicate, List.length_tail, List.length_reverse]; omega)) [size_ok, sz_filterL, compG_t, rng_nat, rng_ab, shl_one, shr_nat, band_one, op_mod_i, op_fdiv_i, zipD_map, zipD_tail, b_ascends]
  simpa using h2
theorem are_parts_ok {n : Nat} {L : List Nat} (h : asc L) (hl : ∀ p ∈ L, p < n) (hz : L.length ≤ 1000) : EE m (k + 2) i_are_parts [.int n, .tuple (L.map natD)] = .ok (.bool true) := by
  rw [r_are_parts]
  simp -implicitDefEqProofs (disch := first | omega | (simp only [List.length_map, List.length_cons, List.length_nil, List.length_append, List.length_range, List.length_replicate, List.length_tail, List.length_reverse]; omega)) [size_ok, sz_filterL, compG_t, rng_nat, rng_ab, shl_one, shr_nat, band_one, op_mod_i, op_fdiv_i, zipD_map, zipD_tail, b_are_parts, okD, tyD, is_whole_i, ascends_ok h hz]
  rw [if_pos fun p hp => by have := hl p hp; omega]
  rfl
theorem asc_len' : ∀ {L : List Nat} {n b : Nat}, asc L → (∀ p ∈ L, b ≤ p ∧ p < n) → L.length + b ≤ max n b
  | [], n, b, _, _ => by simp; omega
  | x :: L, n, b, h, hl => by
    obtain ⟨h1, h2⟩ := List.pairwise_cons.mp h
    have := asc_len' (n := n) (b := b + 1) h2 fun p hp => ⟨by have := h1 p hp; have := (hl x (by simp)).1; omega, (hl p (by simp [hp])).2⟩
    have := hl x (by simp)
    simp only [List.length_cons]
    omega
theorem asc_len {L : List Nat} {n : Nat} (h : asc L) (hl : ∀ p ∈ L, p < n) : L.length ≤ n := by
  have := asc_len' (b := 0) h fun p hp => ⟨Nat.zero_le _, hl p hp⟩
  omega
theorem is_wire_ok {n : Nat} {w : Wire} (g : GoodW n w) (hn : n ≤ 9) : EE m (k + 3) i_is_wire [.int n, wD w] = .ok (.bool true) := by
  have hz : w.1.length ≤ 1000 := Nat.le_trans (asc_len g.asc g.lt) (by omega)
  have h2 := g.two
  have h3 : (1 : Int) < w.1.length := by omega
  rw [r_is_wire]
  simp [b_is_wire, wD, okD, tyD, are_parts_ok g.asc g.lt hz, is_whole_i, g.w1, g.w2, h3]
theorem are_bundles_ok {n : Nat} {ws : List Wire} (g : Good n ws) : EE m (k + 4) i_are_bundles [bD n ws] = .ok (.bool true) := by
  have h1 : (1 : Int) ≤ n := by have := g.n1; omega
  have h2 : (n : Int) ≤ 9 := by have := g.n9; omega
  have h3 : ¬ (40 : Int) < ws.length := by have := g.len; omega
  have h4 := g.len
  rw [r_are_bundles]
  unfold bD
  simp -implicitDefEqProofs (disch := first | omega | (simp only [List.length_map, List.length_cons, List.length_nil, List.length_append, List.length_range, List.length_replicate, List.length_tail, List.length_reverse]; omega)) [size_ok, sz_filterL, compG_t, rng_nat, rng_ab, shl_one, shr_nat, band_one, op_mod_i, op_fdiv_i, zipD_map, zipD_tail, b_are_bundles, okD, tyD, is_whole_i, h1, h2, h3]
  rw [compR_ok (g := fun _ => .bool true)]
  · simp -implicitDefEqProofs (disch := first | omega | (simp only [List.length_map, List.length_cons, List.length_nil, List.length_append, List.length_range, List.length_replicate, List.length_tail, List.length_reverse]; omega)) [size_ok, sz_filterL, compG_t, rng_nat, rng_ab, shl_one, shr_nat, band_one, op_mod_i, op_fdiv_i, zipD_map, zipD_tail]
  · intro w hw
    rw [is_wire_ok (g.ok w hw) g.n9]; rfl
theorem check_bundles_ok {n : Nat} {ws : List Wire} (g : Good n ws) : EE m (k + 5) i_check_bundles [bD n ws] = .ok .none := by
  rw [r_check_bundles]
  simp -implicitDefEqProofs (disch := first | omega | (simp only [List.length_map, List.length_cons, List.length_nil, List.length_append, List.length_range, List.length_replicate, List.length_tail, List.length_reverse]; omega)) [size_ok, sz_filterL, compG_t, rng_nat, rng_ab, shl_one, shr_nat, band_one, op_mod_i, op_fdiv_i, zipD_map, zipD_tail, b_check_bundles, are_bundles_ok g]
end Ord

namespace Ord
open PySem PySem.W L2 BW
/-! ### sets of parts by numbers -/
def bit (b p : Nat) : Bool := decide (b / 2 ^ p % 2 = 1)
def mem (b n : Nat) : List Nat := (List.range n).filter (bit b)
theorem bit_tb (b p : Nat) : bit b p = b.testBit p := by
  unfold bit
  rw [Nat.testBit_eq_decide_div_mod_eq]
theorem mem_iff {b n p : Nat} : p ∈ mem b n ↔ p < n ∧ bit b p = true := by simp [mem, List.mem_filter]
theorem pow_le_of_bit {b p : Nat} (h : bit b p = true) : 2 ^ p ≤ b := by
  rw [bit_tb] at h
  exact Nat.ge_two_pow_of_testBit h
theorem exists_bit : ∀ {b n : Nat}, b ≠ 0 → b < 2 ^ n → ∃ p, p ∈ mem b n := fun {b n} h0 h => by
  obtain ⟨p, hp⟩ := Nat.exists_testBit_of_ne_zero h0
  refine ⟨p, mem_iff.mpr ⟨?_, by rw [bit_tb]; exact hp⟩⟩
  rw [← Nat.not_le]
  intro hn
  have : b < 2 ^ p := Nat.lt_of_lt_of_le h (Nat.pow_le_pow_right (by decide) hn)
  rw [Nat.testBit_lt_two_pow this] at hp
  cases hp
theorem bit_split (b p j : Nat) : bit b j = if j < p then (b % 2 ^ p).testBit j else (b / 2 ^ p).testBit (j - p) := by
  rw [bit_tb]
  have h := Nat.testBit_two_pow_mul_add (b / 2 ^ p) (Nat.mod_lt b (Nat.two_pow_pos p)) j
  rw [Nat.div_add_mod] at h
  exact h
theorem even_succ {q : Nat} (h : q % 2 = 0) (i : Nat) : (q + 1).testBit i = (decide (i = 0) || q.testBit i) := by
  cases i with
  | zero => simp [Nat.testBit_zero]; omega
  | succ i =>
    rw [Nat.testBit_succ, Nat.testBit_succ]
    have : (q + 1) / 2 = q / 2 := by omega
    rw [this]
    simp
theorem bit_add {b p : Nat} (h : bit b p = false) (j : Nat) : bit (b + 2 ^ p) j = (decide (j = p) || bit b j) := by
  have h0 : b / 2 ^ p % 2 = 0 := by
    unfold bit at h
    have := of_decide_eq_false h
    omega
  have e1 : (b + 2 ^ p) % 2 ^ p = b % 2 ^ p := by rw [Nat.add_mod_right]
  have e2 : (b + 2 ^ p) / 2 ^ p = b / 2 ^ p + 1 := Nat.add_div_right _ (Nat.two_pow_pos p)
  rw [bit_split (b + 2 ^ p) p, bit_split b p, e1, e2]
  by_cases hj : j < p
  · rw [if_pos hj, if_pos hj]
    have : ¬ j = p := by omega
    simp [this]
  · rw [if_neg hj, if_neg hj, even_succ h0]
    congr 1
    exact decide_eq_decide.mpr (by omega)
theorem bit_sub_self {b p : Nat} (h : bit b p = true) : bit (b - 2 ^ p) p = false := by
  have hl := pow_le_of_bit h
  unfold bit at h ⊢
  have h := of_decide_eq_true h
  have e : (b - 2 ^ p) / 2 ^ p = b / 2 ^ p - 1 := by
    have := Nat.sub_mul_div b (2 ^ p) 1
    simpa using this
  rw [e]
  apply decide_eq_false
  omega
theorem bit_sub {b p : Nat} (h : bit b p = true) (j : Nat) : bit (b - 2 ^ p) j = (bit b j && !decide (j = p)) := by
  have hl := pow_le_of_bit h
  have h0 := bit_sub_self h
  have h1 := bit_add h0 j
  rw [Nat.sub_add_cancel hl] at h1
  by_cases e : j = p
  · subst e; simp [h0]
  · simp [e] at h1 ⊢
    exact h1.symm
theorem lt_of_bit_add {b p n : Nat} (h : bit b p = false) (hb : b < 2 ^ n) (hp : p < n) : b + 2 ^ p < 2 ^ n := by
  rw [← Nat.not_le]
  intro hle
  obtain ⟨i, hi, h2⟩ := Nat.exists_ge_and_testBit_of_ge_two_pow hle
  rw [← bit_tb, bit_add h] at h2
  have : ¬ i = p := by omega
  simp only [this, decide_false, Bool.false_or] at h2
  rw [bit_tb, Nat.testBit_lt_two_pow (Nat.lt_of_lt_of_le hb (Nat.pow_le_pow_right (by decide) hi))] at h2
  cases h2
theorem exists_nobit {b n : Nat} (h : b + 1 < 2 ^ n) : ∃ p, p < n ∧ bit b p = false := by
  apply Classical.byContradiction
  intro hn
  have all : ∀ p, p < n → b.testBit p = true := fun p hp => by
    cases q : bit b p with
    | true => rw [← bit_tb]; exact q
    | false => exact absurd ⟨p, hp, q⟩ hn
  have : b = 2 ^ n - 1 := by
    apply Nat.eq_of_testBit_eq
    intro i
    rw [Nat.testBit_two_pow_sub_one]
    by_cases hi : i < n
    · rw [all i hi]; simp [hi]
    · rw [Nat.testBit_lt_two_pow (Nat.lt_of_lt_of_le (by omega : b < 2 ^ n) (Nat.pow_le_pow_right (by decide) (by omega)))]
      simp [hi]
  omega
/-! ### marks, and what is behind -/
def tog (g : Bool) (a b : Int) : Int := if g then a + b else max a b
def minL : List Int → Int
  | [] => 0
  | x :: r => r.foldl min x
theorem foldl_min_le : ∀ (L : List Int) (x : Int), L.foldl min x ≤ x ∧ ∀ y ∈ L, L.foldl min x ≤ y
  | [], x => ⟨Int.le_refl _, fun y h => nomatch h⟩
  | a :: L, x => by
    obtain ⟨h1, h2⟩ := foldl_min_le L (min x a)
    refine ⟨Int.le_trans h1 (Int.min_le_left _ _), fun y hy => ?_⟩
    rcases List.mem_cons.mp hy with rfl | hy
    · exact Int.le_trans h1 (Int.min_le_right _ _)
    · exact h2 y hy
theorem foldl_min_mem : ∀ (L : List Int) (x : Int), L.foldl min x = x ∨ L.foldl min x ∈ L
  | [], x => .inl rfl
  | a :: L, x => by
    rcases foldl_min_mem L (min x a) with h | h
    · rw [List.foldl_cons, h]
      by_cases q : x ≤ a
      · exact .inl (by omega)
      · exact .inr (by rw [show min x a = a by omega]; simp)
    · exact .inr (List.mem_cons_of_mem _ h)
theorem minL_le {L : List Int} {y : Int} (h : y ∈ L) : minL L ≤ y := by
  cases L with
  | nil => cases h
  | cons x r =>
    obtain ⟨h1, h2⟩ := foldl_min_le r x
    rcases List.mem_cons.mp h with rfl | h
    · exact h1
    · exact h2 y h
theorem minL_mem {L : List Int} (h : L ≠ []) : minL L ∈ L := by
  cases L with
  | nil => exact absurd rfl h
  | cons x r =>
    rcases foldl_min_mem r x with h | h
    · rw [minL, h]; simp
    · exact List.mem_cons_of_mem _ h
section
variable (g : Bool) (cut : Nat → Int) (n : Nat)
/-- the greatest marks that hold -/
def M (b : Nat) : Int := if b = 0 then 0 else minL ((mem b n).map fun p => tog g (cut b) (M (b - 2 ^ p)))
termination_by b
decreasing_by have := Nat.two_pow_pos p; omega
/-- the least that comes of the parts that are not in a set -/
def Bh (b : Nat) : Int := if 2 ^ n ≤ b + 1 then 0 else minL (((List.range n).filter fun p => !bit b p).map fun p => tog g (cut (b + 2 ^ p)) (Bh (b + 2 ^ p)))
termination_by 2 ^ n - b
decreasing_by have := Nat.two_pow_pos p; omega
end
theorem M_eq {g : Bool} {cut : Nat → Int} {n b : Nat} (h : b ≠ 0) : M g cut n b = minL ((mem b n).map fun p => tog g (cut b) (M g cut n (b - 2 ^ p))) := by
  rw [M, if_neg h]
theorem M_zero {g : Bool} {cut : Nat → Int} {n : Nat} : M g cut n 0 = 0 := by rw [M, if_pos rfl]
theorem Bh_full {g : Bool} {cut : Nat → Int} {n b : Nat} (h : 2 ^ n ≤ b + 1) : Bh g cut n b = 0 := by rw [Bh, if_pos h]
theorem Bh_eq {g : Bool} {cut : Nat → Int} {n b : Nat} (h : b + 1 < 2 ^ n) : Bh g cut n b = minL (((List.range n).filter fun p => !bit b p).map fun p => tog g (cut (b + 2 ^ p)) (Bh g cut n (b + 2 ^ p))) := by
  rw [Bh, if_neg (by omega)]
/-- marks that hold never tell more than M -/
def Holds (g : Bool) (cut : Nat → Int) (n : Nat) (f : Nat → Int) : Prop := f 0 ≤ 0 ∧ ∀ b, b ≠ 0 → b < 2 ^ n → ∀ p ∈ mem b n, f b ≤ tog g (cut b) (f (b - 2 ^ p))
theorem tog_mono {g : Bool} {a x y : Int} (h : x ≤ y) : tog g a x ≤ tog g a y := by unfold tog; split <;> omega
theorem le_M {g : Bool} {cut : Nat → Int} {n : Nat} {f : Nat → Int} (h : Holds g cut n f) : ∀ b, b < 2 ^ n → f b ≤ M g cut n b := fun b => by
  induction b using Nat.strongRecOn with
  | _ b ih =>
    intro hb
    by_cases h0 : b = 0
    · subst h0; rw [M_zero]; exact h.1
    · rw [M_eq h0]
      obtain ⟨p, hp⟩ := exists_bit h0 hb
      have hm := minL_mem (L := (mem b n).map fun p => tog g (cut b) (M g cut n (b - 2 ^ p))) (by
        intro e
        have := List.map_eq_nil_iff.mp e
        rw [this] at hp
        cases hp)
      obtain ⟨q, hq, e⟩ := List.mem_map.mp hm
      rw [← e]
      have hl := Nat.two_pow_pos q
      exact Int.le_trans (h.2 b h0 hb q hq) (tog_mono (ih (b - 2 ^ q) (by omega) (by omega)))
theorem tog_swap (g : Bool) (c d x : Int) : tog g (tog g c d) x = tog g d (tog g c x) := by unfold tog; split <;> omega
theorem Bh_pick {g : Bool} {cut : Nat → Int} {n b : Nat} (h : b + 1 < 2 ^ n) : ∃ p, p < n ∧ bit b p = false ∧ Bh g cut n b = tog g (cut (b + 2 ^ p)) (Bh g cut n (b + 2 ^ p)) := by
  rw [Bh_eq h]
  obtain ⟨p, hp, hb⟩ := exists_nobit h
  have hm := minL_mem (L := ((List.range n).filter fun p => !bit b p).map fun p => tog g (cut (b + 2 ^ p)) (Bh g cut n (b + 2 ^ p))) (by
    intro e
    have : p ∈ (List.range n).filter fun p => !bit b p := by simp [List.mem_filter, hp, hb]
    rw [List.map_eq_nil_iff.mp e] at this
    cases this)
  obtain ⟨q, hq, e⟩ := List.mem_map.mp hm
  rw [List.mem_filter, List.mem_range] at hq
  exact ⟨q, hq.1, by simpa using hq.2, e.symm⟩
end Ord

namespace Ord
open PySem PySem.W L2 BW
variable {m : Md} {k : Nat}
def gS (g : Bool) : Str := if g then "length" else "cut"
/-! ### cuts -/
def inner (s p : List Nat) : Nat := (p.filter fun x => s.contains x).length
def cutW (s : List Nat) (w : Wire) : Int := if 0 < inner s w.1 ∧ inner s w.1 < w.1.length then w.2 else 0
def cutAt (ws : List Wire) (s : List Nat) : Int := ws.foldl (fun a w => a + cutW s w) 0
theorem cut_at_ok {n : Nat} {ws : List Wire} (g : Good n ws) {x : BW.D} {s : List Nat} (hx : items x = some (s.map natD)) : EE m (k + 1) i_cut_at [bD n ws, x] = .ok (.int (cutAt ws s)) := by
  rw [r_cut_at]
  unfold bD
  have hf := forR_fold (f := forB (EE m k) m.sub fuel (.t [.n 3, .n 4]) b_cut_at_1) wD (fun a : Int => [.fz (.tuple [.int n, .tuple (ws.map wD)]), .fz x, .fz (.int a), .un, .un, .un, .un]) (fun a w => a + cutW s w) ws 0 fun w hw a => by
    have gw := g.ok w hw
    have hz : w.1.length ≤ 1000 := Nat.le_trans (asc_len gw.asc gw.lt) (by have := g.n9; omega)
    have e : ∀ p : Nat, cmpB .isin (natD p) x = .ok (s.contains p) := fun p => in_nats p hx
    unfold cutW inner
    simp -implicitDefEqProofs (disch := first | omega | (simp only [List.length_map, List.length_cons, List.length_nil, List.length_append, List.length_range, List.length_replicate, List.length_tail, List.length_reverse]; omega)) only [getS_0, getS_s, setS_0, setS_s, sr_ok, nx_then, rt_then, ex_then, bk_then, ct_then, ex_sr, asBool_b, asInt_i, items_l, items_t, Res.ok_bind, Res.ex_bind, Res.bad_bind, Res.quiet_ok, op_add_i, op_sub_i, b1_int, b1_abs, b1_lenl, b1_lent, b1_tupl, b1_tupt, b1_listt, b1_listl, lt_i, gt_i, le_i, ge_i, strict_0, strict_s, peek_0, peek_0l, peek_0d, peek_s, bindT_n, bindT_t, bindT_l, bindT_w, bindTs_n, bindTs_c, wipeS_nil, wipeS_cons, e_k, e_v, e_p, e_tup, e_lst, e_nil, e_cons, e_op, e_cmp, e_ch, e_and, e_or, e_not, e_neg, e_ite, e_isN, e_notN, e_ix, e_slf, e_slt, e_slb, e_rev, e_call, e_b1, e_b2, e_isi, e_rng, e_dnil, e_comp, e_dcomp, e_enm', e_zip', e_rl, e_idx, e_join, x_nil, x_cons, x_set, x_setO, x_unp, x_xp, x_ret, x_raise, x_ite, x_forB, x_app, x_tr, x_brk, x_cnt, x_pass, x_fr, x_wipe, x_par, evP_nil, evP_f, evP_t, parR_nil, parR_f, parR_t, x_aug, x_augix, x_setix, setixS_nat, x_extS, x_pop, augD_add, augD_sub, x_while, compR_nil, compR_mapL, compR_some, quiet_ite, in_natL, in_natT, notin_natL, notin_natT, eq_ii, ne_ii, eq_ss, ne_ss, sum_map, all_map, any_map, b2_max, b2_min, ix_0, ix_1, ix_2, ixl_0, ansR_rt, ansR_nx, ansR_ex, toSl_l, toSl_d, sl_tailT, sl_tailL, size_ok, sz_filterL, compG_t, rng_nat, rng_ab, shl_one, shr_nat, band_one, op_mod_i, op_fdiv_i, zipD_map, zipD_tail, add_tup, add_lst, rev_tup, rev_lst, mul_repT, if_true, if_false, ite_true, ite_false, Bool.not_true, Bool.not_false, Bool.false_eq_true, decide_eq_true_eq, decide_true, decide_false, Bool.and_true, Bool.true_and, Bool.or_true, Bool.true_or, Bool.and_false, Bool.false_and, Bool.or_false, Bool.false_or, reduceCtorEq, List.map_cons, List.map_nil, List.length_map, List.length_cons, List.length_nil, List.nil_append, List.cons_append, List.length_range, List.length_append, sz_filterR, Nat.reduceAdd, Int.cast_ofNat_Int, Int.reduceEq, Int.reduceLT, Int.reduceLE, forB, b_cut_at_1, wD, compG, e, compR_if]
    generalize (w.1.filter fun x => s.contains x).length = i
    by_cases h1 : 0 < i
    · by_cases h2 : i < w.1.length
      · simp -implicitDefEqProofs (disch := first | omega | (simp only [List.length_map, List.length_cons, List.length_nil, List.length_append, List.length_range, List.length_replicate, List.length_tail, List.length_reverse]; omega)) only [getS_0, getS_s, setS_0, setS_s, sr_ok, nx_then, rt_then, ex_then, bk_then, ct_then, ex_sr, asBool_b, asInt_i, items_l, items_t, Res.ok_bind, Res.ex_bind, Res.bad_bind, Res.quiet_ok, op_add_i, op_sub_i, b1_int, b1_abs, b1_lenl, b1_lent, b1_tupl, b1_tupt, b1_listt, b1_listl, lt_i, gt_i, le_i, ge_i, strict_0, strict_s, peek_0, peek_0l, peek_0d, peek_s, bindT_n, bindT_t, bindT_l, bindT_w, bindTs_n, bindTs_c, wipeS_nil, wipeS_cons, e_k, e_v, e_p, e_tup, e_lst, e_nil, e_cons, e_op, e_cmp, e_ch, e_and, e_or, e_not, e_neg, e_ite, e_isN, e_notN, e_ix, e_slf, e_slt, e_slb, e_rev, e_call, e_b1, e_b2, e_isi, e_rng, e_dnil, e_comp, e_dcomp, e_enm', e_zip', e_rl, e_idx, e_join, x_nil, x_cons, x_set, x_setO, x_unp, x_xp, x_ret, x_raise, x_ite, x_forB, x_app, x_tr, x_brk, x_cnt, x_pass, x_fr, x_wipe, x_par, evP_nil, evP_f, evP_t, parR_nil, parR_f, parR_t, x_aug, x_augix, x_setix, setixS_nat, x_extS, x_pop, augD_add, augD_sub, x_while, compR_nil, compR_mapL, compR_some, quiet_ite, in_natL, in_natT, notin_natL, notin_natT, eq_ii, ne_ii, eq_ss, ne_ss, sum_map, all_map, any_map, b2_max, b2_min, ix_0, ix_1, ix_2, ixl_0, ansR_rt, ansR_nx, ansR_ex, toSl_l, toSl_d, sl_tailT, sl_tailL, size_ok, sz_filterL, compG_t, rng_nat, rng_ab, shl_one, shr_nat, band_one, op_mod_i, op_fdiv_i, zipD_map, zipD_tail, add_tup, add_lst, rev_tup, rev_lst, mul_repT, if_true, if_false, ite_true, ite_false, Bool.not_true, Bool.not_false, Bool.false_eq_true, decide_eq_true_eq, decide_true, decide_false, Bool.and_true, Bool.true_and, Bool.or_true, Bool.true_or, Bool.and_false, Bool.false_and, Bool.or_false, Bool.false_or, reduceCtorEq, List.map_cons, List.map_nil, List.length_map, List.length_cons, List.length_nil, List.nil_append, List.cons_append, List.length_range, List.length_append, sz_filterR, Nat.reduceAdd, Int.cast_ofNat_Int, Int.reduceEq, Int.reduceLT, Int.reduceLE, if_pos (show (0 : Int) < i by omega), show (i : Int) < w.1.length by omega, h1, h2, and_self]
      · simp -implicitDefEqProofs (disch := first | omega | (simp only [List.length_map, List.length_cons, List.length_nil, List.length_append, List.length_range, List.length_replicate, List.length_tail, List.length_reverse]; omega)) only [getS_0, getS_s, setS_0, setS_s, sr_ok, nx_then, rt_then, ex_then, bk_then, ct_then, ex_sr, asBool_b, asInt_i, items_l, items_t, Res.ok_bind, Res.ex_bind, Res.bad_bind, Res.quiet_ok, op_add_i, op_sub_i, b1_int, b1_abs, b1_lenl, b1_lent, b1_tupl, b1_tupt, b1_listt, b1_listl, lt_i, gt_i, le_i, ge_i, strict_0, strict_s, peek_0, peek_0l, peek_0d, peek_s, bindT_n, bindT_t, bindT_l, bindT_w, bindTs_n, bindTs_c, wipeS_nil, wipeS_cons, e_k, e_v, e_p, e_tup, e_lst, e_nil, e_cons, e_op, e_cmp, e_ch, e_and, e_or, e_not, e_neg, e_ite, e_isN, e_notN, e_ix, e_slf, e_slt, e_slb, e_rev, e_call, e_b1, e_b2, e_isi, e_rng, e_dnil, e_comp, e_dcomp, e_enm', e_zip', e_rl, e_idx, e_join, x_nil, x_cons, x_set, x_setO, x_unp, x_xp, x_ret, x_raise, x_ite, x_forB, x_app, x_tr, x_brk, x_cnt, x_pass, x_fr, x_wipe, x_par, evP_nil, evP_f, evP_t, parR_nil, parR_f, parR_t, x_aug, x_augix, x_setix, setixS_nat, x_extS, x_pop, augD_add, augD_sub, x_while, compR_nil, compR_mapL, compR_some, quiet_ite, in_natL, in_natT, notin_natL, notin_natT, eq_ii, ne_ii, eq_ss, ne_ss, sum_map, all_map, any_map, b2_max, b2_min, ix_0, ix_1, ix_2, ixl_0, ansR_rt, ansR_nx, ansR_ex, toSl_l, toSl_d, sl_tailT, sl_tailL, size_ok, sz_filterL, compG_t, rng_nat, rng_ab, shl_one, shr_nat, band_one, op_mod_i, op_fdiv_i, zipD_map, zipD_tail, add_tup, add_lst, rev_tup, rev_lst, mul_repT, if_true, if_false, ite_true, ite_false, Bool.not_true, Bool.not_false, Bool.false_eq_true, decide_eq_true_eq, decide_true, decide_false, Bool.and_true, Bool.true_and, Bool.or_true, Bool.true_or, Bool.and_false, Bool.false_and, Bool.or_false, Bool.false_or, reduceCtorEq, List.map_cons, List.map_nil, List.length_map, List.length_cons, List.length_nil, List.nil_append, List.cons_append, List.length_range, List.length_append, sz_filterR, Nat.reduceAdd, Int.cast_ofNat_Int, Int.reduceEq, Int.reduceLT, Int.reduceLE, if_pos (show (0 : Int) < i by omega), show ¬ (i : Int) < w.1.length by omega, h1, h2, and_false]
    · simp -implicitDefEqProofs (disch := first | omega | (simp only [List.length_map, List.length_cons, List.length_nil, List.length_append, List.length_range, List.length_replicate, List.length_tail, List.length_reverse]; omega)) only [getS_0, getS_s, setS_0, setS_s, sr_ok, nx_then, rt_then, ex_then, bk_then, ct_then, ex_sr, asBool_b, asInt_i, items_l, items_t, Res.ok_bind, Res.ex_bind, Res.bad_bind, Res.quiet_ok, op_add_i, op_sub_i, b1_int, b1_abs, b1_lenl, b1_lent, b1_tupl, b1_tupt, b1_listt, b1_listl, lt_i, gt_i, le_i, ge_i, strict_0, strict_s, peek_0, peek_0l, peek_0d, peek_s, bindT_n, bindT_t, bindT_l, bindT_w, bindTs_n, bindTs_c, wipeS_nil, wipeS_cons, e_k, e_v, e_p, e_tup, e_lst, e_nil, e_cons, e_op, e_cmp, e_ch, e_and, e_or, e_not, e_neg, e_ite, e_isN, e_notN, e_ix, e_slf, e_slt, e_slb, e_rev, e_call, e_b1, e_b2, e_isi, e_rng, e_dnil, e_comp, e_dcomp, e_enm', e_zip', e_rl, e_idx, e_join, x_nil, x_cons, x_set, x_setO, x_unp, x_xp, x_ret, x_raise, x_ite, x_forB, x_app, x_tr, x_brk, x_cnt, x_pass, x_fr, x_wipe, x_par, evP_nil, evP_f, evP_t, parR_nil, parR_f, parR_t, x_aug, x_augix, x_setix, setixS_nat, x_extS, x_pop, augD_add, augD_sub, x_while, compR_nil, compR_mapL, compR_some, quiet_ite, in_natL, in_natT, notin_natL, notin_natT, eq_ii, ne_ii, eq_ss, ne_ss, sum_map, all_map, any_map, b2_max, b2_min, ix_0, ix_1, ix_2, ixl_0, ansR_rt, ansR_nx, ansR_ex, toSl_l, toSl_d, sl_tailT, sl_tailL, size_ok, sz_filterL, compG_t, rng_nat, rng_ab, shl_one, shr_nat, band_one, op_mod_i, op_fdiv_i, zipD_map, zipD_tail, add_tup, add_lst, rev_tup, rev_lst, mul_repT, if_true, if_false, ite_true, ite_false, Bool.not_true, Bool.not_false, Bool.false_eq_true, decide_eq_true_eq, decide_true, decide_false, Bool.and_true, Bool.true_and, Bool.or_true, Bool.true_or, Bool.and_false, Bool.false_and, Bool.or_false, Bool.false_or, reduceCtorEq, List.map_cons, List.map_nil, List.length_map, List.length_cons, List.length_nil, List.nil_append, List.cons_append, List.length_range, List.length_append, sz_filterR, Nat.reduceAdd, Int.cast_ofNat_Int, Int.reduceEq, Int.reduceLT, Int.reduceLE, if_neg (show ¬ (0 : Int) < i by omega), h1, false_and]
  simp -implicitDefEqProofs (disch := first | omega | (simp only [List.length_map, List.length_cons, List.length_nil, List.length_append, List.length_range, List.length_replicate, List.length_tail, List.length_reverse]; omega)) [size_ok, sz_filterL, compG_t, rng_nat, rng_ab, shl_one, shr_nat, band_one, op_mod_i, op_fdiv_i, zipD_map, zipD_tail, b_cut_at, hf]
  rfl
theorem pow9 {n : Nat} (h : n ≤ 9) : 2 ^ n ≤ 512 := Nat.pow_le_pow_right (n := 2) (by decide) h
theorem members_ok (b n : Nat) (hn : n ≤ 9) : EE m (k + 1) i_members [.int b, .int n] = .ok (.list ((mem b n).map natD)) := by
  rw [r_members]
  have e : ∀ x : Nat, (((b / 2 ^ x % 2 : Nat) : Int) = 1) = (b / 2 ^ x % 2 = 1) := fun x => propext (by omega)
  simp -implicitDefEqProofs (disch := first | omega | (simp only [List.length_map, List.length_cons, List.length_nil, List.length_append, List.length_range, List.length_replicate, List.length_tail, List.length_reverse]; omega)) only [getS_0, getS_s, setS_0, setS_s, sr_ok, nx_then, rt_then, ex_then, bk_then, ct_then, ex_sr, asBool_b, asInt_i, items_l, items_t, Res.ok_bind, Res.ex_bind, Res.bad_bind, Res.quiet_ok, op_add_i, op_sub_i, b1_int, b1_abs, b1_lenl, b1_lent, b1_tupl, b1_tupt, b1_listt, b1_listl, lt_i, gt_i, le_i, ge_i, strict_0, strict_s, peek_0, peek_0l, peek_0d, peek_s, bindT_n, bindT_t, bindT_l, bindT_w, bindTs_n, bindTs_c, wipeS_nil, wipeS_cons, e_k, e_v, e_p, e_tup, e_lst, e_nil, e_cons, e_op, e_cmp, e_ch, e_and, e_or, e_not, e_neg, e_ite, e_isN, e_notN, e_ix, e_slf, e_slt, e_slb, e_rev, e_call, e_b1, e_b2, e_isi, e_rng, e_dnil, e_comp, e_dcomp, e_enm', e_zip', e_rl, e_idx, e_join, x_nil, x_cons, x_set, x_setO, x_unp, x_xp, x_ret, x_raise, x_ite, x_forB, x_app, x_tr, x_brk, x_cnt, x_pass, x_fr, x_wipe, x_par, evP_nil, evP_f, evP_t, parR_nil, parR_f, parR_t, x_aug, x_augix, x_setix, setixS_nat, x_extS, x_pop, augD_add, augD_sub, x_while, compR_nil, compR_mapL, compR_some, quiet_ite, in_natL, in_natT, notin_natL, notin_natT, eq_ii, ne_ii, eq_ss, ne_ss, sum_map, all_map, any_map, b2_max, b2_min, ix_0, ix_1, ix_2, ixl_0, ansR_rt, ansR_nx, ansR_ex, toSl_l, toSl_d, sl_tailT, sl_tailL, size_ok, sz_filterL, compG_t, rng_nat, rng_ab, shl_one, shr_nat, band_one, op_mod_i, op_fdiv_i, zipD_map, zipD_tail, add_tup, add_lst, rev_tup, rev_lst, mul_repT, if_true, if_false, ite_true, ite_false, Bool.not_true, Bool.not_false, Bool.false_eq_true, decide_eq_true_eq, decide_true, decide_false, Bool.and_true, Bool.true_and, Bool.or_true, Bool.true_or, Bool.and_false, Bool.false_and, Bool.or_false, Bool.false_or, reduceCtorEq, List.map_cons, List.map_nil, List.length_map, List.length_cons, List.length_nil, List.nil_append, List.cons_append, List.length_range, List.length_append, sz_filterR, Nat.reduceAdd, Int.cast_ofNat_Int, Int.reduceEq, Int.reduceLT, Int.reduceLE, b_members, compG, List.length_range, e, compR_ifP]
  rfl
theorem cuts_ok {n : Nat} {ws : List Wire} (g : Good n ws) : EE m (k + 2) i_cuts [bD n ws] = .ok (.list ((List.range (2 ^ n)).map fun b => .int (cutAt ws (mem b n)))) := by
  rw [r_cuts]
  have h9 := g.n9
  have hp := pow9 h9
  have hc : ∀ b : Nat, EE m (k + 1) i_cut_at [bD n ws, .list ((mem b n).map natD)] = .ok (.int (cutAt ws (mem b n))) := fun b => cut_at_ok g rfl
  have hm : ∀ b : Nat, EE m (k + 1) i_members [.int b, .int n] = .ok (.list ((mem b n).map natD)) := fun b => members_ok b n h9
  have h0 : ixD (bD n ws) (.int 0) = .ok (.int n) := ix_0 _ _
  simp -implicitDefEqProofs (disch := first | omega | (simp only [List.length_map, List.length_cons, List.length_nil, List.length_append, List.length_range, List.length_replicate, List.length_tail, List.length_reverse]; omega)) only [getS_0, getS_s, setS_0, setS_s, sr_ok, nx_then, rt_then, ex_then, bk_then, ct_then, ex_sr, asBool_b, asInt_i, items_l, items_t, Res.ok_bind, Res.ex_bind, Res.bad_bind, Res.quiet_ok, op_add_i, op_sub_i, b1_int, b1_abs, b1_lenl, b1_lent, b1_tupl, b1_tupt, b1_listt, b1_listl, lt_i, gt_i, le_i, ge_i, strict_0, strict_s, peek_0, peek_0l, peek_0d, peek_s, bindT_n, bindT_t, bindT_l, bindT_w, bindTs_n, bindTs_c, wipeS_nil, wipeS_cons, e_k, e_v, e_p, e_tup, e_lst, e_nil, e_cons, e_op, e_cmp, e_ch, e_and, e_or, e_not, e_neg, e_ite, e_isN, e_notN, e_ix, e_slf, e_slt, e_slb, e_rev, e_call, e_b1, e_b2, e_isi, e_rng, e_dnil, e_comp, e_dcomp, e_enm', e_zip', e_rl, e_idx, e_join, x_nil, x_cons, x_set, x_setO, x_unp, x_xp, x_ret, x_raise, x_ite, x_forB, x_app, x_tr, x_brk, x_cnt, x_pass, x_fr, x_wipe, x_par, evP_nil, evP_f, evP_t, parR_nil, parR_f, parR_t, x_aug, x_augix, x_setix, setixS_nat, x_extS, x_pop, augD_add, augD_sub, x_while, compR_nil, compR_mapL, compR_some, quiet_ite, in_natL, in_natT, notin_natL, notin_natT, eq_ii, ne_ii, eq_ss, ne_ss, sum_map, all_map, any_map, b2_max, b2_min, ix_0, ix_1, ix_2, ixl_0, ansR_rt, ansR_nx, ansR_ex, toSl_l, toSl_d, sl_tailT, sl_tailL, size_ok, sz_filterL, compG_t, rng_nat, rng_ab, shl_one, shr_nat, band_one, op_mod_i, op_fdiv_i, zipD_map, zipD_tail, add_tup, add_lst, rev_tup, rev_lst, mul_repT, if_true, if_false, ite_true, ite_false, Bool.not_true, Bool.not_false, Bool.false_eq_true, decide_eq_true_eq, decide_true, decide_false, Bool.and_true, Bool.true_and, Bool.or_true, Bool.true_or, Bool.and_false, Bool.false_and, Bool.or_false, Bool.false_or, reduceCtorEq, List.map_cons, List.map_nil, List.length_map, List.length_cons, List.length_nil, List.nil_append, List.cons_append, List.length_range, List.length_append, sz_filterR, Nat.reduceAdd, Int.cast_ofNat_Int, Int.reduceEq, Int.reduceLT, Int.reduceLE, b_cuts, h0, hm, hc, List.length_range]
theorem together_ok (g : Bool) (a b : Int) : EE m (k + 1) i_together [.str (gS g), .int a, .int b] = .ok (.int (tog g a b)) := by
  rw [r_together]
  cases g
  · have e : decide (gS false = "length") = false := by decide
    simp -implicitDefEqProofs (disch := first | omega | (simp only [List.length_map, List.length_cons, List.length_nil, List.length_append, List.length_range, List.length_replicate, List.length_tail, List.length_reverse]; omega)) only [getS_0, getS_s, setS_0, setS_s, sr_ok, nx_then, rt_then, ex_then, bk_then, ct_then, ex_sr, asBool_b, asInt_i, items_l, items_t, Res.ok_bind, Res.ex_bind, Res.bad_bind, Res.quiet_ok, op_add_i, op_sub_i, b1_int, b1_abs, b1_lenl, b1_lent, b1_tupl, b1_tupt, b1_listt, b1_listl, lt_i, gt_i, le_i, ge_i, strict_0, strict_s, peek_0, peek_0l, peek_0d, peek_s, bindT_n, bindT_t, bindT_l, bindT_w, bindTs_n, bindTs_c, wipeS_nil, wipeS_cons, e_k, e_v, e_p, e_tup, e_lst, e_nil, e_cons, e_op, e_cmp, e_ch, e_and, e_or, e_not, e_neg, e_ite, e_isN, e_notN, e_ix, e_slf, e_slt, e_slb, e_rev, e_call, e_b1, e_b2, e_isi, e_rng, e_dnil, e_comp, e_dcomp, e_enm', e_zip', e_rl, e_idx, e_join, x_nil, x_cons, x_set, x_setO, x_unp, x_xp, x_ret, x_raise, x_ite, x_forB, x_app, x_tr, x_brk, x_cnt, x_pass, x_fr, x_wipe, x_par, evP_nil, evP_f, evP_t, parR_nil, parR_f, parR_t, x_aug, x_augix, x_setix, setixS_nat, x_extS, x_pop, augD_add, augD_sub, x_while, compR_nil, compR_mapL, compR_some, quiet_ite, in_natL, in_natT, notin_natL, notin_natT, eq_ii, ne_ii, eq_ss, ne_ss, sum_map, all_map, any_map, b2_max, b2_min, ix_0, ix_1, ix_2, ixl_0, ansR_rt, ansR_nx, ansR_ex, toSl_l, toSl_d, sl_tailT, sl_tailL, size_ok, sz_filterL, compG_t, rng_nat, rng_ab, shl_one, shr_nat, band_one, op_mod_i, op_fdiv_i, zipD_map, zipD_tail, add_tup, add_lst, rev_tup, rev_lst, mul_repT, if_true, if_false, ite_true, ite_false, Bool.not_true, Bool.not_false, Bool.false_eq_true, decide_eq_true_eq, decide_true, decide_false, Bool.and_true, Bool.true_and, Bool.or_true, Bool.true_or, Bool.and_false, Bool.false_and, Bool.or_false, Bool.false_or, reduceCtorEq, List.map_cons, List.map_nil, List.length_map, List.length_cons, List.length_nil, List.nil_append, List.cons_append, List.length_range, List.length_append, sz_filterR, Nat.reduceAdd, Int.cast_ofNat_Int, Int.reduceEq, Int.reduceLT, Int.reduceLE, b_together, e, tog]
  · have e : decide (gS true = "length") = true := by decide
    simp -implicitDefEqProofs (disch := first | omega | (simp only [List.length_map, List.length_cons, List.length_nil, List.length_append, List.length_range, List.length_replicate, List.length_tail, List.length_reverse]; omega)) only [getS_0, getS_s, setS_0, setS_s, sr_ok, nx_then, rt_then, ex_then, bk_then, ct_then, ex_sr, asBool_b, asInt_i, items_l, items_t, Res.ok_bind, Res.ex_bind, Res.bad_bind, Res.quiet_ok, op_add_i, op_sub_i, b1_int, b1_abs, b1_lenl, b1_lent, b1_tupl, b1_tupt, b1_listt, b1_listl, lt_i, gt_i, le_i, ge_i, strict_0, strict_s, peek_0, peek_0l, peek_0d, peek_s, bindT_n, bindT_t, bindT_l, bindT_w, bindTs_n, bindTs_c, wipeS_nil, wipeS_cons, e_k, e_v, e_p, e_tup, e_lst, e_nil, e_cons, e_op, e_cmp, e_ch, e_and, e_or, e_not, e_neg, e_ite, e_isN, e_notN, e_ix, e_slf, e_slt, e_slb, e_rev, e_call, e_b1, e_b2, e_isi, e_rng, e_dnil, e_comp, e_dcomp, e_enm', e_zip', e_rl, e_idx, e_join, x_nil, x_cons, x_set, x_setO, x_unp, x_xp, x_ret, x_raise, x_ite, x_forB, x_app, x_tr, x_brk, x_cnt, x_pass, x_fr, x_wipe, x_par, evP_nil, evP_f, evP_t, parR_nil, parR_f, parR_t, x_aug, x_augix, x_setix, setixS_nat, x_extS, x_pop, augD_add, augD_sub, x_while, compR_nil, compR_mapL, compR_some, quiet_ite, in_natL, in_natT, notin_natL, notin_natT, eq_ii, ne_ii, eq_ss, ne_ss, sum_map, all_map, any_map, b2_max, b2_min, ix_0, ix_1, ix_2, ixl_0, ansR_rt, ansR_nx, ansR_ex, toSl_l, toSl_d, sl_tailT, sl_tailL, size_ok, sz_filterL, compG_t, rng_nat, rng_ab, shl_one, shr_nat, band_one, op_mod_i, op_fdiv_i, zipD_map, zipD_tail, add_tup, add_lst, rev_tup, rev_lst, mul_repT, if_true, if_false, ite_true, ite_false, Bool.not_true, Bool.not_false, Bool.false_eq_true, decide_eq_true_eq, decide_true, decide_false, Bool.and_true, Bool.true_and, Bool.or_true, Bool.true_or, Bool.and_false, Bool.false_and, Bool.or_false, Bool.false_or, reduceCtorEq, List.map_cons, List.map_nil, List.length_map, List.length_cons, List.length_nil, List.nil_append, List.cons_append, List.length_range, List.length_append, sz_filterR, Nat.reduceAdd, Int.cast_ofNat_Int, Int.reduceEq, Int.reduceLT, Int.reduceLE, b_together, e, tog]
/-! ### marks -/
theorem min_list {L : List Int} (h : L ≠ []) {x : BW.D} (hx : items x = some (L.map .int)) : b1D .min x = .ok (.int (minL L)) := by
  cases L with
  | nil => exact absurd rfl h
  | cons a r => exact min_ints hx
def cutsD (c : Nat → Int) (N : Nat) : BW.D := .list ((List.range N).map fun b => .int (c b))
theorem cutsD_ix (c : Nat → Int) (N b : Nat) (h : b < N) : ixD (cutsD c N) (.int (b : Int)) = .ok (.int (c b)) := by
  unfold cutsD
  rw [ixL_nat (fun b => PyData.int (c b)) _ b (by simpa using h)]
  simp
theorem cutsD_len (c : Nat → Int) (N : Nat) : b1D .len (cutsD c N) = .ok (.int (N : Int)) := by
  unfold cutsD
  simp
theorem mem_ne {b n : Nat} (h0 : b ≠ 0) (h : b < 2 ^ n) : mem b n ≠ [] := fun e => by
  obtain ⟨p, hp⟩ := exists_bit h0 h
  rw [e] at hp; cases hp
theorem marks_turn (g : Bool) {n : Nat} {ws : List Wire} (gd : Good n ws) (c : Nat → Int) (b : Nat) (hb : b < 2 ^ n) (h0 : b ≠ 0) :
    forB (EE m (k + 1)) m.sub fuel (.n 4) b_marks_1 (natD b) [.fz (.str (gS g)), .fz (bD n ws), .fz (cutsD c (2 ^ n)), .ol ((List.range b).map fun j => .int (M g c n j)), .un, .un, .un, .un] =
      .nx [.fz (.str (gS g)), .fz (bD n ws), .fz (cutsD c (2 ^ n)), .ol ((List.range (b + 1)).map fun j => .int (M g c n j)), .un, .un, .un, .un] := by
  have h9 := gd.n9
  have hp9 := pow9 h9
  have ix0 : ixD (bD n ws) (.int 0) = .ok (.int n) := ix_0 _ _
  have hml : (mem b n).length ≤ 9 := Nat.le_trans (List.length_filter_le _ _) (by simpa using h9)
  have hc := cutsD_ix c (2 ^ n) b hb
  simp -implicitDefEqProofs (disch := first | omega | (simp only [List.length_map, List.length_cons, List.length_nil, List.length_append, List.length_range, List.length_replicate, List.length_tail, List.length_reverse]; omega)) only [getS_0, getS_s, setS_0, setS_s, sr_ok, nx_then, rt_then, ex_then, bk_then, ct_then, ex_sr, asBool_b, asInt_i, items_l, items_t, Res.ok_bind, Res.ex_bind, Res.bad_bind, Res.quiet_ok, op_add_i, op_sub_i, b1_int, b1_abs, b1_lenl, b1_lent, b1_tupl, b1_tupt, b1_listt, b1_listl, lt_i, gt_i, le_i, ge_i, strict_0, strict_s, peek_0, peek_0l, peek_0d, peek_s, bindT_n, bindT_t, bindT_l, bindT_w, bindTs_n, bindTs_c, wipeS_nil, wipeS_cons, e_k, e_v, e_p, e_tup, e_lst, e_nil, e_cons, e_op, e_cmp, e_ch, e_and, e_or, e_not, e_neg, e_ite, e_isN, e_notN, e_ix, e_slf, e_slt, e_slb, e_rev, e_call, e_b1, e_b2, e_isi, e_rng, e_dnil, e_comp, e_dcomp, e_enm', e_zip', e_rl, e_idx, e_join, x_nil, x_cons, x_set, x_setO, x_unp, x_xp, x_ret, x_raise, x_ite, x_forB, x_app, x_tr, x_brk, x_cnt, x_pass, x_fr, x_wipe, x_par, evP_nil, evP_f, evP_t, parR_nil, parR_f, parR_t, x_aug, x_augix, x_setix, setixS_nat, x_extS, x_pop, augD_add, augD_sub, x_while, compR_nil, compR_mapL, compR_some, quiet_ite, in_natL, in_natT, notin_natL, notin_natT, eq_ii, ne_ii, eq_ss, ne_ss, sum_map, all_map, any_map, b2_max, b2_min, ix_0, ix_1, ix_2, ixl_0, ansR_rt, ansR_nx, ansR_ex, toSl_l, toSl_d, sl_tailT, sl_tailL, size_ok, sz_filterL, compG_t, rng_nat, rng_ab, shl_one, shr_nat, band_one, op_mod_i, op_fdiv_i, zipD_map, zipD_tail, add_tup, add_lst, rev_tup, rev_lst, mul_repT, if_true, if_false, ite_true, ite_false, Bool.not_true, Bool.not_false, Bool.false_eq_true, decide_eq_true_eq, decide_true, decide_false, Bool.and_true, Bool.true_and, Bool.or_true, Bool.true_or, Bool.and_false, Bool.false_and, Bool.or_false, Bool.false_or, reduceCtorEq, List.map_cons, List.map_nil, List.length_map, List.length_cons, List.length_nil, List.nil_append, List.cons_append, List.length_range, List.length_append, sz_filterR, Nat.reduceAdd, Int.cast_ofNat_Int, Int.reduceEq, Int.reduceLT, Int.reduceLE, forB, b_marks_1, members_ok b n h9, ix0]
  rw [compR_ok (g := fun p => .int (M g c n (b - 2 ^ p)))]
  · simp -implicitDefEqProofs (disch := first | omega | (simp only [List.length_map, List.length_cons, List.length_nil, List.length_append, List.length_range, List.length_replicate, List.length_tail, List.length_reverse]; omega)) only [getS_0, getS_s, setS_0, setS_s, sr_ok, nx_then, rt_then, ex_then, bk_then, ct_then, ex_sr, asBool_b, asInt_i, items_l, items_t, Res.ok_bind, Res.ex_bind, Res.bad_bind, Res.quiet_ok, op_add_i, op_sub_i, b1_int, b1_abs, b1_lenl, b1_lent, b1_tupl, b1_tupt, b1_listt, b1_listl, lt_i, gt_i, le_i, ge_i, strict_0, strict_s, peek_0, peek_0l, peek_0d, peek_s, bindT_n, bindT_t, bindT_l, bindT_w, bindTs_n, bindTs_c, wipeS_nil, wipeS_cons, e_k, e_v, e_p, e_tup, e_lst, e_nil, e_cons, e_op, e_cmp, e_ch, e_and, e_or, e_not, e_neg, e_ite, e_isN, e_notN, e_ix, e_slf, e_slt, e_slb, e_rev, e_call, e_b1, e_b2, e_isi, e_rng, e_dnil, e_comp, e_dcomp, e_enm', e_zip', e_rl, e_idx, e_join, x_nil, x_cons, x_set, x_setO, x_unp, x_xp, x_ret, x_raise, x_ite, x_forB, x_app, x_tr, x_brk, x_cnt, x_pass, x_fr, x_wipe, x_par, evP_nil, evP_f, evP_t, parR_nil, parR_f, parR_t, x_aug, x_augix, x_setix, setixS_nat, x_extS, x_pop, augD_add, augD_sub, x_while, compR_nil, compR_mapL, compR_some, quiet_ite, in_natL, in_natT, notin_natL, notin_natT, eq_ii, ne_ii, eq_ss, ne_ss, sum_map, all_map, any_map, b2_max, b2_min, ix_0, ix_1, ix_2, ixl_0, ansR_rt, ansR_nx, ansR_ex, toSl_l, toSl_d, sl_tailT, sl_tailL, size_ok, sz_filterL, compG_t, rng_nat, rng_ab, shl_one, shr_nat, band_one, op_mod_i, op_fdiv_i, zipD_map, zipD_tail, add_tup, add_lst, rev_tup, rev_lst, mul_repT, if_true, if_false, ite_true, ite_false, Bool.not_true, Bool.not_false, Bool.false_eq_true, decide_eq_true_eq, decide_true, decide_false, Bool.and_true, Bool.true_and, Bool.or_true, Bool.true_or, Bool.and_false, Bool.false_and, Bool.or_false, Bool.false_or, reduceCtorEq, List.map_cons, List.map_nil, List.length_map, List.length_cons, List.length_nil, List.nil_append, List.cons_append, List.length_range, List.length_append, sz_filterR, Nat.reduceAdd, Int.cast_ofNat_Int, Int.reduceEq, Int.reduceLT, Int.reduceLE, hc, together_ok]
    have hmin := min_list (L := (mem b n).map fun p => tog g (c b) (M g c n (b - 2 ^ p))) (fun e => mem_ne h0 hb (List.map_eq_nil_iff.mp e)) (x := .list ((mem b n).map fun p => .int (tog g (c b) (M g c n (b - 2 ^ p))))) (by rw [List.map_map]; rfl)
    have e2 : compR (fun a => Res.ok (some (PyData.int (tog g (c b) (M g c n (b - 2 ^ a)))))) (mem b n) = .ok ((mem b n).map fun p => .int (tog g (c b) (M g c n (b - 2 ^ p)))) := compR_some _ _
    simp -implicitDefEqProofs (disch := first | omega | (simp only [List.length_map, List.length_cons, List.length_nil, List.length_append, List.length_range, List.length_replicate, List.length_tail, List.length_reverse]; omega)) only [getS_0, getS_s, setS_0, setS_s, sr_ok, nx_then, rt_then, ex_then, bk_then, ct_then, ex_sr, asBool_b, asInt_i, items_l, items_t, Res.ok_bind, Res.ex_bind, Res.bad_bind, Res.quiet_ok, op_add_i, op_sub_i, b1_int, b1_abs, b1_lenl, b1_lent, b1_tupl, b1_tupt, b1_listt, b1_listl, lt_i, gt_i, le_i, ge_i, strict_0, strict_s, peek_0, peek_0l, peek_0d, peek_s, bindT_n, bindT_t, bindT_l, bindT_w, bindTs_n, bindTs_c, wipeS_nil, wipeS_cons, e_k, e_v, e_p, e_tup, e_lst, e_nil, e_cons, e_op, e_cmp, e_ch, e_and, e_or, e_not, e_neg, e_ite, e_isN, e_notN, e_ix, e_slf, e_slt, e_slb, e_rev, e_call, e_b1, e_b2, e_isi, e_rng, e_dnil, e_comp, e_dcomp, e_enm', e_zip', e_rl, e_idx, e_join, x_nil, x_cons, x_set, x_setO, x_unp, x_xp, x_ret, x_raise, x_ite, x_forB, x_app, x_tr, x_brk, x_cnt, x_pass, x_fr, x_wipe, x_par, evP_nil, evP_f, evP_t, parR_nil, parR_f, parR_t, x_aug, x_augix, x_setix, setixS_nat, x_extS, x_pop, augD_add, augD_sub, x_while, compR_nil, compR_mapL, compR_some, quiet_ite, in_natL, in_natT, notin_natL, notin_natT, eq_ii, ne_ii, eq_ss, ne_ss, sum_map, all_map, any_map, b2_max, b2_min, ix_0, ix_1, ix_2, ixl_0, ansR_rt, ansR_nx, ansR_ex, toSl_l, toSl_d, sl_tailT, sl_tailL, size_ok, sz_filterL, compG_t, rng_nat, rng_ab, shl_one, shr_nat, band_one, op_mod_i, op_fdiv_i, zipD_map, zipD_tail, add_tup, add_lst, rev_tup, rev_lst, mul_repT, if_true, if_false, ite_true, ite_false, Bool.not_true, Bool.not_false, Bool.false_eq_true, decide_eq_true_eq, decide_true, decide_false, Bool.and_true, Bool.true_and, Bool.or_true, Bool.true_or, Bool.and_false, Bool.false_and, Bool.or_false, Bool.false_or, reduceCtorEq, List.map_cons, List.map_nil, List.length_map, List.length_cons, List.length_nil, List.nil_append, List.cons_append, List.length_range, List.length_append, sz_filterR, Nat.reduceAdd, Int.cast_ofNat_Int, Int.reduceEq, Int.reduceLT, Int.reduceLE, hmin, List.length_range]
    rw [List.range_succ, List.map_append, List.map_cons, List.map_nil, M_eq h0]
  · intro p hp
    obtain ⟨hp1, hp2⟩ := mem_iff.mp hp
    have hl := pow_le_of_bit hp2
    have hpos := Nat.two_pow_pos p
    have e : (b : Int) - ((2 ^ p : Nat) : Int) = ((b - 2 ^ p : Nat) : Int) := by omega
    have e2 := ixL_nat (fun j => PyData.int (M g c n j)) (List.range b) (b - 2 ^ p) (by simp; omega)
    rw [List.getElem_range] at e2
    simp -implicitDefEqProofs (disch := first | omega | (simp only [List.length_map, List.length_cons, List.length_nil, List.length_append, List.length_range, List.length_replicate, List.length_tail, List.length_reverse]; omega)) only [getS_0, getS_s, setS_0, setS_s, sr_ok, nx_then, rt_then, ex_then, bk_then, ct_then, ex_sr, asBool_b, asInt_i, items_l, items_t, Res.ok_bind, Res.ex_bind, Res.bad_bind, Res.quiet_ok, op_add_i, op_sub_i, b1_int, b1_abs, b1_lenl, b1_lent, b1_tupl, b1_tupt, b1_listt, b1_listl, lt_i, gt_i, le_i, ge_i, strict_0, strict_s, peek_0, peek_0l, peek_0d, peek_s, bindT_n, bindT_t, bindT_l, bindT_w, bindTs_n, bindTs_c, wipeS_nil, wipeS_cons, e_k, e_v, e_p, e_tup, e_lst, e_nil, e_cons, e_op, e_cmp, e_ch, e_and, e_or, e_not, e_neg, e_ite, e_isN, e_notN, e_ix, e_slf, e_slt, e_slb, e_rev, e_call, e_b1, e_b2, e_isi, e_rng, e_dnil, e_comp, e_dcomp, e_enm', e_zip', e_rl, e_idx, e_join, x_nil, x_cons, x_set, x_setO, x_unp, x_xp, x_ret, x_raise, x_ite, x_forB, x_app, x_tr, x_brk, x_cnt, x_pass, x_fr, x_wipe, x_par, evP_nil, evP_f, evP_t, parR_nil, parR_f, parR_t, x_aug, x_augix, x_setix, setixS_nat, x_extS, x_pop, augD_add, augD_sub, x_while, compR_nil, compR_mapL, compR_some, quiet_ite, in_natL, in_natT, notin_natL, notin_natT, eq_ii, ne_ii, eq_ss, ne_ss, sum_map, all_map, any_map, b2_max, b2_min, ix_0, ix_1, ix_2, ixl_0, ansR_rt, ansR_nx, ansR_ex, toSl_l, toSl_d, sl_tailT, sl_tailL, size_ok, sz_filterL, compG_t, rng_nat, rng_ab, shl_one, shr_nat, band_one, op_mod_i, op_fdiv_i, zipD_map, zipD_tail, add_tup, add_lst, rev_tup, rev_lst, mul_repT, if_true, if_false, ite_true, ite_false, Bool.not_true, Bool.not_false, Bool.false_eq_true, decide_eq_true_eq, decide_true, decide_false, Bool.and_true, Bool.true_and, Bool.or_true, Bool.true_or, Bool.and_false, Bool.false_and, Bool.or_false, Bool.false_or, reduceCtorEq, List.map_cons, List.map_nil, List.length_map, List.length_cons, List.length_nil, List.nil_append, List.cons_append, List.length_range, List.length_append, sz_filterR, Nat.reduceAdd, Int.cast_ofNat_Int, Int.reduceEq, Int.reduceLT, Int.reduceLE, e, e2]
theorem marks_ok (g : Bool) {n : Nat} {ws : List Wire} (gd : Good n ws) (c : Nat → Int) : EE m (k + 2) i_marks [.str (gS g), bD n ws, cutsD c (2 ^ n)] = .ok (cutsD (M g c n) (2 ^ n)) := by
  rw [r_marks]
  have h9 := gd.n9
  have hp9 := pow9 h9
  have hpos := Nat.two_pow_pos n
  have hf := forR_ix (f := forB (EE m (k + 1)) m.sub fuel (.n 4) b_marks_1) natD (List.range' 1 (2 ^ n - 1)) (fun i => [.fz (.str (gS g)), .fz (bD n ws), .fz (cutsD c (2 ^ n)), .ol ((List.range (i + 1)).map fun j => .int (M g c n j)), .un, .un, .un, .un]) fun i hi => by
    rw [List.getElem_range']
    rw [List.length_range'] at hi
    have := marks_turn (m := m) (k := k) g gd c (1 + 1 * i) (by omega) (by omega)
    rw [show 1 + 1 * i = i + 1 by omega] at this ⊢
    exact this
  have e0 : (List.range (0 + 1)).map (fun j => PyData.int (M g c n j)) = [.int 0] := by simp [M_zero]
  rw [List.length_range', e0, show 2 ^ n - 1 + 1 = 2 ^ n by omega] at hf
  have er := rng_ab 1 (2 ^ n) (by decide) (by omega)
  rw [show ((1 : Nat) : Int) = 1 from rfl] at er
  simp -implicitDefEqProofs (disch := first | omega | (simp only [List.length_map, List.length_cons, List.length_nil, List.length_append, List.length_range, List.length_replicate, List.length_tail, List.length_reverse]; omega)) only [getS_0, getS_s, setS_0, setS_s, sr_ok, nx_then, rt_then, ex_then, bk_then, ct_then, ex_sr, asBool_b, asInt_i, items_l, items_t, Res.ok_bind, Res.ex_bind, Res.bad_bind, Res.quiet_ok, op_add_i, op_sub_i, b1_int, b1_abs, b1_lenl, b1_lent, b1_tupl, b1_tupt, b1_listt, b1_listl, lt_i, gt_i, le_i, ge_i, strict_0, strict_s, peek_0, peek_0l, peek_0d, peek_s, bindT_n, bindT_t, bindT_l, bindT_w, bindTs_n, bindTs_c, wipeS_nil, wipeS_cons, e_k, e_v, e_p, e_tup, e_lst, e_nil, e_cons, e_op, e_cmp, e_ch, e_and, e_or, e_not, e_neg, e_ite, e_isN, e_notN, e_ix, e_slf, e_slt, e_slb, e_rev, e_call, e_b1, e_b2, e_isi, e_rng, e_dnil, e_comp, e_dcomp, e_enm', e_zip', e_rl, e_idx, e_join, x_nil, x_cons, x_set, x_setO, x_unp, x_xp, x_ret, x_raise, x_ite, x_forB, x_app, x_tr, x_brk, x_cnt, x_pass, x_fr, x_wipe, x_par, evP_nil, evP_f, evP_t, parR_nil, parR_f, parR_t, x_aug, x_augix, x_setix, setixS_nat, x_extS, x_pop, augD_add, augD_sub, x_while, compR_nil, compR_mapL, compR_some, quiet_ite, in_natL, in_natT, notin_natL, notin_natT, eq_ii, ne_ii, eq_ss, ne_ss, sum_map, all_map, any_map, b2_max, b2_min, ix_0, ix_1, ix_2, ixl_0, ansR_rt, ansR_nx, ansR_ex, toSl_l, toSl_d, sl_tailT, sl_tailL, size_ok, sz_filterL, compG_t, rng_nat, rng_ab, shl_one, shr_nat, band_one, op_mod_i, op_fdiv_i, zipD_map, zipD_tail, add_tup, add_lst, rev_tup, rev_lst, mul_repT, if_true, if_false, ite_true, ite_false, Bool.not_true, Bool.not_false, Bool.false_eq_true, decide_eq_true_eq, decide_true, decide_false, Bool.and_true, Bool.true_and, Bool.or_true, Bool.true_or, Bool.and_false, Bool.false_and, Bool.or_false, Bool.false_or, reduceCtorEq, List.map_cons, List.map_nil, List.length_map, List.length_cons, List.length_nil, List.nil_append, List.cons_append, List.length_range, List.length_append, sz_filterR, Nat.reduceAdd, Int.cast_ofNat_Int, Int.reduceEq, Int.reduceLT, Int.reduceLE, b_marks, cutsD_len, er, hf]
  rfl
/-! ### what is behind -/
def bhL (g : Bool) (c : Nat → Int) (n i : Nat) : List BW.D := (List.range (2 ^ n)).map fun j => .int (if 2 ^ n ≤ j + 1 + i then Bh g c n j else 0)
theorem bhL_ix (g : Bool) (c : Nat → Int) (n i j : Nat) (hj : j < 2 ^ n) (h : 2 ^ n ≤ j + 1 + i) : ixD (.list (bhL g c n i)) (.int (j : Int)) = .ok (.int (Bh g c n j)) := by
  unfold bhL
  rw [ixL_nat _ _ j (by simpa using hj), List.getElem_range, if_pos h]
theorem bh_turn (g : Bool) {n : Nat} {ws : List Wire} (gd : Good n ws) (c : Nat → Int) (b i : Nat) (hb : b + 1 < 2 ^ n) (hi : b + 2 + i = 2 ^ n) :
    forB (EE m (k + 1)) m.sub fuel (.n 5) b_behind_1 (natD b) [.fz (.str (gS g)), .fz (bD n ws), .fz (cutsD c (2 ^ n)), .fz (.int n), .ol (bhL g c n i), .un, .un, .un, .un] =
      .nx [.fz (.str (gS g)), .fz (bD n ws), .fz (cutsD c (2 ^ n)), .fz (.int n), .ol (bhL g c n (i + 1)), .un, .un, .un, .un] := by
  have h9 := gd.n9
  have hp9 := pow9 h9
  have hf := forR_app (f := forB (EE m (k + 1)) m.sub fuel (.n 7) b_behind_2) natD (fun acc => [.fz (.str (gS g)), .fz (bD n ws), .fz (cutsD c (2 ^ n)), .fz (.int n), .ol (bhL g c n i), .fz (.int b), .ol acc, .un, .un])
    (fun p => if !bit b p then [.int (tog g (c (b + 2 ^ p)) (Bh g c n (b + 2 ^ p)))] else []) 1000 (List.range n) [] (fun p _ => by split <;> simp) (fun p hp acc ha => by
      rw [List.mem_range] at hp
      have e0 : (((b / 2 ^ p % 2 : Nat) : Int) = 0) = (bit b p = false) := by
        unfold bit
        rw [decide_eq_false_iff_not]
        exact propext (by omega)
      by_cases q : bit b p = false
      · have hlt := lt_of_bit_add q (by omega : b < 2 ^ n) hp
        have hpos := Nat.two_pow_pos p
        have e1 : (b : Int) + ((2 ^ p : Nat) : Int) = ((b + 2 ^ p : Nat) : Int) := by omega
        have e2 := cutsD_ix c (2 ^ n) (b + 2 ^ p) hlt
        have e3 := bhL_ix g c n i (b + 2 ^ p) hlt (by omega)
        simp -implicitDefEqProofs (disch := first | omega | (simp only [List.length_map, List.length_cons, List.length_nil, List.length_append, List.length_range, List.length_replicate, List.length_tail, List.length_reverse]; omega)) only [getS_0, getS_s, setS_0, setS_s, sr_ok, nx_then, rt_then, ex_then, bk_then, ct_then, ex_sr, asBool_b, asInt_i, items_l, items_t, Res.ok_bind, Res.ex_bind, Res.bad_bind, Res.quiet_ok, op_add_i, op_sub_i, b1_int, b1_abs, b1_lenl, b1_lent, b1_tupl, b1_tupt, b1_listt, b1_listl, lt_i, gt_i, le_i, ge_i, strict_0, strict_s, peek_0, peek_0l, peek_0d, peek_s, bindT_n, bindT_t, bindT_l, bindT_w, bindTs_n, bindTs_c, wipeS_nil, wipeS_cons, e_k, e_v, e_p, e_tup, e_lst, e_nil, e_cons, e_op, e_cmp, e_ch, e_and, e_or, e_not, e_neg, e_ite, e_isN, e_notN, e_ix, e_slf, e_slt, e_slb, e_rev, e_call, e_b1, e_b2, e_isi, e_rng, e_dnil, e_comp, e_dcomp, e_enm', e_zip', e_rl, e_idx, e_join, x_nil, x_cons, x_set, x_setO, x_unp, x_xp, x_ret, x_raise, x_ite, x_forB, x_app, x_tr, x_brk, x_cnt, x_pass, x_fr, x_wipe, x_par, evP_nil, evP_f, evP_t, parR_nil, parR_f, parR_t, x_aug, x_augix, x_setix, setixS_nat, x_extS, x_pop, augD_add, augD_sub, x_while, compR_nil, compR_mapL, compR_some, quiet_ite, in_natL, in_natT, notin_natL, notin_natT, eq_ii, ne_ii, eq_ss, ne_ss, sum_map, all_map, any_map, b2_max, b2_min, ix_0, ix_1, ix_2, ixl_0, ansR_rt, ansR_nx, ansR_ex, toSl_l, toSl_d, sl_tailT, sl_tailL, size_ok, sz_filterL, compG_t, rng_nat, rng_ab, shl_one, shr_nat, band_one, op_mod_i, op_fdiv_i, zipD_map, zipD_tail, add_tup, add_lst, rev_tup, rev_lst, mul_repT, if_true, if_false, ite_true, ite_false, Bool.not_true, Bool.not_false, Bool.false_eq_true, decide_eq_true_eq, decide_true, decide_false, Bool.and_true, Bool.true_and, Bool.or_true, Bool.true_or, Bool.and_false, Bool.false_and, Bool.or_false, Bool.false_or, reduceCtorEq, List.map_cons, List.map_nil, List.length_map, List.length_cons, List.length_nil, List.nil_append, List.cons_append, List.length_range, List.length_append, sz_filterR, Nat.reduceAdd, Int.cast_ofNat_Int, Int.reduceEq, Int.reduceLT, Int.reduceLE, forB, b_behind_2, e0, q, e1, e2, e3, together_ok]
      · simp -implicitDefEqProofs (disch := first | omega | (simp only [List.length_map, List.length_cons, List.length_nil, List.length_append, List.length_range, List.length_replicate, List.length_tail, List.length_reverse]; omega)) only [getS_0, getS_s, setS_0, setS_s, sr_ok, nx_then, rt_then, ex_then, bk_then, ct_then, ex_sr, asBool_b, asInt_i, items_l, items_t, Res.ok_bind, Res.ex_bind, Res.bad_bind, Res.quiet_ok, op_add_i, op_sub_i, b1_int, b1_abs, b1_lenl, b1_lent, b1_tupl, b1_tupt, b1_listt, b1_listl, lt_i, gt_i, le_i, ge_i, strict_0, strict_s, peek_0, peek_0l, peek_0d, peek_s, bindT_n, bindT_t, bindT_l, bindT_w, bindTs_n, bindTs_c, wipeS_nil, wipeS_cons, e_k, e_v, e_p, e_tup, e_lst, e_nil, e_cons, e_op, e_cmp, e_ch, e_and, e_or, e_not, e_neg, e_ite, e_isN, e_notN, e_ix, e_slf, e_slt, e_slb, e_rev, e_call, e_b1, e_b2, e_isi, e_rng, e_dnil, e_comp, e_dcomp, e_enm', e_zip', e_rl, e_idx, e_join, x_nil, x_cons, x_set, x_setO, x_unp, x_xp, x_ret, x_raise, x_ite, x_forB, x_app, x_tr, x_brk, x_cnt, x_pass, x_fr, x_wipe, x_par, evP_nil, evP_f, evP_t, parR_nil, parR_f, parR_t, x_aug, x_augix, x_setix, setixS_nat, x_extS, x_pop, augD_add, augD_sub, x_while, compR_nil, compR_mapL, compR_some, quiet_ite, in_natL, in_natT, notin_natL, notin_natT, eq_ii, ne_ii, eq_ss, ne_ss, sum_map, all_map, any_map, b2_max, b2_min, ix_0, ix_1, ix_2, ixl_0, ansR_rt, ansR_nx, ansR_ex, toSl_l, toSl_d, sl_tailT, sl_tailL, size_ok, sz_filterL, compG_t, rng_nat, rng_ab, shl_one, shr_nat, band_one, op_mod_i, op_fdiv_i, zipD_map, zipD_tail, add_tup, add_lst, rev_tup, rev_lst, mul_repT, if_true, if_false, ite_true, ite_false, Bool.not_true, Bool.not_false, Bool.false_eq_true, decide_eq_true_eq, decide_true, decide_false, Bool.and_true, Bool.true_and, Bool.or_true, Bool.true_or, Bool.and_false, Bool.false_and, Bool.or_false, Bool.false_or, reduceCtorEq, List.map_cons, List.map_nil, List.length_map, List.length_cons, List.length_nil, List.nil_append, List.cons_append, List.length_range, List.length_append, sz_filterR, Nat.reduceAdd, Int.cast_ofNat_Int, Int.reduceEq, Int.reduceLT, Int.reduceLE, forB, b_behind_2, e0, q]
        simp [q]) (by simp; omega)
  rw [List.nil_append, flatMap_if] at hf
  have hmin := min_list (L := ((List.range n).filter fun p => !bit b p).map fun p => tog g (c (b + 2 ^ p)) (Bh g c n (b + 2 ^ p))) (fun e => by
    obtain ⟨p, hp, hq⟩ := exists_nobit hb
    have : p ∈ (List.range n).filter fun p => !bit b p := by simp [List.mem_filter, hp, hq]
    rw [List.map_eq_nil_iff.mp e] at this
    cases this) (x := .list (((List.range n).filter fun p => !bit b p).map fun p => .int (tog g (c (b + 2 ^ p)) (Bh g c n (b + 2 ^ p))))) (by rw [List.map_map]; rfl)
  rw [← Bh_eq hb] at hmin
  have hlen : b < (bhL g c n i).length := by simp [bhL]; omega
  have hset : (bhL g c n i).set b (.int (Bh g c n b)) = bhL g c n (i + 1) := by
    apply List.ext_getElem
    · simp [bhL]
    · intro j h1 h2
      rw [List.getElem_set]
      simp only [bhL, List.getElem_map, List.getElem_range]
      by_cases q : b = j
      · subst q; rw [if_pos rfl, if_pos (by omega)]
      · rw [if_neg q]
        congr 1
        by_cases z : 2 ^ n ≤ j + 1 + i
        · rw [if_pos z, if_pos (by omega)]
        · rw [if_neg z, if_neg (by omega)]
  simp -implicitDefEqProofs (disch := first | omega | (simp only [List.length_map, List.length_cons, List.length_nil, List.length_append, List.length_range, List.length_replicate, List.length_tail, List.length_reverse]; omega)) only [getS_0, getS_s, setS_0, setS_s, sr_ok, nx_then, rt_then, ex_then, bk_then, ct_then, ex_sr, asBool_b, asInt_i, items_l, items_t, Res.ok_bind, Res.ex_bind, Res.bad_bind, Res.quiet_ok, op_add_i, op_sub_i, b1_int, b1_abs, b1_lenl, b1_lent, b1_tupl, b1_tupt, b1_listt, b1_listl, lt_i, gt_i, le_i, ge_i, strict_0, strict_s, peek_0, peek_0l, peek_0d, peek_s, bindT_n, bindT_t, bindT_l, bindT_w, bindTs_n, bindTs_c, wipeS_nil, wipeS_cons, e_k, e_v, e_p, e_tup, e_lst, e_nil, e_cons, e_op, e_cmp, e_ch, e_and, e_or, e_not, e_neg, e_ite, e_isN, e_notN, e_ix, e_slf, e_slt, e_slb, e_rev, e_call, e_b1, e_b2, e_isi, e_rng, e_dnil, e_comp, e_dcomp, e_enm', e_zip', e_rl, e_idx, e_join, x_nil, x_cons, x_set, x_setO, x_unp, x_xp, x_ret, x_raise, x_ite, x_forB, x_app, x_tr, x_brk, x_cnt, x_pass, x_fr, x_wipe, x_par, evP_nil, evP_f, evP_t, parR_nil, parR_f, parR_t, x_aug, x_augix, x_setix, setixS_nat, x_extS, x_pop, augD_add, augD_sub, x_while, compR_nil, compR_mapL, compR_some, quiet_ite, in_natL, in_natT, notin_natL, notin_natT, eq_ii, ne_ii, eq_ss, ne_ss, sum_map, all_map, any_map, b2_max, b2_min, ix_0, ix_1, ix_2, ixl_0, ansR_rt, ansR_nx, ansR_ex, toSl_l, toSl_d, sl_tailT, sl_tailL, size_ok, sz_filterL, compG_t, rng_nat, rng_ab, shl_one, shr_nat, band_one, op_mod_i, op_fdiv_i, zipD_map, zipD_tail, add_tup, add_lst, rev_tup, rev_lst, mul_repT, if_true, if_false, ite_true, ite_false, Bool.not_true, Bool.not_false, Bool.false_eq_true, decide_eq_true_eq, decide_true, decide_false, Bool.and_true, Bool.true_and, Bool.or_true, Bool.true_or, Bool.and_false, Bool.false_and, Bool.or_false, Bool.false_or, reduceCtorEq, List.map_cons, List.map_nil, List.length_map, List.length_cons, List.length_nil, List.nil_append, List.cons_append, List.length_range, List.length_append, sz_filterR, Nat.reduceAdd, Int.cast_ofNat_Int, Int.reduceEq, Int.reduceLT, Int.reduceLE, forB, b_behind_1, hf, hmin, hlen, hset]
theorem behind_ok (g : Bool) {n : Nat} {ws : List Wire} (gd : Good n ws) (c : Nat → Int) : EE m (k + 2) i_behind [.str (gS g), bD n ws, cutsD c (2 ^ n)] = .ok (cutsD (Bh g c n) (2 ^ n)) := by
  rw [r_behind]
  have h9 := gd.n9
  have hp9 := pow9 h9
  have h2 : 2 ≤ 2 ^ n := by
    have := Nat.pow_le_pow_right (n := 2) (by decide) gd.n1
    simpa using this
  have ix0 : ixD (bD n ws) (.int 0) = .ok (.int n) := ix_0 _ _
  have hf := forR_ix (f := forB (EE m (k + 1)) m.sub fuel (.n 5) b_behind_1) (fun j => natD (2 ^ n - 2 - j)) (List.range (2 ^ n - 1)) (fun i => [.fz (.str (gS g)), .fz (bD n ws), .fz (cutsD c (2 ^ n)), .fz (.int n), .ol (bhL g c n i), .un, .un, .un, .un]) fun i hi => by
    rw [List.getElem_range]
    rw [List.length_range] at hi
    exact bh_turn g gd c (2 ^ n - 2 - i) i (by omega) (by omega)
  rw [List.length_range] at hf
  have e0 : List.replicate (2 ^ n) (PyData.int 0) = bhL g c n 0 := by
    apply List.ext_getElem
    · simp [bhL]
    · intro j h1 h2
      simp only [bhL, List.getElem_map, List.getElem_range, List.getElem_replicate]
      congr 1
      split
      · rw [Bh_full (by omega)]
      · rfl
  have e1 : bhL g c n (2 ^ n - 1) = (List.range (2 ^ n)).map fun j => .int (Bh g c n j) := by
    unfold bhL
    apply List.map_congr_left
    intro j _
    rw [if_pos (by omega)]
  have er := rng_down (2 ^ n - 2) (by omega)
  rw [show 2 ^ n - 2 + 1 = 2 ^ n - 1 by omega, show ((2 ^ n - 2 : Nat) : Int) = ((2 ^ n : Nat) : Int) - 2 by omega] at er
  have em := mul_rep (.int 0) (2 ^ n) (by omega)
  rw [e0] at em
  simp -implicitDefEqProofs (disch := first | omega | (simp only [List.length_map, List.length_cons, List.length_nil, List.length_append, List.length_range, List.length_replicate, List.length_tail, List.length_reverse]; omega)) only [getS_0, getS_s, setS_0, setS_s, sr_ok, nx_then, rt_then, ex_then, bk_then, ct_then, ex_sr, asBool_b, asInt_i, items_l, items_t, Res.ok_bind, Res.ex_bind, Res.bad_bind, Res.quiet_ok, op_add_i, op_sub_i, b1_int, b1_abs, b1_lenl, b1_lent, b1_tupl, b1_tupt, b1_listt, b1_listl, lt_i, gt_i, le_i, ge_i, strict_0, strict_s, peek_0, peek_0l, peek_0d, peek_s, bindT_n, bindT_t, bindT_l, bindT_w, bindTs_n, bindTs_c, wipeS_nil, wipeS_cons, e_k, e_v, e_p, e_tup, e_lst, e_nil, e_cons, e_op, e_cmp, e_ch, e_and, e_or, e_not, e_neg, e_ite, e_isN, e_notN, e_ix, e_slf, e_slt, e_slb, e_rev, e_call, e_b1, e_b2, e_isi, e_rng, e_dnil, e_comp, e_dcomp, e_enm', e_zip', e_rl, e_idx, e_join, x_nil, x_cons, x_set, x_setO, x_unp, x_xp, x_ret, x_raise, x_ite, x_forB, x_app, x_tr, x_brk, x_cnt, x_pass, x_fr, x_wipe, x_par, evP_nil, evP_f, evP_t, parR_nil, parR_f, parR_t, x_aug, x_augix, x_setix, setixS_nat, x_extS, x_pop, augD_add, augD_sub, x_while, compR_nil, compR_mapL, compR_some, quiet_ite, in_natL, in_natT, notin_natL, notin_natT, eq_ii, ne_ii, eq_ss, ne_ss, sum_map, all_map, any_map, b2_max, b2_min, ix_0, ix_1, ix_2, ixl_0, ansR_rt, ansR_nx, ansR_ex, toSl_l, toSl_d, sl_tailT, sl_tailL, size_ok, sz_filterL, compG_t, rng_nat, rng_ab, shl_one, shr_nat, band_one, op_mod_i, op_fdiv_i, zipD_map, zipD_tail, add_tup, add_lst, rev_tup, rev_lst, mul_repT, if_true, if_false, ite_true, ite_false, Bool.not_true, Bool.not_false, Bool.false_eq_true, decide_eq_true_eq, decide_true, decide_false, Bool.and_true, Bool.true_and, Bool.or_true, Bool.true_or, Bool.and_false, Bool.false_and, Bool.or_false, Bool.false_or, reduceCtorEq, List.map_cons, List.map_nil, List.length_map, List.length_cons, List.length_nil, List.nil_append, List.cons_append, List.length_range, List.length_append, sz_filterR, Nat.reduceAdd, Int.cast_ofNat_Int, Int.reduceEq, Int.reduceLT, Int.reduceLE, b_behind, ix0, cutsD_len, em, er, hf, e1]
  rfl
/-! ### the first order -/
structure St where
  ord : List Nat
  num : Nat
  done : Int
section
variable (g : Bool) (c : Nat → Int) (n : Nat)
def good (s : St) (p : Nat) : Bool := !s.ord.contains p && decide (tog g (tog g (c (s.num + 2 ^ p)) s.done) (Bh g c n (s.num + 2 ^ p)) = Bh g c n 0)
def next (s : St) (p : Nat) : St := ⟨s.ord ++ [p], s.num + 2 ^ p, tog g (c (s.num + 2 ^ p)) s.done⟩
def stepF (s : St) : St := match (List.range n).find? (good g c n s) with
  | some p => next g c s p
  | none => s
def runF : Nat → St
  | 0 => ⟨[], 0, 0⟩
  | i + 1 => stepF g c n (runF i)
structure InvF (i : Nat) (s : St) : Prop where
  len : s.ord.length = i
  nd : s.ord.Nodup
  lt : ∀ p ∈ s.ord, p < n
  bits : ∀ p, p < n → bit s.num p = s.ord.contains p
  num : s.num < 2 ^ n
  eq : tog g s.done (Bh g c n s.num) = Bh g c n 0
def best : List Nat := (runF g c n n).ord
end
theorem invF_step {g : Bool} {c : Nat → Int} {n i : Nat} {s : St} (I : InvF g c n i s) (hi : i < n) : ∃ p, (List.range n).find? (good g c n s) = some p ∧ p < n ∧ good g c n s p = true ∧ InvF g c n (i + 1) (next g c s p) := by
  have hn : s.num + 1 < 2 ^ n := by
    apply Classical.byContradiction
    intro h
    have e : s.num = 2 ^ n - 1 := by have := I.num; omega
    have : n ≤ s.ord.length := by
      have := nodup_len (A := List.range n) (B := s.ord) List.nodup_range fun p hp => by
        have hb := I.bits p (List.mem_range.mp hp)
        rw [bit_tb, e, Nat.testBit_two_pow_sub_one, decide_eq_true (List.mem_range.mp hp)] at hb
        simpa using hb.symm
      simpa using this
    rw [I.len] at this
    omega
  obtain ⟨p, hp, hb, he⟩ := Bh_pick (g := g) (cut := c) hn
  have hg : good g c n s p = true := by
    unfold good
    rw [Bool.and_eq_true, decide_eq_true_eq, ← I.bits p hp, hb, tog_swap]
    refine ⟨rfl, ?_⟩
    have : tog g (c (s.num + 2 ^ p)) (tog g s.done (Bh g c n (s.num + 2 ^ p))) = tog g s.done (tog g (c (s.num + 2 ^ p)) (Bh g c n (s.num + 2 ^ p))) := by unfold tog; split <;> omega
    rw [← he, I.eq]
  cases q : (List.range n).find? (good g c n s) with
  | none =>
    rw [List.find?_eq_none] at q
    exact absurd hg (q p (List.mem_range.mpr hp))
  | some z =>
    have hz := List.find?_some q
    have hzn := List.mem_range.mp (List.mem_of_find?_eq_some q)
    refine ⟨z, rfl, hzn, hz, ?_⟩
    unfold good at hz
    rw [Bool.and_eq_true, decide_eq_true_eq] at hz
    obtain ⟨z1, z2⟩ := hz
    have z0 : bit s.num z = false := by rw [I.bits z hzn]; simpa using z1
    refine ⟨by simp [next, I.len], ?_, ?_, ?_, lt_of_bit_add z0 I.num hzn, ?_⟩
    · unfold next
      rw [List.nodup_append]
      refine ⟨I.nd, by simp, fun a ha b hb => ?_⟩
      rw [List.mem_singleton.mp hb]
      intro e
      subst e
      simp at z1
      exact z1 ha
    · intro x hx
      rcases List.mem_append.mp hx with hx | hx
      · exact I.lt x hx
      · rw [List.mem_singleton.mp hx]; exact hzn
    · intro x hx
      show bit (s.num + 2 ^ z) x = (s.ord ++ [z]).contains x
      rw [bit_add z0, I.bits x hx, List.contains_eq_mem, List.contains_eq_mem]
      by_cases e : x = z
      · simp [e]
      · simp [e]
    · show tog g (tog g (c (s.num + 2 ^ z)) s.done) (Bh g c n (s.num + 2 ^ z)) = Bh g c n 0
      exact z2
theorem invF_run {g : Bool} {c : Nat → Int} {n : Nat} (h0 : ∀ x : Int, x = Bh g c n 0 → tog g 0 x = x) : ∀ i, i ≤ n → InvF g c n i (runF g c n i)
  | 0, _ => ⟨rfl, by simp [runF], fun p h => by simp [runF] at h, fun p _ => by simp [runF, bit], Nat.two_pow_pos n, h0 _ rfl⟩
  | i + 1, h => by
    obtain ⟨p, h1, _, _, h2⟩ := invF_step (invF_run h0 i (by omega)) (by omega)
    unfold runF stepF
    rw [h1]
    exact h2
theorem first_turn (g : Bool) {n : Nat} {ws : List Wire} (gd : Good n ws) (c : Nat → Int) {i : Nat} {s : St} (I : InvF g c n i s) (hi : i < n) :
    exs (EE m (k + 1)) m.sub fuel b_bestorders_first_1 [.fz (.str (gS g)), .fz (bD n ws), .fz (cutsD c (2 ^ n)), .fz (cutsD (Bh g c n) (2 ^ n)), .ol (s.ord.map natD), .fz (.int s.num), .fz (.int s.done), .un, .un, .un] =
      .nx [.fz (.str (gS g)), .fz (bD n ws), .fz (cutsD c (2 ^ n)), .fz (cutsD (Bh g c n) (2 ^ n)), .ol ((stepF g c n s).ord.map natD), .fz (.int (stepF g c n s).num), .fz (.int (stepF g c n s).done), .un, .un, .un] := by
  have h9 := gd.n9
  have ix0 : ixD (bD n ws) (.int 0) = .ok (.int n) := ix_0 _ _
  have b0 := cutsD_ix (Bh g c n) (2 ^ n) 0 (Nat.two_pow_pos n)
  rw [show ((0 : Nat) : Int) = 0 from rfl] at b0
  have hf := forR_until (f := forB (EE m (k + 1)) m.sub fuel (.n 7) b_bestorders_first_2) natD [.fz (.str (gS g)), .fz (bD n ws), .fz (cutsD c (2 ^ n)), .fz (cutsD (Bh g c n) (2 ^ n)), .ol (s.ord.map natD), .fz (.int s.num), .fz (.int s.done), .un, .un, .un] (good g c n s)
    (fun p => [.fz (.str (gS g)), .fz (bD n ws), .fz (cutsD c (2 ^ n)), .fz (cutsD (Bh g c n) (2 ^ n)), .ol ((next g c s p).ord.map natD), .fz (.int (next g c s p).num), .fz (.int (next g c s p).done), .un, .un, .un]) (List.range n) (fun p hp hq => by
      have hp := List.mem_range.mp hp
      have e1 : (s.num : Int) + ((2 ^ p : Nat) : Int) = ((s.num + 2 ^ p : Nat) : Int) := by omega
      by_cases q : s.ord.contains p = true
      · simp -implicitDefEqProofs (disch := first | omega | (simp only [List.length_map, List.length_cons, List.length_nil, List.length_append, List.length_range, List.length_replicate, List.length_tail, List.length_reverse]; omega)) only [getS_0, getS_s, setS_0, setS_s, sr_ok, nx_then, rt_then, ex_then, bk_then, ct_then, ex_sr, asBool_b, asInt_i, items_l, items_t, Res.ok_bind, Res.ex_bind, Res.bad_bind, Res.quiet_ok, op_add_i, op_sub_i, b1_int, b1_abs, b1_lenl, b1_lent, b1_tupl, b1_tupt, b1_listt, b1_listl, lt_i, gt_i, le_i, ge_i, strict_0, strict_s, peek_0, peek_0l, peek_0d, peek_s, bindT_n, bindT_t, bindT_l, bindT_w, bindTs_n, bindTs_c, wipeS_nil, wipeS_cons, e_k, e_v, e_p, e_tup, e_lst, e_nil, e_cons, e_op, e_cmp, e_ch, e_and, e_or, e_not, e_neg, e_ite, e_isN, e_notN, e_ix, e_slf, e_slt, e_slb, e_rev, e_call, e_b1, e_b2, e_isi, e_rng, e_dnil, e_comp, e_dcomp, e_enm', e_zip', e_rl, e_idx, e_join, x_nil, x_cons, x_set, x_setO, x_unp, x_xp, x_ret, x_raise, x_ite, x_forB, x_app, x_tr, x_brk, x_cnt, x_pass, x_fr, x_wipe, x_par, evP_nil, evP_f, evP_t, parR_nil, parR_f, parR_t, x_aug, x_augix, x_setix, setixS_nat, x_extS, x_pop, augD_add, augD_sub, x_while, compR_nil, compR_mapL, compR_some, quiet_ite, in_natL, in_natT, notin_natL, notin_natT, eq_ii, ne_ii, eq_ss, ne_ss, sum_map, all_map, any_map, b2_max, b2_min, ix_0, ix_1, ix_2, ixl_0, ansR_rt, ansR_nx, ansR_ex, toSl_l, toSl_d, sl_tailT, sl_tailL, size_ok, sz_filterL, compG_t, rng_nat, rng_ab, shl_one, shr_nat, band_one, op_mod_i, op_fdiv_i, zipD_map, zipD_tail, add_tup, add_lst, rev_tup, rev_lst, mul_repT, if_true, if_false, ite_true, ite_false, Bool.not_true, Bool.not_false, Bool.false_eq_true, decide_eq_true_eq, decide_true, decide_false, Bool.and_true, Bool.true_and, Bool.or_true, Bool.true_or, Bool.and_false, Bool.false_and, Bool.or_false, Bool.false_or, reduceCtorEq, List.map_cons, List.map_nil, List.length_map, List.length_cons, List.length_nil, List.nil_append, List.cons_append, List.length_range, List.length_append, sz_filterR, Nat.reduceAdd, Int.cast_ofNat_Int, Int.reduceEq, Int.reduceLT, Int.reduceLE, forB, b_bestorders_first_2, e1, q]
      · have q : s.ord.contains p = false := by simpa using q
        have hb : bit s.num p = false := by rw [I.bits p hp, q]
        have hlt := lt_of_bit_add hb I.num hp
        have e2 := cutsD_ix c (2 ^ n) (s.num + 2 ^ p) hlt
        have e3 := cutsD_ix (Bh g c n) (2 ^ n) (s.num + 2 ^ p) hlt
        have e4 : ¬ tog g (tog g (c (s.num + 2 ^ p)) s.done) (Bh g c n (s.num + 2 ^ p)) = Bh g c n 0 := by
          unfold good at hq
          rw [q] at hq
          simpa using hq
        simp -implicitDefEqProofs (disch := first | omega | (simp only [List.length_map, List.length_cons, List.length_nil, List.length_append, List.length_range, List.length_replicate, List.length_tail, List.length_reverse]; omega)) only [getS_0, getS_s, setS_0, setS_s, sr_ok, nx_then, rt_then, ex_then, bk_then, ct_then, ex_sr, asBool_b, asInt_i, items_l, items_t, Res.ok_bind, Res.ex_bind, Res.bad_bind, Res.quiet_ok, op_add_i, op_sub_i, b1_int, b1_abs, b1_lenl, b1_lent, b1_tupl, b1_tupt, b1_listt, b1_listl, lt_i, gt_i, le_i, ge_i, strict_0, strict_s, peek_0, peek_0l, peek_0d, peek_s, bindT_n, bindT_t, bindT_l, bindT_w, bindTs_n, bindTs_c, wipeS_nil, wipeS_cons, e_k, e_v, e_p, e_tup, e_lst, e_nil, e_cons, e_op, e_cmp, e_ch, e_and, e_or, e_not, e_neg, e_ite, e_isN, e_notN, e_ix, e_slf, e_slt, e_slb, e_rev, e_call, e_b1, e_b2, e_isi, e_rng, e_dnil, e_comp, e_dcomp, e_enm', e_zip', e_rl, e_idx, e_join, x_nil, x_cons, x_set, x_setO, x_unp, x_xp, x_ret, x_raise, x_ite, x_forB, x_app, x_tr, x_brk, x_cnt, x_pass, x_fr, x_wipe, x_par, evP_nil, evP_f, evP_t, parR_nil, parR_f, parR_t, x_aug, x_augix, x_setix, setixS_nat, x_extS, x_pop, augD_add, augD_sub, x_while, compR_nil, compR_mapL, compR_some, quiet_ite, in_natL, in_natT, notin_natL, notin_natT, eq_ii, ne_ii, eq_ss, ne_ss, sum_map, all_map, any_map, b2_max, b2_min, ix_0, ix_1, ix_2, ixl_0, ansR_rt, ansR_nx, ansR_ex, toSl_l, toSl_d, sl_tailT, sl_tailL, size_ok, sz_filterL, compG_t, rng_nat, rng_ab, shl_one, shr_nat, band_one, op_mod_i, op_fdiv_i, zipD_map, zipD_tail, add_tup, add_lst, rev_tup, rev_lst, mul_repT, if_true, if_false, ite_true, ite_false, Bool.not_true, Bool.not_false, Bool.false_eq_true, decide_eq_true_eq, decide_true, decide_false, Bool.and_true, Bool.true_and, Bool.or_true, Bool.true_or, Bool.and_false, Bool.false_and, Bool.or_false, Bool.false_or, reduceCtorEq, List.map_cons, List.map_nil, List.length_map, List.length_cons, List.length_nil, List.nil_append, List.cons_append, List.length_range, List.length_append, sz_filterR, Nat.reduceAdd, Int.cast_ofNat_Int, Int.reduceEq, Int.reduceLT, Int.reduceLE, forB, b_bestorders_first_2, e1, q, e2, e3, b0, together_ok, e4]) (fun p hp hq => by
      have hp := List.mem_range.mp hp
      have e1 : (s.num : Int) + ((2 ^ p : Nat) : Int) = ((s.num + 2 ^ p : Nat) : Int) := by omega
      unfold good at hq
      rw [Bool.and_eq_true, decide_eq_true_eq] at hq
      obtain ⟨q, e4⟩ := hq
      have q : s.ord.contains p = false := by simpa using q
      have hb : bit s.num p = false := by rw [I.bits p hp, q]
      have hlt := lt_of_bit_add hb I.num hp
      have e2 := cutsD_ix c (2 ^ n) (s.num + 2 ^ p) hlt
      have e3 := cutsD_ix (Bh g c n) (2 ^ n) (s.num + 2 ^ p) hlt
      have hl : s.ord.length ≤ 9 := by have := I.len; omega
      simp -implicitDefEqProofs (disch := first | omega | (simp only [List.length_map, List.length_cons, List.length_nil, List.length_append, List.length_range, List.length_replicate, List.length_tail, List.length_reverse]; omega)) only [getS_0, getS_s, setS_0, setS_s, sr_ok, nx_then, rt_then, ex_then, bk_then, ct_then, ex_sr, asBool_b, asInt_i, items_l, items_t, Res.ok_bind, Res.ex_bind, Res.bad_bind, Res.quiet_ok, op_add_i, op_sub_i, b1_int, b1_abs, b1_lenl, b1_lent, b1_tupl, b1_tupt, b1_listt, b1_listl, lt_i, gt_i, le_i, ge_i, strict_0, strict_s, peek_0, peek_0l, peek_0d, peek_s, bindT_n, bindT_t, bindT_l, bindT_w, bindTs_n, bindTs_c, wipeS_nil, wipeS_cons, e_k, e_v, e_p, e_tup, e_lst, e_nil, e_cons, e_op, e_cmp, e_ch, e_and, e_or, e_not, e_neg, e_ite, e_isN, e_notN, e_ix, e_slf, e_slt, e_slb, e_rev, e_call, e_b1, e_b2, e_isi, e_rng, e_dnil, e_comp, e_dcomp, e_enm', e_zip', e_rl, e_idx, e_join, x_nil, x_cons, x_set, x_setO, x_unp, x_xp, x_ret, x_raise, x_ite, x_forB, x_app, x_tr, x_brk, x_cnt, x_pass, x_fr, x_wipe, x_par, evP_nil, evP_f, evP_t, parR_nil, parR_f, parR_t, x_aug, x_augix, x_setix, setixS_nat, x_extS, x_pop, augD_add, augD_sub, x_while, compR_nil, compR_mapL, compR_some, quiet_ite, in_natL, in_natT, notin_natL, notin_natT, eq_ii, ne_ii, eq_ss, ne_ss, sum_map, all_map, any_map, b2_max, b2_min, ix_0, ix_1, ix_2, ixl_0, ansR_rt, ansR_nx, ansR_ex, toSl_l, toSl_d, sl_tailT, sl_tailL, size_ok, sz_filterL, compG_t, rng_nat, rng_ab, shl_one, shr_nat, band_one, op_mod_i, op_fdiv_i, zipD_map, zipD_tail, add_tup, add_lst, rev_tup, rev_lst, mul_repT, if_true, if_false, ite_true, ite_false, Bool.not_true, Bool.not_false, Bool.false_eq_true, decide_eq_true_eq, decide_true, decide_false, Bool.and_true, Bool.true_and, Bool.or_true, Bool.true_or, Bool.and_false, Bool.false_and, Bool.or_false, Bool.false_or, reduceCtorEq, List.map_cons, List.map_nil, List.length_map, List.length_cons, List.length_nil, List.nil_append, List.cons_append, List.length_range, List.length_append, sz_filterR, Nat.reduceAdd, Int.cast_ofNat_Int, Int.reduceEq, Int.reduceLT, Int.reduceLE, forB, b_bestorders_first_2, e1, q, e2, e3, b0, together_ok, e4]
      simp [next])
  obtain ⟨p, h1, _, _, _⟩ := invF_step I hi
  rw [h1] at hf
  simp -implicitDefEqProofs (disch := first | omega | (simp only [List.length_map, List.length_cons, List.length_nil, List.length_append, List.length_range, List.length_replicate, List.length_tail, List.length_reverse]; omega)) only [getS_0, getS_s, setS_0, setS_s, sr_ok, nx_then, rt_then, ex_then, bk_then, ct_then, ex_sr, asBool_b, asInt_i, items_l, items_t, Res.ok_bind, Res.ex_bind, Res.bad_bind, Res.quiet_ok, op_add_i, op_sub_i, b1_int, b1_abs, b1_lenl, b1_lent, b1_tupl, b1_tupt, b1_listt, b1_listl, lt_i, gt_i, le_i, ge_i, strict_0, strict_s, peek_0, peek_0l, peek_0d, peek_s, bindT_n, bindT_t, bindT_l, bindT_w, bindTs_n, bindTs_c, wipeS_nil, wipeS_cons, e_k, e_v, e_p, e_tup, e_lst, e_nil, e_cons, e_op, e_cmp, e_ch, e_and, e_or, e_not, e_neg, e_ite, e_isN, e_notN, e_ix, e_slf, e_slt, e_slb, e_rev, e_call, e_b1, e_b2, e_isi, e_rng, e_dnil, e_comp, e_dcomp, e_enm', e_zip', e_rl, e_idx, e_join, x_nil, x_cons, x_set, x_setO, x_unp, x_xp, x_ret, x_raise, x_ite, x_forB, x_app, x_tr, x_brk, x_cnt, x_pass, x_fr, x_wipe, x_par, evP_nil, evP_f, evP_t, parR_nil, parR_f, parR_t, x_aug, x_augix, x_setix, setixS_nat, x_extS, x_pop, augD_add, augD_sub, x_while, compR_nil, compR_mapL, compR_some, quiet_ite, in_natL, in_natT, notin_natL, notin_natT, eq_ii, ne_ii, eq_ss, ne_ss, sum_map, all_map, any_map, b2_max, b2_min, ix_0, ix_1, ix_2, ixl_0, ansR_rt, ansR_nx, ansR_ex, toSl_l, toSl_d, sl_tailT, sl_tailL, size_ok, sz_filterL, compG_t, rng_nat, rng_ab, shl_one, shr_nat, band_one, op_mod_i, op_fdiv_i, zipD_map, zipD_tail, add_tup, add_lst, rev_tup, rev_lst, mul_repT, if_true, if_false, ite_true, ite_false, Bool.not_true, Bool.not_false, Bool.false_eq_true, decide_eq_true_eq, decide_true, decide_false, Bool.and_true, Bool.true_and, Bool.or_true, Bool.true_or, Bool.and_false, Bool.false_and, Bool.or_false, Bool.false_or, reduceCtorEq, List.map_cons, List.map_nil, List.length_map, List.length_cons, List.length_nil, List.nil_append, List.cons_append, List.length_range, List.length_append, sz_filterR, Nat.reduceAdd, Int.cast_ofNat_Int, Int.reduceEq, Int.reduceLT, Int.reduceLE, b_bestorders_first_1, ix0, hf, stepF, h1]
theorem first_ok (g : Bool) {n : Nat} {ws : List Wire} (gd : Good n ws) (c : Nat → Int) (h0 : ∀ x : Int, x = Bh g c n 0 → tog g 0 x = x) : EE m (k + 3) i_bestorders_first [.str (gS g), bD n ws, cutsD c (2 ^ n)] = .ok (.tuple ((best g c n).map natD)) := by
  rw [r_bestorders_first]
  have ix0 : ixD (bD n ws) (.int 0) = .ok (.int n) := ix_0 _ _
  have h9 := gd.n9
  have hw := whileR_ix (c := whC (EE m (k + 2)) (.cmp .lt (.b1 .len (.p 4)) (.ix (.v 1) (.k (.int 0))))) (f := whB (EE m (k + 2)) m.sub fuel b_bestorders_first_1) n fuel
    (fun i => [.fz (.str (gS g)), .fz (bD n ws), .fz (cutsD c (2 ^ n)), .fz (cutsD (Bh g c n) (2 ^ n)), .ol ((runF g c n i).ord.map natD), .fz (.int (runF g c n i).num), .fz (.int (runF g c n i).done), .un, .un, .un]) (by unfold fuel; omega) (fun i hi => by
      have I := invF_run h0 i (by omega)
      have e : ((runF g c n i).ord.length : Int) < n := by rw [I.len]; omega
      exact ⟨by simp -implicitDefEqProofs (disch := first | omega | (simp only [List.length_map, List.length_cons, List.length_nil, List.length_append, List.length_range, List.length_replicate, List.length_tail, List.length_reverse]; omega)) only [getS_0, getS_s, setS_0, setS_s, sr_ok, nx_then, rt_then, ex_then, bk_then, ct_then, ex_sr, asBool_b, asInt_i, items_l, items_t, Res.ok_bind, Res.ex_bind, Res.bad_bind, Res.quiet_ok, op_add_i, op_sub_i, b1_int, b1_abs, b1_lenl, b1_lent, b1_tupl, b1_tupt, b1_listt, b1_listl, lt_i, gt_i, le_i, ge_i, strict_0, strict_s, peek_0, peek_0l, peek_0d, peek_s, bindT_n, bindT_t, bindT_l, bindT_w, bindTs_n, bindTs_c, wipeS_nil, wipeS_cons, e_k, e_v, e_p, e_tup, e_lst, e_nil, e_cons, e_op, e_cmp, e_ch, e_and, e_or, e_not, e_neg, e_ite, e_isN, e_notN, e_ix, e_slf, e_slt, e_slb, e_rev, e_call, e_b1, e_b2, e_isi, e_rng, e_dnil, e_comp, e_dcomp, e_enm', e_zip', e_rl, e_idx, e_join, x_nil, x_cons, x_set, x_setO, x_unp, x_xp, x_ret, x_raise, x_ite, x_forB, x_app, x_tr, x_brk, x_cnt, x_pass, x_fr, x_wipe, x_par, evP_nil, evP_f, evP_t, parR_nil, parR_f, parR_t, x_aug, x_augix, x_setix, setixS_nat, x_extS, x_pop, augD_add, augD_sub, x_while, compR_nil, compR_mapL, compR_some, quiet_ite, in_natL, in_natT, notin_natL, notin_natT, eq_ii, ne_ii, eq_ss, ne_ss, sum_map, all_map, any_map, b2_max, b2_min, ix_0, ix_1, ix_2, ixl_0, ansR_rt, ansR_nx, ansR_ex, toSl_l, toSl_d, sl_tailT, sl_tailL, size_ok, sz_filterL, compG_t, rng_nat, rng_ab, shl_one, shr_nat, band_one, op_mod_i, op_fdiv_i, zipD_map, zipD_tail, add_tup, add_lst, rev_tup, rev_lst, mul_repT, if_true, if_false, ite_true, ite_false, Bool.not_true, Bool.not_false, Bool.false_eq_true, decide_eq_true_eq, decide_true, decide_false, Bool.and_true, Bool.true_and, Bool.or_true, Bool.true_or, Bool.and_false, Bool.false_and, Bool.or_false, Bool.false_or, reduceCtorEq, List.map_cons, List.map_nil, List.length_map, List.length_cons, List.length_nil, List.nil_append, List.cons_append, List.length_range, List.length_append, sz_filterR, Nat.reduceAdd, Int.cast_ofNat_Int, Int.reduceEq, Int.reduceLT, Int.reduceLE, whC, ix0, e], first_turn g gd c I hi⟩) (by
      have I := invF_run h0 n (Nat.le_refl n)
      have e : ¬ ((runF g c n n).ord.length : Int) < n := by rw [I.len]; omega
      simp -implicitDefEqProofs (disch := first | omega | (simp only [List.length_map, List.length_cons, List.length_nil, List.length_append, List.length_range, List.length_replicate, List.length_tail, List.length_reverse]; omega)) only [getS_0, getS_s, setS_0, setS_s, sr_ok, nx_then, rt_then, ex_then, bk_then, ct_then, ex_sr, asBool_b, asInt_i, items_l, items_t, Res.ok_bind, Res.ex_bind, Res.bad_bind, Res.quiet_ok, op_add_i, op_sub_i, b1_int, b1_abs, b1_lenl, b1_lent, b1_tupl, b1_tupt, b1_listt, b1_listl, lt_i, gt_i, le_i, ge_i, strict_0, strict_s, peek_0, peek_0l, peek_0d, peek_s, bindT_n, bindT_t, bindT_l, bindT_w, bindTs_n, bindTs_c, wipeS_nil, wipeS_cons, e_k, e_v, e_p, e_tup, e_lst, e_nil, e_cons, e_op, e_cmp, e_ch, e_and, e_or, e_not, e_neg, e_ite, e_isN, e_notN, e_ix, e_slf, e_slt, e_slb, e_rev, e_call, e_b1, e_b2, e_isi, e_rng, e_dnil, e_comp, e_dcomp, e_enm', e_zip', e_rl, e_idx, e_join, x_nil, x_cons, x_set, x_setO, x_unp, x_xp, x_ret, x_raise, x_ite, x_forB, x_app, x_tr, x_brk, x_cnt, x_pass, x_fr, x_wipe, x_par, evP_nil, evP_f, evP_t, parR_nil, parR_f, parR_t, x_aug, x_augix, x_setix, setixS_nat, x_extS, x_pop, augD_add, augD_sub, x_while, compR_nil, compR_mapL, compR_some, quiet_ite, in_natL, in_natT, notin_natL, notin_natT, eq_ii, ne_ii, eq_ss, ne_ss, sum_map, all_map, any_map, b2_max, b2_min, ix_0, ix_1, ix_2, ixl_0, ansR_rt, ansR_nx, ansR_ex, toSl_l, toSl_d, sl_tailT, sl_tailL, size_ok, sz_filterL, compG_t, rng_nat, rng_ab, shl_one, shr_nat, band_one, op_mod_i, op_fdiv_i, zipD_map, zipD_tail, add_tup, add_lst, rev_tup, rev_lst, mul_repT, if_true, if_false, ite_true, ite_false, Bool.not_true, Bool.not_false, Bool.false_eq_true, decide_eq_true_eq, decide_true, decide_false, Bool.and_true, Bool.true_and, Bool.or_true, Bool.true_or, Bool.and_false, Bool.false_and, Bool.or_false, Bool.false_or, reduceCtorEq, List.map_cons, List.map_nil, List.length_map, List.length_cons, List.length_nil, List.nil_append, List.cons_append, List.length_range, List.length_append, sz_filterR, Nat.reduceAdd, Int.cast_ofNat_Int, Int.reduceEq, Int.reduceLT, Int.reduceLE, whC, ix0, e])
  have e0 : (runF g c n 0) = ⟨[], 0, 0⟩ := rfl
  simp only [e0, List.map_nil] at hw
  have hb := behind_ok (m := m) (k := k) g gd c
  rw [show ((0 : Nat) : Int) = 0 from rfl] at hw
  simp -implicitDefEqProofs (disch := first | omega | (simp only [List.length_map, List.length_cons, List.length_nil, List.length_append, List.length_range, List.length_replicate, List.length_tail, List.length_reverse]; omega)) only [getS_0, getS_s, setS_0, setS_s, sr_ok, nx_then, rt_then, ex_then, bk_then, ct_then, ex_sr, asBool_b, asInt_i, items_l, items_t, Res.ok_bind, Res.ex_bind, Res.bad_bind, Res.quiet_ok, op_add_i, op_sub_i, b1_int, b1_abs, b1_lenl, b1_lent, b1_tupl, b1_tupt, b1_listt, b1_listl, lt_i, gt_i, le_i, ge_i, strict_0, strict_s, peek_0, peek_0l, peek_0d, peek_s, bindT_n, bindT_t, bindT_l, bindT_w, bindTs_n, bindTs_c, wipeS_nil, wipeS_cons, e_k, e_v, e_p, e_tup, e_lst, e_nil, e_cons, e_op, e_cmp, e_ch, e_and, e_or, e_not, e_neg, e_ite, e_isN, e_notN, e_ix, e_slf, e_slt, e_slb, e_rev, e_call, e_b1, e_b2, e_isi, e_rng, e_dnil, e_comp, e_dcomp, e_enm', e_zip', e_rl, e_idx, e_join, x_nil, x_cons, x_set, x_setO, x_unp, x_xp, x_ret, x_raise, x_ite, x_forB, x_app, x_tr, x_brk, x_cnt, x_pass, x_fr, x_wipe, x_par, evP_nil, evP_f, evP_t, parR_nil, parR_f, parR_t, x_aug, x_augix, x_setix, setixS_nat, x_extS, x_pop, augD_add, augD_sub, x_while, compR_nil, compR_mapL, compR_some, quiet_ite, in_natL, in_natT, notin_natL, notin_natT, eq_ii, ne_ii, eq_ss, ne_ss, sum_map, all_map, any_map, b2_max, b2_min, ix_0, ix_1, ix_2, ixl_0, ansR_rt, ansR_nx, ansR_ex, toSl_l, toSl_d, sl_tailT, sl_tailL, size_ok, sz_filterL, compG_t, rng_nat, rng_ab, shl_one, shr_nat, band_one, op_mod_i, op_fdiv_i, zipD_map, zipD_tail, add_tup, add_lst, rev_tup, rev_lst, mul_repT, if_true, if_false, ite_true, ite_false, Bool.not_true, Bool.not_false, Bool.false_eq_true, decide_eq_true_eq, decide_true, decide_false, Bool.and_true, Bool.true_and, Bool.or_true, Bool.true_or, Bool.and_false, Bool.false_and, Bool.or_false, Bool.false_or, reduceCtorEq, List.map_cons, List.map_nil, List.length_map, List.length_cons, List.length_nil, List.nil_append, List.cons_append, List.length_range, List.length_append, sz_filterR, Nat.reduceAdd, Int.cast_ofNat_Int, Int.reduceEq, Int.reduceLT, Int.reduceLE, b_bestorders_first, hb, hw]
  rfl
end Ord

namespace Ord
open PySem PySem.W L2 BW
variable {m : Md} {k : Nat}
theorem check_ok (g : Bool) {n : Nat} {ws : List Wire} (gd : Good n ws) : EE m (k + 6) i_bestorders_check [.str (gS g), bD n ws] = .ok .none := by
  rw [r_bestorders_check]
  have e : cmpB .notin (.str (gS g)) (.tuple [.str "length", .str "cut"]) = .ok false := by cases g <;> rfl
  simp -implicitDefEqProofs (disch := first | omega | (simp only [List.length_map, List.length_cons, List.length_nil, List.length_append, List.length_range, List.length_replicate, List.length_tail, List.length_reverse]; omega)) only [getS_0, getS_s, setS_0, setS_s, sr_ok, nx_then, rt_then, ex_then, bk_then, ct_then, ex_sr, asBool_b, asInt_i, items_l, items_t, Res.ok_bind, Res.ex_bind, Res.bad_bind, Res.quiet_ok, op_add_i, op_sub_i, b1_int, b1_abs, b1_lenl, b1_lent, b1_tupl, b1_tupt, b1_listt, b1_listl, lt_i, gt_i, le_i, ge_i, strict_0, strict_s, peek_0, peek_0l, peek_0d, peek_s, bindT_n, bindT_t, bindT_l, bindT_w, bindTs_n, bindTs_c, wipeS_nil, wipeS_cons, e_k, e_v, e_p, e_tup, e_lst, e_nil, e_cons, e_op, e_cmp, e_ch, e_and, e_or, e_not, e_neg, e_ite, e_isN, e_notN, e_ix, e_slf, e_slt, e_slb, e_rev, e_call, e_b1, e_b2, e_isi, e_rng, e_dnil, e_comp, e_dcomp, e_enm', e_zip', e_rl, e_idx, e_join, x_nil, x_cons, x_set, x_setO, x_unp, x_xp, x_ret, x_raise, x_ite, x_forB, x_app, x_tr, x_brk, x_cnt, x_pass, x_fr, x_wipe, x_par, evP_nil, evP_f, evP_t, parR_nil, parR_f, parR_t, x_aug, x_augix, x_setix, setixS_nat, x_extS, x_pop, augD_add, augD_sub, x_while, compR_nil, compR_mapL, compR_some, quiet_ite, in_natL, in_natT, notin_natL, notin_natT, eq_ii, ne_ii, eq_ss, ne_ss, sum_map, all_map, any_map, b2_max, b2_min, ix_0, ix_1, ix_2, ixl_0, ansR_rt, ansR_nx, ansR_ex, toSl_l, toSl_d, sl_tailT, sl_tailL, size_ok, sz_filterL, compG_t, rng_nat, rng_ab, shl_one, shr_nat, band_one, op_mod_i, op_fdiv_i, zipD_map, zipD_tail, add_tup, add_lst, rev_tup, rev_lst, mul_repT, if_true, if_false, ite_true, ite_false, Bool.not_true, Bool.not_false, Bool.false_eq_true, decide_eq_true_eq, decide_true, decide_false, Bool.and_true, Bool.true_and, Bool.or_true, Bool.true_or, Bool.and_false, Bool.false_and, Bool.or_false, Bool.false_or, reduceCtorEq, List.map_cons, List.map_nil, List.length_map, List.length_cons, List.length_nil, List.nil_append, List.cons_append, List.length_range, List.length_append, sz_filterR, Nat.reduceAdd, Int.cast_ofNat_Int, Int.reduceEq, Int.reduceLT, Int.reduceLE, b_bestorders_check, okD, tyD, List.any_cons, List.any_nil, e, check_bundles_ok gd]
theorem ixL_last {xs : List BW.D} (h : 0 < xs.length) : ixD (.list xs) (.int (-1)) = .ok xs[xs.length - 1] := by
  show (match atI xs (-1) with | some d => Res.ok d | none => .bad) = _
  have : atI xs (-1) = some xs[xs.length - 1] := by
    unfold atI ixN
    rw [if_neg (by decide), if_pos (by omega), show ((-1 : Int) + (xs.length : Int)).toNat = xs.length - 1 by omega]
    exact List.getElem?_eq_getElem _
  rw [this]
theorem ixT_last {xs : List BW.D} (h : 0 < xs.length) : ixD (.tuple xs) (.int (-1)) = .ok xs[xs.length - 1] := ixL_last h
theorem cutsD_last (c : Nat → Int) (N : Nat) (h : 0 < N) : ixD (cutsD c N) (.int (-1)) = .ok (.int (c (N - 1))) := by
  unfold cutsD
  rw [ixL_last (by simpa using h)]
  simp
theorem cutW_nn {n : Nat} {w : Wire} (gw : GoodW n w) (s : List Nat) : 0 ≤ cutW s w := by
  unfold cutW
  have := gw.w1
  split <;> omega
theorem cutAt_nn {n : Nat} {ws : List Wire} (g : Good n ws) (s : List Nat) : 0 ≤ cutAt ws s := by
  unfold cutAt
  have : ∀ (L : List Wire) (a : Int), 0 ≤ a → (∀ w ∈ L, 0 ≤ cutW s w) → 0 ≤ L.foldl (fun a w => a + cutW s w) a := fun L => by
    induction L with
    | nil => intro a h _; exact h
    | cons w L ih =>
      intro a h hw
      rw [List.foldl_cons]
      have := hw w (by simp)
      exact ih _ (by omega) fun x hx => hw x (by simp [hx])
  exact this ws 0 (by omega) fun w hw => cutW_nn (g.ok w hw) s
abbrev cc (ws : List Wire) (n : Nat) : Nat → Int := fun b => cutAt ws (mem b n)
theorem tog0 {g : Bool} {c : Nat → Int} {n : Nat} (hc : ∀ b, 0 ≤ c b) : ∀ x : Int, x = Bh g c n 0 → tog g 0 x = x := fun x hx => by
  cases g with
  | true => simp [tog]
  | false =>
    have : 0 ≤ x := by
      by_cases h : 2 ^ n ≤ 0 + 1
      · rw [hx, Bh_full h]; omega
      · obtain ⟨p, _, _, e⟩ := Bh_pick (g := false) (cut := c) (b := 0) (n := n) (by omega)
        rw [hx, e]
        have := hc (0 + 2 ^ p)
        simp only [tog, Bool.false_eq_true, if_false]
        omega
    simp [tog]
    omega
def marksD (f : Nat → Int) (N : Nat) : BW.D := .tuple ((List.range N).map fun b => .int (f b))
theorem best_order_ok (g : Bool) {n : Nat} {ws : List Wire} (gd : Good n ws) : EE m (k + 7) i_best_order [.str (gS g), bD n ws] = .ok (.tuple [.int (M g (cc ws n) n (2 ^ n - 1)), .tuple ((best g (cc ws n) n).map natD), marksD (M g (cc ws n) n) (2 ^ n)]) := by
  rw [r_best_order]
  have h1 := check_ok (m := m) (k := k) g gd
  have h2 : EE m (k + 6) i_cuts [bD n ws] = .ok (cutsD (cc ws n) (2 ^ n)) := cuts_ok gd
  have h3 := marks_ok (m := m) (k := k + 4) g gd (cc ws n)
  have h4 := first_ok (m := m) (k := k + 3) g gd (cc ws n) (tog0 fun b => cutAt_nn gd _)
  have h5 := cutsD_last (M g (cc ws n) n) (2 ^ n) (Nat.two_pow_pos n)
  have h6 : b1D .tuple (cutsD (M g (cc ws n) n) (2 ^ n)) = .ok (marksD (M g (cc ws n) n) (2 ^ n)) := rfl
  simp -implicitDefEqProofs (disch := first | omega | (simp only [List.length_map, List.length_cons, List.length_nil, List.length_append, List.length_range, List.length_replicate, List.length_tail, List.length_reverse]; omega)) only [getS_0, getS_s, setS_0, setS_s, sr_ok, nx_then, rt_then, ex_then, bk_then, ct_then, ex_sr, asBool_b, asInt_i, items_l, items_t, Res.ok_bind, Res.ex_bind, Res.bad_bind, Res.quiet_ok, op_add_i, op_sub_i, b1_int, b1_abs, b1_lenl, b1_lent, b1_tupl, b1_tupt, b1_listt, b1_listl, lt_i, gt_i, le_i, ge_i, strict_0, strict_s, peek_0, peek_0l, peek_0d, peek_s, bindT_n, bindT_t, bindT_l, bindT_w, bindTs_n, bindTs_c, wipeS_nil, wipeS_cons, e_k, e_v, e_p, e_tup, e_lst, e_nil, e_cons, e_op, e_cmp, e_ch, e_and, e_or, e_not, e_neg, e_ite, e_isN, e_notN, e_ix, e_slf, e_slt, e_slb, e_rev, e_call, e_b1, e_b2, e_isi, e_rng, e_dnil, e_comp, e_dcomp, e_enm', e_zip', e_rl, e_idx, e_join, x_nil, x_cons, x_set, x_setO, x_unp, x_xp, x_ret, x_raise, x_ite, x_forB, x_app, x_tr, x_brk, x_cnt, x_pass, x_fr, x_wipe, x_par, evP_nil, evP_f, evP_t, parR_nil, parR_f, parR_t, x_aug, x_augix, x_setix, setixS_nat, x_extS, x_pop, augD_add, augD_sub, x_while, compR_nil, compR_mapL, compR_some, quiet_ite, in_natL, in_natT, notin_natL, notin_natT, eq_ii, ne_ii, eq_ss, ne_ss, sum_map, all_map, any_map, b2_max, b2_min, ix_0, ix_1, ix_2, ixl_0, ansR_rt, ansR_nx, ansR_ex, toSl_l, toSl_d, sl_tailT, sl_tailL, size_ok, sz_filterL, compG_t, rng_nat, rng_ab, shl_one, shr_nat, band_one, op_mod_i, op_fdiv_i, zipD_map, zipD_tail, add_tup, add_lst, rev_tup, rev_lst, mul_repT, if_true, if_false, ite_true, ite_false, Bool.not_true, Bool.not_false, Bool.false_eq_true, decide_eq_true_eq, decide_true, decide_false, Bool.and_true, Bool.true_and, Bool.or_true, Bool.true_or, Bool.and_false, Bool.false_and, Bool.or_false, Bool.false_or, reduceCtorEq, List.map_cons, List.map_nil, List.length_map, List.length_cons, List.length_nil, List.nil_append, List.cons_append, List.length_range, List.length_append, sz_filterR, Nat.reduceAdd, Int.cast_ofNat_Int, Int.reduceEq, Int.reduceLT, Int.reduceLE, b_best_order, h1, h2, h3, h4, h5, h6]
/-! ### what is at fault with marks -/
section
variable (g : Bool) (c : Nat → Int) (n : Nat) (L : List Int)
def faultP (b p : Nat) : Option BW.D := if L.getD b 0 > tog g (c b) (L.getD (b - 2 ^ p) 0) then some (.tuple [.str "set", natD b, natD p]) else none
def faultB (b : Nat) : Option BW.D := (mem b n).findSome? (faultP g c L b)
def faultL : BW.D := if 0 < L.getD 0 0 then .tuple [.str "start"] else match (List.range' 1 (2 ^ n - 1)).findSome? (faultB g c n L) with | some d => d | none => .none
end
def isI : BW.D → Bool
  | .int _ => true
  | _ => false
def toI : BW.D → Int
  | .int i => i
  | _ => 0
def formD : BW.D := .tuple [.str "form"]
def faultV (g : Bool) (c : Nat → Int) (n : Nat) : BW.D → BW.D
  | .tuple ds => if ds.length = 2 ^ n ∧ ds.all isI = true then faultL g c n (ds.map toI) else formD
  | _ => formD
theorem faultV_tup (g : Bool) (c : Nat → Int) (n : Nat) (ds : List BW.D) : faultV g c n (.tuple ds) = if ds.length = 2 ^ n ∧ ds.all isI = true then faultL g c n (ds.map toI) else formD := rfl
theorem ints_of : ∀ {ds : List BW.D}, ds.all isI = true → (ds.map toI).map .int = ds
  | [], _ => rfl
  | d :: ds, h => by
    simp only [List.all_cons, Bool.and_eq_true] at h
    rw [List.map_cons, List.map_cons, ints_of h.2]
    cases d <;> first | rfl | exact absurd h.1 Bool.false_ne_true
theorem ixI (L : List Int) (b : Nat) (h : b < L.length) : ixD (.tuple (L.map .int)) (.int (b : Int)) = .ok (.int (L.getD b 0)) := by
  rw [ixT_nat PyData.int L b h]
  simp [h]
/-- isinstance(one, int) and not isinstance(one, bool) -/
theorem isI_ok {fe : FE} {σ : BW.Env} {i : Nat} {d : BW.D} (h : strict σ i = .ok d) (ok : okD d = true) : ev fe (.and (.isi (.v i) [.int]) (.not (.isi (.v i) [.bool]))) σ = .ok (.bool (isI d)) := by
  cases d <;> simp [h, ok, tyD, isI] <;> simp_all [okD]
theorem fault_turn (g : Bool) {n : Nat} {ws : List Wire} (gd : Good n ws) (c : Nat → Int) (L : List Int) (hL : L.length = 2 ^ n) (b : Nat) (hb : b < 2 ^ n) :
    forB (EE m (k + 1)) m.sub fuel (.n 4) b_marks_fault_1 (natD b) [.fz (.str (gS g)), .fz (bD n ws), .fz (.tuple (L.map .int)), .fz (cutsD c (2 ^ n)), .un, .un, .un] = match faultB g c n L b with
      | some d => .rt d
      | none => .nx [.fz (.str (gS g)), .fz (bD n ws), .fz (.tuple (L.map .int)), .fz (cutsD c (2 ^ n)), .un, .un, .un] := by
  have h9 := gd.n9
  have ix0 : ixD (bD n ws) (.int 0) = .ok (.int n) := ix_0 _ _
  have e1 := ixI L b (by omega)
  have e2 := cutsD_ix c (2 ^ n) b hb
  have hf := forR_find (f := forB (EE m (k + 1)) m.sub fuel (.n 5) b_marks_fault_2) natD [.fz (.str (gS g)), .fz (bD n ws), .fz (.tuple (L.map .int)), .fz (cutsD c (2 ^ n)), .fz (natD b), .un, .un] (faultP g c L b) (mem b n) fun p hp => by
    obtain ⟨hp1, hp2⟩ := mem_iff.mp hp
    have hl := pow_le_of_bit hp2
    have hpos := Nat.two_pow_pos p
    have e : (b : Int) - ((2 ^ p : Nat) : Int) = ((b - 2 ^ p : Nat) : Int) := by omega
    have e3 := ixI L (b - 2 ^ p) (by omega)
    unfold faultP
    by_cases q : tog g (c b) (L.getD (b - 2 ^ p) 0) < L.getD b 0
    · simp -implicitDefEqProofs (disch := first | omega | (simp only [List.length_map, List.length_cons, List.length_nil, List.length_append, List.length_range, List.length_replicate, List.length_tail, List.length_reverse]; omega)) only [getS_0, getS_s, setS_0, setS_s, sr_ok, nx_then, rt_then, ex_then, bk_then, ct_then, ex_sr, asBool_b, asInt_i, items_l, items_t, Res.ok_bind, Res.ex_bind, Res.bad_bind, Res.quiet_ok, op_add_i, op_sub_i, b1_int, b1_abs, b1_lenl, b1_lent, b1_tupl, b1_tupt, b1_listt, b1_listl, lt_i, gt_i, le_i, ge_i, strict_0, strict_s, peek_0, peek_0l, peek_0d, peek_s, bindT_n, bindT_t, bindT_l, bindT_w, bindTs_n, bindTs_c, wipeS_nil, wipeS_cons, e_k, e_v, e_p, e_tup, e_lst, e_nil, e_cons, e_op, e_cmp, e_ch, e_and, e_or, e_not, e_neg, e_ite, e_isN, e_notN, e_ix, e_slf, e_slt, e_slb, e_rev, e_call, e_b1, e_b2, e_isi, e_rng, e_dnil, e_comp, e_dcomp, e_enm', e_zip', e_rl, e_idx, e_join, x_nil, x_cons, x_set, x_setO, x_unp, x_xp, x_ret, x_raise, x_ite, x_forB, x_app, x_tr, x_brk, x_cnt, x_pass, x_fr, x_wipe, x_par, evP_nil, evP_f, evP_t, parR_nil, parR_f, parR_t, x_aug, x_augix, x_setix, setixS_nat, x_extS, x_pop, augD_add, augD_sub, x_while, compR_nil, compR_mapL, compR_some, quiet_ite, in_natL, in_natT, notin_natL, notin_natT, eq_ii, ne_ii, eq_ss, ne_ss, sum_map, all_map, any_map, b2_max, b2_min, ix_0, ix_1, ix_2, ixl_0, ansR_rt, ansR_nx, ansR_ex, toSl_l, toSl_d, sl_tailT, sl_tailL, size_ok, sz_filterL, compG_t, rng_nat, rng_ab, shl_one, shr_nat, band_one, op_mod_i, op_fdiv_i, zipD_map, zipD_tail, add_tup, add_lst, rev_tup, rev_lst, mul_repT, if_true, if_false, ite_true, ite_false, Bool.not_true, Bool.not_false, Bool.false_eq_true, decide_eq_true_eq, decide_true, decide_false, Bool.and_true, Bool.true_and, Bool.or_true, Bool.true_or, Bool.and_false, Bool.false_and, Bool.or_false, Bool.false_or, reduceCtorEq, List.map_cons, List.map_nil, List.length_map, List.length_cons, List.length_nil, List.nil_append, List.cons_append, List.length_range, List.length_append, sz_filterR, Nat.reduceAdd, Int.cast_ofNat_Int, Int.reduceEq, Int.reduceLT, Int.reduceLE, forB, b_marks_fault_2, e, e1, e2, e3, together_ok, q, gt_iff_lt]
    · simp -implicitDefEqProofs (disch := first | omega | (simp only [List.length_map, List.length_cons, List.length_nil, List.length_append, List.length_range, List.length_replicate, List.length_tail, List.length_reverse]; omega)) only [getS_0, getS_s, setS_0, setS_s, sr_ok, nx_then, rt_then, ex_then, bk_then, ct_then, ex_sr, asBool_b, asInt_i, items_l, items_t, Res.ok_bind, Res.ex_bind, Res.bad_bind, Res.quiet_ok, op_add_i, op_sub_i, b1_int, b1_abs, b1_lenl, b1_lent, b1_tupl, b1_tupt, b1_listt, b1_listl, lt_i, gt_i, le_i, ge_i, strict_0, strict_s, peek_0, peek_0l, peek_0d, peek_s, bindT_n, bindT_t, bindT_l, bindT_w, bindTs_n, bindTs_c, wipeS_nil, wipeS_cons, e_k, e_v, e_p, e_tup, e_lst, e_nil, e_cons, e_op, e_cmp, e_ch, e_and, e_or, e_not, e_neg, e_ite, e_isN, e_notN, e_ix, e_slf, e_slt, e_slb, e_rev, e_call, e_b1, e_b2, e_isi, e_rng, e_dnil, e_comp, e_dcomp, e_enm', e_zip', e_rl, e_idx, e_join, x_nil, x_cons, x_set, x_setO, x_unp, x_xp, x_ret, x_raise, x_ite, x_forB, x_app, x_tr, x_brk, x_cnt, x_pass, x_fr, x_wipe, x_par, evP_nil, evP_f, evP_t, parR_nil, parR_f, parR_t, x_aug, x_augix, x_setix, setixS_nat, x_extS, x_pop, augD_add, augD_sub, x_while, compR_nil, compR_mapL, compR_some, quiet_ite, in_natL, in_natT, notin_natL, notin_natT, eq_ii, ne_ii, eq_ss, ne_ss, sum_map, all_map, any_map, b2_max, b2_min, ix_0, ix_1, ix_2, ixl_0, ansR_rt, ansR_nx, ansR_ex, toSl_l, toSl_d, sl_tailT, sl_tailL, size_ok, sz_filterL, compG_t, rng_nat, rng_ab, shl_one, shr_nat, band_one, op_mod_i, op_fdiv_i, zipD_map, zipD_tail, add_tup, add_lst, rev_tup, rev_lst, mul_repT, if_true, if_false, ite_true, ite_false, Bool.not_true, Bool.not_false, Bool.false_eq_true, decide_eq_true_eq, decide_true, decide_false, Bool.and_true, Bool.true_and, Bool.or_true, Bool.true_or, Bool.and_false, Bool.false_and, Bool.or_false, Bool.false_or, reduceCtorEq, List.map_cons, List.map_nil, List.length_map, List.length_cons, List.length_nil, List.nil_append, List.cons_append, List.length_range, List.length_append, sz_filterR, Nat.reduceAdd, Int.cast_ofNat_Int, Int.reduceEq, Int.reduceLT, Int.reduceLE, forB, b_marks_fault_2, e, e1, e2, e3, together_ok, q, gt_iff_lt]
  have hm := members_ok (m := m) (k := k) b n h9
  unfold faultB
  simp -implicitDefEqProofs (disch := first | omega | (simp only [List.length_map, List.length_cons, List.length_nil, List.length_append, List.length_range, List.length_replicate, List.length_tail, List.length_reverse]; omega)) only [getS_0, getS_s, setS_0, setS_s, sr_ok, nx_then, rt_then, ex_then, bk_then, ct_then, ex_sr, asBool_b, asInt_i, items_l, items_t, Res.ok_bind, Res.ex_bind, Res.bad_bind, Res.quiet_ok, op_add_i, op_sub_i, b1_int, b1_abs, b1_lenl, b1_lent, b1_tupl, b1_tupt, b1_listt, b1_listl, lt_i, gt_i, le_i, ge_i, strict_0, strict_s, peek_0, peek_0l, peek_0d, peek_s, bindT_n, bindT_t, bindT_l, bindT_w, bindTs_n, bindTs_c, wipeS_nil, wipeS_cons, e_k, e_v, e_p, e_tup, e_lst, e_nil, e_cons, e_op, e_cmp, e_ch, e_and, e_or, e_not, e_neg, e_ite, e_isN, e_notN, e_ix, e_slf, e_slt, e_slb, e_rev, e_call, e_b1, e_b2, e_isi, e_rng, e_dnil, e_comp, e_dcomp, e_enm', e_zip', e_rl, e_idx, e_join, x_nil, x_cons, x_set, x_setO, x_unp, x_xp, x_ret, x_raise, x_ite, x_forB, x_app, x_tr, x_brk, x_cnt, x_pass, x_fr, x_wipe, x_par, evP_nil, evP_f, evP_t, parR_nil, parR_f, parR_t, x_aug, x_augix, x_setix, setixS_nat, x_extS, x_pop, augD_add, augD_sub, x_while, compR_nil, compR_mapL, compR_some, quiet_ite, in_natL, in_natT, notin_natL, notin_natT, eq_ii, ne_ii, eq_ss, ne_ss, sum_map, all_map, any_map, b2_max, b2_min, ix_0, ix_1, ix_2, ixl_0, ansR_rt, ansR_nx, ansR_ex, toSl_l, toSl_d, sl_tailT, sl_tailL, size_ok, sz_filterL, compG_t, rng_nat, rng_ab, shl_one, shr_nat, band_one, op_mod_i, op_fdiv_i, zipD_map, zipD_tail, add_tup, add_lst, rev_tup, rev_lst, mul_repT, if_true, if_false, ite_true, ite_false, Bool.not_true, Bool.not_false, Bool.false_eq_true, decide_eq_true_eq, decide_true, decide_false, Bool.and_true, Bool.true_and, Bool.or_true, Bool.true_or, Bool.and_false, Bool.false_and, Bool.or_false, Bool.false_or, reduceCtorEq, List.map_cons, List.map_nil, List.length_map, List.length_cons, List.length_nil, List.nil_append, List.cons_append, List.length_range, List.length_append, sz_filterR, Nat.reduceAdd, Int.cast_ofNat_Int, Int.reduceEq, Int.reduceLT, Int.reduceLE, forB, b_marks_fault_1, ix0, hm, hf]
  cases (mem b n).findSome? (faultP g c L b) <;> simp -implicitDefEqProofs (disch := first | omega | (simp only [List.length_map, List.length_cons, List.length_nil, List.length_append, List.length_range, List.length_replicate, List.length_tail, List.length_reverse]; omega)) only [getS_0, getS_s, setS_0, setS_s, sr_ok, nx_then, rt_then, ex_then, bk_then, ct_then, ex_sr, asBool_b, asInt_i, items_l, items_t, Res.ok_bind, Res.ex_bind, Res.bad_bind, Res.quiet_ok, op_add_i, op_sub_i, b1_int, b1_abs, b1_lenl, b1_lent, b1_tupl, b1_tupt, b1_listt, b1_listl, lt_i, gt_i, le_i, ge_i, strict_0, strict_s, peek_0, peek_0l, peek_0d, peek_s, bindT_n, bindT_t, bindT_l, bindT_w, bindTs_n, bindTs_c, wipeS_nil, wipeS_cons, e_k, e_v, e_p, e_tup, e_lst, e_nil, e_cons, e_op, e_cmp, e_ch, e_and, e_or, e_not, e_neg, e_ite, e_isN, e_notN, e_ix, e_slf, e_slt, e_slb, e_rev, e_call, e_b1, e_b2, e_isi, e_rng, e_dnil, e_comp, e_dcomp, e_enm', e_zip', e_rl, e_idx, e_join, x_nil, x_cons, x_set, x_setO, x_unp, x_xp, x_ret, x_raise, x_ite, x_forB, x_app, x_tr, x_brk, x_cnt, x_pass, x_fr, x_wipe, x_par, evP_nil, evP_f, evP_t, parR_nil, parR_f, parR_t, x_aug, x_augix, x_setix, setixS_nat, x_extS, x_pop, augD_add, augD_sub, x_while, compR_nil, compR_mapL, compR_some, quiet_ite, in_natL, in_natT, notin_natL, notin_natT, eq_ii, ne_ii, eq_ss, ne_ss, sum_map, all_map, any_map, b2_max, b2_min, ix_0, ix_1, ix_2, ixl_0, ansR_rt, ansR_nx, ansR_ex, toSl_l, toSl_d, sl_tailT, sl_tailL, size_ok, sz_filterL, compG_t, rng_nat, rng_ab, shl_one, shr_nat, band_one, op_mod_i, op_fdiv_i, zipD_map, zipD_tail, add_tup, add_lst, rev_tup, rev_lst, mul_repT, if_true, if_false, ite_true, ite_false, Bool.not_true, Bool.not_false, Bool.false_eq_true, decide_eq_true_eq, decide_true, decide_false, Bool.and_true, Bool.true_and, Bool.or_true, Bool.true_or, Bool.and_false, Bool.false_and, Bool.or_false, Bool.false_or, reduceCtorEq, List.map_cons, List.map_nil, List.length_map, List.length_cons, List.length_nil, List.nil_append, List.cons_append, List.length_range, List.length_append, sz_filterR, Nat.reduceAdd, Int.cast_ofNat_Int, Int.reduceEq, Int.reduceLT, Int.reduceLE]
theorem marks_fault_ok (g : Bool) {n : Nat} {ws : List Wire} (gd : Good n ws) (v : BW.D) (ok : okD v = true) (oks : ∀ ds, v = .tuple ds → ds.length ≤ 600 ∧ ∀ d ∈ ds, okD d = true) : EE m (k + 7) i_marks_fault [.str (gS g), bD n ws, v] = .ok (faultV g (cc ws n) n v) := by
  rw [r_marks_fault]
  have h1 := check_ok (m := m) (k := k) g gd
  have h2 : EE m (k + 6) i_cuts [bD n ws] = .ok (cutsD (cc ws n) (2 ^ n)) := cuts_ok gd
  have h9 := pow9 gd.n9
  have hpos := Nat.two_pow_pos n
  by_cases ht : ∃ ds, v = .tuple ds
  · obtain ⟨ds, rfl⟩ := ht
    obtain ⟨hz, hd⟩ := oks ds rfl
    by_cases hl : ds.length = 2 ^ n
    · have e1 : (ds.length : Int) = ((2 ^ n : Nat) : Int) := by omega
      have ec : compR (compG (EE m (k + 6)) (.and (.isi (.v 6) [.int]) (.not (.isi (.v 6) [.bool]))) (.n 6) (.k (.bool true)) [6] [.fz (.str (gS g)), .fz (bD n ws), .fz (.tuple ds), .fz (cutsD (cc ws n) (2 ^ n)), .un, .un, .un]) ds = .ok (ds.map fun d => .bool (isI d)) := compR_ok fun d hd' => by
        rw [compG_t]
        simp only [bindT_n, wipeS_cons, wipeS_nil, setS_s, setS_0, Res.ok_bind]
        rw [isI_ok (i := 6) (d := d) rfl (hd d hd')]
        rfl
      by_cases ha : ds.all isI = true
      · have hds := ints_of ha
        have hfo := forR_find (f := forB (EE m (k + 6)) m.sub fuel (.n 4) b_marks_fault_1) natD [.fz (.str (gS g)), .fz (bD n ws), .fz (.tuple ((ds.map toI).map .int)), .fz (cutsD (cc ws n) (2 ^ n)), .un, .un, .un] (faultB g (cc ws n) n (ds.map toI)) (List.range' 1 (2 ^ n - 1)) fun b hb => by
          rw [List.mem_range'_1] at hb
          exact fault_turn (k := k + 5) g gd (cc ws n) (ds.map toI) (by simpa using hl) b (by omega)
        rw [hds] at hfo
        have e0 := ixI (ds.map toI) 0 (by simp; omega)
        rw [hds, show ((0 : Nat) : Int) = 0 from rfl] at e0
        have er := rng_ab 1 (2 ^ n) (by decide) (by omega)
        rw [show ((1 : Nat) : Int) = 1 from rfl] at er
        rw [faultV_tup, if_pos ⟨hl, ha⟩, faultL]
        simp -implicitDefEqProofs (disch := first | omega | (simp only [List.length_map, List.length_cons, List.length_nil, List.length_append, List.length_range, List.length_replicate, List.length_tail, List.length_reverse]; omega)) only [getS_0, getS_s, setS_0, setS_s, sr_ok, nx_then, rt_then, ex_then, bk_then, ct_then, ex_sr, asBool_b, asInt_i, items_l, items_t, Res.ok_bind, Res.ex_bind, Res.bad_bind, Res.quiet_ok, op_add_i, op_sub_i, b1_int, b1_abs, b1_lenl, b1_lent, b1_tupl, b1_tupt, b1_listt, b1_listl, lt_i, gt_i, le_i, ge_i, strict_0, strict_s, peek_0, peek_0l, peek_0d, peek_s, bindT_n, bindT_t, bindT_l, bindT_w, bindTs_n, bindTs_c, wipeS_nil, wipeS_cons, e_k, e_v, e_p, e_tup, e_lst, e_nil, e_cons, e_op, e_cmp, e_ch, e_and, e_or, e_not, e_neg, e_ite, e_isN, e_notN, e_ix, e_slf, e_slt, e_slb, e_rev, e_call, e_b1, e_b2, e_isi, e_rng, e_dnil, e_comp, e_dcomp, e_enm', e_zip', e_rl, e_idx, e_join, x_nil, x_cons, x_set, x_setO, x_unp, x_xp, x_ret, x_raise, x_ite, x_forB, x_app, x_tr, x_brk, x_cnt, x_pass, x_fr, x_wipe, x_par, evP_nil, evP_f, evP_t, parR_nil, parR_f, parR_t, x_aug, x_augix, x_setix, setixS_nat, x_extS, x_pop, augD_add, augD_sub, x_while, compR_nil, compR_mapL, compR_some, quiet_ite, in_natL, in_natT, notin_natL, notin_natT, eq_ii, ne_ii, eq_ss, ne_ss, sum_map, all_map, any_map, b2_max, b2_min, ix_0, ix_1, ix_2, ixl_0, ansR_rt, ansR_nx, ansR_ex, toSl_l, toSl_d, sl_tailT, sl_tailL, size_ok, sz_filterL, compG_t, rng_nat, rng_ab, shl_one, shr_nat, band_one, op_mod_i, op_fdiv_i, zipD_map, zipD_tail, add_tup, add_lst, rev_tup, rev_lst, mul_repT, if_true, if_false, ite_true, ite_false, Bool.not_true, Bool.not_false, Bool.false_eq_true, decide_eq_true_eq, decide_true, decide_false, Bool.and_true, Bool.true_and, Bool.or_true, Bool.true_or, Bool.and_false, Bool.false_and, Bool.or_false, Bool.false_or, reduceCtorEq, List.map_cons, List.map_nil, List.length_map, List.length_cons, List.length_nil, List.nil_append, List.cons_append, List.length_range, List.length_append, sz_filterR, Nat.reduceAdd, Int.cast_ofNat_Int, Int.reduceEq, Int.reduceLT, Int.reduceLE, b_marks_fault, h1, h2, okD, tyD, List.any_cons, List.any_nil, cutsD_len, e1, ec, ha, e0]
        by_cases hs : 0 < (ds.map toI).getD 0 0
        · simp -implicitDefEqProofs (disch := first | omega | (simp only [List.length_map, List.length_cons, List.length_nil, List.length_append, List.length_range, List.length_replicate, List.length_tail, List.length_reverse]; omega)) only [getS_0, getS_s, setS_0, setS_s, sr_ok, nx_then, rt_then, ex_then, bk_then, ct_then, ex_sr, asBool_b, asInt_i, items_l, items_t, Res.ok_bind, Res.ex_bind, Res.bad_bind, Res.quiet_ok, op_add_i, op_sub_i, b1_int, b1_abs, b1_lenl, b1_lent, b1_tupl, b1_tupt, b1_listt, b1_listl, lt_i, gt_i, le_i, ge_i, strict_0, strict_s, peek_0, peek_0l, peek_0d, peek_s, bindT_n, bindT_t, bindT_l, bindT_w, bindTs_n, bindTs_c, wipeS_nil, wipeS_cons, e_k, e_v, e_p, e_tup, e_lst, e_nil, e_cons, e_op, e_cmp, e_ch, e_and, e_or, e_not, e_neg, e_ite, e_isN, e_notN, e_ix, e_slf, e_slt, e_slb, e_rev, e_call, e_b1, e_b2, e_isi, e_rng, e_dnil, e_comp, e_dcomp, e_enm', e_zip', e_rl, e_idx, e_join, x_nil, x_cons, x_set, x_setO, x_unp, x_xp, x_ret, x_raise, x_ite, x_forB, x_app, x_tr, x_brk, x_cnt, x_pass, x_fr, x_wipe, x_par, evP_nil, evP_f, evP_t, parR_nil, parR_f, parR_t, x_aug, x_augix, x_setix, setixS_nat, x_extS, x_pop, augD_add, augD_sub, x_while, compR_nil, compR_mapL, compR_some, quiet_ite, in_natL, in_natT, notin_natL, notin_natT, eq_ii, ne_ii, eq_ss, ne_ss, sum_map, all_map, any_map, b2_max, b2_min, ix_0, ix_1, ix_2, ixl_0, ansR_rt, ansR_nx, ansR_ex, toSl_l, toSl_d, sl_tailT, sl_tailL, size_ok, sz_filterL, compG_t, rng_nat, rng_ab, shl_one, shr_nat, band_one, op_mod_i, op_fdiv_i, zipD_map, zipD_tail, add_tup, add_lst, rev_tup, rev_lst, mul_repT, if_true, if_false, ite_true, ite_false, Bool.not_true, Bool.not_false, Bool.false_eq_true, decide_eq_true_eq, decide_true, decide_false, Bool.and_true, Bool.true_and, Bool.or_true, Bool.true_or, Bool.and_false, Bool.false_and, Bool.or_false, Bool.false_or, reduceCtorEq, List.map_cons, List.map_nil, List.length_map, List.length_cons, List.length_nil, List.nil_append, List.cons_append, List.length_range, List.length_append, sz_filterR, Nat.reduceAdd, Int.cast_ofNat_Int, Int.reduceEq, Int.reduceLT, Int.reduceLE, hs]
        · simp -implicitDefEqProofs (disch := first | omega | (simp only [List.length_map, List.length_cons, List.length_nil, List.length_append, List.length_range, List.length_replicate, List.length_tail, List.length_reverse]; omega)) only [getS_0, getS_s, setS_0, setS_s, sr_ok, nx_then, rt_then, ex_then, bk_then, ct_then, ex_sr, asBool_b, asInt_i, items_l, items_t, Res.ok_bind, Res.ex_bind, Res.bad_bind, Res.quiet_ok, op_add_i, op_sub_i, b1_int, b1_abs, b1_lenl, b1_lent, b1_tupl, b1_tupt, b1_listt, b1_listl, lt_i, gt_i, le_i, ge_i, strict_0, strict_s, peek_0, peek_0l, peek_0d, peek_s, bindT_n, bindT_t, bindT_l, bindT_w, bindTs_n, bindTs_c, wipeS_nil, wipeS_cons, e_k, e_v, e_p, e_tup, e_lst, e_nil, e_cons, e_op, e_cmp, e_ch, e_and, e_or, e_not, e_neg, e_ite, e_isN, e_notN, e_ix, e_slf, e_slt, e_slb, e_rev, e_call, e_b1, e_b2, e_isi, e_rng, e_dnil, e_comp, e_dcomp, e_enm', e_zip', e_rl, e_idx, e_join, x_nil, x_cons, x_set, x_setO, x_unp, x_xp, x_ret, x_raise, x_ite, x_forB, x_app, x_tr, x_brk, x_cnt, x_pass, x_fr, x_wipe, x_par, evP_nil, evP_f, evP_t, parR_nil, parR_f, parR_t, x_aug, x_augix, x_setix, setixS_nat, x_extS, x_pop, augD_add, augD_sub, x_while, compR_nil, compR_mapL, compR_some, quiet_ite, in_natL, in_natT, notin_natL, notin_natT, eq_ii, ne_ii, eq_ss, ne_ss, sum_map, all_map, any_map, b2_max, b2_min, ix_0, ix_1, ix_2, ixl_0, ansR_rt, ansR_nx, ansR_ex, toSl_l, toSl_d, sl_tailT, sl_tailL, size_ok, sz_filterL, compG_t, rng_nat, rng_ab, shl_one, shr_nat, band_one, op_mod_i, op_fdiv_i, zipD_map, zipD_tail, add_tup, add_lst, rev_tup, rev_lst, mul_repT, if_true, if_false, ite_true, ite_false, Bool.not_true, Bool.not_false, Bool.false_eq_true, decide_eq_true_eq, decide_true, decide_false, Bool.and_true, Bool.true_and, Bool.or_true, Bool.true_or, Bool.and_false, Bool.false_and, Bool.or_false, Bool.false_or, reduceCtorEq, List.map_cons, List.map_nil, List.length_map, List.length_cons, List.length_nil, List.nil_append, List.cons_append, List.length_range, List.length_append, sz_filterR, Nat.reduceAdd, Int.cast_ofNat_Int, Int.reduceEq, Int.reduceLT, Int.reduceLE, hs, cutsD_len, er, hfo]
          cases (List.range' 1 (2 ^ n - 1)).findSome? (faultB g (cc ws n) n (ds.map toI)) <;> simp -implicitDefEqProofs (disch := first | omega | (simp only [List.length_map, List.length_cons, List.length_nil, List.length_append, List.length_range, List.length_replicate, List.length_tail, List.length_reverse]; omega)) only [getS_0, getS_s, setS_0, setS_s, sr_ok, nx_then, rt_then, ex_then, bk_then, ct_then, ex_sr, asBool_b, asInt_i, items_l, items_t, Res.ok_bind, Res.ex_bind, Res.bad_bind, Res.quiet_ok, op_add_i, op_sub_i, b1_int, b1_abs, b1_lenl, b1_lent, b1_tupl, b1_tupt, b1_listt, b1_listl, lt_i, gt_i, le_i, ge_i, strict_0, strict_s, peek_0, peek_0l, peek_0d, peek_s, bindT_n, bindT_t, bindT_l, bindT_w, bindTs_n, bindTs_c, wipeS_nil, wipeS_cons, e_k, e_v, e_p, e_tup, e_lst, e_nil, e_cons, e_op, e_cmp, e_ch, e_and, e_or, e_not, e_neg, e_ite, e_isN, e_notN, e_ix, e_slf, e_slt, e_slb, e_rev, e_call, e_b1, e_b2, e_isi, e_rng, e_dnil, e_comp, e_dcomp, e_enm', e_zip', e_rl, e_idx, e_join, x_nil, x_cons, x_set, x_setO, x_unp, x_xp, x_ret, x_raise, x_ite, x_forB, x_app, x_tr, x_brk, x_cnt, x_pass, x_fr, x_wipe, x_par, evP_nil, evP_f, evP_t, parR_nil, parR_f, parR_t, x_aug, x_augix, x_setix, setixS_nat, x_extS, x_pop, augD_add, augD_sub, x_while, compR_nil, compR_mapL, compR_some, quiet_ite, in_natL, in_natT, notin_natL, notin_natT, eq_ii, ne_ii, eq_ss, ne_ss, sum_map, all_map, any_map, b2_max, b2_min, ix_0, ix_1, ix_2, ixl_0, ansR_rt, ansR_nx, ansR_ex, toSl_l, toSl_d, sl_tailT, sl_tailL, size_ok, sz_filterL, compG_t, rng_nat, rng_ab, shl_one, shr_nat, band_one, op_mod_i, op_fdiv_i, zipD_map, zipD_tail, add_tup, add_lst, rev_tup, rev_lst, mul_repT, if_true, if_false, ite_true, ite_false, Bool.not_true, Bool.not_false, Bool.false_eq_true, decide_eq_true_eq, decide_true, decide_false, Bool.and_true, Bool.true_and, Bool.or_true, Bool.true_or, Bool.and_false, Bool.false_and, Bool.or_false, Bool.false_or, reduceCtorEq, List.map_cons, List.map_nil, List.length_map, List.length_cons, List.length_nil, List.nil_append, List.cons_append, List.length_range, List.length_append, sz_filterR, Nat.reduceAdd, Int.cast_ofNat_Int, Int.reduceEq, Int.reduceLT, Int.reduceLE]
      · rw [faultV_tup, if_neg (fun z => ha z.2)]
        have ha : ds.all isI = false := by simpa using ha
        simp -implicitDefEqProofs (disch := first | omega | (simp only [List.length_map, List.length_cons, List.length_nil, List.length_append, List.length_range, List.length_replicate, List.length_tail, List.length_reverse]; omega)) only [getS_0, getS_s, setS_0, setS_s, sr_ok, nx_then, rt_then, ex_then, bk_then, ct_then, ex_sr, asBool_b, asInt_i, items_l, items_t, Res.ok_bind, Res.ex_bind, Res.bad_bind, Res.quiet_ok, op_add_i, op_sub_i, b1_int, b1_abs, b1_lenl, b1_lent, b1_tupl, b1_tupt, b1_listt, b1_listl, lt_i, gt_i, le_i, ge_i, strict_0, strict_s, peek_0, peek_0l, peek_0d, peek_s, bindT_n, bindT_t, bindT_l, bindT_w, bindTs_n, bindTs_c, wipeS_nil, wipeS_cons, e_k, e_v, e_p, e_tup, e_lst, e_nil, e_cons, e_op, e_cmp, e_ch, e_and, e_or, e_not, e_neg, e_ite, e_isN, e_notN, e_ix, e_slf, e_slt, e_slb, e_rev, e_call, e_b1, e_b2, e_isi, e_rng, e_dnil, e_comp, e_dcomp, e_enm', e_zip', e_rl, e_idx, e_join, x_nil, x_cons, x_set, x_setO, x_unp, x_xp, x_ret, x_raise, x_ite, x_forB, x_app, x_tr, x_brk, x_cnt, x_pass, x_fr, x_wipe, x_par, evP_nil, evP_f, evP_t, parR_nil, parR_f, parR_t, x_aug, x_augix, x_setix, setixS_nat, x_extS, x_pop, augD_add, augD_sub, x_while, compR_nil, compR_mapL, compR_some, quiet_ite, in_natL, in_natT, notin_natL, notin_natT, eq_ii, ne_ii, eq_ss, ne_ss, sum_map, all_map, any_map, b2_max, b2_min, ix_0, ix_1, ix_2, ixl_0, ansR_rt, ansR_nx, ansR_ex, toSl_l, toSl_d, sl_tailT, sl_tailL, size_ok, sz_filterL, compG_t, rng_nat, rng_ab, shl_one, shr_nat, band_one, op_mod_i, op_fdiv_i, zipD_map, zipD_tail, add_tup, add_lst, rev_tup, rev_lst, mul_repT, if_true, if_false, ite_true, ite_false, Bool.not_true, Bool.not_false, Bool.false_eq_true, decide_eq_true_eq, decide_true, decide_false, Bool.and_true, Bool.true_and, Bool.or_true, Bool.true_or, Bool.and_false, Bool.false_and, Bool.or_false, Bool.false_or, reduceCtorEq, List.map_cons, List.map_nil, List.length_map, List.length_cons, List.length_nil, List.nil_append, List.cons_append, List.length_range, List.length_append, sz_filterR, Nat.reduceAdd, Int.cast_ofNat_Int, Int.reduceEq, Int.reduceLT, Int.reduceLE, b_marks_fault, h1, h2, okD, tyD, List.any_cons, List.any_nil, cutsD_len, e1, ec, ha]
        rfl
    · have e1 : ¬ (ds.length : Int) = ((2 ^ n : Nat) : Int) := by omega
      rw [faultV_tup, if_neg (fun z => hl z.1)]
      simp -implicitDefEqProofs (disch := first | omega | (simp only [List.length_map, List.length_cons, List.length_nil, List.length_append, List.length_range, List.length_replicate, List.length_tail, List.length_reverse]; omega)) only [getS_0, getS_s, setS_0, setS_s, sr_ok, nx_then, rt_then, ex_then, bk_then, ct_then, ex_sr, asBool_b, asInt_i, items_l, items_t, Res.ok_bind, Res.ex_bind, Res.bad_bind, Res.quiet_ok, op_add_i, op_sub_i, b1_int, b1_abs, b1_lenl, b1_lent, b1_tupl, b1_tupt, b1_listt, b1_listl, lt_i, gt_i, le_i, ge_i, strict_0, strict_s, peek_0, peek_0l, peek_0d, peek_s, bindT_n, bindT_t, bindT_l, bindT_w, bindTs_n, bindTs_c, wipeS_nil, wipeS_cons, e_k, e_v, e_p, e_tup, e_lst, e_nil, e_cons, e_op, e_cmp, e_ch, e_and, e_or, e_not, e_neg, e_ite, e_isN, e_notN, e_ix, e_slf, e_slt, e_slb, e_rev, e_call, e_b1, e_b2, e_isi, e_rng, e_dnil, e_comp, e_dcomp, e_enm', e_zip', e_rl, e_idx, e_join, x_nil, x_cons, x_set, x_setO, x_unp, x_xp, x_ret, x_raise, x_ite, x_forB, x_app, x_tr, x_brk, x_cnt, x_pass, x_fr, x_wipe, x_par, evP_nil, evP_f, evP_t, parR_nil, parR_f, parR_t, x_aug, x_augix, x_setix, setixS_nat, x_extS, x_pop, augD_add, augD_sub, x_while, compR_nil, compR_mapL, compR_some, quiet_ite, in_natL, in_natT, notin_natL, notin_natT, eq_ii, ne_ii, eq_ss, ne_ss, sum_map, all_map, any_map, b2_max, b2_min, ix_0, ix_1, ix_2, ixl_0, ansR_rt, ansR_nx, ansR_ex, toSl_l, toSl_d, sl_tailT, sl_tailL, size_ok, sz_filterL, compG_t, rng_nat, rng_ab, shl_one, shr_nat, band_one, op_mod_i, op_fdiv_i, zipD_map, zipD_tail, add_tup, add_lst, rev_tup, rev_lst, mul_repT, if_true, if_false, ite_true, ite_false, Bool.not_true, Bool.not_false, Bool.false_eq_true, decide_eq_true_eq, decide_true, decide_false, Bool.and_true, Bool.true_and, Bool.or_true, Bool.true_or, Bool.and_false, Bool.false_and, Bool.or_false, Bool.false_or, reduceCtorEq, List.map_cons, List.map_nil, List.length_map, List.length_cons, List.length_nil, List.nil_append, List.cons_append, List.length_range, List.length_append, sz_filterR, Nat.reduceAdd, Int.cast_ofNat_Int, Int.reduceEq, Int.reduceLT, Int.reduceLE, b_marks_fault, h1, h2, okD, tyD, List.any_cons, List.any_nil, cutsD_len, e1]
      rfl
  · have e : tyD .tuple v = false := by cases v <;> first | rfl | exact absurd ⟨_, rfl⟩ ht
    have e2 : faultV g (cc ws n) n v = formD := by cases v <;> first | rfl | exact absurd ⟨_, rfl⟩ ht
    simp -implicitDefEqProofs (disch := first | omega | (simp only [List.length_map, List.length_cons, List.length_nil, List.length_append, List.length_range, List.length_replicate, List.length_tail, List.length_reverse]; omega)) only [getS_0, getS_s, setS_0, setS_s, sr_ok, nx_then, rt_then, ex_then, bk_then, ct_then, ex_sr, asBool_b, asInt_i, items_l, items_t, Res.ok_bind, Res.ex_bind, Res.bad_bind, Res.quiet_ok, op_add_i, op_sub_i, b1_int, b1_abs, b1_lenl, b1_lent, b1_tupl, b1_tupt, b1_listt, b1_listl, lt_i, gt_i, le_i, ge_i, strict_0, strict_s, peek_0, peek_0l, peek_0d, peek_s, bindT_n, bindT_t, bindT_l, bindT_w, bindTs_n, bindTs_c, wipeS_nil, wipeS_cons, e_k, e_v, e_p, e_tup, e_lst, e_nil, e_cons, e_op, e_cmp, e_ch, e_and, e_or, e_not, e_neg, e_ite, e_isN, e_notN, e_ix, e_slf, e_slt, e_slb, e_rev, e_call, e_b1, e_b2, e_isi, e_rng, e_dnil, e_comp, e_dcomp, e_enm', e_zip', e_rl, e_idx, e_join, x_nil, x_cons, x_set, x_setO, x_unp, x_xp, x_ret, x_raise, x_ite, x_forB, x_app, x_tr, x_brk, x_cnt, x_pass, x_fr, x_wipe, x_par, evP_nil, evP_f, evP_t, parR_nil, parR_f, parR_t, x_aug, x_augix, x_setix, setixS_nat, x_extS, x_pop, augD_add, augD_sub, x_while, compR_nil, compR_mapL, compR_some, quiet_ite, in_natL, in_natT, notin_natL, notin_natT, eq_ii, ne_ii, eq_ss, ne_ss, sum_map, all_map, any_map, b2_max, b2_min, ix_0, ix_1, ix_2, ixl_0, ansR_rt, ansR_nx, ansR_ex, toSl_l, toSl_d, sl_tailT, sl_tailL, size_ok, sz_filterL, compG_t, rng_nat, rng_ab, shl_one, shr_nat, band_one, op_mod_i, op_fdiv_i, zipD_map, zipD_tail, add_tup, add_lst, rev_tup, rev_lst, mul_repT, if_true, if_false, ite_true, ite_false, Bool.not_true, Bool.not_false, Bool.false_eq_true, decide_eq_true_eq, decide_true, decide_false, Bool.and_true, Bool.true_and, Bool.or_true, Bool.true_or, Bool.and_false, Bool.false_and, Bool.or_false, Bool.false_or, reduceCtorEq, List.map_cons, List.map_nil, List.length_map, List.length_cons, List.length_nil, List.nil_append, List.cons_append, List.length_range, List.length_append, sz_filterR, Nat.reduceAdd, Int.cast_ofNat_Int, Int.reduceEq, Int.reduceLT, Int.reduceLE, b_marks_fault, h1, h2, ok, List.any_cons, List.any_nil, e, e2]
    rfl
end Ord

namespace Ord
open PySem PySem.W L2 BW
variable {m : Md} {k : Nat}
theorem sortable_ints (L : List Int) (h : L.length ≤ 1000000) : BW.sortable (L.map .int) = true := by
  unfold BW.sortable
  have h1 := comp_ints L
  rw [Bool.and_eq_true] at h1
  rw [Bool.and_eq_true, Bool.and_eq_true, Bool.or_eq_true]
  refine ⟨⟨h1.1, size_ok (by simpa using h)⟩, .inr ?_⟩
  rw [List.all_eq_true]
  intro d hd
  obtain ⟨i, _, rfl⟩ := List.mem_map.mp hd
  rfl
/-- sorted of different numbers -/
theorem sorted_nats (L : List Nat) (nd : L.Nodup) (h : L.length ≤ 1000000) : ∃ S : List Nat, b1D .sorted (.list (L.map natD)) = .ok (.list (S.map natD)) ∧ asc S ∧ S.Perm L := by
  have e : L.map natD = (L.map fun k : Nat => (k : Int)).map PyData.int := by rw [List.map_map]; rfl
  have h1 : b1D .sorted (.list (L.map natD)) = if BW.sortable (L.map natD) then .ok (.list (sortD (L.map natD))) else .bad := rfl
  rw [h1, e, if_pos (sortable_ints _ (by simpa using h)), sortD_ints]
  refine ⟨L.mergeSort (fun a b => decide (a ≤ b)), ?_, ?_, List.mergeSort_perm _ _⟩
  · congr 2
    have := List.map_mergeSort (f := fun k : Nat => (k : Int)) (r := fun a b => decide (a ≤ b)) (s := fun a b => decide (a ≤ b)) (l := L) (fun a _ b _ => decide_eq_decide.mpr (by omega))
    rw [← this, List.map_map]
    rfl
  · have hp := List.pairwise_mergeSort (le := fun a b : Nat => decide (a ≤ b)) (fun a b c h1 h2 => by simp at h1 h2 ⊢; omega) (fun a b => by simp; omega) L
    have hn : (L.mergeSort (fun a b => decide (a ≤ b))).Nodup := (List.mergeSort_perm L _).symm.nodup nd
    exact (hp.and hn).imp fun ⟨a, b⟩ => by have := of_decide_eq_true a; omega
/-! ### the law's own cut, and twos -/
theorem two_ok (p : Nat) (h : p ≤ 9) : EE m (k + 1) i_law_two [natD p] = .ok (natD (2 ^ p)) := by
  rw [r_law_two]
  have : p = 0 ∨ p = 1 ∨ p = 2 ∨ p = 3 ∨ p = 4 ∨ p = 5 ∨ p = 6 ∨ p = 7 ∨ p = 8 ∨ p = 9 := by omega
  rcases this with rfl | rfl | rfl | rfl | rfl | rfl | rfl | rfl | rfl | rfl <;> rfl
theorem filt_len {α : Type} (q : α → Bool) : ∀ L : List α, (0 < (L.filter q).length ↔ L.any q = true) ∧ ((L.filter q).length < L.length ↔ L.all q = false)
  | [] => by simp
  | a :: L => by
    obtain ⟨h1, h2⟩ := filt_len q L
    have h3 := List.length_filter_le q L
    by_cases h : q a = true
    · simp only [List.filter_cons_of_pos h, List.length_cons, List.any_cons, h, Bool.true_or, List.all_cons, Bool.true_and]
      exact ⟨by simp, by rw [← h2]; omega⟩
    · have h : q a = false := by simpa using h
      rw [List.filter_cons_of_neg (by simp [h])]
      simp only [List.length_cons, List.any_cons, h, Bool.false_or, List.all_cons, Bool.false_and]
      exact ⟨h1, by simp; omega⟩
def cutQ (s : List Nat) (w : Wire) : Bool := (w.1.any fun p => s.contains p) && !(w.1.all fun p => s.contains p)
theorem cutW_q (s : List Nat) (w : Wire) : cutW s w = if cutQ s w then w.2 else 0 := by
  unfold cutW cutQ inner
  obtain ⟨h1, h2⟩ := filt_len (fun x => s.contains x) w.1
  by_cases a : (w.1.any fun p => s.contains p) = true
  · by_cases b : (w.1.all fun p => s.contains p) = true
    · rw [if_neg (fun z => by have := h2.mp z.2; rw [b] at this; cases this), a, b]; rfl
    · have b : (w.1.all fun p => s.contains p) = false := by simpa using b
      rw [if_pos ⟨h1.mpr a, h2.mpr b⟩, a, b]; rfl
  · rw [if_neg (fun z => a (h1.mp z.1))]
    have a : (w.1.any fun p => s.contains p) = false := by simpa using a
    rw [a]; rfl
theorem foldl_add (f : Wire → Int) : ∀ (L : List Wire) (a : Int), L.foldl (fun a w => a + f w) a = a + (L.map f).sum
  | [], a => by simp
  | w :: L, a => by rw [List.foldl_cons, foldl_add f L, List.map_cons, List.sum_cons]; omega
theorem sum_filter (q : Wire → Bool) : ∀ L : List Wire, ((L.filter q).map (·.2)).sum = (L.map fun w => if q w then w.2 else 0).sum
  | [] => rfl
  | w :: L => by
    by_cases h : q w = true
    · simp [h, sum_filter q L]
    · simp [h, sum_filter q L]
theorem cutAt_law (ws : List Wire) (s : List Nat) : ((ws.filter (cutQ s)).map (·.2)).sum = cutAt ws s := by
  unfold cutAt
  rw [foldl_add, sum_filter, Int.zero_add]
  congr 1
  apply List.map_congr_left
  intro w _
  exact (cutW_q s w).symm
theorem law_cut_ok {n : Nat} {ws : List Wire} (g : Good n ws) {x : BW.D} {s : List Nat} (hx : items x = some (s.map natD)) : EE m (k + 1) i_law_cut [bD n ws, x] = .ok (.int (cutAt ws s)) := by
  rw [r_law_cut]
  have e : ∀ p : Nat, cmpB .isin (natD p) x = .ok (s.contains p) := fun p => in_nats p hx
  have h40 := g.len
  unfold bD
  simp -implicitDefEqProofs (disch := first | omega | (simp only [List.length_map, List.length_cons, List.length_nil, List.length_append, List.length_range, List.length_replicate, List.length_tail, List.length_reverse]; omega)) only [getS_0, getS_s, setS_0, setS_s, sr_ok, nx_then, rt_then, ex_then, bk_then, ct_then, ex_sr, asBool_b, asInt_i, items_l, items_t, Res.ok_bind, Res.ex_bind, Res.bad_bind, Res.quiet_ok, op_add_i, op_sub_i, b1_int, b1_abs, b1_lenl, b1_lent, b1_tupl, b1_tupt, b1_listt, b1_listl, lt_i, gt_i, le_i, ge_i, strict_0, strict_s, peek_0, peek_0l, peek_0d, peek_s, bindT_n, bindT_t, bindT_l, bindT_w, bindTs_n, bindTs_c, wipeS_nil, wipeS_cons, e_k, e_v, e_p, e_tup, e_lst, e_nil, e_cons, e_op, e_cmp, e_ch, e_and, e_or, e_not, e_neg, e_ite, e_isN, e_notN, e_ix, e_slf, e_slt, e_slb, e_rev, e_call, e_b1, e_b2, e_isi, e_rng, e_dnil, e_comp, e_dcomp, e_enm', e_zip', e_rl, e_idx, e_join, x_nil, x_cons, x_set, x_setO, x_unp, x_xp, x_ret, x_raise, x_ite, x_forB, x_app, x_tr, x_brk, x_cnt, x_pass, x_fr, x_wipe, x_par, evP_nil, evP_f, evP_t, parR_nil, parR_f, parR_t, x_aug, x_augix, x_setix, setixS_nat, x_extS, x_pop, augD_add, augD_sub, x_while, compR_nil, compR_mapL, compR_some, quiet_ite, in_natL, in_natT, notin_natL, notin_natT, eq_ii, ne_ii, eq_ss, ne_ss, sum_map, all_map, any_map, b2_max, b2_min, ix_0, ix_1, ix_2, ixl_0, ansR_rt, ansR_nx, ansR_ex, toSl_l, toSl_d, sl_tailT, sl_tailL, size_ok, sz_filterL, compG_t, rng_nat, rng_ab, shl_one, shr_nat, band_one, op_mod_i, op_fdiv_i, zipD_map, zipD_tail, add_tup, add_lst, rev_tup, rev_lst, mul_repT, if_true, if_false, ite_true, ite_false, Bool.not_true, Bool.not_false, Bool.false_eq_true, decide_eq_true_eq, decide_true, decide_false, Bool.and_true, Bool.true_and, Bool.or_true, Bool.true_or, Bool.and_false, Bool.false_and, Bool.or_false, Bool.false_or, reduceCtorEq, List.map_cons, List.map_nil, List.length_map, List.length_cons, List.length_nil, List.nil_append, List.cons_append, List.length_range, List.length_append, sz_filterR, Nat.reduceAdd, Int.cast_ofNat_Int, Int.reduceEq, Int.reduceLT, Int.reduceLE, b_law_cut]
  rw [compR_okf (p := cutQ s) (g := fun w => .int w.2)]
  · have : (ws.filter (cutQ s)).length ≤ 40 := Nat.le_trans (List.length_filter_le _ _) h40
    simp -implicitDefEqProofs (disch := first | omega | (simp only [List.length_map, List.length_cons, List.length_nil, List.length_append, List.length_range, List.length_replicate, List.length_tail, List.length_reverse]; omega)) only [getS_0, getS_s, setS_0, setS_s, sr_ok, nx_then, rt_then, ex_then, bk_then, ct_then, ex_sr, asBool_b, asInt_i, items_l, items_t, Res.ok_bind, Res.ex_bind, Res.bad_bind, Res.quiet_ok, op_add_i, op_sub_i, b1_int, b1_abs, b1_lenl, b1_lent, b1_tupl, b1_tupt, b1_listt, b1_listl, lt_i, gt_i, le_i, ge_i, strict_0, strict_s, peek_0, peek_0l, peek_0d, peek_s, bindT_n, bindT_t, bindT_l, bindT_w, bindTs_n, bindTs_c, wipeS_nil, wipeS_cons, e_k, e_v, e_p, e_tup, e_lst, e_nil, e_cons, e_op, e_cmp, e_ch, e_and, e_or, e_not, e_neg, e_ite, e_isN, e_notN, e_ix, e_slf, e_slt, e_slb, e_rev, e_call, e_b1, e_b2, e_isi, e_rng, e_dnil, e_comp, e_dcomp, e_enm', e_zip', e_rl, e_idx, e_join, x_nil, x_cons, x_set, x_setO, x_unp, x_xp, x_ret, x_raise, x_ite, x_forB, x_app, x_tr, x_brk, x_cnt, x_pass, x_fr, x_wipe, x_par, evP_nil, evP_f, evP_t, parR_nil, parR_f, parR_t, x_aug, x_augix, x_setix, setixS_nat, x_extS, x_pop, augD_add, augD_sub, x_while, compR_nil, compR_mapL, compR_some, quiet_ite, in_natL, in_natT, notin_natL, notin_natT, eq_ii, ne_ii, eq_ss, ne_ss, sum_map, all_map, any_map, b2_max, b2_min, ix_0, ix_1, ix_2, ixl_0, ansR_rt, ansR_nx, ansR_ex, toSl_l, toSl_d, sl_tailT, sl_tailL, size_ok, sz_filterL, compG_t, rng_nat, rng_ab, shl_one, shr_nat, band_one, op_mod_i, op_fdiv_i, zipD_map, zipD_tail, add_tup, add_lst, rev_tup, rev_lst, mul_repT, if_true, if_false, ite_true, ite_false, Bool.not_true, Bool.not_false, Bool.false_eq_true, decide_eq_true_eq, decide_true, decide_false, Bool.and_true, Bool.true_and, Bool.or_true, Bool.true_or, Bool.and_false, Bool.false_and, Bool.or_false, Bool.false_or, reduceCtorEq, List.map_cons, List.map_nil, List.length_map, List.length_cons, List.length_nil, List.nil_append, List.cons_append, List.length_range, List.length_append, sz_filterR, Nat.reduceAdd, Int.cast_ofNat_Int, Int.reduceEq, Int.reduceLT, Int.reduceLE, cutAt_law]
  · intro w hw
    have hz : w.1.length ≤ 1000 := Nat.le_trans (asc_len (g.ok w hw).asc (g.ok w hw).lt) (by have := g.n9; omega)
    unfold cutQ
    by_cases h1 : (w.1.any fun p => s.contains p) = true
    · by_cases h2 : (w.1.all fun p => s.contains p) = true
      · simp -implicitDefEqProofs (disch := first | omega | (simp only [List.length_map, List.length_cons, List.length_nil, List.length_append, List.length_range, List.length_replicate, List.length_tail, List.length_reverse]; omega)) only [getS_0, getS_s, setS_0, setS_s, sr_ok, nx_then, rt_then, ex_then, bk_then, ct_then, ex_sr, asBool_b, asInt_i, items_l, items_t, Res.ok_bind, Res.ex_bind, Res.bad_bind, Res.quiet_ok, op_add_i, op_sub_i, b1_int, b1_abs, b1_lenl, b1_lent, b1_tupl, b1_tupt, b1_listt, b1_listl, lt_i, gt_i, le_i, ge_i, strict_0, strict_s, peek_0, peek_0l, peek_0d, peek_s, bindT_n, bindT_t, bindT_l, bindT_w, bindTs_n, bindTs_c, wipeS_nil, wipeS_cons, e_k, e_v, e_p, e_tup, e_lst, e_nil, e_cons, e_op, e_cmp, e_ch, e_and, e_or, e_not, e_neg, e_ite, e_isN, e_notN, e_ix, e_slf, e_slt, e_slb, e_rev, e_call, e_b1, e_b2, e_isi, e_rng, e_dnil, e_comp, e_dcomp, e_enm', e_zip', e_rl, e_idx, e_join, x_nil, x_cons, x_set, x_setO, x_unp, x_xp, x_ret, x_raise, x_ite, x_forB, x_app, x_tr, x_brk, x_cnt, x_pass, x_fr, x_wipe, x_par, evP_nil, evP_f, evP_t, parR_nil, parR_f, parR_t, x_aug, x_augix, x_setix, setixS_nat, x_extS, x_pop, augD_add, augD_sub, x_while, compR_nil, compR_mapL, compR_some, quiet_ite, in_natL, in_natT, notin_natL, notin_natT, eq_ii, ne_ii, eq_ss, ne_ss, sum_map, all_map, any_map, b2_max, b2_min, ix_0, ix_1, ix_2, ixl_0, ansR_rt, ansR_nx, ansR_ex, toSl_l, toSl_d, sl_tailT, sl_tailL, size_ok, sz_filterL, compG_t, rng_nat, rng_ab, shl_one, shr_nat, band_one, op_mod_i, op_fdiv_i, zipD_map, zipD_tail, add_tup, add_lst, rev_tup, rev_lst, mul_repT, if_true, if_false, ite_true, ite_false, Bool.not_true, Bool.not_false, Bool.false_eq_true, decide_eq_true_eq, decide_true, decide_false, Bool.and_true, Bool.true_and, Bool.or_true, Bool.true_or, Bool.and_false, Bool.false_and, Bool.or_false, Bool.false_or, reduceCtorEq, List.map_cons, List.map_nil, List.length_map, List.length_cons, List.length_nil, List.nil_append, List.cons_append, List.length_range, List.length_append, sz_filterR, Nat.reduceAdd, Int.cast_ofNat_Int, Int.reduceEq, Int.reduceLT, Int.reduceLE, compG, wD, e, h1, h2]
      · have h2 : (w.1.all fun p => s.contains p) = false := by simpa using h2
        simp -implicitDefEqProofs (disch := first | omega | (simp only [List.length_map, List.length_cons, List.length_nil, List.length_append, List.length_range, List.length_replicate, List.length_tail, List.length_reverse]; omega)) only [getS_0, getS_s, setS_0, setS_s, sr_ok, nx_then, rt_then, ex_then, bk_then, ct_then, ex_sr, asBool_b, asInt_i, items_l, items_t, Res.ok_bind, Res.ex_bind, Res.bad_bind, Res.quiet_ok, op_add_i, op_sub_i, b1_int, b1_abs, b1_lenl, b1_lent, b1_tupl, b1_tupt, b1_listt, b1_listl, lt_i, gt_i, le_i, ge_i, strict_0, strict_s, peek_0, peek_0l, peek_0d, peek_s, bindT_n, bindT_t, bindT_l, bindT_w, bindTs_n, bindTs_c, wipeS_nil, wipeS_cons, e_k, e_v, e_p, e_tup, e_lst, e_nil, e_cons, e_op, e_cmp, e_ch, e_and, e_or, e_not, e_neg, e_ite, e_isN, e_notN, e_ix, e_slf, e_slt, e_slb, e_rev, e_call, e_b1, e_b2, e_isi, e_rng, e_dnil, e_comp, e_dcomp, e_enm', e_zip', e_rl, e_idx, e_join, x_nil, x_cons, x_set, x_setO, x_unp, x_xp, x_ret, x_raise, x_ite, x_forB, x_app, x_tr, x_brk, x_cnt, x_pass, x_fr, x_wipe, x_par, evP_nil, evP_f, evP_t, parR_nil, parR_f, parR_t, x_aug, x_augix, x_setix, setixS_nat, x_extS, x_pop, augD_add, augD_sub, x_while, compR_nil, compR_mapL, compR_some, quiet_ite, in_natL, in_natT, notin_natL, notin_natT, eq_ii, ne_ii, eq_ss, ne_ss, sum_map, all_map, any_map, b2_max, b2_min, ix_0, ix_1, ix_2, ixl_0, ansR_rt, ansR_nx, ansR_ex, toSl_l, toSl_d, sl_tailT, sl_tailL, size_ok, sz_filterL, compG_t, rng_nat, rng_ab, shl_one, shr_nat, band_one, op_mod_i, op_fdiv_i, zipD_map, zipD_tail, add_tup, add_lst, rev_tup, rev_lst, mul_repT, if_true, if_false, ite_true, ite_false, Bool.not_true, Bool.not_false, Bool.false_eq_true, decide_eq_true_eq, decide_true, decide_false, Bool.and_true, Bool.true_and, Bool.or_true, Bool.true_or, Bool.and_false, Bool.false_and, Bool.or_false, Bool.false_or, reduceCtorEq, List.map_cons, List.map_nil, List.length_map, List.length_cons, List.length_nil, List.nil_append, List.cons_append, List.length_range, List.length_append, sz_filterR, Nat.reduceAdd, Int.cast_ofNat_Int, Int.reduceEq, Int.reduceLT, Int.reduceLE, compG, wD, e, h1, h2]
    · have h1 : (w.1.any fun p => s.contains p) = false := by simpa using h1
      simp -implicitDefEqProofs (disch := first | omega | (simp only [List.length_map, List.length_cons, List.length_nil, List.length_append, List.length_range, List.length_replicate, List.length_tail, List.length_reverse]; omega)) only [getS_0, getS_s, setS_0, setS_s, sr_ok, nx_then, rt_then, ex_then, bk_then, ct_then, ex_sr, asBool_b, asInt_i, items_l, items_t, Res.ok_bind, Res.ex_bind, Res.bad_bind, Res.quiet_ok, op_add_i, op_sub_i, b1_int, b1_abs, b1_lenl, b1_lent, b1_tupl, b1_tupt, b1_listt, b1_listl, lt_i, gt_i, le_i, ge_i, strict_0, strict_s, peek_0, peek_0l, peek_0d, peek_s, bindT_n, bindT_t, bindT_l, bindT_w, bindTs_n, bindTs_c, wipeS_nil, wipeS_cons, e_k, e_v, e_p, e_tup, e_lst, e_nil, e_cons, e_op, e_cmp, e_ch, e_and, e_or, e_not, e_neg, e_ite, e_isN, e_notN, e_ix, e_slf, e_slt, e_slb, e_rev, e_call, e_b1, e_b2, e_isi, e_rng, e_dnil, e_comp, e_dcomp, e_enm', e_zip', e_rl, e_idx, e_join, x_nil, x_cons, x_set, x_setO, x_unp, x_xp, x_ret, x_raise, x_ite, x_forB, x_app, x_tr, x_brk, x_cnt, x_pass, x_fr, x_wipe, x_par, evP_nil, evP_f, evP_t, parR_nil, parR_f, parR_t, x_aug, x_augix, x_setix, setixS_nat, x_extS, x_pop, augD_add, augD_sub, x_while, compR_nil, compR_mapL, compR_some, quiet_ite, in_natL, in_natT, notin_natL, notin_natT, eq_ii, ne_ii, eq_ss, ne_ss, sum_map, all_map, any_map, b2_max, b2_min, ix_0, ix_1, ix_2, ixl_0, ansR_rt, ansR_nx, ansR_ex, toSl_l, toSl_d, sl_tailT, sl_tailL, size_ok, sz_filterL, compG_t, rng_nat, rng_ab, shl_one, shr_nat, band_one, op_mod_i, op_fdiv_i, zipD_map, zipD_tail, add_tup, add_lst, rev_tup, rev_lst, mul_repT, if_true, if_false, ite_true, ite_false, Bool.not_true, Bool.not_false, Bool.false_eq_true, decide_eq_true_eq, decide_true, decide_false, Bool.and_true, Bool.true_and, Bool.or_true, Bool.true_or, Bool.and_false, Bool.false_and, Bool.or_false, Bool.false_or, reduceCtorEq, List.map_cons, List.map_nil, List.length_map, List.length_cons, List.length_nil, List.nil_append, List.cons_append, List.length_range, List.length_append, sz_filterR, Nat.reduceAdd, Int.cast_ofNat_Int, Int.reduceEq, Int.reduceLT, Int.reduceLE, compG, wD, e, h1]
/-! ### drawn bundles -/
theorem mod_ne {a d N : Nat} (ha : a < N) (h1 : 0 < d) (h2 : d < N) : (a + d) % N ≠ a := by
  by_cases h : a + d < N
  · rw [Nat.mod_eq_of_lt h]; omega
  · rw [Nat.mod_eq_sub_mod (by omega), Nat.mod_eq_of_lt (by omega)]; omega
def pOf (draw m3 many : Nat) : List Nat := (List.range many).filter fun p => decide (draw / (p + 1) % m3 = 0)
def qOf (draw m3 many : Nat) : List Nat := if (pOf draw m3 many).length < 2 then [draw % many, (draw % many + 1 + draw / 64 % (many - 1)) % many] else pOf draw m3 many
theorem qOf_ok (draw m3 many : Nat) (h : 2 ≤ many) : (qOf draw m3 many).Nodup ∧ (∀ p ∈ qOf draw m3 many, p < many) ∧ 2 ≤ (qOf draw m3 many).length := by
  unfold qOf
  split
  · have h1 : draw % many < many := Nat.mod_lt _ (by omega)
    have h2 : draw / 64 % (many - 1) < many - 1 := Nat.mod_lt _ (by omega)
    have h3 := mod_ne (N := many) (a := draw % many) (d := 1 + draw / 64 % (many - 1)) h1 (by omega) (by omega)
    rw [← Nat.add_assoc] at h3
    refine ⟨?_, ?_, by simp⟩
    · simp only [List.nodup_cons, List.mem_singleton, List.not_mem_nil, not_false_eq_true, List.nodup_nil, and_true]
      exact fun e => h3 e.symm
    · intro p hp
      rcases List.mem_cons.mp hp with rfl | hp
      · exact h1
      · rw [List.mem_singleton.mp hp]; exact Nat.mod_lt _ (by omega)
  · rename_i hz
    refine ⟨List.Pairwise.filter _ List.nodup_range, fun p hp => List.mem_range.mp (List.mem_filter.mp hp).1, by omega⟩
theorem bundles_turn (ds : List Nat) (at_ many κ m3 m5 j : Nat) (most : BW.D) (ws : List Wire) (h : at_ + 16 ≤ ds.length) (hm : 2 ≤ many) (hm9 : many ≤ 9) (hj : j ≤ 40) (hw : ws.length ≤ 40) (h3 : ixD (.list [.int 3, .int 4, .int 2]) (.int κ) = .ok (.int m3)) (p3 : 0 < m3) (h5 : ixD (.list [.int 5, .int 60, .int 3]) (.int κ) = .ok (.int m5)) (p5 : 0 < m5) (q5 : m5 ≤ 60) :
    ∃ w, (GoodW many w ∧ w.2 ≤ 60) ∧ forB (EE m k) m.sub fuel (.n 6) b_law_bundles_1 (natD j) [.fz (.list (ds.map natD)), .fz (.int at_), .fz most, .fz (.tuple (ws.map wD)), .fz (.int many), .fz (.int κ), .un, .un, .un, .un] =
      .nx [.fz (.list (ds.map natD)), .fz (.int at_), .fz most, .fz (.tuple ((ws ++ [w]).map wD)), .fz (.int many), .fz (.int κ), .un, .un, .un, .un] := by
  have hx : at_ + 2 + j % 14 < ds.length := by omega
  obtain ⟨draw, hdraw⟩ : ∃ draw, draw = ds[at_ + 2 + j % 14] / (1 + j / 14) := ⟨_, rfl⟩
  obtain ⟨q1, q2, q3⟩ := qOf_ok draw m3 many hm
  have q4 : (qOf draw m3 many).length ≤ 1000 := by
    have := nodup_len (B := List.range many) q1 fun a ha => List.mem_range.mpr (q2 a ha)
    simp at this
    omega
  obtain ⟨S, s1, s2, s3⟩ := sorted_nats (qOf draw m3 many) q1 (by omega)
  have e1 : (at_ : Int) + 2 + (j : Int) % 14 = ((at_ + 2 + j % 14 : Nat) : Int) := by omega
  have e2 := ixL_nat natD ds (at_ + 2 + j % 14) hx
  have e3 : ((ds[at_ + 2 + j % 14] : Nat) : Int) / (1 + (j : Int) / 14) = (draw : Int) := by
    rw [hdraw, Int.natCast_ediv]
    congr 1
  have e4 : (1 : Int) + ((draw : Int) / 16) % (m5 : Int) = ((1 + draw / 16 % m5 : Nat) : Int) := by
    rw [Int.natCast_add, Int.natCast_emod, Int.natCast_ediv]; rfl
  have hlt : draw / 16 % m5 < m5 := Nat.mod_lt _ p5
  have es : sizeOk ((ws.map wD).length + [wD (S, ((1 + draw / 16 % m5 : Nat) : Int))].length) = true := size_ok (by simp; omega)
  have ea : opD .add (.tuple (ws.map wD)) (.tuple [.tuple [.tuple (S.map natD), .int ((1 + draw / 16 % m5 : Nat) : Int)]]) = .ok (.tuple ((ws ++ [(S, ((1 + draw / 16 % m5 : Nat) : Int))]).map wD)) := by
    show (if BW.sizeOk ((ws.map wD).length + [wD (S, ((1 + draw / 16 % m5 : Nat) : Int))].length) = true then Res.ok (PyData.tuple (ws.map wD ++ [wD (S, ((1 + draw / 16 % m5 : Nat) : Int))])) else .bad) = _
    rw [if_pos es, List.map_append]
    rfl
  refine ⟨(S, ((1 + draw / 16 % m5 : Nat) : Int)), ⟨⟨s2, fun p hp => q2 p (s3.mem_iff.mp hp), by rw [s3.length_eq]; exact q3, by simp only; omega, by simp only; omega⟩, by simp only; omega⟩, ?_⟩
  simp -implicitDefEqProofs (disch := first | omega | (simp only [List.length_map, List.length_cons, List.length_nil, List.length_append, List.length_range, List.length_replicate, List.length_tail, List.length_reverse]; omega)) only [getS_0, getS_s, setS_0, setS_s, sr_ok, nx_then, rt_then, ex_then, bk_then, ct_then, ex_sr, asBool_b, asInt_i, items_l, items_t, Res.ok_bind, Res.ex_bind, Res.bad_bind, Res.quiet_ok, op_add_i, op_sub_i, b1_int, b1_abs, b1_lenl, b1_lent, b1_tupl, b1_tupt, b1_listt, b1_listl, lt_i, gt_i, le_i, ge_i, strict_0, strict_s, peek_0, peek_0l, peek_0d, peek_s, bindT_n, bindT_t, bindT_l, bindT_w, bindTs_n, bindTs_c, wipeS_nil, wipeS_cons, e_k, e_v, e_p, e_tup, e_lst, e_nil, e_cons, e_op, e_cmp, e_ch, e_and, e_or, e_not, e_neg, e_ite, e_isN, e_notN, e_ix, e_slf, e_slt, e_slb, e_rev, e_call, e_b1, e_b2, e_isi, e_rng, e_dnil, e_comp, e_dcomp, e_enm', e_zip', e_rl, e_idx, e_join, x_nil, x_cons, x_set, x_setO, x_unp, x_xp, x_ret, x_raise, x_ite, x_forB, x_app, x_tr, x_brk, x_cnt, x_pass, x_fr, x_wipe, x_par, evP_nil, evP_f, evP_t, parR_nil, parR_f, parR_t, x_aug, x_augix, x_setix, setixS_nat, x_extS, x_pop, augD_add, augD_sub, x_while, compR_nil, compR_mapL, compR_some, quiet_ite, in_natL, in_natT, notin_natL, notin_natT, eq_ii, ne_ii, eq_ss, ne_ss, sum_map, all_map, any_map, b2_max, b2_min, ix_0, ix_1, ix_2, ixl_0, ansR_rt, ansR_nx, ansR_ex, toSl_l, toSl_d, sl_tailT, sl_tailL, size_ok, sz_filterL, compG_t, rng_nat, rng_ab, shl_one, shr_nat, band_one, op_mod_i, op_fdiv_i, zipD_map, zipD_tail, add_tup, add_lst, rev_tup, rev_lst, mul_repT, if_true, if_false, ite_true, ite_false, Bool.not_true, Bool.not_false, Bool.false_eq_true, decide_eq_true_eq, decide_true, decide_false, Bool.and_true, Bool.true_and, Bool.or_true, Bool.true_or, Bool.and_false, Bool.false_and, Bool.or_false, Bool.false_or, reduceCtorEq, List.map_cons, List.map_nil, List.length_map, List.length_cons, List.length_nil, List.nil_append, List.cons_append, List.length_range, List.length_append, sz_filterR, Nat.reduceAdd, Int.cast_ofNat_Int, Int.reduceEq, Int.reduceLT, Int.reduceLE, forB, b_law_bundles_1, e1, e2, e3]
  rw [compR_okf (p := fun p => decide (draw / (p + 1) % m3 = 0)) (g := natD)]
  · by_cases hl : (pOf draw m3 many).length < 2
    · have hq : qOf draw m3 many = [draw % many, (draw % many + 1 + draw / 64 % (many - 1)) % many] := if_pos hl
      rw [hq] at s1
      have hl' : (((List.range many).filter fun p => decide (draw / (p + 1) % m3 = 0)).length : Int) < 2 := by unfold pOf at hl; omega
      have e6 : (draw : Int) % (many : Int) = ((draw % many : Nat) : Int) := (Int.natCast_emod _ _).symm
      have e7 : (((draw % many : Nat) : Int) + 1 + (draw : Int) / 64 % ((many : Int) - 1)) % (many : Int) = (((draw % many + 1 + draw / 64 % (many - 1)) % many : Nat) : Int) := by
        rw [show (many : Int) - 1 = ((many - 1 : Nat) : Int) by omega]
        push_cast
        rfl
      simp only [List.map_cons, List.map_nil] at s1
      simp -implicitDefEqProofs (disch := first | omega | (simp only [List.length_map, List.length_cons, List.length_nil, List.length_append, List.length_range, List.length_replicate, List.length_tail, List.length_reverse]; omega)) only [getS_0, getS_s, setS_0, setS_s, sr_ok, nx_then, rt_then, ex_then, bk_then, ct_then, ex_sr, asBool_b, asInt_i, items_l, items_t, Res.ok_bind, Res.ex_bind, Res.bad_bind, Res.quiet_ok, op_add_i, op_sub_i, b1_int, b1_abs, b1_lenl, b1_lent, b1_tupl, b1_tupt, b1_listt, b1_listl, lt_i, gt_i, le_i, ge_i, strict_0, strict_s, peek_0, peek_0l, peek_0d, peek_s, bindT_n, bindT_t, bindT_l, bindT_w, bindTs_n, bindTs_c, wipeS_nil, wipeS_cons, e_k, e_v, e_p, e_tup, e_lst, e_nil, e_cons, e_op, e_cmp, e_ch, e_and, e_or, e_not, e_neg, e_ite, e_isN, e_notN, e_ix, e_slf, e_slt, e_slb, e_rev, e_call, e_b1, e_b2, e_isi, e_rng, e_dnil, e_comp, e_dcomp, e_enm', e_zip', e_rl, e_idx, e_join, x_nil, x_cons, x_set, x_setO, x_unp, x_xp, x_ret, x_raise, x_ite, x_forB, x_app, x_tr, x_brk, x_cnt, x_pass, x_fr, x_wipe, x_par, evP_nil, evP_f, evP_t, parR_nil, parR_f, parR_t, x_aug, x_augix, x_setix, setixS_nat, x_extS, x_pop, augD_add, augD_sub, x_while, compR_nil, compR_mapL, compR_some, quiet_ite, in_natL, in_natT, notin_natL, notin_natT, eq_ii, ne_ii, eq_ss, ne_ss, sum_map, all_map, any_map, b2_max, b2_min, ix_0, ix_1, ix_2, ixl_0, ansR_rt, ansR_nx, ansR_ex, toSl_l, toSl_d, sl_tailT, sl_tailL, size_ok, sz_filterL, compG_t, rng_nat, rng_ab, shl_one, shr_nat, band_one, op_mod_i, op_fdiv_i, zipD_map, zipD_tail, add_tup, add_lst, rev_tup, rev_lst, mul_repT, if_true, if_false, ite_true, ite_false, Bool.not_true, Bool.not_false, Bool.false_eq_true, decide_eq_true_eq, decide_true, decide_false, Bool.and_true, Bool.true_and, Bool.or_true, Bool.true_or, Bool.and_false, Bool.false_and, Bool.or_false, Bool.false_or, reduceCtorEq, List.map_cons, List.map_nil, List.length_map, List.length_cons, List.length_nil, List.nil_append, List.cons_append, List.length_range, List.length_append, sz_filterR, Nat.reduceAdd, Int.cast_ofNat_Int, Int.reduceEq, Int.reduceLT, Int.reduceLE, hl', e6, e7, s1, h5, e4, ea]
    · have hq : qOf draw m3 many = pOf draw m3 many := if_neg hl
      rw [hq] at s1
      have hl' : ¬ (((List.range many).filter fun p => decide (draw / (p + 1) % m3 = 0)).length : Int) < 2 := by unfold pOf at hl; omega
      unfold pOf at s1
      simp -implicitDefEqProofs (disch := first | omega | (simp only [List.length_map, List.length_cons, List.length_nil, List.length_append, List.length_range, List.length_replicate, List.length_tail, List.length_reverse]; omega)) only [getS_0, getS_s, setS_0, setS_s, sr_ok, nx_then, rt_then, ex_then, bk_then, ct_then, ex_sr, asBool_b, asInt_i, items_l, items_t, Res.ok_bind, Res.ex_bind, Res.bad_bind, Res.quiet_ok, op_add_i, op_sub_i, b1_int, b1_abs, b1_lenl, b1_lent, b1_tupl, b1_tupt, b1_listt, b1_listl, lt_i, gt_i, le_i, ge_i, strict_0, strict_s, peek_0, peek_0l, peek_0d, peek_s, bindT_n, bindT_t, bindT_l, bindT_w, bindTs_n, bindTs_c, wipeS_nil, wipeS_cons, e_k, e_v, e_p, e_tup, e_lst, e_nil, e_cons, e_op, e_cmp, e_ch, e_and, e_or, e_not, e_neg, e_ite, e_isN, e_notN, e_ix, e_slf, e_slt, e_slb, e_rev, e_call, e_b1, e_b2, e_isi, e_rng, e_dnil, e_comp, e_dcomp, e_enm', e_zip', e_rl, e_idx, e_join, x_nil, x_cons, x_set, x_setO, x_unp, x_xp, x_ret, x_raise, x_ite, x_forB, x_app, x_tr, x_brk, x_cnt, x_pass, x_fr, x_wipe, x_par, evP_nil, evP_f, evP_t, parR_nil, parR_f, parR_t, x_aug, x_augix, x_setix, setixS_nat, x_extS, x_pop, augD_add, augD_sub, x_while, compR_nil, compR_mapL, compR_some, quiet_ite, in_natL, in_natT, notin_natL, notin_natT, eq_ii, ne_ii, eq_ss, ne_ss, sum_map, all_map, any_map, b2_max, b2_min, ix_0, ix_1, ix_2, ixl_0, ansR_rt, ansR_nx, ansR_ex, toSl_l, toSl_d, sl_tailT, sl_tailL, size_ok, sz_filterL, compG_t, rng_nat, rng_ab, shl_one, shr_nat, band_one, op_mod_i, op_fdiv_i, zipD_map, zipD_tail, add_tup, add_lst, rev_tup, rev_lst, mul_repT, if_true, if_false, ite_true, ite_false, Bool.not_true, Bool.not_false, Bool.false_eq_true, decide_eq_true_eq, decide_true, decide_false, Bool.and_true, Bool.true_and, Bool.or_true, Bool.true_or, Bool.and_false, Bool.false_and, Bool.or_false, Bool.false_or, reduceCtorEq, List.map_cons, List.map_nil, List.length_map, List.length_cons, List.length_nil, List.nil_append, List.cons_append, List.length_range, List.length_append, sz_filterR, Nat.reduceAdd, Int.cast_ofNat_Int, Int.reduceEq, Int.reduceLT, Int.reduceLE, hl', s1, h5, e4, ea]
  · intro p hp
    have hp := List.mem_range.mp hp
    have e5 : ((draw : Int) / ((p : Int) + 1) % (m3 : Int)) = ((draw / (p + 1) % m3 : Nat) : Int) := by
      rw [Int.natCast_emod, Int.natCast_ediv]; rfl
    have e6 : (((draw / (p + 1) % m3 : Nat) : Int) = 0) = (draw / (p + 1) % m3 = 0) := propext (by omega)
    simp -implicitDefEqProofs (disch := first | omega | (simp only [List.length_map, List.length_cons, List.length_nil, List.length_append, List.length_range, List.length_replicate, List.length_tail, List.length_reverse]; omega)) only [getS_0, getS_s, setS_0, setS_s, sr_ok, nx_then, rt_then, ex_then, bk_then, ct_then, ex_sr, asBool_b, asInt_i, items_l, items_t, Res.ok_bind, Res.ex_bind, Res.bad_bind, Res.quiet_ok, op_add_i, op_sub_i, b1_int, b1_abs, b1_lenl, b1_lent, b1_tupl, b1_tupt, b1_listt, b1_listl, lt_i, gt_i, le_i, ge_i, strict_0, strict_s, peek_0, peek_0l, peek_0d, peek_s, bindT_n, bindT_t, bindT_l, bindT_w, bindTs_n, bindTs_c, wipeS_nil, wipeS_cons, e_k, e_v, e_p, e_tup, e_lst, e_nil, e_cons, e_op, e_cmp, e_ch, e_and, e_or, e_not, e_neg, e_ite, e_isN, e_notN, e_ix, e_slf, e_slt, e_slb, e_rev, e_call, e_b1, e_b2, e_isi, e_rng, e_dnil, e_comp, e_dcomp, e_enm', e_zip', e_rl, e_idx, e_join, x_nil, x_cons, x_set, x_setO, x_unp, x_xp, x_ret, x_raise, x_ite, x_forB, x_app, x_tr, x_brk, x_cnt, x_pass, x_fr, x_wipe, x_par, evP_nil, evP_f, evP_t, parR_nil, parR_f, parR_t, x_aug, x_augix, x_setix, setixS_nat, x_extS, x_pop, augD_add, augD_sub, x_while, compR_nil, compR_mapL, compR_some, quiet_ite, in_natL, in_natT, notin_natL, notin_natT, eq_ii, ne_ii, eq_ss, ne_ss, sum_map, all_map, any_map, b2_max, b2_min, ix_0, ix_1, ix_2, ixl_0, ansR_rt, ansR_nx, ansR_ex, toSl_l, toSl_d, sl_tailT, sl_tailL, size_ok, sz_filterL, compG_t, rng_nat, rng_ab, shl_one, shr_nat, band_one, op_mod_i, op_fdiv_i, zipD_map, zipD_tail, add_tup, add_lst, rev_tup, rev_lst, mul_repT, if_true, if_false, ite_true, ite_false, Bool.not_true, Bool.not_false, Bool.false_eq_true, decide_eq_true_eq, decide_true, decide_false, Bool.and_true, Bool.true_and, Bool.or_true, Bool.true_or, Bool.and_false, Bool.false_and, Bool.or_false, Bool.false_or, reduceCtorEq, List.map_cons, List.map_nil, List.length_map, List.length_cons, List.length_nil, List.nil_append, List.cons_append, List.length_range, List.length_append, sz_filterR, Nat.reduceAdd, Int.cast_ofNat_Int, Int.reduceEq, Int.reduceLT, Int.reduceLE, compG, h3, e5, e6]
    split <;> rfl
theorem kinds3 (κ : Nat) (h : κ < 3) : ∃ m3 m5 m6 : Nat, ixD (.list [.int 3, .int 4, .int 2]) (.int κ) = .ok (.int m3) ∧ 0 < m3 ∧ ixD (.list [.int 5, .int 60, .int 3]) (.int κ) = .ok (.int m5) ∧ 0 < m5 ∧ m5 ≤ 60 ∧ ixD (.list [.int 6, .int 14, .int 40]) (.int κ) = .ok (.int m6) ∧ 0 < m6 ∧ m6 ≤ 40 := by
  have : κ = 0 ∨ κ = 1 ∨ κ = 2 := by omega
  rcases this with rfl | rfl | rfl
  · exact ⟨3, 5, 6, rfl, by decide, rfl, by decide, by decide, rfl, by decide, by decide⟩
  · exact ⟨4, 60, 14, rfl, by decide, rfl, by decide, by decide, rfl, by decide, by decide⟩
  · exact ⟨2, 3, 40, rfl, by decide, rfl, by decide, by decide, rfl, by decide, by decide⟩
theorem law_bundles_ok60 (ds : List Nat) (at_ most : Nat) (h : at_ + 16 ≤ ds.length) (h1 : 1 ≤ most) (h9 : most ≤ 9) : ∃ n ws, (Good n ws ∧ ∀ w ∈ ws, w.2 ≤ 60) ∧ n ≤ most ∧ EE m (k + 1) i_law_bundles [.list (ds.map natD), .int at_, .int most] = .ok (bD n ws) := by
  have e1 := ixL_nat natD ds at_ (by omega)
  have e2 := ixL_nat natD ds (at_ + 1) (by omega)
  rw [Int.natCast_add, show ((1 : Nat) : Int) = 1 from rfl] at e2
  obtain ⟨many, hmany⟩ : ∃ many, many = 1 + ds[at_] % most := ⟨_, rfl⟩
  obtain ⟨κ, hκ⟩ : ∃ κ, κ = ds[at_ + 1] % 3 := ⟨_, rfl⟩
  have hlt : ds[at_] % most < most := Nat.mod_lt _ (by omega)
  obtain ⟨m3, m5, m6, k3, p3, k5, p5, q5, k6, p6, q6⟩ := kinds3 κ (by omega)
  have e3 : (1 : Int) + (ds[at_] : Nat) % (most : Int) = (many : Int) := by rw [hmany, Int.natCast_add, Int.natCast_emod]; rfl
  have e4 : ((ds[at_ + 1] : Nat) : Int) % 3 = (κ : Int) := by omega
  obtain ⟨N, hN⟩ : ∃ N, N = ds[at_ + 1] / 4 % m6 := ⟨_, rfl⟩
  have hN2 : N < m6 := by rw [hN]; exact Nat.mod_lt _ p6
  have e5 : ((ds[at_ + 1] : Nat) : Int) / 4 % (m6 : Int) = (N : Int) := by rw [hN, Int.natCast_emod, Int.natCast_ediv]; rfl
  by_cases hm : 1 < many
  · obtain ⟨σ', f1, ws, rfl, f2, f3⟩ := forR_inv (f := forB (EE m k) m.sub fuel (.n 6) b_law_bundles_1) (P := fun i σ => ∃ ws : List Wire, σ = [.fz (.list (ds.map natD)), .fz (.int at_), .fz (.int most), .fz (.tuple (ws.map wD)), .fz (.int many), .fz (.int κ), .un, .un, .un, .un] ∧ ws.length = i ∧ ∀ w ∈ ws, (GoodW many w ∧ w.2 ≤ 60)) ((List.range N).map natD) 0
      [.fz (.list (ds.map natD)), .fz (.int at_), .fz (.int most), .fz (.tuple []), .fz (.int many), .fz (.int κ), .un, .un, .un, .un] (fun j d σ hj hp => by
        obtain ⟨ws, rfl, hl, hg⟩ := hp
        rw [List.getElem?_map] at hj
        obtain ⟨x, hx, rfl⟩ := Option.map_eq_some_iff.mp hj
        obtain ⟨hx1, hx2⟩ := List.getElem?_eq_some_iff.mp hx
        rw [List.length_range] at hx1
        rw [List.getElem_range] at hx2
        subst hx2
        obtain ⟨w, g1, g2⟩ := bundles_turn (m := m) (k := k) ds at_ many κ m3 m5 j (.int most) ws h (by omega) (by omega) (by omega) (by omega) k3 p3 k5 p5 q5
        exact ⟨_, g2, ws ++ [w], rfl, by simp [hl], fun x hx => by
          rcases List.mem_append.mp hx with hx | hx
          · exact hg x hx
          · rw [List.mem_singleton.mp hx]; exact g1⟩) ⟨[], rfl, rfl, fun w h => nomatch h⟩
    rw [List.length_map, List.length_range] at f2
    refine ⟨many, ws, ⟨⟨by omega, by omega, by omega, fun w hw => (f3 w hw).1⟩, fun w hw => (f3 w hw).2⟩, by omega, ?_⟩
    rw [r_law_bundles]
    simp -implicitDefEqProofs (disch := first | omega | (simp only [List.length_map, List.length_cons, List.length_nil, List.length_append, List.length_range, List.length_replicate, List.length_tail, List.length_reverse]; omega)) only [getS_0, getS_s, setS_0, setS_s, sr_ok, nx_then, rt_then, ex_then, bk_then, ct_then, ex_sr, asBool_b, asInt_i, items_l, items_t, Res.ok_bind, Res.ex_bind, Res.bad_bind, Res.quiet_ok, op_add_i, op_sub_i, b1_int, b1_abs, b1_lenl, b1_lent, b1_tupl, b1_tupt, b1_listt, b1_listl, lt_i, gt_i, le_i, ge_i, strict_0, strict_s, peek_0, peek_0l, peek_0d, peek_s, bindT_n, bindT_t, bindT_l, bindT_w, bindTs_n, bindTs_c, wipeS_nil, wipeS_cons, e_k, e_v, e_p, e_tup, e_lst, e_nil, e_cons, e_op, e_cmp, e_ch, e_and, e_or, e_not, e_neg, e_ite, e_isN, e_notN, e_ix, e_slf, e_slt, e_slb, e_rev, e_call, e_b1, e_b2, e_isi, e_rng, e_dnil, e_comp, e_dcomp, e_enm', e_zip', e_rl, e_idx, e_join, x_nil, x_cons, x_set, x_setO, x_unp, x_xp, x_ret, x_raise, x_ite, x_forB, x_app, x_tr, x_brk, x_cnt, x_pass, x_fr, x_wipe, x_par, evP_nil, evP_f, evP_t, parR_nil, parR_f, parR_t, x_aug, x_augix, x_setix, setixS_nat, x_extS, x_pop, augD_add, augD_sub, x_while, compR_nil, compR_mapL, compR_some, quiet_ite, in_natL, in_natT, notin_natL, notin_natT, eq_ii, ne_ii, eq_ss, ne_ss, sum_map, all_map, any_map, b2_max, b2_min, ix_0, ix_1, ix_2, ixl_0, ansR_rt, ansR_nx, ansR_ex, toSl_l, toSl_d, sl_tailT, sl_tailL, size_ok, sz_filterL, compG_t, rng_nat, rng_ab, shl_one, shr_nat, band_one, op_mod_i, op_fdiv_i, zipD_map, zipD_tail, add_tup, add_lst, rev_tup, rev_lst, mul_repT, if_true, if_false, ite_true, ite_false, Bool.not_true, Bool.not_false, Bool.false_eq_true, decide_eq_true_eq, decide_true, decide_false, Bool.and_true, Bool.true_and, Bool.or_true, Bool.true_or, Bool.and_false, Bool.false_and, Bool.or_false, Bool.false_or, reduceCtorEq, List.map_cons, List.map_nil, List.length_map, List.length_cons, List.length_nil, List.nil_append, List.cons_append, List.length_range, List.length_append, sz_filterR, Nat.reduceAdd, Int.cast_ofNat_Int, Int.reduceEq, Int.reduceLT, Int.reduceLE, b_law_bundles, e1, e2, e3, e4, show (1 : Int) < many by omega, k6, e5, f1]
    rfl
  · refine ⟨many, [], ⟨⟨by omega, by omega, by simp, fun w h => nomatch h⟩, fun w h => nomatch h⟩, by omega, ?_⟩
    rw [r_law_bundles]
    simp -implicitDefEqProofs (disch := first | omega | (simp only [List.length_map, List.length_cons, List.length_nil, List.length_append, List.length_range, List.length_replicate, List.length_tail, List.length_reverse]; omega)) only [getS_0, getS_s, setS_0, setS_s, sr_ok, nx_then, rt_then, ex_then, bk_then, ct_then, ex_sr, asBool_b, asInt_i, items_l, items_t, Res.ok_bind, Res.ex_bind, Res.bad_bind, Res.quiet_ok, op_add_i, op_sub_i, b1_int, b1_abs, b1_lenl, b1_lent, b1_tupl, b1_tupt, b1_listt, b1_listl, lt_i, gt_i, le_i, ge_i, strict_0, strict_s, peek_0, peek_0l, peek_0d, peek_s, bindT_n, bindT_t, bindT_l, bindT_w, bindTs_n, bindTs_c, wipeS_nil, wipeS_cons, e_k, e_v, e_p, e_tup, e_lst, e_nil, e_cons, e_op, e_cmp, e_ch, e_and, e_or, e_not, e_neg, e_ite, e_isN, e_notN, e_ix, e_slf, e_slt, e_slb, e_rev, e_call, e_b1, e_b2, e_isi, e_rng, e_dnil, e_comp, e_dcomp, e_enm', e_zip', e_rl, e_idx, e_join, x_nil, x_cons, x_set, x_setO, x_unp, x_xp, x_ret, x_raise, x_ite, x_forB, x_app, x_tr, x_brk, x_cnt, x_pass, x_fr, x_wipe, x_par, evP_nil, evP_f, evP_t, parR_nil, parR_f, parR_t, x_aug, x_augix, x_setix, setixS_nat, x_extS, x_pop, augD_add, augD_sub, x_while, compR_nil, compR_mapL, compR_some, quiet_ite, in_natL, in_natT, notin_natL, notin_natT, eq_ii, ne_ii, eq_ss, ne_ss, sum_map, all_map, any_map, b2_max, b2_min, ix_0, ix_1, ix_2, ixl_0, ansR_rt, ansR_nx, ansR_ex, toSl_l, toSl_d, sl_tailT, sl_tailL, size_ok, sz_filterL, compG_t, rng_nat, rng_ab, shl_one, shr_nat, band_one, op_mod_i, op_fdiv_i, zipD_map, zipD_tail, add_tup, add_lst, rev_tup, rev_lst, mul_repT, if_true, if_false, ite_true, ite_false, Bool.not_true, Bool.not_false, Bool.false_eq_true, decide_eq_true_eq, decide_true, decide_false, Bool.and_true, Bool.true_and, Bool.or_true, Bool.true_or, Bool.and_false, Bool.false_and, Bool.or_false, Bool.false_or, reduceCtorEq, List.map_cons, List.map_nil, List.length_map, List.length_cons, List.length_nil, List.nil_append, List.cons_append, List.length_range, List.length_append, sz_filterR, Nat.reduceAdd, Int.cast_ofNat_Int, Int.reduceEq, Int.reduceLT, Int.reduceLE, b_law_bundles, e1, e2, e3, e4, show ¬ (1 : Int) < many by omega]
    rfl
theorem law_bundles_ok (ds : List Nat) (at_ most : Nat) (h : at_ + 16 ≤ ds.length) (h1 : 1 ≤ most) (h9 : most ≤ 9) : ∃ n ws, Good n ws ∧ n ≤ most ∧ EE m (k + 1) i_law_bundles [.list (ds.map natD), .int at_, .int most] = .ok (bD n ws) := by
  obtain ⟨n, ws, h1, h2, h3⟩ := law_bundles_ok60 (m := m) (k := k) ds at_ most h h1 h9
  exact ⟨n, ws, h1.1, h2, h3⟩
theorem law_draws_ok (ns : List Int) (h : ns.length ≤ 63) (many : Nat) (hm : many ≤ 100000) : ∃ ds : List Nat, EE m (k + 1) i_law_draws [scrD ns, .int many] = .ok (.list (ds.map natD)) ∧ ds.length = many := by
  obtain ⟨dr, e1, e2, e3⟩ := draws_ok (fe := EE m k) (sub := m.sub) (n := fuel) ns h many hm
  refine ⟨dr.map Int.toNat, ?_, by simpa using e2⟩
  have e : EE m (k + 1) i_law_draws [scrD ns, .int many] = runD (EE m k) m.sub fuel dDraws [scrD ns, .int many] := by
    unfold EE
    rw [feN_succ (d := d_law_draws) rfl]
    rfl
  rw [e, e1, List.map_map]
  congr 2
  apply List.map_congr_left
  intro d hd
  have := (e3 d hd).1
  show PyData.int d = PyData.int ((d.toNat : Nat) : Int)
  rw [Int.toNat_of_nonneg this]
end Ord

namespace BW
open PySem PySem.W L2
/-! ### least of pairs -/
abbrev pE (p : Int × Nat) : D := .tuple [.int p.1, natD p.2]
def ltP (p q : Int × Nat) : Bool := decide (p.1 < q.1) || (decide (p.1 = q.1) && decide (p.2 < q.2))
theorem eqv_int (i j : Int) : PyData.eqv (.int i) (.int j) = decide (i = j) := by
  show (i == j) = decide (i = j)
  by_cases h : i = j
  · simp [h]
  · simp [h]
theorem dataLt_ii (i j : Int) : dataLt (.int i) (.int j) = decide (i < j) := by
  have h := dataLt_int i j
  exact h
theorem dataLt_pE (p q : Int × Nat) : dataLt (pE p) (pE q) = ltP p q := by
  have h := dataLt_pair (x := .int p.1) (y := natD p.2) (x' := .int q.1) (y' := natD q.2) rfl rfl
  show dataLt (.tuple [.int p.1, natD p.2]) (.tuple [.int q.1, natD q.2]) = _
  rw [h, eqv_int, eqv_int, dataLt_ii, dataLt_ii]
  unfold ltP
  by_cases h1 : p.1 = q.1
  · by_cases h2 : p.2 = q.2
    · simp [h1, h2]
    · have h3 : ¬ (p.2 : Int) = q.2 := by omega
      simp [h1, h3]
  · simp [h1]
def minP (a : Int × Nat) (L : List (Int × Nat)) : Int × Nat := L.foldl (fun m x => if ltP x m then x else m) a
theorem minD_pE (a : Int × Nat) : ∀ L : List (Int × Nat), minD (pE a) (L.map pE) = pE (minP a L) := fun L => by
  unfold minD minP
  induction L generalizing a with
  | nil => rfl
  | cons x L ih =>
    rw [List.map_cons, List.foldl_cons, List.foldl_cons, dataLt_pE, ← ih]
    congr 1
    split <;> rfl
theorem minP_fst (a : Int × Nat) : ∀ L : List (Int × Nat), (minP a L).1 = (L.map (·.1)).foldl min a.1 := fun L => by
  unfold minP
  induction L generalizing a with
  | nil => rfl
  | cons x L ih =>
    rw [List.foldl_cons, ih, List.map_cons, List.foldl_cons]
    congr 1
    unfold ltP
    by_cases h : x.1 < a.1
    · simp [h]; omega
    · by_cases h2 : x.1 = a.1
      · simp only [h, h2]
        split <;> simp_all <;> omega
      · simp [h, h2]; omega
theorem comp_pE (L : List (Int × Nat)) : (comparable (L.map pE) && (L.map pE).all notNone) = true := by
  unfold comparable
  rw [Bool.and_eq_true, Bool.and_eq_true]
  refine ⟨⟨?_, (Sm.list (f := pE) (L := L) fun a _ => Sm.tuple2 (Sm.int _) (Sm.int _)).sm (by decide)⟩, ?_⟩
  · rw [List.all_eq_true]
    intro a ha
    rw [List.all_eq_true]
    intro b hb
    obtain ⟨i, _, rfl⟩ := List.mem_map.mp ha
    obtain ⟨j, _, rfl⟩ := List.mem_map.mp hb
    rfl
  · rw [List.all_eq_true]
    intro a ha
    obtain ⟨i, _, rfl⟩ := List.mem_map.mp ha
    rfl
theorem min_pairs (a : Int × Nat) (L : List (Int × Nat)) : b1D .min (.list ((a :: L).map pE)) = .ok (pE (minP a L)) := by
  have h := comp_pE (a :: L)
  have e : b1D .min (.list ((a :: L).map pE)) = if (comparable ((a :: L).map pE) && ((a :: L).map pE).all notNone) = true then Res.ok (minD (pE a) (L.map pE)) else .bad := rfl
  rw [e, if_pos h, minD_pE]
end BW

namespace Ord
open PySem PySem.W L2 BW
variable {m : Md} {k : Nat}
/-! ### orders -/
structure IsO (n : Nat) (L : List Nat) : Prop where
  nd : L.Nodup
  len : L.length = n
  lt : ∀ p ∈ L, p < n
theorem IsO.mem {n : Nat} {L : List Nat} (h : IsO n L) {p : Nat} (hp : p < n) : p ∈ L := by
  apply Classical.byContradiction
  intro hn
  have := nodup_len (A := p :: L) (B := List.range n) (List.nodup_cons.mpr ⟨hn, h.nd⟩) fun x hx => by
    rcases List.mem_cons.mp hx with rfl | hx
    · exact List.mem_range.mpr hp
    · exact List.mem_range.mpr (h.lt x hx)
  simp [h.len] at this
  omega
theorem idx_of {L : List Nat} {p : Nat} (h : p ∈ L) : L.idxOf p < L.length ∧ L.getD (L.idxOf p) 0 = p ∧ ∀ j, j < L.idxOf p → L.getD j 0 ≠ p := by
  have h1 : L.idxOf p < L.length := List.idxOf_lt_length_iff.mpr h
  refine ⟨h1, ?_, fun j hj => ?_⟩
  · rw [List.getD_eq_getElem?_getD, List.getElem?_eq_getElem h1]
    simp
  · have hj2 : j < L.length := by omega
    rw [List.getD_eq_getElem?_getD, List.getElem?_eq_getElem hj2]
    have := List.not_of_lt_findIdx (p := (· == p)) (xs := L) hj
    simpa using this
theorem eqv_nat (a b : Nat) : PyData.eqv (natD a) (natD b) = decide (a = b) := by
  rw [eqv_int]
  exact decide_eq_decide.mpr (by omega)
theorem canLay_ints : ∀ L : List Int, PyData.canLayAll0 (L.map .int) = true
  | [] => rfl
  | i :: L => by
    rw [List.map_cons, PyData.canLayAll0, canLay_ints L]; rfl
theorem shaped_ints (L : List Int) : SeqAt.shaped (.list (L.map .int)) = true := by
  unfold SeqAt.shaped
  have h1 := canLay_ints L
  have h2 : PyData.depthAll (L.map .int) ≤ 0 := depthAll_map fun a _ => Nat.le_refl _
  have h3 : (PyData.list (L.map .int)).canLay0 = true := by rw [PyData.canLay0]; exact h1
  have h4 : (PyData.list (L.map .int)).depth ≤ 64 := by rw [PyData.depth]; omega
  rw [h3, decide_eq_true h4]; rfl
/-- xs.index(y) of ints -/
theorem idxD_int {L : List Int} {x : Int} (h : x ∈ L) : idxD (L.map .int) (.int x) = .ok (natD (L.idxOf x)) := by
  unfold idxD
  have c1 := shaped_ints L
  have c2 : SeqAt.shaped (.int x) = true := rfl
  have c3 : BW.sm (.list (L.map .int)) = true := (Sm.list fun i _ => Sm.int i).sm (by decide)
  have c4 : BW.sm (.int x) = true := (Sm.int x).sm (by decide)
  have h1 : L.idxOf x < L.length := List.idxOf_lt_length_iff.mpr h
  have hf : (L.map PyData.int).findIdx? (fun d => PyData.eqv d (.int x)) = some (L.idxOf x) := by
    rw [List.findIdx?_eq_some_iff_getElem]
    refine ⟨by simpa using h1, ?_, fun j hj => ?_⟩
    · rw [List.getElem_map, eqv_int]; simp
    · rw [List.getElem_map, eqv_int]
      have := List.not_of_lt_findIdx (p := (· == x)) (xs := L) hj
      simpa using this
  rw [c1, c2, c3, c4, hf]
  rfl
theorem idxOf_cast (L : List Nat) (p : Nat) : (L.map fun k : Nat => (k : Int)).idxOf (p : Int) = L.idxOf p := by
  induction L with
  | nil => rfl
  | cons a L ih =>
    rw [List.map_cons, List.idxOf_cons, List.idxOf_cons, ih]
    by_cases e : a = p
    · subst e; simp
    · have e2 : ¬ (a : Int) = (p : Int) := by omega
      have h1 : (a == p) = false := by simpa using e
      have h2 : ((a : Int) == (p : Int)) = false := by simpa using e2
      rw [h1, h2]
/-- order.index(part) -/
theorem idxD_nat {L : List Nat} {p : Nat} (h : p ∈ L) : idxD (L.map natD) (natD p) = .ok (natD (L.idxOf p)) := by
  have e : L.map natD = (L.map fun k : Nat => (k : Int)).map PyData.int := by rw [List.map_map]; rfl
  rw [e, idxD_int (List.mem_map.mpr ⟨p, h, rfl⟩), idxOf_cast]
/-- places[part] -/
def plK (L : List Nat) : List (BW.D × BW.D) := (List.range L.length).map fun i => (natD (L.getD i 0), natD i)
theorem plK_ix {L : List Nat} {p : Nat} (h : p ∈ L) : ixD (.dict (plK L)) (natD p) = .ok (natD (L.idxOf p)) := by
  obtain ⟨h1, h2, h3⟩ := idx_of h
  have hok : okKeys (plK L) = true := by
    unfold okKeys plK
    rw [List.all_map, List.all_eq_true]
    intro i _
    rfl
  have hf : (plK L).find? (fun q => PyData.eqv q.1 (natD p)) = some (natD p, natD (L.idxOf p)) := by
    unfold plK
    rw [List.find?_map]
    have : (List.range L.length).find? ((fun q : BW.D × BW.D => PyData.eqv q.1 (natD p)) ∘ fun i => (natD (L.getD i 0), natD i)) = some (L.idxOf p) := by
      rw [List.find?_range_eq_some]
      refine ⟨?_, List.mem_range.mpr h1, fun j hj => ?_⟩
      · show PyData.eqv (natD (L.getD (L.idxOf p) 0)) (natD p) = true
        rw [eqv_nat, h2]; simp
      · show (!PyData.eqv (natD (L.getD j 0)) (natD p)) = true
        rw [eqv_nat, decide_eq_false (h3 j hj)]; rfl
    rw [this]
    show some (natD (L.getD (L.idxOf p) 0), natD (L.idxOf p)) = _
    rw [h2]
  show (if okKeys (plK L) = true then (match (plK L).find? (fun q => PyData.eqv q.1 (natD p)) with | some q => Res.ok q.2 | none => .bad) else .bad) = _
  rw [if_pos hok, hf]
theorem dcompR_new {α : Type} {f : BW.D → Res (Option (BW.D × BW.D))} (enc : α → BW.D) (kf vf : α → BW.D) : ∀ (L : List α) (acc : List (BW.D × BW.D)), (∀ a ∈ L, f (enc a) = .ok (some (kf a, vf a))) → (∀ a ∈ L, (keyOf (kf a)).isSome = true) → acc.length + L.length ≤ 1000000 →
    (∀ a ∈ L, ∀ q ∈ acc, PyData.eqv q.1 (kf a) = false) → L.Pairwise (fun a b => PyData.eqv (kf a) (kf b) = false) → dcompR f (L.map enc) acc = .ok (acc ++ L.map fun a => (kf a, vf a))
  | [], acc, _, _, _, _, _ => by simp [dcompR]
  | a :: L, acc, h1, h2, hz, h3, h4 => by
    obtain ⟨h5, h6⟩ := List.pairwise_cons.mp h4
    rw [List.length_cons] at hz
    rw [List.map_cons, dcompR, h1 a (by simp)]
    have hput : putD acc (kf a) (vf a) = acc ++ [(kf a, vf a)] := by
      unfold putD
      rw [if_neg]
      intro hq
      obtain ⟨q, hq1, hq2⟩ := List.any_eq_true.mp hq
      rw [h3 a (by simp) q hq1] at hq2
      cases hq2
    simp only [Res.ok_bind, h2 a (by simp), size_ok (show acc.length ≤ 1000000 by omega), Bool.and_self, if_true, hput]
    rw [dcompR_new enc kf vf L _ (fun b hb => h1 b (by simp [hb])) (fun b hb => h2 b (by simp [hb])) (by simp; omega) (fun b hb q hq => by
      rcases List.mem_append.mp hq with hq | hq
      · exact h3 b (by simp [hb]) q hq
      · rw [List.mem_singleton.mp hq]; exact h5 b hb) h6]
    simp
/-- the span of a wire's parts -/
def hiL : List Int → Int
  | [] => 0
  | x :: r => r.foldl max x
def span (L P : List Nat) : Int := hiL (P.map fun p => (L.idxOf p : Int)) - minL (P.map fun p => (L.idxOf p : Int))
def Len (ws : List Wire) (L : List Nat) : Int := (ws.map fun w => w.2 * span L w.1).sum
theorem max_list {L : List Int} (h : L ≠ []) {x : BW.D} (hx : items x = some (L.map .int)) : b1D .max x = .ok (.int (hiL L)) := by
  cases L with
  | nil => exact absurd rfl h
  | cons a r => exact max_ints hx
theorem own_ints (L P : List Nat) : P.map (fun p => natD (L.idxOf p)) = (P.map fun p => (L.idxOf p : Int)).map .int := by rw [List.map_map]; rfl
theorem hi_of {P L : List Nat} (h : P ≠ []) : b1D .max (.list (P.map fun p => natD (L.idxOf p))) = .ok (.int (hiL (P.map fun p => (L.idxOf p : Int)))) := max_list (by simpa using h) (by rw [own_ints]; rfl)
theorem lo_of {P L : List Nat} (h : P ≠ []) : b1D .min (.list (P.map fun p => natD (L.idxOf p))) = .ok (.int (minL (P.map fun p => (L.idxOf p : Int)))) := min_list (by simpa using h) (by rw [own_ints]; rfl)
theorem small_w {n : Nat} {w : Wire} (g : GoodW n w) : smallI w.2 = true := by
  have := g.w1
  have := g.w2
  unfold smallI
  simp only [Bool.and_eq_true, decide_eq_true_eq]
  omega
theorem ne_parts {n : Nat} {w : Wire} (g : GoodW n w) : w.1 ≠ [] := fun e => by have := g.two; rw [e] at this; simp at this
theorem length_turn {n : Nat} {ws : List Wire} {L : List Nat} (ho : IsO n L) (hn : n ≤ 9) {w : Wire} (gw : GoodW n w) (a : Int) (s0 s1 s7 : Sl) :
    forB (EE m k) m.sub fuel (.t [.n 4, .n 5]) b_length_1 (wD w) [s0, s1, .od (plK L), .fz (.int a), .un, .un, .un, s7, .un] = .nx [s0, s1, .od (plK L), .fz (.int (a + w.2 * span L w.1)), .un, .un, .un, s7, .un] := by
  have h1 := ne_parts gw
  have hz : w.1.length ≤ 9 := Nat.le_trans (asc_len gw.asc gw.lt) hn
  simp -implicitDefEqProofs (disch := first | omega | (simp only [List.length_map, List.length_cons, List.length_nil, List.length_append, List.length_range, List.length_replicate, List.length_tail, List.length_reverse]; omega)) only [getS_0, getS_s, setS_0, setS_s, sr_ok, nx_then, rt_then, ex_then, bk_then, ct_then, ex_sr, asBool_b, asInt_i, items_l, items_t, Res.ok_bind, Res.ex_bind, Res.bad_bind, Res.quiet_ok, op_add_i, op_sub_i, b1_int, b1_abs, b1_lenl, b1_lent, b1_tupl, b1_tupt, b1_listt, b1_listl, lt_i, gt_i, le_i, ge_i, strict_0, strict_s, peek_0, peek_0l, peek_0d, peek_s, bindT_n, bindT_t, bindT_l, bindT_w, bindTs_n, bindTs_c, wipeS_nil, wipeS_cons, e_k, e_v, e_p, e_tup, e_lst, e_nil, e_cons, e_op, e_cmp, e_ch, e_and, e_or, e_not, e_neg, e_ite, e_isN, e_notN, e_ix, e_slf, e_slt, e_slb, e_rev, e_call, e_b1, e_b2, e_isi, e_rng, e_dnil, e_comp, e_dcomp, e_enm', e_zip', e_rl, e_idx, e_join, x_nil, x_cons, x_set, x_setO, x_unp, x_xp, x_ret, x_raise, x_ite, x_forB, x_app, x_tr, x_brk, x_cnt, x_pass, x_fr, x_wipe, x_par, evP_nil, evP_f, evP_t, parR_nil, parR_f, parR_t, x_aug, x_augix, x_setix, setixS_nat, x_extS, x_pop, augD_add, augD_sub, x_while, compR_nil, compR_mapL, compR_some, quiet_ite, in_natL, in_natT, notin_natL, notin_natT, eq_ii, ne_ii, eq_ss, ne_ss, sum_map, all_map, any_map, b2_max, b2_min, ix_0, ix_1, ix_2, ixl_0, ansR_rt, ansR_nx, ansR_ex, toSl_l, toSl_d, sl_tailT, sl_tailL, size_ok, sz_filterL, compG_t, rng_nat, rng_ab, shl_one, shr_nat, band_one, op_mod_i, op_fdiv_i, zipD_map, zipD_tail, add_tup, add_lst, rev_tup, rev_lst, mul_repT, if_true, if_false, ite_true, ite_false, Bool.not_true, Bool.not_false, Bool.false_eq_true, decide_eq_true_eq, decide_true, decide_false, Bool.and_true, Bool.true_and, Bool.or_true, Bool.true_or, Bool.and_false, Bool.false_and, Bool.or_false, Bool.false_or, reduceCtorEq, List.map_cons, List.map_nil, List.length_map, List.length_cons, List.length_nil, List.nil_append, List.cons_append, List.length_range, List.length_append, sz_filterR, Nat.reduceAdd, Int.cast_ofNat_Int, Int.reduceEq, Int.reduceLT, Int.reduceLE, forB, wD, b_length_1]
  rw [compR_ok (g := fun p => natD (L.idxOf p))]
  · simp -implicitDefEqProofs (disch := first | omega | (simp only [List.length_map, List.length_cons, List.length_nil, List.length_append, List.length_range, List.length_replicate, List.length_tail, List.length_reverse]; omega)) only [getS_0, getS_s, setS_0, setS_s, sr_ok, nx_then, rt_then, ex_then, bk_then, ct_then, ex_sr, asBool_b, asInt_i, items_l, items_t, Res.ok_bind, Res.ex_bind, Res.bad_bind, Res.quiet_ok, op_add_i, op_sub_i, b1_int, b1_abs, b1_lenl, b1_lent, b1_tupl, b1_tupt, b1_listt, b1_listl, lt_i, gt_i, le_i, ge_i, strict_0, strict_s, peek_0, peek_0l, peek_0d, peek_s, bindT_n, bindT_t, bindT_l, bindT_w, bindTs_n, bindTs_c, wipeS_nil, wipeS_cons, e_k, e_v, e_p, e_tup, e_lst, e_nil, e_cons, e_op, e_cmp, e_ch, e_and, e_or, e_not, e_neg, e_ite, e_isN, e_notN, e_ix, e_slf, e_slt, e_slb, e_rev, e_call, e_b1, e_b2, e_isi, e_rng, e_dnil, e_comp, e_dcomp, e_enm', e_zip', e_rl, e_idx, e_join, x_nil, x_cons, x_set, x_setO, x_unp, x_xp, x_ret, x_raise, x_ite, x_forB, x_app, x_tr, x_brk, x_cnt, x_pass, x_fr, x_wipe, x_par, evP_nil, evP_f, evP_t, parR_nil, parR_f, parR_t, x_aug, x_augix, x_setix, setixS_nat, x_extS, x_pop, augD_add, augD_sub, x_while, compR_nil, compR_mapL, compR_some, quiet_ite, in_natL, in_natT, notin_natL, notin_natT, eq_ii, ne_ii, eq_ss, ne_ss, sum_map, all_map, any_map, b2_max, b2_min, ix_0, ix_1, ix_2, ixl_0, ansR_rt, ansR_nx, ansR_ex, toSl_l, toSl_d, sl_tailT, sl_tailL, size_ok, sz_filterL, compG_t, rng_nat, rng_ab, shl_one, shr_nat, band_one, op_mod_i, op_fdiv_i, zipD_map, zipD_tail, add_tup, add_lst, rev_tup, rev_lst, mul_repT, if_true, if_false, ite_true, ite_false, Bool.not_true, Bool.not_false, Bool.false_eq_true, decide_eq_true_eq, decide_true, decide_false, Bool.and_true, Bool.true_and, Bool.or_true, Bool.true_or, Bool.and_false, Bool.false_and, Bool.or_false, Bool.false_or, reduceCtorEq, List.map_cons, List.map_nil, List.length_map, List.length_cons, List.length_nil, List.nil_append, List.cons_append, List.length_range, List.length_append, sz_filterR, Nat.reduceAdd, Int.cast_ofNat_Int, Int.reduceEq, Int.reduceLT, Int.reduceLE, hi_of (L := L) h1, lo_of (L := L) h1, op_mul_l _ _ (small_w gw)]
    rfl
  · intro p hp
    have := plK_ix (ho.mem (gw.lt p hp))
    simp -implicitDefEqProofs (disch := first | omega | (simp only [List.length_map, List.length_cons, List.length_nil, List.length_append, List.length_range, List.length_replicate, List.length_tail, List.length_reverse]; omega)) only [getS_0, getS_s, setS_0, setS_s, sr_ok, nx_then, rt_then, ex_then, bk_then, ct_then, ex_sr, asBool_b, asInt_i, items_l, items_t, Res.ok_bind, Res.ex_bind, Res.bad_bind, Res.quiet_ok, op_add_i, op_sub_i, b1_int, b1_abs, b1_lenl, b1_lent, b1_tupl, b1_tupt, b1_listt, b1_listl, lt_i, gt_i, le_i, ge_i, strict_0, strict_s, peek_0, peek_0l, peek_0d, peek_s, bindT_n, bindT_t, bindT_l, bindT_w, bindTs_n, bindTs_c, wipeS_nil, wipeS_cons, e_k, e_v, e_p, e_tup, e_lst, e_nil, e_cons, e_op, e_cmp, e_ch, e_and, e_or, e_not, e_neg, e_ite, e_isN, e_notN, e_ix, e_slf, e_slt, e_slb, e_rev, e_call, e_b1, e_b2, e_isi, e_rng, e_dnil, e_comp, e_dcomp, e_enm', e_zip', e_rl, e_idx, e_join, x_nil, x_cons, x_set, x_setO, x_unp, x_xp, x_ret, x_raise, x_ite, x_forB, x_app, x_tr, x_brk, x_cnt, x_pass, x_fr, x_wipe, x_par, evP_nil, evP_f, evP_t, parR_nil, parR_f, parR_t, x_aug, x_augix, x_setix, setixS_nat, x_extS, x_pop, augD_add, augD_sub, x_while, compR_nil, compR_mapL, compR_some, quiet_ite, in_natL, in_natT, notin_natL, notin_natT, eq_ii, ne_ii, eq_ss, ne_ss, sum_map, all_map, any_map, b2_max, b2_min, ix_0, ix_1, ix_2, ixl_0, ansR_rt, ansR_nx, ansR_ex, toSl_l, toSl_d, sl_tailT, sl_tailL, size_ok, sz_filterL, compG_t, rng_nat, rng_ab, shl_one, shr_nat, band_one, op_mod_i, op_fdiv_i, zipD_map, zipD_tail, add_tup, add_lst, rev_tup, rev_lst, mul_repT, if_true, if_false, ite_true, ite_false, Bool.not_true, Bool.not_false, Bool.false_eq_true, decide_eq_true_eq, decide_true, decide_false, Bool.and_true, Bool.true_and, Bool.or_true, Bool.true_or, Bool.and_false, Bool.false_and, Bool.or_false, Bool.false_or, reduceCtorEq, List.map_cons, List.map_nil, List.length_map, List.length_cons, List.length_nil, List.nil_append, List.cons_append, List.length_range, List.length_append, sz_filterR, Nat.reduceAdd, Int.cast_ofNat_Int, Int.reduceEq, Int.reduceLT, Int.reduceLE, this]
theorem length_ok {n : Nat} {ws : List Wire} (g : Good n ws) {L : List Nat} (ho : IsO n L) : EE m (k + 1) i_length [bD n ws, .tuple (L.map natD)] = .ok (.int (Len ws L)) := by
  rw [r_length]
  have h9 := g.n9
  have hl := ho.len
  have hf := forR_foldI (f := forB (EE m k) m.sub fuel (.t [.n 4, .n 5]) b_length_1) wD (fun a : Int => [.fz (bD n ws), .fz (.tuple (L.map natD)), .od (plK L), .fz (.int a), .un, .un, .un, .un, .un]) (fun a w => a + w.2 * span L w.1) (fun _ => True) ws 0 trivial fun w hw a _ => ⟨length_turn (ws := ws) ho h9 (g.ok w hw) a .., trivial⟩
  have hd : dcompR (dcompG (EE m k) (.v 8) (.v 7) (.t [.n 7, .n 8]) (.k (.bool true)) [7, 8] [.fz (bD n ws), .fz (.tuple (L.map natD)), .un, .un, .un, .un, .un, .un, .un]) (enumD 0 (L.map natD)) [] = .ok (plK L) := by
    rw [enumD_map natD 0]
    rw [dcompR_new (fun i => wpD [natD i, natD (L.getD i 0)]) (fun i => natD (L.getD i 0)) natD (List.range L.length) [] (fun i _ => by simp -implicitDefEqProofs (disch := first | omega | (simp only [List.length_map, List.length_cons, List.length_nil, List.length_append, List.length_range, List.length_replicate, List.length_tail, List.length_reverse]; omega)) only [getS_0, getS_s, setS_0, setS_s, sr_ok, nx_then, rt_then, ex_then, bk_then, ct_then, ex_sr, asBool_b, asInt_i, items_l, items_t, Res.ok_bind, Res.ex_bind, Res.bad_bind, Res.quiet_ok, op_add_i, op_sub_i, b1_int, b1_abs, b1_lenl, b1_lent, b1_tupl, b1_tupt, b1_listt, b1_listl, lt_i, gt_i, le_i, ge_i, strict_0, strict_s, peek_0, peek_0l, peek_0d, peek_s, bindT_n, bindT_t, bindT_l, bindT_w, bindTs_n, bindTs_c, wipeS_nil, wipeS_cons, e_k, e_v, e_p, e_tup, e_lst, e_nil, e_cons, e_op, e_cmp, e_ch, e_and, e_or, e_not, e_neg, e_ite, e_isN, e_notN, e_ix, e_slf, e_slt, e_slb, e_rev, e_call, e_b1, e_b2, e_isi, e_rng, e_dnil, e_comp, e_dcomp, e_enm', e_zip', e_rl, e_idx, e_join, x_nil, x_cons, x_set, x_setO, x_unp, x_xp, x_ret, x_raise, x_ite, x_forB, x_app, x_tr, x_brk, x_cnt, x_pass, x_fr, x_wipe, x_par, evP_nil, evP_f, evP_t, parR_nil, parR_f, parR_t, x_aug, x_augix, x_setix, setixS_nat, x_extS, x_pop, augD_add, augD_sub, x_while, compR_nil, compR_mapL, compR_some, quiet_ite, in_natL, in_natT, notin_natL, notin_natT, eq_ii, ne_ii, eq_ss, ne_ss, sum_map, all_map, any_map, b2_max, b2_min, ix_0, ix_1, ix_2, ixl_0, ansR_rt, ansR_nx, ansR_ex, toSl_l, toSl_d, sl_tailT, sl_tailL, size_ok, sz_filterL, compG_t, rng_nat, rng_ab, shl_one, shr_nat, band_one, op_mod_i, op_fdiv_i, zipD_map, zipD_tail, add_tup, add_lst, rev_tup, rev_lst, mul_repT, if_true, if_false, ite_true, ite_false, Bool.not_true, Bool.not_false, Bool.false_eq_true, decide_eq_true_eq, decide_true, decide_false, Bool.and_true, Bool.true_and, Bool.or_true, Bool.true_or, Bool.and_false, Bool.false_and, Bool.or_false, Bool.false_or, reduceCtorEq, List.map_cons, List.map_nil, List.length_map, List.length_cons, List.length_nil, List.nil_append, List.cons_append, List.length_range, List.length_append, sz_filterR, Nat.reduceAdd, Int.cast_ofNat_Int, Int.reduceEq, Int.reduceLT, Int.reduceLE, dcompG]) (fun i _ => rfl) (by simp; omega) (fun _ _ _ h => nomatch h) ?_]
    · rfl
    · refine List.Pairwise.imp_of_mem (fun {a b} ha hb hab => ?_) (List.pairwise_lt_range (n := L.length))
      rw [eqv_nat]
      apply decide_eq_false
      have ha := List.mem_range.mp ha
      have hb := List.mem_range.mp hb
      rw [List.getD_eq_getElem?_getD, List.getD_eq_getElem?_getD, List.getElem?_eq_getElem ha, List.getElem?_eq_getElem hb]
      simp only [Option.getD_some]
      intro e
      exact absurd ((List.pairwise_iff_getElem.mp ho.nd) a b ha hb hab) (fun q => q e)
  have hsum : ws.foldl (fun a w => a + w.2 * span L w.1) 0 = Len ws L := by
    rw [foldl_add (fun w => w.2 * span L w.1), Int.zero_add]; rfl
  have ix1 : ixD (bD n ws) (.int 1) = .ok (.tuple (ws.map wD)) := by unfold bD; simp
  simp -implicitDefEqProofs (disch := first | omega | (simp only [List.length_map, List.length_cons, List.length_nil, List.length_append, List.length_range, List.length_replicate, List.length_tail, List.length_reverse]; omega)) only [getS_0, getS_s, setS_0, setS_s, sr_ok, nx_then, rt_then, ex_then, bk_then, ct_then, ex_sr, asBool_b, asInt_i, items_l, items_t, Res.ok_bind, Res.ex_bind, Res.bad_bind, Res.quiet_ok, op_add_i, op_sub_i, b1_int, b1_abs, b1_lenl, b1_lent, b1_tupl, b1_tupt, b1_listt, b1_listl, lt_i, gt_i, le_i, ge_i, strict_0, strict_s, peek_0, peek_0l, peek_0d, peek_s, bindT_n, bindT_t, bindT_l, bindT_w, bindTs_n, bindTs_c, wipeS_nil, wipeS_cons, e_k, e_v, e_p, e_tup, e_lst, e_nil, e_cons, e_op, e_cmp, e_ch, e_and, e_or, e_not, e_neg, e_ite, e_isN, e_notN, e_ix, e_slf, e_slt, e_slb, e_rev, e_call, e_b1, e_b2, e_isi, e_rng, e_dnil, e_comp, e_dcomp, e_enm', e_zip', e_rl, e_idx, e_join, x_nil, x_cons, x_set, x_setO, x_unp, x_xp, x_ret, x_raise, x_ite, x_forB, x_app, x_tr, x_brk, x_cnt, x_pass, x_fr, x_wipe, x_par, evP_nil, evP_f, evP_t, parR_nil, parR_f, parR_t, x_aug, x_augix, x_setix, setixS_nat, x_extS, x_pop, augD_add, augD_sub, x_while, compR_nil, compR_mapL, compR_some, quiet_ite, in_natL, in_natT, notin_natL, notin_natT, eq_ii, ne_ii, eq_ss, ne_ss, sum_map, all_map, any_map, b2_max, b2_min, ix_0, ix_1, ix_2, ixl_0, ansR_rt, ansR_nx, ansR_ex, toSl_l, toSl_d, sl_tailT, sl_tailL, size_ok, sz_filterL, compG_t, rng_nat, rng_ab, shl_one, shr_nat, band_one, op_mod_i, op_fdiv_i, zipD_map, zipD_tail, add_tup, add_lst, rev_tup, rev_lst, mul_repT, if_true, if_false, ite_true, ite_false, Bool.not_true, Bool.not_false, Bool.false_eq_true, decide_eq_true_eq, decide_true, decide_false, Bool.and_true, Bool.true_and, Bool.or_true, Bool.true_or, Bool.and_false, Bool.false_and, Bool.or_false, Bool.false_or, reduceCtorEq, List.map_cons, List.map_nil, List.length_map, List.length_cons, List.length_nil, List.nil_append, List.cons_append, List.length_range, List.length_append, sz_filterR, Nat.reduceAdd, Int.cast_ofNat_Int, Int.reduceEq, Int.reduceLT, Int.reduceLE, b_length, hd, ix1, hf.1, hsum]
theorem law_length_ok {n : Nat} {ws : List Wire} (g : Good n ws) {L : List Nat} (ho : IsO n L) : EE m (k + 1) i_law_length [bD n ws, .tuple (L.map natD)] = .ok (.int (Len ws L)) := by
  rw [r_law_length]
  have h9 := g.n9
  have h40 := g.len
  have hl := ho.len
  have ix1 : ixD (bD n ws) (.int 1) = .ok (.tuple (ws.map wD)) := by unfold bD; simp
  simp -implicitDefEqProofs (disch := first | omega | (simp only [List.length_map, List.length_cons, List.length_nil, List.length_append, List.length_range, List.length_replicate, List.length_tail, List.length_reverse]; omega)) only [getS_0, getS_s, setS_0, setS_s, sr_ok, nx_then, rt_then, ex_then, bk_then, ct_then, ex_sr, asBool_b, asInt_i, items_l, items_t, Res.ok_bind, Res.ex_bind, Res.bad_bind, Res.quiet_ok, op_add_i, op_sub_i, b1_int, b1_abs, b1_lenl, b1_lent, b1_tupl, b1_tupt, b1_listt, b1_listl, lt_i, gt_i, le_i, ge_i, strict_0, strict_s, peek_0, peek_0l, peek_0d, peek_s, bindT_n, bindT_t, bindT_l, bindT_w, bindTs_n, bindTs_c, wipeS_nil, wipeS_cons, e_k, e_v, e_p, e_tup, e_lst, e_nil, e_cons, e_op, e_cmp, e_ch, e_and, e_or, e_not, e_neg, e_ite, e_isN, e_notN, e_ix, e_slf, e_slt, e_slb, e_rev, e_call, e_b1, e_b2, e_isi, e_rng, e_dnil, e_comp, e_dcomp, e_enm', e_zip', e_rl, e_idx, e_join, x_nil, x_cons, x_set, x_setO, x_unp, x_xp, x_ret, x_raise, x_ite, x_forB, x_app, x_tr, x_brk, x_cnt, x_pass, x_fr, x_wipe, x_par, evP_nil, evP_f, evP_t, parR_nil, parR_f, parR_t, x_aug, x_augix, x_setix, setixS_nat, x_extS, x_pop, augD_add, augD_sub, x_while, compR_nil, compR_mapL, compR_some, quiet_ite, in_natL, in_natT, notin_natL, notin_natT, eq_ii, ne_ii, eq_ss, ne_ss, sum_map, all_map, any_map, b2_max, b2_min, ix_0, ix_1, ix_2, ixl_0, ansR_rt, ansR_nx, ansR_ex, toSl_l, toSl_d, sl_tailT, sl_tailL, size_ok, sz_filterL, compG_t, rng_nat, rng_ab, shl_one, shr_nat, band_one, op_mod_i, op_fdiv_i, zipD_map, zipD_tail, add_tup, add_lst, rev_tup, rev_lst, mul_repT, if_true, if_false, ite_true, ite_false, Bool.not_true, Bool.not_false, Bool.false_eq_true, decide_eq_true_eq, decide_true, decide_false, Bool.and_true, Bool.true_and, Bool.or_true, Bool.true_or, Bool.and_false, Bool.false_and, Bool.or_false, Bool.false_or, reduceCtorEq, List.map_cons, List.map_nil, List.length_map, List.length_cons, List.length_nil, List.nil_append, List.cons_append, List.length_range, List.length_append, sz_filterR, Nat.reduceAdd, Int.cast_ofNat_Int, Int.reduceEq, Int.reduceLT, Int.reduceLE, b_law_length, ix1]
  rw [compR_ok (g := fun w : Wire => .int (w.2 * span L w.1))]
  · simp -implicitDefEqProofs (disch := first | omega | (simp only [List.length_map, List.length_cons, List.length_nil, List.length_append, List.length_range, List.length_replicate, List.length_tail, List.length_reverse]; omega)) only [getS_0, getS_s, setS_0, setS_s, sr_ok, nx_then, rt_then, ex_then, bk_then, ct_then, ex_sr, asBool_b, asInt_i, items_l, items_t, Res.ok_bind, Res.ex_bind, Res.bad_bind, Res.quiet_ok, op_add_i, op_sub_i, b1_int, b1_abs, b1_lenl, b1_lent, b1_tupl, b1_tupt, b1_listt, b1_listl, lt_i, gt_i, le_i, ge_i, strict_0, strict_s, peek_0, peek_0l, peek_0d, peek_s, bindT_n, bindT_t, bindT_l, bindT_w, bindTs_n, bindTs_c, wipeS_nil, wipeS_cons, e_k, e_v, e_p, e_tup, e_lst, e_nil, e_cons, e_op, e_cmp, e_ch, e_and, e_or, e_not, e_neg, e_ite, e_isN, e_notN, e_ix, e_slf, e_slt, e_slb, e_rev, e_call, e_b1, e_b2, e_isi, e_rng, e_dnil, e_comp, e_dcomp, e_enm', e_zip', e_rl, e_idx, e_join, x_nil, x_cons, x_set, x_setO, x_unp, x_xp, x_ret, x_raise, x_ite, x_forB, x_app, x_tr, x_brk, x_cnt, x_pass, x_fr, x_wipe, x_par, evP_nil, evP_f, evP_t, parR_nil, parR_f, parR_t, x_aug, x_augix, x_setix, setixS_nat, x_extS, x_pop, augD_add, augD_sub, x_while, compR_nil, compR_mapL, compR_some, quiet_ite, in_natL, in_natT, notin_natL, notin_natT, eq_ii, ne_ii, eq_ss, ne_ss, sum_map, all_map, any_map, b2_max, b2_min, ix_0, ix_1, ix_2, ixl_0, ansR_rt, ansR_nx, ansR_ex, toSl_l, toSl_d, sl_tailT, sl_tailL, size_ok, sz_filterL, compG_t, rng_nat, rng_ab, shl_one, shr_nat, band_one, op_mod_i, op_fdiv_i, zipD_map, zipD_tail, add_tup, add_lst, rev_tup, rev_lst, mul_repT, if_true, if_false, ite_true, ite_false, Bool.not_true, Bool.not_false, Bool.false_eq_true, decide_eq_true_eq, decide_true, decide_false, Bool.and_true, Bool.true_and, Bool.or_true, Bool.true_or, Bool.and_false, Bool.false_and, Bool.or_false, Bool.false_or, reduceCtorEq, List.map_cons, List.map_nil, List.length_map, List.length_cons, List.length_nil, List.nil_append, List.cons_append, List.length_range, List.length_append, sz_filterR, Nat.reduceAdd, Int.cast_ofNat_Int, Int.reduceEq, Int.reduceLT, Int.reduceLE]
    rfl
  · intro w hw
    have gw := g.ok w hw
    have h1 := ne_parts gw
    have hz : w.1.length ≤ 9 := Nat.le_trans (asc_len gw.asc gw.lt) h9
    have hc : ∀ σ : BW.Env, strict σ 1 = .ok (.tuple (L.map natD)) → ∀ p ∈ w.1, asL (.tuple (L.map natD)) = .ok (L.map natD) ∧ idxD (L.map natD) (natD p) = .ok (natD (L.idxOf p)) := fun σ _ p hp => ⟨rfl, idxD_nat (ho.mem (gw.lt p hp))⟩
    simp -implicitDefEqProofs (disch := first | omega | (simp only [List.length_map, List.length_cons, List.length_nil, List.length_append, List.length_range, List.length_replicate, List.length_tail, List.length_reverse]; omega)) only [getS_0, getS_s, setS_0, setS_s, sr_ok, nx_then, rt_then, ex_then, bk_then, ct_then, ex_sr, asBool_b, asInt_i, items_l, items_t, Res.ok_bind, Res.ex_bind, Res.bad_bind, Res.quiet_ok, op_add_i, op_sub_i, b1_int, b1_abs, b1_lenl, b1_lent, b1_tupl, b1_tupt, b1_listt, b1_listl, lt_i, gt_i, le_i, ge_i, strict_0, strict_s, peek_0, peek_0l, peek_0d, peek_s, bindT_n, bindT_t, bindT_l, bindT_w, bindTs_n, bindTs_c, wipeS_nil, wipeS_cons, e_k, e_v, e_p, e_tup, e_lst, e_nil, e_cons, e_op, e_cmp, e_ch, e_and, e_or, e_not, e_neg, e_ite, e_isN, e_notN, e_ix, e_slf, e_slt, e_slb, e_rev, e_call, e_b1, e_b2, e_isi, e_rng, e_dnil, e_comp, e_dcomp, e_enm', e_zip', e_rl, e_idx, e_join, x_nil, x_cons, x_set, x_setO, x_unp, x_xp, x_ret, x_raise, x_ite, x_forB, x_app, x_tr, x_brk, x_cnt, x_pass, x_fr, x_wipe, x_par, evP_nil, evP_f, evP_t, parR_nil, parR_f, parR_t, x_aug, x_augix, x_setix, setixS_nat, x_extS, x_pop, augD_add, augD_sub, x_while, compR_nil, compR_mapL, compR_some, quiet_ite, in_natL, in_natT, notin_natL, notin_natT, eq_ii, ne_ii, eq_ss, ne_ss, sum_map, all_map, any_map, b2_max, b2_min, ix_0, ix_1, ix_2, ixl_0, ansR_rt, ansR_nx, ansR_ex, toSl_l, toSl_d, sl_tailT, sl_tailL, size_ok, sz_filterL, compG_t, rng_nat, rng_ab, shl_one, shr_nat, band_one, op_mod_i, op_fdiv_i, zipD_map, zipD_tail, add_tup, add_lst, rev_tup, rev_lst, mul_repT, if_true, if_false, ite_true, ite_false, Bool.not_true, Bool.not_false, Bool.false_eq_true, decide_eq_true_eq, decide_true, decide_false, Bool.and_true, Bool.true_and, Bool.or_true, Bool.true_or, Bool.and_false, Bool.false_and, Bool.or_false, Bool.false_or, reduceCtorEq, List.map_cons, List.map_nil, List.length_map, List.length_cons, List.length_nil, List.nil_append, List.cons_append, List.length_range, List.length_append, sz_filterR, Nat.reduceAdd, Int.cast_ofNat_Int, Int.reduceEq, Int.reduceLT, Int.reduceLE, wD]
    rw [compR_ok (g := fun p => natD (L.idxOf p))]
    · simp -implicitDefEqProofs (disch := first | omega | (simp only [List.length_map, List.length_cons, List.length_nil, List.length_append, List.length_range, List.length_replicate, List.length_tail, List.length_reverse]; omega)) only [getS_0, getS_s, setS_0, setS_s, sr_ok, nx_then, rt_then, ex_then, bk_then, ct_then, ex_sr, asBool_b, asInt_i, items_l, items_t, Res.ok_bind, Res.ex_bind, Res.bad_bind, Res.quiet_ok, op_add_i, op_sub_i, b1_int, b1_abs, b1_lenl, b1_lent, b1_tupl, b1_tupt, b1_listt, b1_listl, lt_i, gt_i, le_i, ge_i, strict_0, strict_s, peek_0, peek_0l, peek_0d, peek_s, bindT_n, bindT_t, bindT_l, bindT_w, bindTs_n, bindTs_c, wipeS_nil, wipeS_cons, e_k, e_v, e_p, e_tup, e_lst, e_nil, e_cons, e_op, e_cmp, e_ch, e_and, e_or, e_not, e_neg, e_ite, e_isN, e_notN, e_ix, e_slf, e_slt, e_slb, e_rev, e_call, e_b1, e_b2, e_isi, e_rng, e_dnil, e_comp, e_dcomp, e_enm', e_zip', e_rl, e_idx, e_join, x_nil, x_cons, x_set, x_setO, x_unp, x_xp, x_ret, x_raise, x_ite, x_forB, x_app, x_tr, x_brk, x_cnt, x_pass, x_fr, x_wipe, x_par, evP_nil, evP_f, evP_t, parR_nil, parR_f, parR_t, x_aug, x_augix, x_setix, setixS_nat, x_extS, x_pop, augD_add, augD_sub, x_while, compR_nil, compR_mapL, compR_some, quiet_ite, in_natL, in_natT, notin_natL, notin_natT, eq_ii, ne_ii, eq_ss, ne_ss, sum_map, all_map, any_map, b2_max, b2_min, ix_0, ix_1, ix_2, ixl_0, ansR_rt, ansR_nx, ansR_ex, toSl_l, toSl_d, sl_tailT, sl_tailL, size_ok, sz_filterL, compG_t, rng_nat, rng_ab, shl_one, shr_nat, band_one, op_mod_i, op_fdiv_i, zipD_map, zipD_tail, add_tup, add_lst, rev_tup, rev_lst, mul_repT, if_true, if_false, ite_true, ite_false, Bool.not_true, Bool.not_false, Bool.false_eq_true, decide_eq_true_eq, decide_true, decide_false, Bool.and_true, Bool.true_and, Bool.or_true, Bool.true_or, Bool.and_false, Bool.false_and, Bool.or_false, Bool.false_or, reduceCtorEq, List.map_cons, List.map_nil, List.length_map, List.length_cons, List.length_nil, List.nil_append, List.cons_append, List.length_range, List.length_append, sz_filterR, Nat.reduceAdd, Int.cast_ofNat_Int, Int.reduceEq, Int.reduceLT, Int.reduceLE, hi_of (L := L) h1, lo_of (L := L) h1, op_mul_l _ _ (small_w gw)]
      rfl
    · intro p hp
      have e1 : asL (.tuple (L.map natD)) = .ok (L.map natD) := rfl
      have e2 := idxD_nat (L := L) (ho.mem (gw.lt p hp))
      simp -implicitDefEqProofs (disch := first | omega | (simp only [List.length_map, List.length_cons, List.length_nil, List.length_append, List.length_range, List.length_replicate, List.length_tail, List.length_reverse]; omega)) only [getS_0, getS_s, setS_0, setS_s, sr_ok, nx_then, rt_then, ex_then, bk_then, ct_then, ex_sr, asBool_b, asInt_i, items_l, items_t, Res.ok_bind, Res.ex_bind, Res.bad_bind, Res.quiet_ok, op_add_i, op_sub_i, b1_int, b1_abs, b1_lenl, b1_lent, b1_tupl, b1_tupt, b1_listt, b1_listl, lt_i, gt_i, le_i, ge_i, strict_0, strict_s, peek_0, peek_0l, peek_0d, peek_s, bindT_n, bindT_t, bindT_l, bindT_w, bindTs_n, bindTs_c, wipeS_nil, wipeS_cons, e_k, e_v, e_p, e_tup, e_lst, e_nil, e_cons, e_op, e_cmp, e_ch, e_and, e_or, e_not, e_neg, e_ite, e_isN, e_notN, e_ix, e_slf, e_slt, e_slb, e_rev, e_call, e_b1, e_b2, e_isi, e_rng, e_dnil, e_comp, e_dcomp, e_enm', e_zip', e_rl, e_idx, e_join, x_nil, x_cons, x_set, x_setO, x_unp, x_xp, x_ret, x_raise, x_ite, x_forB, x_app, x_tr, x_brk, x_cnt, x_pass, x_fr, x_wipe, x_par, evP_nil, evP_f, evP_t, parR_nil, parR_f, parR_t, x_aug, x_augix, x_setix, setixS_nat, x_extS, x_pop, augD_add, augD_sub, x_while, compR_nil, compR_mapL, compR_some, quiet_ite, in_natL, in_natT, notin_natL, notin_natT, eq_ii, ne_ii, eq_ss, ne_ss, sum_map, all_map, any_map, b2_max, b2_min, ix_0, ix_1, ix_2, ixl_0, ansR_rt, ansR_nx, ansR_ex, toSl_l, toSl_d, sl_tailT, sl_tailL, size_ok, sz_filterL, compG_t, rng_nat, rng_ab, shl_one, shr_nat, band_one, op_mod_i, op_fdiv_i, zipD_map, zipD_tail, add_tup, add_lst, rev_tup, rev_lst, mul_repT, if_true, if_false, ite_true, ite_false, Bool.not_true, Bool.not_false, Bool.false_eq_true, decide_eq_true_eq, decide_true, decide_false, Bool.and_true, Bool.true_and, Bool.or_true, Bool.true_or, Bool.and_false, Bool.false_and, Bool.or_false, Bool.false_or, reduceCtorEq, List.map_cons, List.map_nil, List.length_map, List.length_cons, List.length_nil, List.nil_append, List.cons_append, List.length_range, List.length_append, sz_filterR, Nat.reduceAdd, Int.cast_ofNat_Int, Int.reduceEq, Int.reduceLT, Int.reduceLE, e1, e2]
theorem great_of (X : List Int) : b1D .max (.list (.int 0 :: X.map .int)) = .ok (.int (X.foldl max 0)) := max_list (L := 0 :: X) (by simp) rfl
def Great (ws : List Wire) (L : List Nat) : Int := ((List.range' 1 (L.length - 1)).map fun t => cutAt ws (L.take t)).foldl max 0
theorem law_greatest_ok {n : Nat} {ws : List Wire} (g : Good n ws) {L : List Nat} (ho : IsO n L) : EE m (k + 2) i_law_greatest [bD n ws, .tuple (L.map natD)] = .ok (.int (Great ws L)) := by
  rw [r_law_greatest]
  have h9 := g.n9
  have hl := ho.len
  have er := rng_ab 1 L.length (by omega) (by omega)
  rw [show ((1 : Nat) : Int) = 1 from rfl] at er
  simp -implicitDefEqProofs (disch := first | omega | (simp only [List.length_map, List.length_cons, List.length_nil, List.length_append, List.length_range, List.length_replicate, List.length_tail, List.length_reverse]; omega)) only [getS_0, getS_s, setS_0, setS_s, sr_ok, nx_then, rt_then, ex_then, bk_then, ct_then, ex_sr, asBool_b, asInt_i, items_l, items_t, Res.ok_bind, Res.ex_bind, Res.bad_bind, Res.quiet_ok, op_add_i, op_sub_i, b1_int, b1_abs, b1_lenl, b1_lent, b1_tupl, b1_tupt, b1_listt, b1_listl, lt_i, gt_i, le_i, ge_i, strict_0, strict_s, peek_0, peek_0l, peek_0d, peek_s, bindT_n, bindT_t, bindT_l, bindT_w, bindTs_n, bindTs_c, wipeS_nil, wipeS_cons, e_k, e_v, e_p, e_tup, e_lst, e_nil, e_cons, e_op, e_cmp, e_ch, e_and, e_or, e_not, e_neg, e_ite, e_isN, e_notN, e_ix, e_slf, e_slt, e_slb, e_rev, e_call, e_b1, e_b2, e_isi, e_rng, e_dnil, e_comp, e_dcomp, e_enm', e_zip', e_rl, e_idx, e_join, x_nil, x_cons, x_set, x_setO, x_unp, x_xp, x_ret, x_raise, x_ite, x_forB, x_app, x_tr, x_brk, x_cnt, x_pass, x_fr, x_wipe, x_par, evP_nil, evP_f, evP_t, parR_nil, parR_f, parR_t, x_aug, x_augix, x_setix, setixS_nat, x_extS, x_pop, augD_add, augD_sub, x_while, compR_nil, compR_mapL, compR_some, quiet_ite, in_natL, in_natT, notin_natL, notin_natT, eq_ii, ne_ii, eq_ss, ne_ss, sum_map, all_map, any_map, b2_max, b2_min, ix_0, ix_1, ix_2, ixl_0, ansR_rt, ansR_nx, ansR_ex, toSl_l, toSl_d, sl_tailT, sl_tailL, size_ok, sz_filterL, compG_t, rng_nat, rng_ab, shl_one, shr_nat, band_one, op_mod_i, op_fdiv_i, zipD_map, zipD_tail, add_tup, add_lst, rev_tup, rev_lst, mul_repT, if_true, if_false, ite_true, ite_false, Bool.not_true, Bool.not_false, Bool.false_eq_true, decide_eq_true_eq, decide_true, decide_false, Bool.and_true, Bool.true_and, Bool.or_true, Bool.true_or, Bool.and_false, Bool.false_and, Bool.or_false, Bool.false_or, reduceCtorEq, List.map_cons, List.map_nil, List.length_map, List.length_cons, List.length_nil, List.nil_append, List.cons_append, List.length_range, List.length_append, sz_filterR, Nat.reduceAdd, Int.cast_ofNat_Int, Int.reduceEq, Int.reduceLT, Int.reduceLE, b_law_greatest, er]
  rw [compR_ok (g := fun t => .int (cutAt ws (L.take t)))]
  · have e1 : PyData.int 0 :: (List.range' 1 (L.length - 1)).map (fun t => PyData.int (cutAt ws (L.take t))) = (0 :: (List.range' 1 (L.length - 1)).map fun t => cutAt ws (L.take t)).map .int := by
      rw [List.map_cons, List.map_map]; rfl
    have ez : BW.sizeOk (List.range' 1 (L.length - 1)).length = true := size_ok (by simp; omega)
    have ha := add_lst [.int 0] ((List.range' 1 (L.length - 1)).map fun t => PyData.int (cutAt ws (L.take t))) (by simp; omega)
    rw [List.singleton_append, e1] at ha
    simp -implicitDefEqProofs (disch := first | omega | (simp only [List.length_map, List.length_cons, List.length_nil, List.length_append, List.length_range, List.length_replicate, List.length_tail, List.length_reverse]; omega)) only [getS_0, getS_s, setS_0, setS_s, sr_ok, nx_then, rt_then, ex_then, bk_then, ct_then, ex_sr, asBool_b, asInt_i, items_l, items_t, Res.ok_bind, Res.ex_bind, Res.bad_bind, Res.quiet_ok, op_add_i, op_sub_i, b1_int, b1_abs, b1_lenl, b1_lent, b1_tupl, b1_tupt, b1_listt, b1_listl, lt_i, gt_i, le_i, ge_i, strict_0, strict_s, peek_0, peek_0l, peek_0d, peek_s, bindT_n, bindT_t, bindT_l, bindT_w, bindTs_n, bindTs_c, wipeS_nil, wipeS_cons, e_k, e_v, e_p, e_tup, e_lst, e_nil, e_cons, e_op, e_cmp, e_ch, e_and, e_or, e_not, e_neg, e_ite, e_isN, e_notN, e_ix, e_slf, e_slt, e_slb, e_rev, e_call, e_b1, e_b2, e_isi, e_rng, e_dnil, e_comp, e_dcomp, e_enm', e_zip', e_rl, e_idx, e_join, x_nil, x_cons, x_set, x_setO, x_unp, x_xp, x_ret, x_raise, x_ite, x_forB, x_app, x_tr, x_brk, x_cnt, x_pass, x_fr, x_wipe, x_par, evP_nil, evP_f, evP_t, parR_nil, parR_f, parR_t, x_aug, x_augix, x_setix, setixS_nat, x_extS, x_pop, augD_add, augD_sub, x_while, compR_nil, compR_mapL, compR_some, quiet_ite, in_natL, in_natT, notin_natL, notin_natT, eq_ii, ne_ii, eq_ss, ne_ss, sum_map, all_map, any_map, b2_max, b2_min, ix_0, ix_1, ix_2, ixl_0, ansR_rt, ansR_nx, ansR_ex, toSl_l, toSl_d, sl_tailT, sl_tailL, size_ok, sz_filterL, compG_t, rng_nat, rng_ab, shl_one, shr_nat, band_one, op_mod_i, op_fdiv_i, zipD_map, zipD_tail, add_tup, add_lst, rev_tup, rev_lst, mul_repT, if_true, if_false, ite_true, ite_false, Bool.not_true, Bool.not_false, Bool.false_eq_true, decide_eq_true_eq, decide_true, decide_false, Bool.and_true, Bool.true_and, Bool.or_true, Bool.true_or, Bool.and_false, Bool.false_and, Bool.or_false, Bool.false_or, reduceCtorEq, List.map_cons, List.map_nil, List.length_map, List.length_cons, List.length_nil, List.nil_append, List.cons_append, List.length_range, List.length_append, sz_filterR, Nat.reduceAdd, Int.cast_ofNat_Int, Int.reduceEq, Int.reduceLT, Int.reduceLE, ez, ha, great_of]
    rfl
  · intro t _
    have e1 := slT_take (L.map natD) t
    rw [← List.map_take] at e1
    simp -implicitDefEqProofs (disch := first | omega | (simp only [List.length_map, List.length_cons, List.length_nil, List.length_append, List.length_range, List.length_replicate, List.length_tail, List.length_reverse]; omega)) only [getS_0, getS_s, setS_0, setS_s, sr_ok, nx_then, rt_then, ex_then, bk_then, ct_then, ex_sr, asBool_b, asInt_i, items_l, items_t, Res.ok_bind, Res.ex_bind, Res.bad_bind, Res.quiet_ok, op_add_i, op_sub_i, b1_int, b1_abs, b1_lenl, b1_lent, b1_tupl, b1_tupt, b1_listt, b1_listl, lt_i, gt_i, le_i, ge_i, strict_0, strict_s, peek_0, peek_0l, peek_0d, peek_s, bindT_n, bindT_t, bindT_l, bindT_w, bindTs_n, bindTs_c, wipeS_nil, wipeS_cons, e_k, e_v, e_p, e_tup, e_lst, e_nil, e_cons, e_op, e_cmp, e_ch, e_and, e_or, e_not, e_neg, e_ite, e_isN, e_notN, e_ix, e_slf, e_slt, e_slb, e_rev, e_call, e_b1, e_b2, e_isi, e_rng, e_dnil, e_comp, e_dcomp, e_enm', e_zip', e_rl, e_idx, e_join, x_nil, x_cons, x_set, x_setO, x_unp, x_xp, x_ret, x_raise, x_ite, x_forB, x_app, x_tr, x_brk, x_cnt, x_pass, x_fr, x_wipe, x_par, evP_nil, evP_f, evP_t, parR_nil, parR_f, parR_t, x_aug, x_augix, x_setix, setixS_nat, x_extS, x_pop, augD_add, augD_sub, x_while, compR_nil, compR_mapL, compR_some, quiet_ite, in_natL, in_natT, notin_natL, notin_natT, eq_ii, ne_ii, eq_ss, ne_ss, sum_map, all_map, any_map, b2_max, b2_min, ix_0, ix_1, ix_2, ixl_0, ansR_rt, ansR_nx, ansR_ex, toSl_l, toSl_d, sl_tailT, sl_tailL, size_ok, sz_filterL, compG_t, rng_nat, rng_ab, shl_one, shr_nat, band_one, op_mod_i, op_fdiv_i, zipD_map, zipD_tail, add_tup, add_lst, rev_tup, rev_lst, mul_repT, if_true, if_false, ite_true, ite_false, Bool.not_true, Bool.not_false, Bool.false_eq_true, decide_eq_true_eq, decide_true, decide_false, Bool.and_true, Bool.true_and, Bool.or_true, Bool.true_or, Bool.and_false, Bool.false_and, Bool.or_false, Bool.false_or, reduceCtorEq, List.map_cons, List.map_nil, List.length_map, List.length_cons, List.length_nil, List.nil_append, List.cons_append, List.length_range, List.length_append, sz_filterR, Nat.reduceAdd, Int.cast_ofNat_Int, Int.reduceEq, Int.reduceLT, Int.reduceLE, e1, law_cut_ok g (x := .tuple ((L.take t).map natD)) rfl]
theorem asc_eq : ∀ {l m : List Nat}, asc l → asc m → (∀ k, k ∈ l ↔ k ∈ m) → l = m
  | [], [], _, _, _ => rfl
  | [], b :: m, _, _, h => by have := (h b).mpr (by simp); simp at this
  | a :: l, [], _, _, h => by have := (h a).mp (by simp); simp at this
  | a :: l, b :: m, h1, h2, h => by
    obtain ⟨p1, p2⟩ := List.pairwise_cons.mp h1
    obtain ⟨q1, q2⟩ := List.pairwise_cons.mp h2
    have e : a = b := by
      have ha := (h a).mp (by simp)
      have hb := (h b).mpr (by simp)
      rcases List.mem_cons.mp ha with e | ha
      · exact e
      · rcases List.mem_cons.mp hb with e | hb
        · exact e.symm
        · have := p1 b hb; have := q1 a ha; omega
    subst e
    congr 1
    refine asc_eq p2 q2 fun k => ⟨fun hk => ?_, fun hk => ?_⟩
    · rcases List.mem_cons.mp ((h k).mp (List.mem_cons_of_mem _ hk)) with e | z
      · have := p1 k hk; omega
      · exact z
    · rcases List.mem_cons.mp ((h k).mpr (List.mem_cons_of_mem _ hk)) with e | z
      · have := q1 k hk; omega
      · exact z
theorem sorted_order {n : Nat} {L : List Nat} (ho : IsO n L) (hn : n ≤ 9) : b1D .sorted (.tuple (L.map natD)) = .ok (.list ((List.range n).map natD)) := by
  obtain ⟨S, h1, h2, h3⟩ := sorted_nats L ho.nd (by have := ho.len; omega)
  have e : S = List.range n := asc_eq h2 List.pairwise_lt_range fun k => by
    rw [h3.mem_iff, List.mem_range]
    exact ⟨ho.lt k, ho.mem⟩
  rw [e] at h1
  exact h1
theorem orders_check_ok {n : Nat} {ws : List Wire} (g : Good n ws) {L : List Nat} (ho : IsO n L) : EE m (k + 6) i_orders_check [bD n ws, .tuple (L.map natD)] = .ok .none := by
  rw [r_orders_check]
  have h9 := g.n9
  have hl := ho.len
  have ix0 : ixD (bD n ws) (.int 0) = .ok (.int n) := by unfold bD; simp
  have hs := sorted_order ho h9
  have hr : rlD false (.int 0) (.int n) = .ok (.list ((List.range n).map natD)) := by
    unfold rlD
    rw [rng_nat n (by omega)]
    show (if BW.sizeOk _ = true then _ else _) = _
    rw [if_pos (size_ok (by simp; omega))]
    rfl
  have hne := ne_self (Sm.list (f := natD) (L := List.range n) fun i _ => Sm.int _) (by decide)
  simp -implicitDefEqProofs (disch := first | omega | (simp only [List.length_map, List.length_cons, List.length_nil, List.length_append, List.length_range, List.length_replicate, List.length_tail, List.length_reverse]; omega)) only [getS_0, getS_s, setS_0, setS_s, sr_ok, nx_then, rt_then, ex_then, bk_then, ct_then, ex_sr, asBool_b, asInt_i, items_l, items_t, Res.ok_bind, Res.ex_bind, Res.bad_bind, Res.quiet_ok, op_add_i, op_sub_i, b1_int, b1_abs, b1_lenl, b1_lent, b1_tupl, b1_tupt, b1_listt, b1_listl, lt_i, gt_i, le_i, ge_i, strict_0, strict_s, peek_0, peek_0l, peek_0d, peek_s, bindT_n, bindT_t, bindT_l, bindT_w, bindTs_n, bindTs_c, wipeS_nil, wipeS_cons, e_k, e_v, e_p, e_tup, e_lst, e_nil, e_cons, e_op, e_cmp, e_ch, e_and, e_or, e_not, e_neg, e_ite, e_isN, e_notN, e_ix, e_slf, e_slt, e_slb, e_rev, e_call, e_b1, e_b2, e_isi, e_rng, e_dnil, e_comp, e_dcomp, e_enm', e_zip', e_rl, e_idx, e_join, x_nil, x_cons, x_set, x_setO, x_unp, x_xp, x_ret, x_raise, x_ite, x_forB, x_app, x_tr, x_brk, x_cnt, x_pass, x_fr, x_wipe, x_par, evP_nil, evP_f, evP_t, parR_nil, parR_f, parR_t, x_aug, x_augix, x_setix, setixS_nat, x_extS, x_pop, augD_add, augD_sub, x_while, compR_nil, compR_mapL, compR_some, quiet_ite, in_natL, in_natT, notin_natL, notin_natT, eq_ii, ne_ii, eq_ss, ne_ss, sum_map, all_map, any_map, b2_max, b2_min, ix_0, ix_1, ix_2, ixl_0, ansR_rt, ansR_nx, ansR_ex, toSl_l, toSl_d, sl_tailT, sl_tailL, size_ok, sz_filterL, compG_t, rng_nat, rng_ab, shl_one, shr_nat, band_one, op_mod_i, op_fdiv_i, zipD_map, zipD_tail, add_tup, add_lst, rev_tup, rev_lst, mul_repT, if_true, if_false, ite_true, ite_false, Bool.not_true, Bool.not_false, Bool.false_eq_true, decide_eq_true_eq, decide_true, decide_false, Bool.and_true, Bool.true_and, Bool.or_true, Bool.true_or, Bool.and_false, Bool.false_and, Bool.or_false, Bool.false_or, reduceCtorEq, List.map_cons, List.map_nil, List.length_map, List.length_cons, List.length_nil, List.nil_append, List.cons_append, List.length_range, List.length_append, sz_filterR, Nat.reduceAdd, Int.cast_ofNat_Int, Int.reduceEq, Int.reduceLT, Int.reduceLE, b_orders_check, check_bundles_ok g, okD, tyD, List.any_cons, List.any_nil, ix0]
  rw [compR_ok (g := fun _ => .bool true)]
  · have hb : ∀ Ls : List Nat, (Ls.all fun _ => true) = true := fun Ls => by simp
    simp -implicitDefEqProofs (disch := first | omega | (simp only [List.length_map, List.length_cons, List.length_nil, List.length_append, List.length_range, List.length_replicate, List.length_tail, List.length_reverse]; omega)) only [getS_0, getS_s, setS_0, setS_s, sr_ok, nx_then, rt_then, ex_then, bk_then, ct_then, ex_sr, asBool_b, asInt_i, items_l, items_t, Res.ok_bind, Res.ex_bind, Res.bad_bind, Res.quiet_ok, op_add_i, op_sub_i, b1_int, b1_abs, b1_lenl, b1_lent, b1_tupl, b1_tupt, b1_listt, b1_listl, lt_i, gt_i, le_i, ge_i, strict_0, strict_s, peek_0, peek_0l, peek_0d, peek_s, bindT_n, bindT_t, bindT_l, bindT_w, bindTs_n, bindTs_c, wipeS_nil, wipeS_cons, e_k, e_v, e_p, e_tup, e_lst, e_nil, e_cons, e_op, e_cmp, e_ch, e_and, e_or, e_not, e_neg, e_ite, e_isN, e_notN, e_ix, e_slf, e_slt, e_slb, e_rev, e_call, e_b1, e_b2, e_isi, e_rng, e_dnil, e_comp, e_dcomp, e_enm', e_zip', e_rl, e_idx, e_join, x_nil, x_cons, x_set, x_setO, x_unp, x_xp, x_ret, x_raise, x_ite, x_forB, x_app, x_tr, x_brk, x_cnt, x_pass, x_fr, x_wipe, x_par, evP_nil, evP_f, evP_t, parR_nil, parR_f, parR_t, x_aug, x_augix, x_setix, setixS_nat, x_extS, x_pop, augD_add, augD_sub, x_while, compR_nil, compR_mapL, compR_some, quiet_ite, in_natL, in_natT, notin_natL, notin_natT, eq_ii, ne_ii, eq_ss, ne_ss, sum_map, all_map, any_map, b2_max, b2_min, ix_0, ix_1, ix_2, ixl_0, ansR_rt, ansR_nx, ansR_ex, toSl_l, toSl_d, sl_tailT, sl_tailL, size_ok, sz_filterL, compG_t, rng_nat, rng_ab, shl_one, shr_nat, band_one, op_mod_i, op_fdiv_i, zipD_map, zipD_tail, add_tup, add_lst, rev_tup, rev_lst, mul_repT, if_true, if_false, ite_true, ite_false, Bool.not_true, Bool.not_false, Bool.false_eq_true, decide_eq_true_eq, decide_true, decide_false, Bool.and_true, Bool.true_and, Bool.or_true, Bool.true_or, Bool.and_false, Bool.false_and, Bool.or_false, Bool.false_or, reduceCtorEq, List.map_cons, List.map_nil, List.length_map, List.length_cons, List.length_nil, List.nil_append, List.cons_append, List.length_range, List.length_append, sz_filterR, Nat.reduceAdd, Int.cast_ofNat_Int, Int.reduceEq, Int.reduceLT, Int.reduceLE, hb]
    simp -implicitDefEqProofs (disch := first | omega | (simp only [List.length_map, List.length_cons, List.length_nil, List.length_append, List.length_range, List.length_replicate, List.length_tail, List.length_reverse]; omega)) only [getS_0, getS_s, setS_0, setS_s, sr_ok, nx_then, rt_then, ex_then, bk_then, ct_then, ex_sr, asBool_b, asInt_i, items_l, items_t, Res.ok_bind, Res.ex_bind, Res.bad_bind, Res.quiet_ok, op_add_i, op_sub_i, b1_int, b1_abs, b1_lenl, b1_lent, b1_tupl, b1_tupt, b1_listt, b1_listl, lt_i, gt_i, le_i, ge_i, strict_0, strict_s, peek_0, peek_0l, peek_0d, peek_s, bindT_n, bindT_t, bindT_l, bindT_w, bindTs_n, bindTs_c, wipeS_nil, wipeS_cons, e_k, e_v, e_p, e_tup, e_lst, e_nil, e_cons, e_op, e_cmp, e_ch, e_and, e_or, e_not, e_neg, e_ite, e_isN, e_notN, e_ix, e_slf, e_slt, e_slb, e_rev, e_call, e_b1, e_b2, e_isi, e_rng, e_dnil, e_comp, e_dcomp, e_enm', e_zip', e_rl, e_idx, e_join, x_nil, x_cons, x_set, x_setO, x_unp, x_xp, x_ret, x_raise, x_ite, x_forB, x_app, x_tr, x_brk, x_cnt, x_pass, x_fr, x_wipe, x_par, evP_nil, evP_f, evP_t, parR_nil, parR_f, parR_t, x_aug, x_augix, x_setix, setixS_nat, x_extS, x_pop, augD_add, augD_sub, x_while, compR_nil, compR_mapL, compR_some, quiet_ite, in_natL, in_natT, notin_natL, notin_natT, eq_ii, ne_ii, eq_ss, ne_ss, sum_map, all_map, any_map, b2_max, b2_min, ix_0, ix_1, ix_2, ixl_0, ansR_rt, ansR_nx, ansR_ex, toSl_l, toSl_d, sl_tailT, sl_tailL, size_ok, sz_filterL, compG_t, rng_nat, rng_ab, shl_one, shr_nat, band_one, op_mod_i, op_fdiv_i, zipD_map, zipD_tail, add_tup, add_lst, rev_tup, rev_lst, mul_repT, if_true, if_false, ite_true, ite_false, Bool.not_true, Bool.not_false, Bool.false_eq_true, decide_eq_true_eq, decide_true, decide_false, Bool.and_true, Bool.true_and, Bool.or_true, Bool.true_or, Bool.and_false, Bool.false_and, Bool.or_false, Bool.false_or, reduceCtorEq, List.map_cons, List.map_nil, List.length_map, List.length_cons, List.length_nil, List.nil_append, List.cons_append, List.length_range, List.length_append, sz_filterR, Nat.reduceAdd, Int.cast_ofNat_Int, Int.reduceEq, Int.reduceLT, Int.reduceLE, hs, ix0, hr, hne]
  · intro p hp
    have h1 := ho.lt p hp
    have h2 : (p : Int) ≤ (n : Int) - 1 := by omega
    have h3 : (0 : Int) ≤ (p : Int) := by omega
    simp -implicitDefEqProofs (disch := first | omega | (simp only [List.length_map, List.length_cons, List.length_nil, List.length_append, List.length_range, List.length_replicate, List.length_tail, List.length_reverse]; omega)) only [getS_0, getS_s, setS_0, setS_s, sr_ok, nx_then, rt_then, ex_then, bk_then, ct_then, ex_sr, asBool_b, asInt_i, items_l, items_t, Res.ok_bind, Res.ex_bind, Res.bad_bind, Res.quiet_ok, op_add_i, op_sub_i, b1_int, b1_abs, b1_lenl, b1_lent, b1_tupl, b1_tupt, b1_listt, b1_listl, lt_i, gt_i, le_i, ge_i, strict_0, strict_s, peek_0, peek_0l, peek_0d, peek_s, bindT_n, bindT_t, bindT_l, bindT_w, bindTs_n, bindTs_c, wipeS_nil, wipeS_cons, e_k, e_v, e_p, e_tup, e_lst, e_nil, e_cons, e_op, e_cmp, e_ch, e_and, e_or, e_not, e_neg, e_ite, e_isN, e_notN, e_ix, e_slf, e_slt, e_slb, e_rev, e_call, e_b1, e_b2, e_isi, e_rng, e_dnil, e_comp, e_dcomp, e_enm', e_zip', e_rl, e_idx, e_join, x_nil, x_cons, x_set, x_setO, x_unp, x_xp, x_ret, x_raise, x_ite, x_forB, x_app, x_tr, x_brk, x_cnt, x_pass, x_fr, x_wipe, x_par, evP_nil, evP_f, evP_t, parR_nil, parR_f, parR_t, x_aug, x_augix, x_setix, setixS_nat, x_extS, x_pop, augD_add, augD_sub, x_while, compR_nil, compR_mapL, compR_some, quiet_ite, in_natL, in_natT, notin_natL, notin_natT, eq_ii, ne_ii, eq_ss, ne_ss, sum_map, all_map, any_map, b2_max, b2_min, ix_0, ix_1, ix_2, ixl_0, ansR_rt, ansR_nx, ansR_ex, toSl_l, toSl_d, sl_tailT, sl_tailL, size_ok, sz_filterL, compG_t, rng_nat, rng_ab, shl_one, shr_nat, band_one, op_mod_i, op_fdiv_i, zipD_map, zipD_tail, add_tup, add_lst, rev_tup, rev_lst, mul_repT, if_true, if_false, ite_true, ite_false, Bool.not_true, Bool.not_false, Bool.false_eq_true, decide_eq_true_eq, decide_true, decide_false, Bool.and_true, Bool.true_and, Bool.or_true, Bool.true_or, Bool.and_false, Bool.false_and, Bool.or_false, Bool.false_or, reduceCtorEq, List.map_cons, List.map_nil, List.length_map, List.length_cons, List.length_nil, List.nil_append, List.cons_append, List.length_range, List.length_append, sz_filterR, Nat.reduceAdd, Int.cast_ofNat_Int, Int.reduceEq, Int.reduceLT, Int.reduceLE, ix0, is_whole_i, h2, h3]
theorem length_of_ok {n : Nat} {ws : List Wire} (g : Good n ws) {L : List Nat} (ho : IsO n L) : EE m (k + 7) i_length_of [bD n ws, .tuple (L.map natD)] = .ok (.int (Len ws L)) := by
  rw [r_length_of]
  simp -implicitDefEqProofs (disch := first | omega | (simp only [List.length_map, List.length_cons, List.length_nil, List.length_append, List.length_range, List.length_replicate, List.length_tail, List.length_reverse]; omega)) only [getS_0, getS_s, setS_0, setS_s, sr_ok, nx_then, rt_then, ex_then, bk_then, ct_then, ex_sr, asBool_b, asInt_i, items_l, items_t, Res.ok_bind, Res.ex_bind, Res.bad_bind, Res.quiet_ok, op_add_i, op_sub_i, b1_int, b1_abs, b1_lenl, b1_lent, b1_tupl, b1_tupt, b1_listt, b1_listl, lt_i, gt_i, le_i, ge_i, strict_0, strict_s, peek_0, peek_0l, peek_0d, peek_s, bindT_n, bindT_t, bindT_l, bindT_w, bindTs_n, bindTs_c, wipeS_nil, wipeS_cons, e_k, e_v, e_p, e_tup, e_lst, e_nil, e_cons, e_op, e_cmp, e_ch, e_and, e_or, e_not, e_neg, e_ite, e_isN, e_notN, e_ix, e_slf, e_slt, e_slb, e_rev, e_call, e_b1, e_b2, e_isi, e_rng, e_dnil, e_comp, e_dcomp, e_enm', e_zip', e_rl, e_idx, e_join, x_nil, x_cons, x_set, x_setO, x_unp, x_xp, x_ret, x_raise, x_ite, x_forB, x_app, x_tr, x_brk, x_cnt, x_pass, x_fr, x_wipe, x_par, evP_nil, evP_f, evP_t, parR_nil, parR_f, parR_t, x_aug, x_augix, x_setix, setixS_nat, x_extS, x_pop, augD_add, augD_sub, x_while, compR_nil, compR_mapL, compR_some, quiet_ite, in_natL, in_natT, notin_natL, notin_natT, eq_ii, ne_ii, eq_ss, ne_ss, sum_map, all_map, any_map, b2_max, b2_min, ix_0, ix_1, ix_2, ixl_0, ansR_rt, ansR_nx, ansR_ex, toSl_l, toSl_d, sl_tailT, sl_tailL, size_ok, sz_filterL, compG_t, rng_nat, rng_ab, shl_one, shr_nat, band_one, op_mod_i, op_fdiv_i, zipD_map, zipD_tail, add_tup, add_lst, rev_tup, rev_lst, mul_repT, if_true, if_false, ite_true, ite_false, Bool.not_true, Bool.not_false, Bool.false_eq_true, decide_eq_true_eq, decide_true, decide_false, Bool.and_true, Bool.true_and, Bool.or_true, Bool.true_or, Bool.and_false, Bool.false_and, Bool.or_false, Bool.false_or, reduceCtorEq, List.map_cons, List.map_nil, List.length_map, List.length_cons, List.length_nil, List.nil_append, List.cons_append, List.length_range, List.length_append, sz_filterR, Nat.reduceAdd, Int.cast_ofNat_Int, Int.reduceEq, Int.reduceLT, Int.reduceLE, b_length_of, orders_check_ok g ho, length_ok g ho]
theorem greatest_cut_ok {n : Nat} {ws : List Wire} (g : Good n ws) {L : List Nat} (ho : IsO n L) : EE m (k + 7) i_greatest_cut [bD n ws, .tuple (L.map natD)] = .ok (.int (Great ws L)) := by
  rw [r_greatest_cut]
  have h9 := g.n9
  have hl := ho.len
  have er := rng_ab 1 L.length (by omega) (by omega)
  rw [show ((1 : Nat) : Int) = 1 from rfl] at er
  simp -implicitDefEqProofs (disch := first | omega | (simp only [List.length_map, List.length_cons, List.length_nil, List.length_append, List.length_range, List.length_replicate, List.length_tail, List.length_reverse]; omega)) only [getS_0, getS_s, setS_0, setS_s, sr_ok, nx_then, rt_then, ex_then, bk_then, ct_then, ex_sr, asBool_b, asInt_i, items_l, items_t, Res.ok_bind, Res.ex_bind, Res.bad_bind, Res.quiet_ok, op_add_i, op_sub_i, b1_int, b1_abs, b1_lenl, b1_lent, b1_tupl, b1_tupt, b1_listt, b1_listl, lt_i, gt_i, le_i, ge_i, strict_0, strict_s, peek_0, peek_0l, peek_0d, peek_s, bindT_n, bindT_t, bindT_l, bindT_w, bindTs_n, bindTs_c, wipeS_nil, wipeS_cons, e_k, e_v, e_p, e_tup, e_lst, e_nil, e_cons, e_op, e_cmp, e_ch, e_and, e_or, e_not, e_neg, e_ite, e_isN, e_notN, e_ix, e_slf, e_slt, e_slb, e_rev, e_call, e_b1, e_b2, e_isi, e_rng, e_dnil, e_comp, e_dcomp, e_enm', e_zip', e_rl, e_idx, e_join, x_nil, x_cons, x_set, x_setO, x_unp, x_xp, x_ret, x_raise, x_ite, x_forB, x_app, x_tr, x_brk, x_cnt, x_pass, x_fr, x_wipe, x_par, evP_nil, evP_f, evP_t, parR_nil, parR_f, parR_t, x_aug, x_augix, x_setix, setixS_nat, x_extS, x_pop, augD_add, augD_sub, x_while, compR_nil, compR_mapL, compR_some, quiet_ite, in_natL, in_natT, notin_natL, notin_natT, eq_ii, ne_ii, eq_ss, ne_ss, sum_map, all_map, any_map, b2_max, b2_min, ix_0, ix_1, ix_2, ixl_0, ansR_rt, ansR_nx, ansR_ex, toSl_l, toSl_d, sl_tailT, sl_tailL, size_ok, sz_filterL, compG_t, rng_nat, rng_ab, shl_one, shr_nat, band_one, op_mod_i, op_fdiv_i, zipD_map, zipD_tail, add_tup, add_lst, rev_tup, rev_lst, mul_repT, if_true, if_false, ite_true, ite_false, Bool.not_true, Bool.not_false, Bool.false_eq_true, decide_eq_true_eq, decide_true, decide_false, Bool.and_true, Bool.true_and, Bool.or_true, Bool.true_or, Bool.and_false, Bool.false_and, Bool.or_false, Bool.false_or, reduceCtorEq, List.map_cons, List.map_nil, List.length_map, List.length_cons, List.length_nil, List.nil_append, List.cons_append, List.length_range, List.length_append, sz_filterR, Nat.reduceAdd, Int.cast_ofNat_Int, Int.reduceEq, Int.reduceLT, Int.reduceLE, b_greatest_cut, orders_check_ok g ho, er]
  rw [compR_ok (g := fun t => .int (cutAt ws (L.take t)))]
  · have e1 : PyData.int 0 :: (List.range' 1 (L.length - 1)).map (fun t => PyData.int (cutAt ws (L.take t))) = (0 :: (List.range' 1 (L.length - 1)).map fun t => cutAt ws (L.take t)).map .int := by
      rw [List.map_cons, List.map_map]; rfl
    have ez : BW.sizeOk (List.range' 1 (L.length - 1)).length = true := size_ok (by simp; omega)
    have ha := add_lst [.int 0] ((List.range' 1 (L.length - 1)).map fun t => PyData.int (cutAt ws (L.take t))) (by simp; omega)
    rw [List.singleton_append, e1] at ha
    simp -implicitDefEqProofs (disch := first | omega | (simp only [List.length_map, List.length_cons, List.length_nil, List.length_append, List.length_range, List.length_replicate, List.length_tail, List.length_reverse]; omega)) only [getS_0, getS_s, setS_0, setS_s, sr_ok, nx_then, rt_then, ex_then, bk_then, ct_then, ex_sr, asBool_b, asInt_i, items_l, items_t, Res.ok_bind, Res.ex_bind, Res.bad_bind, Res.quiet_ok, op_add_i, op_sub_i, b1_int, b1_abs, b1_lenl, b1_lent, b1_tupl, b1_tupt, b1_listt, b1_listl, lt_i, gt_i, le_i, ge_i, strict_0, strict_s, peek_0, peek_0l, peek_0d, peek_s, bindT_n, bindT_t, bindT_l, bindT_w, bindTs_n, bindTs_c, wipeS_nil, wipeS_cons, e_k, e_v, e_p, e_tup, e_lst, e_nil, e_cons, e_op, e_cmp, e_ch, e_and, e_or, e_not, e_neg, e_ite, e_isN, e_notN, e_ix, e_slf, e_slt, e_slb, e_rev, e_call, e_b1, e_b2, e_isi, e_rng, e_dnil, e_comp, e_dcomp, e_enm', e_zip', e_rl, e_idx, e_join, x_nil, x_cons, x_set, x_setO, x_unp, x_xp, x_ret, x_raise, x_ite, x_forB, x_app, x_tr, x_brk, x_cnt, x_pass, x_fr, x_wipe, x_par, evP_nil, evP_f, evP_t, parR_nil, parR_f, parR_t, x_aug, x_augix, x_setix, setixS_nat, x_extS, x_pop, augD_add, augD_sub, x_while, compR_nil, compR_mapL, compR_some, quiet_ite, in_natL, in_natT, notin_natL, notin_natT, eq_ii, ne_ii, eq_ss, ne_ss, sum_map, all_map, any_map, b2_max, b2_min, ix_0, ix_1, ix_2, ixl_0, ansR_rt, ansR_nx, ansR_ex, toSl_l, toSl_d, sl_tailT, sl_tailL, size_ok, sz_filterL, compG_t, rng_nat, rng_ab, shl_one, shr_nat, band_one, op_mod_i, op_fdiv_i, zipD_map, zipD_tail, add_tup, add_lst, rev_tup, rev_lst, mul_repT, if_true, if_false, ite_true, ite_false, Bool.not_true, Bool.not_false, Bool.false_eq_true, decide_eq_true_eq, decide_true, decide_false, Bool.and_true, Bool.true_and, Bool.or_true, Bool.true_or, Bool.and_false, Bool.false_and, Bool.or_false, Bool.false_or, reduceCtorEq, List.map_cons, List.map_nil, List.length_map, List.length_cons, List.length_nil, List.nil_append, List.cons_append, List.length_range, List.length_append, sz_filterR, Nat.reduceAdd, Int.cast_ofNat_Int, Int.reduceEq, Int.reduceLT, Int.reduceLE, ez, ha, great_of]
    rfl
  · intro t _
    have e1 := slT_take (L.map natD) t
    rw [← List.map_take] at e1
    simp -implicitDefEqProofs (disch := first | omega | (simp only [List.length_map, List.length_cons, List.length_nil, List.length_append, List.length_range, List.length_replicate, List.length_tail, List.length_reverse]; omega)) only [getS_0, getS_s, setS_0, setS_s, sr_ok, nx_then, rt_then, ex_then, bk_then, ct_then, ex_sr, asBool_b, asInt_i, items_l, items_t, Res.ok_bind, Res.ex_bind, Res.bad_bind, Res.quiet_ok, op_add_i, op_sub_i, b1_int, b1_abs, b1_lenl, b1_lent, b1_tupl, b1_tupt, b1_listt, b1_listl, lt_i, gt_i, le_i, ge_i, strict_0, strict_s, peek_0, peek_0l, peek_0d, peek_s, bindT_n, bindT_t, bindT_l, bindT_w, bindTs_n, bindTs_c, wipeS_nil, wipeS_cons, e_k, e_v, e_p, e_tup, e_lst, e_nil, e_cons, e_op, e_cmp, e_ch, e_and, e_or, e_not, e_neg, e_ite, e_isN, e_notN, e_ix, e_slf, e_slt, e_slb, e_rev, e_call, e_b1, e_b2, e_isi, e_rng, e_dnil, e_comp, e_dcomp, e_enm', e_zip', e_rl, e_idx, e_join, x_nil, x_cons, x_set, x_setO, x_unp, x_xp, x_ret, x_raise, x_ite, x_forB, x_app, x_tr, x_brk, x_cnt, x_pass, x_fr, x_wipe, x_par, evP_nil, evP_f, evP_t, parR_nil, parR_f, parR_t, x_aug, x_augix, x_setix, setixS_nat, x_extS, x_pop, augD_add, augD_sub, x_while, compR_nil, compR_mapL, compR_some, quiet_ite, in_natL, in_natT, notin_natL, notin_natT, eq_ii, ne_ii, eq_ss, ne_ss, sum_map, all_map, any_map, b2_max, b2_min, ix_0, ix_1, ix_2, ixl_0, ansR_rt, ansR_nx, ansR_ex, toSl_l, toSl_d, sl_tailT, sl_tailL, size_ok, sz_filterL, compG_t, rng_nat, rng_ab, shl_one, shr_nat, band_one, op_mod_i, op_fdiv_i, zipD_map, zipD_tail, add_tup, add_lst, rev_tup, rev_lst, mul_repT, if_true, if_false, ite_true, ite_false, Bool.not_true, Bool.not_false, Bool.false_eq_true, decide_eq_true_eq, decide_true, decide_false, Bool.and_true, Bool.true_and, Bool.or_true, Bool.true_or, Bool.and_false, Bool.false_and, Bool.or_false, Bool.false_or, reduceCtorEq, List.map_cons, List.map_nil, List.length_map, List.length_cons, List.length_nil, List.nil_append, List.cons_append, List.length_range, List.length_append, sz_filterR, Nat.reduceAdd, Int.cast_ofNat_Int, Int.reduceEq, Int.reduceLT, Int.reduceLE, e1, cut_at_ok g (x := .tuple ((L.take t).map natD)) rfl]
theorem cut_of_ok {n : Nat} {ws : List Wire} (g : Good n ws) {S : List Nat} (hs : asc S) (hl : ∀ p ∈ S, p < n) : EE m (k + 6) i_cut_of [bD n ws, .tuple (S.map natD)] = .ok (.int (cutAt ws S)) := by
  rw [r_cut_of]
  have h9 := g.n9
  have ix0 : ixD (bD n ws) (.int 0) = .ok (.int n) := by unfold bD; simp
  have hz : S.length ≤ 1000 := Nat.le_trans (asc_len hs hl) (by omega)
  simp -implicitDefEqProofs (disch := first | omega | (simp only [List.length_map, List.length_cons, List.length_nil, List.length_append, List.length_range, List.length_replicate, List.length_tail, List.length_reverse]; omega)) only [getS_0, getS_s, setS_0, setS_s, sr_ok, nx_then, rt_then, ex_then, bk_then, ct_then, ex_sr, asBool_b, asInt_i, items_l, items_t, Res.ok_bind, Res.ex_bind, Res.bad_bind, Res.quiet_ok, op_add_i, op_sub_i, b1_int, b1_abs, b1_lenl, b1_lent, b1_tupl, b1_tupt, b1_listt, b1_listl, lt_i, gt_i, le_i, ge_i, strict_0, strict_s, peek_0, peek_0l, peek_0d, peek_s, bindT_n, bindT_t, bindT_l, bindT_w, bindTs_n, bindTs_c, wipeS_nil, wipeS_cons, e_k, e_v, e_p, e_tup, e_lst, e_nil, e_cons, e_op, e_cmp, e_ch, e_and, e_or, e_not, e_neg, e_ite, e_isN, e_notN, e_ix, e_slf, e_slt, e_slb, e_rev, e_call, e_b1, e_b2, e_isi, e_rng, e_dnil, e_comp, e_dcomp, e_enm', e_zip', e_rl, e_idx, e_join, x_nil, x_cons, x_set, x_setO, x_unp, x_xp, x_ret, x_raise, x_ite, x_forB, x_app, x_tr, x_brk, x_cnt, x_pass, x_fr, x_wipe, x_par, evP_nil, evP_f, evP_t, parR_nil, parR_f, parR_t, x_aug, x_augix, x_setix, setixS_nat, x_extS, x_pop, augD_add, augD_sub, x_while, compR_nil, compR_mapL, compR_some, quiet_ite, in_natL, in_natT, notin_natL, notin_natT, eq_ii, ne_ii, eq_ss, ne_ss, sum_map, all_map, any_map, b2_max, b2_min, ix_0, ix_1, ix_2, ixl_0, ansR_rt, ansR_nx, ansR_ex, toSl_l, toSl_d, sl_tailT, sl_tailL, size_ok, sz_filterL, compG_t, rng_nat, rng_ab, shl_one, shr_nat, band_one, op_mod_i, op_fdiv_i, zipD_map, zipD_tail, add_tup, add_lst, rev_tup, rev_lst, mul_repT, if_true, if_false, ite_true, ite_false, Bool.not_true, Bool.not_false, Bool.false_eq_true, decide_eq_true_eq, decide_true, decide_false, Bool.and_true, Bool.true_and, Bool.or_true, Bool.true_or, Bool.and_false, Bool.false_and, Bool.or_false, Bool.false_or, reduceCtorEq, List.map_cons, List.map_nil, List.length_map, List.length_cons, List.length_nil, List.nil_append, List.cons_append, List.length_range, List.length_append, sz_filterR, Nat.reduceAdd, Int.cast_ofNat_Int, Int.reduceEq, Int.reduceLT, Int.reduceLE, b_cut_of, check_bundles_ok g, ix0, are_parts_ok hs hl hz, cut_at_ok g (x := .tuple (S.map natD)) rfl]
end Ord

namespace Ord
open PySem PySem.W L2 BW
/-! ### what an order comes to -/
def VL (g : Bool) (d : List Nat → Int) : List Nat → List Nat → Int
  | _, [] => 0
  | pre, p :: L => tog g (d (pre ++ [p])) (VL g d (pre ++ [p]) L)
structure Rep (n b : Nat) (pre : List Nat) : Prop where
  bits : ∀ p, p < n → bit b p = pre.contains p
  num : b < 2 ^ n
theorem cutAt_sum (ws : List Wire) (s : List Nat) : cutAt ws s = (ws.map (cutW s)).sum := by
  unfold cutAt
  rw [foldl_add, Int.zero_add]
theorem cutAt_cong {n : Nat} {ws : List Wire} (g : Good n ws) {s s' : List Nat} (h : ∀ p, p < n → s.contains p = s'.contains p) : cutAt ws s = cutAt ws s' := by
  rw [cutAt_sum, cutAt_sum]
  congr 1
  apply List.map_congr_left
  intro w hw
  unfold cutW inner
  have : w.1.filter (fun x => s.contains x) = w.1.filter fun x => s'.contains x := List.filter_congr fun x hx => h x ((g.ok w hw).lt x hx)
  rw [this]
theorem cc_pre {n b : Nat} {ws : List Wire} (g : Good n ws) {pre : List Nat} (r : Rep n b pre) : cc ws n b = cutAt ws pre := cutAt_cong g fun p hp => by
  rw [← r.bits p hp]
  by_cases q : bit b p = true
  · rw [q, List.contains_iff_mem]; exact mem_iff.mpr ⟨hp, q⟩
  · have q : bit b p = false := by simpa using q
    rw [q]
    cases z : (mem b n).contains p with
    | false => rfl
    | true =>
      have := (mem_iff.mp (List.contains_iff_mem.mp z)).2
      rw [q] at this; cases this
theorem Rep.next {n b p : Nat} {pre : List Nat} (r : Rep n b pre) (hp : p < n) (hn : p ∉ pre) : bit b p = false ∧ Rep n (b + 2 ^ p) (pre ++ [p]) := by
  have hb : bit b p = false := by
    rw [r.bits p hp]
    simpa using hn
  refine ⟨hb, fun x hx => ?_, lt_of_bit_add hb r.num hp⟩
  rw [bit_add hb, r.bits x hx, List.contains_eq_mem, List.contains_eq_mem]
  by_cases e : x = p
  · simp [e]
  · simp [e]
theorem Rep.full {n b : Nat} {pre : List Nat} (r : Rep n b pre) (h : IsO n pre) : b = 2 ^ n - 1 := by
  apply Nat.eq_of_testBit_eq
  intro i
  rw [Nat.testBit_two_pow_sub_one, ← bit_tb]
  by_cases hi : i < n
  · rw [r.bits i hi, decide_eq_true hi, List.contains_iff_mem]; exact h.mem hi
  · rw [decide_eq_false hi, bit_tb, Nat.testBit_lt_two_pow (Nat.lt_of_lt_of_le r.num (Nat.pow_le_pow_right (by decide) (by omega)))]
theorem Rep.zero (n : Nat) : Rep n 0 [] := ⟨fun p _ => by simp [bit], Nat.two_pow_pos n⟩
theorem VL_nn {g : Bool} {n : Nat} {ws : List Wire} (gd : Good n ws) : ∀ (L pre : List Nat), 0 ≤ VL g (cutAt ws) pre L
  | [], _ => Int.le_refl _
  | p :: L, pre => by
    have h1 := VL_nn (g := g) gd L (pre ++ [p])
    have h2 := cutAt_nn gd (pre ++ [p])
    unfold VL tog
    split <;> omega
/-- no order comes to less than what is behind -/
theorem Bh_le {g : Bool} {n : Nat} {ws : List Wire} (gd : Good n ws) : ∀ (L pre : List Nat) (b : Nat), Rep n b pre → IsO n (pre ++ L) → Bh g (cc ws n) n b ≤ VL g (cutAt ws) pre L
  | [], pre, b, r, h => by
    rw [List.append_nil] at h
    have := r.full h
    rw [Bh_full (by omega)]
    exact Int.le_refl _
  | p :: L, pre, b, r, h => by
    have hp : p < n := h.lt p (by simp)
    have hn : p ∉ pre := fun z => by
      have := (List.nodup_append.mp h.nd).2.2 p z p (by simp)
      exact this rfl
    obtain ⟨hb, r2⟩ := r.next hp hn
    have hlt := lt_of_bit_add hb r.num hp
    have hpos := Nat.two_pow_pos p
    rw [Bh_eq (by omega)]
    refine Int.le_trans (minL_le (List.mem_map.mpr ⟨p, by simp [List.mem_filter, hp, hb], rfl⟩)) ?_
    rw [cc_pre gd r2]
    exact tog_mono (Bh_le gd L (pre ++ [p]) _ r2 (by rw [List.append_assoc]; exact h))
/-- the first one comes to just this -/
theorem tog_assoc (g : Bool) (a b c : Int) : tog g (tog g a b) c = tog g a (tog g b c) := by unfold tog; split <;> omega
theorem run_val {g : Bool} {n : Nat} {ws : List Wire} (gd : Good n ws) : ∀ i, i ≤ n → ∀ rest, VL g (cutAt ws) [] ((runF g (cc ws n) n i).ord ++ rest) = tog g (runF g (cc ws n) n i).done (VL g (cutAt ws) (runF g (cc ws n) n i).ord rest)
  | 0, _, rest => by
    show VL g (cutAt ws) [] rest = tog g 0 (VL g (cutAt ws) [] rest)
    have := VL_nn (g := g) gd rest []
    unfold tog
    split <;> omega
  | i + 1, h, rest => by
    have I := invF_run (tog0 (g := g) (c := cc ws n) (n := n) fun b => cutAt_nn gd _) i (by omega)
    obtain ⟨p, h1, hpn, h3, I2⟩ := invF_step I (by omega)
    have ih := run_val (g := g) gd i (by omega) (p :: rest)
    have r : Rep n (runF g (cc ws n) n i).num (runF g (cc ws n) n i).ord := ⟨I.bits, I.num⟩
    have hn : p ∉ (runF g (cc ws n) n i).ord := by
      unfold good at h3
      simp only [Bool.and_eq_true, Bool.not_eq_true'] at h3
      simpa using h3.1
    have r2 := (r.next hpn hn).2
    have e : runF g (cc ws n) n (i + 1) = next g (cc ws n) (runF g (cc ws n) n i) p := by
      show stepF g (cc ws n) n (runF g (cc ws n) n i) = _
      unfold stepF
      rw [h1]
    rw [e]
    show VL g (cutAt ws) [] (((runF g (cc ws n) n i).ord ++ [p]) ++ rest) = tog g (tog g (cc ws n ((runF g (cc ws n) n i).num + 2 ^ p)) (runF g (cc ws n) n i).done) (VL g (cutAt ws) ((runF g (cc ws n) n i).ord ++ [p]) rest)
    rw [List.append_assoc, List.singleton_append, ih, cc_pre gd r2]
    show tog g _ (tog g (cutAt ws ((runF g (cc ws n) n i).ord ++ [p])) (VL g (cutAt ws) ((runF g (cc ws n) n i).ord ++ [p]) rest)) = _
    generalize VL g (cutAt ws) ((runF g (cc ws n) n i).ord ++ [p]) rest = z
    unfold tog
    split <;> omega
theorem best_iso {g : Bool} {n : Nat} {ws : List Wire} (gd : Good n ws) : IsO n (best g (cc ws n) n) := by
  have I := invF_run (tog0 (g := g) (c := cc ws n) (n := n) fun b => cutAt_nn gd _) n (Nat.le_refl n)
  exact ⟨I.nd, I.len, I.lt⟩
theorem best_val {g : Bool} {n : Nat} {ws : List Wire} (gd : Good n ws) : VL g (cutAt ws) [] (best g (cc ws n) n) = Bh g (cc ws n) n 0 := by
  have I := invF_run (tog0 (g := g) (c := cc ws n) (n := n) fun b => cutAt_nn gd _) n (Nat.le_refl n)
  have h := run_val (g := g) gd n (Nat.le_refl n) []
  rw [List.append_nil] at h
  have hf : (runF g (cc ws n) n n).num = 2 ^ n - 1 := Rep.full (pre := (runF g (cc ws n) n n).ord) ⟨I.bits, I.num⟩ ⟨I.nd, I.len, I.lt⟩
  have he := I.eq
  rw [hf, Bh_full (b := 2 ^ n - 1) (n := n) (by omega)] at he
  show VL g (cutAt ws) [] (runF g (cc ws n) n n).ord = _
  rw [h, ← he]
  rfl
/-! ### marks of all, and what is behind nothing -/
theorem Bh_nn {g : Bool} {c : Nat → Int} {n : Nat} (hc : ∀ b, 0 ≤ c b) : ∀ (j b : Nat), 2 ^ n - b ≤ j → 0 ≤ Bh g c n b
  | j, b, h => by
    by_cases hb : 2 ^ n ≤ b + 1
    · rw [Bh_full hb]; exact Int.le_refl _
    · obtain ⟨p, hp, hbit, e⟩ := Bh_pick (g := g) (cut := c) (n := n) (b := b) (by omega)
      have hpos := Nat.two_pow_pos p
      cases j with
      | zero => omega
      | succ j =>
        have h9 : 2 ^ n - (b + 2 ^ p) ≤ j := by omega
        have ih := Bh_nn (g := g) hc j (b + 2 ^ p) h9
        have := hc (b + 2 ^ p)
        rw [e]
        unfold tog
        split <;> omega
theorem M_nn {g : Bool} {c : Nat → Int} {n : Nat} (hc : ∀ b, 0 ≤ c b) : ∀ b, b < 2 ^ n → 0 ≤ M g c n b := fun b => by
  induction b using Nat.strongRecOn with
  | _ b ih =>
    intro hb
    by_cases h0 : b = 0
    · subst h0; rw [M_zero]; exact Int.le_refl _
    · rw [M_eq h0]
      obtain ⟨p, hp⟩ := exists_bit h0 hb
      have hm := minL_mem (L := (mem b n).map fun p => tog g (c b) (M g c n (b - 2 ^ p))) (by
        intro e
        rw [List.map_eq_nil_iff.mp e] at hp
        cases hp)
      obtain ⟨q, hq, e⟩ := List.mem_map.mp hm
      rw [← e]
      have hl := Nat.two_pow_pos q
      have h1 := ih (b - 2 ^ q) (by omega) (by omega)
      have h2 := hc b
      unfold tog
      split <;> omega
/-- marks so far and what is behind: never less than behind nothing -/
theorem Bh0_le {g : Bool} {c : Nat → Int} {n : Nat} (hc : ∀ b, 0 ≤ c b) : ∀ b, b < 2 ^ n → Bh g c n 0 ≤ tog g (M g c n b) (Bh g c n b) := fun b => by
  induction b using Nat.strongRecOn with
  | _ b ih =>
    intro hb
    by_cases h0 : b = 0
    · subst h0
      rw [M_zero]
      have := Bh_nn (g := g) (n := n) hc _ 0 (Nat.le_refl _)
      unfold tog
      split <;> omega
    · obtain ⟨p, hp⟩ := exists_bit h0 hb
      have hm := minL_mem (L := (mem b n).map fun p => tog g (c b) (M g c n (b - 2 ^ p))) (by
        intro e
        rw [List.map_eq_nil_iff.mp e] at hp
        cases hp)
      rw [← M_eq h0] at hm
      obtain ⟨q, hq, e⟩ := List.mem_map.mp hm
      obtain ⟨hqn, hqb⟩ := mem_iff.mp hq
      have hl := Nat.two_pow_pos q
      have hle := pow_le_of_bit hqb
      have h1 := ih (b - 2 ^ q) (by omega) (by omega)
      have hf := bit_sub_self hqb
      have h2 : Bh g c n (b - 2 ^ q) ≤ tog g (c b) (Bh g c n b) := by
        rw [Bh_eq (by omega)]
        refine minL_le (List.mem_map.mpr ⟨q, by simp [List.mem_filter, hqn, hf], ?_⟩)
        rw [Nat.sub_add_cancel hle]
      refine Int.le_trans h1 (Int.le_trans (tog_mono h2) (Int.le_of_eq ?_))
      rw [← e]
      unfold tog
      split <;> omega
theorem M_le {g : Bool} {c : Nat → Int} {n : Nat} (hc : ∀ b, 0 ≤ c b) : ∀ (j b : Nat), b < 2 ^ n → 2 ^ n - b ≤ j → M g c n (2 ^ n - 1) ≤ tog g (M g c n b) (Bh g c n b)
  | j, b, hb, h => by
    by_cases hf : b + 1 < 2 ^ n
    · obtain ⟨p, hp, hbit, e⟩ := Bh_pick (g := g) (cut := c) (n := n) (b := b) hf
      have hpos := Nat.two_pow_pos p
      have hlt := lt_of_bit_add hbit hb hp
      cases j with
      | zero => omega
      | succ j =>
        have ih := M_le (g := g) hc j (b + 2 ^ p) hlt (by omega)
        have hbp : bit (b + 2 ^ p) p = true := by rw [bit_add hbit]; simp
        have h1 : M g c n (b + 2 ^ p) ≤ tog g (c (b + 2 ^ p)) (M g c n b) := by
          rw [M_eq (by omega)]
          refine minL_le (List.mem_map.mpr ⟨p, mem_iff.mpr ⟨hp, hbp⟩, ?_⟩)
          rw [Nat.add_sub_cancel]
        rw [e]
        refine Int.le_trans ih ?_
        revert h1
        unfold tog
        split <;> omega
    · have : b = 2 ^ n - 1 := by omega
      subst this
      rw [Bh_full (by omega)]
      have := M_nn (g := g) hc _ hb
      unfold tog
      split <;> omega
theorem M_Bh {g : Bool} {c : Nat → Int} {n : Nat} (hc : ∀ b, 0 ≤ c b) : M g c n (2 ^ n - 1) = Bh g c n 0 := by
  have hpos := Nat.two_pow_pos n
  apply Int.le_antisymm
  · have h1 := M_le (g := g) (n := n) hc _ 0 hpos (Nat.le_refl _)
    rw [M_zero] at h1
    have := Bh_nn (g := g) (n := n) hc _ 0 (Nat.le_refl _)
    revert h1
    unfold tog
    split <;> omega
  · have h1 := Bh0_le (g := g) (n := n) hc (2 ^ n - 1) (by omega)
    rw [Bh_full (g := g) (cut := c) (n := n) (b := 2 ^ n - 1) (by omega)] at h1
    have := M_nn (g := g) (n := n) hc (2 ^ n - 1) (by omega)
    revert h1
    unfold tog
    split <;> omega
/-- more cut, more marks -/
theorem M_mono {g : Bool} {c c' : Nat → Int} {n : Nat} (h : ∀ b, c b ≤ c' b) : M g c n (2 ^ n - 1) ≤ M g c' n (2 ^ n - 1) := by
  have hpos := Nat.two_pow_pos n
  refine le_M (f := M g c n) ⟨by rw [M_zero]; exact Int.le_refl _, fun b h0 hb p hp => ?_⟩ _ (by omega)
  rw [M_eq h0]
  refine Int.le_trans (minL_le (List.mem_map.mpr ⟨p, hp, rfl⟩)) ?_
  have := h b
  unfold tog
  split <;> omega
end Ord

namespace Ord
open PySem PySem.W L2 BW
variable {m : Md} {k : Nat}
/-! ### lengths and greatest cuts are what orders come to -/
theorem VL_sum (d : List Nat → Int) : ∀ (L pre : List Nat), VL true d pre L = ((List.range L.length).map fun i => d (pre ++ L.take (i + 1))).sum
  | [], pre => rfl
  | p :: L, pre => by
    rw [VL, VL_sum d L, List.length_cons, List.range_succ_eq_map, List.map_cons, List.map_map, List.sum_cons]
    show d (pre ++ [p]) + _ = _
    congr 1
    congr 1
    apply List.map_congr_left
    intro i _
    simp
theorem sum_swap {α β : Type} (f : α → β → Int) : ∀ (A : List α) (B : List β), (A.map fun a => (B.map fun b => f a b).sum).sum = (B.map fun b => (A.map fun a => f a b).sum).sum
  | [], B => by
    induction B with
    | nil => rfl
    | cons b B ih => simp at ih ⊢; exact ih
  | a :: A, B => by
    rw [List.map_cons, List.sum_cons, sum_swap f A B]
    have : ∀ B : List β, (B.map fun b => f a b).sum + (B.map fun b => (A.map fun a => f a b).sum).sum = (B.map fun b => ((a :: A).map fun a => f a b).sum).sum := fun B => by
      induction B with
      | nil => rfl
      | cons b B ih => simp only [List.map_cons, List.sum_cons] at ih ⊢; omega
    exact this B
theorem mem_take_idx {L : List Nat} {p : Nat} (h : p ∈ L) (t : Nat) : p ∈ L.take t ↔ L.idxOf p < t := by
  obtain ⟨h1, h2, h3⟩ := idx_of h
  constructor
  · intro hp
    obtain ⟨j, hj, e⟩ := List.mem_iff_getElem.mp hp
    rw [List.getElem_take] at e
    rw [List.length_take] at hj
    apply Classical.byContradiction
    intro hn
    have := h3 j (by omega)
    rw [List.getD_eq_getElem?_getD, List.getElem?_eq_getElem (by omega)] at this
    exact this e
  · intro ht
    rw [List.mem_iff_getElem]
    refine ⟨L.idxOf p, by rw [List.length_take]; omega, ?_⟩
    rw [List.getElem_take]
    rw [List.getD_eq_getElem?_getD, List.getElem?_eq_getElem h1] at h2
    exact h2
theorem foldl_max_ge : ∀ (L : List Int) (x : Int), x ≤ L.foldl max x ∧ ∀ y ∈ L, y ≤ L.foldl max x
  | [], x => ⟨Int.le_refl _, fun y h => nomatch h⟩
  | a :: L, x => by
    obtain ⟨h1, h2⟩ := foldl_max_ge L (max x a)
    refine ⟨Int.le_trans (Int.le_max_left _ _) h1, fun y hy => ?_⟩
    rcases List.mem_cons.mp hy with rfl | hy
    · exact Int.le_trans (Int.le_max_right _ _) h1
    · exact h2 y hy
theorem foldl_max_mem : ∀ (L : List Int) (x : Int), L.foldl max x = x ∨ L.foldl max x ∈ L
  | [], x => .inl rfl
  | a :: L, x => by
    rcases foldl_max_mem L (max x a) with h | h
    · rw [List.foldl_cons, h]
      by_cases q : a ≤ x
      · exact .inl (by omega)
      · exact .inr (by rw [show max x a = a by omega]; simp)
    · exact .inr (List.mem_cons_of_mem _ h)
theorem hiL_ge {L : List Int} {y : Int} (h : y ∈ L) : y ≤ hiL L := by
  cases L with
  | nil => cases h
  | cons x r =>
    obtain ⟨h1, h2⟩ := foldl_max_ge r x
    rcases List.mem_cons.mp h with rfl | h
    · exact h1
    · exact h2 y h
theorem hiL_mem {L : List Int} (h : L ≠ []) : hiL L ∈ L := by
  cases L with
  | nil => exact absurd rfl h
  | cons x r =>
    rcases foldl_max_mem r x with h | h
    · rw [hiL, h]; simp
    · exact List.mem_cons_of_mem _ h
theorem sum_ind (x a b : Int) (h : 0 ≤ a) (hab : a ≤ b) : ∀ n : Nat, ((List.range n).map fun i : Nat => if a < (i : Int) + 1 ∧ (i : Int) + 1 ≤ b then x else 0).sum = x * (min b n - min a n)
  | 0 => by
    have : min b ((0 : Nat) : Int) - min a ((0 : Nat) : Int) = 0 := by omega
    rw [this]; simp
  | n + 1 => by
    rw [List.range_succ, List.map_append, List.sum_append, sum_ind x a b h hab n]
    simp only [List.map_cons, List.map_nil, List.sum_cons, List.sum_nil, Int.add_zero]
    by_cases q : a < (n : Int) + 1 ∧ (n : Int) + 1 ≤ b
    · rw [if_pos q]
      have : min b ((n + 1 : Nat) : Int) - min a ((n + 1 : Nat) : Int) = min b (n : Int) - min a (n : Int) + 1 := by omega
      rw [this, Int.mul_add, Int.mul_one]
    · rw [if_neg q]
      have : min b ((n + 1 : Nat) : Int) - min a ((n + 1 : Nat) : Int) = min b (n : Int) - min a (n : Int) := by omega
      rw [this, Int.add_zero]
theorem wire_sum {n : Nat} {L : List Nat} (ho : IsO n L) {w : Wire} (gw : GoodW n w) : ((List.range L.length).map fun i => cutW (L.take (i + 1)) w).sum = w.2 * span L w.1 := by
  have hne : w.1.map (fun p => (L.idxOf p : Int)) ≠ [] := by
    have := ne_parts gw
    simpa using this
  obtain ⟨pl, hpl, el⟩ := List.mem_map.mp (minL_mem hne)
  obtain ⟨ph, hph, eh⟩ := List.mem_map.mp (hiL_mem hne)
  have hlo : ∀ p ∈ w.1, minL (w.1.map fun p => (L.idxOf p : Int)) ≤ (L.idxOf p : Int) := fun p hp => minL_le (List.mem_map.mpr ⟨p, hp, rfl⟩)
  have hhi : ∀ p ∈ w.1, (L.idxOf p : Int) ≤ hiL (w.1.map fun p => (L.idxOf p : Int)) := fun p hp => hiL_ge (List.mem_map.mpr ⟨p, hp, rfl⟩)
  unfold span
  generalize hA : minL (w.1.map fun p => (L.idxOf p : Int)) = A at *
  generalize hB : hiL (w.1.map fun p => (L.idxOf p : Int)) = B at *
  have hin : ∀ p ∈ w.1, p ∈ L := fun p hp => ho.mem (gw.lt p hp)
  have hBn : B < (L.length : Int) := by
    have := (idx_of (hin ph hph)).1
    omega
  have e : ((List.range L.length).map fun i => cutW (L.take (i + 1)) w) = (List.range L.length).map fun i : Nat => if A < (i : Int) + 1 ∧ (i : Int) + 1 ≤ B then w.2 else 0 := by
    apply List.map_congr_left
    intro i _
    unfold cutW inner
    obtain ⟨f1, f2⟩ := filt_len (fun x => (L.take (i + 1)).contains x) w.1
    have c1 : (w.1.any fun x => (L.take (i + 1)).contains x) = true ↔ A < (i : Int) + 1 := by
      rw [List.any_eq_true]
      constructor
      · rintro ⟨p, hp, hc⟩
        have := (mem_take_idx (hin p hp) (i + 1)).mp (List.contains_iff_mem.mp hc)
        have := hlo p hp
        omega
      · intro ha
        exact ⟨pl, hpl, List.contains_iff_mem.mpr ((mem_take_idx (hin pl hpl) (i + 1)).mpr (by omega))⟩
    have c2 : (w.1.all fun x => (L.take (i + 1)).contains x) = false ↔ (i : Int) + 1 ≤ B := by
      rw [List.all_eq_false]
      constructor
      · rintro ⟨p, hp, hc⟩
        have h1 : ¬ L.idxOf p < i + 1 := fun z => hc (List.contains_iff_mem.mpr ((mem_take_idx (hin p hp) (i + 1)).mpr z))
        have := hhi p hp
        omega
      · intro hb
        refine ⟨ph, hph, fun z => ?_⟩
        have := (mem_take_idx (hin ph hph) (i + 1)).mp (List.contains_iff_mem.mp z)
        omega
    have : (0 < (w.1.filter fun x => (L.take (i + 1)).contains x).length ∧ (w.1.filter fun x => (L.take (i + 1)).contains x).length < w.1.length) ↔ (A < (i : Int) + 1 ∧ (i : Int) + 1 ≤ B) := by
      rw [f1, f2, c1, c2]
    by_cases q : A < (i : Int) + 1 ∧ (i : Int) + 1 ≤ B
    · rw [if_pos q, if_pos (this.mpr q)]
    · rw [if_neg q, if_neg fun z => q (this.mp z)]
  rw [e, sum_ind w.2 A B (by omega) (by have := hhi pl hpl; omega)]
  congr 1
  have := hhi pl hpl
  omega
theorem VL_len {n : Nat} {ws : List Wire} (g : Good n ws) {L : List Nat} (ho : IsO n L) : VL true (cutAt ws) [] L = Len ws L := by
  rw [VL_sum]
  simp only [List.nil_append, cutAt_sum]
  rw [sum_swap (fun i w => cutW (L.take (i + 1)) w)]
  unfold Len
  congr 1
  apply List.map_congr_left
  intro w hw
  exact wire_sum ho (g.ok w hw)
theorem VL_max (d : List Nat → Int) : ∀ (L pre : List Nat), VL false d pre L = ((List.range L.length).map fun i => d (pre ++ L.take (i + 1))).foldr max 0
  | [], pre => rfl
  | p :: L, pre => by
    rw [VL, VL_max d L, List.length_cons, List.range_succ_eq_map, List.map_cons, List.map_map, List.foldr_cons]
    show max (d (pre ++ [p])) _ = _
    congr 1
    congr 1
    apply List.map_congr_left
    intro i _
    simp
theorem foldr_foldl_max : ∀ (L : List Int) (x : Int), L.foldl max x = max x (L.foldr max x)
  | [], x => by simp
  | a :: L, x => by
    rw [List.foldl_cons, foldr_foldl_max L, List.foldr_cons]
    have h1 : ∀ (L : List Int) (x y : Int), x ≤ y → L.foldr max y = max y (L.foldr max x) := fun L => by
      induction L with
      | nil => intro x y h; simp; omega
      | cons b L ih => intro x y h; rw [List.foldr_cons, List.foldr_cons, ih x y h]; omega
    rw [h1 L x (max x a) (by omega)]
    omega
theorem cut_full {n : Nat} {ws : List Wire} (g : Good n ws) {L : List Nat} (ho : IsO n L) : cutAt ws L = 0 := by
  rw [cutAt_sum]
  have : ws.map (cutW L) = ws.map fun _ => (0 : Int) := List.map_congr_left fun w hw => by
    unfold cutW inner
    have : w.1.filter (fun x => L.contains x) = w.1 := List.filter_eq_self.mpr fun x hx => List.contains_iff_mem.mpr (ho.mem ((g.ok w hw).lt x hx))
    rw [this, if_neg (by omega)]
  rw [this]
  generalize ws = W
  induction W with
  | nil => rfl
  | cons w W ih => simpa using ih
theorem VL_great {n : Nat} {ws : List Wire} (g : Good n ws) {L : List Nat} (ho : IsO n L) : VL false (cutAt ws) [] L = Great ws L := by
  rw [VL_max]
  unfold Great
  have hl := ho.len
  have hn := g.n1
  obtain ⟨j, hj⟩ : ∃ j, L.length = j + 1 := ⟨L.length - 1, by omega⟩
  rw [hj, List.range_succ, List.map_append, List.foldr_append]
  simp only [List.map_cons, List.map_nil, List.foldr_cons, List.foldr_nil, List.nil_append]
  have e : L.take (j + 1) = L := List.take_of_length_le (by omega)
  rw [e, cut_full g ho, foldr_foldl_max, Nat.add_sub_cancel, List.range'_eq_map_range, List.map_map]
  have : ((fun t => cutAt ws (L.take t)) ∘ fun i => 1 + i) = fun i => cutAt ws (L.take (i + 1)) := by
    funext i
    show cutAt ws (L.take (1 + i)) = _
    rw [Nat.add_comm]
  rw [this]
  have h0 : ∀ X : List Int, 0 ≤ X.foldr max 0 := fun X => by
    induction X with
    | nil => exact Int.le_refl _
    | cons a X ih => rw [List.foldr_cons]; omega
  have := h0 ((List.range j).map fun i => cutAt ws (L.take (i + 1)))
  rw [show max (0 : Int) 0 = 0 from rfl]
  omega
def Val (g : Bool) (ws : List Wire) (L : List Nat) : Int := if g then Len ws L else Great ws L
theorem VL_val (b : Bool) {n : Nat} {ws : List Wire} (g : Good n ws) {L : List Nat} (ho : IsO n L) : VL b (cutAt ws) [] L = Val b ws L := by
  cases b
  · exact VL_great g ho
  · exact VL_len g ho
theorem le_val (b : Bool) {n : Nat} {ws : List Wire} (g : Good n ws) {L : List Nat} (ho : IsO n L) : M b (cc ws n) n (2 ^ n - 1) ≤ Val b ws L := by
  rw [M_Bh fun _ => cutAt_nn g _, ← VL_val b g ho]
  exact Bh_le g L [] 0 (Rep.zero n) ho
theorem best_is (b : Bool) {n : Nat} {ws : List Wire} (g : Good n ws) : Val b ws (best b (cc ws n) n) = M b (cc ws n) n (2 ^ n - 1) := by
  rw [← VL_val b g (best_iso g), best_val g, M_Bh fun _ => cutAt_nn g _]
/-! ### all orders, one after another -/
def EX (n : Nat) : Nat → List Nat → List (List Nat)
  | 0, row => [row]
  | d + 1, row => ((List.range n).filter fun p => !row.contains p).flatMap fun p => EX n d (row ++ [p])
def exo (n : Nat) (row : List Nat) : List (List Nat) := ((List.range n).filter fun p => !row.contains p).map fun p => row ++ [p]
theorem EX_ext (n : Nat) : ∀ (d : Nat) (row : List Nat), (EX n d row).flatMap (exo n) = EX n (d + 1) row
  | 0, row => by
    show exo n row ++ [] = ((List.range n).filter fun p => !row.contains p).flatMap fun p => [row ++ [p]]
    rw [List.append_nil]
    unfold exo
    generalize (List.range n).filter (fun p => !row.contains p) = X
    induction X with
    | nil => rfl
    | cons a X ih => rw [List.map_cons, List.flatMap_cons, ih]; rfl
  | d + 1, row => by
    rw [EX, List.flatMap_assoc]
    show _ = ((List.range n).filter fun p => !row.contains p).flatMap fun p => EX n (d + 1) (row ++ [p])
    congr 1
    funext p
    exact EX_ext n d (row ++ [p])
theorem EX_mem (n : Nat) : ∀ (d : Nat) (row L : List Nat), row.Nodup → (∀ p ∈ row, p < n) → row.length + d = n → L ∈ EX n d row → IsO n L ∧ ∃ r, L = row ++ r
  | 0, row, L, h1, h2, h3, h => by
    rw [EX, List.mem_singleton] at h
    subst h
    exact ⟨⟨h1, by omega, h2⟩, [], by simp⟩
  | d + 1, row, L, h1, h2, h3, h => by
    rw [EX, List.mem_flatMap] at h
    obtain ⟨p, hp, hL⟩ := h
    simp only [List.mem_filter, List.mem_range, Bool.not_eq_true'] at hp
    have hpn : p ∉ row := by simpa using hp.2
    obtain ⟨a, r, e⟩ := EX_mem n d (row ++ [p]) L (by
      rw [List.nodup_append]
      exact ⟨h1, by simp, fun x hx y hy => by rw [List.mem_singleton.mp hy]; rintro rfl; exact hpn hx⟩) (fun x hx => by
      rcases List.mem_append.mp hx with hx | hx
      · exact h2 x hx
      · rw [List.mem_singleton.mp hx]; exact hp.1) (by simp; omega) hL
    exact ⟨a, p :: r, by rw [e]; simp⟩
theorem EX_len (n : Nat) : ∀ (d : Nat) (row : List Nat), (EX n d row).length ≤ n ^ d
  | 0, row => by simp [EX]
  | d + 1, row => by
    rw [EX]
    have : ∀ X : List Nat, (X.flatMap fun p => EX n d (row ++ [p])).length ≤ X.length * n ^ d := fun X => by
      induction X with
      | nil => simp
      | cons a X ih =>
        rw [List.flatMap_cons, List.length_append, List.length_cons, Nat.succ_mul]
        have := EX_len n d (row ++ [a])
        omega
    refine Nat.le_trans (this _) ?_
    rw [Nat.pow_succ, Nat.mul_comm]
    refine Nat.mul_le_mul_left _ (Nat.le_trans (List.length_filter_le _ _) (by simp))
theorem findSome_first {α β : Type} {f : α → Option β} {q : α → Bool} {b : β} : ∀ (L : List α) (a0 : α), (∀ a ∈ L, q a = false → f a = none) → L.find? q = some a0 → f a0 = some b → L.findSome? f = some b
  | [], _, _, h, _ => by simp at h
  | a :: L, a0, hno, h, hb => by
    by_cases e : q a = true
    · rw [List.find?_cons_of_pos e] at h
      cases h
      rw [List.findSome?_cons, hb]
    · have e : q a = false := by simpa using e
      rw [List.find?_cons_of_neg (by simp [e])] at h
      rw [List.findSome?_cons, hno a (by simp) e]
      exact findSome_first L a0 (fun x hx => hno x (by simp [hx])) h hb
/-- the first of all orders that come to the least is the told one -/
theorem first_of {g : Bool} {n : Nat} {ws : List Wire} (gd : Good n ws) : ∀ (d i : Nat), i + d = n → (EX n d (runF g (cc ws n) n i).ord).find? (fun L => decide (VL g (cutAt ws) [] L = Bh g (cc ws n) n 0)) = some (best g (cc ws n) n)
  | 0, i, h => by
    have e : i = n := by omega
    subst e
    rw [EX, List.find?_cons_of_pos]
    · rfl
    · exact decide_eq_true (best_val gd)
  | d + 1, i, h => by
    have I := invF_run (tog0 (g := g) (c := cc ws n) (n := n) fun b => cutAt_nn gd _) i (by omega)
    obtain ⟨p, h1, hpn, h3, I2⟩ := invF_step I (by omega)
    have e : runF g (cc ws n) n (i + 1) = next g (cc ws n) (runF g (cc ws n) n i) p := by
      show stepF g (cc ws n) n (runF g (cc ws n) n i) = _
      unfold stepF
      rw [h1]
    have ih := first_of (g := g) gd d (i + 1) (by omega)
    rw [e] at ih
    rw [EX, List.find?_flatMap]
    refine findSome_first (q := good g (cc ws n) n (runF g (cc ws n) n i)) _ p (fun a ha hq => ?_) ?_ ih
    · simp only [List.mem_filter, List.mem_range] at ha
      obtain ⟨han, hac⟩ := ha
      have hna : a ∉ (runF g (cc ws n) n i).ord := by simpa using hac
      rw [List.find?_eq_none]
      intro L hL hv
      have hv := of_decide_eq_true hv
      obtain ⟨ho, r, rfl⟩ := EX_mem n d _ L (by
        rw [List.nodup_append]
        exact ⟨I.nd, by simp, fun x hx y hy => by rw [List.mem_singleton.mp hy]; rintro rfl; exact hna hx⟩) (fun x hx => by
        rcases List.mem_append.mp hx with hx | hx
        · exact I.lt x hx
        · rw [List.mem_singleton.mp hx]; exact han) (by simp [I.len]; omega) hL
      have rp : Rep n (runF g (cc ws n) n i).num (runF g (cc ws n) n i).ord := ⟨I.bits, I.num⟩
      obtain ⟨hb, r2⟩ := rp.next han hna
      have hlt := lt_of_bit_add hb I.num han
      have hpos := Nat.two_pow_pos a
      have v1 := run_val (g := g) gd i (by omega) (a :: r)
      rw [List.append_assoc, List.singleton_append] at hv ho
      rw [v1] at hv
      have v2 := Bh_le (g := g) gd r ((runF g (cc ws n) n i).ord ++ [a]) _ r2 (by rw [List.append_assoc]; exact ho)
      have v3 : Bh g (cc ws n) n (runF g (cc ws n) n i).num ≤ tog g (cc ws n ((runF g (cc ws n) n i).num + 2 ^ a)) (Bh g (cc ws n) n ((runF g (cc ws n) n i).num + 2 ^ a)) := by
        rw [Bh_eq (by omega)]
        exact minL_le (List.mem_map.mpr ⟨a, by simp [List.mem_filter, han, hb], rfl⟩)
      have v4 := I.eq
      have v5 : ¬ tog g (tog g (cc ws n ((runF g (cc ws n) n i).num + 2 ^ a)) (runF g (cc ws n) n i).done) (Bh g (cc ws n) n ((runF g (cc ws n) n i).num + 2 ^ a)) = Bh g (cc ws n) n 0 := by
        unfold good at hq
        rw [hac, Bool.true_and] at hq
        exact of_decide_eq_false hq
      have v6 : VL g (cutAt ws) (runF g (cc ws n) n i).ord (a :: r) = tog g (cc ws n ((runF g (cc ws n) n i).num + 2 ^ a)) (VL g (cutAt ws) ((runF g (cc ws n) n i).ord ++ [a]) r) := by
        rw [cc_pre gd r2]; rfl
      rw [v6] at hv
      revert hv v2 v3 v4 v5
      generalize VL g (cutAt ws) ((runF g (cc ws n) n i).ord ++ [a]) r = z1
      generalize Bh g (cc ws n) n ((runF g (cc ws n) n i).num + 2 ^ a) = z2
      generalize Bh g (cc ws n) n (runF g (cc ws n) n i).num = z3
      generalize Bh g (cc ws n) n 0 = z4
      generalize (runF g (cc ws n) n i).done = z5
      generalize cc ws n ((runF g (cc ws n) n i).num + 2 ^ a) = z6
      unfold tog
      split <;> omega
    · rw [List.find?_filter]
      have : (fun p => (!(runF g (cc ws n) n i).ord.contains p && good g (cc ws n) n (runF g (cc ws n) n i) p) : Nat → Bool) = good g (cc ws n) n (runF g (cc ws n) n i) := by
        funext x
        unfold good
        cases (runF g (cc ws n) n i).ord.contains x <;> rfl
      rw [← h1]
      congr 1
      funext x
      have := congrFun this x
      simpa using this
theorem idx_find {α : Type} [DecidableEq α] (f : α → Int) (v : Int) : ∀ (E : List α) (b : α), E.find? (fun L => decide (f L = v)) = some b → E[(E.map f).idxOf v]? = some b ∧ v ∈ E.map f
  | [], b, h => by simp at h
  | a :: E, b, h => by
    by_cases e : f a = v
    · rw [List.find?_cons_of_pos (by simpa using e)] at h
      cases h
      rw [List.map_cons, List.idxOf_cons, e]
      simp
    · rw [List.find?_cons_of_neg (by simpa using e)] at h
      obtain ⟨h1, h2⟩ := idx_find f v E b h
      rw [List.map_cons, List.idxOf_cons]
      have : (f a == v) = false := by simpa using e
      rw [this]
      exact ⟨by simpa using h1, List.mem_cons_of_mem _ h2⟩
end Ord

namespace Ord
open PySem PySem.W L2 BW
variable {m : Md} {k : Nat}
theorem gS_len (g : Bool) : decide (gS g = "length") = g := by cases g <;> decide
theorem own_of (b n : Nat) (hn : n ≤ 9) {σ : BW.Env} {i j : Nat} : ∀ {L : List Nat}, (∀ p ∈ L, p < n) → (∀ p ∈ L, ∃ σ', bindT (.n i) (natD p) (wipeS σ [i]) = .ok σ' ∧ strict σ' i = .ok (natD p) ∧ strict σ' j = .ok (natD b)) →
    compR (fun a => compG (EE m (k + 1)) (.v i) (.n i) (.cmp .eq (.op .mod (.op .fdiv (.v j) (.call i_law_two [.v i])) (.k (.int 2))) (.k (.int 1))) [i] σ (natD a)) L = .ok ((L.filter (bit b)).map natD) := by
  intro L hL hσ
  refine compR_okf fun p hp => ?_
  obtain ⟨σ', e1, e2, e3⟩ := hσ p hp
  have hp9 := hL p hp
  have h2 := pow9 (n := p) (by omega)
  have hpos := Nat.two_pow_pos p
  have e4 : (b : Int) / ((2 ^ p : Nat) : Int) % 2 = ((b / 2 ^ p % 2 : Nat) : Int) := by push_cast; rfl
  have e5 : (((b / 2 ^ p % 2 : Nat) : Int) = 1) = (b / 2 ^ p % 2 = 1) := propext (by omega)
  unfold compG
  rw [e1]
  simp -implicitDefEqProofs (disch := first | omega | (simp only [List.length_map, List.length_cons, List.length_nil, List.length_append, List.length_range, List.length_replicate, List.length_tail, List.length_reverse]; omega)) only [getS_0, getS_s, setS_0, setS_s, sr_ok, nx_then, rt_then, ex_then, bk_then, ct_then, ex_sr, asBool_b, asInt_i, items_l, items_t, Res.ok_bind, Res.ex_bind, Res.bad_bind, Res.quiet_ok, op_add_i, op_sub_i, b1_int, b1_abs, b1_lenl, b1_lent, b1_tupl, b1_tupt, b1_listt, b1_listl, lt_i, gt_i, le_i, ge_i, strict_0, strict_s, peek_0, peek_0l, peek_0d, peek_s, bindT_n, bindT_t, bindT_l, bindT_w, bindTs_n, bindTs_c, wipeS_nil, wipeS_cons, e_k, e_v, e_p, e_tup, e_lst, e_nil, e_cons, e_op, e_cmp, e_ch, e_and, e_or, e_not, e_neg, e_ite, e_isN, e_notN, e_ix, e_slf, e_slt, e_slb, e_rev, e_call, e_b1, e_b2, e_isi, e_rng, e_dnil, e_comp, e_dcomp, e_enm', e_zip', e_rl, e_idx, e_join, x_nil, x_cons, x_set, x_setO, x_unp, x_xp, x_ret, x_raise, x_ite, x_forB, x_app, x_tr, x_brk, x_cnt, x_pass, x_fr, x_wipe, x_par, evP_nil, evP_f, evP_t, parR_nil, parR_f, parR_t, x_aug, x_augix, x_setix, setixS_nat, x_extS, x_pop, augD_add, augD_sub, x_while, compR_nil, compR_mapL, compR_some, quiet_ite, in_natL, in_natT, notin_natL, notin_natT, eq_ii, ne_ii, eq_ss, ne_ss, sum_map, all_map, any_map, b2_max, b2_min, ix_0, ix_1, ix_2, ixl_0, ansR_rt, ansR_nx, ansR_ex, toSl_l, toSl_d, sl_tailT, sl_tailL, size_ok, sz_filterL, compG_t, rng_nat, rng_ab, shl_one, shr_nat, band_one, op_mod_i, op_fdiv_i, zipD_map, zipD_tail, add_tup, add_lst, rev_tup, rev_lst, mul_repT, if_true, if_false, ite_true, ite_false, Bool.not_true, Bool.not_false, Bool.false_eq_true, decide_eq_true_eq, decide_true, decide_false, Bool.and_true, Bool.true_and, Bool.or_true, Bool.true_or, Bool.and_false, Bool.false_and, Bool.or_false, Bool.false_or, reduceCtorEq, List.map_cons, List.map_nil, List.length_map, List.length_cons, List.length_nil, List.nil_append, List.cons_append, List.length_range, List.length_append, sz_filterR, Nat.reduceAdd, Int.cast_ofNat_Int, Int.reduceEq, Int.reduceLT, Int.reduceLE, e2, e3, two_ok (m := m) (k := k) p (by omega), e4, e5, bit]
  split <;> rfl
/-! ### the law's own orders -/
def oD (L : List Nat) : BW.D := .tuple (L.map natD)
theorem EX_row (n : Nat) : ∀ (d : Nat) (row L : List Nat), L ∈ EX n d row → L.length = row.length + d
  | 0, row, L, h => by rw [EX, List.mem_singleton] at h; subst h; rfl
  | d + 1, row, L, h => by
    rw [EX, List.mem_flatMap] at h
    obtain ⟨p, _, hL⟩ := h
    have := EX_row n d _ L hL
    simp at this
    omega
theorem forR_next {f : BW.D → BW.Env → SR} {d : BW.D} {xs : List BW.D} {σ σ' : BW.Env} (h : f d σ = .nx σ') : forR f (d :: xs) σ = forR f xs σ' := by
  rw [forR, h]
theorem orders_row (n : Nat) (hn : n ≤ 9) (row acc : List (List Nat)) (s1 s2 : Sl) : acc.length + 9 * row.length ≤ 50000 → (∀ r ∈ row, r.length ≤ 100) →
    forR (forB (EE m k) m.sub fuel (.n 4) b_law_orders_2) (row.map oD) [.fz (.int n), s1, s2, .fz (.list (acc.map oD)), .un, .un] = .nx [.fz (.int n), s1, s2, .fz (.list ((acc ++ row.flatMap (exo n)).map oD)), .un, .un] := by
  induction row generalizing acc with
  | nil => intro _ _; rw [List.map_nil, forR, List.flatMap_nil, List.append_nil]
  | cons r row ih =>
    intro hz hr
    rw [List.length_cons] at hz
    have hrl := hr r (by simp)
    have hxl : (exo n r).length ≤ 9 := by
      unfold exo
      rw [List.length_map]
      exact Nat.le_trans (List.length_filter_le _ _) (by simpa using hn)
    have h1 : forB (EE m k) m.sub fuel (.n 4) b_law_orders_2 (oD r) [.fz (.int n), s1, s2, .fz (.list (acc.map oD)), .un, .un] = .nx [.fz (.int n), s1, s2, .fz (.list ((acc ++ exo n r).map oD)), .un, .un] := by
      have e4 : ∀ p : Nat, cmpB .notin (natD p) (oD r) = .ok (!r.contains p) := fun p => notin_natT p r
      have e5 : ∀ p : Nat, opD .add (oD r) (.tuple [natD p]) = .ok (oD (r ++ [p])) := fun p => by
        have := add_tup (r.map natD) [natD p] (by rw [List.length_map, List.length_singleton]; omega)
        rw [show r.map natD ++ [natD p] = (r ++ [p]).map natD by simp] at this
        exact this
      have e1 : ((List.range n).filter fun p => !r.contains p).map (fun p => oD (r ++ [p])) = (exo n r).map oD := by
        unfold exo; rw [List.map_map]; rfl
      have e2 := add_lst (acc.map oD) ((exo n r).map oD) (by rw [List.length_map, List.length_map]; omega)
      rw [← List.map_append] at e2
      have ez : BW.sizeOk (exo n r).length = true := size_ok (by omega)
      simp -implicitDefEqProofs (disch := first | omega | (simp only [List.length_map, List.length_cons, List.length_nil, List.length_append, List.length_range, List.length_replicate, List.length_tail, List.length_reverse]; omega)) only [getS_0, getS_s, setS_0, setS_s, sr_ok, nx_then, rt_then, ex_then, bk_then, ct_then, ex_sr, asBool_b, asInt_i, items_l, items_t, Res.ok_bind, Res.ex_bind, Res.bad_bind, Res.quiet_ok, op_add_i, op_sub_i, b1_int, b1_abs, b1_lenl, b1_lent, b1_tupl, b1_tupt, b1_listt, b1_listl, lt_i, gt_i, le_i, ge_i, strict_0, strict_s, peek_0, peek_0l, peek_0d, peek_s, bindT_n, bindT_t, bindT_l, bindT_w, bindTs_n, bindTs_c, wipeS_nil, wipeS_cons, e_k, e_v, e_p, e_tup, e_lst, e_nil, e_cons, e_op, e_cmp, e_ch, e_and, e_or, e_not, e_neg, e_ite, e_isN, e_notN, e_ix, e_slf, e_slt, e_slb, e_rev, e_call, e_b1, e_b2, e_isi, e_rng, e_dnil, e_comp, e_dcomp, e_enm', e_zip', e_rl, e_idx, e_join, x_nil, x_cons, x_set, x_setO, x_unp, x_xp, x_ret, x_raise, x_ite, x_forB, x_app, x_tr, x_brk, x_cnt, x_pass, x_fr, x_wipe, x_par, evP_nil, evP_f, evP_t, parR_nil, parR_f, parR_t, x_aug, x_augix, x_setix, setixS_nat, x_extS, x_pop, augD_add, augD_sub, x_while, compR_nil, compR_mapL, compR_some, quiet_ite, in_natL, in_natT, notin_natL, notin_natT, eq_ii, ne_ii, eq_ss, ne_ss, sum_map, all_map, any_map, b2_max, b2_min, ix_0, ix_1, ix_2, ixl_0, ansR_rt, ansR_nx, ansR_ex, toSl_l, toSl_d, sl_tailT, sl_tailL, size_ok, sz_filterL, compG_t, rng_nat, rng_ab, shl_one, shr_nat, band_one, op_mod_i, op_fdiv_i, zipD_map, zipD_tail, add_tup, add_lst, rev_tup, rev_lst, mul_repT, if_true, if_false, ite_true, ite_false, Bool.not_true, Bool.not_false, Bool.false_eq_true, decide_eq_true_eq, decide_true, decide_false, Bool.and_true, Bool.true_and, Bool.or_true, Bool.true_or, Bool.and_false, Bool.false_and, Bool.or_false, Bool.false_or, reduceCtorEq, List.map_cons, List.map_nil, List.length_map, List.length_cons, List.length_nil, List.nil_append, List.cons_append, List.length_range, List.length_append, sz_filterR, Nat.reduceAdd, Int.cast_ofNat_Int, Int.reduceEq, Int.reduceLT, Int.reduceLE, forB, b_law_orders_2]
      rw [compR_okf (p := fun p => !r.contains p) (g := fun p => oD (r ++ [p])), e1]
      · simp -implicitDefEqProofs (disch := first | omega | (simp only [List.length_map, List.length_cons, List.length_nil, List.length_append, List.length_range, List.length_replicate, List.length_tail, List.length_reverse]; omega)) only [getS_0, getS_s, setS_0, setS_s, sr_ok, nx_then, rt_then, ex_then, bk_then, ct_then, ex_sr, asBool_b, asInt_i, items_l, items_t, Res.ok_bind, Res.ex_bind, Res.bad_bind, Res.quiet_ok, op_add_i, op_sub_i, b1_int, b1_abs, b1_lenl, b1_lent, b1_tupl, b1_tupt, b1_listt, b1_listl, lt_i, gt_i, le_i, ge_i, strict_0, strict_s, peek_0, peek_0l, peek_0d, peek_s, bindT_n, bindT_t, bindT_l, bindT_w, bindTs_n, bindTs_c, wipeS_nil, wipeS_cons, e_k, e_v, e_p, e_tup, e_lst, e_nil, e_cons, e_op, e_cmp, e_ch, e_and, e_or, e_not, e_neg, e_ite, e_isN, e_notN, e_ix, e_slf, e_slt, e_slb, e_rev, e_call, e_b1, e_b2, e_isi, e_rng, e_dnil, e_comp, e_dcomp, e_enm', e_zip', e_rl, e_idx, e_join, x_nil, x_cons, x_set, x_setO, x_unp, x_xp, x_ret, x_raise, x_ite, x_forB, x_app, x_tr, x_brk, x_cnt, x_pass, x_fr, x_wipe, x_par, evP_nil, evP_f, evP_t, parR_nil, parR_f, parR_t, x_aug, x_augix, x_setix, setixS_nat, x_extS, x_pop, augD_add, augD_sub, x_while, compR_nil, compR_mapL, compR_some, quiet_ite, in_natL, in_natT, notin_natL, notin_natT, eq_ii, ne_ii, eq_ss, ne_ss, sum_map, all_map, any_map, b2_max, b2_min, ix_0, ix_1, ix_2, ixl_0, ansR_rt, ansR_nx, ansR_ex, toSl_l, toSl_d, sl_tailT, sl_tailL, size_ok, sz_filterL, compG_t, rng_nat, rng_ab, shl_one, shr_nat, band_one, op_mod_i, op_fdiv_i, zipD_map, zipD_tail, add_tup, add_lst, rev_tup, rev_lst, mul_repT, if_true, if_false, ite_true, ite_false, Bool.not_true, Bool.not_false, Bool.false_eq_true, decide_eq_true_eq, decide_true, decide_false, Bool.and_true, Bool.true_and, Bool.or_true, Bool.true_or, Bool.and_false, Bool.false_and, Bool.or_false, Bool.false_or, reduceCtorEq, List.map_cons, List.map_nil, List.length_map, List.length_cons, List.length_nil, List.nil_append, List.cons_append, List.length_range, List.length_append, sz_filterR, Nat.reduceAdd, Int.cast_ofNat_Int, Int.reduceEq, Int.reduceLT, Int.reduceLE, ez, e2]
      · intro p hp
        cases hc : r.contains p
        · simp -implicitDefEqProofs (disch := first | omega | (simp only [List.length_map, List.length_cons, List.length_nil, List.length_append, List.length_range, List.length_replicate, List.length_tail, List.length_reverse]; omega)) only [getS_0, getS_s, setS_0, setS_s, sr_ok, nx_then, rt_then, ex_then, bk_then, ct_then, ex_sr, asBool_b, asInt_i, items_l, items_t, Res.ok_bind, Res.ex_bind, Res.bad_bind, Res.quiet_ok, op_add_i, op_sub_i, b1_int, b1_abs, b1_lenl, b1_lent, b1_tupl, b1_tupt, b1_listt, b1_listl, lt_i, gt_i, le_i, ge_i, strict_0, strict_s, peek_0, peek_0l, peek_0d, peek_s, bindT_n, bindT_t, bindT_l, bindT_w, bindTs_n, bindTs_c, wipeS_nil, wipeS_cons, e_k, e_v, e_p, e_tup, e_lst, e_nil, e_cons, e_op, e_cmp, e_ch, e_and, e_or, e_not, e_neg, e_ite, e_isN, e_notN, e_ix, e_slf, e_slt, e_slb, e_rev, e_call, e_b1, e_b2, e_isi, e_rng, e_dnil, e_comp, e_dcomp, e_enm', e_zip', e_rl, e_idx, e_join, x_nil, x_cons, x_set, x_setO, x_unp, x_xp, x_ret, x_raise, x_ite, x_forB, x_app, x_tr, x_brk, x_cnt, x_pass, x_fr, x_wipe, x_par, evP_nil, evP_f, evP_t, parR_nil, parR_f, parR_t, x_aug, x_augix, x_setix, setixS_nat, x_extS, x_pop, augD_add, augD_sub, x_while, compR_nil, compR_mapL, compR_some, quiet_ite, in_natL, in_natT, notin_natL, notin_natT, eq_ii, ne_ii, eq_ss, ne_ss, sum_map, all_map, any_map, b2_max, b2_min, ix_0, ix_1, ix_2, ixl_0, ansR_rt, ansR_nx, ansR_ex, toSl_l, toSl_d, sl_tailT, sl_tailL, size_ok, sz_filterL, compG_t, rng_nat, rng_ab, shl_one, shr_nat, band_one, op_mod_i, op_fdiv_i, zipD_map, zipD_tail, add_tup, add_lst, rev_tup, rev_lst, mul_repT, if_true, if_false, ite_true, ite_false, Bool.not_true, Bool.not_false, Bool.false_eq_true, decide_eq_true_eq, decide_true, decide_false, Bool.and_true, Bool.true_and, Bool.or_true, Bool.true_or, Bool.and_false, Bool.false_and, Bool.or_false, Bool.false_or, reduceCtorEq, List.map_cons, List.map_nil, List.length_map, List.length_cons, List.length_nil, List.nil_append, List.cons_append, List.length_range, List.length_append, sz_filterR, Nat.reduceAdd, Int.cast_ofNat_Int, Int.reduceEq, Int.reduceLT, Int.reduceLE, compG, hc, e4, e5]
        · simp -implicitDefEqProofs (disch := first | omega | (simp only [List.length_map, List.length_cons, List.length_nil, List.length_append, List.length_range, List.length_replicate, List.length_tail, List.length_reverse]; omega)) only [getS_0, getS_s, setS_0, setS_s, sr_ok, nx_then, rt_then, ex_then, bk_then, ct_then, ex_sr, asBool_b, asInt_i, items_l, items_t, Res.ok_bind, Res.ex_bind, Res.bad_bind, Res.quiet_ok, op_add_i, op_sub_i, b1_int, b1_abs, b1_lenl, b1_lent, b1_tupl, b1_tupt, b1_listt, b1_listl, lt_i, gt_i, le_i, ge_i, strict_0, strict_s, peek_0, peek_0l, peek_0d, peek_s, bindT_n, bindT_t, bindT_l, bindT_w, bindTs_n, bindTs_c, wipeS_nil, wipeS_cons, e_k, e_v, e_p, e_tup, e_lst, e_nil, e_cons, e_op, e_cmp, e_ch, e_and, e_or, e_not, e_neg, e_ite, e_isN, e_notN, e_ix, e_slf, e_slt, e_slb, e_rev, e_call, e_b1, e_b2, e_isi, e_rng, e_dnil, e_comp, e_dcomp, e_enm', e_zip', e_rl, e_idx, e_join, x_nil, x_cons, x_set, x_setO, x_unp, x_xp, x_ret, x_raise, x_ite, x_forB, x_app, x_tr, x_brk, x_cnt, x_pass, x_fr, x_wipe, x_par, evP_nil, evP_f, evP_t, parR_nil, parR_f, parR_t, x_aug, x_augix, x_setix, setixS_nat, x_extS, x_pop, augD_add, augD_sub, x_while, compR_nil, compR_mapL, compR_some, quiet_ite, in_natL, in_natT, notin_natL, notin_natT, eq_ii, ne_ii, eq_ss, ne_ss, sum_map, all_map, any_map, b2_max, b2_min, ix_0, ix_1, ix_2, ixl_0, ansR_rt, ansR_nx, ansR_ex, toSl_l, toSl_d, sl_tailT, sl_tailL, size_ok, sz_filterL, compG_t, rng_nat, rng_ab, shl_one, shr_nat, band_one, op_mod_i, op_fdiv_i, zipD_map, zipD_tail, add_tup, add_lst, rev_tup, rev_lst, mul_repT, if_true, if_false, ite_true, ite_false, Bool.not_true, Bool.not_false, Bool.false_eq_true, decide_eq_true_eq, decide_true, decide_false, Bool.and_true, Bool.true_and, Bool.or_true, Bool.true_or, Bool.and_false, Bool.false_and, Bool.or_false, Bool.false_or, reduceCtorEq, List.map_cons, List.map_nil, List.length_map, List.length_cons, List.length_nil, List.nil_append, List.cons_append, List.length_range, List.length_append, sz_filterR, Nat.reduceAdd, Int.cast_ofNat_Int, Int.reduceEq, Int.reduceLT, Int.reduceLE, compG, hc, e4]
    rw [List.map_cons, forR_next h1]
    have := ih (acc ++ exo n r) (by rw [List.length_append]; omega) fun x hx => hr x (by simp [hx])
    rw [List.append_assoc] at this
    rw [List.flatMap_cons]
    exact this
theorem law_orders_ok (n : Nat) (hn : n ≤ 5) : EE m (k + 1) i_law_orders [.int n] = .ok (.list ((EX n n []).map oD)) := by
  rw [r_law_orders]
  have hf := forR_ix (f := forB (EE m k) m.sub fuel (.n 2) b_law_orders_1) natD (List.range n) (fun i => [.fz (.int n), .fz (.list ((EX n i []).map oD)), .un, .un, .un, .un]) fun i hi => by
    rw [List.length_range] at hi
    have hl : (EX n i []).length ≤ 3125 := Nat.le_trans (EX_len n i []) (Nat.le_trans (Nat.pow_le_pow_left hn i) (Nat.le_trans (Nat.pow_le_pow_right (n := 5) (by decide) (show i ≤ 5 by omega)) (by decide)))
    have hr := orders_row (m := m) (k := k) n (by omega) (EX n i []) [] (.fz (.list ((EX n i []).map oD))) (.fz (natD (List.range n)[i])) (by simp; omega) (fun r h => by
      have := EX_row n i [] r h
      simp at this
      omega)
    rw [List.nil_append, EX_ext, List.map_nil] at hr
    simp -implicitDefEqProofs (disch := first | omega | (simp only [List.length_map, List.length_cons, List.length_nil, List.length_append, List.length_range, List.length_replicate, List.length_tail, List.length_reverse]; omega)) only [getS_0, getS_s, setS_0, setS_s, sr_ok, nx_then, rt_then, ex_then, bk_then, ct_then, ex_sr, asBool_b, asInt_i, items_l, items_t, Res.ok_bind, Res.ex_bind, Res.bad_bind, Res.quiet_ok, op_add_i, op_sub_i, b1_int, b1_abs, b1_lenl, b1_lent, b1_tupl, b1_tupt, b1_listt, b1_listl, lt_i, gt_i, le_i, ge_i, strict_0, strict_s, peek_0, peek_0l, peek_0d, peek_s, bindT_n, bindT_t, bindT_l, bindT_w, bindTs_n, bindTs_c, wipeS_nil, wipeS_cons, e_k, e_v, e_p, e_tup, e_lst, e_nil, e_cons, e_op, e_cmp, e_ch, e_and, e_or, e_not, e_neg, e_ite, e_isN, e_notN, e_ix, e_slf, e_slt, e_slb, e_rev, e_call, e_b1, e_b2, e_isi, e_rng, e_dnil, e_comp, e_dcomp, e_enm', e_zip', e_rl, e_idx, e_join, x_nil, x_cons, x_set, x_setO, x_unp, x_xp, x_ret, x_raise, x_ite, x_forB, x_app, x_tr, x_brk, x_cnt, x_pass, x_fr, x_wipe, x_par, evP_nil, evP_f, evP_t, parR_nil, parR_f, parR_t, x_aug, x_augix, x_setix, setixS_nat, x_extS, x_pop, augD_add, augD_sub, x_while, compR_nil, compR_mapL, compR_some, quiet_ite, in_natL, in_natT, notin_natL, notin_natT, eq_ii, ne_ii, eq_ss, ne_ss, sum_map, all_map, any_map, b2_max, b2_min, ix_0, ix_1, ix_2, ixl_0, ansR_rt, ansR_nx, ansR_ex, toSl_l, toSl_d, sl_tailT, sl_tailL, size_ok, sz_filterL, compG_t, rng_nat, rng_ab, shl_one, shr_nat, band_one, op_mod_i, op_fdiv_i, zipD_map, zipD_tail, add_tup, add_lst, rev_tup, rev_lst, mul_repT, if_true, if_false, ite_true, ite_false, Bool.not_true, Bool.not_false, Bool.false_eq_true, decide_eq_true_eq, decide_true, decide_false, Bool.and_true, Bool.true_and, Bool.or_true, Bool.true_or, Bool.and_false, Bool.false_and, Bool.or_false, Bool.false_or, reduceCtorEq, List.map_cons, List.map_nil, List.length_map, List.length_cons, List.length_nil, List.nil_append, List.cons_append, List.length_range, List.length_append, sz_filterR, Nat.reduceAdd, Int.cast_ofNat_Int, Int.reduceEq, Int.reduceLT, Int.reduceLE, forB, b_law_orders_1, hr]
  have e0 : (EX n 0 []).map oD = [.tuple []] := rfl
  rw [e0, List.length_range] at hf
  simp -implicitDefEqProofs (disch := first | omega | (simp only [List.length_map, List.length_cons, List.length_nil, List.length_append, List.length_range, List.length_replicate, List.length_tail, List.length_reverse]; omega)) only [getS_0, getS_s, setS_0, setS_s, sr_ok, nx_then, rt_then, ex_then, bk_then, ct_then, ex_sr, asBool_b, asInt_i, items_l, items_t, Res.ok_bind, Res.ex_bind, Res.bad_bind, Res.quiet_ok, op_add_i, op_sub_i, b1_int, b1_abs, b1_lenl, b1_lent, b1_tupl, b1_tupt, b1_listt, b1_listl, lt_i, gt_i, le_i, ge_i, strict_0, strict_s, peek_0, peek_0l, peek_0d, peek_s, bindT_n, bindT_t, bindT_l, bindT_w, bindTs_n, bindTs_c, wipeS_nil, wipeS_cons, e_k, e_v, e_p, e_tup, e_lst, e_nil, e_cons, e_op, e_cmp, e_ch, e_and, e_or, e_not, e_neg, e_ite, e_isN, e_notN, e_ix, e_slf, e_slt, e_slb, e_rev, e_call, e_b1, e_b2, e_isi, e_rng, e_dnil, e_comp, e_dcomp, e_enm', e_zip', e_rl, e_idx, e_join, x_nil, x_cons, x_set, x_setO, x_unp, x_xp, x_ret, x_raise, x_ite, x_forB, x_app, x_tr, x_brk, x_cnt, x_pass, x_fr, x_wipe, x_par, evP_nil, evP_f, evP_t, parR_nil, parR_f, parR_t, x_aug, x_augix, x_setix, setixS_nat, x_extS, x_pop, augD_add, augD_sub, x_while, compR_nil, compR_mapL, compR_some, quiet_ite, in_natL, in_natT, notin_natL, notin_natT, eq_ii, ne_ii, eq_ss, ne_ss, sum_map, all_map, any_map, b2_max, b2_min, ix_0, ix_1, ix_2, ixl_0, ansR_rt, ansR_nx, ansR_ex, toSl_l, toSl_d, sl_tailT, sl_tailL, size_ok, sz_filterL, compG_t, rng_nat, rng_ab, shl_one, shr_nat, band_one, op_mod_i, op_fdiv_i, zipD_map, zipD_tail, add_tup, add_lst, rev_tup, rev_lst, mul_repT, if_true, if_false, ite_true, ite_false, Bool.not_true, Bool.not_false, Bool.false_eq_true, decide_eq_true_eq, decide_true, decide_false, Bool.and_true, Bool.true_and, Bool.or_true, Bool.true_or, Bool.and_false, Bool.false_and, Bool.or_false, Bool.false_or, reduceCtorEq, List.map_cons, List.map_nil, List.length_map, List.length_cons, List.length_nil, List.nil_append, List.cons_append, List.length_range, List.length_append, sz_filterR, Nat.reduceAdd, Int.cast_ofNat_Int, Int.reduceEq, Int.reduceLT, Int.reduceLE, b_law_orders, hf]
/-! ### the law's own look at marks -/
theorem marksD_ix (f : Nat → Int) (N b : Nat) (h : b < N) : ixD (marksD f N) (.int (b : Int)) = .ok (.int (f b)) := by
  unfold marksD
  rw [ixT_nat (fun b => .int (f b)) _ b (by simpa using h), List.getElem_range]
theorem holds_turn (g : Bool) {n : Nat} {ws : List Wire} (gd : Good n ws) (b : Nat) (h0 : b ≠ 0) (hb : b < 2 ^ n) :
    forB (EE m (k + 2)) m.sub fuel (.n 4) b_law_holds_1 (natD b) [.fz (.str (gS g)), .fz (bD n ws), .fz (marksD (M g (cc ws n) n) (2 ^ n)), .fz (.int n), .un, .un, .un, .un, .un] =
      .nx [.fz (.str (gS g)), .fz (bD n ws), .fz (marksD (M g (cc ws n) n) (2 ^ n)), .fz (.int n), .un, .un, .un, .un, .un] := by
  have h9 := gd.n9
  have e1 := marksD_ix (M g (cc ws n) n) (2 ^ n) b hb
  have hown := own_of (m := m) (k := k + 1) b n h9 (σ := [.fz (.str (gS g)), .fz (bD n ws), .fz (marksD (M g (cc ws n) n) (2 ^ n)), .fz (.int n), .fz (natD b), .un, .un, .un, .un]) (i := 7) (j := 4) (L := List.range n) (fun p hp => List.mem_range.mp hp) (fun p hp => ⟨_, bindT_n _ _ _, rfl, rfl⟩)
  have hcut := law_cut_ok (m := m) (k := k + 1) gd (x := .list ((mem b n).map natD)) (s := mem b n) rfl
  have hf := forR_same (f := forB (EE m (k + 2)) m.sub fuel (.n 7) b_law_holds_2) [.fz (.str (gS g)), .fz (bD n ws), .fz (marksD (M g (cc ws n) n) (2 ^ n)), .fz (.int n), .fz (natD b), .fz (.list ((mem b n).map natD)), .fz (.int (cutAt ws (mem b n))), .un, .un] ((mem b n).map natD) fun d hd => by
    obtain ⟨p, hp, rfl⟩ := List.mem_map.mp hd
    obtain ⟨hp1, hp2⟩ := mem_iff.mp hp
    have hl := pow_le_of_bit hp2
    have hpos := Nat.two_pow_pos p
    have e : (b : Int) - ((2 ^ p : Nat) : Int) = ((b - 2 ^ p : Nat) : Int) := by omega
    have e3 := marksD_ix (M g (cc ws n) n) (2 ^ n) (b - 2 ^ p) (by omega)
    have e4 := two_ok (m := m) (k := k + 1) p (by omega)
    have hle : M g (cc ws n) n b ≤ tog g (cutAt ws (mem b n)) (M g (cc ws n) n (b - 2 ^ p)) := by
      rw [M_eq h0]
      exact minL_le (List.mem_map.mpr ⟨p, hp, rfl⟩)
    cases g
    · have eg : decide (gS false = "length") = false := gS_len false
      have q : ¬ max (cutAt ws (mem b n)) (M false (cc ws n) n (b - 2 ^ p)) < M false (cc ws n) n b := by
        simp only [tog, Bool.false_eq_true, if_false] at hle
        omega
      simp -implicitDefEqProofs (disch := first | omega | (simp only [List.length_map, List.length_cons, List.length_nil, List.length_append, List.length_range, List.length_replicate, List.length_tail, List.length_reverse]; omega)) only [getS_0, getS_s, setS_0, setS_s, sr_ok, nx_then, rt_then, ex_then, bk_then, ct_then, ex_sr, asBool_b, asInt_i, items_l, items_t, Res.ok_bind, Res.ex_bind, Res.bad_bind, Res.quiet_ok, op_add_i, op_sub_i, b1_int, b1_abs, b1_lenl, b1_lent, b1_tupl, b1_tupt, b1_listt, b1_listl, lt_i, gt_i, le_i, ge_i, strict_0, strict_s, peek_0, peek_0l, peek_0d, peek_s, bindT_n, bindT_t, bindT_l, bindT_w, bindTs_n, bindTs_c, wipeS_nil, wipeS_cons, e_k, e_v, e_p, e_tup, e_lst, e_nil, e_cons, e_op, e_cmp, e_ch, e_and, e_or, e_not, e_neg, e_ite, e_isN, e_notN, e_ix, e_slf, e_slt, e_slb, e_rev, e_call, e_b1, e_b2, e_isi, e_rng, e_dnil, e_comp, e_dcomp, e_enm', e_zip', e_rl, e_idx, e_join, x_nil, x_cons, x_set, x_setO, x_unp, x_xp, x_ret, x_raise, x_ite, x_forB, x_app, x_tr, x_brk, x_cnt, x_pass, x_fr, x_wipe, x_par, evP_nil, evP_f, evP_t, parR_nil, parR_f, parR_t, x_aug, x_augix, x_setix, setixS_nat, x_extS, x_pop, augD_add, augD_sub, x_while, compR_nil, compR_mapL, compR_some, quiet_ite, in_natL, in_natT, notin_natL, notin_natT, eq_ii, ne_ii, eq_ss, ne_ss, sum_map, all_map, any_map, b2_max, b2_min, ix_0, ix_1, ix_2, ixl_0, ansR_rt, ansR_nx, ansR_ex, toSl_l, toSl_d, sl_tailT, sl_tailL, size_ok, sz_filterL, compG_t, rng_nat, rng_ab, shl_one, shr_nat, band_one, op_mod_i, op_fdiv_i, zipD_map, zipD_tail, add_tup, add_lst, rev_tup, rev_lst, mul_repT, if_true, if_false, ite_true, ite_false, Bool.not_true, Bool.not_false, Bool.false_eq_true, decide_eq_true_eq, decide_true, decide_false, Bool.and_true, Bool.true_and, Bool.or_true, Bool.true_or, Bool.and_false, Bool.false_and, Bool.or_false, Bool.false_or, reduceCtorEq, List.map_cons, List.map_nil, List.length_map, List.length_cons, List.length_nil, List.nil_append, List.cons_append, List.length_range, List.length_append, sz_filterR, Nat.reduceAdd, Int.cast_ofNat_Int, Int.reduceEq, Int.reduceLT, Int.reduceLE, forB, b_law_holds_2, e, e1, e3, e4, eg, q, gt_iff_lt]
    · have eg : decide (gS true = "length") = true := gS_len true
      have q : ¬ cutAt ws (mem b n) + M true (cc ws n) n (b - 2 ^ p) < M true (cc ws n) n b := by
        simp only [tog, if_true] at hle
        omega
      simp -implicitDefEqProofs (disch := first | omega | (simp only [List.length_map, List.length_cons, List.length_nil, List.length_append, List.length_range, List.length_replicate, List.length_tail, List.length_reverse]; omega)) only [getS_0, getS_s, setS_0, setS_s, sr_ok, nx_then, rt_then, ex_then, bk_then, ct_then, ex_sr, asBool_b, asInt_i, items_l, items_t, Res.ok_bind, Res.ex_bind, Res.bad_bind, Res.quiet_ok, op_add_i, op_sub_i, b1_int, b1_abs, b1_lenl, b1_lent, b1_tupl, b1_tupt, b1_listt, b1_listl, lt_i, gt_i, le_i, ge_i, strict_0, strict_s, peek_0, peek_0l, peek_0d, peek_s, bindT_n, bindT_t, bindT_l, bindT_w, bindTs_n, bindTs_c, wipeS_nil, wipeS_cons, e_k, e_v, e_p, e_tup, e_lst, e_nil, e_cons, e_op, e_cmp, e_ch, e_and, e_or, e_not, e_neg, e_ite, e_isN, e_notN, e_ix, e_slf, e_slt, e_slb, e_rev, e_call, e_b1, e_b2, e_isi, e_rng, e_dnil, e_comp, e_dcomp, e_enm', e_zip', e_rl, e_idx, e_join, x_nil, x_cons, x_set, x_setO, x_unp, x_xp, x_ret, x_raise, x_ite, x_forB, x_app, x_tr, x_brk, x_cnt, x_pass, x_fr, x_wipe, x_par, evP_nil, evP_f, evP_t, parR_nil, parR_f, parR_t, x_aug, x_augix, x_setix, setixS_nat, x_extS, x_pop, augD_add, augD_sub, x_while, compR_nil, compR_mapL, compR_some, quiet_ite, in_natL, in_natT, notin_natL, notin_natT, eq_ii, ne_ii, eq_ss, ne_ss, sum_map, all_map, any_map, b2_max, b2_min, ix_0, ix_1, ix_2, ixl_0, ansR_rt, ansR_nx, ansR_ex, toSl_l, toSl_d, sl_tailT, sl_tailL, size_ok, sz_filterL, compG_t, rng_nat, rng_ab, shl_one, shr_nat, band_one, op_mod_i, op_fdiv_i, zipD_map, zipD_tail, add_tup, add_lst, rev_tup, rev_lst, mul_repT, if_true, if_false, ite_true, ite_false, Bool.not_true, Bool.not_false, Bool.false_eq_true, decide_eq_true_eq, decide_true, decide_false, Bool.and_true, Bool.true_and, Bool.or_true, Bool.true_or, Bool.and_false, Bool.false_and, Bool.or_false, Bool.false_or, reduceCtorEq, List.map_cons, List.map_nil, List.length_map, List.length_cons, List.length_nil, List.nil_append, List.cons_append, List.length_range, List.length_append, sz_filterR, Nat.reduceAdd, Int.cast_ofNat_Int, Int.reduceEq, Int.reduceLT, Int.reduceLE, forB, b_law_holds_2, e, e1, e3, e4, eg, q, gt_iff_lt]
  have hm : (List.range n).filter (bit b) = mem b n := rfl
  rw [hm] at hown
  have hml : (mem b n).length ≤ 9 := Nat.le_trans (List.length_filter_le _ _) (by simpa using h9)
  simp -implicitDefEqProofs (disch := first | omega | (simp only [List.length_map, List.length_cons, List.length_nil, List.length_append, List.length_range, List.length_replicate, List.length_tail, List.length_reverse]; omega)) only [getS_0, getS_s, setS_0, setS_s, sr_ok, nx_then, rt_then, ex_then, bk_then, ct_then, ex_sr, asBool_b, asInt_i, items_l, items_t, Res.ok_bind, Res.ex_bind, Res.bad_bind, Res.quiet_ok, op_add_i, op_sub_i, b1_int, b1_abs, b1_lenl, b1_lent, b1_tupl, b1_tupt, b1_listt, b1_listl, lt_i, gt_i, le_i, ge_i, strict_0, strict_s, peek_0, peek_0l, peek_0d, peek_s, bindT_n, bindT_t, bindT_l, bindT_w, bindTs_n, bindTs_c, wipeS_nil, wipeS_cons, e_k, e_v, e_p, e_tup, e_lst, e_nil, e_cons, e_op, e_cmp, e_ch, e_and, e_or, e_not, e_neg, e_ite, e_isN, e_notN, e_ix, e_slf, e_slt, e_slb, e_rev, e_call, e_b1, e_b2, e_isi, e_rng, e_dnil, e_comp, e_dcomp, e_enm', e_zip', e_rl, e_idx, e_join, x_nil, x_cons, x_set, x_setO, x_unp, x_xp, x_ret, x_raise, x_ite, x_forB, x_app, x_tr, x_brk, x_cnt, x_pass, x_fr, x_wipe, x_par, evP_nil, evP_f, evP_t, parR_nil, parR_f, parR_t, x_aug, x_augix, x_setix, setixS_nat, x_extS, x_pop, augD_add, augD_sub, x_while, compR_nil, compR_mapL, compR_some, quiet_ite, in_natL, in_natT, notin_natL, notin_natT, eq_ii, ne_ii, eq_ss, ne_ss, sum_map, all_map, any_map, b2_max, b2_min, ix_0, ix_1, ix_2, ixl_0, ansR_rt, ansR_nx, ansR_ex, toSl_l, toSl_d, sl_tailT, sl_tailL, size_ok, sz_filterL, compG_t, rng_nat, rng_ab, shl_one, shr_nat, band_one, op_mod_i, op_fdiv_i, zipD_map, zipD_tail, add_tup, add_lst, rev_tup, rev_lst, mul_repT, if_true, if_false, ite_true, ite_false, Bool.not_true, Bool.not_false, Bool.false_eq_true, decide_eq_true_eq, decide_true, decide_false, Bool.and_true, Bool.true_and, Bool.or_true, Bool.true_or, Bool.and_false, Bool.false_and, Bool.or_false, Bool.false_or, reduceCtorEq, List.map_cons, List.map_nil, List.length_map, List.length_cons, List.length_nil, List.nil_append, List.cons_append, List.length_range, List.length_append, sz_filterR, Nat.reduceAdd, Int.cast_ofNat_Int, Int.reduceEq, Int.reduceLT, Int.reduceLE, forB, b_law_holds_1, hown, hcut, hf]
theorem marksD_len (f : Nat → Int) (N : Nat) : b1D .len (marksD f N) = .ok (.int N) := by unfold marksD; simp
theorem law_holds_ok (g : Bool) {n : Nat} {ws : List Wire} (gd : Good n ws) : EE m (k + 3) i_law_holds [.str (gS g), bD n ws, marksD (M g (cc ws n) n) (2 ^ n)] = .ok (.bool true) := by
  rw [r_law_holds]
  have h9 := gd.n9
  have hp := pow9 h9
  have hpos := Nat.two_pow_pos n
  have ix0 : ixD (bD n ws) (.int 0) = .ok (.int n) := by unfold bD; simp
  have e1 := two_ok (m := m) (k := k + 1) n h9
  have e2 := marksD_ix (M g (cc ws n) n) (2 ^ n) 0 hpos
  rw [M_zero, show ((0 : Nat) : Int) = 0 from rfl] at e2
  have er := rng_ab 1 (2 ^ n) (by omega) (by omega)
  rw [show ((1 : Nat) : Int) = 1 from rfl] at er
  have hf := forR_same (f := forB (EE m (k + 2)) m.sub fuel (.n 4) b_law_holds_1) [.fz (.str (gS g)), .fz (bD n ws), .fz (marksD (M g (cc ws n) n) (2 ^ n)), .fz (.int n), .un, .un, .un, .un, .un] ((List.range' 1 (2 ^ n - 1)).map natD) fun d hd => by
    obtain ⟨b, hb, rfl⟩ := List.mem_map.mp hd
    have := List.mem_range'_1.mp hb
    exact holds_turn g gd b (by omega) (by omega)
  have hlt : ¬ (0 : Int) < 0 := by omega
  simp -implicitDefEqProofs (disch := first | omega | (simp only [List.length_map, List.length_cons, List.length_nil, List.length_append, List.length_range, List.length_replicate, List.length_tail, List.length_reverse]; omega)) only [getS_0, getS_s, setS_0, setS_s, sr_ok, nx_then, rt_then, ex_then, bk_then, ct_then, ex_sr, asBool_b, asInt_i, items_l, items_t, Res.ok_bind, Res.ex_bind, Res.bad_bind, Res.quiet_ok, op_add_i, op_sub_i, b1_int, b1_abs, b1_lenl, b1_lent, b1_tupl, b1_tupt, b1_listt, b1_listl, lt_i, gt_i, le_i, ge_i, strict_0, strict_s, peek_0, peek_0l, peek_0d, peek_s, bindT_n, bindT_t, bindT_l, bindT_w, bindTs_n, bindTs_c, wipeS_nil, wipeS_cons, e_k, e_v, e_p, e_tup, e_lst, e_nil, e_cons, e_op, e_cmp, e_ch, e_and, e_or, e_not, e_neg, e_ite, e_isN, e_notN, e_ix, e_slf, e_slt, e_slb, e_rev, e_call, e_b1, e_b2, e_isi, e_rng, e_dnil, e_comp, e_dcomp, e_enm', e_zip', e_rl, e_idx, e_join, x_nil, x_cons, x_set, x_setO, x_unp, x_xp, x_ret, x_raise, x_ite, x_forB, x_app, x_tr, x_brk, x_cnt, x_pass, x_fr, x_wipe, x_par, evP_nil, evP_f, evP_t, parR_nil, parR_f, parR_t, x_aug, x_augix, x_setix, setixS_nat, x_extS, x_pop, augD_add, augD_sub, x_while, compR_nil, compR_mapL, compR_some, quiet_ite, in_natL, in_natT, notin_natL, notin_natT, eq_ii, ne_ii, eq_ss, ne_ss, sum_map, all_map, any_map, b2_max, b2_min, ix_0, ix_1, ix_2, ixl_0, ansR_rt, ansR_nx, ansR_ex, toSl_l, toSl_d, sl_tailT, sl_tailL, size_ok, sz_filterL, compG_t, rng_nat, rng_ab, shl_one, shr_nat, band_one, op_mod_i, op_fdiv_i, zipD_map, zipD_tail, add_tup, add_lst, rev_tup, rev_lst, mul_repT, if_true, if_false, ite_true, ite_false, Bool.not_true, Bool.not_false, Bool.false_eq_true, decide_eq_true_eq, decide_true, decide_false, Bool.and_true, Bool.true_and, Bool.or_true, Bool.true_or, Bool.and_false, Bool.false_and, Bool.or_false, Bool.false_or, reduceCtorEq, List.map_cons, List.map_nil, List.length_map, List.length_cons, List.length_nil, List.nil_append, List.cons_append, List.length_range, List.length_append, sz_filterR, Nat.reduceAdd, Int.cast_ofNat_Int, Int.reduceEq, Int.reduceLT, Int.reduceLE, b_law_holds, ix0, e1, e2, marksD_len, er, hf, gt_iff_lt, hlt]
end Ord

namespace Ord.K50
open PySem PySem.W L2 BW Ord
abbrev i_law : Nat := 43
/-- law: 0=script 1=draws 2=turn 3=told 4=bundles 5=orders 6=found 7=goal 8=part 9=many 10=wires 11=has 12=least 13=order 14=marks 15=rows 16=k 17=heavier 18=one -/
abbrev e_law (script_ draws_ turn_ told_ bundles_ orders_ found_ goal_ part_ many_ wires_ has_ least_ order_ marks_ rows_ k_ heavier_ one_ : Sl := .un) : BW.Env := [script_, draws_, turn_, told_, bundles_, orders_, found_, goal_, part_, many_, wires_, has_, least_, order_, marks_, rows_, k_, heavier_, one_]
def b_law_3 : List BW.S := [
    .ite (.and (.cmp .gt (.v 9) (.k (.int 1))) (.cmp .lt (.ix (.call i_best_order [.k (.str "cut"), .v 4]) (.k (.int 0))) (.b1 .min (.comp (.call i_cut_of [.v 4, .tup [.v 18]]) (.n 18) (.rng (.k (.int 0)) (.v 9) (.k (.int 1))) (.k (.bool true)) [18])))) [
      .ret (.k (.bool false))] [],
    .wipe [8]]
def b_law_2 : List BW.S := [
    .unp (.t [.n 12, .n 13, .n 14]) (.call i_best_order [.v 7, .v 4]),
    .set 11 (.ite (.cmp .eq (.v 7) (.k (.str "length"))) (.call i_law_length [.v 4, .v 13]) (.call i_law_greatest [.v 4, .v 13])),
    .ite (.or (.isi (.v 12) [.bool]) (.or (.cmp .ne (.b1 .sorted (.v 13)) (.rl false (.k (.int 0)) (.v 9))) (.or (.not (.isi (.v 13) [.tuple])) (.cmp .ne (.v 11) (.v 12))))) [
      .ret (.k (.bool false))] [],
    .ite (.cmp .ne (.v 11) (.ite (.cmp .eq (.v 7) (.k (.str "length"))) (.call i_length_of [.v 4, .v 13]) (.call i_greatest_cut [.v 4, .v 13]))) [
      .ret (.k (.bool false))] [],
    .ite (.or (.not (.isi (.v 14) [.tuple])) (.or (.cmp .ne (.ix (.v 14) (.neg (.k (.int 1)))) (.v 12)) (.or (.not (.call i_law_holds [.v 7, .v 4, .v 14])) (.notN (.call i_marks_fault [.v 7, .v 4, .v 14]))))) [
      .ret (.k (.bool false))] [],
    .ite (.notN (.v 5)) [
      .set 15 (.comp (.ite (.cmp .eq (.v 7) (.k (.str "length"))) (.call i_law_length [.v 4, .v 18]) (.call i_law_greatest [.v 4, .v 18])) (.n 18) (.v 5) (.k (.bool true)) [18]),
      .ite (.or (.cmp .ne (.b1 .min (.v 15)) (.v 12)) (.cmp .ne (.ix (.v 5) (.idx (.v 15) (.v 12))) (.v 13))) [
        .ret (.k (.bool false))] [],
      .wipe [15]] [
      .wipe [15]],
    .app 6 (.v 13),
    .ite (.cmp .gt (.b1 .len (.v 10)) (.k (.int 0))) [
      .set 16 (.op .mod (.b1 .int (.ix (.v 1) (.op .add (.k (.int 60)) (.v 2)))) (.b1 .len (.v 10))),
      .set 17 (.tup [.v 9, .op .add (.op .add (.slt (.v 10) (.v 16)) (.tup [.tup [.ix (.ix (.v 10) (.v 16)) (.k (.int 0)), .op .add (.ix (.ix (.v 10) (.v 16)) (.k (.int 1))) (.k (.int 7))]])) (.slf (.v 10) (.op .add (.v 16) (.k (.int 1))))]),
      .ite (.or (.cmp .lt (.ix (.call i_best_order [.v 7, .v 17]) (.k (.int 0))) (.v 12)) (.cmp .gt (.ix (.call i_best_order [.v 7, .tup [.v 9, .op .add (.slt (.v 10) (.v 16)) (.slf (.v 10) (.op .add (.v 16) (.k (.int 1))))]]) (.k (.int 0))) (.v 12))) [
        .ret (.k (.bool false))] [],
      .wipe [16, 17]] [
      .wipe [16, 17]],
    .wipe [7, 11, 12, 13, 14, 15, 16, 17]]
def b_law_1 : List BW.S := [
    .set 4 (.call i_law_bundles [.v 1, .op .mul (.k (.int 16)) (.v 2), .ix (.lst [.k (.int 4), .k (.int 7), .k (.int 6)]) (.v 2)]),
    .unp (.t [.n 9, .n 10]) (.v 4),
    .set 5 (.ite (.cmp .lt (.v 9) (.k (.int 6))) (.call i_law_orders [.v 9]) (.k .none)),
    .setO 6 (.lst []),
    .for (.n 7) (.lst [.k (.str "length"), .k (.str "cut")]) b_law_2,
    .ite (.or (.cmp .gt (.ix (.call i_best_order [.k (.str "cut"), .v 4]) (.k (.int 0))) (.call i_greatest_cut [.v 4, .ix (.p 6) (.k (.int 0))])) (.cmp .gt (.ix (.call i_best_order [.k (.str "length"), .v 4]) (.k (.int 0))) (.call i_length_of [.v 4, .ix (.p 6) (.k (.int 1))]))) [
      .ret (.k (.bool false))] [],
    .for (.n 8) (.rng (.k (.int 0)) (.v 9) (.k (.int 1))) b_law_3,
    .wipe [2, 4, 5, 6, 7, 8, 9, 10, 11, 12, 13, 14, 15, 16, 17]]
def b_law : List BW.S := [
    .set 1 (.call i_law_draws [.v 0, .k (.int 70)]),
    .for (.n 2) (.rng (.k (.int 0)) (.k (.int 3)) (.k (.int 1))) b_law_1,
    .set 3 (.call i_best_order [.k (.str "length"), .tup [.k (.int 3), .tup [.tup [.tup [.k (.int 0), .k (.int 2)], .k (.int 5)], .tup [.tup [.k (.int 0), .k (.int 1)], .k (.int 1)]]]]),
    .ret (.and (.cmp .eq (.slt (.v 3) (.k (.int 2))) (.tup [.k (.int 6), .tup [.k (.int 1), .k (.int 0), .k (.int 2)]])) (.and (.cmp .eq (.ix (.call i_best_order [.k (.str "cut"), .tup [.k (.int 3), .tup [.tup [.tup [.k (.int 0), .k (.int 2)], .k (.int 5)], .tup [.tup [.k (.int 0), .k (.int 1)], .k (.int 1)]]]]) (.k (.int 0))) (.k (.int 5))) (.cmp .eq (.call i_best_order [.k (.str "cut"), .tup [.k (.int 1), .tup []]]) (.tup [.k (.int 0), .tup [.k (.int 0)], .tup [.k (.int 0), .k (.int 0)]]))))]
def d_law : BW.DI := ⟨"law", ["script"], ["script", "draws", "turn", "told", "bundles", "orders", "found", "goal", "part", "many", "wires", "has", "least", "order", "marks", "rows", "k", "heavier", "one"], b_law⟩
def sub (c x : Str) : Option Bool :=
  if c = "BoardError" then (if x = "BoardError" then some true else if x = "BadOrder" then some false else if x = "BadBundles" then some false else if x = "BadParts" then some false else if x = "BadGoal" then some false else none) else
  if c = "BadOrder" then (if x = "BoardError" then some true else if x = "BadOrder" then some true else if x = "BadBundles" then some false else if x = "BadParts" then some false else if x = "BadGoal" then some false else none) else
  if c = "BadBundles" then (if x = "BoardError" then some true else if x = "BadOrder" then some false else if x = "BadBundles" then some true else if x = "BadParts" then some false else if x = "BadGoal" then some false else none) else
  if c = "BadParts" then (if x = "BoardError" then some true else if x = "BadOrder" then some false else if x = "BadBundles" then some false else if x = "BadParts" then some true else if x = "BadGoal" then some false else none) else
  if c = "BadGoal" then (if x = "BoardError" then some true else if x = "BadOrder" then some false else if x = "BadBundles" then some false else if x = "BadParts" then some false else if x = "BadGoal" then some true else none) else none
abbrev MM : Md := ⟨sub, [d_law]⟩
theorem r_law (k : Nat) (script_ : BW.D) : EE MM (k + 1) i_law [script_] = ansR (exs (EE MM k) sub fuel b_law [.fz script_, .un, .un, .un, .un, .un, .un, .un, .un, .un, .un, .un, .un, .un, .un, .un, .un, .un, .un]) := by
  unfold EE; rw [feN_succ (d := d_law) rfl, run_env [.fz script_, .un, .un, .un, .un, .un, .un, .un, .un, .un, .un, .un, .un, .un, .un, .un, .un, .un, .un] rfl rfl]; rfl
end Ord.K50

namespace Ord.K50
open PySem PySem.W L2 BW Ord
variable {k : Nat}
theorem told_none (g : Bool) {n : Nat} {ws : List Wire} (gd : Good n ws) : faultV g (cc ws n) n (marksD (M g (cc ws n) n) (2 ^ n)) = .none := by
  have hpos := Nat.two_pow_pos n
  have hget : ∀ b, b < 2 ^ n → (((List.range (2 ^ n)).map fun b => PyData.int (M g (cc ws n) n b)).map toI).getD b 0 = M g (cc ws n) n b := fun b hb => by
    rw [List.map_map, List.getD_eq_getElem?_getD, List.getElem?_map, List.getElem?_range hb]
    rfl
  unfold marksD
  rw [faultV_tup, if_pos]
  · unfold faultL
    rw [hget 0 hpos, M_zero, if_neg (by omega)]
    have : (List.range' 1 (2 ^ n - 1)).findSome? (faultB g (cc ws n) n (((List.range (2 ^ n)).map fun b => PyData.int (M g (cc ws n) n b)).map toI)) = none := by
      rw [List.findSome?_eq_none_iff]
      intro b hb
      have hb := List.mem_range'_1.mp hb
      unfold faultB
      rw [List.findSome?_eq_none_iff]
      intro p hp
      obtain ⟨hp1, hp2⟩ := mem_iff.mp hp
      have hl := pow_le_of_bit hp2
      have hq := Nat.two_pow_pos p
      unfold faultP
      rw [hget b (by omega), hget (b - 2 ^ p) (by omega), if_neg]
      have : M g (cc ws n) n b ≤ tog g (cc ws n b) (M g (cc ws n) n (b - 2 ^ p)) := by
        rw [M_eq (by omega)]
        exact minL_le (List.mem_map.mpr ⟨p, hp, rfl⟩)
      omega
    rw [this]
  · refine ⟨by simp, ?_⟩
    rw [List.all_map, List.all_eq_true]
    intro b _
    rfl
theorem told_vg (f : Nat → Int) (n : Nat) (h : n ≤ 9) : okD (marksD f (2 ^ n)) = true ∧ ∀ ds, marksD f (2 ^ n) = .tuple ds → ds.length ≤ 600 ∧ ∀ d ∈ ds, okD d = true := by
  refine ⟨rfl, fun ds e => ?_⟩
  cases e
  have := pow9 h
  refine ⟨by simp; omega, fun d hd => ?_⟩
  obtain ⟨b, _, rfl⟩ := List.mem_map.mp hd
  rfl
/-! ### heavier, a wire less -/
def heavier (ws : List Wire) (j : Nat) : List Wire := match ws[j]? with
  | some w => ws.take j ++ [(w.1, w.2 + 7)] ++ ws.drop (j + 1)
  | none => ws
def without (ws : List Wire) (j : Nat) : List Wire := ws.take j ++ ws.drop (j + 1)
theorem split_at {ws : List Wire} {j : Nat} (h : j < ws.length) : ws = ws.take j ++ [ws[j]] ++ ws.drop (j + 1) := by
  rw [List.append_assoc, List.singleton_append, ← List.drop_eq_getElem_cons h, List.take_append_drop]
theorem cutW_heavy (s : List Nat) (w : Wire) : cutW s w ≤ cutW s (w.1, w.2 + 7) := by
  unfold cutW
  simp only
  split <;> omega
theorem cut_heavier {n : Nat} {ws : List Wire} (g : Good n ws) {j : Nat} (h : j < ws.length) (s : List Nat) : cutAt ws s ≤ cutAt (heavier ws j) s ∧ cutAt (without ws j) s ≤ cutAt ws s := by
  have e1 := split_at h
  have hh : heavier ws j = ws.take j ++ [(ws[j].1, ws[j].2 + 7)] ++ ws.drop (j + 1) := by
    unfold heavier
    rw [List.getElem?_eq_getElem h]
  have e2 : cutAt ws s = ((ws.take j).map (cutW s)).sum + cutW s ws[j] + ((ws.drop (j + 1)).map (cutW s)).sum := by
    rw [cutAt_sum]
    have := congrArg (fun W : List Wire => (W.map (cutW s)).sum) e1
    simp only [List.map_append, List.map_cons, List.map_nil, List.sum_append, List.sum_cons, List.sum_nil] at this
    omega
  have e3 : cutAt (heavier ws j) s = ((ws.take j).map (cutW s)).sum + cutW s (ws[j].1, ws[j].2 + 7) + ((ws.drop (j + 1)).map (cutW s)).sum := by
    rw [cutAt_sum, hh]
    simp only [List.map_append, List.map_cons, List.map_nil, List.sum_append, List.sum_cons, List.sum_nil]
    omega
  have e4 : cutAt (without ws j) s = ((ws.take j).map (cutW s)).sum + ((ws.drop (j + 1)).map (cutW s)).sum := by
    rw [cutAt_sum]; unfold without; simp
  have h1 := cutW_heavy s ws[j]
  have h2 := cutW_nn (g.ok ws[j] (List.getElem_mem h)) s
  omega
theorem good_heavier {n : Nat} {ws : List Wire} (g : Good n ws) (hw : ∀ w ∈ ws, w.2 ≤ 60) {j : Nat} (h : j < ws.length) : Good n (heavier ws j) ∧ Good n (without ws j) := by
  have hl := g.len
  have hh : heavier ws j = ws.take j ++ [(ws[j].1, ws[j].2 + 7)] ++ ws.drop (j + 1) := by
    unfold heavier
    rw [List.getElem?_eq_getElem h]
  have gj := g.ok ws[j] (List.getElem_mem h)
  have hj := hw ws[j] (List.getElem_mem h)
  refine ⟨⟨g.n1, g.n9, by rw [hh]; simp; omega, fun w hw' => ?_⟩, ⟨g.n1, g.n9, by unfold without; simp; omega, fun w hw' => ?_⟩⟩
  · rw [hh] at hw'
    rcases List.mem_append.mp hw' with hw' | hw'
    · rcases List.mem_append.mp hw' with hw' | hw'
      · exact g.ok w (List.mem_of_mem_take hw')
      · rw [List.mem_singleton.mp hw']
        exact ⟨gj.asc, gj.lt, gj.two, by have := gj.w1; simp only; omega, by simp only; omega⟩
    · exact g.ok w (List.mem_of_mem_drop hw')
  · unfold without at hw'
    rcases List.mem_append.mp hw' with hw' | hw'
    · exact g.ok w (List.mem_of_mem_take hw')
    · exact g.ok w (List.mem_of_mem_drop hw')
/-! ### one goal -/
theorem exs_app (fe : FE) (sb : Str → Str → Option Bool) (n : Nat) : ∀ (a b : List BW.S) (σ : BW.Env), exs fe sb n (a ++ b) σ = (exs fe sb n a σ).andThen (exs fe sb n b)
  | [], b, σ => by rw [List.nil_append, x_nil, nx_then]
  | x :: a, b, σ => by
    rw [List.cons_append, x_cons, x_cons]
    cases ex1 fe sb n x σ with
    | nx σ' => rw [nx_then, nx_then]; exact exs_app fe sb n a b σ'
    | _ => rfl
def ordsD (n : Nat) : BW.D := if n < 6 then .list ((EX n n []).map oD) else .none
theorem find_congr {α : Type} {p q : α → Bool} : ∀ L : List α, (∀ a ∈ L, p a = q a) → L.find? p = L.find? q
  | [], _ => rfl
  | a :: L, h => by
    rw [List.find?_cons, List.find?_cons, h a (by simp), find_congr L fun b hb => h b (by simp [hb])]
theorem ords_len {n : Nat} (h : n < 6) : (EX n n []).length ≤ 3125 := by
  have h1 := EX_len n n []
  have h2 : n ^ n ≤ 3125 := by
    have : n = 0 ∨ n = 1 ∨ n = 2 ∨ n = 3 ∨ n = 4 ∨ n = 5 := by omega
    rcases this with rfl | rfl | rfl | rfl | rfl | rfl <;> decide
  omega
theorem fL (g : Bool) {n : Nat} {ws : List Wire} (gd : Good n ws) {L : List Nat} (hL : IsO n L) : (if g = true then EE MM (k + 8) i_law_length [bD n ws, oD L] else EE MM (k + 8) i_law_greatest [bD n ws, oD L]) = .ok (.int (Val g ws L)) := by
  cases g
  · rw [if_neg Bool.false_ne_true]; exact law_greatest_ok (m := MM) (k := k + 6) gd hL
  · rw [if_pos rfl]; exact law_length_ok (m := MM) (k := k + 7) gd hL
theorem fP (g : Bool) {n : Nat} {ws : List Wire} (gd : Good n ws) {L : List Nat} (hL : IsO n L) : (if g = true then EE MM (k + 8) i_length_of [bD n ws, oD L] else EE MM (k + 8) i_greatest_cut [bD n ws, oD L]) = .ok (.int (Val g ws L)) := by
  cases g
  · rw [if_neg Bool.false_ne_true]; exact greatest_cut_ok (m := MM) (k := k + 1) gd hL
  · rw [if_pos rfl]; exact length_of_ok (m := MM) (k := k + 1) gd hL
/-- the first five statements -/
theorem goal_a (g : Bool) {n : Nat} {ws : List Wire} (gd : Good n ws) (s0 s1 s2 s3 s5 s6 s8 s18 : Sl) :
    exs (EE MM (k + 8)) sub fuel (b_law_2.take 5) [s0, s1, s2, s3, .fz (bD n ws), s5, s6, .fz (.str (gS g)), s8, .fz (.int n), .fz (.tuple (ws.map wD)), .un, .un, .un, .un, .un, .un, .un, s18] =
      .nx [s0, s1, s2, s3, .fz (bD n ws), s5, s6, .fz (.str (gS g)), s8, .fz (.int n), .fz (.tuple (ws.map wD)), .fz (.int (M g (cc ws n) n (2 ^ n - 1))), .fz (.int (M g (cc ws n) n (2 ^ n - 1))), .fz (oD (best g (cc ws n) n)), .fz (marksD (M g (cc ws n) n) (2 ^ n)), .un, .un, .un, s18] := by
  have h9 := gd.n9
  have hpos := Nat.two_pow_pos n
  have ho := best_iso (g := g) gd
  have hob : EE MM (k + 8) i_best_order [.str (gS g), bD n ws] = .ok (.tuple [.int (M g (cc ws n) n (2 ^ n - 1)), oD (best g (cc ws n) n), marksD (M g (cc ws n) n) (2 ^ n)]) := best_order_ok (m := MM) (k := k + 1) g gd
  have hv := best_is g gd
  have fLb := fL (k := k) g gd ho
  have fPb := fP (k := k) g gd ho
  rw [hv] at fLb fPb
  have hs : b1D .sorted (oD (best g (cc ws n) n)) = .ok (.list ((List.range n).map natD)) := sorted_order ho h9
  have hr : rlD false (.int 0) (.int n) = .ok (.list ((List.range n).map natD)) := by
    unfold rlD
    rw [rng_nat n (by omega)]
    show (if BW.sizeOk _ = true then _ else _) = _
    rw [if_pos (size_ok (by simp; omega))]
    rfl
  have hne := ne_self (Sm.list (f := natD) (L := List.range n) fun i _ => Sm.int _) (by decide)
  have hlast : ixD (marksD (M g (cc ws n) n) (2 ^ n)) (.int (-1)) = .ok (.int (M g (cc ws n) n (2 ^ n - 1))) := by
    unfold marksD
    rw [ixT_last (by simpa using hpos)]
    simp
  have hh := law_holds_ok (m := MM) (k := k + 5) g gd
  obtain ⟨v1, v2⟩ := told_vg (M g (cc ws n) n) n h9
  have hf := marks_fault_ok (m := MM) (k := k + 1) g gd (marksD (M g (cc ws n) n) (2 ^ n)) v1 v2
  rw [told_none g gd] at hf
  have eg : decide (gS g = "length") = g := gS_len g
  have ety : tyD .tuple (marksD (M g (cc ws n) n) (2 ^ n)) = true := rfl
  have ety2 : tyD .tuple (oD (best g (cc ws n) n)) = true := rfl
  have okI : ∀ i, okD (.int i) = true := fun _ => rfl
  have tyI : ∀ i, tyD .bool (.int i) = false := fun _ => rfl
  have eok : okD (marksD (M g (cc ws n) n) (2 ^ n)) = true := rfl
  have eok2 : okD (oD (best g (cc ws n) n)) = true := rfl
  simp -implicitDefEqProofs (disch := first | omega | (simp only [List.length_map, List.length_cons, List.length_nil, List.length_append, List.length_range, List.length_replicate, List.length_tail, List.length_reverse]; omega)) only [getS_0, getS_s, setS_0, setS_s, sr_ok, nx_then, rt_then, ex_then, bk_then, ct_then, ex_sr, asBool_b, asInt_i, items_l, items_t, Res.ok_bind, Res.ex_bind, Res.bad_bind, Res.quiet_ok, op_add_i, op_sub_i, b1_int, b1_abs, b1_lenl, b1_lent, b1_tupl, b1_tupt, b1_listt, b1_listl, lt_i, gt_i, le_i, ge_i, strict_0, strict_s, peek_0, peek_0l, peek_0d, peek_s, bindT_n, bindT_t, bindT_l, bindT_w, bindTs_n, bindTs_c, wipeS_nil, wipeS_cons, e_k, e_v, e_p, e_tup, e_lst, e_nil, e_cons, e_op, e_cmp, e_ch, e_and, e_or, e_not, e_neg, e_ite, e_isN, e_notN, e_ix, e_slf, e_slt, e_slb, e_rev, e_call, e_b1, e_b2, e_isi, e_rng, e_dnil, e_comp, e_dcomp, e_enm', e_zip', e_rl, e_idx, e_join, x_nil, x_cons, x_set, x_setO, x_unp, x_xp, x_ret, x_raise, x_ite, x_forB, x_app, x_tr, x_brk, x_cnt, x_pass, x_fr, x_wipe, x_par, evP_nil, evP_f, evP_t, parR_nil, parR_f, parR_t, x_aug, x_augix, x_setix, setixS_nat, x_extS, x_pop, augD_add, augD_sub, x_while, compR_nil, compR_mapL, compR_some, quiet_ite, in_natL, in_natT, notin_natL, notin_natT, eq_ii, ne_ii, eq_ss, ne_ss, sum_map, all_map, any_map, b2_max, b2_min, ix_0, ix_1, ix_2, ixl_0, ansR_rt, ansR_nx, ansR_ex, toSl_l, toSl_d, sl_tailT, sl_tailL, size_ok, sz_filterL, compG_t, rng_nat, rng_ab, shl_one, shr_nat, band_one, op_mod_i, op_fdiv_i, zipD_map, zipD_tail, add_tup, add_lst, rev_tup, rev_lst, mul_repT, if_true, if_false, ite_true, ite_false, Bool.not_true, Bool.not_false, Bool.false_eq_true, decide_eq_true_eq, decide_true, decide_false, Bool.and_true, Bool.true_and, Bool.or_true, Bool.true_or, Bool.and_false, Bool.false_and, Bool.or_false, Bool.false_or, reduceCtorEq, List.map_cons, List.map_nil, List.length_map, List.length_cons, List.length_nil, List.nil_append, List.cons_append, List.length_range, List.length_append, sz_filterR, Nat.reduceAdd, Int.cast_ofNat_Int, Int.reduceEq, Int.reduceLT, Int.reduceLE, b_law_2, List.take_succ_cons, List.take_zero, hob, eg, fLb, fPb, hs, hr, hne, ety, ety2, eok, eok2, okI, tyI, List.any_cons, List.any_nil, hlast, hh, hf, notNone]
/-- all orders -/
theorem goal_b (g : Bool) {n : Nat} {ws : List Wire} (gd : Good n ws) (s0 s1 s2 s3 s6 s8 s10 s11 s14 s16 s17 : Sl) :
    exs (EE MM (k + 8)) sub fuel ((b_law_2.drop 5).take 1) [s0, s1, s2, s3, .fz (bD n ws), .fz (ordsD n), s6, .fz (.str (gS g)), s8, .fz (.int n), s10, s11, .fz (.int (M g (cc ws n) n (2 ^ n - 1))), .fz (oD (best g (cc ws n) n)), s14, .un, s16, s17, .un] =
      .nx [s0, s1, s2, s3, .fz (bD n ws), .fz (ordsD n), s6, .fz (.str (gS g)), s8, .fz (.int n), s10, s11, .fz (.int (M g (cc ws n) n (2 ^ n - 1))), .fz (oD (best g (cc ws n) n)), s14, .un, s16, s17, .un] := by
  have eg : decide (gS g = "length") = g := gS_len g
  by_cases h6 : n < 6
  · have hor : ordsD n = .list ((EX n n []).map oD) := if_pos h6
    have hEl := ords_len h6
    have hmem : ∀ L ∈ EX n n [], IsO n L := fun L hL => (EX_mem n n [] L (by simp) (fun _ h => nomatch h) (by simp) hL).1
    rw [hor]
    have hi := first_of (g := g) gd n 0 (by omega)
    have hfind : (EX n n []).find? (fun L => decide (Val g ws L = M g (cc ws n) n (2 ^ n - 1))) = some (best g (cc ws n) n) := by
      rw [← hi]
      refine find_congr _ fun L hL => ?_
      rw [VL_val g gd (hmem L hL), ← M_Bh fun _ => cutAt_nn gd _]
    obtain ⟨i1, i2⟩ := idx_find (Val g ws) _ _ _ hfind
    have ez : BW.sizeOk (EX n n []).length = true := size_ok (by omega)
    have hrows : (EX n n []).map (fun L => PyData.int (Val g ws L)) = ((EX n n []).map (Val g ws)).map .int := by rw [List.map_map]; rfl
    have hne : (EX n n []).map (Val g ws) ≠ [] := fun e => by rw [e] at i2; cases i2
    have hmin : b1D .min (.list (((EX n n []).map (Val g ws)).map .int)) = .ok (.int (M g (cc ws n) n (2 ^ n - 1))) := by
      rw [min_list hne rfl]
      congr 2
      apply Int.le_antisymm
      · exact minL_le i2
      · obtain ⟨L, hL, e⟩ := List.mem_map.mp (minL_mem hne)
        rw [← e]
        exact le_val g gd (hmem L hL)
    have hidx := idxD_int i2
    have hasL : ∀ xs, asL (.list xs) = .ok xs := fun _ => rfl
    have hix : ixD (.list ((EX n n []).map oD)) (natD (((EX n n []).map (Val g ws)).idxOf (M g (cc ws n) n (2 ^ n - 1)))) = .ok (oD (best g (cc ws n) n)) := by
      obtain ⟨hlt, e⟩ := List.getElem?_eq_some_iff.mp i1
      rw [ixL_nat oD _ _ hlt, e]
    have hno := ne_self (d := oD (best g (cc ws n) n)) (Sm.tup (f := natD) (L := best g (cc ws n) n) fun i _ => Sm.int _) (by decide)
    simp -implicitDefEqProofs (disch := first | omega | (simp only [List.length_map, List.length_cons, List.length_nil, List.length_append, List.length_range, List.length_replicate, List.length_tail, List.length_reverse]; omega)) only [getS_0, getS_s, setS_0, setS_s, sr_ok, nx_then, rt_then, ex_then, bk_then, ct_then, ex_sr, asBool_b, asInt_i, items_l, items_t, Res.ok_bind, Res.ex_bind, Res.bad_bind, Res.quiet_ok, op_add_i, op_sub_i, b1_int, b1_abs, b1_lenl, b1_lent, b1_tupl, b1_tupt, b1_listt, b1_listl, lt_i, gt_i, le_i, ge_i, strict_0, strict_s, peek_0, peek_0l, peek_0d, peek_s, bindT_n, bindT_t, bindT_l, bindT_w, bindTs_n, bindTs_c, wipeS_nil, wipeS_cons, e_k, e_v, e_p, e_tup, e_lst, e_nil, e_cons, e_op, e_cmp, e_ch, e_and, e_or, e_not, e_neg, e_ite, e_isN, e_notN, e_ix, e_slf, e_slt, e_slb, e_rev, e_call, e_b1, e_b2, e_isi, e_rng, e_dnil, e_comp, e_dcomp, e_enm', e_zip', e_rl, e_idx, e_join, x_nil, x_cons, x_set, x_setO, x_unp, x_xp, x_ret, x_raise, x_ite, x_forB, x_app, x_tr, x_brk, x_cnt, x_pass, x_fr, x_wipe, x_par, evP_nil, evP_f, evP_t, parR_nil, parR_f, parR_t, x_aug, x_augix, x_setix, setixS_nat, x_extS, x_pop, augD_add, augD_sub, x_while, compR_nil, compR_mapL, compR_some, quiet_ite, in_natL, in_natT, notin_natL, notin_natT, eq_ii, ne_ii, eq_ss, ne_ss, sum_map, all_map, any_map, b2_max, b2_min, ix_0, ix_1, ix_2, ixl_0, ansR_rt, ansR_nx, ansR_ex, toSl_l, toSl_d, sl_tailT, sl_tailL, size_ok, sz_filterL, compG_t, rng_nat, rng_ab, shl_one, shr_nat, band_one, op_mod_i, op_fdiv_i, zipD_map, zipD_tail, add_tup, add_lst, rev_tup, rev_lst, mul_repT, if_true, if_false, ite_true, ite_false, Bool.not_true, Bool.not_false, Bool.false_eq_true, decide_eq_true_eq, decide_true, decide_false, Bool.and_true, Bool.true_and, Bool.or_true, Bool.true_or, Bool.and_false, Bool.false_and, Bool.or_false, Bool.false_or, reduceCtorEq, List.map_cons, List.map_nil, List.length_map, List.length_cons, List.length_nil, List.nil_append, List.cons_append, List.length_range, List.length_append, sz_filterR, Nat.reduceAdd, Int.cast_ofNat_Int, Int.reduceEq, Int.reduceLT, Int.reduceLE, b_law_2, List.drop_succ_cons, List.drop_zero, List.take_succ_cons, List.take_zero, eg, notNone]
    rw [compR_ok (g := fun L => .int (Val g ws L))]
    · rw [hrows]
      simp -implicitDefEqProofs (disch := first | omega | (simp only [List.length_map, List.length_cons, List.length_nil, List.length_append, List.length_range, List.length_replicate, List.length_tail, List.length_reverse]; omega)) only [getS_0, getS_s, setS_0, setS_s, sr_ok, nx_then, rt_then, ex_then, bk_then, ct_then, ex_sr, asBool_b, asInt_i, items_l, items_t, Res.ok_bind, Res.ex_bind, Res.bad_bind, Res.quiet_ok, op_add_i, op_sub_i, b1_int, b1_abs, b1_lenl, b1_lent, b1_tupl, b1_tupt, b1_listt, b1_listl, lt_i, gt_i, le_i, ge_i, strict_0, strict_s, peek_0, peek_0l, peek_0d, peek_s, bindT_n, bindT_t, bindT_l, bindT_w, bindTs_n, bindTs_c, wipeS_nil, wipeS_cons, e_k, e_v, e_p, e_tup, e_lst, e_nil, e_cons, e_op, e_cmp, e_ch, e_and, e_or, e_not, e_neg, e_ite, e_isN, e_notN, e_ix, e_slf, e_slt, e_slb, e_rev, e_call, e_b1, e_b2, e_isi, e_rng, e_dnil, e_comp, e_dcomp, e_enm', e_zip', e_rl, e_idx, e_join, x_nil, x_cons, x_set, x_setO, x_unp, x_xp, x_ret, x_raise, x_ite, x_forB, x_app, x_tr, x_brk, x_cnt, x_pass, x_fr, x_wipe, x_par, evP_nil, evP_f, evP_t, parR_nil, parR_f, parR_t, x_aug, x_augix, x_setix, setixS_nat, x_extS, x_pop, augD_add, augD_sub, x_while, compR_nil, compR_mapL, compR_some, quiet_ite, in_natL, in_natT, notin_natL, notin_natT, eq_ii, ne_ii, eq_ss, ne_ss, sum_map, all_map, any_map, b2_max, b2_min, ix_0, ix_1, ix_2, ixl_0, ansR_rt, ansR_nx, ansR_ex, toSl_l, toSl_d, sl_tailT, sl_tailL, size_ok, sz_filterL, compG_t, rng_nat, rng_ab, shl_one, shr_nat, band_one, op_mod_i, op_fdiv_i, zipD_map, zipD_tail, add_tup, add_lst, rev_tup, rev_lst, mul_repT, if_true, if_false, ite_true, ite_false, Bool.not_true, Bool.not_false, Bool.false_eq_true, decide_eq_true_eq, decide_true, decide_false, Bool.and_true, Bool.true_and, Bool.or_true, Bool.true_or, Bool.and_false, Bool.false_and, Bool.or_false, Bool.false_or, reduceCtorEq, List.map_cons, List.map_nil, List.length_map, List.length_cons, List.length_nil, List.nil_append, List.cons_append, List.length_range, List.length_append, sz_filterR, Nat.reduceAdd, Int.cast_ofNat_Int, Int.reduceEq, Int.reduceLT, Int.reduceLE, ez, hmin, hasL, hidx, hix, hno]
    · intro L hL
      rw [fL (k := k) g gd (hmem L hL)]
      rfl
  · have hor : ordsD n = .none := if_neg h6
    rw [hor]
    simp -implicitDefEqProofs (disch := first | omega | (simp only [List.length_map, List.length_cons, List.length_nil, List.length_append, List.length_range, List.length_replicate, List.length_tail, List.length_reverse]; omega)) only [getS_0, getS_s, setS_0, setS_s, sr_ok, nx_then, rt_then, ex_then, bk_then, ct_then, ex_sr, asBool_b, asInt_i, items_l, items_t, Res.ok_bind, Res.ex_bind, Res.bad_bind, Res.quiet_ok, op_add_i, op_sub_i, b1_int, b1_abs, b1_lenl, b1_lent, b1_tupl, b1_tupt, b1_listt, b1_listl, lt_i, gt_i, le_i, ge_i, strict_0, strict_s, peek_0, peek_0l, peek_0d, peek_s, bindT_n, bindT_t, bindT_l, bindT_w, bindTs_n, bindTs_c, wipeS_nil, wipeS_cons, e_k, e_v, e_p, e_tup, e_lst, e_nil, e_cons, e_op, e_cmp, e_ch, e_and, e_or, e_not, e_neg, e_ite, e_isN, e_notN, e_ix, e_slf, e_slt, e_slb, e_rev, e_call, e_b1, e_b2, e_isi, e_rng, e_dnil, e_comp, e_dcomp, e_enm', e_zip', e_rl, e_idx, e_join, x_nil, x_cons, x_set, x_setO, x_unp, x_xp, x_ret, x_raise, x_ite, x_forB, x_app, x_tr, x_brk, x_cnt, x_pass, x_fr, x_wipe, x_par, evP_nil, evP_f, evP_t, parR_nil, parR_f, parR_t, x_aug, x_augix, x_setix, setixS_nat, x_extS, x_pop, augD_add, augD_sub, x_while, compR_nil, compR_mapL, compR_some, quiet_ite, in_natL, in_natT, notin_natL, notin_natT, eq_ii, ne_ii, eq_ss, ne_ss, sum_map, all_map, any_map, b2_max, b2_min, ix_0, ix_1, ix_2, ixl_0, ansR_rt, ansR_nx, ansR_ex, toSl_l, toSl_d, sl_tailT, sl_tailL, size_ok, sz_filterL, compG_t, rng_nat, rng_ab, shl_one, shr_nat, band_one, op_mod_i, op_fdiv_i, zipD_map, zipD_tail, add_tup, add_lst, rev_tup, rev_lst, mul_repT, if_true, if_false, ite_true, ite_false, Bool.not_true, Bool.not_false, Bool.false_eq_true, decide_eq_true_eq, decide_true, decide_false, Bool.and_true, Bool.true_and, Bool.or_true, Bool.true_or, Bool.and_false, Bool.false_and, Bool.or_false, Bool.false_or, reduceCtorEq, List.map_cons, List.map_nil, List.length_map, List.length_cons, List.length_nil, List.nil_append, List.cons_append, List.length_range, List.length_append, sz_filterR, Nat.reduceAdd, Int.cast_ofNat_Int, Int.reduceEq, Int.reduceLT, Int.reduceLE, b_law_2, List.drop_succ_cons, List.drop_zero, List.take_succ_cons, List.take_zero, notNone]
/-- told; heavier, a wire less -/
theorem goal_c (g : Bool) {n : Nat} {ws : List Wire} (gd : Good n ws) (hw : ∀ w ∈ ws, w.2 ≤ 60) (ds : List Nat) (hds : ds.length = 70) (t : Nat) (ht : t < 3) (acc : List BW.D) (hacc : acc.length ≤ 5) (s0 s3 s5 s8 s11 s14 s15 s18 : Sl) :
    exs (EE MM (k + 8)) sub fuel (b_law_2.drop 6) [s0, .fz (.list (ds.map natD)), .fz (natD t), s3, .fz (bD n ws), s5, .ol acc, .fz (.str (gS g)), s8, .fz (.int n), .fz (.tuple (ws.map wD)), s11, .fz (.int (M g (cc ws n) n (2 ^ n - 1))), .fz (oD (best g (cc ws n) n)), s14, s15, .un, .un, s18] =
      .nx [s0, .fz (.list (ds.map natD)), .fz (natD t), s3, .fz (bD n ws), s5, .ol (acc ++ [oD (best g (cc ws n) n)]), .un, s8, .fz (.int n), .fz (.tuple (ws.map wD)), .un, .un, .un, .un, .un, .un, .un, s18] := by
  have h9 := gd.n9
  have h40 := gd.len
  by_cases h0 : ws.length = 0
  · have e1 : ¬ (0 : Int) < (ws.length : Int) := by omega
    simp -implicitDefEqProofs (disch := first | omega | (simp only [List.length_map, List.length_cons, List.length_nil, List.length_append, List.length_range, List.length_replicate, List.length_tail, List.length_reverse]; omega)) only [getS_0, getS_s, setS_0, setS_s, sr_ok, nx_then, rt_then, ex_then, bk_then, ct_then, ex_sr, asBool_b, asInt_i, items_l, items_t, Res.ok_bind, Res.ex_bind, Res.bad_bind, Res.quiet_ok, op_add_i, op_sub_i, b1_int, b1_abs, b1_lenl, b1_lent, b1_tupl, b1_tupt, b1_listt, b1_listl, lt_i, gt_i, le_i, ge_i, strict_0, strict_s, peek_0, peek_0l, peek_0d, peek_s, bindT_n, bindT_t, bindT_l, bindT_w, bindTs_n, bindTs_c, wipeS_nil, wipeS_cons, e_k, e_v, e_p, e_tup, e_lst, e_nil, e_cons, e_op, e_cmp, e_ch, e_and, e_or, e_not, e_neg, e_ite, e_isN, e_notN, e_ix, e_slf, e_slt, e_slb, e_rev, e_call, e_b1, e_b2, e_isi, e_rng, e_dnil, e_comp, e_dcomp, e_enm', e_zip', e_rl, e_idx, e_join, x_nil, x_cons, x_set, x_setO, x_unp, x_xp, x_ret, x_raise, x_ite, x_forB, x_app, x_tr, x_brk, x_cnt, x_pass, x_fr, x_wipe, x_par, evP_nil, evP_f, evP_t, parR_nil, parR_f, parR_t, x_aug, x_augix, x_setix, setixS_nat, x_extS, x_pop, augD_add, augD_sub, x_while, compR_nil, compR_mapL, compR_some, quiet_ite, in_natL, in_natT, notin_natL, notin_natT, eq_ii, ne_ii, eq_ss, ne_ss, sum_map, all_map, any_map, b2_max, b2_min, ix_0, ix_1, ix_2, ixl_0, ansR_rt, ansR_nx, ansR_ex, toSl_l, toSl_d, sl_tailT, sl_tailL, size_ok, sz_filterL, compG_t, rng_nat, rng_ab, shl_one, shr_nat, band_one, op_mod_i, op_fdiv_i, zipD_map, zipD_tail, add_tup, add_lst, rev_tup, rev_lst, mul_repT, if_true, if_false, ite_true, ite_false, Bool.not_true, Bool.not_false, Bool.false_eq_true, decide_eq_true_eq, decide_true, decide_false, Bool.and_true, Bool.true_and, Bool.or_true, Bool.true_or, Bool.and_false, Bool.false_and, Bool.or_false, Bool.false_or, reduceCtorEq, List.map_cons, List.map_nil, List.length_map, List.length_cons, List.length_nil, List.nil_append, List.cons_append, List.length_range, List.length_append, sz_filterR, Nat.reduceAdd, Int.cast_ofNat_Int, Int.reduceEq, Int.reduceLT, Int.reduceLE, b_law_2, List.drop_succ_cons, List.drop_zero, gt_iff_lt, e1]
  · have e1 : (0 : Int) < (ws.length : Int) := by omega
    have e2 := ixL_nat natD ds (60 + t) (by omega)
    rw [Int.natCast_add, show ((60 : Nat) : Int) = 60 from rfl] at e2
    obtain ⟨x, hx⟩ : ∃ x, x = ds[60 + t] := ⟨_, rfl⟩
    rw [← hx] at e2
    obtain ⟨j, hj⟩ : ∃ j, j = x % ws.length := ⟨_, rfl⟩
    have hjl : j < ws.length := by rw [hj]; exact Nat.mod_lt _ (by omega)
    have e3 : opD .mod (.int (x : Int)) (.int (ws.length : Int)) = .ok (natD j) := by
      rw [op_mod_i _ _ (by omega), hj]
      exact congrArg (fun i => Res.ok (PyData.int i)) (Int.natCast_emod x ws.length).symm
    have e4 : slD (.tuple (ws.map wD)) none (some (j : Int)) = .ok (.tuple ((ws.take j).map wD)) := by rw [slT_take, List.map_take]
    have e5 : slD (.tuple (ws.map wD)) (some ((j : Int) + 1)) none = .ok (.tuple ((ws.drop (j + 1)).map wD)) := by
      have := slT_drop (ws.map wD) (j + 1)
      rw [← List.map_drop] at this
      exact this
    have e6 := ixT_nat wD ws j hjl
    have e7 : ixD (wD ws[j]) (.int 0) = .ok (.tuple (ws[j].1.map natD)) := by unfold wD; simp
    have e8 : ixD (wD ws[j]) (.int 1) = .ok (.int ws[j].2) := by unfold wD; simp
    have e9 : opD .add (.tuple ((ws.take j).map wD)) (.tuple [.tuple [.tuple (ws[j].1.map natD), .int (ws[j].2 + 7)]]) = .ok (.tuple ((ws.take j ++ [(ws[j].1, ws[j].2 + 7)]).map wD)) := by
      rw [add_tup _ _ (by simp; omega), List.map_append]; rfl
    have e10 : opD .add (.tuple ((ws.take j ++ [(ws[j].1, ws[j].2 + 7)]).map wD)) (.tuple ((ws.drop (j + 1)).map wD)) = .ok (.tuple ((heavier ws j).map wD)) := by
      rw [add_tup _ _ (by simp; omega), ← List.map_append]
      unfold heavier
      rw [List.getElem?_eq_getElem hjl]
    have e11 : opD .add (.tuple ((ws.take j).map wD)) (.tuple ((ws.drop (j + 1)).map wD)) = .ok (.tuple ((without ws j).map wD)) := by
      rw [add_tup _ _ (by simp; omega), ← List.map_append]; rfl
    obtain ⟨g1, g2⟩ := good_heavier gd hw hjl
    have b1 : EE MM (k + 8) i_best_order [.str (gS g), .tuple [.int n, .tuple ((heavier ws j).map wD)]] = _ := best_order_ok (m := MM) (k := k + 1) g g1
    have b2 : EE MM (k + 8) i_best_order [.str (gS g), .tuple [.int n, .tuple ((without ws j).map wD)]] = _ := best_order_ok (m := MM) (k := k + 1) g g2
    have m1 : M g (cc ws n) n (2 ^ n - 1) ≤ M g (cc (heavier ws j) n) n (2 ^ n - 1) := M_mono fun b => (cut_heavier gd hjl _).1
    have m2 : M g (cc (without ws j) n) n (2 ^ n - 1) ≤ M g (cc ws n) n (2 ^ n - 1) := M_mono fun b => (cut_heavier gd hjl _).2
    have n1 : ¬ M g (cc (heavier ws j) n) n (2 ^ n - 1) < M g (cc ws n) n (2 ^ n - 1) := by omega
    have n2 : ¬ M g (cc ws n) n (2 ^ n - 1) < M g (cc (without ws j) n) n (2 ^ n - 1) := by omega
    simp -implicitDefEqProofs (disch := first | omega | (simp only [List.length_map, List.length_cons, List.length_nil, List.length_append, List.length_range, List.length_replicate, List.length_tail, List.length_reverse]; omega)) only [getS_0, getS_s, setS_0, setS_s, sr_ok, nx_then, rt_then, ex_then, bk_then, ct_then, ex_sr, asBool_b, asInt_i, items_l, items_t, Res.ok_bind, Res.ex_bind, Res.bad_bind, Res.quiet_ok, op_add_i, op_sub_i, b1_int, b1_abs, b1_lenl, b1_lent, b1_tupl, b1_tupt, b1_listt, b1_listl, lt_i, gt_i, le_i, ge_i, strict_0, strict_s, peek_0, peek_0l, peek_0d, peek_s, bindT_n, bindT_t, bindT_l, bindT_w, bindTs_n, bindTs_c, wipeS_nil, wipeS_cons, e_k, e_v, e_p, e_tup, e_lst, e_nil, e_cons, e_op, e_cmp, e_ch, e_and, e_or, e_not, e_neg, e_ite, e_isN, e_notN, e_ix, e_slf, e_slt, e_slb, e_rev, e_call, e_b1, e_b2, e_isi, e_rng, e_dnil, e_comp, e_dcomp, e_enm', e_zip', e_rl, e_idx, e_join, x_nil, x_cons, x_set, x_setO, x_unp, x_xp, x_ret, x_raise, x_ite, x_forB, x_app, x_tr, x_brk, x_cnt, x_pass, x_fr, x_wipe, x_par, evP_nil, evP_f, evP_t, parR_nil, parR_f, parR_t, x_aug, x_augix, x_setix, setixS_nat, x_extS, x_pop, augD_add, augD_sub, x_while, compR_nil, compR_mapL, compR_some, quiet_ite, in_natL, in_natT, notin_natL, notin_natT, eq_ii, ne_ii, eq_ss, ne_ss, sum_map, all_map, any_map, b2_max, b2_min, ix_0, ix_1, ix_2, ixl_0, ansR_rt, ansR_nx, ansR_ex, toSl_l, toSl_d, sl_tailT, sl_tailL, size_ok, sz_filterL, compG_t, rng_nat, rng_ab, shl_one, shr_nat, band_one, op_mod_i, op_fdiv_i, zipD_map, zipD_tail, add_tup, add_lst, rev_tup, rev_lst, mul_repT, if_true, if_false, ite_true, ite_false, Bool.not_true, Bool.not_false, Bool.false_eq_true, decide_eq_true_eq, decide_true, decide_false, Bool.and_true, Bool.true_and, Bool.or_true, Bool.true_or, Bool.and_false, Bool.false_and, Bool.or_false, Bool.false_or, reduceCtorEq, List.map_cons, List.map_nil, List.length_map, List.length_cons, List.length_nil, List.nil_append, List.cons_append, List.length_range, List.length_append, sz_filterR, Nat.reduceAdd, Int.cast_ofNat_Int, Int.reduceEq, Int.reduceLT, Int.reduceLE, b_law_2, List.drop_succ_cons, List.drop_zero, gt_iff_lt, e1, e2, e3, e4, e5, e6, e7, e8, e9, e10, e11, b1, b2, n1, n2]
theorem goal_turn (g : Bool) {n : Nat} {ws : List Wire} (gd : Good n ws) (hw : ∀ w ∈ ws, w.2 ≤ 60) (ds : List Nat) (hds : ds.length = 70) (t : Nat) (ht : t < 3) (acc : List BW.D) (hacc : acc.length ≤ 5) (s0 s3 s8 : Sl) :
    forB (EE MM (k + 8)) sub fuel (.n 7) b_law_2 (.str (gS g)) [s0, .fz (.list (ds.map natD)), .fz (natD t), s3, .fz (bD n ws), .fz (ordsD n), .ol acc, .un, s8, .fz (.int n), .fz (.tuple (ws.map wD)), .un, .un, .un, .un, .un, .un, .un, .un] =
      .nx [s0, .fz (.list (ds.map natD)), .fz (natD t), s3, .fz (bD n ws), .fz (ordsD n), .ol (acc ++ [oD (best g (cc ws n) n)]), .un, s8, .fz (.int n), .fz (.tuple (ws.map wD)), .un, .un, .un, .un, .un, .un, .un, .un] := by
  have e : b_law_2 = b_law_2.take 5 ++ ((b_law_2.drop 5).take 1 ++ b_law_2.drop 6) := rfl
  unfold forB
  rw [bindT_n, sr_ok, e, exs_app]
  show ((exs (EE MM (k + 8)) sub fuel (b_law_2.take 5) [s0, .fz (.list (ds.map natD)), .fz (natD t), s3, .fz (bD n ws), .fz (ordsD n), .ol acc, .fz (.str (gS g)), s8, .fz (.int n), .fz (.tuple (ws.map wD)), .un, .un, .un, .un, .un, .un, .un, .un]).andThen _) = _
  rw [goal_a g gd, nx_then, exs_app, goal_b g gd, nx_then, goal_c g gd hw ds hds t ht acc hacc]
/-! ### one turn, the law -/
theorem part_turn {n : Nat} {ws : List Wire} (gd : Good n ws) (d : BW.D) (s0 s1 s2 s3 s5 s6 s7 s10 s11 s12 s13 s14 s15 s16 s17 : Sl) :
    forB (EE MM (k + 8)) sub fuel (.n 8) b_law_3 d [s0, s1, s2, s3, .fz (bD n ws), s5, s6, s7, .un, .fz (.int n), s10, s11, s12, s13, s14, s15, s16, s17, .un] =
      .nx [s0, s1, s2, s3, .fz (bD n ws), s5, s6, s7, .un, .fz (.int n), s10, s11, s12, s13, s14, s15, s16, s17, .un] := by
  have h9 := gd.n9
  by_cases h1 : 1 < n
  · have e1 : (1 : Int) < (n : Int) := by omega
    have hob := best_order_ok (m := MM) (k := k + 1) false gd
    rw [show gS false = "cut" from rfl] at hob
    have hone : ∀ p ∈ List.range n, EE MM (k + 8) i_cut_of [bD n ws, .tuple [natD p]] = .ok (.int (cutAt ws [p])) := fun p hp => cut_of_ok (m := MM) (k := k + 2) gd (S := [p]) (by simp [asc]) (fun q hq => by rw [List.mem_singleton.mp hq]; exact List.mem_range.mp hp)
    have hmm : (List.range n).map (fun p => PyData.int (cutAt ws [p])) = ((List.range n).map fun p => cutAt ws [p]).map .int := by rw [List.map_map]; rfl
    have hne : (List.range n).map (fun p => cutAt ws [p]) ≠ [] := by simp; omega
    have hmin := min_list hne (x := .list (((List.range n).map fun p => cutAt ws [p]).map .int)) rfl
    have hle : ¬ M false (cc ws n) n (2 ^ n - 1) < minL ((List.range n).map fun p => cutAt ws [p]) := by
      have ho := best_iso (g := false) gd
      have hv := best_is false gd
      rw [← VL_val false gd ho] at hv
      cases hb : best false (cc ws n) n with
      | nil => have := ho.len; rw [hb] at this; simp at this; omega
      | cons p L =>
        rw [hb] at hv
        have hp : p < n := ho.lt p (by rw [hb]; simp)
        have h2 : cutAt ws [p] ≤ VL false (cutAt ws) [] (p :: L) := by
          show cutAt ws [p] ≤ max (cutAt ws ([] ++ [p])) (VL false (cutAt ws) ([] ++ [p]) L)
          rw [List.nil_append]
          omega
        have h3 := minL_le (L := (List.range n).map fun p => cutAt ws [p]) (List.mem_map.mpr ⟨p, List.mem_range.mpr hp, rfl⟩)
        omega
    simp -implicitDefEqProofs (disch := first | omega | (simp only [List.length_map, List.length_cons, List.length_nil, List.length_append, List.length_range, List.length_replicate, List.length_tail, List.length_reverse]; omega)) only [getS_0, getS_s, setS_0, setS_s, sr_ok, nx_then, rt_then, ex_then, bk_then, ct_then, ex_sr, asBool_b, asInt_i, items_l, items_t, Res.ok_bind, Res.ex_bind, Res.bad_bind, Res.quiet_ok, op_add_i, op_sub_i, b1_int, b1_abs, b1_lenl, b1_lent, b1_tupl, b1_tupt, b1_listt, b1_listl, lt_i, gt_i, le_i, ge_i, strict_0, strict_s, peek_0, peek_0l, peek_0d, peek_s, bindT_n, bindT_t, bindT_l, bindT_w, bindTs_n, bindTs_c, wipeS_nil, wipeS_cons, e_k, e_v, e_p, e_tup, e_lst, e_nil, e_cons, e_op, e_cmp, e_ch, e_and, e_or, e_not, e_neg, e_ite, e_isN, e_notN, e_ix, e_slf, e_slt, e_slb, e_rev, e_call, e_b1, e_b2, e_isi, e_rng, e_dnil, e_comp, e_dcomp, e_enm', e_zip', e_rl, e_idx, e_join, x_nil, x_cons, x_set, x_setO, x_unp, x_xp, x_ret, x_raise, x_ite, x_forB, x_app, x_tr, x_brk, x_cnt, x_pass, x_fr, x_wipe, x_par, evP_nil, evP_f, evP_t, parR_nil, parR_f, parR_t, x_aug, x_augix, x_setix, setixS_nat, x_extS, x_pop, augD_add, augD_sub, x_while, compR_nil, compR_mapL, compR_some, quiet_ite, in_natL, in_natT, notin_natL, notin_natT, eq_ii, ne_ii, eq_ss, ne_ss, sum_map, all_map, any_map, b2_max, b2_min, ix_0, ix_1, ix_2, ixl_0, ansR_rt, ansR_nx, ansR_ex, toSl_l, toSl_d, sl_tailT, sl_tailL, size_ok, sz_filterL, compG_t, rng_nat, rng_ab, shl_one, shr_nat, band_one, op_mod_i, op_fdiv_i, zipD_map, zipD_tail, add_tup, add_lst, rev_tup, rev_lst, mul_repT, if_true, if_false, ite_true, ite_false, Bool.not_true, Bool.not_false, Bool.false_eq_true, decide_eq_true_eq, decide_true, decide_false, Bool.and_true, Bool.true_and, Bool.or_true, Bool.true_or, Bool.and_false, Bool.false_and, Bool.or_false, Bool.false_or, reduceCtorEq, List.map_cons, List.map_nil, List.length_map, List.length_cons, List.length_nil, List.nil_append, List.cons_append, List.length_range, List.length_append, sz_filterR, Nat.reduceAdd, Int.cast_ofNat_Int, Int.reduceEq, Int.reduceLT, Int.reduceLE, forB, b_law_3, gt_iff_lt, e1, hob]
    rw [compR_ok (g := fun p => .int (cutAt ws [p]))]
    · rw [hmm]
      simp -implicitDefEqProofs (disch := first | omega | (simp only [List.length_map, List.length_cons, List.length_nil, List.length_append, List.length_range, List.length_replicate, List.length_tail, List.length_reverse]; omega)) only [getS_0, getS_s, setS_0, setS_s, sr_ok, nx_then, rt_then, ex_then, bk_then, ct_then, ex_sr, asBool_b, asInt_i, items_l, items_t, Res.ok_bind, Res.ex_bind, Res.bad_bind, Res.quiet_ok, op_add_i, op_sub_i, b1_int, b1_abs, b1_lenl, b1_lent, b1_tupl, b1_tupt, b1_listt, b1_listl, lt_i, gt_i, le_i, ge_i, strict_0, strict_s, peek_0, peek_0l, peek_0d, peek_s, bindT_n, bindT_t, bindT_l, bindT_w, bindTs_n, bindTs_c, wipeS_nil, wipeS_cons, e_k, e_v, e_p, e_tup, e_lst, e_nil, e_cons, e_op, e_cmp, e_ch, e_and, e_or, e_not, e_neg, e_ite, e_isN, e_notN, e_ix, e_slf, e_slt, e_slb, e_rev, e_call, e_b1, e_b2, e_isi, e_rng, e_dnil, e_comp, e_dcomp, e_enm', e_zip', e_rl, e_idx, e_join, x_nil, x_cons, x_set, x_setO, x_unp, x_xp, x_ret, x_raise, x_ite, x_forB, x_app, x_tr, x_brk, x_cnt, x_pass, x_fr, x_wipe, x_par, evP_nil, evP_f, evP_t, parR_nil, parR_f, parR_t, x_aug, x_augix, x_setix, setixS_nat, x_extS, x_pop, augD_add, augD_sub, x_while, compR_nil, compR_mapL, compR_some, quiet_ite, in_natL, in_natT, notin_natL, notin_natT, eq_ii, ne_ii, eq_ss, ne_ss, sum_map, all_map, any_map, b2_max, b2_min, ix_0, ix_1, ix_2, ixl_0, ansR_rt, ansR_nx, ansR_ex, toSl_l, toSl_d, sl_tailT, sl_tailL, size_ok, sz_filterL, compG_t, rng_nat, rng_ab, shl_one, shr_nat, band_one, op_mod_i, op_fdiv_i, zipD_map, zipD_tail, add_tup, add_lst, rev_tup, rev_lst, mul_repT, if_true, if_false, ite_true, ite_false, Bool.not_true, Bool.not_false, Bool.false_eq_true, decide_eq_true_eq, decide_true, decide_false, Bool.and_true, Bool.true_and, Bool.or_true, Bool.true_or, Bool.and_false, Bool.false_and, Bool.or_false, Bool.false_or, reduceCtorEq, List.map_cons, List.map_nil, List.length_map, List.length_cons, List.length_nil, List.nil_append, List.cons_append, List.length_range, List.length_append, sz_filterR, Nat.reduceAdd, Int.cast_ofNat_Int, Int.reduceEq, Int.reduceLT, Int.reduceLE, hmin, hle]
    · intro p hp
      simp -implicitDefEqProofs (disch := first | omega | (simp only [List.length_map, List.length_cons, List.length_nil, List.length_append, List.length_range, List.length_replicate, List.length_tail, List.length_reverse]; omega)) only [getS_0, getS_s, setS_0, setS_s, sr_ok, nx_then, rt_then, ex_then, bk_then, ct_then, ex_sr, asBool_b, asInt_i, items_l, items_t, Res.ok_bind, Res.ex_bind, Res.bad_bind, Res.quiet_ok, op_add_i, op_sub_i, b1_int, b1_abs, b1_lenl, b1_lent, b1_tupl, b1_tupt, b1_listt, b1_listl, lt_i, gt_i, le_i, ge_i, strict_0, strict_s, peek_0, peek_0l, peek_0d, peek_s, bindT_n, bindT_t, bindT_l, bindT_w, bindTs_n, bindTs_c, wipeS_nil, wipeS_cons, e_k, e_v, e_p, e_tup, e_lst, e_nil, e_cons, e_op, e_cmp, e_ch, e_and, e_or, e_not, e_neg, e_ite, e_isN, e_notN, e_ix, e_slf, e_slt, e_slb, e_rev, e_call, e_b1, e_b2, e_isi, e_rng, e_dnil, e_comp, e_dcomp, e_enm', e_zip', e_rl, e_idx, e_join, x_nil, x_cons, x_set, x_setO, x_unp, x_xp, x_ret, x_raise, x_ite, x_forB, x_app, x_tr, x_brk, x_cnt, x_pass, x_fr, x_wipe, x_par, evP_nil, evP_f, evP_t, parR_nil, parR_f, parR_t, x_aug, x_augix, x_setix, setixS_nat, x_extS, x_pop, augD_add, augD_sub, x_while, compR_nil, compR_mapL, compR_some, quiet_ite, in_natL, in_natT, notin_natL, notin_natT, eq_ii, ne_ii, eq_ss, ne_ss, sum_map, all_map, any_map, b2_max, b2_min, ix_0, ix_1, ix_2, ixl_0, ansR_rt, ansR_nx, ansR_ex, toSl_l, toSl_d, sl_tailT, sl_tailL, size_ok, sz_filterL, compG_t, rng_nat, rng_ab, shl_one, shr_nat, band_one, op_mod_i, op_fdiv_i, zipD_map, zipD_tail, add_tup, add_lst, rev_tup, rev_lst, mul_repT, if_true, if_false, ite_true, ite_false, Bool.not_true, Bool.not_false, Bool.false_eq_true, decide_eq_true_eq, decide_true, decide_false, Bool.and_true, Bool.true_and, Bool.or_true, Bool.true_or, Bool.and_false, Bool.false_and, Bool.or_false, Bool.false_or, reduceCtorEq, List.map_cons, List.map_nil, List.length_map, List.length_cons, List.length_nil, List.nil_append, List.cons_append, List.length_range, List.length_append, sz_filterR, Nat.reduceAdd, Int.cast_ofNat_Int, Int.reduceEq, Int.reduceLT, Int.reduceLE, hone p hp]
  · have e1 : ¬ (1 : Int) < (n : Int) := by omega
    simp -implicitDefEqProofs (disch := first | omega | (simp only [List.length_map, List.length_cons, List.length_nil, List.length_append, List.length_range, List.length_replicate, List.length_tail, List.length_reverse]; omega)) only [getS_0, getS_s, setS_0, setS_s, sr_ok, nx_then, rt_then, ex_then, bk_then, ct_then, ex_sr, asBool_b, asInt_i, items_l, items_t, Res.ok_bind, Res.ex_bind, Res.bad_bind, Res.quiet_ok, op_add_i, op_sub_i, b1_int, b1_abs, b1_lenl, b1_lent, b1_tupl, b1_tupt, b1_listt, b1_listl, lt_i, gt_i, le_i, ge_i, strict_0, strict_s, peek_0, peek_0l, peek_0d, peek_s, bindT_n, bindT_t, bindT_l, bindT_w, bindTs_n, bindTs_c, wipeS_nil, wipeS_cons, e_k, e_v, e_p, e_tup, e_lst, e_nil, e_cons, e_op, e_cmp, e_ch, e_and, e_or, e_not, e_neg, e_ite, e_isN, e_notN, e_ix, e_slf, e_slt, e_slb, e_rev, e_call, e_b1, e_b2, e_isi, e_rng, e_dnil, e_comp, e_dcomp, e_enm', e_zip', e_rl, e_idx, e_join, x_nil, x_cons, x_set, x_setO, x_unp, x_xp, x_ret, x_raise, x_ite, x_forB, x_app, x_tr, x_brk, x_cnt, x_pass, x_fr, x_wipe, x_par, evP_nil, evP_f, evP_t, parR_nil, parR_f, parR_t, x_aug, x_augix, x_setix, setixS_nat, x_extS, x_pop, augD_add, augD_sub, x_while, compR_nil, compR_mapL, compR_some, quiet_ite, in_natL, in_natT, notin_natL, notin_natT, eq_ii, ne_ii, eq_ss, ne_ss, sum_map, all_map, any_map, b2_max, b2_min, ix_0, ix_1, ix_2, ixl_0, ansR_rt, ansR_nx, ansR_ex, toSl_l, toSl_d, sl_tailT, sl_tailL, size_ok, sz_filterL, compG_t, rng_nat, rng_ab, shl_one, shr_nat, band_one, op_mod_i, op_fdiv_i, zipD_map, zipD_tail, add_tup, add_lst, rev_tup, rev_lst, mul_repT, if_true, if_false, ite_true, ite_false, Bool.not_true, Bool.not_false, Bool.false_eq_true, decide_eq_true_eq, decide_true, decide_false, Bool.and_true, Bool.true_and, Bool.or_true, Bool.true_or, Bool.and_false, Bool.false_and, Bool.or_false, Bool.false_or, reduceCtorEq, List.map_cons, List.map_nil, List.length_map, List.length_cons, List.length_nil, List.nil_append, List.cons_append, List.length_range, List.length_append, sz_filterR, Nat.reduceAdd, Int.cast_ofNat_Int, Int.reduceEq, Int.reduceLT, Int.reduceLE, forB, b_law_3, gt_iff_lt, e1]
theorem mosts3 (t : Nat) (h : t < 3) : ∃ mo : Nat, ixD (.list [.int 4, .int 7, .int 6]) (.int t) = .ok (.int mo) ∧ 1 ≤ mo ∧ mo ≤ 7 := by
  have : t = 0 ∨ t = 1 ∨ t = 2 := by omega
  rcases this with rfl | rfl | rfl
  · exact ⟨4, rfl, by decide, by decide⟩
  · exact ⟨7, rfl, by decide, by decide⟩
  · exact ⟨6, rfl, by decide, by decide⟩
theorem law_turn (ds : List Nat) (hds : ds.length = 70) (t : Nat) (ht : t < 3) (s0 : Sl) :
    forB (EE MM (k + 8)) sub fuel (.n 2) b_law_1 (natD t) [s0, .fz (.list (ds.map natD)), .un, .un, .un, .un, .un, .un, .un, .un, .un, .un, .un, .un, .un, .un, .un, .un, .un] =
      .nx [s0, .fz (.list (ds.map natD)), .un, .un, .un, .un, .un, .un, .un, .un, .un, .un, .un, .un, .un, .un, .un, .un, .un] := by
  obtain ⟨mo, h1, h2, h3⟩ := mosts3 t ht
  obtain ⟨n, ws, ⟨gd, hw⟩, hn, hb⟩ := law_bundles_ok60 (m := MM) (k := k + 7) ds (16 * t) mo (by omega) h2 (by omega)
  have e1 : opD .mul (.int 16) (.int (t : Int)) = .ok (.int ((16 * t : Nat) : Int)) := by
    rw [op_mul_l 16 _ rfl, Int.natCast_mul]; rfl
  have eb : ∀ T1 T2 σ, bindT (.t [T1, T2]) (bD n ws) σ = bindTs [T1, T2] [.int n, .tuple (ws.map wD)] σ := fun T1 T2 σ => bindT_t _ _ _
  have hf : forR (forB (EE MM (k + 8)) sub fuel (.n 7) b_law_2) [.str "length", .str "cut"] [s0, .fz (.list (ds.map natD)), .fz (natD t), .un, .fz (bD n ws), .fz (ordsD n), .ol [], .un, .un, .fz (.int n), .fz (.tuple (ws.map wD)), .un, .un, .un, .un, .un, .un, .un, .un] = .nx [s0, .fz (.list (ds.map natD)), .fz (natD t), .un, .fz (bD n ws), .fz (ordsD n), .ol [oD (best true (cc ws n) n), oD (best false (cc ws n) n)], .un, .un, .fz (.int n), .fz (.tuple (ws.map wD)), .un, .un, .un, .un, .un, .un, .un, .un] := by
    have t1 := goal_turn (k := k) true gd hw ds hds t ht [] (by simp) s0 .un .un
    have t2 := goal_turn (k := k) false gd hw ds hds t ht ([] ++ [oD (best true (cc ws n) n)]) (by simp) s0 .un .un
    rw [show gS true = "length" from rfl] at t1
    rw [show gS false = "cut" from rfl] at t2
    rw [forR_next t1, forR_next t2, forR]
    rfl
  have hp := forR_same (f := forB (EE MM (k + 8)) sub fuel (.n 8) b_law_3) [s0, .fz (.list (ds.map natD)), .fz (natD t), .un, .fz (bD n ws), .fz (ordsD n), .ol [oD (best true (cc ws n) n), oD (best false (cc ws n) n)], .un, .un, .fz (.int n), .fz (.tuple (ws.map wD)), .un, .un, .un, .un, .un, .un, .un, .un] ((List.range n).map natD) fun d _ => part_turn gd d ..
  have hbl := best_order_ok (m := MM) (k := k + 1) true gd
  have hbc := best_order_ok (m := MM) (k := k + 1) false gd
  rw [show gS true = "length" from rfl] at hbl
  rw [show gS false = "cut" from rfl] at hbc
  have hgc : EE MM (k + 8) i_greatest_cut [bD n ws, oD (best true (cc ws n) n)] = .ok (.int (Great ws (best true (cc ws n) n))) := greatest_cut_ok (m := MM) (k := k + 1) gd (best_iso gd)
  have hlo : EE MM (k + 8) i_length_of [bD n ws, oD (best false (cc ws n) n)] = .ok (.int (Len ws (best false (cc ws n) n))) := length_of_ok (m := MM) (k := k + 1) gd (best_iso gd)
  have l1 : ¬ Great ws (best true (cc ws n) n) < M false (cc ws n) n (2 ^ n - 1) := by
    have := le_val false gd (best_iso (g := true) gd)
    rw [Val, if_neg Bool.false_ne_true] at this
    omega
  have l2 : ¬ Len ws (best false (cc ws n) n) < M true (cc ws n) n (2 ^ n - 1) := by
    have := le_val true gd (best_iso (g := false) gd)
    rw [Val, if_pos rfl] at this
    omega
  have h9 := gd.n9
  have ix0 : ixD (.list [oD (best true (cc ws n) n), oD (best false (cc ws n) n)]) (.int 0) = .ok (oD (best true (cc ws n) n)) := rfl
  have ix1 : ixD (.list [oD (best true (cc ws n) n), oD (best false (cc ws n) n)]) (.int 1) = .ok (oD (best false (cc ws n) n)) := rfl
  by_cases h6 : n < 6
  · have h6' : (n : Int) < 6 := by omega
    have hor : ordsD n = .list ((EX n n []).map oD) := if_pos h6
    have hlw := law_orders_ok (m := MM) (k := k + 7) n (by omega)
    rw [← hor] at hlw
    simp -implicitDefEqProofs (disch := first | omega | (simp only [List.length_map, List.length_cons, List.length_nil, List.length_append, List.length_range, List.length_replicate, List.length_tail, List.length_reverse]; omega)) only [getS_0, getS_s, setS_0, setS_s, sr_ok, nx_then, rt_then, ex_then, bk_then, ct_then, ex_sr, asBool_b, asInt_i, items_l, items_t, Res.ok_bind, Res.ex_bind, Res.bad_bind, Res.quiet_ok, op_add_i, op_sub_i, b1_int, b1_abs, b1_lenl, b1_lent, b1_tupl, b1_tupt, b1_listt, b1_listl, lt_i, gt_i, le_i, ge_i, strict_0, strict_s, peek_0, peek_0l, peek_0d, peek_s, bindT_n, bindT_t, bindT_l, bindT_w, bindTs_n, bindTs_c, wipeS_nil, wipeS_cons, e_k, e_v, e_p, e_tup, e_lst, e_nil, e_cons, e_op, e_cmp, e_ch, e_and, e_or, e_not, e_neg, e_ite, e_isN, e_notN, e_ix, e_slf, e_slt, e_slb, e_rev, e_call, e_b1, e_b2, e_isi, e_rng, e_dnil, e_comp, e_dcomp, e_enm', e_zip', e_rl, e_idx, e_join, x_nil, x_cons, x_set, x_setO, x_unp, x_xp, x_ret, x_raise, x_ite, x_forB, x_app, x_tr, x_brk, x_cnt, x_pass, x_fr, x_wipe, x_par, evP_nil, evP_f, evP_t, parR_nil, parR_f, parR_t, x_aug, x_augix, x_setix, setixS_nat, x_extS, x_pop, augD_add, augD_sub, x_while, compR_nil, compR_mapL, compR_some, quiet_ite, in_natL, in_natT, notin_natL, notin_natT, eq_ii, ne_ii, eq_ss, ne_ss, sum_map, all_map, any_map, b2_max, b2_min, ix_0, ix_1, ix_2, ixl_0, ansR_rt, ansR_nx, ansR_ex, toSl_l, toSl_d, sl_tailT, sl_tailL, size_ok, sz_filterL, compG_t, rng_nat, rng_ab, shl_one, shr_nat, band_one, op_mod_i, op_fdiv_i, zipD_map, zipD_tail, add_tup, add_lst, rev_tup, rev_lst, mul_repT, if_true, if_false, ite_true, ite_false, Bool.not_true, Bool.not_false, Bool.false_eq_true, decide_eq_true_eq, decide_true, decide_false, Bool.and_true, Bool.true_and, Bool.or_true, Bool.true_or, Bool.and_false, Bool.false_and, Bool.or_false, Bool.false_or, reduceCtorEq, List.map_cons, List.map_nil, List.length_map, List.length_cons, List.length_nil, List.nil_append, List.cons_append, List.length_range, List.length_append, sz_filterR, Nat.reduceAdd, Int.cast_ofNat_Int, Int.reduceEq, Int.reduceLT, Int.reduceLE, forB, b_law_1, e1, h1, hb, eb, h6', hlw, hf, hbl, hbc, ix0, ix1, hgc, hlo, gt_iff_lt, l1, l2, hp]
  · have h6' : ¬ (n : Int) < 6 := by omega
    have hor : ordsD n = .none := if_neg h6
    rw [hor] at hf hp
    simp -implicitDefEqProofs (disch := first | omega | (simp only [List.length_map, List.length_cons, List.length_nil, List.length_append, List.length_range, List.length_replicate, List.length_tail, List.length_reverse]; omega)) only [getS_0, getS_s, setS_0, setS_s, sr_ok, nx_then, rt_then, ex_then, bk_then, ct_then, ex_sr, asBool_b, asInt_i, items_l, items_t, Res.ok_bind, Res.ex_bind, Res.bad_bind, Res.quiet_ok, op_add_i, op_sub_i, b1_int, b1_abs, b1_lenl, b1_lent, b1_tupl, b1_tupt, b1_listt, b1_listl, lt_i, gt_i, le_i, ge_i, strict_0, strict_s, peek_0, peek_0l, peek_0d, peek_s, bindT_n, bindT_t, bindT_l, bindT_w, bindTs_n, bindTs_c, wipeS_nil, wipeS_cons, e_k, e_v, e_p, e_tup, e_lst, e_nil, e_cons, e_op, e_cmp, e_ch, e_and, e_or, e_not, e_neg, e_ite, e_isN, e_notN, e_ix, e_slf, e_slt, e_slb, e_rev, e_call, e_b1, e_b2, e_isi, e_rng, e_dnil, e_comp, e_dcomp, e_enm', e_zip', e_rl, e_idx, e_join, x_nil, x_cons, x_set, x_setO, x_unp, x_xp, x_ret, x_raise, x_ite, x_forB, x_app, x_tr, x_brk, x_cnt, x_pass, x_fr, x_wipe, x_par, evP_nil, evP_f, evP_t, parR_nil, parR_f, parR_t, x_aug, x_augix, x_setix, setixS_nat, x_extS, x_pop, augD_add, augD_sub, x_while, compR_nil, compR_mapL, compR_some, quiet_ite, in_natL, in_natT, notin_natL, notin_natT, eq_ii, ne_ii, eq_ss, ne_ss, sum_map, all_map, any_map, b2_max, b2_min, ix_0, ix_1, ix_2, ixl_0, ansR_rt, ansR_nx, ansR_ex, toSl_l, toSl_d, sl_tailT, sl_tailL, size_ok, sz_filterL, compG_t, rng_nat, rng_ab, shl_one, shr_nat, band_one, op_mod_i, op_fdiv_i, zipD_map, zipD_tail, add_tup, add_lst, rev_tup, rev_lst, mul_repT, if_true, if_false, ite_true, ite_false, Bool.not_true, Bool.not_false, Bool.false_eq_true, decide_eq_true_eq, decide_true, decide_false, Bool.and_true, Bool.true_and, Bool.or_true, Bool.true_or, Bool.and_false, Bool.false_and, Bool.or_false, Bool.false_or, reduceCtorEq, List.map_cons, List.map_nil, List.length_map, List.length_cons, List.length_nil, List.nil_append, List.cons_append, List.length_range, List.length_append, sz_filterR, Nat.reduceAdd, Int.cast_ofNat_Int, Int.reduceEq, Int.reduceLT, Int.reduceLE, forB, b_law_1, e1, h1, hb, eb, h6', hf, hbl, hbc, ix0, ix1, hgc, hlo, gt_iff_lt, l1, l2, hp]
theorem last_a : EE MM 19 i_best_order [.str "length", .tuple [.int 3, .tuple [.tuple [.tuple [.int 0, .int 2], .int 5], .tuple [.tuple [.int 0, .int 1], .int 1]]]] = .ok (.tuple [.int 6, .tuple [.int 1, .int 0, .int 2], .tuple [.int 0, .int 6, .int 1, .int 6, .int 5, .int 6, .int 7, .int 6]]) := by
  rfl
theorem last_b : EE MM 19 i_best_order [.str "cut", .tuple [.int 3, .tuple [.tuple [.tuple [.int 0, .int 2], .int 5], .tuple [.tuple [.int 0, .int 1], .int 1]]]] = .ok (.tuple [.int 5, .tuple [.int 1, .int 0, .int 2], .tuple [.int 0, .int 6, .int 1, .int 5, .int 5, .int 5, .int 6, .int 5]]) := by
  rfl
theorem last_c : EE MM 19 i_best_order [.str "cut", .tuple [.int 1, .tuple []]] = .ok (.tuple [.int 0, .tuple [.int 0], .tuple [.int 0, .int 0]]) := by
  rfl
theorem the_law (ns : List Int) (h : ns.length ≤ 63) : EE MM 20 i_law [scrD ns] = .ok (.bool true) := by
  rw [r_law]
  obtain ⟨ds, h1, h2⟩ := law_draws_ok (m := MM) (k := 18) ns h 70 (by decide)
  rw [show ((70 : Nat) : Int) = 70 from rfl] at h1
  have hf := forR_same (f := forB (EE MM 19) sub fuel (.n 2) b_law_1) [.fz (scrD ns), .fz (.list (ds.map natD)), .un, .un, .un, .un, .un, .un, .un, .un, .un, .un, .un, .un, .un, .un, .un, .un, .un] ((List.range 3).map natD) fun d hd => by
    obtain ⟨t, ht, rfl⟩ := List.mem_map.mp hd
    exact law_turn (k := 11) ds h2 t (List.mem_range.mp ht) _
  have er := rng_nat 3 (by decide)
  rw [show ((3 : Nat) : Int) = 3 from rfl] at er
  have es : slD (.tuple [.int 6, .tuple [.int 1, .int 0, .int 2], .tuple [.int 0, .int 6, .int 1, .int 6, .int 5, .int 6, .int 7, .int 6]]) none (some 2) = .ok (.tuple [.int 6, .tuple [.int 1, .int 0, .int 2]]) := slT_take _ 2
  have e1 := eq_self (d := .tuple [.int 6, .tuple [.int 1, .int 0, .int 2]]) (m := 2) ((Sm.tuple2 (Sm.le (Sm.int 6) (by decide)) (Sm.tup (f := PyData.int) (L := [1, 0, 2]) fun i _ => Sm.int i))) (by decide)
  have e2 : cmpB .eq (.tuple [.int 0, .tuple [.int 0], .tuple [.int 0, .int 0]]) (.tuple [.int 0, .tuple [.int 0], .tuple [.int 0, .int 0]]) = .ok true := by rfl
  simp -implicitDefEqProofs (disch := first | omega | (simp only [List.length_map, List.length_cons, List.length_nil, List.length_append, List.length_range, List.length_replicate, List.length_tail, List.length_reverse]; omega)) only [getS_0, getS_s, setS_0, setS_s, sr_ok, nx_then, rt_then, ex_then, bk_then, ct_then, ex_sr, asBool_b, asInt_i, items_l, items_t, Res.ok_bind, Res.ex_bind, Res.bad_bind, Res.quiet_ok, op_add_i, op_sub_i, b1_int, b1_abs, b1_lenl, b1_lent, b1_tupl, b1_tupt, b1_listt, b1_listl, lt_i, gt_i, le_i, ge_i, strict_0, strict_s, peek_0, peek_0l, peek_0d, peek_s, bindT_n, bindT_t, bindT_l, bindT_w, bindTs_n, bindTs_c, wipeS_nil, wipeS_cons, e_k, e_v, e_p, e_tup, e_lst, e_nil, e_cons, e_op, e_cmp, e_ch, e_and, e_or, e_not, e_neg, e_ite, e_isN, e_notN, e_ix, e_slf, e_slt, e_slb, e_rev, e_call, e_b1, e_b2, e_isi, e_rng, e_dnil, e_comp, e_dcomp, e_enm', e_zip', e_rl, e_idx, e_join, x_nil, x_cons, x_set, x_setO, x_unp, x_xp, x_ret, x_raise, x_ite, x_forB, x_app, x_tr, x_brk, x_cnt, x_pass, x_fr, x_wipe, x_par, evP_nil, evP_f, evP_t, parR_nil, parR_f, parR_t, x_aug, x_augix, x_setix, setixS_nat, x_extS, x_pop, augD_add, augD_sub, x_while, compR_nil, compR_mapL, compR_some, quiet_ite, in_natL, in_natT, notin_natL, notin_natT, eq_ii, ne_ii, eq_ss, ne_ss, sum_map, all_map, any_map, b2_max, b2_min, ix_0, ix_1, ix_2, ixl_0, ansR_rt, ansR_nx, ansR_ex, toSl_l, toSl_d, sl_tailT, sl_tailL, size_ok, sz_filterL, compG_t, rng_nat, rng_ab, shl_one, shr_nat, band_one, op_mod_i, op_fdiv_i, zipD_map, zipD_tail, add_tup, add_lst, rev_tup, rev_lst, mul_repT, if_true, if_false, ite_true, ite_false, Bool.not_true, Bool.not_false, Bool.false_eq_true, decide_eq_true_eq, decide_true, decide_false, Bool.and_true, Bool.true_and, Bool.or_true, Bool.true_or, Bool.and_false, Bool.false_and, Bool.or_false, Bool.false_or, reduceCtorEq, List.map_cons, List.map_nil, List.length_map, List.length_cons, List.length_nil, List.nil_append, List.cons_append, List.length_range, List.length_append, sz_filterR, Nat.reduceAdd, Int.cast_ofNat_Int, Int.reduceEq, Int.reduceLT, Int.reduceLE, b_law, h1, er, hf, last_a, last_b, last_c, es, e1, e2]
end Ord.K50

namespace Ord.K50
open PySem PySem.W L2 BW Ord
def G : BW.GC := ⟨[("is_whole", 0, 3), ("ascends", 1, 1), ("_are_parts", 2, 2), ("_is_wire", 3, 2), ("are_bundles", 4, 1), ("check_bundles", 5, 1), ("check_orders", 20, 2), ("_length", 21, 2), ("length_of", 22, 2), ("cut_at", 6, 2), ("greatest_cut", 23, 2), ("cut_of", 24, 2), ("check_bestorders", 7, 2), ("_members", 8, 2), ("_cuts", 9, 1), ("_together", 10, 3), ("_marks", 11, 3), ("_behind", 12, 3), ("_first", 13, 3), ("best_order", 14, 2), ("marks_fault", 15, 3), ("_law_draws", 16, 2), ("_law_bundles", 17, 3), ("_law_length", 26, 2), ("_law_cut", 18, 2), ("_law_greatest", 27, 2), ("_law_orders", 29, 1), ("_law_two", 19, 1), ("_law_holds", 30, 3), ("law", 43, 1)], [("MOST_PARTS", (.int 9)), ("MOST_WIRES", (.int 40)), ("MOST_WEIGHT", (.int 1000)), ("LENGTH", (.str "length")), ("CUT", (.str "cut")), ("FORM", (.tuple [(.str "form")]))], ["BoardError", "BadOrder", "BadBundles", "BadParts", "BadGoal"]⟩
def st (j : Nat) : Stmt := PySem.Challenge.pw_boardwright_k50_whole_best_orders.main.body.getD j (.Pass ⟨0, 0, 0, 0⟩)
theorem ck0 : ckSs (ckS G d_is_whole.N (defScope (st 7)) 40 20) (defBody (st 7)) d_is_whole.body = true := by decide +kernel
theorem sc0 : scB d_is_whole.N d_is_whole.ps (defScope (st 7)) = true := by decide +kernel
theorem ck1 : ckSs (ckS G d_ascends.N (defScope (st 8)) 40 20) (defBody (st 8)) d_ascends.body = true := by decide +kernel
theorem sc1 : scB d_ascends.N d_ascends.ps (defScope (st 8)) = true := by decide +kernel
theorem ck2 : ckSs (ckS G d_are_parts.N (defScope (st 13)) 40 20) (defBody (st 13)) d_are_parts.body = true := by decide +kernel
theorem sc2 : scB d_are_parts.N d_are_parts.ps (defScope (st 13)) = true := by decide +kernel
theorem ck3 : ckSs (ckS G d_is_wire.N (defScope (st 14)) 40 20) (defBody (st 14)) d_is_wire.body = true := by decide +kernel
theorem sc3 : scB d_is_wire.N d_is_wire.ps (defScope (st 14)) = true := by decide +kernel
theorem ck4 : ckSs (ckS G d_are_bundles.N (defScope (st 15)) 40 20) (defBody (st 15)) d_are_bundles.body = true := by decide +kernel
theorem sc4 : scB d_are_bundles.N d_are_bundles.ps (defScope (st 15)) = true := by decide +kernel
theorem ck5 : ckSs (ckS G d_check_bundles.N (defScope (st 16)) 40 20) (defBody (st 16)) d_check_bundles.body = true := by decide +kernel
theorem sc5 : scB d_check_bundles.N d_check_bundles.ps (defScope (st 16)) = true := by decide +kernel
theorem ck6 : ckSs (ckS G d_orders_check.N (defScope (st 17)) 40 20) (defBody (st 17)) d_orders_check.body = true := by decide +kernel
theorem sc6 : scB d_orders_check.N d_orders_check.ps (defScope (st 17)) = true := by decide +kernel
theorem ck7 : ckSs (ckS G d_length.N (defScope (st 19)) 40 20) (defBody (st 19)) d_length.body = true := by decide +kernel
theorem sc7 : scB d_length.N d_length.ps (defScope (st 19)) = true := by decide +kernel
theorem ck8 : ckSs (ckS G d_length_of.N (defScope (st 20)) 40 20) (defBody (st 20)) d_length_of.body = true := by decide +kernel
theorem sc8 : scB d_length_of.N d_length_of.ps (defScope (st 20)) = true := by decide +kernel
theorem ck9 : ckSs (ckS G d_cut_at.N (defScope (st 21)) 40 20) (defBody (st 21)) d_cut_at.body = true := by decide +kernel
theorem sc9 : scB d_cut_at.N d_cut_at.ps (defScope (st 21)) = true := by decide +kernel
theorem ck10 : ckSs (ckS G d_greatest_cut.N (defScope (st 22)) 40 20) (defBody (st 22)) d_greatest_cut.body = true := by decide +kernel
theorem sc10 : scB d_greatest_cut.N d_greatest_cut.ps (defScope (st 22)) = true := by decide +kernel
theorem ck11 : ckSs (ckS G d_cut_of.N (defScope (st 23)) 40 20) (defBody (st 23)) d_cut_of.body = true := by decide +kernel
theorem sc11 : scB d_cut_of.N d_cut_of.ps (defScope (st 23)) = true := by decide +kernel
theorem ck12 : ckSs (ckS G d_bestorders_check.N (defScope (st 28)) 40 20) (defBody (st 28)) d_bestorders_check.body = true := by decide +kernel
theorem sc12 : scB d_bestorders_check.N d_bestorders_check.ps (defScope (st 28)) = true := by decide +kernel
theorem ck13 : ckSs (ckS G d_members.N (defScope (st 30)) 40 20) (defBody (st 30)) d_members.body = true := by decide +kernel
theorem sc13 : scB d_members.N d_members.ps (defScope (st 30)) = true := by decide +kernel
theorem ck14 : ckSs (ckS G d_cuts.N (defScope (st 31)) 40 20) (defBody (st 31)) d_cuts.body = true := by decide +kernel
theorem sc14 : scB d_cuts.N d_cuts.ps (defScope (st 31)) = true := by decide +kernel
theorem ck15 : ckSs (ckS G d_together.N (defScope (st 32)) 40 20) (defBody (st 32)) d_together.body = true := by decide +kernel
theorem sc15 : scB d_together.N d_together.ps (defScope (st 32)) = true := by decide +kernel
theorem ck16 : ckSs (ckS G d_marks.N (defScope (st 33)) 40 20) (defBody (st 33)) d_marks.body = true := by decide +kernel
theorem sc16 : scB d_marks.N d_marks.ps (defScope (st 33)) = true := by decide +kernel
theorem ck17 : ckSs (ckS G d_behind.N (defScope (st 34)) 40 20) (defBody (st 34)) d_behind.body = true := by decide +kernel
theorem sc17 : scB d_behind.N d_behind.ps (defScope (st 34)) = true := by decide +kernel
theorem ck18 : ckSs (ckS G d_bestorders_first.N (defScope (st 35)) 40 20) (defBody (st 35)) d_bestorders_first.body = true := by decide +kernel
theorem sc18 : scB d_bestorders_first.N d_bestorders_first.ps (defScope (st 35)) = true := by decide +kernel
theorem ck19 : ckSs (ckS G d_best_order.N (defScope (st 36)) 40 20) (defBody (st 36)) d_best_order.body = true := by decide +kernel
theorem sc19 : scB d_best_order.N d_best_order.ps (defScope (st 36)) = true := by decide +kernel
theorem ck20 : ckSs (ckS G d_marks_fault.N (defScope (st 37)) 40 20) (defBody (st 37)) d_marks_fault.body = true := by decide +kernel
theorem sc20 : scB d_marks_fault.N d_marks_fault.ps (defScope (st 37)) = true := by decide +kernel
theorem ck21 : ckSs (ckS G d_law_draws.N (defScope (st 39)) 40 20) (defBody (st 39)) d_law_draws.body = true := by decide +kernel
theorem sc21 : scB d_law_draws.N d_law_draws.ps (defScope (st 39)) = true := by decide +kernel
theorem ck22 : ckSs (ckS G d_law_bundles.N (defScope (st 40)) 40 20) (defBody (st 40)) d_law_bundles.body = true := by decide +kernel
theorem sc22 : scB d_law_bundles.N d_law_bundles.ps (defScope (st 40)) = true := by decide +kernel
theorem ck23 : ckSs (ckS G d_law_length.N (defScope (st 41)) 40 20) (defBody (st 41)) d_law_length.body = true := by decide +kernel
theorem sc23 : scB d_law_length.N d_law_length.ps (defScope (st 41)) = true := by decide +kernel
theorem ck24 : ckSs (ckS G d_law_cut.N (defScope (st 42)) 40 20) (defBody (st 42)) d_law_cut.body = true := by decide +kernel
theorem sc24 : scB d_law_cut.N d_law_cut.ps (defScope (st 42)) = true := by decide +kernel
theorem ck25 : ckSs (ckS G d_law_greatest.N (defScope (st 43)) 40 20) (defBody (st 43)) d_law_greatest.body = true := by decide +kernel
theorem sc25 : scB d_law_greatest.N d_law_greatest.ps (defScope (st 43)) = true := by decide +kernel
theorem ck26 : ckSs (ckS G d_law_orders.N (defScope (st 44)) 40 20) (defBody (st 44)) d_law_orders.body = true := by decide +kernel
theorem sc26 : scB d_law_orders.N d_law_orders.ps (defScope (st 44)) = true := by decide +kernel
theorem ck27 : ckSs (ckS G d_law_two.N (defScope (st 46)) 40 20) (defBody (st 46)) d_law_two.body = true := by decide +kernel
theorem sc27 : scB d_law_two.N d_law_two.ps (defScope (st 46)) = true := by decide +kernel
theorem ck28 : ckSs (ckS G d_law_holds.N (defScope (st 47)) 40 20) (defBody (st 47)) d_law_holds.body = true := by decide +kernel
theorem sc28 : scB d_law_holds.N d_law_holds.ps (defScope (st 47)) = true := by decide +kernel
theorem ck29 : ckSs (ckS G d_law.N (defScope (st 48)) 40 20) (defBody (st 48)) d_law.body = true := by decide +kernel
theorem sc29 : scB d_law.N d_law.ps (defScope (st 48)) = true := by decide +kernel
def cls (l : List (Str × Addr)) (c : Str) : Value := match l.lookup c with | some a => .ref a | none => .none
theorem all_mk {w : World} {K : PySem.W.Frag} {h : Heap} {mg : Str → Option Value} {fa f0 f1 f2 f3 f4 f5 f6 f7 f8 f9 f10 f11 f12 f13 f14 f15 f16 f17 f18 f19 f20 f21 f22 f23 f24 f25 f26 f27 f28 f29 C_BoardError C_BadOrder C_BadBundles C_BadParts C_BadGoal t_FORM : Addr}
    {od0 an0 od1 an1 od2 an2 od3 an3 od4 an4 od5 an5 od6 an6 od7 an7 od8 an8 od9 an9 od10 an10 od11 an11 od12 an12 od13 an13 od14 an14 od15 an15 od16 an16 od17 an17 od18 an18 od19 an19 od20 an20 od21 an21 od22 an22 od23 an23 od24 an24 od25 an25 od26 an26 od27 an27 od28 an28 od29 an29 : Option Addr} {sl0 sl1 sl2 sl3 sl4 sl5 sl6 sl7 sl8 sl9 sl10 sl11 sl12 sl13 sl14 sl15 sl16 sl17 sl18 sl19 sl20 sl21 sl22 sl23 sl24 sl25 sl26 sl27 sl28 sl29 st_FORM : Array (Option Value)} {oc0 kV0 dc0 pm0 cd0 ct0 oc1 kV1 dc1 pm1 cd1 ct1 oc2 kV2 dc2 pm2 cd2 ct2 oc3 kV3 dc3 pm3 cd3 ct3 oc4 kV4 dc4 pm4 cd4 ct4 oc5 kV5 dc5 pm5 cd5 ct5 oc6 kV6 dc6 pm6 cd6 ct6 oc7 kV7 dc7 pm7 cd7 ct7 oc8 kV8 dc8 pm8 cd8 ct8 oc9 kV9 dc9 pm9 cd9 ct9 oc10 kV10 dc10 pm10 cd10 ct10 oc11 kV11 dc11 pm11 cd11 ct11 oc12 kV12 dc12 pm12 cd12 ct12 oc13 kV13 dc13 pm13 cd13 ct13 oc14 kV14 dc14 pm14 cd14 ct14 oc15 kV15 dc15 pm15 cd15 ct15 oc16 kV16 dc16 pm16 cd16 ct16 oc17 kV17 dc17 pm17 cd17 ct17 oc18 kV18 dc18 pm18 cd18 ct18 oc19 kV19 dc19 pm19 cd19 ct19 oc20 kV20 dc20 pm20 cd20 ct20 oc21 kV21 dc21 pm21 cd21 ct21 oc22 kV22 dc22 pm22 cd22 ct22 oc23 kV23 dc23 pm23 cd23 ct23 oc24 kV24 dc24 pm24 cd24 ct24 oc25 kV25 dc25 pm25 cd25 ct25 oc26 kV26 dc26 pm26 cd26 ct26 oc27 kV27 dc27 pm27 cd27 ct27 oc28 kV28 dc28 pm28 cd28 ct28 oc29 kV29 dc29 pm29 cd29 ct29 : Value}
    {k_MOST_PARTS k_MOST_WIRES k_MOST_WEIGHT k_LENGTH k_CUT : Value}
    {n_FORM : Nat} {vs_FORM : Array Value} (X : K.In h) (G0 : h.Ns mainGlobals mg) (hfa : mg "law" = some (.ref fa))
    (a0 : PySem.W.nsIn K mainGlobals "is_whole" = some (some (.ref f0)))
    (l0 : K.lookup f0 = some ⟨oc0, od0, .func (PySem.W.fnOf "is_whole" "is_whole" (defArgs (st 7)) (defBody (st 7)) (defScope (st 7)) .none kV0 dc0 pm0 an0 cd0 ct0), sl0⟩)
    (c0 : PySem.W.codeIn K cd0 "is_whole" = true)
    (k0 : PySem.W.keepIn K (.ref f0) = true)
    (a1 : PySem.W.nsIn K mainGlobals "ascends" = some (some (.ref f1)))
    (l1 : K.lookup f1 = some ⟨oc1, od1, .func (PySem.W.fnOf "ascends" "ascends" (defArgs (st 8)) (defBody (st 8)) (defScope (st 8)) .none kV1 dc1 pm1 an1 cd1 ct1), sl1⟩)
    (c1 : PySem.W.codeIn K cd1 "ascends" = true)
    (k1 : PySem.W.keepIn K (.ref f1) = true)
    (a2 : PySem.W.nsIn K mainGlobals "_are_parts" = some (some (.ref f2)))
    (l2 : K.lookup f2 = some ⟨oc2, od2, .func (PySem.W.fnOf "_are_parts" "_are_parts" (defArgs (st 13)) (defBody (st 13)) (defScope (st 13)) .none kV2 dc2 pm2 an2 cd2 ct2), sl2⟩)
    (c2 : PySem.W.codeIn K cd2 "_are_parts" = true)
    (k2 : PySem.W.keepIn K (.ref f2) = true)
    (a3 : PySem.W.nsIn K mainGlobals "_is_wire" = some (some (.ref f3)))
    (l3 : K.lookup f3 = some ⟨oc3, od3, .func (PySem.W.fnOf "_is_wire" "_is_wire" (defArgs (st 14)) (defBody (st 14)) (defScope (st 14)) .none kV3 dc3 pm3 an3 cd3 ct3), sl3⟩)
    (c3 : PySem.W.codeIn K cd3 "_is_wire" = true)
    (k3 : PySem.W.keepIn K (.ref f3) = true)
    (a4 : PySem.W.nsIn K mainGlobals "are_bundles" = some (some (.ref f4)))
    (l4 : K.lookup f4 = some ⟨oc4, od4, .func (PySem.W.fnOf "are_bundles" "are_bundles" (defArgs (st 15)) (defBody (st 15)) (defScope (st 15)) .none kV4 dc4 pm4 an4 cd4 ct4), sl4⟩)
    (c4 : PySem.W.codeIn K cd4 "are_bundles" = true)
    (k4 : PySem.W.keepIn K (.ref f4) = true)
    (a5 : PySem.W.nsIn K mainGlobals "check_bundles" = some (some (.ref f5)))
    (l5 : K.lookup f5 = some ⟨oc5, od5, .func (PySem.W.fnOf "check_bundles" "check_bundles" (defArgs (st 16)) (defBody (st 16)) (defScope (st 16)) .none kV5 dc5 pm5 an5 cd5 ct5), sl5⟩)
    (c5 : PySem.W.codeIn K cd5 "check_bundles" = true)
    (k5 : PySem.W.keepIn K (.ref f5) = true)
    (a6 : PySem.W.nsIn K mainGlobals "check_orders" = some (some (.ref f6)))
    (l6 : K.lookup f6 = some ⟨oc6, od6, .func (PySem.W.fnOf "_check" "_check" (defArgs (st 17)) (defBody (st 17)) (defScope (st 17)) .none kV6 dc6 pm6 an6 cd6 ct6), sl6⟩)
    (c6 : PySem.W.codeIn K cd6 "_check" = true)
    (k6 : PySem.W.keepIn K (.ref f6) = true)
    (a7 : PySem.W.nsIn K mainGlobals "_length" = some (some (.ref f7)))
    (l7 : K.lookup f7 = some ⟨oc7, od7, .func (PySem.W.fnOf "_length" "_length" (defArgs (st 19)) (defBody (st 19)) (defScope (st 19)) .none kV7 dc7 pm7 an7 cd7 ct7), sl7⟩)
    (c7 : PySem.W.codeIn K cd7 "_length" = true)
    (k7 : PySem.W.keepIn K (.ref f7) = true)
    (a8 : PySem.W.nsIn K mainGlobals "length_of" = some (some (.ref f8)))
    (l8 : K.lookup f8 = some ⟨oc8, od8, .func (PySem.W.fnOf "length_of" "length_of" (defArgs (st 20)) (defBody (st 20)) (defScope (st 20)) .none kV8 dc8 pm8 an8 cd8 ct8), sl8⟩)
    (c8 : PySem.W.codeIn K cd8 "length_of" = true)
    (k8 : PySem.W.keepIn K (.ref f8) = true)
    (a9 : PySem.W.nsIn K mainGlobals "cut_at" = some (some (.ref f9)))
    (l9 : K.lookup f9 = some ⟨oc9, od9, .func (PySem.W.fnOf "cut_at" "cut_at" (defArgs (st 21)) (defBody (st 21)) (defScope (st 21)) .none kV9 dc9 pm9 an9 cd9 ct9), sl9⟩)
    (c9 : PySem.W.codeIn K cd9 "cut_at" = true)
    (k9 : PySem.W.keepIn K (.ref f9) = true)
    (a10 : PySem.W.nsIn K mainGlobals "greatest_cut" = some (some (.ref f10)))
    (l10 : K.lookup f10 = some ⟨oc10, od10, .func (PySem.W.fnOf "greatest_cut" "greatest_cut" (defArgs (st 22)) (defBody (st 22)) (defScope (st 22)) .none kV10 dc10 pm10 an10 cd10 ct10), sl10⟩)
    (c10 : PySem.W.codeIn K cd10 "greatest_cut" = true)
    (k10 : PySem.W.keepIn K (.ref f10) = true)
    (a11 : PySem.W.nsIn K mainGlobals "cut_of" = some (some (.ref f11)))
    (l11 : K.lookup f11 = some ⟨oc11, od11, .func (PySem.W.fnOf "cut_of" "cut_of" (defArgs (st 23)) (defBody (st 23)) (defScope (st 23)) .none kV11 dc11 pm11 an11 cd11 ct11), sl11⟩)
    (c11 : PySem.W.codeIn K cd11 "cut_of" = true)
    (k11 : PySem.W.keepIn K (.ref f11) = true)
    (a12 : PySem.W.nsIn K mainGlobals "check_bestorders" = some (some (.ref f12)))
    (l12 : K.lookup f12 = some ⟨oc12, od12, .func (PySem.W.fnOf "_check" "_check" (defArgs (st 28)) (defBody (st 28)) (defScope (st 28)) .none kV12 dc12 pm12 an12 cd12 ct12), sl12⟩)
    (c12 : PySem.W.codeIn K cd12 "_check" = true)
    (k12 : PySem.W.keepIn K (.ref f12) = true)
    (a13 : PySem.W.nsIn K mainGlobals "_members" = some (some (.ref f13)))
    (l13 : K.lookup f13 = some ⟨oc13, od13, .func (PySem.W.fnOf "_members" "_members" (defArgs (st 30)) (defBody (st 30)) (defScope (st 30)) .none kV13 dc13 pm13 an13 cd13 ct13), sl13⟩)
    (c13 : PySem.W.codeIn K cd13 "_members" = true)
    (k13 : PySem.W.keepIn K (.ref f13) = true)
    (a14 : PySem.W.nsIn K mainGlobals "_cuts" = some (some (.ref f14)))
    (l14 : K.lookup f14 = some ⟨oc14, od14, .func (PySem.W.fnOf "_cuts" "_cuts" (defArgs (st 31)) (defBody (st 31)) (defScope (st 31)) .none kV14 dc14 pm14 an14 cd14 ct14), sl14⟩)
    (c14 : PySem.W.codeIn K cd14 "_cuts" = true)
    (k14 : PySem.W.keepIn K (.ref f14) = true)
    (a15 : PySem.W.nsIn K mainGlobals "_together" = some (some (.ref f15)))
    (l15 : K.lookup f15 = some ⟨oc15, od15, .func (PySem.W.fnOf "_together" "_together" (defArgs (st 32)) (defBody (st 32)) (defScope (st 32)) .none kV15 dc15 pm15 an15 cd15 ct15), sl15⟩)
    (c15 : PySem.W.codeIn K cd15 "_together" = true)
    (k15 : PySem.W.keepIn K (.ref f15) = true)
    (a16 : PySem.W.nsIn K mainGlobals "_marks" = some (some (.ref f16)))
    (l16 : K.lookup f16 = some ⟨oc16, od16, .func (PySem.W.fnOf "_marks" "_marks" (defArgs (st 33)) (defBody (st 33)) (defScope (st 33)) .none kV16 dc16 pm16 an16 cd16 ct16), sl16⟩)
    (c16 : PySem.W.codeIn K cd16 "_marks" = true)
    (k16 : PySem.W.keepIn K (.ref f16) = true)
    (a17 : PySem.W.nsIn K mainGlobals "_behind" = some (some (.ref f17)))
    (l17 : K.lookup f17 = some ⟨oc17, od17, .func (PySem.W.fnOf "_behind" "_behind" (defArgs (st 34)) (defBody (st 34)) (defScope (st 34)) .none kV17 dc17 pm17 an17 cd17 ct17), sl17⟩)
    (c17 : PySem.W.codeIn K cd17 "_behind" = true)
    (k17 : PySem.W.keepIn K (.ref f17) = true)
    (a18 : PySem.W.nsIn K mainGlobals "_first" = some (some (.ref f18)))
    (l18 : K.lookup f18 = some ⟨oc18, od18, .func (PySem.W.fnOf "_first" "_first" (defArgs (st 35)) (defBody (st 35)) (defScope (st 35)) .none kV18 dc18 pm18 an18 cd18 ct18), sl18⟩)
    (c18 : PySem.W.codeIn K cd18 "_first" = true)
    (k18 : PySem.W.keepIn K (.ref f18) = true)
    (a19 : PySem.W.nsIn K mainGlobals "best_order" = some (some (.ref f19)))
    (l19 : K.lookup f19 = some ⟨oc19, od19, .func (PySem.W.fnOf "best_order" "best_order" (defArgs (st 36)) (defBody (st 36)) (defScope (st 36)) .none kV19 dc19 pm19 an19 cd19 ct19), sl19⟩)
    (c19 : PySem.W.codeIn K cd19 "best_order" = true)
    (k19 : PySem.W.keepIn K (.ref f19) = true)
    (a20 : PySem.W.nsIn K mainGlobals "marks_fault" = some (some (.ref f20)))
    (l20 : K.lookup f20 = some ⟨oc20, od20, .func (PySem.W.fnOf "marks_fault" "marks_fault" (defArgs (st 37)) (defBody (st 37)) (defScope (st 37)) .none kV20 dc20 pm20 an20 cd20 ct20), sl20⟩)
    (c20 : PySem.W.codeIn K cd20 "marks_fault" = true)
    (k20 : PySem.W.keepIn K (.ref f20) = true)
    (a21 : PySem.W.nsIn K mainGlobals "_law_draws" = some (some (.ref f21)))
    (l21 : K.lookup f21 = some ⟨oc21, od21, .func (PySem.W.fnOf "_law_draws" "_law_draws" (defArgs (st 39)) (defBody (st 39)) (defScope (st 39)) .none kV21 dc21 pm21 an21 cd21 ct21), sl21⟩)
    (c21 : PySem.W.codeIn K cd21 "_law_draws" = true)
    (k21 : PySem.W.keepIn K (.ref f21) = true)
    (a22 : PySem.W.nsIn K mainGlobals "_law_bundles" = some (some (.ref f22)))
    (l22 : K.lookup f22 = some ⟨oc22, od22, .func (PySem.W.fnOf "_law_bundles" "_law_bundles" (defArgs (st 40)) (defBody (st 40)) (defScope (st 40)) .none kV22 dc22 pm22 an22 cd22 ct22), sl22⟩)
    (c22 : PySem.W.codeIn K cd22 "_law_bundles" = true)
    (k22 : PySem.W.keepIn K (.ref f22) = true)
    (a23 : PySem.W.nsIn K mainGlobals "_law_length" = some (some (.ref f23)))
    (l23 : K.lookup f23 = some ⟨oc23, od23, .func (PySem.W.fnOf "_law_length" "_law_length" (defArgs (st 41)) (defBody (st 41)) (defScope (st 41)) .none kV23 dc23 pm23 an23 cd23 ct23), sl23⟩)
    (c23 : PySem.W.codeIn K cd23 "_law_length" = true)
    (k23 : PySem.W.keepIn K (.ref f23) = true)
    (a24 : PySem.W.nsIn K mainGlobals "_law_cut" = some (some (.ref f24)))
    (l24 : K.lookup f24 = some ⟨oc24, od24, .func (PySem.W.fnOf "_law_cut" "_law_cut" (defArgs (st 42)) (defBody (st 42)) (defScope (st 42)) .none kV24 dc24 pm24 an24 cd24 ct24), sl24⟩)
    (c24 : PySem.W.codeIn K cd24 "_law_cut" = true)
    (k24 : PySem.W.keepIn K (.ref f24) = true)
    (a25 : PySem.W.nsIn K mainGlobals "_law_greatest" = some (some (.ref f25)))
    (l25 : K.lookup f25 = some ⟨oc25, od25, .func (PySem.W.fnOf "_law_greatest" "_law_greatest" (defArgs (st 43)) (defBody (st 43)) (defScope (st 43)) .none kV25 dc25 pm25 an25 cd25 ct25), sl25⟩)
    (c25 : PySem.W.codeIn K cd25 "_law_greatest" = true)
    (k25 : PySem.W.keepIn K (.ref f25) = true)
    (a26 : PySem.W.nsIn K mainGlobals "_law_orders" = some (some (.ref f26)))
    (l26 : K.lookup f26 = some ⟨oc26, od26, .func (PySem.W.fnOf "_law_orders" "_law_orders" (defArgs (st 44)) (defBody (st 44)) (defScope (st 44)) .none kV26 dc26 pm26 an26 cd26 ct26), sl26⟩)
    (c26 : PySem.W.codeIn K cd26 "_law_orders" = true)
    (k26 : PySem.W.keepIn K (.ref f26) = true)
    (a27 : PySem.W.nsIn K mainGlobals "_law_two" = some (some (.ref f27)))
    (l27 : K.lookup f27 = some ⟨oc27, od27, .func (PySem.W.fnOf "_law_two" "_law_two" (defArgs (st 46)) (defBody (st 46)) (defScope (st 46)) .none kV27 dc27 pm27 an27 cd27 ct27), sl27⟩)
    (c27 : PySem.W.codeIn K cd27 "_law_two" = true)
    (k27 : PySem.W.keepIn K (.ref f27) = true)
    (a28 : PySem.W.nsIn K mainGlobals "_law_holds" = some (some (.ref f28)))
    (l28 : K.lookup f28 = some ⟨oc28, od28, .func (PySem.W.fnOf "_law_holds" "_law_holds" (defArgs (st 47)) (defBody (st 47)) (defScope (st 47)) .none kV28 dc28 pm28 an28 cd28 ct28), sl28⟩)
    (c28 : PySem.W.codeIn K cd28 "_law_holds" = true)
    (k28 : PySem.W.keepIn K (.ref f28) = true)
    (a29 : PySem.W.nsIn K mainGlobals "law" = some (some (.ref f29)))
    (l29 : K.lookup f29 = some ⟨oc29, od29, .func (PySem.W.fnOf "law" "law" (defArgs (st 48)) (defBody (st 48)) (defScope (st 48)) .none kV29 dc29 pm29 an29 cd29 ct29), sl29⟩)
    (c29 : PySem.W.codeIn K cd29 "law" = true)
    (k29 : PySem.W.keepIn K (.ref f29) = true)
    (n_MOST_PARTS : PySem.W.nsIn K mainGlobals "MOST_PARTS" = some (some k_MOST_PARTS))
    (n_MOST_WIRES : PySem.W.nsIn K mainGlobals "MOST_WIRES" = some (some k_MOST_WIRES))
    (n_MOST_WEIGHT : PySem.W.nsIn K mainGlobals "MOST_WEIGHT" = some (some k_MOST_WEIGHT))
    (n_LENGTH : PySem.W.nsIn K mainGlobals "LENGTH" = some (some k_LENGTH))
    (n_CUT : PySem.W.nsIn K mainGlobals "CUT" = some (some k_CUT))
    (n__FORM : PySem.W.nsIn K mainGlobals "FORM" = some (some (.ref t_FORM)))
    (l__FORM : K.lookup t_FORM = some ⟨.type "tuple", none, .seq vs_FORM n_FORM, st_FORM⟩)
    (x_BoardError : PySem.W.nsIn K mainGlobals "BoardError" = some (some (.ref C_BoardError)))
    (q_BoardError : PySem.W.excIn K C_BoardError [.type "ValueError", .type "Exception", .type "BaseException", .type "object"] "ValueError.__new__" = true)
    (kp_BoardError : PySem.W.keepIn K (.ref C_BoardError) = true)
    (sb_BoardError : PySem.W.subIn K (.ref C_BoardError) (.type "BaseException") = some true)
    (ty_BoardError : PySem.W.typeIn K (.ref C_BoardError) = some (.type "type"))
    (ic_BoardError : PySem.W.isClsIn K C_BoardError = true)
    (eg_BoardError : PySem.W.findIn K (.ref C_BoardError) "__getattribute__" = some (some (.builtin "BaseException.__getattribute__")))
    (ek_BoardError : PySem.W.findIn K (.ref C_BoardError) "__getattr__" = some none)
    (ed_BoardError : PySem.W.hasDictIn K C_BoardError = true)
    (ea_BoardError : PySem.W.findIn K (.ref C_BoardError) "__class__" = some (some (.builtin "object.__class__")))
    (em_BoardError : PySem.W.mroIn K C_BoardError (.type "object") = some true)
    (x_BadOrder : PySem.W.nsIn K mainGlobals "BadOrder" = some (some (.ref C_BadOrder)))
    (q_BadOrder : PySem.W.excIn K C_BadOrder [.type "ValueError", .type "Exception", .type "BaseException", .type "object"] "ValueError.__new__" = true)
    (kp_BadOrder : PySem.W.keepIn K (.ref C_BadOrder) = true)
    (sb_BadOrder : PySem.W.subIn K (.ref C_BadOrder) (.type "BaseException") = some true)
    (ty_BadOrder : PySem.W.typeIn K (.ref C_BadOrder) = some (.type "type"))
    (ic_BadOrder : PySem.W.isClsIn K C_BadOrder = true)
    (eg_BadOrder : PySem.W.findIn K (.ref C_BadOrder) "__getattribute__" = some (some (.builtin "BaseException.__getattribute__")))
    (ek_BadOrder : PySem.W.findIn K (.ref C_BadOrder) "__getattr__" = some none)
    (ed_BadOrder : PySem.W.hasDictIn K C_BadOrder = true)
    (ea_BadOrder : PySem.W.findIn K (.ref C_BadOrder) "__class__" = some (some (.builtin "object.__class__")))
    (em_BadOrder : PySem.W.mroIn K C_BadOrder (.type "object") = some true)
    (x_BadBundles : PySem.W.nsIn K mainGlobals "BadBundles" = some (some (.ref C_BadBundles)))
    (q_BadBundles : PySem.W.excIn K C_BadBundles [.type "ValueError", .type "Exception", .type "BaseException", .type "object"] "ValueError.__new__" = true)
    (kp_BadBundles : PySem.W.keepIn K (.ref C_BadBundles) = true)
    (sb_BadBundles : PySem.W.subIn K (.ref C_BadBundles) (.type "BaseException") = some true)
    (ty_BadBundles : PySem.W.typeIn K (.ref C_BadBundles) = some (.type "type"))
    (ic_BadBundles : PySem.W.isClsIn K C_BadBundles = true)
    (eg_BadBundles : PySem.W.findIn K (.ref C_BadBundles) "__getattribute__" = some (some (.builtin "BaseException.__getattribute__")))
    (ek_BadBundles : PySem.W.findIn K (.ref C_BadBundles) "__getattr__" = some none)
    (ed_BadBundles : PySem.W.hasDictIn K C_BadBundles = true)
    (ea_BadBundles : PySem.W.findIn K (.ref C_BadBundles) "__class__" = some (some (.builtin "object.__class__")))
    (em_BadBundles : PySem.W.mroIn K C_BadBundles (.type "object") = some true)
    (x_BadParts : PySem.W.nsIn K mainGlobals "BadParts" = some (some (.ref C_BadParts)))
    (q_BadParts : PySem.W.excIn K C_BadParts [.type "ValueError", .type "Exception", .type "BaseException", .type "object"] "ValueError.__new__" = true)
    (kp_BadParts : PySem.W.keepIn K (.ref C_BadParts) = true)
    (sb_BadParts : PySem.W.subIn K (.ref C_BadParts) (.type "BaseException") = some true)
    (ty_BadParts : PySem.W.typeIn K (.ref C_BadParts) = some (.type "type"))
    (ic_BadParts : PySem.W.isClsIn K C_BadParts = true)
    (eg_BadParts : PySem.W.findIn K (.ref C_BadParts) "__getattribute__" = some (some (.builtin "BaseException.__getattribute__")))
    (ek_BadParts : PySem.W.findIn K (.ref C_BadParts) "__getattr__" = some none)
    (ed_BadParts : PySem.W.hasDictIn K C_BadParts = true)
    (ea_BadParts : PySem.W.findIn K (.ref C_BadParts) "__class__" = some (some (.builtin "object.__class__")))
    (em_BadParts : PySem.W.mroIn K C_BadParts (.type "object") = some true)
    (x_BadGoal : PySem.W.nsIn K mainGlobals "BadGoal" = some (some (.ref C_BadGoal)))
    (q_BadGoal : PySem.W.excIn K C_BadGoal [.type "ValueError", .type "Exception", .type "BaseException", .type "object"] "ValueError.__new__" = true)
    (kp_BadGoal : PySem.W.keepIn K (.ref C_BadGoal) = true)
    (sb_BadGoal : PySem.W.subIn K (.ref C_BadGoal) (.type "BaseException") = some true)
    (ty_BadGoal : PySem.W.typeIn K (.ref C_BadGoal) = some (.type "type"))
    (ic_BadGoal : PySem.W.isClsIn K C_BadGoal = true)
    (eg_BadGoal : PySem.W.findIn K (.ref C_BadGoal) "__getattribute__" = some (some (.builtin "BaseException.__getattribute__")))
    (ek_BadGoal : PySem.W.findIn K (.ref C_BadGoal) "__getattr__" = some none)
    (ed_BadGoal : PySem.W.hasDictIn K C_BadGoal = true)
    (ea_BadGoal : PySem.W.findIn K (.ref C_BadGoal) "__class__" = some (some (.builtin "object.__class__")))
    (em_BadGoal : PySem.W.mroIn K C_BadGoal (.type "object") = some true)
    (en : PySem.W.specialIn K (.builtin "object.__class__") "__get__" = some (some (.builtin "getset_descriptor.__get__")))
    (et : PySem.W.takesIn K (.builtin "object.__class__") = some true)
    (s_BoardError_BoardError : PySem.W.subIn K (.ref C_BoardError) (.ref C_BoardError) = some true)
    (s_BoardError_BadOrder : PySem.W.subIn K (.ref C_BoardError) (.ref C_BadOrder) = some false)
    (s_BoardError_BadBundles : PySem.W.subIn K (.ref C_BoardError) (.ref C_BadBundles) = some false)
    (s_BoardError_BadParts : PySem.W.subIn K (.ref C_BoardError) (.ref C_BadParts) = some false)
    (s_BoardError_BadGoal : PySem.W.subIn K (.ref C_BoardError) (.ref C_BadGoal) = some false)
    (s_BadOrder_BoardError : PySem.W.subIn K (.ref C_BadOrder) (.ref C_BoardError) = some true)
    (s_BadOrder_BadOrder : PySem.W.subIn K (.ref C_BadOrder) (.ref C_BadOrder) = some true)
    (s_BadOrder_BadBundles : PySem.W.subIn K (.ref C_BadOrder) (.ref C_BadBundles) = some false)
    (s_BadOrder_BadParts : PySem.W.subIn K (.ref C_BadOrder) (.ref C_BadParts) = some false)
    (s_BadOrder_BadGoal : PySem.W.subIn K (.ref C_BadOrder) (.ref C_BadGoal) = some false)
    (s_BadBundles_BoardError : PySem.W.subIn K (.ref C_BadBundles) (.ref C_BoardError) = some true)
    (s_BadBundles_BadOrder : PySem.W.subIn K (.ref C_BadBundles) (.ref C_BadOrder) = some false)
    (s_BadBundles_BadBundles : PySem.W.subIn K (.ref C_BadBundles) (.ref C_BadBundles) = some true)
    (s_BadBundles_BadParts : PySem.W.subIn K (.ref C_BadBundles) (.ref C_BadParts) = some false)
    (s_BadBundles_BadGoal : PySem.W.subIn K (.ref C_BadBundles) (.ref C_BadGoal) = some false)
    (s_BadParts_BoardError : PySem.W.subIn K (.ref C_BadParts) (.ref C_BoardError) = some true)
    (s_BadParts_BadOrder : PySem.W.subIn K (.ref C_BadParts) (.ref C_BadOrder) = some false)
    (s_BadParts_BadBundles : PySem.W.subIn K (.ref C_BadParts) (.ref C_BadBundles) = some false)
    (s_BadParts_BadParts : PySem.W.subIn K (.ref C_BadParts) (.ref C_BadParts) = some true)
    (s_BadParts_BadGoal : PySem.W.subIn K (.ref C_BadParts) (.ref C_BadGoal) = some false)
    (s_BadGoal_BoardError : PySem.W.subIn K (.ref C_BadGoal) (.ref C_BoardError) = some true)
    (s_BadGoal_BadOrder : PySem.W.subIn K (.ref C_BadGoal) (.ref C_BadOrder) = some false)
    (s_BadGoal_BadBundles : PySem.W.subIn K (.ref C_BadGoal) (.ref C_BadBundles) = some false)
    (s_BadGoal_BadParts : PySem.W.subIn K (.ref C_BadGoal) (.ref C_BadParts) = some false)
    (s_BadGoal_BadGoal : PySem.W.subIn K (.ref C_BadGoal) (.ref C_BadGoal) = some true)
    (b_len : PySem.W.nsIn K mainGlobals "len" = some none)
    (b_abs : PySem.W.nsIn K mainGlobals "abs" = some none)
    (b_int : PySem.W.nsIn K mainGlobals "int" = some none)
    (b_tuple : PySem.W.nsIn K mainGlobals "tuple" = some none)
    (b_list : PySem.W.nsIn K mainGlobals "list" = some none)
    (b_sorted : PySem.W.nsIn K mainGlobals "sorted" = some none)
    (b_sum : PySem.W.nsIn K mainGlobals "sum" = some none)
    (b_min : PySem.W.nsIn K mainGlobals "min" = some none)
    (b_max : PySem.W.nsIn K mainGlobals "max" = some none)
    (b_all : PySem.W.nsIn K mainGlobals "all" = some none)
    (b_any : PySem.W.nsIn K mainGlobals "any" = some none)
    (b_isinstance : PySem.W.nsIn K mainGlobals "isinstance" = some none)
    (b_range : PySem.W.nsIn K mainGlobals "range" = some none)
    (b_enumerate : PySem.W.nsIn K mainGlobals "enumerate" = some none)
    (b_zip : PySem.W.nsIn K mainGlobals "zip" = some none)
    (b_bool : PySem.W.nsIn K mainGlobals "bool" = some none)
    (b_str : PySem.W.nsIn K mainGlobals "str" = some none)
    (b_dict : PySem.W.nsIn K mainGlobals "dict" = some none)
    (b_set : PySem.W.nsIn K mainGlobals "set" = some none)
    (v_MOST_PARTS : ∃ v, RelV v k_MOST_PARTS ∧ scalV (.int 9) = some v) (v_MOST_WIRES : ∃ v, RelV v k_MOST_WIRES ∧ scalV (.int 40) = some v) (v_MOST_WEIGHT : ∃ v, RelV v k_MOST_WEIGHT ∧ scalV (.int 1000) = some v) (v_LENGTH : ∃ v, RelV v k_LENGTH ∧ scalV (.str "length") = some v) (v_CUT : ∃ v, RelV v k_CUT ∧ scalV (.str "cut") = some v) (v_FORM : vs_FORM.size ≤ sizeLine ∧ ∃ vs, Vals vs vs_FORM.toList ∧ ∀ F : Hp, DqAll K F vs [(.str "form")]) :
    ∃ fd : FuncData, (∀ (s : Shared) (u : Value), BindsTo s fd ⟨[u], []⟩ [("script", u)]) ∧ ∀ base : Heap, K.In base → base.Ns mainGlobals mg → FnOk PySem.Challenge.rw_boardwright_k50_whole_best_orders.prog w K mg base (L2.CX PySem.Challenge.rw_boardwright_k50_whole_best_orders.prog w) 20 fa fd ["script"] (spL (EE MM 20 i_law) K) := by
  have e := hfa.symm.trans (PySem.W.mg_of X G0 a29)
  cases e
  have D0 : DefOk K G 40 20 d_is_whole f0 _ := def_mk (st := st 7) (d := d_is_whole) l0 c0 k0 (fun us hl => match us, hl with | [_, _, _], _ => rfl) sc0 ck0
  have D1 : DefOk K G 40 20 d_ascends f1 _ := def_mk (st := st 8) (d := d_ascends) l1 c1 k1 (fun us hl => match us, hl with | [_], _ => rfl) sc1 ck1
  have D2 : DefOk K G 40 20 d_are_parts f2 _ := def_mk (st := st 13) (d := d_are_parts) l2 c2 k2 (fun us hl => match us, hl with | [_, _], _ => rfl) sc2 ck2
  have D3 : DefOk K G 40 20 d_is_wire f3 _ := def_mk (st := st 14) (d := d_is_wire) l3 c3 k3 (fun us hl => match us, hl with | [_, _], _ => rfl) sc3 ck3
  have D4 : DefOk K G 40 20 d_are_bundles f4 _ := def_mk (st := st 15) (d := d_are_bundles) l4 c4 k4 (fun us hl => match us, hl with | [_], _ => rfl) sc4 ck4
  have D5 : DefOk K G 40 20 d_check_bundles f5 _ := def_mk (st := st 16) (d := d_check_bundles) l5 c5 k5 (fun us hl => match us, hl with | [_], _ => rfl) sc5 ck5
  have D6 : DefOk K G 40 20 d_orders_check f6 _ := def_mk (st := st 17) (d := d_orders_check) l6 c6 k6 (fun us hl => match us, hl with | [_, _], _ => rfl) sc6 ck6
  have D7 : DefOk K G 40 20 d_length f7 _ := def_mk (st := st 19) (d := d_length) l7 c7 k7 (fun us hl => match us, hl with | [_, _], _ => rfl) sc7 ck7
  have D8 : DefOk K G 40 20 d_length_of f8 _ := def_mk (st := st 20) (d := d_length_of) l8 c8 k8 (fun us hl => match us, hl with | [_, _], _ => rfl) sc8 ck8
  have D9 : DefOk K G 40 20 d_cut_at f9 _ := def_mk (st := st 21) (d := d_cut_at) l9 c9 k9 (fun us hl => match us, hl with | [_, _], _ => rfl) sc9 ck9
  have D10 : DefOk K G 40 20 d_greatest_cut f10 _ := def_mk (st := st 22) (d := d_greatest_cut) l10 c10 k10 (fun us hl => match us, hl with | [_, _], _ => rfl) sc10 ck10
  have D11 : DefOk K G 40 20 d_cut_of f11 _ := def_mk (st := st 23) (d := d_cut_of) l11 c11 k11 (fun us hl => match us, hl with | [_, _], _ => rfl) sc11 ck11
  have D12 : DefOk K G 40 20 d_bestorders_check f12 _ := def_mk (st := st 28) (d := d_bestorders_check) l12 c12 k12 (fun us hl => match us, hl with | [_, _], _ => rfl) sc12 ck12
  have D13 : DefOk K G 40 20 d_members f13 _ := def_mk (st := st 30) (d := d_members) l13 c13 k13 (fun us hl => match us, hl with | [_, _], _ => rfl) sc13 ck13
  have D14 : DefOk K G 40 20 d_cuts f14 _ := def_mk (st := st 31) (d := d_cuts) l14 c14 k14 (fun us hl => match us, hl with | [_], _ => rfl) sc14 ck14
  have D15 : DefOk K G 40 20 d_together f15 _ := def_mk (st := st 32) (d := d_together) l15 c15 k15 (fun us hl => match us, hl with | [_, _, _], _ => rfl) sc15 ck15
  have D16 : DefOk K G 40 20 d_marks f16 _ := def_mk (st := st 33) (d := d_marks) l16 c16 k16 (fun us hl => match us, hl with | [_, _, _], _ => rfl) sc16 ck16
  have D17 : DefOk K G 40 20 d_behind f17 _ := def_mk (st := st 34) (d := d_behind) l17 c17 k17 (fun us hl => match us, hl with | [_, _, _], _ => rfl) sc17 ck17
  have D18 : DefOk K G 40 20 d_bestorders_first f18 _ := def_mk (st := st 35) (d := d_bestorders_first) l18 c18 k18 (fun us hl => match us, hl with | [_, _, _], _ => rfl) sc18 ck18
  have D19 : DefOk K G 40 20 d_best_order f19 _ := def_mk (st := st 36) (d := d_best_order) l19 c19 k19 (fun us hl => match us, hl with | [_, _], _ => rfl) sc19 ck19
  have D20 : DefOk K G 40 20 d_marks_fault f20 _ := def_mk (st := st 37) (d := d_marks_fault) l20 c20 k20 (fun us hl => match us, hl with | [_, _, _], _ => rfl) sc20 ck20
  have D21 : DefOk K G 40 20 d_law_draws f21 _ := def_mk (st := st 39) (d := d_law_draws) l21 c21 k21 (fun us hl => match us, hl with | [_, _], _ => rfl) sc21 ck21
  have D22 : DefOk K G 40 20 d_law_bundles f22 _ := def_mk (st := st 40) (d := d_law_bundles) l22 c22 k22 (fun us hl => match us, hl with | [_, _, _], _ => rfl) sc22 ck22
  have D23 : DefOk K G 40 20 d_law_length f23 _ := def_mk (st := st 41) (d := d_law_length) l23 c23 k23 (fun us hl => match us, hl with | [_, _], _ => rfl) sc23 ck23
  have D24 : DefOk K G 40 20 d_law_cut f24 _ := def_mk (st := st 42) (d := d_law_cut) l24 c24 k24 (fun us hl => match us, hl with | [_, _], _ => rfl) sc24 ck24
  have D25 : DefOk K G 40 20 d_law_greatest f25 _ := def_mk (st := st 43) (d := d_law_greatest) l25 c25 k25 (fun us hl => match us, hl with | [_, _], _ => rfl) sc25 ck25
  have D26 : DefOk K G 40 20 d_law_orders f26 _ := def_mk (st := st 44) (d := d_law_orders) l26 c26 k26 (fun us hl => match us, hl with | [_], _ => rfl) sc26 ck26
  have D27 : DefOk K G 40 20 d_law_two f27 _ := def_mk (st := st 46) (d := d_law_two) l27 c27 k27 (fun us hl => match us, hl with | [_], _ => rfl) sc27 ck27
  have D28 : DefOk K G 40 20 d_law_holds f28 _ := def_mk (st := st 47) (d := d_law_holds) l28 c28 k28 (fun us hl => match us, hl with | [_, _, _], _ => rfl) sc28 ck28
  have D29 : DefOk K G 40 20 d_law fa _ := def_mk (st := st 48) (d := d_law) l29 c29 k29 (fun us hl => match us, hl with | [_], _ => rfl) sc29 ck29
  have M0 : ModOk K mg G (cls [("BoardError", C_BoardError), ("BadOrder", C_BadOrder), ("BadBundles", C_BadBundles), ("BadParts", C_BadParts), ("BadGoal", C_BadGoal)]) sub 40 20 (T ++ MM.R) := by
    refine ⟨fun e he => ?_, fun x hx => ?_, fun e he => ?_, fun c x b hb => ?_, fun x hx => ?_⟩
    · simp only [G, List.mem_cons, List.not_mem_nil, or_false] at he
      rcases he with rfl | rfl | rfl | rfl | rfl | rfl | rfl | rfl | rfl | rfl | rfl | rfl | rfl | rfl | rfl | rfl | rfl | rfl | rfl | rfl | rfl | rfl | rfl | rfl | rfl | rfl | rfl | rfl | rfl | rfl
      · exact ⟨d_is_whole, f0, _, rfl, D0, PySem.W.mg_of X G0 a0, rfl⟩
      · exact ⟨d_ascends, f1, _, rfl, D1, PySem.W.mg_of X G0 a1, rfl⟩
      · exact ⟨d_are_parts, f2, _, rfl, D2, PySem.W.mg_of X G0 a2, rfl⟩
      · exact ⟨d_is_wire, f3, _, rfl, D3, PySem.W.mg_of X G0 a3, rfl⟩
      · exact ⟨d_are_bundles, f4, _, rfl, D4, PySem.W.mg_of X G0 a4, rfl⟩
      · exact ⟨d_check_bundles, f5, _, rfl, D5, PySem.W.mg_of X G0 a5, rfl⟩
      · exact ⟨d_orders_check, f6, _, rfl, D6, PySem.W.mg_of X G0 a6, rfl⟩
      · exact ⟨d_length, f7, _, rfl, D7, PySem.W.mg_of X G0 a7, rfl⟩
      · exact ⟨d_length_of, f8, _, rfl, D8, PySem.W.mg_of X G0 a8, rfl⟩
      · exact ⟨d_cut_at, f9, _, rfl, D9, PySem.W.mg_of X G0 a9, rfl⟩
      · exact ⟨d_greatest_cut, f10, _, rfl, D10, PySem.W.mg_of X G0 a10, rfl⟩
      · exact ⟨d_cut_of, f11, _, rfl, D11, PySem.W.mg_of X G0 a11, rfl⟩
      · exact ⟨d_bestorders_check, f12, _, rfl, D12, PySem.W.mg_of X G0 a12, rfl⟩
      · exact ⟨d_members, f13, _, rfl, D13, PySem.W.mg_of X G0 a13, rfl⟩
      · exact ⟨d_cuts, f14, _, rfl, D14, PySem.W.mg_of X G0 a14, rfl⟩
      · exact ⟨d_together, f15, _, rfl, D15, PySem.W.mg_of X G0 a15, rfl⟩
      · exact ⟨d_marks, f16, _, rfl, D16, PySem.W.mg_of X G0 a16, rfl⟩
      · exact ⟨d_behind, f17, _, rfl, D17, PySem.W.mg_of X G0 a17, rfl⟩
      · exact ⟨d_bestorders_first, f18, _, rfl, D18, PySem.W.mg_of X G0 a18, rfl⟩
      · exact ⟨d_best_order, f19, _, rfl, D19, PySem.W.mg_of X G0 a19, rfl⟩
      · exact ⟨d_marks_fault, f20, _, rfl, D20, PySem.W.mg_of X G0 a20, rfl⟩
      · exact ⟨d_law_draws, f21, _, rfl, D21, PySem.W.mg_of X G0 a21, rfl⟩
      · exact ⟨d_law_bundles, f22, _, rfl, D22, PySem.W.mg_of X G0 a22, rfl⟩
      · exact ⟨d_law_length, f23, _, rfl, D23, PySem.W.mg_of X G0 a23, rfl⟩
      · exact ⟨d_law_cut, f24, _, rfl, D24, PySem.W.mg_of X G0 a24, rfl⟩
      · exact ⟨d_law_greatest, f25, _, rfl, D25, PySem.W.mg_of X G0 a25, rfl⟩
      · exact ⟨d_law_orders, f26, _, rfl, D26, PySem.W.mg_of X G0 a26, rfl⟩
      · exact ⟨d_law_two, f27, _, rfl, D27, PySem.W.mg_of X G0 a27, rfl⟩
      · exact ⟨d_law_holds, f28, _, rfl, D28, PySem.W.mg_of X G0 a28, rfl⟩
      · exact ⟨d_law, fa, _, rfl, D29, PySem.W.mg_of X G0 a29, rfl⟩
    · simp only [biNames, List.mem_cons, List.not_mem_nil, or_false] at hx
      rcases hx with rfl | rfl | rfl | rfl | rfl | rfl | rfl | rfl | rfl | rfl | rfl | rfl | rfl | rfl | rfl | rfl | rfl | rfl | rfl
      · exact PySem.W.mg_none_of X G0 b_len
      · exact PySem.W.mg_none_of X G0 b_abs
      · exact PySem.W.mg_none_of X G0 b_int
      · exact PySem.W.mg_none_of X G0 b_tuple
      · exact PySem.W.mg_none_of X G0 b_list
      · exact PySem.W.mg_none_of X G0 b_sorted
      · exact PySem.W.mg_none_of X G0 b_sum
      · exact PySem.W.mg_none_of X G0 b_min
      · exact PySem.W.mg_none_of X G0 b_max
      · exact PySem.W.mg_none_of X G0 b_all
      · exact PySem.W.mg_none_of X G0 b_any
      · exact PySem.W.mg_none_of X G0 b_isinstance
      · exact PySem.W.mg_none_of X G0 b_range
      · exact PySem.W.mg_none_of X G0 b_enumerate
      · exact PySem.W.mg_none_of X G0 b_zip
      · exact PySem.W.mg_none_of X G0 b_bool
      · exact PySem.W.mg_none_of X G0 b_str
      · exact PySem.W.mg_none_of X G0 b_dict
      · exact PySem.W.mg_none_of X G0 b_set
    · simp only [G, List.mem_cons, List.not_mem_nil, or_false] at he
      rcases he with rfl | rfl | rfl | rfl | rfl | rfl
      · obtain ⟨v, h1, h2⟩ := v_MOST_PARTS
        exact ⟨v, k_MOST_PARTS, PySem.W.mg_of X G0 n_MOST_PARTS, h1, fun _ => scalV_q h2⟩
      · obtain ⟨v, h1, h2⟩ := v_MOST_WIRES
        exact ⟨v, k_MOST_WIRES, PySem.W.mg_of X G0 n_MOST_WIRES, h1, fun _ => scalV_q h2⟩
      · obtain ⟨v, h1, h2⟩ := v_MOST_WEIGHT
        exact ⟨v, k_MOST_WEIGHT, PySem.W.mg_of X G0 n_MOST_WEIGHT, h1, fun _ => scalV_q h2⟩
      · obtain ⟨v, h1, h2⟩ := v_LENGTH
        exact ⟨v, k_LENGTH, PySem.W.mg_of X G0 n_LENGTH, h1, fun _ => scalV_q h2⟩
      · obtain ⟨v, h1, h2⟩ := v_CUT
        exact ⟨v, k_CUT, PySem.W.mg_of X G0 n_CUT, h1, fun _ => scalV_q h2⟩
      · obtain ⟨h0, vs, h1, h2⟩ := v_FORM
        exact ⟨.ref t_FORM, .ref t_FORM, PySem.W.mg_of X G0 n__FORM, rfl, fun F => .tup (.inr ⟨_, vs_FORM, n_FORM, l__FORM, rfl, rfl, rfl, h0, h1⟩) (h2 F)⟩
    · unfold sub at hb
      by_cases e_BoardError : c = "BoardError"
      · rw [if_pos e_BoardError] at hb
        subst e_BoardError
        by_cases z_BoardError : x = "BoardError"
        · rw [if_pos z_BoardError] at hb
          cases hb
          subst z_BoardError
          obtain ⟨g1, g2⟩ := exm_by sb_BoardError ic_BoardError ty_BoardError s_BoardError_BoardError (fun _ => rfl)
          exact ⟨g1, g2, C_BoardError, rfl, ⟨eg_BoardError, ek_BoardError, sb_BoardError, ed_BoardError, ea_BoardError, en, et, em_BoardError⟩⟩
        rw [if_neg z_BoardError] at hb
        by_cases z_BadOrder : x = "BadOrder"
        · rw [if_pos z_BadOrder] at hb
          cases hb
          subst z_BadOrder
          obtain ⟨g1, g2⟩ := exm_by sb_BadOrder ic_BadOrder ty_BadOrder s_BoardError_BadOrder (fun z => by subst z; rw [s_BoardError_BoardError] at s_BoardError_BadOrder; cases s_BoardError_BadOrder)
          exact ⟨g1, g2, C_BoardError, rfl, ⟨eg_BoardError, ek_BoardError, sb_BoardError, ed_BoardError, ea_BoardError, en, et, em_BoardError⟩⟩
        rw [if_neg z_BadOrder] at hb
        by_cases z_BadBundles : x = "BadBundles"
        · rw [if_pos z_BadBundles] at hb
          cases hb
          subst z_BadBundles
          obtain ⟨g1, g2⟩ := exm_by sb_BadBundles ic_BadBundles ty_BadBundles s_BoardError_BadBundles (fun z => by subst z; rw [s_BoardError_BoardError] at s_BoardError_BadBundles; cases s_BoardError_BadBundles)
          exact ⟨g1, g2, C_BoardError, rfl, ⟨eg_BoardError, ek_BoardError, sb_BoardError, ed_BoardError, ea_BoardError, en, et, em_BoardError⟩⟩
        rw [if_neg z_BadBundles] at hb
        by_cases z_BadParts : x = "BadParts"
        · rw [if_pos z_BadParts] at hb
          cases hb
          subst z_BadParts
          obtain ⟨g1, g2⟩ := exm_by sb_BadParts ic_BadParts ty_BadParts s_BoardError_BadParts (fun z => by subst z; rw [s_BoardError_BoardError] at s_BoardError_BadParts; cases s_BoardError_BadParts)
          exact ⟨g1, g2, C_BoardError, rfl, ⟨eg_BoardError, ek_BoardError, sb_BoardError, ed_BoardError, ea_BoardError, en, et, em_BoardError⟩⟩
        rw [if_neg z_BadParts] at hb
        by_cases z_BadGoal : x = "BadGoal"
        · rw [if_pos z_BadGoal] at hb
          cases hb
          subst z_BadGoal
          obtain ⟨g1, g2⟩ := exm_by sb_BadGoal ic_BadGoal ty_BadGoal s_BoardError_BadGoal (fun z => by subst z; rw [s_BoardError_BoardError] at s_BoardError_BadGoal; cases s_BoardError_BadGoal)
          exact ⟨g1, g2, C_BoardError, rfl, ⟨eg_BoardError, ek_BoardError, sb_BoardError, ed_BoardError, ea_BoardError, en, et, em_BoardError⟩⟩
        rw [if_neg z_BadGoal] at hb
        cases hb
      rw [if_neg e_BoardError] at hb
      by_cases e_BadOrder : c = "BadOrder"
      · rw [if_pos e_BadOrder] at hb
        subst e_BadOrder
        by_cases z_BoardError : x = "BoardError"
        · rw [if_pos z_BoardError] at hb
          cases hb
          subst z_BoardError
          obtain ⟨g1, g2⟩ := exm_by sb_BoardError ic_BoardError ty_BoardError s_BadOrder_BoardError (fun _ => rfl)
          exact ⟨g1, g2, C_BadOrder, rfl, ⟨eg_BadOrder, ek_BadOrder, sb_BadOrder, ed_BadOrder, ea_BadOrder, en, et, em_BadOrder⟩⟩
        rw [if_neg z_BoardError] at hb
        by_cases z_BadOrder : x = "BadOrder"
        · rw [if_pos z_BadOrder] at hb
          cases hb
          subst z_BadOrder
          obtain ⟨g1, g2⟩ := exm_by sb_BadOrder ic_BadOrder ty_BadOrder s_BadOrder_BadOrder (fun _ => rfl)
          exact ⟨g1, g2, C_BadOrder, rfl, ⟨eg_BadOrder, ek_BadOrder, sb_BadOrder, ed_BadOrder, ea_BadOrder, en, et, em_BadOrder⟩⟩
        rw [if_neg z_BadOrder] at hb
        by_cases z_BadBundles : x = "BadBundles"
        · rw [if_pos z_BadBundles] at hb
          cases hb
          subst z_BadBundles
          obtain ⟨g1, g2⟩ := exm_by sb_BadBundles ic_BadBundles ty_BadBundles s_BadOrder_BadBundles (fun z => by subst z; rw [s_BadOrder_BadOrder] at s_BadOrder_BadBundles; cases s_BadOrder_BadBundles)
          exact ⟨g1, g2, C_BadOrder, rfl, ⟨eg_BadOrder, ek_BadOrder, sb_BadOrder, ed_BadOrder, ea_BadOrder, en, et, em_BadOrder⟩⟩
        rw [if_neg z_BadBundles] at hb
        by_cases z_BadParts : x = "BadParts"
        · rw [if_pos z_BadParts] at hb
          cases hb
          subst z_BadParts
          obtain ⟨g1, g2⟩ := exm_by sb_BadParts ic_BadParts ty_BadParts s_BadOrder_BadParts (fun z => by subst z; rw [s_BadOrder_BadOrder] at s_BadOrder_BadParts; cases s_BadOrder_BadParts)
          exact ⟨g1, g2, C_BadOrder, rfl, ⟨eg_BadOrder, ek_BadOrder, sb_BadOrder, ed_BadOrder, ea_BadOrder, en, et, em_BadOrder⟩⟩
        rw [if_neg z_BadParts] at hb
        by_cases z_BadGoal : x = "BadGoal"
        · rw [if_pos z_BadGoal] at hb
          cases hb
          subst z_BadGoal
          obtain ⟨g1, g2⟩ := exm_by sb_BadGoal ic_BadGoal ty_BadGoal s_BadOrder_BadGoal (fun z => by subst z; rw [s_BadOrder_BadOrder] at s_BadOrder_BadGoal; cases s_BadOrder_BadGoal)
          exact ⟨g1, g2, C_BadOrder, rfl, ⟨eg_BadOrder, ek_BadOrder, sb_BadOrder, ed_BadOrder, ea_BadOrder, en, et, em_BadOrder⟩⟩
        rw [if_neg z_BadGoal] at hb
        cases hb
      rw [if_neg e_BadOrder] at hb
      by_cases e_BadBundles : c = "BadBundles"
      · rw [if_pos e_BadBundles] at hb
        subst e_BadBundles
        by_cases z_BoardError : x = "BoardError"
        · rw [if_pos z_BoardError] at hb
          cases hb
          subst z_BoardError
          obtain ⟨g1, g2⟩ := exm_by sb_BoardError ic_BoardError ty_BoardError s_BadBundles_BoardError (fun _ => rfl)
          exact ⟨g1, g2, C_BadBundles, rfl, ⟨eg_BadBundles, ek_BadBundles, sb_BadBundles, ed_BadBundles, ea_BadBundles, en, et, em_BadBundles⟩⟩
        rw [if_neg z_BoardError] at hb
        by_cases z_BadOrder : x = "BadOrder"
        · rw [if_pos z_BadOrder] at hb
          cases hb
          subst z_BadOrder
          obtain ⟨g1, g2⟩ := exm_by sb_BadOrder ic_BadOrder ty_BadOrder s_BadBundles_BadOrder (fun z => by subst z; rw [s_BadBundles_BadBundles] at s_BadBundles_BadOrder; cases s_BadBundles_BadOrder)
          exact ⟨g1, g2, C_BadBundles, rfl, ⟨eg_BadBundles, ek_BadBundles, sb_BadBundles, ed_BadBundles, ea_BadBundles, en, et, em_BadBundles⟩⟩
        rw [if_neg z_BadOrder] at hb
        by_cases z_BadBundles : x = "BadBundles"
        · rw [if_pos z_BadBundles] at hb
          cases hb
          subst z_BadBundles
          obtain ⟨g1, g2⟩ := exm_by sb_BadBundles ic_BadBundles ty_BadBundles s_BadBundles_BadBundles (fun _ => rfl)
          exact ⟨g1, g2, C_BadBundles, rfl, ⟨eg_BadBundles, ek_BadBundles, sb_BadBundles, ed_BadBundles, ea_BadBundles, en, et, em_BadBundles⟩⟩
        rw [if_neg z_BadBundles] at hb
        by_cases z_BadParts : x = "BadParts"
        · rw [if_pos z_BadParts] at hb
          cases hb
          subst z_BadParts
          obtain ⟨g1, g2⟩ := exm_by sb_BadParts ic_BadParts ty_BadParts s_BadBundles_BadParts (fun z => by subst z; rw [s_BadBundles_BadBundles] at s_BadBundles_BadParts; cases s_BadBundles_BadParts)
          exact ⟨g1, g2, C_BadBundles, rfl, ⟨eg_BadBundles, ek_BadBundles, sb_BadBundles, ed_BadBundles, ea_BadBundles, en, et, em_BadBundles⟩⟩
        rw [if_neg z_BadParts] at hb
        by_cases z_BadGoal : x = "BadGoal"
        · rw [if_pos z_BadGoal] at hb
          cases hb
          subst z_BadGoal
          obtain ⟨g1, g2⟩ := exm_by sb_BadGoal ic_BadGoal ty_BadGoal s_BadBundles_BadGoal (fun z => by subst z; rw [s_BadBundles_BadBundles] at s_BadBundles_BadGoal; cases s_BadBundles_BadGoal)
          exact ⟨g1, g2, C_BadBundles, rfl, ⟨eg_BadBundles, ek_BadBundles, sb_BadBundles, ed_BadBundles, ea_BadBundles, en, et, em_BadBundles⟩⟩
        rw [if_neg z_BadGoal] at hb
        cases hb
      rw [if_neg e_BadBundles] at hb
      by_cases e_BadParts : c = "BadParts"
      · rw [if_pos e_BadParts] at hb
        subst e_BadParts
        by_cases z_BoardError : x = "BoardError"
        · rw [if_pos z_BoardError] at hb
          cases hb
          subst z_BoardError
          obtain ⟨g1, g2⟩ := exm_by sb_BoardError ic_BoardError ty_BoardError s_BadParts_BoardError (fun _ => rfl)
          exact ⟨g1, g2, C_BadParts, rfl, ⟨eg_BadParts, ek_BadParts, sb_BadParts, ed_BadParts, ea_BadParts, en, et, em_BadParts⟩⟩
        rw [if_neg z_BoardError] at hb
        by_cases z_BadOrder : x = "BadOrder"
        · rw [if_pos z_BadOrder] at hb
          cases hb
          subst z_BadOrder
          obtain ⟨g1, g2⟩ := exm_by sb_BadOrder ic_BadOrder ty_BadOrder s_BadParts_BadOrder (fun z => by subst z; rw [s_BadParts_BadParts] at s_BadParts_BadOrder; cases s_BadParts_BadOrder)
          exact ⟨g1, g2, C_BadParts, rfl, ⟨eg_BadParts, ek_BadParts, sb_BadParts, ed_BadParts, ea_BadParts, en, et, em_BadParts⟩⟩
        rw [if_neg z_BadOrder] at hb
        by_cases z_BadBundles : x = "BadBundles"
        · rw [if_pos z_BadBundles] at hb
          cases hb
          subst z_BadBundles
          obtain ⟨g1, g2⟩ := exm_by sb_BadBundles ic_BadBundles ty_BadBundles s_BadParts_BadBundles (fun z => by subst z; rw [s_BadParts_BadParts] at s_BadParts_BadBundles; cases s_BadParts_BadBundles)
          exact ⟨g1, g2, C_BadParts, rfl, ⟨eg_BadParts, ek_BadParts, sb_BadParts, ed_BadParts, ea_BadParts, en, et, em_BadParts⟩⟩
        rw [if_neg z_BadBundles] at hb
        by_cases z_BadParts : x = "BadParts"
        · rw [if_pos z_BadParts] at hb
          cases hb
          subst z_BadParts
          obtain ⟨g1, g2⟩ := exm_by sb_BadParts ic_BadParts ty_BadParts s_BadParts_BadParts (fun _ => rfl)
          exact ⟨g1, g2, C_BadParts, rfl, ⟨eg_BadParts, ek_BadParts, sb_BadParts, ed_BadParts, ea_BadParts, en, et, em_BadParts⟩⟩
        rw [if_neg z_BadParts] at hb
        by_cases z_BadGoal : x = "BadGoal"
        · rw [if_pos z_BadGoal] at hb
          cases hb
          subst z_BadGoal
          obtain ⟨g1, g2⟩ := exm_by sb_BadGoal ic_BadGoal ty_BadGoal s_BadParts_BadGoal (fun z => by subst z; rw [s_BadParts_BadParts] at s_BadParts_BadGoal; cases s_BadParts_BadGoal)
          exact ⟨g1, g2, C_BadParts, rfl, ⟨eg_BadParts, ek_BadParts, sb_BadParts, ed_BadParts, ea_BadParts, en, et, em_BadParts⟩⟩
        rw [if_neg z_BadGoal] at hb
        cases hb
      rw [if_neg e_BadParts] at hb
      by_cases e_BadGoal : c = "BadGoal"
      · rw [if_pos e_BadGoal] at hb
        subst e_BadGoal
        by_cases z_BoardError : x = "BoardError"
        · rw [if_pos z_BoardError] at hb
          cases hb
          subst z_BoardError
          obtain ⟨g1, g2⟩ := exm_by sb_BoardError ic_BoardError ty_BoardError s_BadGoal_BoardError (fun _ => rfl)
          exact ⟨g1, g2, C_BadGoal, rfl, ⟨eg_BadGoal, ek_BadGoal, sb_BadGoal, ed_BadGoal, ea_BadGoal, en, et, em_BadGoal⟩⟩
        rw [if_neg z_BoardError] at hb
        by_cases z_BadOrder : x = "BadOrder"
        · rw [if_pos z_BadOrder] at hb
          cases hb
          subst z_BadOrder
          obtain ⟨g1, g2⟩ := exm_by sb_BadOrder ic_BadOrder ty_BadOrder s_BadGoal_BadOrder (fun z => by subst z; rw [s_BadGoal_BadGoal] at s_BadGoal_BadOrder; cases s_BadGoal_BadOrder)
          exact ⟨g1, g2, C_BadGoal, rfl, ⟨eg_BadGoal, ek_BadGoal, sb_BadGoal, ed_BadGoal, ea_BadGoal, en, et, em_BadGoal⟩⟩
        rw [if_neg z_BadOrder] at hb
        by_cases z_BadBundles : x = "BadBundles"
        · rw [if_pos z_BadBundles] at hb
          cases hb
          subst z_BadBundles
          obtain ⟨g1, g2⟩ := exm_by sb_BadBundles ic_BadBundles ty_BadBundles s_BadGoal_BadBundles (fun z => by subst z; rw [s_BadGoal_BadGoal] at s_BadGoal_BadBundles; cases s_BadGoal_BadBundles)
          exact ⟨g1, g2, C_BadGoal, rfl, ⟨eg_BadGoal, ek_BadGoal, sb_BadGoal, ed_BadGoal, ea_BadGoal, en, et, em_BadGoal⟩⟩
        rw [if_neg z_BadBundles] at hb
        by_cases z_BadParts : x = "BadParts"
        · rw [if_pos z_BadParts] at hb
          cases hb
          subst z_BadParts
          obtain ⟨g1, g2⟩ := exm_by sb_BadParts ic_BadParts ty_BadParts s_BadGoal_BadParts (fun z => by subst z; rw [s_BadGoal_BadGoal] at s_BadGoal_BadParts; cases s_BadGoal_BadParts)
          exact ⟨g1, g2, C_BadGoal, rfl, ⟨eg_BadGoal, ek_BadGoal, sb_BadGoal, ed_BadGoal, ea_BadGoal, en, et, em_BadGoal⟩⟩
        rw [if_neg z_BadParts] at hb
        by_cases z_BadGoal : x = "BadGoal"
        · rw [if_pos z_BadGoal] at hb
          cases hb
          subst z_BadGoal
          obtain ⟨g1, g2⟩ := exm_by sb_BadGoal ic_BadGoal ty_BadGoal s_BadGoal_BadGoal (fun _ => rfl)
          exact ⟨g1, g2, C_BadGoal, rfl, ⟨eg_BadGoal, ek_BadGoal, sb_BadGoal, ed_BadGoal, ea_BadGoal, en, et, em_BadGoal⟩⟩
        rw [if_neg z_BadGoal] at hb
        cases hb
      rw [if_neg e_BadGoal] at hb
      cases hb
    · simp only [G, List.mem_cons, List.not_mem_nil, or_false] at hx
      rcases hx with rfl | rfl | rfl | rfl | rfl
      · exact ⟨⟨C_BoardError, _, _, _, _, rfl, PySem.F.excBase_ValueError, q_BoardError, PySem.W.mg_of X G0 x_BoardError, kp_BoardError, sb_BoardError, ty_BoardError⟩⟩
      · exact ⟨⟨C_BadOrder, _, _, _, _, rfl, PySem.F.excBase_ValueError, q_BadOrder, PySem.W.mg_of X G0 x_BadOrder, kp_BadOrder, sb_BadOrder, ty_BadOrder⟩⟩
      · exact ⟨⟨C_BadBundles, _, _, _, _, rfl, PySem.F.excBase_ValueError, q_BadBundles, PySem.W.mg_of X G0 x_BadBundles, kp_BadBundles, sb_BadBundles, ty_BadBundles⟩⟩
      · exact ⟨⟨C_BadParts, _, _, _, _, rfl, PySem.F.excBase_ValueError, q_BadParts, PySem.W.mg_of X G0 x_BadParts, kp_BadParts, sb_BadParts, ty_BadParts⟩⟩
      · exact ⟨⟨C_BadGoal, _, _, _, _, rfl, PySem.F.excBase_ValueError, q_BadGoal, PySem.W.mg_of X G0 x_BadGoal, kp_BadGoal, sb_BadGoal, ty_BadGoal⟩⟩
  exact ⟨_, fun s v => .of_eq rfl, fun base _ _ => spL_of rfl ((all_fn M0 20).1 i_law d_law fa _ rfl D29)⟩
end Ord.K50
open PySem PySem.W PyProof.Rows
set_option maxRecDepth 100000 in
set_option maxHeartbeats 0 in
theorem PySem.Challenge.cw_boardwright_k50_whole_best_orders_holds : PySem.Challenge.rw_boardwright_k50_whole_best_orders.Holds := by
  w_on; o_law; k_head; (case hw => w_witness2)
  k_fill
  refine BW.bw_walk (l := PySem.Challenge.rw_boardwright_k50_whole_best_orders) (x := "script") (k := 20) Ord.K50.the_law rfl rfl ⟨rfl, by decide, by decide⟩ (fun w h Y => PySem.W.kIn_of Y) ?F
  case F =>
    intro w mg fa h KX G0 hmg
    refine' Ord.K50.all_mk KX G0 hmg ?a0 ?l0 ?c0 ?k0 ?a1 ?l1 ?c1 ?k1 ?a2 ?l2 ?c2 ?k2 ?a3 ?l3 ?c3 ?k3 ?a4 ?l4 ?c4 ?k4 ?a5 ?l5 ?c5 ?k5 ?a6 ?l6 ?c6 ?k6 ?a7 ?l7 ?c7 ?k7 ?a8 ?l8 ?c8 ?k8 ?a9 ?l9 ?c9 ?k9 ?a10 ?l10 ?c10 ?k10 ?a11 ?l11 ?c11 ?k11 ?a12 ?l12 ?c12 ?k12 ?a13 ?l13 ?c13 ?k13 ?a14 ?l14 ?c14 ?k14 ?a15 ?l15 ?c15 ?k15 ?a16 ?l16 ?c16 ?k16 ?a17 ?l17 ?c17 ?k17 ?a18 ?l18 ?c18 ?k18 ?a19 ?l19 ?c19 ?k19 ?a20 ?l20 ?c20 ?k20 ?a21 ?l21 ?c21 ?k21 ?a22 ?l22 ?c22 ?k22 ?a23 ?l23 ?c23 ?k23 ?a24 ?l24 ?c24 ?k24 ?a25 ?l25 ?c25 ?k25 ?a26 ?l26 ?c26 ?k26 ?a27 ?l27 ?c27 ?k27 ?a28 ?l28 ?c28 ?k28 ?a29 ?l29 ?c29 ?k29 ?n_MOST_PARTS ?n_MOST_WIRES ?n_MOST_WEIGHT ?n_LENGTH ?n_CUT ?n__FORM ?l__FORM ?x_BoardError ?q_BoardError ?kp_BoardError ?sb_BoardError ?ty_BoardError ?ic_BoardError ?eg_BoardError ?ek_BoardError ?ed_BoardError ?ea_BoardError ?em_BoardError ?x_BadOrder ?q_BadOrder ?kp_BadOrder ?sb_BadOrder ?ty_BadOrder ?ic_BadOrder ?eg_BadOrder ?ek_BadOrder ?ed_BadOrder ?ea_BadOrder ?em_BadOrder ?x_BadBundles ?q_BadBundles ?kp_BadBundles ?sb_BadBundles ?ty_BadBundles ?ic_BadBundles ?eg_BadBundles ?ek_BadBundles ?ed_BadBundles ?ea_BadBundles ?em_BadBundles ?x_BadParts ?q_BadParts ?kp_BadParts ?sb_BadParts ?ty_BadParts ?ic_BadParts ?eg_BadParts ?ek_BadParts ?ed_BadParts ?ea_BadParts ?em_BadParts ?x_BadGoal ?q_BadGoal ?kp_BadGoal ?sb_BadGoal ?ty_BadGoal ?ic_BadGoal ?eg_BadGoal ?ek_BadGoal ?ed_BadGoal ?ea_BadGoal ?em_BadGoal ?en ?et ?s_BoardError_BoardError ?s_BoardError_BadOrder ?s_BoardError_BadBundles ?s_BoardError_BadParts ?s_BoardError_BadGoal ?s_BadOrder_BoardError ?s_BadOrder_BadOrder ?s_BadOrder_BadBundles ?s_BadOrder_BadParts ?s_BadOrder_BadGoal ?s_BadBundles_BoardError ?s_BadBundles_BadOrder ?s_BadBundles_BadBundles ?s_BadBundles_BadParts ?s_BadBundles_BadGoal ?s_BadParts_BoardError ?s_BadParts_BadOrder ?s_BadParts_BadBundles ?s_BadParts_BadParts ?s_BadParts_BadGoal ?s_BadGoal_BoardError ?s_BadGoal_BadOrder ?s_BadGoal_BadBundles ?s_BadGoal_BadParts ?s_BadGoal_BadGoal ?b_len ?b_abs ?b_int ?b_tuple ?b_list ?b_sorted ?b_sum ?b_min ?b_max ?b_all ?b_any ?b_isinstance ?b_range ?b_enumerate ?b_zip ?b_bool ?b_str ?b_dict ?b_set ?v_MOST_PARTS ?v_MOST_WIRES ?v_MOST_WEIGHT ?v_LENGTH ?v_CUT ?v_FORM
    (case a0 => k_is)
    (case l0 => k_is)
    (case c0 => k_is)
    (case k0 => k_is)
    (case a1 => k_is)
    (case l1 => k_is)
    (case c1 => k_is)
    (case k1 => k_is)
    (case a2 => k_is)
    (case l2 => k_is)
    (case c2 => k_is)
    (case k2 => k_is)
    (case a3 => k_is)
    (case l3 => k_is)
    (case c3 => k_is)
    (case k3 => k_is)
    (case a4 => k_is)
    (case l4 => k_is)
    (case c4 => k_is)
    (case k4 => k_is)
    (case a5 => k_is)
    (case l5 => k_is)
    (case c5 => k_is)
    (case k5 => k_is)
    (case a6 => k_is)
    (case l6 => k_is)
    (case c6 => k_is)
    (case k6 => k_is)
    (case a7 => k_is)
    (case l7 => k_is)
    (case c7 => k_is)
    (case k7 => k_is)
    (case a8 => k_is)
    (case l8 => k_is)
    (case c8 => k_is)
    (case k8 => k_is)
    (case a9 => k_is)
    (case l9 => k_is)
    (case c9 => k_is)
    (case k9 => k_is)
    (case a10 => k_is)
    (case l10 => k_is)
    (case c10 => k_is)
    (case k10 => k_is)
    (case a11 => k_is)
    (case l11 => k_is)
    (case c11 => k_is)
    (case k11 => k_is)
    (case a12 => k_is)
    (case l12 => k_is)
    (case c12 => k_is)
    (case k12 => k_is)
    (case a13 => k_is)
    (case l13 => k_is)
    (case c13 => k_is)
    (case k13 => k_is)
    (case a14 => k_is)
    (case l14 => k_is)
    (case c14 => k_is)
    (case k14 => k_is)
    (case a15 => k_is)
    (case l15 => k_is)
    (case c15 => k_is)
    (case k15 => k_is)
    (case a16 => k_is)
    (case l16 => k_is)
    (case c16 => k_is)
    (case k16 => k_is)
    (case a17 => k_is)
    (case l17 => k_is)
    (case c17 => k_is)
    (case k17 => k_is)
    (case a18 => k_is)
    (case l18 => k_is)
    (case c18 => k_is)
    (case k18 => k_is)
    (case a19 => k_is)
    (case l19 => k_is)
    (case c19 => k_is)
    (case k19 => k_is)
    (case a20 => k_is)
    (case l20 => k_is)
    (case c20 => k_is)
    (case k20 => k_is)
    (case a21 => k_is)
    (case l21 => k_is)
    (case c21 => k_is)
    (case k21 => k_is)
    (case a22 => k_is)
    (case l22 => k_is)
    (case c22 => k_is)
    (case k22 => k_is)
    (case a23 => k_is)
    (case l23 => k_is)
    (case c23 => k_is)
    (case k23 => k_is)
    (case a24 => k_is)
    (case l24 => k_is)
    (case c24 => k_is)
    (case k24 => k_is)
    (case a25 => k_is)
    (case l25 => k_is)
    (case c25 => k_is)
    (case k25 => k_is)
    (case a26 => k_is)
    (case l26 => k_is)
    (case c26 => k_is)
    (case k26 => k_is)
    (case a27 => k_is)
    (case l27 => k_is)
    (case c27 => k_is)
    (case k27 => k_is)
    (case a28 => k_is)
    (case l28 => k_is)
    (case c28 => k_is)
    (case k28 => k_is)
    (case a29 => k_is)
    (case l29 => k_is)
    (case c29 => k_is)
    (case k29 => k_is)
    (case n_MOST_PARTS => k_is)
    (case n_MOST_WIRES => k_is)
    (case n_MOST_WEIGHT => k_is)
    (case n_LENGTH => k_is)
    (case n_CUT => k_is)
    (case n__FORM => k_is)
    (case l__FORM => k_is)
    (case x_BoardError => k_is)
    (case q_BoardError => k_exc)
    (case kp_BoardError => k_is)
    (case sb_BoardError => k_is)
    (case ty_BoardError => k_is)
    (case ic_BoardError => k_is)
    (case eg_BoardError => k_is)
    (case ek_BoardError => k_is)
    (case ed_BoardError => k_is)
    (case ea_BoardError => k_is)
    (case em_BoardError => k_is)
    (case x_BadOrder => k_is)
    (case q_BadOrder => k_exc)
    (case kp_BadOrder => k_is)
    (case sb_BadOrder => k_is)
    (case ty_BadOrder => k_is)
    (case ic_BadOrder => k_is)
    (case eg_BadOrder => k_is)
    (case ek_BadOrder => k_is)
    (case ed_BadOrder => k_is)
    (case ea_BadOrder => k_is)
    (case em_BadOrder => k_is)
    (case x_BadBundles => k_is)
    (case q_BadBundles => k_exc)
    (case kp_BadBundles => k_is)
    (case sb_BadBundles => k_is)
    (case ty_BadBundles => k_is)
    (case ic_BadBundles => k_is)
    (case eg_BadBundles => k_is)
    (case ek_BadBundles => k_is)
    (case ed_BadBundles => k_is)
    (case ea_BadBundles => k_is)
    (case em_BadBundles => k_is)
    (case x_BadParts => k_is)
    (case q_BadParts => k_exc)
    (case kp_BadParts => k_is)
    (case sb_BadParts => k_is)
    (case ty_BadParts => k_is)
    (case ic_BadParts => k_is)
    (case eg_BadParts => k_is)
    (case ek_BadParts => k_is)
    (case ed_BadParts => k_is)
    (case ea_BadParts => k_is)
    (case em_BadParts => k_is)
    (case x_BadGoal => k_is)
    (case q_BadGoal => k_exc)
    (case kp_BadGoal => k_is)
    (case sb_BadGoal => k_is)
    (case ty_BadGoal => k_is)
    (case ic_BadGoal => k_is)
    (case eg_BadGoal => k_is)
    (case ek_BadGoal => k_is)
    (case ed_BadGoal => k_is)
    (case ea_BadGoal => k_is)
    (case em_BadGoal => k_is)
    (case en => k_is)
    (case et => k_is)
    (case s_BoardError_BoardError => k_is)
    (case s_BoardError_BadOrder => k_is)
    (case s_BoardError_BadBundles => k_is)
    (case s_BoardError_BadParts => k_is)
    (case s_BoardError_BadGoal => k_is)
    (case s_BadOrder_BoardError => k_is)
    (case s_BadOrder_BadOrder => k_is)
    (case s_BadOrder_BadBundles => k_is)
    (case s_BadOrder_BadParts => k_is)
    (case s_BadOrder_BadGoal => k_is)
    (case s_BadBundles_BoardError => k_is)
    (case s_BadBundles_BadOrder => k_is)
    (case s_BadBundles_BadBundles => k_is)
    (case s_BadBundles_BadParts => k_is)
    (case s_BadBundles_BadGoal => k_is)
    (case s_BadParts_BoardError => k_is)
    (case s_BadParts_BadOrder => k_is)
    (case s_BadParts_BadBundles => k_is)
    (case s_BadParts_BadParts => k_is)
    (case s_BadParts_BadGoal => k_is)
    (case s_BadGoal_BoardError => k_is)
    (case s_BadGoal_BadOrder => k_is)
    (case s_BadGoal_BadBundles => k_is)
    (case s_BadGoal_BadParts => k_is)
    (case s_BadGoal_BadGoal => k_is)
    (case b_len => k_is)
    (case b_abs => k_is)
    (case b_int => k_is)
    (case b_tuple => k_is)
    (case b_list => k_is)
    (case b_sorted => k_is)
    (case b_sum => k_is)
    (case b_min => k_is)
    (case b_max => k_is)
    (case b_all => k_is)
    (case b_any => k_is)
    (case b_isinstance => k_is)
    (case b_range => k_is)
    (case b_enumerate => k_is)
    (case b_zip => k_is)
    (case b_bool => k_is)
    (case b_str => k_is)
    (case b_dict => k_is)
    (case b_set => k_is)
    (case v_MOST_PARTS => exact ⟨L2.V.int 9, ⟨_, rfl⟩, rfl⟩)
    (case v_MOST_WIRES => exact ⟨L2.V.int 40, ⟨_, rfl⟩, rfl⟩)
    (case v_MOST_WEIGHT => exact ⟨L2.V.int 1000, ⟨_, rfl⟩, rfl⟩)
    (case v_LENGTH => exact ⟨L2.V.str _, ⟨_, rfl⟩, rfl⟩)
    (case v_CUT => exact ⟨L2.V.str _, ⟨_, rfl⟩, rfl⟩)
    (case v_FORM => exact ⟨by decide, [L2.V.str _], .cons ⟨_, rfl⟩ (.nil), fun _ => .cons (.str _) (.nil)⟩)

