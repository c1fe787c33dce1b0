import PyProof.Rows.All
import Wide.All
import OpenK.AllK
import Wide.FinOn
import HandS.ForMost
import KE.SortCalls
import HandS.IsInst
import HandS.Style
import HandS.Zip
import HandS.TupAny
import HandS.TupMul
import HandS.Deep
import HandS.Wide
import HandS.Lambda
import KE.GoesEnum
import HandS.Iter
import HandS.Star
import HandS.More
import KE.KDictZip
import KE.GoesZip
import KE.GoesMore
import KE.KItemsList
import HandS.Conv
import PyProof.SumWalkG
import HandS.TryOnly
import HandS.Strs
import HandS.DictComp
import HandS.Defaults
import HandS.Exc
import PyProof.ReprLen
import PyProof.StrLawsRepr
import PyProof.ReprRoads
import HandS.EndTab
import HandS.HeadWalk
import KE.KExcSuper
import KE.KSuper
import KE.KExcMake
import HandS.Ends
import HandS.HeadHook1
import HandS.HeadHook3
import HandS.Head0
import HandS.Head1
import HandS.Head2
import HandS.HeadEnd
import HandS.HeadHook2
import HandS.NestedK
import PySem.Challenge.RW_whatagreed_k19_whole_offers
set_option Elab.async false
set_option linter.all false
set_option maxRecDepth 100000
set_option maxHeartbeats 0
/-! EvSem: a pure reading of a fragment of Python over plain data: combinators. -/
namespace Ev
open PySem

inductive MO where
  | lst (xs : List PyData)
abbrev Sto := List MO
inductive Vl where
  | dat (d : PyData)
  | loc (n : Nat)
  /-- the script: a list that is only cut -/
  | scr (ds : List PyData)
  /-- a dict of truth values -/
  | dct (ds : List (Str × Bool))
  /-- a tuple known to have no dict -/
  | ftp (ds : List PyData)
abbrev Env := List (Option Vl)
structure Xn where
  cls : Nat
  arg : PyData
inductive Out (α : Type) where
  | ok (a : α) (s : Sto)
  | exn (x : Xn) (s : Sto)
  | bad
def Out.bind {α β : Type} (o : Out α) (f : α → Sto → Out β) : Out β :=
  match o with
  | .ok a s => f a s
  | .exn x s => .exn x s
  | .bad => .bad
/-- an exception is not read -/
def noX {α : Type} (o : Out α) : Out α :=
  match o with
  | .ok a s => .ok a s
  | _ => .bad
theorem noX_ok {α : Type} {o : Out α} {a : α} {s : Sto} (h : noX o = .ok a s) : o = .ok a s := by
  cases o with
  | ok b t => exact h
  | exn x t => cases h
  | bad => cases h
theorem noX_no {α : Type} {o : Out α} {x : Xn} {s : Sto} (h : noX o = .exn x s) : False := by
  cases o <;> cases h
abbrev ME := Env → Sto → Out Vl
abbrev MA := Env → Sto → Out (List Vl)
abbrev MT := Env → Sto → Out Bool
abbrev FnS := List Vl → Sto → Out Vl
inductive SR where
  | nx (e : Env)
  | rt (v : Vl)
abbrev MS := Env → Sto → Out SR

/-! ### by data -/
def line : Nat := 16777216
def pAdd : PyData → PyData → Option PyData
  | .int i, .int j => some (.int (i + j))
  | .str x, .str y => if x.length + y.length ≤ line then some (.str (x ++ y)) else none
  | .tuple xs, .tuple ys => if xs.length + ys.length ≤ line then some (.tuple (xs ++ ys)) else none
  | .list xs, .list ys => if xs.length + ys.length ≤ line then some (.list (xs ++ ys)) else none
  | _, _ => none
def pSub : PyData → PyData → Option PyData
  | .int i, .int j => some (.int (i - j))
  | _, _ => none
def mulOk (i j : Int) : Bool := Nat.blt (i.natAbs.log2 + j.natAbs.log2) 1000000
def pMul : PyData → PyData → Option PyData
  | .int i, .int j => if mulOk i j then some (.int (i * j)) else none
  | .list xs, .int k => if Nat.ble (xs.length * k.toNat) line && Nat.ble k.natAbs line then some (.list (List.replicate k.toNat xs).flatten) else none
  | .tuple xs, .int k => if Nat.blt 0 xs.length && decide (2 ≤ k) && decide (k ≤ 1000) && Nat.ble xs.length 1000 then some (.tuple (List.replicate k.toNat xs).flatten) else none
  | _, _ => none
def divOk (j : Int) : Bool := decide (0 < j) && Nat.blt j.natAbs.log2 9000
def pDiv : PyData → PyData → Option PyData
  | .int i, .int j => if divOk j then some (.int (i / j)) else none
  | _, _ => none
def pMod : PyData → PyData → Option PyData
  | .int i, .int j => if decide (0 < j) then some (.int (i % j)) else none
  | _, _ => none
def pPow : PyData → PyData → Option PyData
  | .int i, .int j => if decide (0 ≤ j) && decide (j ≤ 1000) && Nat.blt i.natAbs 18446744073709551616 then some (.int (i ^ j.toNat)) else none
  | _, _ => none
def pOp : Operator → Option (PyData → PyData → Option PyData)
  | .Add => some pAdd
  | .Sub => some pSub
  | .Mult => some pMul
  | .FloorDiv => some pDiv
  | .Mod => some pMod
  | .Pow => some pPow
  | _ => none
def isNone : PyData → Bool
  | .none => true
  | _ => false
def pEq (d e : PyData) : Option Bool := if SeqAt.shaped d && SeqAt.shaped e then some (PyData.eqv d e) else none
def pNe (d e : PyData) : Option Bool := (pEq d e).map not
def pLt : PyData → PyData → Option Bool
  | .int i, .int j => some (decide (i < j))
  | .str x, .str y => some (decide (x.cps.toList < y.cps.toList))
  | _, _ => none
def pLe : PyData → PyData → Option Bool
  | .int i, .int j => some (decide (i ≤ j))
  | _, _ => none
def pGt : PyData → PyData → Option Bool
  | .int i, .int j => some (decide (j < i))
  | _, _ => none
def pGe : PyData → PyData → Option Bool
  | .int i, .int j => some (decide (j ≤ i))
  | _, _ => none
def pIs : PyData → PyData → Option Bool
  | d, .none => some (isNone d)
  | .bool a, .bool b => some (a == b)
  | _, _ => none
def pIsNot (d e : PyData) : Option Bool := (pIs d e).map not
def anyEqv (d : PyData) : List PyData → Bool
  | [] => false
  | z :: zs => PyData.eqv z d || anyEqv d zs
def pIn (d : PyData) : PyData → Option Bool
  | .list zs => if SeqAt.shaped d && SeqAt.shaped (.list zs) then some (anyEqv d zs) else none
  | .tuple zs => if SeqAt.shaped d && SeqAt.shaped (.tuple zs) then some (anyEqv d zs) else none
  | _ => none
def pNotIn (d e : PyData) : Option Bool := (pIn d e).map not
def pCmp : CmpOp → PyData → PyData → Option Bool
  | .Eq => pEq
  | .NotEq => pNe
  | .Lt => pLt
  | .LtE => pLe
  | .Gt => pGt
  | .GtE => pGe
  | .Is => pIs
  | .IsNot => pIsNot
  | .In => pIn
  | .NotIn => pNotIn
def pIx : PyData → PyData → Option PyData
  | .list xs, .int i => (L2.ixN xs.length i).bind fun j => xs[j]?
  | .tuple xs, .int i => (L2.ixN xs.length i).bind fun j => xs[j]?
  | _, _ => none
def cutL (xs : List PyData) (lo hi : Option Int) : List PyData := (xs.drop (HT.sIx xs.length 0 lo)).take (HT.sIx xs.length xs.length hi - HT.sIx xs.length 0 lo)
def pSl : PyData → Option Int → Option Int → Option PyData
  | .list xs, lo, hi => some (.list (cutL xs lo hi))
  | .tuple xs, lo, hi => some (.tuple (cutL xs lo hi))
  | _, _, _ => none
def pRev : PyData → Option PyData
  | .list xs => some (.list xs.reverse)
  | _ => none
def pLen : PyData → Option Nat
  | .list xs => some xs.length
  | .tuple xs => some xs.length
  | .str x => if x.length ≤ line then some x.length else none
  | _ => none

/-! ### values -/
def deref (s : Sto) : Vl → Option PyData
  | .dat d => some d
  | .scr _ => none
  | .dct _ => none
  | .ftp ds => some (.tuple ds)
  | .loc n => match s[n]? with
    | some (.lst xs) => some (.list xs)
    | none => none
def ofO {α : Type} (o : Option α) (s : Sto) : Out α :=
  match o with
  | some a => .ok a s
  | none => .bad
def okD (o : Option PyData) (s : Sto) : Out Vl :=
  match o with
  | some d => .ok (.dat d) s
  | none => .bad
def okB (o : Option Bool) (s : Sto) : Out Vl :=
  match o with
  | some b => .ok (.dat (.bool b)) s
  | none => .bad

/-! ### expressions -/
def eVar (i : Nat) : ME := fun env s => match env[i]? with
  | some (some v) => .ok v s
  | _ => .bad
def eCst (d : PyData) : ME := fun _ s => .ok (.dat d) s
def e1 (f : PyData → Option PyData) (a : ME) : ME := fun env s => noX ((a env s).bind fun x s => match deref s x with
  | some d => okD (f d) s
  | none => .bad)
def e2 (f : PyData → PyData → Option PyData) (a b : ME) : ME := fun env s => (a env s).bind fun x s => (b env s).bind fun y s => match deref s x, deref s y with
  | some d, some e => okD (f d e) s
  | _, _ => .bad
def eCmp (f : PyData → PyData → Option Bool) (a b : ME) : ME := fun env s => (a env s).bind fun x s => (b env s).bind fun y s => match deref s x, deref s y with
  | some d, some e => okB (f d e) s
  | _, _ => .bad
/-- a bool's value -/
def tOf (a : ME) : MT := fun env s => (a env s).bind fun x s => match x with
  | .dat (.bool b) => .ok b s
  | _ => .bad
def eAnd (a b : ME) : ME := fun env s => (tOf a env s).bind fun c s => match c with
  | true => b env s
  | false => .ok (.dat (.bool false)) s
def eOr (a b : ME) : ME := fun env s => (tOf a env s).bind fun c s => match c with
  | true => .ok (.dat (.bool true)) s
  | false => b env s
def eNot (a : ME) : ME := fun env s => (tOf a env s).bind fun c s => .ok (.dat (.bool (!c))) s
def eIf (c a b : ME) : ME := fun env s => (tOf c env s).bind fun c s => match c with
  | true => a env s
  | false => b env s
def eChain (f g : PyData → PyData → Option Bool) (a b c : ME) : ME := fun env s => noX ((a env s).bind fun x s => (b env s).bind fun y s => match deref s x, deref s y with
  | some d, some e => match f d e with
    | some true => (c env s).bind fun z s => match deref s y, deref s z with
      | some e, some h => okB (g e h) s
      | _, _ => .bad
    | some false => .ok (.dat (.bool false)) s
    | none => .bad
  | _, _ => .bad)
def aNil : MA := fun _ s => .ok [] s
def aCons (a : ME) (r : MA) : MA := fun env s => (a env s).bind fun x s => (r env s).bind fun xs s => .ok (x :: xs) s
def dats : List Vl → Option (List PyData)
  | [] => some []
  | .dat d :: r => match dats r with
    | some ds => some (d :: ds)
    | none => none
  | _ :: _ => none
def unf1 : Vl → Vl
  | .ftp ds => .dat (.tuple ds)
  | .dat d => .dat d
  | .loc n => .loc n
  | .scr ds => .scr ds
  | .dct ds => .dct ds
def eTup (a : MA) : ME := fun env s => (a env s).bind fun xs s => match dats (xs.map unf1) with
  | some ds => if Nat.ble ds.length line then .ok (.dat (.tuple ds)) s else .bad
  | none => .bad
def eLst (a : MA) : ME := fun env s => noX ((a env s).bind fun xs s => match dats xs with
  | some ds => if Nat.ble ds.length line then .ok (.dat (.list ds)) s else .bad
  | none => .bad)
/-- *e ahead of more -/
def aStar (a : ME) (r : MA) : MA := fun env s => noX ((a env s).bind fun x s => match x with
  | .dat (.list ds) => (r env s).bind fun xs s => .ok (ds.map .dat ++ xs) s
  | .dat (.tuple ds) => (r env s).bind fun xs s => .ok (ds.map .dat ++ xs) s
  | .loc n => match s[n]? with
    | some (.lst ds) => (r env s).bind fun xs s => .ok (ds.map .dat ++ xs) s
    | none => .bad
  | _ => .bad)
/-- a new list, changed later, ahead of more -/
def aNew (a : ME) (r : MA) : MA := fun env s => (a env s).bind fun v s => match v with
  | .dat (.list xs) => (r env (s ++ [.lst xs])).bind fun vs s' => .ok (.loc s.length :: vs) s'
  | _ => .bad
def eCall (f : FnS) (a : MA) : ME := fun env s => (a env s).bind fun xs s => f xs s
/-- a built-in, by its arguments' data -/
def eBlt (f : List PyData → Option PyData) (a : MA) : ME := fun env s => noX ((a env s).bind fun xs s => match derefs s xs with
  | some ds => okD (f ds) s
  | none => .bad)
where
  derefs (s : Sto) : List Vl → Option (List PyData)
  | [] => some []
  | v :: r => match deref s v, derefs s r with
    | some d, some ds => some (d :: ds)
    | _, _ => none
/-- tuple(zip(a, b)) -/
def eZipT (zp : List PyData → Option PyData) (a : MA) : ME := fun env s => noX ((a env s).bind fun xs s => match eBlt.derefs s xs with
  | some ds => match zp ds with
    | some (.tuple zs) => .ok (.ftp zs) s
    | _ => .bad
  | none => .bad)
def idxF (d : PyData) : List PyData → Nat → Option Nat
  | [], _ => none
  | z :: zs, n => if PyData.eqv z d then some n else idxF d zs (n + 1)
def idxD (ds : List PyData) (d : PyData) : Option PyData := if SeqAt.shaped d && SeqAt.shaped (.list ds) then (idxF d ds 0).map (fun (k : Nat) => PyData.int (k : Int)) else none
/-- x.index(d), x a list or such a tuple -/
def eIdx (a b : ME) : ME := fun env s => noX ((a env s).bind fun x s => (b env s).bind fun y s => match x, deref s y with
  | .ftp ds, some d => okD (idxD ds d) s
  | .dat (.list ds), some d => okD (idxD ds d) s
  | .loc n, some d => match s[n]? with
    | some (.lst ds) => okD (idxD ds d) s
    | none => .bad
  | _, _ => .bad)
abbrev MO' := Env → Sto → Out (Option Int)
def oNone : MO' := fun _ s => .ok none s
def oSome (a : ME) : MO' := fun env s => (a env s).bind fun x s => match x with
  | .dat (.int i) => .ok (some i) s
  | _ => .bad
def eSl (a : ME) (lo hi : MO') : ME := fun env s => noX ((a env s).bind fun x s => (lo env s).bind fun l s => (hi env s).bind fun h s => match x with
  | .scr ds => okD (pSl (.list ds) l h) s
  | v => match deref s v with
    | some d => okD (pSl d l h) s
    | none => .bad)
/-! ### what is walked -/
inductive TG where
  | nm (i : Nat)
  | tup (ts : List TG)
mutual
def TG.put : TG → PyData → Env → Option Env
  | .nm i, d, env => some (env.set i (some (.dat d)))
  | .tup ts, .tuple ds, env => TG.puts ts ds env
  | .tup ts, .list ds, env => TG.puts ts ds env
  | .tup _, _, _ => none
def TG.puts : List TG → List PyData → Env → Option Env
  | [], [], env => some env
  | t :: ts, d :: ds, env => match t.put d env with
    | some env => TG.puts ts ds env
    | none => none
  | _, _, _ => none
end
inductive Src where
  | its (xs : List PyData)
  | at_ (n : Nat)
abbrev MI := Env → Sto → Out Src
def iSeq (a : ME) : MI := fun env s => (a env s).bind fun x s => match x with
  | .dat (.list xs) => .ok (.its xs) s
  | .dat (.tuple xs) => .ok (.its xs) s
  | .loc n => .ok (.at_ n) s
  | _ => .bad
def upFrom (lo : Int) : Nat → List PyData
  | 0 => []
  | n + 1 => .int lo :: upFrom (lo + 1) n
def iRng1 (a : ME) : MI := fun env s => (a env s).bind fun x s => match x with
  | .dat (.int j) => if decide (j < 16777216) && decide (-16777216 < j) then .ok (.its (upFrom 0 j.toNat)) s else .bad
  | _ => .bad
def iRng2 (a b : ME) : MI := fun env s => (a env s).bind fun x s => (b env s).bind fun y s => match x, y with
  | .dat (.int i), .dat (.int j) => if decide (j < 16777216) && decide (-16777216 < j) && decide (i < 16777216) && decide (-16777216 < i) then .ok (.its (upFrom i (j - i).toNat)) s else .bad
  | _, _ => .bad
def zips : List PyData → List PyData → List PyData
  | x :: xs, y :: ys => .tuple [x, y] :: zips xs ys
  | _, _ => []
def iZip (a b : ME) : MI := fun env s => (a env s).bind fun x s => (b env s).bind fun y s => match x, y with
  | .dat (.list xs), .dat (.list ys) => .ok (.its (zips xs ys)) s
  | .dat (.tuple xs), .dat (.tuple ys) => .ok (.its (zips xs ys)) s
  | _, _ => .bad
def enums (i : Int) : List PyData → List PyData
  | [] => []
  | x :: xs => .tuple [.int i, x] :: enums (i + 1) xs
def iEnum (a : ME) : MI := fun env s => (a env s).bind fun x s => match x with
  | .dat (.list xs) => .ok (.its (enums 0 xs)) s
  | .dat (.tuple xs) => .ok (.its (enums 0 xs)) s
  | _ => .bad
/-- enumerate(zip(a, b)), of tuples -/
def iEnZ (a b : ME) : MI := fun env s => (a env s).bind fun x s => (b env s).bind fun y s => match x, y with
  | .dat (.tuple xs), .dat (.tuple ys) => .ok (.its (enums 0 (zips xs ys))) s
  | _, _ => .bad

/-! ### comprehensions -/
def lcGo (f : PyData → Sto → Out (List PyData)) : List PyData → Sto → Out (List PyData)
  | [], s => .ok [] s
  | x :: xs, s => (f x s).bind fun ys s => (lcGo f xs s).bind fun r s => .ok (ys ++ r) s
def lcAt (f : PyData → Sto → Out (List PyData)) (n : Nat) : Nat → Nat → Sto → Out (List PyData)
  | 0, _, _ => .bad
  | k + 1, i, s => match s[n]? with
    | some (.lst xs) => match xs[i]? with
      | some x => (f x s).bind fun ys s => (lcAt f n k (i + 1) s).bind fun r s => .ok (ys ++ r) s
      | none => .ok [] s
    | none => .bad
def lcRun (f : PyData → Sto → Out (List PyData)) : Src → Sto → Out (List PyData)
  | .its xs, s => lcGo f xs s
  | .at_ n, s => match s[n]? with
    | some (.lst xs) => lcAt f n (xs.length + 1) 0 s
    | none => .bad
def wipeE (env : Env) : List Nat → Env
  | [] => env
  | v :: vs => (wipeE env vs).set v none
def tYes : MT := fun _ s => .ok true s
/-- a block's turn: the target stored, the test, then g -/
def turn (tg : TG) (own : List Nat) (c : MT) (g : Env → Sto → Out (List PyData)) (env : Env) (x : PyData) (s : Sto) : Out (List PyData) :=
  match tg.put x (wipeE env own) with
  | some env' => (c env' s).bind fun b s => match b with
    | true => g env' s
    | false => .ok [] s
  | none => .bad
def one (e : ME) (env : Env) (s : Sto) : Out (List PyData) := (e env s).bind fun v s => match v with
  | .dat d => .ok [d] s
  | _ => .bad
def inner (it : MI) (tg : TG) (own : List Nat) (c : MT) (e : ME) (env : Env) (s : Sto) : Out (List PyData) :=
  (it env s).bind fun src s => lcRun (turn tg own c (one e) env) src s
def okL (xs : List PyData) (s : Sto) : Out Vl := if Nat.ble xs.length line then .ok (.dat (.list xs)) s else .bad
def eLc (it : MI) (tg : TG) (own : List Nat) (c : MT) (e : ME) : ME := fun env s => noX ((it env s).bind fun src s => (lcRun (turn tg own c (one e) env) src s).bind okL)
def eLc2 (it : MI) (tg : TG) (own : List Nat) (c : MT) (it1 : MI) (tg1 : TG) (own1 : List Nat) (c1 : MT) (e : ME) : ME := fun env s =>noX ((it env s).bind fun src s => (lcRun (turn tg own c (inner it1 tg1 own1 c1 e) env) src s).bind okL)
/-- pairs as a dict of truth values -/
def dctL : List PyData → Option (List (Str × Bool))
  | [] => some []
  | .tuple [.str x, .bool b] :: r => (dctL r).map fun l => (x, b) :: l
  | _ => none
def noKey (x : Str) : List (Str × Bool) → Bool
  | [] => true
  | p :: r => !decide (p.1 = x) && noKey x r
def distinct : List (Str × Bool) → Bool
  | [] => true
  | p :: r => noKey p.1 r && distinct r
def pairD (k v : ME) (env : Env) (s : Sto) : Out (List PyData) := (k env s).bind fun kv s => (v env s).bind fun vv s => match kv, vv with
  | .dat (.str x), .dat (.bool b) => .ok [.tuple [.str x, .bool b]] s
  | _, _ => .bad
/-- {k: v for tg in it} -/
def eDc (it : MI) (tg : TG) (own : List Nat) (k v : ME) : ME := fun env s => noX ((it env s).bind fun src s => (lcRun (turn tg own tYes (pairD k v) env) src s).bind fun r s => match dctL r with
  | some ds => if distinct ds && Nat.ble ds.length 1000 then .ok (.dct ds) s else .bad
  | none => .bad)
/-- d[k], d such a dict -/
def eIxD (a b : ME) : ME := fun env s => noX ((a env s).bind fun x s => (b env s).bind fun y s => match x, y with
  | .dct ds, .dat (.str k) => okB (ds.lookup k) s
  | _, _ => .bad)
/-- d[k], d a dict of the module -/
def eDct (kvs : List (Str × PyData)) (b : ME) : ME := fun env s => noX ((b env s).bind fun y s => match y with
  | .dat (.str k) => okD (kvs.lookup k) s
  | _ => .bad)
/-! ### statements -/
def sNil : MS := fun env s => .ok (.nx env) s
def sCons (a b : MS) : MS := fun env s => (a env s).bind fun r s => match r with
  | .nx env => b env s
  | .rt v => .ok (.rt v) s
def sSet (i : Nat) (e : ME) : MS := fun env s => (e env s).bind fun v s => .ok (.nx (env.set i (some v))) s
/-- name = a new list that is changed later -/
def sNew (i : Nat) (e : ME) : MS := fun env s => noX ((e env s).bind fun v s => match v with
  | .dat (.list xs) => .ok (.nx (env.set i (some (.loc s.length)))) (s ++ [.lst xs])
  | _ => .bad)
def setsE : List Nat → List Vl → Env → Option Env
  | [], [], env => some env
  | i :: is, v :: vs, env => setsE is vs (env.set i (some v))
  | _, _, _ => none
def sPar (is : List Nat) (a : MA) : MS := fun env s => noX ((a env s).bind fun vs s => match setsE is vs env with
  | some env => .ok (.nx env) s
  | none => .bad)
def sUnp (tg : TG) (e : ME) : MS := fun env s => noX ((e env s).bind fun v s => match v with
  | .dat d => match tg.put d env with
    | some env => .ok (.nx env) s
    | none => .bad
  | _ => .bad)
def putAt (s : Sto) (o : Vl) (i : PyData) (v : PyData) : Option Sto :=
  match o, i with
  | .loc n, .int k => match s[n]? with
    | some (.lst xs) => match L2.ixN xs.length k with
      | some j => some (s.set n (.lst (xs.set j v)))
      | none => none
    | none => none
  | _, _ => none
/-- o[i] = e -/
def sSub (o i e : ME) : MS := fun env s => noX ((e env s).bind fun v s => (o env s).bind fun ov s => (i env s).bind fun iv s => match v, iv with
  | .dat d, .dat k => match putAt s ov k d with
    | some s => .ok (.nx env) s
    | none => .bad
  | _, _ => .bad)
def putsAt : List (ME × ME) → List PyData → Env → Sto → Out Unit
  | [], [], _, s => .ok () s
  | t :: ts, d :: ds, env, s => (t.1 env s).bind fun ov s => (t.2 env s).bind fun iv s => match iv with
    | .dat k => match putAt s ov k d with
      | some s => putsAt ts ds env s
      | none => .bad
    | _ => .bad
  | _, _, _, _ => .bad
/-- o[i], p[j], .. = a, b, .. -/
def sSubs (ts : List (ME × ME)) (a : MA) : MS := fun env s => noX ((a env s).bind fun xs s => match dats xs with
  | some ds => (putsAt ts ds env s).bind fun _ s => .ok (.nx env) s
  | none => .bad)
def sIf (c : ME) (a b : MS) : MS := fun env s => (tOf c env s).bind fun c s => match c with
  | true => a env s
  | false => b env s
def forGo (body : MS) (tg : TG) : List PyData → MS
  | [], env, s => .ok (.nx env) s
  | x :: xs, env, s => match tg.put x env with
    | some env => (body env s).bind fun r s => match r with
      | .nx env => forGo body tg xs env s
      | .rt v => .ok (.rt v) s
    | none => .bad
def forAt (body : MS) (tg : TG) (n : Nat) : Nat → Nat → MS
  | 0, _, _, _ => .bad
  | k + 1, i, env, s => match s[n]? with
    | some (.lst xs) => match xs[i]? with
      | some x => match tg.put x env with
        | some env => (body env s).bind fun r s => match r with
          | .nx env => forAt body tg n k (i + 1) env s
          | .rt v => .ok (.rt v) s
        | none => .bad
      | none => .ok (.nx env) s
    | none => .bad
def sFor (it : MI) (tg : TG) (body : MS) : MS := fun env s => noX ((it env s).bind fun src s => match src with
  | .its xs => forGo body tg xs env s
  | .at_ n => match s[n]? with
    | some (.lst xs) => forAt body tg n (xs.length + 1) 0 env s
    | none => .bad)
/-- a loop whose body may raise -/
def sForB (it : MI) (tg : TG) (body : MS) : MS := fun env s => (noX (it env s)).bind fun src s => match src with
  | .its xs => forGo body tg xs env s
  | .at_ n => match s[n]? with
    | some (.lst xs) => forAt body tg n (xs.length + 1) 0 env s
    | none => .bad
def sForXB (a : ME) (tg : TG) (body : MS) : MS := fun env s => (a env s).bind fun x s => sForB (iSeq fun _ s => .ok x s) tg body env s
/-- what is read first may raise -/
def sPre (a : ME) (m : MS) : MS := fun env s => match a env s with
  | .exn x s' => .exn x s'
  | _ => m env s
/-- a loop over a list or a tuple whose reading may raise -/
def sForX (a : ME) (tg : TG) (body : MS) : MS := fun env s => (a env s).bind fun x s => sFor (iSeq fun _ s => .ok x s) tg body env s
def whGo (c : ME) (body : MS) : Nat → MS
  | 0, _, _ => .bad
  | k + 1, env, s => (tOf c env s).bind fun b s => match b with
    | true => (body env s).bind fun r s => match r with
      | .nx env => whGo c body k env s
      | .rt v => .ok (.rt v) s
    | false => .ok (.nx env) s
def sWh (c : ME) (body : MS) : MS := fun env s => noX (whGo c body 16384 env s)
def sRet (e : ME) : MS := fun env s => (e env s).bind fun v s => .ok (.rt v) s
def sRetN : MS := fun _ s => .ok (.rt (.dat .none)) s
def sPass : MS := sNil
def sExp (e : ME) : MS := fun env s => (e env s).bind fun _ s => .ok (.nx env) s
/-- raise BadThing(e) -/
def sRaise (e : ME) : MS := fun env s => (e env s).bind fun v s => match v with
  | .dat d => .exn ⟨0, d⟩ s
  | _ => .bad
/-- a statement that the runs never come to -/
def sBad : MS := fun _ _ => .bad

/-! ### methods of lists that change them -/
def eApp (o a : ME) : ME := fun env s => noX ((o env s).bind fun ov s => (a env s).bind fun v s => match ov, v with
  | .loc n, .dat d => match s[n]? with
    | some (.lst xs) => if Nat.blt xs.length line then .ok (.dat .none) (s.set n (.lst (xs ++ [d]))) else .bad
    | none => .bad
  | _, _ => .bad)
def ePop (o : ME) : ME := fun env s => noX ((o env s).bind fun ov s => match ov with
  | .loc n => match s[n]? with
    | some (.lst xs) => match xs[xs.length - 1]? with
      | some d => .ok (.dat d) (s.set n (.lst xs.dropLast))
      | none => .bad
    | none => .bad
  | _ => .bad)
def insL (xs : List PyData) (k : Nat) (d : PyData) : List PyData := xs.take k ++ d :: xs.drop k
def eIns (o i a : ME) : ME := fun env s => noX ((o env s).bind fun ov s => (i env s).bind fun iv s => (a env s).bind fun v s => match ov, iv, v with
  | .loc n, .dat (.int k), .dat d => match s[n]? with
    | some (.lst xs) => if decide (0 ≤ k) && decide (k ≤ xs.length) && Nat.blt xs.length line then .ok (.dat .none) (s.set n (.lst (insL xs k.toNat d))) else .bad
    | none => .bad
  | _, _, _ => .bad)
/-! ### a def -/
/-- a fresh list that is handed back is read only from then on -/
def freeze (base : Nat) (v : Vl) (s : Sto) : Out Vl :=
  match v with
  | .dat d => .ok (.dat d) (s.take base)
  | .loc n => if Nat.blt n base then .ok (.loc n) (s.take base) else match s[n]? with
    | some (.lst xs) => .ok (.dat (.list xs)) (s.take base)
    | none => .bad
  | .scr _ => .bad
  | .dct _ => .bad
  | .ftp ds => .ok (.ftp ds) (s.take base)
def fnS (np nn : Nat) (body : MS) : FnS := fun vs s => if vs.length == np then
    match body (vs.map some ++ List.replicate (nn - np) none) s with
    | .ok (.nx _) s' => .ok (.dat .none) (s'.take s.length)
    | .ok (.rt v) s' => freeze s.length v s'
    | .exn x s' => .exn x (s'.take s.length)
    | .bad => .bad
  else .bad

/-! ### built-ins by data -/
def allB : List PyData → Option Bool
  | [] => some true
  | .bool b :: r => match allB r with
    | some c => some (b && c)
    | none => none
  | _ => none
def anyB : List PyData → Option Bool
  | [] => some false
  | .bool b :: r => match anyB r with
    | some c => some (b || c)
    | none => none
  | _ => none
def bAll : List PyData → Option PyData
  | [.list xs] => (allB xs).map .bool
  | _ => none
def bAny : List PyData → Option PyData
  | [.list xs] => (anyB xs).map .bool
  | _ => none
def bLen : List PyData → Option PyData
  | [d] => (pLen d).map fun n => .int n
  | _ => none
def bAbs : List PyData → Option PyData
  | [.int i] => some (.int (if i < 0 then -i else i))
  | _ => none
def bInt : List PyData → Option PyData
  | [.int i] => some (.int i)
  | _ => none
def bTuple : List PyData → Option PyData
  | [.list xs] => some (.tuple xs)
  | [.tuple xs] => some (.tuple xs)
  | _ => none
def bList : List PyData → Option PyData
  | [.list xs] => some (.list xs)
  | [.tuple xs] => some (.list xs)
  | _ => none
def intsOf : List PyData → Option (List Int)
  | [] => some []
  | .int i :: r => match intsOf r with
    | some is => some (i :: is)
    | none => none
  | _ => none
def maxI : Int → List Int → Int
  | m, [] => m
  | m, i :: is => maxI (if m < i then i else m) is
def minI : Int → List Int → Int
  | m, [] => m
  | m, i :: is => minI (if i < m then i else m) is
def bMax : List PyData → Option PyData
  | [.list (.int i :: r)] => (intsOf r).map fun is => .int (maxI i is)
  | _ => none
def bMin : List PyData → Option PyData
  | [.list (.int i :: r)] => (intsOf r).map fun is => .int (minI i is)
  | _ => none
def sumI : List Int → Int
  | [] => 0
  | i :: is => i + sumI is
def bSum : List PyData → Option PyData
  | [.list xs] => (intsOf xs).map fun is => .int (sumI is)
  | _ => none
def catD : List PyData → List PyData → Option (List PyData)
  | [], acc => some acc
  | .list xs :: r, acc => if Nat.ble (acc.length + xs.length) line then catD r (acc ++ xs) else none
  | _, _ => none
def eSumL (a : MA) : ME := fun env s => noX ((a env s).bind fun xs s => match xs with
  | [.dat (.list ls), .dat (.list st)] => if Nat.ble st.length line then okD ((catD ls st).map .list) s else .bad
  | _ => .bad)
def seqD : PyData → Option (List PyData)
  | .list xs => some xs
  | .tuple xs => some xs
  | _ => none
/-- list(zip(a, b)), tuple(zip(a, b)) -/
def bZipL : List PyData → Option PyData
  | [d, e] => match seqD d, seqD e with
    | some xs, some ys => if Nat.ble (zips xs ys).length line then some (.list (zips xs ys)) else none
    | _, _ => none
  | _ => none
def bZipT : List PyData → Option PyData
  | [d, e] => match seqD d, seqD e with
    | some xs, some ys => if Nat.ble (zips xs ys).length line then some (.tuple (zips xs ys)) else none
    | _, _ => none
  | _ => none
inductive Ty where
  | int | bool | str | tuple | list | dict
def isTy : Ty → PyData → Bool
  | .int, .int _ => true
  | .int, .bool _ => true
  | .bool, .bool _ => true
  | .str, .str _ => true
  | .tuple, .tuple _ => true
  | .list, .list _ => true
  | .dict, .dict _ => true
  | _, _ => false
def eIsi (t : Ty) (a : ME) : ME := fun env s => noX ((a env s).bind fun x s => match deref s x with
  | some d => .ok (.dat (.bool (isTy t d))) s
  | none => .bad)
end Ev
namespace Ev
open PySem
def eBad : ME := fun _ _ => .bad
def aBad : MA := fun _ _ => .bad
def pNeg : PyData → Option PyData
  | .int i => some (.int (-i))
  | _ => none
/-- lean(top, below): a fraction without common divisors -/
def leanI (a b : Int) : PyData := .tuple [.int ((if b < 0 then -a else a) / (Nat.gcd a.natAbs b.natAbs : Nat)), .int ((b.natAbs : Nat) / (Nat.gcd a.natAbs b.natAbs : Nat))]
def F_leanP : FnS := fun vs s => match vs with
  | [.dat (.int a), .dat (.int b)] => if decide (b ≠ 0) && Nat.blt a.natAbs.log2 8000 && Nat.blt b.natAbs.log2 8000 then .ok (.dat (leanI a b)) s else .bad
  | _ => .bad
mutual
/-- the same data -/
def dEq : PyData → PyData → Bool
  | .none, .none => true
  | .bool a, .bool b => a == b
  | .int i, .int j => decide (i = j)
  | .str x, .str y => decide (x = y)
  | .list xs, .list ys => dEqA xs ys
  | .tuple xs, .tuple ys => dEqA xs ys
  | _, _ => false
def dEqA : List PyData → List PyData → Bool
  | [], [] => true
  | x :: xs, y :: ys => dEq x y && dEqA xs ys
  | _, _ => false
end
mutual
theorem dEq_ok : ∀ (d e : PyData), dEq d e = true → d = e
  | .none, e, h => by cases e <;> first | rfl | (simp [dEq] at h; done)
  | .bool a, e, h => by cases e <;> first | (simp [dEq] at h; rw [h]; done) | (simp [dEq] at h; done)
  | .int a, e, h => by cases e <;> first | (simp [dEq] at h; rw [h]; done) | (simp [dEq] at h; done)
  | .str a, e, h => by cases e <;> first | (simp [dEq] at h; rw [h]; done) | (simp [dEq] at h; done)
  | .list xs, e, h => by
    cases e with
    | list ys => rw [dEqA_ok xs ys (by simpa [dEq] using h)]
    | _ => simp [dEq] at h
  | .tuple xs, e, h => by
    cases e with
    | tuple ys => rw [dEqA_ok xs ys (by simpa [dEq] using h)]
    | _ => simp [dEq] at h
  | .dict _, e, h => by cases e <;> simp [dEq] at h
theorem dEqA_ok : ∀ (ds es : List PyData), dEqA ds es = true → ds = es
  | [], es, h => by cases es <;> first | rfl | (simp [dEqA] at h; done)
  | x :: xs, es, h => by
    cases es with
    | nil => simp [dEqA] at h
    | cons y ys =>
      simp only [dEqA, Bool.and_eq_true] at h
      rw [dEq_ok x y h.1, dEqA_ok xs ys h.2]
end
mutual
/-- its leaves are short -/
def smD : PyData → Bool
  | .none => true
  | .bool _ => true
  | .int i => Nat.blt i.natAbs 1000000000000
  | .str x => x.cps.toList.all fun c => Nat.blt c 1114112
  | .list xs => smA xs
  | .tuple xs => smA xs
  | .dict _ => false
def smA : List PyData → Bool
  | [] => true
  | x :: xs => smD x && smA xs
end
def showOk (d : PyData) : Bool := smD d && (Nat.ble d.depth 60 && Nat.ble d.weight 5000)
/-- m raises just due -/
def eRef (m d : ME) : ME := fun env s => noX ((d env s).bind fun v s => match v with
  | .dat due => match m env s with
    | .exn x s' => if dEq x.arg due && showOk due then .ok (.dat (.bool true)) s' else .bad
    | _ => .bad
  | _ => .bad)
section
open PySem.W
def sLe (x y : PyData) : Bool := !dataLt y x
def ins (x : PyData) : List PyData → List PyData
  | [] => [x]
  | y :: ys => if sLe y x then y :: ins x ys else x :: y :: ys
def isortA : List PyData → List PyData → List PyData
  | acc, [] => acc
  | acc, x :: xs => isortA (ins x acc) xs
def isort (xs : List PyData) : List PyData := isortA [] xs
def alikeB : List PyData → Bool
  | [] => true
  | d :: ds => ds.all (fun e => alike d e && alike e d) && (alike d d && alikeB ds)
def tup1 : PyData → Bool
  | .tuple (_ :: _) => true
  | _ => false
def tupX : PyData → Bool
  | .tuple _ => true
  | _ => false
def notT : PyData → Bool
  | .tuple _ => false
  | .none => false
  | _ => true
def kindB : List PyData → Bool
  | .tuple [] :: ds => ds.all tupX
  | ds => ds.all tup1 || ds.all notT
def sortB (ds : List PyData) : Bool := alikeB ds && (kindB ds && (ds.all (fun d => Nat.ble d.depth 50) && Nat.ble ds.length line))
def bSorted : List PyData → Option PyData
  | [.list ds] => if sortB ds then some (.list (isort ds)) else none
  | _ => none
end
def isTr : Out Vl → Bool
  | .ok (.dat (.bool true)) _ => true
  | _ => false
end Ev
/-! EvPure: what defs compute, in plain Lean. -/
namespace Ev
open PySem
theorem fnS_dat {np nn : Nat} {m : MS} {vs : List Vl} {s s' : Sto} {r : PyData} (hl : (vs.length == np) = true) (h : m (vs.map some ++ List.replicate (nn - np) none) s = .ok (.rt (.dat r)) s') : fnS np nn m vs s = .ok (.dat r) (s'.take s.length) := by
  unfold fnS
  rw [if_pos hl, h]
  rfl
theorem fnS_dat0 {np nn : Nat} {m : MS} {vs : List Vl} {s : Sto} {r : PyData} (hl : (vs.length == np) = true) (h : m (vs.map some ++ List.replicate (nn - np) none) s = .ok (.rt (.dat r)) s) : fnS np nn m vs s = .ok (.dat r) s := by
  rw [fnS_dat hl h, List.take_length]
theorem fnS_nx {np nn : Nat} {m : MS} {vs : List Vl} {s s' : Sto} {e : Env} (hl : (vs.length == np) = true) (h : m (vs.map some ++ List.replicate (nn - np) none) s = .ok (.nx e) s') : fnS np nn m vs s = .ok (.dat .none) (s'.take s.length) := by
  unfold fnS
  rw [if_pos hl, h]
theorem sCons_nx {a b : MS} {env e' : Env} {s s' : Sto} (h : a env s = .ok (.nx e') s') : sCons a b env s = b e' s' := by
  unfold sCons
  rw [h]
  rfl
theorem sCons_rt {a b : MS} {env : Env} {s s' : Sto} {v : Vl} (h : a env s = .ok (.rt v) s') : sCons a b env s = .ok (.rt v) s' := by
  unfold sCons
  rw [h]
  rfl
theorem mulOk_small {i j : Int} {m n : Nat} (hi : i.natAbs.log2 ≤ m) (hj : j.natAbs.log2 ≤ n) (h : m + n < 1000000) : mulOk i j = true := by
  unfold mulOk
  apply Nat.ble_eq_true_of_le
  show _ + 1 ≤ _
  omega
theorem log2_le_of_le {a b : Nat} (h : a ≤ b) : a.log2 ≤ b.log2 := by
  rcases Nat.eq_zero_or_pos a with rfl | ha
  · rw [Nat.log2_zero]; exact Nat.zero_le _
  · exact (Nat.le_log2 (by omega)).mpr (Nat.le_trans (Nat.log2_self_le (by omega)) h)
theorem sRet_ok {a : ME} {env : Env} {s s1 : Sto} {v : Vl} (h : a env s = .ok v s1) : sRet a env s = .ok (.rt v) s1 := by
  unfold sRet
  rw [h]
  rfl
theorem sSet_ok {i : Nat} {a : ME} {env : Env} {s s1 : Sto} {v : Vl} (h : a env s = .ok v s1) : sSet i a env s = .ok (.nx (env.set i (some v))) s1 := by
  unfold sSet
  rw [h]
  rfl
theorem sIf_t {c : ME} {a b : MS} {env : Env} {s s1 : Sto} (h : c env s = .ok (.dat (.bool true)) s1) : sIf c a b env s = a env s1 := by
  unfold sIf tOf
  rw [h]
  rfl
theorem sIf_f {c : ME} {a b : MS} {env : Env} {s s1 : Sto} (h : c env s = .ok (.dat (.bool false)) s1) : sIf c a b env s = b env s1 := by
  unfold sIf tOf
  rw [h]
  rfl
theorem e2_dat {f : PyData → PyData → Option PyData} {a b : ME} {env : Env} {s s1 s2 : Sto} {d e r : PyData} (ha : a env s = .ok (.dat d) s1) (hb : b env s1 = .ok (.dat e) s2) (hf : f d e = some r) : e2 f a b env s = .ok (.dat r) s2 := by
  unfold e2
  rw [ha]
  simp only [Out.bind]
  rw [hb]
  simp only [deref, hf, okD]
theorem e1_dat {f : PyData → Option PyData} {a : ME} {env : Env} {s s1 : Sto} {d r : PyData} (ha : a env s = .ok (.dat d) s1) (hf : f d = some r) : e1 f a env s = .ok (.dat r) s1 := by
  unfold e1
  rw [ha]
  simp only [Out.bind, deref, hf, okD, noX]
theorem eCmp_dat {f : PyData → PyData → Option Bool} {a b : ME} {env : Env} {s s1 s2 : Sto} {d e : PyData} {r : Bool} (ha : a env s = .ok (.dat d) s1) (hb : b env s1 = .ok (.dat e) s2) (hf : f d e = some r) : eCmp f a b env s = .ok (.dat (.bool r)) s2 := by
  unfold eCmp
  rw [ha]
  simp only [Out.bind]
  rw [hb]
  simp only [deref, hf, okB]
theorem eBlt1_dat {f : List PyData → Option PyData} {a : ME} {env : Env} {s s1 : Sto} {d r : PyData} (ha : a env s = .ok (.dat d) s1) (hf : f [d] = some r) : eBlt f (aCons a aNil) env s = .ok (.dat r) s1 := by
  unfold eBlt aCons
  rw [ha]
  simp only [Out.bind, aNil, eBlt.derefs, deref, hf, okD, noX]
theorem eOr_t {a b : ME} {env : Env} {s s1 : Sto} (h : a env s = .ok (.dat (.bool true)) s1) : eOr a b env s = .ok (.dat (.bool true)) s1 := by
  unfold eOr tOf
  rw [h]
  rfl
theorem eOr_f {a b : ME} {env : Env} {s s1 : Sto} {o : Out Vl} (h : a env s = .ok (.dat (.bool false)) s1) (hb : b env s1 = o) : eOr a b env s = o := by
  unfold eOr tOf
  rw [h]
  exact hb
theorem eAnd_f {a b : ME} {env : Env} {s s1 : Sto} (h : a env s = .ok (.dat (.bool false)) s1) : eAnd a b env s = .ok (.dat (.bool false)) s1 := by
  unfold eAnd tOf
  rw [h]
  rfl
theorem eAnd_t {a b : ME} {env : Env} {s s1 : Sto} {o : Out Vl} (h : a env s = .ok (.dat (.bool true)) s1) (hb : b env s1 = o) : eAnd a b env s = o := by
  unfold eAnd tOf
  rw [h]
  exact hb
theorem eNot_dat {a : ME} {env : Env} {s s1 : Sto} {b : Bool} (h : a env s = .ok (.dat (.bool b)) s1) : eNot a env s = .ok (.dat (.bool (!b))) s1 := by
  unfold eNot tOf
  rw [h]
  rfl
theorem eIf_t {c a b : ME} {env : Env} {s s1 : Sto} {o : Out Vl} (h : c env s = .ok (.dat (.bool true)) s1) (ha : a env s1 = o) : eIf c a b env s = o := by
  unfold eIf tOf
  rw [h]
  exact ha
theorem eIf_f {c a b : ME} {env : Env} {s s1 : Sto} {o : Out Vl} (h : c env s = .ok (.dat (.bool false)) s1) (hb : b env s1 = o) : eIf c a b env s = o := by
  unfold eIf tOf
  rw [h]
  exact hb
theorem eCall2_dat {f : FnS} {a b : ME} {env : Env} {s s1 s2 : Sto} {d e : PyData} {o : Out Vl} (ha : a env s = .ok (.dat d) s1) (hb : b env s1 = .ok (.dat e) s2) (hf : f [.dat d, .dat e] s2 = o) : eCall f (aCons a (aCons b aNil)) env s = o := by
  have h1 : aCons b aNil env s1 = .ok [.dat e] s2 := by
    unfold aCons
    rw [hb]
    rfl
  have h2 : aCons a (aCons b aNil) env s = .ok [.dat d, .dat e] s2 := by
    rw [aCons.eq_1 a, ha]
    simp only [Out.bind, h1]
  unfold eCall
  rw [h2]
  exact hf
theorem eCall1_dat {f : FnS} {a : ME} {env : Env} {s s1 : Sto} {d : PyData} {o : Out Vl} (ha : a env s = .ok (.dat d) s1) (hf : f [.dat d] s1 = o) : eCall f (aCons a aNil) env s = o := by
  unfold eCall aCons
  rw [ha]
  simp only [Out.bind, aNil, hf]
theorem dats_map : ∀ {vs : List Vl} {ds : List PyData}, dats vs = some ds → vs = ds.map .dat
  | [], ds, h => by
    unfold dats at h
    cases h
    rfl
  | .dat d :: r, ds, h => by
    unfold dats at h
    split at h
    · rename_i es hr
      cases h
      rw [dats_map hr, List.map_cons]
    · cases h
  | .loc _ :: _, _, h => by unfold dats at h; cases h
  | .scr _ :: _, _, h => by unfold dats at h; cases h
theorem bindA {α β : Type} {o : Out α} {f : α → Sto → Out β} {a : α} {s : Sto} {q : Out β} (h : o = .ok a s) (hf : f a s = q) : o.bind f = q := by
  rw [h]
  exact hf
end Ev
/-! EvPrim: short forms of hot defs. -/
namespace Ev
open PySem
def big : Nat := 2 ^ 3600
def sm4 (a b c d : Int) : Bool := Nat.ble (a.natAbs + b.natAbs + c.natAbs + d.natAbs) big
def P_less : FnS := fun vs s => match vs with
  | [.dat (.tuple [.int a, .int b]), .dat (.tuple [.int c, .int d])] => if sm4 a b c d then .ok (.dat (.bool (decide (a * d < c * b)))) s else .bad
  | _ => .bad
def P_no_more : FnS := fun vs s => match vs with
  | [.dat (.tuple [.int a, .int b]), .dat (.tuple [.int c, .int d])] => if sm4 a b c d then .ok (.dat (.bool (decide (a * d ≤ c * b)))) s else .bad
  | _ => .bad
def arOk (t u : Int) : Bool := decide (u ≠ 0) && Nat.blt t.natAbs.log2 8000 && Nat.blt u.natAbs.log2 8000
def P_plus : FnS := fun vs s => match vs with
  | [.dat (.tuple [.int a, .int b]), .dat (.tuple [.int c, .int d])] => if sm4 a b c d && arOk (a * d + c * b) (b * d) then .ok (.dat (leanI (a * d + c * b) (b * d))) s else .bad
  | _ => .bad
def P_minus : FnS := fun vs s => match vs with
  | [.dat (.tuple [.int a, .int b]), .dat (.tuple [.int c, .int d])] => if sm4 a b c d && arOk (a * d - c * b) (b * d) then .ok (.dat (leanI (a * d - c * b) (b * d))) s else .bad
  | _ => .bad
def P_times : FnS := fun vs s => match vs with
  | [.dat (.tuple [.int a, .int b]), .dat (.tuple [.int c, .int d])] => if sm4 a b c d && arOk (a * c) (b * d) then .ok (.dat (leanI (a * c) (b * d))) s else .bad
  | _ => .bad
def P_over : FnS := fun vs s => match vs with
  | [.dat (.tuple [.int a, .int b]), .dat (.tuple [.int c, .int d])] => if sm4 a b c d && arOk (a * d) (b * c) then .ok (.dat (leanI (a * d) (b * c))) s else .bad
  | _ => .bad
def I_is_whole : FnS := fnS 1 1 (sRet (eAnd (eIsi .int (eVar 0)) (eNot (eIsi .bool (eVar 0)))))
def I_is_many : FnS := fnS 2 2 (sRet (eAnd (eIsi .tuple (eVar 0)) (eCmp pEq (eBlt bLen (aCons (eVar 0) (aNil))) (eVar 1))))
def I_is_fraction : FnS := fnS 1 1 (sCons (sIf (eOr (eNot (eCall I_is_many (aCons (eVar 0) (aCons (eCst (.int (2))) (aNil))))) (eOr (eNot (eCall I_is_whole (aCons (e2 pIx (eVar 0) (eCst (.int (0)))) (aNil)))) (eOr (eNot (eCall I_is_whole (aCons (e2 pIx (eVar 0) (eCst (.int (1)))) (aNil)))) (eCmp pLt (e2 pIx (eVar 0) (eCst (.int (1)))) (eCst (.int (1))))))) (sRet (eCst (.bool false))) (sNil)) (sRet (eCmp pEq (eCall F_leanP (aCons (e2 pIx (eVar 0) (eCst (.int (0)))) (aCons (e2 pIx (eVar 0) (eCst (.int (1)))) (aNil)))) (eVar 0))))
def P_is_fraction : FnS := fun vs s => match vs with
  | [.dat (.tuple [.int a, .int b])] => if decide (b < 1) then .ok (.dat (.bool false)) s else if Nat.blt a.natAbs.log2 8000 && Nat.blt b.natAbs.log2 8000 then .ok (.dat (.bool (Nat.beq (Nat.gcd a.natAbs b.natAbs) 1))) s else .bad
  | _ => noX (I_is_fraction vs s)
/-- known results, read at the law's own store -/
def tabF : List (List PyData × PyData) → List PyData → Option PyData
  | [], _ => none
  | p :: t, ds => if dEqA p.1 ds then some p.2 else tabF t ds
def tabP (T : List (List PyData × PyData)) (F : FnS) : FnS := fun vs s => match s with
  | [X] => match dats vs with
    | some ds => match tabF T ds with
      | some r => .ok (.dat r) [X]
      | none => F vs [X]
    | none => F vs [X]
  | s => F vs s
def AllT (Q : List PyData → PyData → Prop) : List (List PyData × PyData) → Prop
  | [] => True
  | p :: t => Q p.1 p.2 ∧ AllT Q t
theorem tabF_ok {Q : List PyData → PyData → Prop} : ∀ {T : List (List PyData × PyData)} {ds : List PyData} {r : PyData}, AllT Q T → tabF T ds = some r → Q ds r
  | [], _, _, _, h => by cases h
  | p :: t, ds, r, a, h => by
    unfold tabF at h
    split at h
    · rename_i q
      cases h
      rw [← dEqA_ok _ _ q]
      exact a.1
    · exact tabF_ok a.2 h
theorem tab_le {T : List (List PyData × PyData)} {F : FnS} (h : AllT (fun a r => ∀ X, F (a.map .dat) [X] = .ok (.dat r) [X]) T) : ∀ vs s v s', tabP T F vs s = .ok v s' → F vs s = .ok v s' := by
  intro vs s v s' e
  unfold tabP at e
  split at e
  · rename_i X
    split at e
    · rename_i ds hd
      have hv := dats_map hd
      subst hv
      split at e
      · rename_i r hr
        cases e
        exact tabF_ok h hr X
      · exact e
    · exact e
  · exact e
theorem tab_x {T : List (List PyData × PyData)} {F : FnS} : ∀ vs s y s', tabP T F vs s = .exn y s' → F vs s = .exn y s' := by
  intro vs s y s' e
  unfold tabP at e
  (repeat' split at e) <;> first | exact e | cases e
end Ev
/-! EvRep: how values lie in the abstract heap; readings of the combinators. -/
namespace Ev
open PySem PySem.Spec PyProof.Rows L2

abbrev AP' := Addr → Prop
mutual
inductive Rp (K : PySem.W.Frag) (H : Hp) (P : AP') : V → PyData → Prop
  | non : Rp K H P .non .none
  | bl (b : Bool) : Rp K H P (.bl b) (.bool b)
  | int (i : Int) : Rp K H P (.int i) (.int i)
  | str (x : Str) : Rp K H P (.str x) (.str x)
  | lst {a : Addr} {xs : List V} {ds : List PyData} : H a = some (.lst xs) → ¬ P a → RpAll K H P xs ds → Rp K H P (.ref a) (.list ds)
  | tup {a : Addr} {xs : List V} {ds : List PyData} : SqT K H a xs → RpAll K H P xs ds → Rp K H P (.ref a) (.tuple ds)
inductive RpAll (K : PySem.W.Frag) (H : Hp) (P : AP') : List V → List PyData → Prop
  | nil : RpAll K H P [] []
  | cons {v : V} {vs : List V} {d : PyData} {ds : List PyData} : Rp K H P v d → RpAll K H P vs ds → RpAll K H P (v :: vs) (d :: ds)
end
/-- all is kept but the lists at P -/
def ExtP (P : AP') (H H' : Hp) : Prop := ∀ b o, H b = some o → (¬ P b ∨ ∀ xs, o ≠ .lst xs) → H' b = some o ∨ ∃ ps ps', o = .tbl ps ∧ H' b = some (.tbl ps')
theorem ExtP.get {P : AP'} {H H' : Hp} (x : ExtP P H H') {b : Addr} {o : HO} (e : H b = some o) (q : ¬ P b ∨ ∀ xs, o ≠ .lst xs) (n : ∀ ps, o ≠ .tbl ps) : H' b = some o := by
  rcases x b o e q with h | ⟨ps, _, h, _⟩
  · exact h
  · exact absurd h (n ps)
theorem ExtP.there {P : AP'} {H H' : Hp} (x : ExtP P H H') {b : Addr} {o : HO} (e : H b = some o) (q : ¬ P b) (h : H' b = none) : False := by
  rcases x b o e (.inl q) with h2 | ⟨_, _, _, h2⟩ <;> rw [h] at h2 <;> cases h2
theorem ExtP.refl (P : AP') (H : Hp) : ExtP P H H := fun _ _ h _ => .inl h
theorem ExtP.two {P P' P2 : AP'} {H H1 H2 : Hp} (a : ExtP P H H1) (b : ExtP P' H1 H2) {c : Addr} {o : HO} (h : H c = some o) (n : ¬ P c ∨ ∀ xs, o ≠ .lst xs) (n2 : ¬ P' c ∨ ∀ xs, o ≠ .lst xs) : H2 c = some o ∨ ∃ ps ps', o = .tbl ps ∧ H2 c = some (.tbl ps') := by
  rcases a c o h n with h1 | ⟨ps, ps', e1, e2⟩
  · exact b c o h1 n2
  · rcases b c _ e2 (.inr fun xs z => nomatch z) with h2 | ⟨qs, qs', _, h3⟩
    · exact .inr ⟨ps, ps', e1, h2⟩
    · exact .inr ⟨ps, qs', e1, h3⟩
theorem ExtP.trans {P : AP'} {H H1 H2 : Hp} (a : ExtP P H H1) (b : ExtP P H1 H2) : ExtP P H H2 := fun c o h n => a.two (P2 := P) b h n n
theorem ExtP.mono {P P' : AP'} {H H1 : Hp} (a : ExtP P H H1) (h : ∀ x, P x → P' x) : ExtP P' H H1 := fun c o e n => a c o e (n.imp (fun z y => z (h _ y)) id)
theorem ExtP.same {P : AP'} {H H1 : Hp} (a : Same H H1) : ExtP P H H1 := fun c o e _ => .inl (a c o e)
/-- .. where what is new may be among P' -/
theorem ExtP.fresh {P P' : AP'} {H H1 : Hp} (a : ExtP P' H H1) (h : ∀ x, P' x → P x ∨ H x = none) : ExtP P H H1 := fun c o e n => a c o e (by
  rcases n with n | n
  · left
    intro z
    rcases h c z with y | y
    · exact n y
    · rw [e] at y; cases y
  · exact .inr n)
section
variable {K : PySem.W.Frag} {H H' : Hp} {P P' : AP'}
theorem SqT.ext {a : Addr} {xs : List V} (e : ExtP P H H') (h : SqT K H a xs) : SqT K H' a xs := by
  rcases h with h | h
  · rcases h with h | ⟨o, h⟩
    · exact .inl (.inl (e.get h (.inr fun _ z => nomatch z) fun _ z => nomatch z))
    · exact .inl (.inr ⟨o, e.get h (.inr fun _ z => nomatch z) fun _ z => nomatch z⟩)
  · exact .inr h
mutual
theorem Rp.ext (e : ExtP P H H') : ∀ (d : PyData) (v : V), Rp K H P v d → Rp K H' P v d
  | .none, _, h => by cases h; exact .non
  | .bool _, _, h => by cases h; exact .bl _
  | .int _, _, h => by cases h; exact .int _
  | .str _, _, h => by cases h; exact .str _
  | .list ds, _, h => by
    cases h with
    | lst h1 h2 h3 => exact .lst (e.get h1 (.inl h2) fun _ z => nomatch z) h2 (RpAll.ext e ds _ h3)
  | .tuple ds, _, h => by
    cases h with
    | tup h1 h3 => exact .tup (SqT.ext e h1) (RpAll.ext e ds _ h3)
  | .dict _, _, h => by cases h
theorem RpAll.ext (e : ExtP P H H') : ∀ (ds : List PyData) (vs : List V), RpAll K H P vs ds → RpAll K H' P vs ds
  | [], _, h => by cases h; exact .nil
  | d :: ds, _, h => by
    cases h with
    | cons h1 h2 => exact .cons (Rp.ext e d _ h1) (RpAll.ext e ds _ h2)
end
mutual
/-- another P -/
theorem Rp.toP (q : ∀ x, P' x → P x ∨ H x = none) : ∀ (d : PyData) (v : V), Rp K H P v d → Rp K H P' v d
  | .none, _, h => by cases h; exact .non
  | .bool _, _, h => by cases h; exact .bl _
  | .int _, _, h => by cases h; exact .int _
  | .str _, _, h => by cases h; exact .str _
  | .list ds, _, h => by
    cases h with
    | lst h1 h2 h3 => exact .lst h1 (fun z => (q _ z).elim h2 (fun y => by rw [h1] at y; cases y)) (RpAll.toP q ds _ h3)
  | .tuple ds, _, h => by
    cases h with
    | tup h1 h3 => exact .tup h1 (RpAll.toP q ds _ h3)
  | .dict _, _, h => by cases h
theorem RpAll.toP (q : ∀ x, P' x → P x ∨ H x = none) : ∀ (ds : List PyData) (vs : List V), RpAll K H P vs ds → RpAll K H P' vs ds
  | [], _, h => by cases h; exact .nil
  | d :: ds, _, h => by
    cases h with
    | cons h1 h2 => exact .cons (Rp.toP q d _ h1) (RpAll.toP q ds _ h2)
end
mutual
theorem Rp.dp : ∀ (d : PyData) (v : V), Rp K H P v d → Dp K H v d
  | .none, _, h => by cases h; exact .non
  | .bool _, _, h => by cases h; exact .bl _
  | .int _, _, h => by cases h; exact .int _
  | .str _, _, h => by cases h; exact .str _
  | .list ds, _, h => by
    cases h with
    | lst h1 h2 h3 => exact .lst (SqL.of h1) (RpAll.dp ds _ h3)
  | .tuple ds, _, h => by
    cases h with
    | tup h1 h3 => exact .tup h1 (RpAll.dp ds _ h3)
  | .dict _, _, h => by cases h
theorem RpAll.dp : ∀ (ds : List PyData) (vs : List V), RpAll K H P vs ds → DpAll K H vs ds
  | [], _, h => by cases h; exact .nil
  | d :: ds, _, h => by
    cases h with
    | cons h1 h2 => exact .cons (Rp.dp d _ h1) (RpAll.dp ds _ h2)
end
theorem RpAll.length : ∀ {vs : List V} {ds : List PyData}, RpAll K H P vs ds → vs.length = ds.length
  | _, _, .nil => rfl
  | _, _, .cons _ h => by rw [List.length_cons, List.length_cons, RpAll.length h]
theorem RpAll.get : ∀ {vs : List V} {ds : List PyData} {i : Nat} {d : PyData}, RpAll K H P vs ds → ds[i]? = some d → ∃ v, vs[i]? = some v ∧ Rp K H P v d
  | _, _, _, _, .nil, e => by simp at e
  | _, _, 0, _, .cons r _, e => by simp at e; subst e; exact ⟨_, rfl, r⟩
  | _, _, i + 1, _, .cons _ t, e => by
    obtain ⟨u, h1, h2⟩ := RpAll.get (i := i) t (by simpa using e)
    exact ⟨u, by simpa using h1, h2⟩
theorem RpAll.getV : ∀ {vs : List V} {ds : List PyData} {i : Nat} {v : V}, RpAll K H P vs ds → vs[i]? = some v → ∃ d, ds[i]? = some d ∧ Rp K H P v d
  | _, _, _, _, .nil, e => by simp at e
  | _, _, 0, _, .cons r _, e => by simp at e; subst e; exact ⟨_, rfl, r⟩
  | _, _, i + 1, _, .cons _ t, e => by
    obtain ⟨u, h1, h2⟩ := RpAll.getV (i := i) t (by simpa using e)
    exact ⟨u, by simpa using h1, h2⟩
theorem RpAll.append : ∀ {vs ws : List V} {ds es : List PyData}, RpAll K H P vs ds → RpAll K H P ws es → RpAll K H P (vs ++ ws) (ds ++ es)
  | _, _, _, _, .nil, s => s
  | _, _, _, _, .cons r t, s => .cons r (RpAll.append t s)
theorem RpAll.take : ∀ {vs : List V} {ds : List PyData} (n : Nat), RpAll K H P vs ds → RpAll K H P (vs.take n) (ds.take n)
  | _, _, 0, _ => .nil
  | _, _, _ + 1, .nil => .nil
  | _, _, n + 1, .cons r t => .cons r (RpAll.take n t)
theorem RpAll.drop : ∀ {vs : List V} {ds : List PyData} (n : Nat), RpAll K H P vs ds → RpAll K H P (vs.drop n) (ds.drop n)
  | _, _, 0, r => r
  | _, _, _ + 1, .nil => .nil
  | _, _, n + 1, .cons _ t => RpAll.drop n t
theorem RpAll.reverse {vs : List V} {ds : List PyData} (h : RpAll K H P vs ds) : RpAll K H P vs.reverse ds.reverse := by
  cases h with
  | nil => exact .nil
  | cons r t =>
    rw [List.reverse_cons, List.reverse_cons]
    exact (RpAll.reverse t).append (.cons r .nil)
termination_by ds.length
theorem RpAll.rep {vs : List V} {ds : List PyData} (h : RpAll K H P vs ds) : ∀ k : Nat, RpAll K H P (List.replicate k vs).flatten (List.replicate k ds).flatten
  | 0 => .nil
  | k + 1 => by
    rw [List.replicate_succ, List.replicate_succ, List.flatten_cons, List.flatten_cons]
    exact h.append (RpAll.rep h k)
theorem RpAll.set {v : V} {d : PyData} (r : Rp K H P v d) : ∀ {vs : List V} {ds : List PyData} (i : Nat), RpAll K H P vs ds → RpAll K H P (vs.set i v) (ds.set i d)
  | _, _, _, .nil => .nil
  | _, _, 0, .cons _ t => .cons r t
  | _, _, i + 1, .cons q t => .cons q (RpAll.set r i t)
theorem RpAll.dropLast {vs : List V} {ds : List PyData} (h : RpAll K H P vs ds) : RpAll K H P vs.dropLast ds.dropLast := by
  rw [List.dropLast_eq_take, List.dropLast_eq_take, h.length]
  exact h.take _
end

def kvD (ds : List (Str × Bool)) : List (Key × V) := ds.map fun q => (.inr q.1, .bl q.2)
/-- a value -/
inductive RV (K : PySem.W.Frag) (H : Hp) (P : AP') (ι : List Addr) : V → Vl → Prop
  | dat {v : V} {d : PyData} : Rp K H P v d → RV K H P ι v (.dat d)
  | loc {a : Addr} {n : Nat} : ι[n]? = some a → RV K H P ι (.ref a) (.loc n)
  | scr {a : Addr} {xs : List V} {ds : List PyData} : ((∃ o, H a = some (.frz o (.lst xs))) ∨ ∀ H', SqL K H' a xs) → RpAll K H P xs ds → RV K H P ι (.ref a) (.scr ds)
  | ftp {a : Addr} {o : Obj} {xs : List V} {ds : List PyData} : H a = some (.frz o (.tup xs)) → o.cls = .type "tuple" → o.dict = none → RpAll K H P xs ds → RV K H P ι (.ref a) (.ftp ds)
  | dct {a : Addr} {ds : List (Str × Bool)} : H a = some (.dK (kvD ds)) → RV K H P ι (.ref a) (.dct ds)
/-- the slots -/
structure RE (K : PySem.W.Frag) (H : Hp) (P : AP') (ι : List Addr) (σ : L2.St) (env : Env) : Prop where
  len : σ.length = env.length
  at_ : ∀ (i : Nat) (v : Vl), env[i]? = some (some v) → ∃ u, σ[i]? = some (some u) ∧ RV K H P ι u v
/-- the table of code objects of the def that o is -/
def tab11 (o : Obj) : Option Addr := match o.data with
  | .fields vs => match (vs[11]? : Option Value) with
    | some (.ref p) => some p
    | _ => none
  | _ => none
def codeAt (K : PySem.W.Frag) (o : Obj) : List (Addr × Addr × Str) := match o.data with
  | .func fd => match fd.code with
    | .ref c => match K.lookup c with
      | some oc => match tab11 oc with
        | some p => [(c, p, (fd.qualname ++ ".<locals>." : Str) ++ "<lambda>")]
        | none => []
      | none => []
    | _ => []
  | _ => []
/-- the defs' code objects, their tables, their lambdas' name -/
def codesOf (K : PySem.W.Frag) : List (Addr × Addr × Str) := K.flatMap fun p => codeAt K p.2
def tabsOf (K : PySem.W.Frag) : List (Addr × Str) := (codesOf K).map fun q => (q.2.1, q.2.2)
abbrev TabsK (K : PySem.W.Frag) (H : Hp) : Prop := LamX.Tabs (tabsOf K) H
theorem TabsK.lst {K : PySem.W.Frag} {H : Hp} {a : Addr} {xs ys : List V} (t : TabsK K H) (h : H a = some (.lst xs)) : TabsK K (upd H a (.lst ys)) := fun p hp => by
  obtain ⟨ps, h1, h2, h3⟩ := t p hp
  refine ⟨ps, ?_, h2, fun pos cv hc => ?_⟩
  · rw [upd_ne (fun z => by rw [z, h] at h1; cases h1)]
    exact h1
  · obtain ⟨c, e1, e2⟩ := h3 pos cv hc
    refine ⟨c, e1, ?_⟩
    rw [upd_ne (fun z => by rw [z, h] at e2; unfold LamX.CodeO at e2; cases e2)]
    exact e2
/-- the lists that are changed -/
structure RS (K : PySem.W.Frag) (H : Hp) (P : AP') (ι : List Addr) (st : Sto) : Prop where
  len : ι.length = st.length
  nd : ι.Nodup
  pin : ∀ a ∈ ι, P a
  pthere : ∀ a, P a → H a ≠ none
  at_ : ∀ (n : Nat) (a : Addr), ι[n]? = some a → ∃ (ds : List PyData) (xs : List V), st[n]? = some (MO.lst ds) ∧ H a = some (.lst xs) ∧ RpAll K H P xs ds
  tb : TabsK K H
abbrev Ext (ι : List Addr) (H H' : Hp) : Prop := ExtP (· ∈ ι) H H'
section
variable {K : PySem.W.Frag} {H H' : Hp} {P P' : AP'} {ι ι' : List Addr} {st : Sto} {σ : L2.St} {env : Env}
theorem RV.ext {v : V} {u : Vl} (e : ExtP P H H') (h : RV K H P ι v u) : RV K H' P ι v u := by
  cases h with
  | dat r => exact .dat (r.ext e)
  | loc q => exact .loc q
  | scr q r => exact .scr (q.imp (fun ⟨o, z⟩ => ⟨o, e.get z (.inr fun _ z => nomatch z) fun _ z => nomatch z⟩) id) (r.ext e)
  | ftp q c d r => exact .ftp (e.get q (.inr fun _ z => nomatch z) fun _ z => nomatch z) c d (r.ext e)
  | dct q => exact .dct (e.get q (.inr fun _ z => nomatch z) fun _ z => nomatch z)
theorem RE.ext (e : ExtP P H H') (h : RE K H P ι σ env) : RE K H' P ι σ env := ⟨h.len, fun i v q => let ⟨u, h1, h2⟩ := h.at_ i v q; ⟨u, h1, h2.ext e⟩⟩
theorem RS.extP (r : RS K H P ι st) (e : Ext ι H H') : ExtP P H H' := e.mono r.pin
theorem RS.same (r : RS K H P ι st) (e : Same H H') : RS K H' P ι st := ⟨r.len, r.nd, r.pin, fun a p z => r.pthere a p (by
    cases q : H a with
    | none => rfl
    | some o => rw [e a o q] at z; cases z), fun n a q => let ⟨ds, xs, h1, h2, h3⟩ := r.at_ n a q; ⟨ds, xs, h1, e a _ h2, h3.ext (.same e)⟩, r.tb.ext e⟩
theorem RS.lt {n : Nat} {a : Addr} (r : RS K H P ι st) (h : ι[n]? = some a) : H a ≠ none := by
  obtain ⟨_, _, _, h2, _⟩ := r.at_ n a h
  rw [h2]; exact fun z => nomatch z
/-- what reads as data -/
inductive RD (K : PySem.W.Frag) (H : Hp) (P : AP') : V → PyData → Prop
  | dat {v : V} {d : PyData} : Rp K H P v d → RD K H P v d
  | loc {a : Addr} {xs : List V} {ds : List PyData} : H a = some (.lst xs) → RpAll K H P xs ds → RD K H P (.ref a) (.list ds)
theorem RD.dp {v : V} {d : PyData} (h : RD K H P v d) : Dp K H v d := by
  cases h with
  | dat r => exact r.dp
  | loc h r => exact .lst (SqL.of h) r.dp
theorem RV.rd {v : V} {u : Vl} {d : PyData} (h : RV K H P ι v u) (r : RS K H P ι st) (e : deref st u = some d) : RD K H P v d := by
  cases h with
  | dat q => cases e; exact .dat q
  | loc q =>
    obtain ⟨ds, xs, h1, h2, h3⟩ := r.at_ _ _ q
    simp only [deref, h1] at e
    cases e
    exact .loc h2 h3
  | scr _ _ => cases e
  | dct _ => cases e
  | ftp q _ _ r => cases e; exact .dat (.tup (.inl (.inr ⟨_, q⟩)) r)
theorem RD.lst {v : V} {ds : List PyData} (h : RD K H P v (.list ds)) : ∃ a xs, v = .ref a ∧ H a = some (.lst xs) ∧ RpAll K H P xs ds := by
  cases h with
  | dat r => cases r with | lst h1 h2 h3 => exact ⟨_, _, rfl, h1, h3⟩
  | loc h r => exact ⟨_, _, rfl, h, r⟩
theorem RD.tup {v : V} {ds : List PyData} (h : RD K H P v (.tuple ds)) : ∃ a xs, v = .ref a ∧ SqT K H a xs ∧ RpAll K H P xs ds := by
  cases h with
  | dat r => cases r with | tup h1 h3 => exact ⟨_, _, rfl, h1, h3⟩
theorem RD.int {v : V} {i : Int} (h : RD K H P v (.int i)) : v = .int i := by
  cases h with
  | dat r => cases r; rfl
theorem RD.str {v : V} {x : Str} (h : RD K H P v (.str x)) : v = .str x := by
  cases h with
  | dat r => cases r; rfl
theorem RD.bool {v : V} {b : Bool} (h : RD K H P v (.bool b)) : v = .bl b := by
  cases h with
  | dat r => cases r; rfl
theorem RD.non {v : V} (h : RD K H P v .none) : v = .non := by
  cases h with
  | dat r => cases r; rfl
theorem same_upd {H : Hp} {p : Addr} {o : HO} (h : H p = none) : Same H (upd H p o) := fun b x e => by
  rw [upd_ne (ne_of_none e h)]
  exact e
theorem RE.set {u : V} {v : Vl} (h : RE K H P ι σ env) (i : Nat) (r : RV K H P ι u v) : RE K H P ι (σ.set i (some u)) (env.set i (some v)) := by
  refine ⟨by rw [List.length_set, List.length_set]; exact h.len, fun j w e => ?_⟩
  by_cases q : i = j
  · subst q
    by_cases l : i < env.length
    · rw [List.getElem?_set_self l] at e
      cases e
      exact ⟨u, by rw [List.getElem?_set_self (by rw [h.len]; exact l)], r⟩
    · rw [List.getElem?_eq_none (by rw [List.length_set]; omega)] at e
      cases e
  · rw [List.getElem?_set_ne q] at e
    obtain ⟨w', h1, h2⟩ := h.at_ j w e
    exact ⟨w', by rw [List.getElem?_set_ne q]; exact h1, h2⟩
theorem wipeE_length (env : Env) : ∀ vs : List Nat, (wipeE env vs).length = env.length
  | [] => rfl
  | v :: vs => by unfold wipeE; rw [List.length_set, wipeE_length env vs]
theorem RE.wipe (h : RE K H P ι σ env) : ∀ vs : List Nat, RE K H P ι (L2.wipe σ vs) (wipeE env vs)
  | [] => h
  | v :: vs => by
    have ih := RE.wipe h vs
    unfold L2.wipe wipeE
    refine ⟨by rw [List.length_set, List.length_set]; exact ih.len, fun j w e => ?_⟩
    by_cases q : v = j
    · subst q
      by_cases l : v < (wipeE env vs).length
      · rw [List.getElem?_set_self l] at e; cases e
      · rw [List.getElem?_eq_none (by rw [List.length_set]; omega)] at e; cases e
    · rw [List.getElem?_set_ne q] at e
      obtain ⟨w', h1, h2⟩ := ih.at_ j w e
      exact ⟨w', by rw [List.getElem?_set_ne q]; exact h1, h2⟩
end

section
variable {K : PySem.W.Frag} {H H1 H' : Hp} {P P' : AP'} {ι : List Addr} {s st : Sto} {σ : L2.St} {env : Env} {D : Addr}
theorem RV.toP {v : V} {u : Vl} (q : ∀ x, P' x → P x ∨ H x = none) (h : RV K H P ι v u) : RV K H P' ι v u := by
  cases h with
  | dat r => exact .dat (r.toP q _ _)
  | loc r => exact .loc r
  | scr r r2 => exact .scr r (r2.toP q _ _)
  | dct r => exact .dct r
  | ftp q c d r => exact .ftp q c d (r.toP ‹_› _ _)
theorem RE.toP (q : ∀ x, P' x → P x ∨ H x = none) (h : RE K H P ι σ env) : RE K H P' ι σ env := ⟨h.len, fun i v e => let ⟨u, h1, h2⟩ := h.at_ i v e; ⟨u, h1, h2.toP q⟩⟩
abbrev Pl (P : AP') (D : Addr) : AP' := fun x => P x ∨ x = D
theorem RS.add (r : RS K H P ι s) {o : HO} (hD : H D = none) : RS K (L2.upd H D o) (Pl P D) ι s := by
  have sm := same_upd (o := o) hD
  have r2 := r.same sm
  refine ⟨r.len, r.nd, fun a h => .inl (r.pin a h), fun a h => ?_, fun n a h => ?_, r2.tb⟩
  · rcases h with h | h
    · exact r2.pthere a h
    · rw [h, upd_same]; exact fun z => nomatch z
  · obtain ⟨ds, xs, h1, h2, h3⟩ := r.at_ n a h
    exact ⟨ds, xs, h1, sm a _ h2, (h3.toP (fun x hx => Or.imp id (fun z => by rw [z]; exact hD) hx) _ _).ext (.same sm) _ _⟩
theorem RS.less (r : RS K H (Pl P D) ι s) (h : ∀ a ∈ ι, P a) : RS K H P ι s :=
  ⟨r.len, r.nd, h, fun a z => r.pthere a (.inl z), fun n a e => let ⟨ds, xs, h1, h2, h3⟩ := r.at_ n a e; ⟨ds, xs, h1, h2, h3.toP (fun x hx => .inl (.inl hx)) _ _⟩, r.tb⟩
end
/-! ### readings -/
/-- the state that a piece finds -/
structure At (K : PySem.W.Frag) (H : Hp) (P : AP') (ι : List Addr) (σ : L2.St) (env : Env) (st : Sto) : Prop where
  e : RE K H P ι σ env
  s : RS K H P ι st
def rdE (K : PySem.W.Frag) (m : ME) : TE := fun σ H Q => ∃ ι P env st, At K H P ι σ env st ∧ ∃ v st', m env st = .ok v st' ∧
  ∀ u H', Ext ι H H' → RS K H' P ι st' → RV K H' P ι u v → Q u H'
def rdA (K : PySem.W.Frag) (m : MA) : TA := fun σ H Q => ∃ ι P env st, At K H P ι σ env st ∧ ∃ vs st', m env st = .ok vs st' ∧
  ∀ us H', Ext ι H H' → RS K H' P ι st' → Paired (RV K H' P ι) us vs → Q us H'
def rdT (K : PySem.W.Frag) (m : MT) : TT := fun σ H Q => ∃ ι P env st, At K H P ι σ env st ∧ ∃ b st', m env st = .ok b st' ∧
  ∀ H', Ext ι H H' → RS K H' P ι st' → Q b H'
section
variable {X : Cx}
theorem PE.mono {e : Expr} {t t' : TE} (h : PE X e t) (q : ∀ σ H Q, t' σ H Q → t σ H Q) : PE X e t' := ⟨fun pins s σ H Q I w => h.run pins s σ H Q I (q _ _ _ w)⟩
theorem PT.mono {e : Expr} {t t' : TT} (h : PT X e t) (q : ∀ σ H Q, t' σ H Q → t σ H Q) : PT X e t' := ⟨fun pins s σ H Q I w => h.run pins s σ H Q I (q _ _ _ w)⟩
theorem PW.mono {e : Expr} {t t' : TT} (h : PW X e t) (q : ∀ σ H Q, t' σ H Q → t σ H Q) : PW X e t' := ⟨fun wh pins s σ H Q I w => h.run wh pins s σ H Q I (q _ _ _ w)⟩
theorem PA.mono {e : List Expr} {t t' : TA} (h : PA X e t) (q : ∀ σ H Q, t' σ H Q → t σ H Q) : PA X e t' := ⟨fun pos pins s σ H Q I w => h.run pos pins s σ H Q I (q _ _ _ w)⟩
theorem PS.mono {e : Stmt} {t t' : TS} (h : PS X e t) (q : ∀ D σ H, t' D σ H → t D σ H) : PS X e t' := ⟨fun pins s σ H D I w => h.run pins s σ H D I (q _ _ _ w)⟩
theorem PSs.mono {e : List Stmt} {t t' : TS} (h : PSs X e t) (q : ∀ D σ H, t' D σ H → t D σ H) : PSs X e t' := ⟨fun pins s σ H D I w => h.run pins s σ H D I (q _ _ _ w)⟩
theorem PG.mono {e : Expr} {t t' : L2.TG} (h : PG X e t) (q : ∀ v σ H Q, t' v σ H Q → t v σ H Q) : PG X e t' := ⟨fun pins s σ H v u Q I r w => h.run pins s σ H v u Q I r (q _ _ _ _ w)⟩
theorem PI.mono {tg e : Expr} {t t' : TI} (h : PI X tg e t) (q : ∀ σ H R, t' σ H R → t σ H R) : PI X tg e t' := ⟨fun pins s σ H R I w => h.run pins s σ H R I (q _ _ _ w)⟩
end
/-- two in a row -/
theorem At.next {K : PySem.W.Frag} {H H' : Hp} {P : AP'} {ι : List Addr} {σ : L2.St} {env : Env} {st st' : Sto} (a : At K H P ι σ env st) (e : Ext ι H H') (r : RS K H' P ι st') : At K H' P ι σ env st' := ⟨a.e.ext (a.s.extP e), r⟩
theorem bind_ok {α β : Type} {o : Out α} {f : α → Sto → Out β} {b : β} {s : Sto} (h : o.bind f = .ok b s) : ∃ a s1, o = .ok a s1 ∧ f a s1 = .ok b s := by
  cases o with
  | ok a s1 => exact ⟨a, s1, rfl, h⟩
  | exn x s1 => cases h
  | bad => cases h
end Ev
/-! EvEnum: enumerate of a tuple. -/
namespace Ev
open PySem PySem.Spec PyProof.Rows L2
theorem en_new {v : Value} {o : Obj} {Hs : Heap → Prop} (B : Begins v o Hs) :
    Meets (Builtin.«enumerate.__new__» ⟨[.type "enumerate", v], []⟩) (fun _ R s => Hs s.heap ∧
      R (.ok (.ret (.ref (s.heap.push o).objs.size))) { s with heap := (s.heap.push o).push { cls := .type "enumerate", data := .fields #[.none, .bool false, .ref s.heap.objs.size, rawInt 0, .none, .none] } }) :=
  .of_wp fun prog w A R s h => by
    obtain ⟨hp, gn, dr, tk, os⟩ := s
    obtain ⟨hh, h⟩ := h
    have hsub := sub_enumerate
    have it : ∀ {A' : Around} {E : Value → Shared → Prop} {Q : Value → Shared → Prop}, Q (.ref hp.objs.size) ⟨hp.push o, gn, dr, tk, os⟩ → wpAny (model prog w) A' (pyIter v) Q E ⟨hp, gn, dr, tk, os⟩ :=
      fun y => B.iter prog w _ _ ⟨hp, gn, dr, tk, os⟩ _ hh y
    wp_walk using it
    refine wpAny_stack_any fun st => wpAny_pure ?_
    split
    · rename_i c _ _ _ _ _
      cases (c == Value.type "enumerate")
      · wp_walk using it
        exact ⟨_, rfl, h⟩
      · wp_walk using it
        exact ⟨_, rfl, h⟩
    · wp_walk using it
      exact ⟨_, rfl, h⟩
theorem en_call {prog : Program} {w : World} {A : Around} {E : Value → Shared → Prop} {s : Shared} {v : Value} {o : Obj} {Hs : Heap → Prop} {Q : Value → Shared → Prop} (B : Begins v o Hs) (hh : Hs s.heap)
    (h : ∀ h', IsEnum h' (s.heap.objs.size + 1) s.heap.objs.size 0 .none → h'.get? s.heap.objs.size = some o → (∀ b o, s.heap.get? b = some o → h'.get? b = some o) → Q (.ref (s.heap.objs.size + 1)) { s with heap := h' }) :
    wpAny (model prog w) A (call (.type "enumerate") [v]) Q E s := by
  refine callType_new F.called_enumerate (by decide) (F.typeCall_enumerate_1 _) (F.newCall_enumerate_1 _) (fun obj => F.args_object_init_2 obj _) F.entry_enumerate_new (en_new B) ⟨hh, ?_⟩
  have sz : (s.heap.push o).objs.size = s.heap.objs.size + 1 := Heap.size_push ..
  show _ ∧ _
  rw [sz]
  have ie : IsEnum ((s.heap.push o).push { cls := .type "enumerate", data := .fields #[.none, .bool false, .ref s.heap.objs.size, rawInt 0, .none, .none] }) (s.heap.objs.size + 1) s.heap.objs.size 0 .none := by
    have z := Heap.get?_push_size (s.heap.push o) (o := { cls := .type "enumerate", data := .fields #[.none, .bool false, .ref s.heap.objs.size, rawInt 0, .none, .none] }) rfl
    rw [sz] at z
    exact z
  exact ⟨⟨_, ie, rfl⟩, h _ ie (Heap.get?_push_of_some _ (Heap.get?_push_size _ B.free)) fun b o x => Heap.get?_push_of_some _ (Heap.get?_push_of_some _ x)⟩
/-- the tuple at a, each item in a new pair behind its number -/
def IteT (K : PySem.W.Frag) (a : Addr) : It :=
  ⟨fun i H => ∃ (xs : List V) (x : V), SqT K H a xs ∧ xs[i]? = some x, fun i H v H' => ∃ T x, v = .ref T ∧ H T = none ∧ H' = upd H T (.tup [.int (i : Nat), x]) ∧ ∀ xs, SqT K H a xs → xs[i]? = some x, fun i H => ∃ xs : List V, SqT K H a xs ∧ xs.length ≤ i⟩
theorem turn_enT {P : Program} {w : World} {K : PySem.W.Frag} {elts : List Expr} {kk : Nat} {tpos : Pos} (a e it : Addr) (nea : e ≠ a) (nia : a ≠ it) :
    Turn P w K (.Tuple elts kk tpos) (IteT K a) [e, it] e (fun i h => (∃ old, IsEnum h e it ((i : Nat) : Int) old) ∧ h.IsTupleIter it a i ∧ e ≠ it) where
  mem := by simp
  obj := fun i h st b hb => by
    obtain ⟨⟨old, ie⟩, ⟨o, ho, hc, hd⟩, _⟩ := st
    have y : b = e ∨ b = it := by simpa using hb
    rcases y with z | z
    · rw [z]; exact ⟨_, ie, fun v q => nomatch q⟩
    · rw [z]; exact ⟨o, ho, fun v q => by rw [hd] at q; cases q⟩
  keep := fun i h h' st k => let ⟨⟨old, ie⟩, hi, ne⟩ := st; ⟨⟨old, k e (by simp) _ ie⟩, hi.at fun o q => k it (by simp) o q, ne⟩
  item := by
    intro X hP hw hK hc i pins s σ H E I hf st hg
    subst hP hw hK
    obtain ⟨⟨old, ie⟩, hit, ne⟩ := st
    obtain ⟨xs, x, hq, hx⟩ := hg
    obtain ⟨its, rv, p, _⟩ := I.tuple hq
    obtain ⟨u, hu, ru⟩ := rv.get hx
    have le : e < s.heap.objs.size := Heap.lt_size ie
    have li : it < s.heap.objs.size := by obtain ⟨_, q, _⟩ := hit; exact Heap.lt_size q
    have iu : i < its.toArray.size := by
      have := (List.getElem?_eq_some_iff.mp hu).1
      simpa using this
    have D := Draws.tuple (prog := X.prog) (w := X.w) (A := X.A.in1) (I.ok.hd hc) it a nia its.toArray
    refine wpAny_pyNext_enum_itemD D ie ⟨hit, p⟩ iu ne (by simp [ne, nea]) fun x' h' tk hP' ho hit' hT _ hk => ?_
    have ex : x' = u := by
      have z : its.toArray[i]? = some x' := hP'
      rw [show its.toArray[i]? = some u by simpa using hu] at z
      exact (Option.some.inj z).symm
    subst ex
    refine ⟨_, rfl, wpAny_letOwnedTupleGo_enum (s := { s with heap := h', toks := tk + 1 }) ho fun h'' ie' sb => ?_⟩
    have hT2 : h''.get? s.heap.objs.size = some { cls := .type "tuple", data := .seq #[.int i tk, x'] } := (sb.2 _ (Nat.ne_of_gt le)).trans hT
    have new : ObjOk X.prog X.w (upd H s.heap.objs.size (.tup [.int (i : Nat), x])) h'' s.heap.objs.size (.tup [.int (i : Nat), x]) :=
      ⟨by show 2 ≤ sizeLine; decide, [.int i tk, x'], .cons ⟨_, rfl⟩ (.cons ru .nil), ⟨_, hT2, rfl, _, rfl⟩⟩
    have I1 : Inv X pins σ (upd H s.heap.objs.size (.tup [.int (i : Nat), x])) { s with heap := h'', toks := tk + 1 } :=
      I.turnedNew (ch := [e, it]) (fun b ob hb q => (sb.2 b (fun z => hb (by simp [z]))).trans (hk b ob (fun z => hb (by simp [z])) (fun z => hb (by simp [z])) q)) hf (Nat.le_refl _) new
    refine ⟨.ref s.heap.objs.size, _, I1, rfl, ⟨_, x, rfl, I.hok.fresh (Nat.le_refl _), rfl, fun ys hy => by rw [I.tuple_inj hy hq]; exact hx⟩, ⟨⟨x', ?_⟩, hit'.1.at fun o q => (sb.2 it (Ne.symm ne)).trans q, ne⟩, fun b hb => ?_⟩
    · have z : ((i + 1 : Nat) : Int) = (i : Int) + 1 := by omega
      rw [z]; exact ie'
    · have lb : b < s.heap.objs.size := by
        have y : b = e ∨ b = it := by simpa using hb
        rcases y with z | z
        · rw [z]; exact le
        · rw [z]; exact li
      rw [upd_ne (Nat.ne_of_lt lb)]
      exact (hf b hb).1
  done := by
    intro X hP hw hK hc i pins s σ H E I hf st hg
    subst hP hw hK
    obtain ⟨⟨old, ie⟩, hit, ne⟩ := st
    obtain ⟨xs, hq, hx⟩ := hg
    obtain ⟨its, rv, p, _⟩ := I.tuple hq
    obtain ⟨f0, f1, f2, f3, f4, f5⟩ := hf it (by simp)
    have hl := rv.length
    have no : (its.toArray)[i]? = none := by
      simp
      omega
    have D2 : Draws X.prog X.w X.A.in1 it [it, a] i (fun _ _ => True) (fun j h => j = i ∧ h.IsTupleIter it a i ∧ h.IsTuple a its.toArray) :=
      ⟨fun _ _ st => let ⟨o, ho, _⟩ := st.2.1; ⟨o, ho⟩, fun _ _ _ st hk => ⟨st.1, st.2.1.at fun o e => hk it (by simp) o e, st.2.2.at fun o e => hk a (by simp) o e⟩,
        fun j s Q E hj st q => absurd st.1 (Nat.ne_of_lt hj), fun s Q E st q => wpAny_nextOf_tuple_end (I.ok.hd hc) st.2.1 st.2.2 no q⟩
    exact wpAny_pyNext_enum_endD D2 ie ⟨rfl, hit, p⟩ fun h' eb => ⟨rfl, I.turned (t' := s.toks) (fun b o hb q => eb b o hb q) f0 f1 f3 f4 f5⟩
  self := fun A i s Q E st h => let ⟨⟨_, ie⟩, _⟩ := st; wpAny_pyIter_enum ie h
/-- a list or a tuple, numbered -/
def iEn (K : PySem.W.Frag) (ta : TA) : L2.TI := fun σ H R => ta σ H fun vs H1 => ∃ a xs, vs = [.ref a] ∧ ((SqL K H1 a xs ∧ R (Ite K a) H1) ∨ (SqT K H1 a xs ∧ R (IteT K a) H1))
theorem pi_en {X : Cx} {e : Expr} {ta : TA} {p pos tpos : Pos} {elts : List Expr} {kk : Nat} (hg : Gl X "enumerate") (hm : X.mg "enumerate" = none) (ha : PA X [e] ta) (hs : starEach [e] X.env = [(false, eval e X.env)]) :
    PI X (.Tuple elts kk tpos) (.Call (.Name "enumerate" p) [e] [] pos) (iEn X.K ta) := by
  refine ⟨fun pins s σ H R I h => ?_⟩
  refine Call_ (ld_blt I hg hm boot_enumerate (PyProof.Rows.callWith_type1 (thn (ha.run pos pins s σ H _ I h) fun us s1 ⟨vs, H1, I1, r1, q1⟩ => ?_) hs rfl))
  obtain ⟨a, xs, ex, q⟩ := q1
  subst ex
  obtain ⟨u, rfl, ru⟩ := vals1 r1
  cases ru
  have fr : ∀ b ∈ [s1.heap.objs.size + 1, s1.heap.objs.size], FpOk X pins H1 b := fun b hb => by
    have y : b = s1.heap.objs.size + 1 ∨ b = s1.heap.objs.size := by simpa using hb
    have le : s1.heap.objs.size ≤ b := by
      rcases y with z | z
      · rw [z]; exact Nat.le_add_right _ _
      · rw [z]; exact Nat.le_refl _
    exact I1.fpOk le (I1.hok.fresh le)
  rcases q with ⟨hq, q⟩ | ⟨hq, q⟩
  · obtain ⟨its, rv, pl, _⟩ := I1.list hq
    refine call_enumerate_list pl.isList fun h' ie hit _ hk => wpAny_pyIter_enum ie ?_
    exact ⟨_, _, _, _, H1, rfl, I1.kept (t' := s1.toks) hk, turn_enum a (s1.heap.objs.size + 1) s1.heap.objs.size, ⟨⟨.none, ie⟩, hit, Nat.succ_ne_self _⟩, fr, q⟩
  · obtain ⟨its, rv, pl, _⟩ := I1.tuple hq
    have la : a < s1.heap.objs.size := by
      obtain ⟨o, ho, _⟩ := pl
      exact Heap.lt_size ho
    refine en_call (begins_tuple a its.toArray) pl fun h' ie hit hk => wpAny_pyIter_enum ie ?_
    exact ⟨_, _, _, _, H1, rfl, I1.kept (t' := s1.toks) hk, turn_enT a (s1.heap.objs.size + 1) s1.heap.objs.size (Nat.ne_of_gt (Nat.lt_succ_of_lt la)) (Nat.ne_of_lt la), ⟨⟨.none, ie⟩, ⟨_, hit, rfl, rfl⟩, Nat.succ_ne_self _⟩, fr, q⟩
end Ev
/-! EvExp: rules of expressions over the combinators. -/
namespace Ev
open PySem PySem.Spec PyProof.Rows L2

theorem line_eq : line = sizeLine := by rw [sizeLine_eq]; rfl
/-! ### operations by data -/
def rOp (K : PySem.W.Frag) (f : PyData → PyData → Option PyData) : R2 := fun x y H Q => ∃ P d e r, (∀ a, P a → H a ≠ none) ∧ RD K H P x d ∧ RD K H P y e ∧ f d e = some r ∧ ∀ u H', Same H H' → Rp K H' P u r → Q u H'
def rCm (K : PySem.W.Frag) (f : PyData → PyData → Option Bool) : R2 := fun x y H Q => ∃ P d e r, RD K H P x d ∧ RD K H P y e ∧ f d e = some r ∧ Q (.bl r) H
def rUn (K : PySem.W.Frag) (f : PyData → Option PyData) : V → Hp → VK → Prop := fun x H Q => ∃ P d r, (∀ a, P a → H a ≠ none) ∧ RD K H P x d ∧ f d = some r ∧ ∀ u H', Same H H' → Rp K H' P u r → Q u H'
section
variable {K : PySem.W.Frag} {H : Hp} {P : AP'} {Q : VK}
theorem put_lst {xs : List V} {ds : List PyData} (hp : ∀ a, P a → H a ≠ none) (r : RpAll K H P xs ds) (q : ∀ u H', Same H H' → Rp K H' P u (.list ds) → Q u H') : ∀ p, H p = none → Q (.ref p) (upd H p (.lst xs)) := fun p hn =>
  q _ _ (same_upd hn) (.lst upd_same (fun z => hp p z hn) (r.ext (.same (same_upd hn))))
theorem put_tup {xs : List V} {ds : List PyData} (r : RpAll K H P xs ds) (q : ∀ u H', Same H H' → Rp K H' P u (.tuple ds) → Q u H') : ∀ p, H p = none → Q (.ref p) (upd H p (.tup xs)) := fun p hn =>
  q _ _ (same_upd hn) (.tup (SqT.of upd_same) (r.ext (.same (same_upd hn))))
theorem RD.rpT {v : V} {ds : List PyData} (h : RD K H P v (.tuple ds)) : Rp K H P v (.tuple ds) := by
  cases h with
  | dat r => exact r
end
section
variable {X : Cx}
theorem of_if {α : Type} {c : Bool} {a : α} {r : α} (h : (if c = true then some a else none) = some r) : c = true ∧ a = r := by
  cases c with
  | true => exact ⟨rfl, Option.some.inj h⟩
  | false => cases h
theorem op_pAdd : OpR X (binaryOp .Add) (rOp X.K pAdd) := by
  intro pins s σ H x y v u Q I rx ry h
  obtain ⟨P, d, e, r, hp, hd, he, hf, q⟩ := h
  unfold pAdd at hf
  split at hf
  · cases hf; cases hd.int; cases he.int
    exact op_add pins s σ H _ _ v u Q I rx ry ⟨_, _, rfl, rfl, q _ _ (Same.refl H) (.int _)⟩
  · split at hf
    · rename_i hl
      cases hf; cases hd.str; cases he.str
      exact op_add_str pins s σ H _ _ v u Q I rx ry ⟨_, _, rfl, rfl, by rw [← line_eq]; exact hl, q _ _ (Same.refl H) (.str _)⟩
    · cases hf
  · split at hf
    · rename_i hl
      cases hf
      obtain ⟨a, xs, rfl, ha, hr⟩ := hd.tup
      obtain ⟨b, ys, rfl, hb, hs⟩ := he.tup
      have l1 := hr.length
      have l2 := hs.length
      refine op_catA pins s σ H _ _ v u Q I rx ry ⟨a, b, xs, ys, rfl, rfl, ha, hb, by rw [l1, l2, ← line_eq]; exact hl, fun e => ?_, fun n e => ?_, fun _ _ => ?_⟩
      · subst e; cases hr
        exact q _ _ (Same.refl H) he.rpT
      · subst e; cases hs
        rw [List.append_nil] at q
        exact q _ _ (Same.refl H) hd.rpT
      · exact put_tup (hr.append hs) q
    · cases hf
  · split at hf
    · rename_i hl
      cases hf
      obtain ⟨a, xs, rfl, ha, hr⟩ := hd.lst
      obtain ⟨b, ys, rfl, hb, hs⟩ := he.lst
      exact op_cat pins s σ H _ _ v u Q I rx ry ⟨a, b, xs, ys, rfl, rfl, ha, hb, by rw [hr.length, hs.length, ← line_eq]; exact hl, put_lst hp (hr.append hs) q⟩
    · cases hf
  · cases hf
theorem op_pSub : OpR X (binaryOp .Sub) (rOp X.K pSub) := by
  intro pins s σ H x y v u Q I rx ry h
  obtain ⟨P, d, e, r, hp, hd, he, hf, q⟩ := h
  unfold pSub at hf
  split at hf
  · cases hf; cases hd.int; cases he.int
    exact op_sub pins s σ H _ _ v u Q I rx ry ⟨_, _, rfl, rfl, q _ _ (Same.refl H) (.int _)⟩
  · cases hf
theorem op_pMul : OpR X (binaryOp .Mult) (rOp X.K pMul) := by
  intro pins s σ H x y v u Q I rx ry h
  obtain ⟨P, d, e, r, hp, hd, he, hf, q⟩ := h
  unfold pMul at hf
  split at hf
  · obtain ⟨c, rfl⟩ := of_if hf
    cases hd.int; cases he.int
    refine op_mulW pins s σ H _ _ v u Q I rx ry ⟨_, _, rfl, rfl, ?_, q _ _ (Same.refl H) (.int _)⟩
    exact Nat.le_of_ble_eq_true c
  · obtain ⟨c, rfl⟩ := of_if hf
    rw [Bool.and_eq_true] at c
    obtain ⟨c1, c2⟩ := c
    have c1 := Nat.le_of_ble_eq_true c1
    have c2 := Nat.le_of_ble_eq_true c2
    obtain ⟨a, xs, rfl, ha, hr⟩ := hd.lst
    cases he.int
    have hl : line = 16777216 := rfl
    exact op_rep pins s σ H _ _ v u Q I rx ry ⟨a, _, xs, rfl, rfl, ha, by omega, by omega, by rw [hr.length, ← line_eq]; exact c1, put_lst hp (hr.rep _) q⟩
  · obtain ⟨c, rfl⟩ := of_if hf
    simp only [Bool.and_eq_true, decide_eq_true_eq] at c
    obtain ⟨⟨⟨c1, c2⟩, c3⟩, c4⟩ := c
    have c1 := Nat.le_of_ble_eq_true c1
    have c4 := Nat.le_of_ble_eq_true c4
    obtain ⟨a, xs, rfl, ha, hr⟩ := hd.tup
    cases he.int
    have hl := hr.length
    exact op_repT pins s σ H _ _ v u Q I rx ry ⟨a, _, xs, rfl, rfl, ha, fun z => by subst z; cases hr; simp at c1, c2, c3, by omega, put_tup (hr.rep _) q⟩
  · cases hf
theorem op_pDiv : OpR X (binaryOp .FloorDiv) (rOp X.K pDiv) := by
  intro pins s σ H x y v u Q I rx ry h
  obtain ⟨P, d, e, r, hp, hd, he, hf, q⟩ := h
  unfold pDiv at hf
  split at hf
  · obtain ⟨c, rfl⟩ := of_if hf
    unfold divOk at c
    simp only [Bool.and_eq_true, decide_eq_true_eq] at c
    cases hd.int; cases he.int
    exact op_fdivW pins s σ H _ _ v u Q I rx ry ⟨_, _, rfl, rfl, ⟨c.1, Nat.le_of_ble_eq_true c.2⟩, q _ _ (Same.refl H) (.int _)⟩
  · cases hf
theorem op_pMod : OpR X (binaryOp .Mod) (rOp X.K pMod) := by
  intro pins s σ H x y v u Q I rx ry h
  obtain ⟨P, d, e, r, hp, hd, he, hf, q⟩ := h
  unfold pMod at hf
  split at hf
  · obtain ⟨c, rfl⟩ := of_if hf
    cases hd.int; cases he.int
    exact op_mod pins s σ H _ _ v u Q I rx ry ⟨_, _, rfl, rfl, of_decide_eq_true c, q _ _ (Same.refl H) (.int _)⟩
  · cases hf
theorem op_pPow : OpR X (binaryOp .Pow) (rOp X.K pPow) := by
  intro pins s σ H x y v u Q I rx ry h
  obtain ⟨P, d, e, r, hp, hd, he, hf, q⟩ := h
  unfold pPow at hf
  split at hf
  · obtain ⟨c, rfl⟩ := of_if hf
    simp only [Bool.and_eq_true, decide_eq_true_eq] at c
    obtain ⟨⟨c1, c2⟩, c3⟩ := c
    have c3 := Nat.le_of_ble_eq_true c3
    cases hd.int; cases he.int
    exact op_pow pins s σ H _ _ v u Q I rx ry ⟨_, _, rfl, rfl, ⟨c1, by omega, by omega⟩, q _ _ (Same.refl H) (.int _)⟩
  · cases hf
theorem op_of {op : Operator} {f : PyData → PyData → Option PyData} (h : pOp op = some f) : OpR X (binaryOp op) (rOp X.K f) := by
  cases op <;> first | cases h
  · exact op_pAdd
  · exact op_pSub
  · exact op_pMul
  · exact op_pMod
  · exact op_pPow
  · exact op_pDiv
theorem anyEqv_any (d : PyData) : ∀ zs : List PyData, anyEqv d zs = zs.any fun z => PyData.eqv z d
  | [] => rfl
  | z :: zs => by unfold anyEqv; rw [anyEqv_any d zs, List.any_cons]
theorem cm_eq (hu : X.A.units + 64 < cLine) : OpR X (compareOp .Eq) (rCm X.K pEq) := by
  intro pins s σ H x y v u Q I rx ry h
  obtain ⟨P, d, e, r, hd, he, hf, q⟩ := h
  obtain ⟨c, rfl⟩ := of_if hf
  rw [Bool.and_eq_true] at c
  exact op_eqD hu pins s σ H x y v u Q I rx ry ⟨d, e, hd.dp, he.dp, c.1, c.2, q⟩
theorem cm_ne (hu : X.A.units + 64 < cLine) : OpR X (compareOp .NotEq) (rCm X.K pNe) := by
  intro pins s σ H x y v u Q I rx ry h
  obtain ⟨P, d, e, r, hd, he, hf, q⟩ := h
  unfold pNe at hf
  obtain ⟨b, hb, rfl⟩ := Option.map_eq_some_iff.mp hf
  obtain ⟨c, rfl⟩ := of_if hb
  rw [Bool.and_eq_true] at c
  exact op_neD hu pins s σ H x y v u Q I rx ry ⟨d, e, hd.dp, he.dp, c.1, c.2, q⟩
theorem cm_lt : OpR X (compareOp .Lt) (rCm X.K pLt) := by
  intro pins s σ H x y v u Q I rx ry h
  obtain ⟨P, d, e, r, hd, he, hf, q⟩ := h
  unfold pLt at hf
  split at hf
  · cases hf; cases hd.int; cases he.int
    exact op_lt pins s σ H _ _ v u Q I rx ry ⟨_, _, rfl, rfl, q⟩
  · cases hf; cases hd.str; cases he.str
    exact op_lt_str pins s σ H _ _ v u Q I rx ry ⟨_, _, rfl, rfl, q⟩
  · cases hf
theorem cm_le : OpR X (compareOp .LtE) (rCm X.K pLe) := by
  intro pins s σ H x y v u Q I rx ry h
  obtain ⟨P, d, e, r, hd, he, hf, q⟩ := h
  unfold pLe at hf
  split at hf
  · cases hf; cases hd.int; cases he.int
    exact op_le pins s σ H _ _ v u Q I rx ry ⟨_, _, rfl, rfl, q⟩
  · cases hf
theorem cm_gt : OpR X (compareOp .Gt) (rCm X.K pGt) := by
  intro pins s σ H x y v u Q I rx ry h
  obtain ⟨P, d, e, r, hd, he, hf, q⟩ := h
  unfold pGt at hf
  split at hf
  · cases hf; cases hd.int; cases he.int
    exact op_gt pins s σ H _ _ v u Q I rx ry ⟨_, _, rfl, rfl, q⟩
  · cases hf
theorem cm_ge : OpR X (compareOp .GtE) (rCm X.K pGe) := by
  intro pins s σ H x y v u Q I rx ry h
  obtain ⟨P, d, e, r, hd, he, hf, q⟩ := h
  unfold pGe at hf
  split at hf
  · cases hf; cases hd.int; cases he.int
    exact op_ge pins s σ H _ _ v u Q I rx ry ⟨_, _, rfl, rfl, q⟩
  · cases hf
theorem RD.none_iff {K : PySem.W.Frag} {H : Hp} {P : AP'} {v : V} {d : PyData} (h : RD K H P v d) : decide (v = V.non) = isNone d := by
  cases h with
  | dat r => cases r <;> rfl
  | loc h r => rfl
theorem cm_is : OpR X (compareOp .Is) (rCm X.K pIs) := by
  intro pins s σ H x y v u Q I rx ry h
  obtain ⟨P, d, e, r, hd, he, hf, q⟩ := h
  unfold pIs at hf
  split at hf
  · cases hf
    cases he.non
    exact op_isN pins s σ H _ _ v u Q I rx ry ⟨rfl, by rw [hd.none_iff]; exact q⟩
  · cases hf
    cases hd.bool; cases he.bool
    rename_i a b
    refine op_isBl pins s σ H _ _ v u Q I rx ry ⟨a, b, rfl, rfl, ?_⟩
    have e : decide (a = b) = (a == b) := by cases a <;> cases b <;> rfl
    rw [e]; exact q
  · cases hf
theorem cm_isNot : OpR X (compareOp .IsNot) (rCm X.K pIsNot) := by
  intro pins s σ H x y v u Q I rx ry h
  obtain ⟨P, d, e, r, hd, he, hf, q⟩ := h
  unfold pIsNot at hf
  obtain ⟨b, hb, rfl⟩ := Option.map_eq_some_iff.mp hf
  unfold pIs at hb
  split at hb
  · cases hb
    cases he.non
    exact op_notN pins s σ H _ _ v u Q I rx ry ⟨rfl, by rw [hd.none_iff]; exact q⟩
  · cases hb
    cases hd.bool; cases he.bool
    rename_i a b
    refine op_notBl pins s σ H _ _ v u Q I rx ry ⟨a, b, rfl, rfl, ?_⟩
    have e : decide (a = b) = (a == b) := by cases a <;> cases b <;> rfl
    rw [e]; exact q
  · cases hb
/-- in, not in a tuple of data -/
theorem in_tup {neg : Bool} {pins : List (Addr × Obj)} {s : Shared} {σ : L2.St} {H : Hp} {x y : V} {v u : Value} {Q : VK} {d : PyData} {zs : List PyData} (hu : X.A.units + 65 < cLine) (I : Inv X pins σ H s) (rx : RelV x v) (ry : RelV y u)
    (hd : Dp X.K H x d) (he : Dp X.K H y (.tuple zs)) (c1 : SeqAt.shaped d = true) (c2 : SeqAt.shaped (.tuple zs) = true) (q : Q (.bl (if neg then !zs.any (fun z => PyData.eqv z d) else zs.any fun z => PyData.eqv z d)) H) :
    wpAny (model X.prog X.w) X.A (compareOp (if neg then .NotIn else .In) v u) (EP X pins σ Q) X.xe s := by
  obtain ⟨ks, m1⟩ := Dp.reads I d x v hd rx
  obtain ⟨ls, m2⟩ := Dp.reads I (.tuple zs) y u he ry
  have hroom := room_in_shaped c1 hu (xs := zs)
  cases neg with
  | false => exact SeqAt.in_tuple_reads m2 m1 (SeqAt.canLay_of_shaped c2) (SeqAt.canLay_of_shaped c1) hroom ⟨.bl _, H, I, rfl, q⟩
  | true => exact SeqAt.notIn_tuple_reads m2 m1 (SeqAt.canLay_of_shaped c2) (SeqAt.canLay_of_shaped c1) hroom ⟨.bl _, H, I, rfl, q⟩
theorem cm_in (hu : X.A.units + 65 < cLine) : OpR X (compareOp .In) (rCm X.K pIn) := by
  intro pins s σ H x y v u Q I rx ry h
  obtain ⟨P, d, e, r, hd, he, hf, q⟩ := h
  unfold pIn at hf
  split at hf
  · obtain ⟨c, rfl⟩ := of_if hf
    rw [Bool.and_eq_true] at c
    rw [anyEqv_any] at q
    exact op_inD hu pins s σ H x y v u Q I rx ry ⟨d, _, hd.dp, he.dp, c.1, c.2, q⟩
  · obtain ⟨c, rfl⟩ := of_if hf
    rw [Bool.and_eq_true] at c
    rw [anyEqv_any] at q
    exact in_tup (neg := false) hu I rx ry hd.dp he.dp c.1 c.2 q
  · cases hf
theorem cm_notIn (hu : X.A.units + 65 < cLine) : OpR X (compareOp .NotIn) (rCm X.K pNotIn) := by
  intro pins s σ H x y v u Q I rx ry h
  obtain ⟨P, d, e, r, hd, he, hf, q⟩ := h
  unfold pNotIn at hf
  obtain ⟨b, hb, rfl⟩ := Option.map_eq_some_iff.mp hf
  unfold pIn at hb
  split at hb
  · obtain ⟨c, rfl⟩ := of_if hb
    rw [Bool.and_eq_true] at c
    rw [anyEqv_any] at q
    exact op_notInD hu pins s σ H x y v u Q I rx ry ⟨d, _, hd.dp, he.dp, c.1, c.2, q⟩
  · obtain ⟨c, rfl⟩ := of_if hb
    rw [Bool.and_eq_true] at c
    rw [anyEqv_any] at q
    exact in_tup (neg := true) hu I rx ry hd.dp he.dp c.1 c.2 q
  · cases hb
theorem cm_of (hu : X.A.units + 65 < cLine) (op : CmpOp) : OpR X (compareOp op) (rCm X.K (pCmp op)) := by
  cases op
  · exact cm_eq (by omega)
  · exact cm_ne (by omega)
  · exact cm_lt
  · exact cm_le
  · exact cm_gt
  · exact cm_ge
  · exact cm_is
  · exact cm_isNot
  · exact cm_in hu
  · exact cm_notIn hu
end

/-! ### the combinators -/
section
variable {X : Cx} {a b c : Expr} {rest : List Expr} {ma mb mc : ME} {pos : Pos}
theorem okD_ok {o : Option PyData} {s s' : Sto} {v : Vl} (h : okD o s = .ok v s') : ∃ d, o = some d ∧ v = .dat d ∧ s' = s := by
  cases o with
  | none => cases h
  | some d => cases h; exact ⟨d, rfl, rfl, rfl⟩
theorem okB_ok {o : Option Bool} {s s' : Sto} {v : Vl} (h : okB o s = .ok v s') : ∃ d, o = some d ∧ v = .dat (.bool d) ∧ s' = s := by
  cases o with
  | none => cases h
  | some d => cases h; exact ⟨d, rfl, rfl, rfl⟩
theorem xp_cst {e : Expr} {v : V} {d : PyData} (h : PE X e (tC v)) (r : ∀ H P, Rp X.K H P v d) : PE X e (rdE X.K (eCst d)) :=
  PE.mono h fun σ H Q ⟨ι, P, env, st, A, w, st', e, q⟩ => by
    cases e
    exact q _ _ (ExtP.refl _ _) A.s (.dat (r _ _))
theorem xp_var {i : Nat} {e : Expr} (h : PE X e (tVar i)) : PE X e (rdE X.K (eVar i)) :=
  PE.mono h fun σ H Q ⟨ι, P, env, st, A, w, st', e, q⟩ => by
    unfold eVar at e
    split at e
    · rename_i v hv
      cases e
      obtain ⟨u, h1, h2⟩ := A.e.at_ i _ hv
      exact ⟨u, h1, q _ _ (ExtP.refl _ _) A.s h2⟩
    · cases e
/-- a step behind an expression -/
theorem rdE.bind {K : PySem.W.Frag} {ι : List Addr} {P : AP'} {env : Env} {st st1 : Sto} {σ : L2.St} {H : Hp} {Q : VK} {m : ME} {v : Vl} (A : At K H P ι σ env st) (e : m env st = .ok v st1)
    (h : ∀ u H', Ext ι H H' → At K H' P ι σ env st1 → RV K H' P ι u v → Q u H') : rdE K m σ H Q :=
  ⟨ι, P, env, st, A, v, st1, e, fun u H' x r w => h u H' x (A.next x r) w⟩
theorem xp_e2 {op : Operator} {f : PyData → PyData → Option PyData} (ho : OpR X (binaryOp op) (rOp X.K f)) (ha : PE X a (rdE X.K ma)) (hb : PE X b (rdE X.K mb)) : PE X (.BinOp a op b pos) (rdE X.K (e2 f ma mb)) :=
  PE.mono (pe_op ho ha hb) fun σ H Q ⟨ι, P, env, st, A, w, st', e, q⟩ => by
    obtain ⟨x, s1, h1, e⟩ := bind_ok e
    obtain ⟨y, s2, h2, e⟩ := bind_ok e
    split at e
    · rename_i d g hd hg
      obtain ⟨r, hr, rfl, rfl⟩ := okD_ok e
      refine rdE.bind A h1 fun u H1 x1 A1 r1 => rdE.bind A1 h2 fun t H2 x2 A2 r2 => ?_
      exact ⟨P, d, g, r, A2.s.pthere, (r1.ext (A1.s.extP x2)).rd A2.s hd, r2.rd A2.s hg, hr, fun z H3 sm rp => q z H3 ((x1.trans x2).trans (.same sm)) (A2.s.same sm) (.dat rp)⟩
    · cases e
theorem xp_cmp {op : CmpOp} {f : PyData → PyData → Option Bool} (ho : OpR X (compareOp op) (rCm X.K f)) (ha : PE X a (rdE X.K ma)) (hb : PE X b (rdE X.K mb)) (hm : behindInMarks op b = false) : PE X (.Compare a [op] [b] pos) (rdE X.K (eCmp f ma mb)) :=
  PE.mono (pe_cmpR ho ha hb hm) fun σ H Q ⟨ι, P, env, st, A, w, st', e, q⟩ => by
    obtain ⟨x, s1, h1, e⟩ := bind_ok e
    obtain ⟨y, s2, h2, e⟩ := bind_ok e
    split at e
    · rename_i d g hd hg
      obtain ⟨r, hr, rfl, rfl⟩ := okB_ok e
      refine rdE.bind A h1 fun u H1 x1 A1 r1 => rdE.bind A1 h2 fun t H2 x2 A2 r2 => ?_
      exact ⟨P, d, g, r, (r1.ext (A1.s.extP x2)).rd A2.s hd, r2.rd A2.s hg, hr, q _ _ (x1.trans x2) A2.s (.dat (.bl r))⟩
    · cases e
/-- as a test -/
theorem xt_cmp {op : CmpOp} {f : PyData → PyData → Option Bool} (ho : OpR X (compareOp op) (rCm X.K f)) (ha : PE X a (rdE X.K ma)) (hb : PE X b (rdE X.K mb)) (hm : behindInMarks op b = false) : PT X (.Compare a [op] [b] pos) (rdT X.K (tOf (eCmp f ma mb))) :=
  PT.mono (pt_cmpR ho ha hb hm) fun σ H Q ⟨ι, P, env, st, A, w, st', e, q⟩ => by
    obtain ⟨z, s0, e, e0⟩ := bind_ok e
    obtain ⟨x, s1, h1, e⟩ := bind_ok e
    obtain ⟨y, s2, h2, e⟩ := bind_ok e
    split at e
    · rename_i d g hd hg
      obtain ⟨r, hr, rfl, rfl⟩ := okB_ok e
      cases e0
      refine rdE.bind A h1 fun u H1 x1 A1 r1 => rdE.bind A1 h2 fun t H2 x2 A2 r2 => ?_
      exact ⟨P, d, g, _, (r1.ext (A1.s.extP x2)).rd A2.s hd, r2.rd A2.s hg, hr, _, rfl, q _ (x1.trans x2) A2.s⟩
    · cases e
theorem tOf_ok {m : ME} {env : Env} {s s' : Sto} {b : Bool} (h : tOf m env s = .ok b s') : m env s = .ok (.dat (.bool b)) s' := by
  obtain ⟨x, s1, h1, e⟩ := bind_ok h
  split at e
  · cases e; exact h1
  · cases e
theorem RV.bool {K : PySem.W.Frag} {H : Hp} {P : AP'} {ι : List Addr} {v : V} {b : Bool} (h : RV K H P ι v (.dat (.bool b))) : v = .bl b := by
  cases h with
  | dat r => cases r; rfl
/-- a plain expression as a test -/
theorem xt_plain {e : Expr} (h : PE X e (rdE X.K ma)) (he : ∀ whole, isTrue e X.env whole = (do let v ← whole; standAt e.pos; holding [v] (truthy v))) : PT X e (rdT X.K (tOf ma)) :=
  PT.mono (pt_val h he) fun σ H Q ⟨ι, P, env, st, A, w, st', e, q⟩ => by
    refine rdE.bind A (tOf_ok e) fun u H1 x1 A1 r1 => ⟨w, r1.bool, q _ x1 A1.s⟩
theorem xp_and (ha : PE X a (rdE X.K ma)) (hb : PE X (.BoolOp .And (b :: rest) pos) (rdE X.K mb)) : PE X (.BoolOp .And (a :: b :: rest) pos) (rdE X.K (eAnd ma mb)) :=
  PE.mono (pe_and ha hb) fun σ H Q ⟨ι, P, env, st, A, w, st', e, q⟩ => by
    obtain ⟨k, s1, h1, e⟩ := bind_ok e
    refine rdE.bind A (tOf_ok h1) fun u H1 x1 A1 r1 => ⟨k, r1.bool, ?_⟩
    cases k with
    | true => exact rdE.bind A1 e fun t H2 x2 A2 r2 => q t H2 (x1.trans x2) A2.s r2
    | false =>
      cases e
      exact q _ _ x1 A1.s (.dat (.bl false))
theorem xp_or (ha : PE X a (rdE X.K ma)) (hb : PE X (.BoolOp .Or (b :: rest) pos) (rdE X.K mb)) : PE X (.BoolOp .Or (a :: b :: rest) pos) (rdE X.K (eOr ma mb)) :=
  PE.mono (pe_or ha hb) fun σ H Q ⟨ι, P, env, st, A, w, st', e, q⟩ => by
    obtain ⟨k, s1, h1, e⟩ := bind_ok e
    refine rdE.bind A (tOf_ok h1) fun u H1 x1 A1 r1 => ⟨k, r1.bool, ?_⟩
    cases k with
    | false => exact rdE.bind A1 e fun t H2 x2 A2 r2 => q t H2 (x1.trans x2) A2.s r2
    | true =>
      cases e
      exact q _ _ x1 A1.s (.dat (.bl true))
theorem xp_not (ha : PE X a (rdE X.K ma)) : PE X (.UnaryOp .Not a pos) (rdE X.K (eNot ma)) :=
  PE.mono (pe_not ha) fun σ H Q ⟨ι, P, env, st, A, w, st', e, q⟩ => by
    obtain ⟨k, s1, h1, e⟩ := bind_ok e
    cases e
    exact rdE.bind A (tOf_ok h1) fun u H1 x1 A1 r1 => ⟨k, r1.bool, q _ _ x1 A1.s (.dat (.bl _))⟩
theorem rdT.bind {K : PySem.W.Frag} {ι : List Addr} {P : AP'} {env : Env} {st st1 : Sto} {σ : L2.St} {H : Hp} {Q : Bool → Hp → Prop} {m : MT} {v : Bool} (A : At K H P ι σ env st) (e : m env st = .ok v st1)
    (h : ∀ H', Ext ι H H' → At K H' P ι σ env st1 → Q v H') : rdT K m σ H Q :=
  ⟨ι, P, env, st, A, v, st1, e, fun H' x r => h H' x (A.next x r)⟩
theorem xt_not (ha : PT X a (rdT X.K (tOf ma))) : PT X (.UnaryOp .Not a pos) (rdT X.K (tOf (eNot ma))) :=
  PT.mono (pt_not ha) fun σ H Q ⟨ι, P, env, st, A, w, st', e, q⟩ => by
    obtain ⟨k, s1, h1, e⟩ := bind_ok (tOf_ok e)
    cases e
    exact rdT.bind A h1 fun H1 x1 A1 => q _ x1 A1.s
theorem xw_one {op : BoolOp} (ha : PT X a (rdT X.K (tOf ma))) : PW X (.BoolOp op [a] pos) (rdT X.K (tOf ma)) := by
  cases op
  · exact pw_and1 ha
  · exact pw_or1 ha
theorem xw_and (ha : PT X a (rdT X.K (tOf ma))) (hb : PW X (.BoolOp .And (b :: rest) pos) (rdT X.K (tOf mb))) : PW X (.BoolOp .And (a :: b :: rest) pos) (rdT X.K (tOf (eAnd ma mb))) :=
  PW.mono (pw_and ha hb) fun σ H Q ⟨ι, P, env, st, A, w, st', e, q⟩ => by
    obtain ⟨k, s1, h1, e⟩ := bind_ok (tOf_ok e)
    refine rdT.bind A h1 fun H1 x1 A1 => ?_
    cases k with
    | true =>
      rw [if_pos rfl]
      refine rdT.bind (st1 := st') (v := w) A1 ?_ fun H2 x2 A2 => q H2 (x1.trans x2) A2.s
      show (mb env s1).bind _ = _
      have e' : mb env s1 = .ok (.dat (.bool w)) st' := e
      rw [e']; rfl
    | false =>
      cases e
      exact q _ x1 A1.s
theorem xw_or (ha : PT X a (rdT X.K (tOf ma))) (hb : PW X (.BoolOp .Or (b :: rest) pos) (rdT X.K (tOf mb))) : PW X (.BoolOp .Or (a :: b :: rest) pos) (rdT X.K (tOf (eOr ma mb))) :=
  PW.mono (pw_or ha hb) fun σ H Q ⟨ι, P, env, st, A, w, st', e, q⟩ => by
    obtain ⟨k, s1, h1, e⟩ := bind_ok (tOf_ok e)
    refine rdT.bind A h1 fun H1 x1 A1 => ?_
    cases k with
    | false =>
      rw [if_neg Bool.false_ne_true]
      refine rdT.bind (st1 := st') (v := w) A1 ?_ fun H2 x2 A2 => q H2 (x1.trans x2) A2.s
      show (mb env s1).bind _ = _
      have e' : mb env s1 = .ok (.dat (.bool w)) st' := e
      rw [e']; rfl
    | true =>
      cases e
      exact q _ x1 A1.s
theorem xp_ife {c : Expr} (hc : PT X c (rdT X.K (tOf mc))) (ha : PE X a (rdE X.K ma)) (hb : PE X b (rdE X.K mb)) : PE X (.IfExp c a b pos) (rdE X.K (eIf mc ma mb)) :=
  PE.mono (pe_ifExp hc ha hb) fun σ H Q ⟨ι, P, env, st, A, w, st', e, q⟩ => by
    obtain ⟨k, s1, h1, e⟩ := bind_ok e
    refine rdT.bind A h1 fun H1 x1 A1 => ?_
    cases k with
    | true => exact rdE.bind A1 e fun t H2 x2 A2 r2 => q t H2 (x1.trans x2) A2.s r2
    | false => exact rdE.bind A1 e fun t H2 x2 A2 r2 => q t H2 (x1.trans x2) A2.s r2
theorem xp_neg (ha : PE X a (rdE X.K ma)) : PE X (.UnaryOp .USub a pos) (rdE X.K (e1 pNeg ma)) :=
  PE.mono (pe_un un_neg ha) fun σ H Q ⟨ι, P, env, st, A, w, st', e, q⟩ => by
    obtain ⟨x, s1, h1, e⟩ := bind_ok (noX_ok e)
    split at e
    · rename_i d hd
      obtain ⟨r, hr, rfl, rfl⟩ := okD_ok e
      refine rdE.bind A h1 fun u H1 x1 A1 r1 => ?_
      unfold pNeg at hr
      split at hr
      · cases hr
        cases (r1.rd A1.s hd).int
        exact ⟨_, rfl, q _ _ x1 A1.s (.dat (.int _))⟩
      · cases hr
    · cases e
end
end Ev
/-! EvSeq: rules of displays, calls, subscripts, built-ins over the combinators. -/
namespace Ev
open PySem PySem.Spec PyProof.Rows L2

/-! ### argument lists -/
def noStar : Expr → Bool
  | .Starred _ _ => false
  | _ => true
theorem star_cons {e : Expr} {es : List Expr} {env : PySem.Env} (h : noStar e = true) : starEach (e :: es) env = (false, eval e env) :: starEach es env := by
  cases e <;> first | rfl | cases h
theorem star_none {env : PySem.Env} {pos : Pos} : ∀ {es : List Expr}, es.all noStar = true → (backTo pos (starEach es env)).any (·.1) = false
  | [], _ => rfl
  | e :: es, h => by
    rw [List.all_cons, Bool.and_eq_true] at h
    rw [star_cons h.1]
    show (false || (backTo pos (starEach es env)).any (·.1)) = false
    rw [star_none h.2]; rfl
section
variable {K : PySem.W.Frag} {H H' : Hp} {P : AP'} {ι : List Addr}
theorem pairedRV_ext (e : ExtP P H H') : ∀ {us : List V} {vs : List Vl}, Paired (RV K H P ι) us vs → Paired (RV K H' P ι) us vs
  | _, _, .nil => .nil
  | _, _, .cons r t => .cons (r.ext e) (pairedRV_ext e t)
theorem dats_rp : ∀ {us : List V} {vs : List Vl} {ds : List PyData}, Paired (RV K H P ι) us vs → dats vs = some ds → RpAll K H P us ds
  | _, _, _, .nil, e => by cases e; exact .nil
  | _, _, _, .cons r t, e => by
    cases r with
    | dat q =>
      unfold dats at e
      split at e
      · rename_i ds' h
        cases e
        exact .cons q (dats_rp t h)
      · cases e
    | loc q => cases e
    | scr q _ => cases e
    | dct q => cases e
    | ftp q _ _ _ => cases e
theorem unf_rv : ∀ {us : List V} {vs : List Vl}, Paired (RV K H P ι) us vs → Paired (RV K H P ι) us (vs.map unf1)
  | _, _, .nil => .nil
  | _, _, .cons (b := v) r t => by
    refine .cons ?_ (unf_rv t)
    cases r with
    | dat q => exact .dat q
    | loc q => exact .loc q
    | scr q r => exact .scr q r
    | dct q => exact .dct q
    | ftp q _ _ r => exact .dat (.tup (.inl (.inr ⟨_, q⟩)) r)
theorem derefs_rd {st : Sto} (r : RS K H P ι st) : ∀ {us : List V} {vs : List Vl} {ds : List PyData}, Paired (RV K H P ι) us vs → eBlt.derefs st vs = some ds → Paired (RD K H P) us ds
  | _, _, _, .nil, e => by cases e; exact .nil
  | _, _, _, .cons q t, e => by
    unfold eBlt.derefs at e
    split at e
    · rename_i d ds' h1 h2
      cases e
      exact .cons (q.rd r h1) (derefs_rd r t h2)
    · cases e
theorem paired_append {α β : Type} {R : α → β → Prop} : ∀ {a : List α} {b : List β} {c : List α} {d : List β}, Paired R a b → Paired R c d → Paired R (a ++ c) (b ++ d)
  | _, _, _, _, .nil, s => s
  | _, _, _, _, .cons r t, s => .cons r (paired_append t s)
theorem rp_vals : ∀ {us : List V} {ds : List PyData}, RpAll K H P us ds → Paired (RV K H P ι) us (ds.map .dat)
  | _, _, .nil => .nil
  | _, _, .cons r t => .cons (.dat r) (rp_vals t)
end
section
variable {X : Cx} {a b c e : Expr} {es : List Expr} {ma mb mc : ME} {m : MA} {pos p : Pos}
theorem rdA.bind {K : PySem.W.Frag} {ι : List Addr} {P : AP'} {env : Env} {st st1 : Sto} {σ : L2.St} {H : Hp} {Q : List V → Hp → Prop} {m : MA} {v : List Vl} (A : At K H P ι σ env st) (e : m env st = .ok v st1)
    (h : ∀ u H', Ext ι H H' → At K H' P ι σ env st1 → Paired (RV K H' P ι) u v → Q u H') : rdA K m σ H Q :=
  ⟨ι, P, env, st, A, v, st1, e, fun u H' x r w => h u H' x (A.next x r) w⟩
theorem xa_nil : PA X [] (rdA X.K aNil) :=
  PA.mono pa_nil fun σ H Q ⟨ι, P, env, st, A, w, st', e, q⟩ => by
    cases e
    exact q _ _ (ExtP.refl _ _) A.s .nil
theorem xa_cons (ha : PE X a (rdE X.K ma)) (hr : PA X es (rdA X.K m)) (hs : noStar a = true) : PA X (a :: es) (rdA X.K (aCons ma m)) :=
  PA.mono (pa_cons ha hr (star_cons hs)) fun σ H Q ⟨ι, P, env, st, A, w, st', e, q⟩ => by
    obtain ⟨x, s1, h1, e⟩ := bind_ok e
    obtain ⟨y, s2, h2, e⟩ := bind_ok e
    cases e
    refine rdE.bind A h1 fun u H1 x1 A1 r1 => rdA.bind A1 h2 fun t H2 x2 A2 r2 => ?_
    exact q _ _ (x1.trans x2) A2.s (.cons (r1.ext (A1.s.extP x2)) r2)
theorem xa_star (ha : PE X a (rdE X.K ma)) (hr : PA X es (rdA X.K m)) : PA X (.Starred a p :: es) (rdA X.K (aStar ma m)) :=
  PA.mono (StX.pa_star ha hr) fun σ H Q ⟨ι, P, env, st, A, w, st', e, q⟩ => by
    obtain ⟨x, s1, h1, e⟩ := bind_ok (noX_ok e)
    split at e
    · obtain ⟨y, s2, h2, e⟩ := bind_ok e
      cases e
      refine rdE.bind A h1 fun u H1 x1 A1 r1 => ?_
      cases r1 with
      | dat r1 =>
        cases r1 with
        | lst g1 g2 g3 =>
          refine ⟨_, _, rfl, .inr (SqL.of g1), rdA.bind A1 h2 fun t H2 x2 A2 r2 => ?_⟩
          exact q _ _ (x1.trans x2) A2.s (paired_append (rp_vals (g3.ext (A1.s.extP x2))) r2)
    · obtain ⟨y, s2, h2, e⟩ := bind_ok e
      cases e
      refine rdE.bind A h1 fun u H1 x1 A1 r1 => ?_
      cases r1 with
      | dat r1 =>
        cases r1 with
        | tup g1 g3 =>
          refine ⟨_, _, rfl, .inl g1, rdA.bind A1 h2 fun t H2 x2 A2 r2 => ?_⟩
          exact q _ _ (x1.trans x2) A2.s (paired_append (rp_vals (g3.ext (A1.s.extP x2))) r2)
    · split at e
      · rename_i n ds hn
        obtain ⟨y, s2, h2, e⟩ := bind_ok e
        cases e
        refine rdE.bind A h1 fun u H1 x1 A1 r1 => ?_
        cases r1 with
        | loc g0 =>
          obtain ⟨ds', xs, g1, g2, g3⟩ := A1.s.at_ _ _ g0
          rw [hn] at g1
          cases g1
          refine ⟨_, _, rfl, .inr (SqL.of g2), rdA.bind A1 h2 fun t H2 x2 A2 r2 => ?_⟩
          exact q _ _ (x1.trans x2) A2.s (paired_append (rp_vals (g3.ext (A1.s.extP x2))) r2)
      · cases e
    · cases e
end

/-! ### displays -/
/-- a new list: its place is told -/
def rdF (K : PySem.W.Frag) (m : ME) : TE := fun σ H Q => ∃ ι P env st, At K H P ι σ env st ∧ ∃ ds st', m env st = .ok (.dat (.list ds)) st' ∧
  ∀ a H' xs, H a = none → Ext ι H H' → RS K H' (Pl P a) ι st' → H' a = some (.lst xs) → RpAll K H' (Pl P a) xs ds → Q (.ref a) H'
theorem rdF_of {K : PySem.W.Frag} {m : ME} (hm : ∀ env st v st', m env st = .ok v st' → ∃ ds, v = .dat (.list ds)) {σ : L2.St} {H : Hp} {Q : VK} (h : rdE K m σ H Q) : rdF K m σ H Q := by
  obtain ⟨ι, P, env, st, A, v, st', e, q⟩ := h
  obtain ⟨ds, rfl⟩ := hm _ _ _ _ e
  exact ⟨ι, P, env, st, A, ds, st', e, fun a H' xs hn x r h1 h2 => q _ _ x (r.less A.s.pin) (.dat (.lst h1 (fun z => A.s.pthere a z hn) (h2.toP (P' := P) (fun y hy => .inl (.inl hy)) _ _)))⟩
section
variable {X : Cx} {a b c e : Expr} {es : List Expr} {ma mb mc : ME} {m : MA} {pos p : Pos}
theorem of_ifOk {α : Type} {c : Bool} {a r : α} {s s' : Sto} (h : (if c = true then Out.ok a s else .bad) = .ok r s') : c = true ∧ r = a ∧ s' = s := by
  cases c with
  | true => cases h; exact ⟨rfl, rfl, rfl⟩
  | false => cases h
theorem le_line {n : Nat} (h : Nat.ble n line = true) : n ≤ sizeLine := by rw [← line_eq]; exact Nat.le_of_ble_eq_true h
theorem xp_tup {k : Nat} (h : PA X es (rdA X.K m)) : PE X (.Tuple es k pos) (rdE X.K (eTup m)) :=
  PE.mono (pe_tup h) fun σ H Q ⟨ι, P, env, st, A, w, st', e, q⟩ => by
    obtain ⟨xs, s1, h1, e⟩ := bind_ok e
    split at e
    · rename_i ds hd
      obtain ⟨c, rfl, rfl⟩ := of_ifOk e
      refine rdA.bind A h1 fun u H1 x1 A1 r1 => ?_
      have r := dats_rp (unf_rv r1) hd
      exact ⟨by rw [r.length]; exact le_line c, put_tup r fun z H2 sm rp => q z H2 (x1.trans (.same sm)) (A1.s.same sm) (.dat rp)⟩
    · cases e
theorem none_back {K : PySem.W.Frag} {H H' : Hp} {P : AP'} {ι : List Addr} {st : Sto} (r : RS K H P ι st) (x : Ext ι H H') {p : Addr} (h : H' p = none) (h2 : ∀ a, P a → H' a ≠ none) : H p = none := by
  cases z : H p with
  | none => rfl
  | some o =>
    by_cases y : p ∈ ι
    · exact absurd h (h2 p (r.pin p y))
    · exact (x.there z y h).elim
theorem xf_lst (h : PA X es (rdA X.K m)) : PE X (.List es pos) (rdF X.K (eLst m)) :=
  PE.mono (pe_lst h) fun σ H Q ⟨ι, P, env, st, A, ds, st', e, q⟩ => by
    obtain ⟨xs, s1, h1, e⟩ := bind_ok (noX_ok e)
    split at e
    · rename_i ds' hd
      obtain ⟨c, hc, rfl⟩ := of_ifOk e
      cases hc
      refine rdA.bind A h1 fun u H1 x1 A1 r1 => ?_
      have r := dats_rp r1 hd
      refine ⟨by rw [r.length]; exact le_line c, fun p hp => ?_⟩
      have hn : H p = none := none_back A.s x1 hp A1.s.pthere
      refine q p _ _ hn (x1.trans (.same (same_upd hp))) (A1.s.add hp) upd_same ?_
      exact (r.toP (fun y hy => hy.elim .inl fun z => .inr (by rw [z]; exact hp)) _ _).ext (.same (same_upd hp)) _ _
    · cases e
theorem eLst_lst {m : MA} : ∀ env st v st', eLst m env st = .ok v st' → ∃ ds, v = .dat (.list ds) := fun env st v st' e => by
  obtain ⟨xs, s1, h1, e⟩ := bind_ok (noX_ok e)
  split at e
  · obtain ⟨_, rfl, _⟩ := of_ifOk e
    exact ⟨_, rfl⟩
  · cases e
theorem xp_lst (h : PA X es (rdA X.K m)) : PE X (.List es pos) (rdE X.K (eLst m)) := PE.mono (xf_lst h) fun _ _ _ => rdF_of eLst_lst

/-! ### subscripts -/
theorem ix_get {xs : List PyData} {i : Int} {d : PyData} (h : ((ixN xs.length i).bind fun j => xs[j]?) = some d) : atI xs i = some d := h
theorem atI_rp {K : PySem.W.Frag} {H : Hp} {P : AP'} {vs : List V} {ds : List PyData} {i : Int} {d : PyData} (r : RpAll K H P vs ds) (h : atI ds i = some d) : ∃ v, atI vs i = some v ∧ Rp K H P v d := by
  unfold atI at h ⊢
  rw [r.length]
  cases q : ixN ds.length i with
  | none => rw [q] at h; cases h
  | some j =>
    rw [q] at h
    exact r.get h
theorem ix_of : IxR X (rOp X.K pIx) := by
  intro val slc pins s σ H x y v u Q I rx ry h pl
  obtain ⟨P, d, e, r, hp, hd, he, hf, q⟩ := h
  unfold pIx at hf
  split at hf
  · cases he.int
    obtain ⟨a, xs, rfl, ha, hr⟩ := hd.lst
    obtain ⟨z, hz, rz⟩ := atI_rp hr (ix_get hf)
    exact ix_list val slc pins s σ H _ _ v u Q I rx ry ⟨a, xs, _, z, rfl, rfl, SqL.of ha, hz, q _ _ (Same.refl H) rz⟩ pl
  · cases he.int
    obtain ⟨a, xs, rfl, ha, hr⟩ := hd.tup
    obtain ⟨z, hz, rz⟩ := atI_rp hr (ix_get hf)
    exact ix_tup val slc pins s σ H _ _ v u Q I rx ry ⟨a, xs, _, z, rfl, rfl, ha, hz, q _ _ (Same.refl H) rz⟩ pl
  · cases hf
def plainIx : Expr → Bool
  | .Slice _ _ _ _ => false
  | _ => true
theorem plainIx_ok {b : Expr} (h : plainIx b = true) : PlainIx b := fun o i => by
  cases b <;> first | rfl | cases h
theorem xp_ix (ha : PE X a (rdE X.K ma)) (hb : PE X b (rdE X.K mb)) (hs : plainIx b = true) : PE X (.Subscript a b pos) (rdE X.K (e2 pIx ma mb)) :=
  PE.mono (pe_ix ix_of ha hb (plainIx_ok hs)) fun σ H Q ⟨ι, P, env, st, A, w, st', e, q⟩ => by
    obtain ⟨x, s1, h1, e⟩ := bind_ok e
    obtain ⟨y, s2, h2, e⟩ := bind_ok e
    split at e
    · rename_i d g hd hg
      obtain ⟨r, hr, rfl, rfl⟩ := okD_ok e
      refine rdE.bind A h1 fun u H1 x1 A1 r1 => rdE.bind A1 h2 fun t H2 x2 A2 r2 => ?_
      exact ⟨P, d, g, r, A2.s.pthere, (r1.ext (A1.s.extP x2)).rd A2.s hd, r2.rd A2.s hg, hr, fun z H3 sm rp => q z H3 ((x1.trans x2).trans (.same sm)) (A2.s.same sm) (.dat rp)⟩
    · cases e
theorem cut_rp {K : PySem.W.Frag} {H : Hp} {P : AP'} {vs : List V} {ds : List PyData} (r : RpAll K H P vs ds) (lo hi : Option Int) : RpAll K H P (cutV vs lo hi) (cutL ds lo hi) := by
  unfold cutV cutL
  rw [r.length]
  exact (r.drop _).take _
def rSl (K : PySem.W.Frag) : V → Option Int → Option Int → Hp → VK → Prop := fun x lo hi H Q => ∃ P d r, (∀ a, P a → H a ≠ none) ∧ (RD K H P x d ∨ ∃ a xs ds, x = .ref a ∧ SqL K H a xs ∧ RpAll K H P xs ds ∧ d = .list ds) ∧ pSl d lo hi = some r ∧ ∀ u H', Same H H' → Rp K H' P u r → Q u H'
theorem sl_of : SlR X (rSl X.K) := by
  intro pins s σ H x v vl vu lo hi sl Q I rx hs pl pu h
  obtain ⟨P, d, r, hp, hd, hf, q⟩ := h
  unfold pSl at hf
  split at hf
  · cases hf
    rename_i zs
    have key : ∃ a xs, x = .ref a ∧ SqL X.K H a xs ∧ RpAll X.K H P xs zs := by
      rcases hd with hd | ⟨a, xs, ds, rfl, h1, h2, h3⟩
      · obtain ⟨a, xs, rfl, ha, hr⟩ := hd.lst
        exact ⟨a, xs, rfl, SqL.of ha, hr⟩
      · cases h3
        exact ⟨a, xs, rfl, h1, h2⟩
    obtain ⟨a, xs, rfl, ha, hr⟩ := key
    exact sl_list pins s σ H _ v vl vu lo hi sl Q I rx hs pl pu ⟨a, xs, rfl, ha, put_lst hp (cut_rp hr lo hi) q⟩
  · cases hf
    rcases hd with hd | ⟨_, _, _, _, _, _, h3⟩
    · obtain ⟨a, xs, rfl, ha, hr⟩ := hd.tup
      refine sl_tupA pins s σ H _ v vl vu lo hi sl Q I rx hs pl pu ⟨a, xs, rfl, ha, fun ⟨w1, w2⟩ => ?_, fun _ => put_tup (cut_rp hr lo hi) q⟩
      have hl := hr.length
      refine q _ _ (Same.refl H) ?_
      rw [show cutL _ lo hi = _ from by
        unfold cutL
        rw [← hl, w1, w2, hl, List.drop_zero, Nat.sub_zero, List.take_length]]
      exact hd.rpT
    · cases h3
  · cases hf
def rdO (K : PySem.W.Frag) (m : MO') : TO := fun σ H Q => ∃ ι P env st, At K H P ι σ env st ∧ ∃ o st', m env st = .ok o st' ∧ ∀ H', Ext ι H H' → RS K H' P ι st' → Q o H'
theorem PO.mono {e : Option Expr} {t t' : TO} (h : PO X e t) (q : ∀ σ H Q, t' σ H Q → t σ H Q) : PO X e t' := ⟨fun pins s σ H Q I w => h.run pins s σ H Q I (q _ _ _ w)⟩
theorem rdO.bind {K : PySem.W.Frag} {ι : List Addr} {P : AP'} {env : Env} {st st1 : Sto} {σ : L2.St} {H : Hp} {Q : Option Int → Hp → Prop} {m : MO'} {v : Option Int} (A : At K H P ι σ env st) (e : m env st = .ok v st1)
    (h : ∀ H', Ext ι H H' → At K H' P ι σ env st1 → Q v H') : rdO K m σ H Q :=
  ⟨ι, P, env, st, A, v, st1, e, fun H' x r => h H' x (A.next x r)⟩
theorem xo_none : PO X none (rdO X.K oNone) :=
  PO.mono po_none fun σ H Q ⟨ι, P, env, st, A, w, st', e, q⟩ => by
    cases e
    exact q _ (ExtP.refl _ _) A.s
theorem xo_some (ha : PE X a (rdE X.K ma)) : PO X (some a) (rdO X.K (oSome ma)) :=
  PO.mono (po_some ha) fun σ H Q ⟨ι, P, env, st, A, w, st', e, q⟩ => by
    obtain ⟨x, s1, h1, e⟩ := bind_ok e
    split at e
    · cases e
      refine rdE.bind A h1 fun u H1 x1 A1 r1 => ?_
      cases r1 with
      | dat r1 =>
        cases r1
        exact ⟨_, rfl, q _ x1 A1.s⟩
    · cases e
theorem xp_sl {lo hi : Option Expr} {ml mh : MO'} {p2 : Pos} (ha : PE X a (rdE X.K ma)) (hl : PO X lo (rdO X.K ml)) (hh : PO X hi (rdO X.K mh)) : PE X (.Subscript a (.Slice lo hi none p2) pos) (rdE X.K (eSl ma ml mh)) :=
  PE.mono (pe_slice sl_of ha hl hh) fun σ H Q ⟨ι, P, env, st, A, w, st', e, q⟩ => by
    obtain ⟨x, s1, h1, e⟩ := bind_ok (noX_ok e)
    obtain ⟨l, s2, h2, e⟩ := bind_ok e
    obtain ⟨h, s3, h3, e⟩ := bind_ok e
    refine rdE.bind A h1 fun u H1 x1 A1 r1 => rdO.bind A1 h2 fun H2 x2 A2 => rdO.bind A2 h3 fun H3 x3 A3 => ?_
    have r3 := (r1.ext (A1.s.extP x2)).ext (A2.s.extP x3)
    split at e
    · obtain ⟨r, hr, rfl, rfl⟩ := okD_ok e
      cases r3 with
      | scr g1 g2 => exact ⟨P, _, r, A3.s.pthere, .inr ⟨_, _, _, rfl, g1.elim (fun ⟨o, z⟩ => .inl (.inr ⟨o, z⟩)) (fun z => z _), g2, rfl⟩, hr, fun z H4 sm rp => q z H4 (((x1.trans x2).trans x3).trans (.same sm)) (A3.s.same sm) (.dat rp)⟩
    · split at e
      · rename_i d hd
        obtain ⟨r, hr, rfl, rfl⟩ := okD_ok e
        exact ⟨P, d, r, A3.s.pthere, .inl (r3.rd A3.s hd), hr, fun z H4 sm rp => q z H4 (((x1.trans x2).trans x3).trans (.same sm)) (A3.s.same sm) (.dat rp)⟩
      · cases e
theorem xp_rev {k : Nat} {p1 p2 p3 : Pos} (ha : PE X a (rdE X.K ma)) : PE X (.Subscript a (.Slice none none (some (.UnaryOp .USub (.Constant (.int 1) k p1) p2)) p3) pos) (rdE X.K (e1 pRev ma)) :=
  PE.mono (pe_revL ha) fun σ H Q ⟨ι, P, env, st, A, w, st', e, q⟩ => by
    obtain ⟨x, s1, h1, e⟩ := bind_ok (noX_ok e)
    split at e
    · rename_i d hd
      obtain ⟨r, hr, rfl, rfl⟩ := okD_ok e
      refine rdE.bind A h1 fun u H1 x1 A1 r1 => ?_
      unfold pRev at hr
      split at hr
      · cases hr
        obtain ⟨b, xs, rfl, hb, hr⟩ := (r1.rd A1.s hd).lst
        exact ⟨b, xs, rfl, SqL.of hb, put_lst A1.s.pthere hr.reverse fun z H2 sm rp => q z H2 (x1.trans (.same sm)) (A1.s.same sm) (.dat rp)⟩
      · cases hr
    · cases e
theorem xp_chain {op op' : CmpOp} {f g : PyData → PyData → Option Bool} (ho : OpR X (compareOp op) (rCm X.K f)) (ho' : OpR X (compareOp op') (rCm X.K g)) (ha : PE X a (rdE X.K ma)) (hb : PE X b (rdE X.K mb)) (hc : PE X c (rdE X.K mc))
    (hm : lastMarks [op, op'] [b, c] = false) : PE X (.Compare a [op, op'] [b, c] pos) (rdE X.K (eChain f g ma mb mc)) :=
  PE.mono (pe_chain ho ho' ha hb hc hm) fun σ H Q ⟨ι, P, env, st, A, w, st', e, q⟩ => by
    obtain ⟨x, s1, h1, e⟩ := bind_ok (noX_ok e)
    obtain ⟨y, s2, h2, e⟩ := bind_ok e
    refine rdE.bind A h1 fun u H1 x1 A1 r1 => rdE.bind A1 h2 fun t H2 x2 A2 r2 => ?_
    split at e
    · rename_i d d' hd hd'
      split at e
      · rename_i hf
        obtain ⟨z, s3, h3, e⟩ := bind_ok e
        refine ⟨P, d, d', true, (r1.ext (A1.s.extP x2)).rd A2.s hd, r2.rd A2.s hd', hf, true, rfl, ?_⟩
        rw [if_pos rfl]
        refine rdE.bind A2 h3 fun o H3 x3 A3 r3 => ?_
        split at e
        · rename_i g1 g2 hg1 hg2
          obtain ⟨r, hr, rfl, rfl⟩ := okB_ok e
          exact ⟨P, g1, g2, r, (r2.ext (A2.s.extP x3)).rd A3.s hg1, r3.rd A3.s hg2, hr, q _ _ ((x1.trans x2).trans x3) A3.s (.dat (.bl r))⟩
        · cases e
      · rename_i hf
        cases e
        refine ⟨P, d, d', false, (r1.ext (A1.s.extP x2)).rd A2.s hd, r2.rd A2.s hd', hf, false, rfl, ?_⟩
        rw [if_neg Bool.false_ne_true]
        exact q _ _ (x1.trans x2) A2.s (.dat (.bl false))
      · cases e
    · cases e
theorem PT.of_chain {op op' : CmpOp} {f g : PyData → PyData → Option Bool} (ho : OpR X (compareOp op) (rCm X.K f)) (ho' : OpR X (compareOp op') (rCm X.K g)) (ha : PE X a (rdE X.K ma)) (hb : PE X b (rdE X.K mb)) (hc : PE X c (rdE X.K mc))
    (hm : lastMarks [op, op'] [b, c] = false) : PT X (.Compare a [op, op'] [b, c] pos) (rdT X.K (tOf (eChain f g ma mb mc))) :=
  PT.mono (pt_chain ho ho' ha hb hc hm) fun σ H Q ⟨ι, P, env, st, A, w, st', e, q⟩ => by
    have e := tOf_ok e
    obtain ⟨x, s1, h1, e⟩ := bind_ok (noX_ok e)
    obtain ⟨y, s2, h2, e⟩ := bind_ok e
    refine rdE.bind A h1 fun u H1 x1 A1 r1 => rdE.bind A1 h2 fun t H2 x2 A2 r2 => ?_
    split at e
    · rename_i d d' hd hd'
      split at e
      · rename_i hf
        obtain ⟨z, s3, h3, e⟩ := bind_ok e
        refine ⟨P, d, d', true, (r1.ext (A1.s.extP x2)).rd A2.s hd, r2.rd A2.s hd', hf, true, rfl, ?_⟩
        rw [if_pos rfl]
        refine rdE.bind A2 h3 fun o H3 x3 A3 r3 => ?_
        split at e
        · rename_i g1 g2 hg1 hg2
          obtain ⟨r, hr, hw, rfl⟩ := okB_ok e
          cases hw
          exact ⟨P, g1, g2, w, (r2.ext (A2.s.extP x3)).rd A3.s hg1, r3.rd A3.s hg2, hr, w, rfl, q _ ((x1.trans x2).trans x3) A3.s⟩
        · cases e
      · rename_i hf
        cases e
        refine ⟨P, d, d', false, (r1.ext (A1.s.extP x2)).rd A2.s hd, r2.rd A2.s hd', hf, false, rfl, ?_⟩
        rw [if_neg Bool.false_ne_true]
        exact ⟨false, rfl, q _ (x1.trans x2) A2.s⟩
      · cases e
    · cases e
end
end Ev
/-! EvBlt: built-ins, list methods, calls of defs over the combinators. -/
namespace Ev
open PySem PySem.Spec PyProof.Rows L2

def rBl (K : PySem.W.Frag) (f : List PyData → Option PyData) : List V → Hp → VK → Prop := fun vs H Q => ∃ P ds r, (∀ a, P a → H a ≠ none) ∧ Paired (RD K H P) vs ds ∧ f ds = some r ∧ ∀ u H', Same H H' → Rp K H' P u r → Q u H'
section
variable {K : PySem.W.Frag} {H : Hp} {P : AP'}
theorem rd1 {vs : List V} {d : PyData} (h : Paired (RD K H P) vs [d]) : ∃ v, vs = [v] ∧ RD K H P v d := by
  cases h with
  | cons r t => cases t; exact ⟨_, rfl, r⟩
theorem rp_bools : ∀ {ds : List PyData} {vs : List V} {b : Bool}, RpAll K H P vs ds → allB ds = some b → ∃ bs : List Bool, vs = bs.map V.bl ∧ bs.all id = b
  | [], _, _, .nil, e => by cases e; exact ⟨[], rfl, rfl⟩
  | d :: ds, _, b, .cons r t, e => by
    unfold allB at e
    split at e
    · rename_i hz; cases hz
    · rename_i c r' hd
      cases hd
      split at e
      · rename_i c' h
        cases e
        obtain ⟨bs, rfl, hb⟩ := rp_bools t h
        cases r
        exact ⟨c :: bs, rfl, by rw [List.all_cons, hb]; rfl⟩
      · cases e
    · cases e
theorem rp_boolsA : ∀ {ds : List PyData} {vs : List V} {b : Bool}, RpAll K H P vs ds → anyB ds = some b → ∃ bs : List Bool, vs = bs.map V.bl ∧ bs.any id = b
  | [], _, _, .nil, e => by cases e; exact ⟨[], rfl, rfl⟩
  | d :: ds, _, b, .cons r t, e => by
    unfold anyB at e
    split at e
    · rename_i hz; cases hz
    · rename_i c r' hd
      cases hd
      split at e
      · rename_i c' h
        cases e
        obtain ⟨bs, rfl, hb⟩ := rp_boolsA t h
        cases r
        exact ⟨c :: bs, rfl, by rw [List.any_cons, hb]; rfl⟩
      · cases e
    · cases e
theorem rp_ints : ∀ {ds : List PyData} {vs : List V} {is : List Int}, RpAll K H P vs ds → intsOf ds = some is → vs = is.map V.int
  | [], _, _, .nil, e => by cases e; rfl
  | d :: ds, _, _, .cons r t, e => by
    unfold intsOf at e
    split at e
    · rename_i hz; cases hz
    · rename_i c r' hd
      cases hd
      split at e
      · rename_i c' h
        cases e
        rw [rp_ints t h]
        cases r
        rfl
      · cases e
    · cases e
theorem maxI_mem : ∀ (is : List Int) (m : Int), (maxI m is = m ∨ maxI m is ∈ is) ∧ m ≤ maxI m is ∧ ∀ y ∈ is, y ≤ maxI m is
  | [], m => ⟨.inl rfl, Int.le_refl _, fun y h => by cases h⟩
  | i :: is, m => by
    unfold maxI
    obtain ⟨h1, h2, h3⟩ := maxI_mem is (if m < i then i else m)
    by_cases c : m < i
    · simp only [if_pos c] at h1 h2 h3 ⊢
      refine ⟨.inr ?_, by omega, fun y hy => ?_⟩
      · rcases h1 with h1 | h1
        · rw [h1]; exact List.mem_cons_self
        · exact List.mem_cons_of_mem _ h1
      · rcases List.mem_cons.mp hy with e | hy
        · rw [e]; exact h2
        · exact h3 y hy
    · simp only [if_neg c] at h1 h2 h3 ⊢
      refine ⟨h1.imp id (List.mem_cons_of_mem _), h2, fun y hy => ?_⟩
      rcases List.mem_cons.mp hy with e | hy
      · rw [e]; omega
      · exact h3 y hy
theorem minI_mem : ∀ (is : List Int) (m : Int), (minI m is = m ∨ minI m is ∈ is) ∧ minI m is ≤ m ∧ ∀ y ∈ is, minI m is ≤ y
  | [], m => ⟨.inl rfl, Int.le_refl _, fun y h => by cases h⟩
  | i :: is, m => by
    unfold minI
    obtain ⟨h1, h2, h3⟩ := minI_mem is (if i < m then i else m)
    by_cases c : i < m
    · simp only [if_pos c] at h1 h2 h3 ⊢
      refine ⟨.inr ?_, by omega, fun y hy => ?_⟩
      · rcases h1 with h1 | h1
        · rw [h1]; exact List.mem_cons_self
        · exact List.mem_cons_of_mem _ h1
      · rcases List.mem_cons.mp hy with e | hy
        · rw [e]; exact h2
        · exact h3 y hy
    · simp only [if_neg c] at h1 h2 h3 ⊢
      refine ⟨h1.imp id (List.mem_cons_of_mem _), h2, fun y hy => ?_⟩
      rcases List.mem_cons.mp hy with e | hy
      · rw [e]; omega
      · exact h3 y hy
theorem sumI_sum : ∀ is : List Int, sumI is = is.sum
  | [] => rfl
  | i :: is => by unfold sumI; rw [sumI_sum is, List.sum_cons]
end
section
variable {X : Cx}
theorem bl_len : CallR X (.builtin "len") (rBl X.K bLen) := by
  intro pins s σ H vs us Q I rv h
  obtain ⟨P, ds, r, hp, hd, hf, q⟩ := h
  unfold bLen at hf
  split at hf
  · obtain ⟨v, rfl, h1⟩ := rd1 hd
    obtain ⟨n, hn, rfl⟩ := Option.map_eq_some_iff.mp hf
    have q' := q _ _ (Same.refl H) (.int _)
    unfold pLen at hn
    split at hn
    · cases hn
      obtain ⟨a, xs, rfl, ha, hr⟩ := h1.lst
      exact call_len pins s σ H _ us Q I rv ⟨_, _, rfl, .inl ⟨xs, SqL.of ha, hr.length.symm⟩, q'⟩
    · cases hn
      obtain ⟨a, xs, rfl, ha, hr⟩ := h1.tup
      exact call_len pins s σ H _ us Q I rv ⟨_, _, rfl, .inr ⟨xs, ha, hr.length.symm⟩, q'⟩
    · split at hn
      · rename_i hl
        cases hn
        cases h1.str
        exact call_len pins s σ H _ us Q I rv ⟨_, _, rfl, ⟨by rw [← line_eq]; exact hl, rfl⟩, q'⟩
      · cases hn
    · cases hn
  · cases hf
theorem bl_all (hc : X.calm = true) : CallR X (.builtin "all") (rBl X.K bAll) := by
  intro pins s σ H vs us Q I rv h
  obtain ⟨P, ds, r, hp, hd, hf, q⟩ := h
  unfold bAll at hf
  split at hf
  · obtain ⟨v, rfl, h1⟩ := rd1 hd
    obtain ⟨n, hn, rfl⟩ := Option.map_eq_some_iff.mp hf
    obtain ⟨a, xs, rfl, ha, hr⟩ := h1.lst
    obtain ⟨bs, rfl, hb⟩ := rp_bools hr hn
    exact cr_all hc pins s σ H _ us Q I rv ⟨a, bs, rfl, SqL.of ha, by rw [hb]; exact q _ _ (Same.refl H) (.bl _)⟩
  · cases hf
theorem bl_any (hc : X.calm = true) : CallR X (.builtin "any") (rBl X.K bAny) := by
  intro pins s σ H vs us Q I rv h
  obtain ⟨P, ds, r, hp, hd, hf, q⟩ := h
  unfold bAny at hf
  split at hf
  · obtain ⟨v, rfl, h1⟩ := rd1 hd
    obtain ⟨n, hn, rfl⟩ := Option.map_eq_some_iff.mp hf
    obtain ⟨a, xs, rfl, ha, hr⟩ := h1.lst
    obtain ⟨bs, rfl, hb⟩ := rp_boolsA hr hn
    exact cr_any hc pins s σ H _ us Q I rv ⟨a, bs, rfl, SqL.of ha, by rw [hb]; exact q _ _ (Same.refl H) (.bl _)⟩
  · cases hf
theorem bl_abs : CallR X (.builtin "abs") (rBl X.K bAbs) := by
  intro pins s σ H vs us Q I rv h
  obtain ⟨P, ds, r, hp, hd, hf, q⟩ := h
  unfold bAbs at hf
  split at hf
  · cases hf
    obtain ⟨v, rfl, h1⟩ := rd1 hd
    cases h1.int
    exact call_abs pins s σ H _ us Q I rv ⟨_, rfl, q _ _ (Same.refl H) (.int _)⟩
  · cases hf
theorem bl_int : CallR X (.type "int") (rBl X.K bInt) := by
  intro pins s σ H vs us Q I rv h
  obtain ⟨P, ds, r, hp, hd, hf, q⟩ := h
  unfold bInt at hf
  split at hf
  · cases hf
    obtain ⟨v, rfl, h1⟩ := rd1 hd
    cases h1.int
    exact call_int1 pins s σ H _ us Q I rv (.inl ⟨_, rfl, q _ _ (Same.refl H) (.int _)⟩)
  · cases hf
theorem bl_tuple : CallR X (.type "tuple") (rBl X.K bTuple) := by
  intro pins s σ H vs us Q I rv h
  obtain ⟨P, ds, r, hp, hd, hf, q⟩ := h
  unfold bTuple at hf
  split at hf
  · cases hf
    obtain ⟨v, rfl, h1⟩ := rd1 hd
    obtain ⟨a, xs, rfl, ha, hr⟩ := h1.lst
    exact call_tuple_of pins s σ H _ us Q I rv ⟨a, xs, rfl, .inl ⟨SqL.of ha, put_tup hr q⟩⟩
  · cases hf
    obtain ⟨v, rfl, h1⟩ := rd1 hd
    obtain ⟨a, xs, rfl, ha, hr⟩ := h1.tup
    exact call_tuple_of pins s σ H _ us Q I rv ⟨a, xs, rfl, .inr ⟨ha, q _ _ (Same.refl H) h1.rpT⟩⟩
  · cases hf
theorem bl_list : CallR X (.type "list") (rBl X.K bList) := by
  intro pins s σ H vs us Q I rv h
  obtain ⟨P, ds, r, hp, hd, hf, q⟩ := h
  unfold bList at hf
  split at hf
  · cases hf
    obtain ⟨v, rfl, h1⟩ := rd1 hd
    obtain ⟨a, xs, rfl, ha, hr⟩ := h1.lst
    exact call_list_of pins s σ H _ us Q I rv ⟨a, xs, rfl, .inl (SqL.of ha), put_lst hp hr q⟩
  · cases hf
    obtain ⟨v, rfl, h1⟩ := rd1 hd
    obtain ⟨a, xs, rfl, ha, hr⟩ := h1.tup
    exact call_list_of pins s σ H _ us Q I rv ⟨a, xs, rfl, .inr ha, put_lst hp hr q⟩
  · cases hf
theorem bl_max (hc : X.calm = true) : CallR X (.builtin "max") (rBl X.K bMax) := by
  intro pins s σ H vs us Q I rv h
  obtain ⟨P, ds, r, hp, hd, hf, q⟩ := h
  unfold bMax at hf
  split at hf
  · obtain ⟨v, rfl, h1⟩ := rd1 hd
    obtain ⟨is, hn, rfl⟩ := Option.map_eq_some_iff.mp hf
    rename_i i rr
    obtain ⟨a, xs, rfl, ha, hr⟩ := h1.lst
    have hn' : intsOf (.int i :: rr) = some (i :: is) := by unfold intsOf; rw [hn]
    have e := rp_ints hr hn'
    subst e
    obtain ⟨g1, g2, g3⟩ := maxI_mem is i
    refine cr_max hc pins s σ H _ us Q I rv ⟨a, i :: is, rfl, SqL.of ha, Nat.succ_pos _, fun m hm hle => ?_⟩
    have hq : m = maxI i is := by
      have a1 : maxI i is ≤ m := by
        rcases g1 with g | g
        · rw [g]; exact hle i List.mem_cons_self
        · exact hle _ (List.mem_cons_of_mem _ g)
      have a2 : m ≤ maxI i is := by
        rcases List.mem_cons.mp hm with e | hm
        · rw [e]; exact g2
        · exact g3 m hm
      omega
    rw [hq]
    exact q _ _ (Same.refl H) (.int _)
  · cases hf
theorem bl_min (hc : X.calm = true) : CallR X (.builtin "min") (rBl X.K bMin) := by
  intro pins s σ H vs us Q I rv h
  obtain ⟨P, ds, r, hp, hd, hf, q⟩ := h
  unfold bMin at hf
  split at hf
  · obtain ⟨v, rfl, h1⟩ := rd1 hd
    obtain ⟨is, hn, rfl⟩ := Option.map_eq_some_iff.mp hf
    rename_i i rr
    obtain ⟨a, xs, rfl, ha, hr⟩ := h1.lst
    have hn' : intsOf (.int i :: rr) = some (i :: is) := by unfold intsOf; rw [hn]
    have e := rp_ints hr hn'
    subst e
    obtain ⟨g1, g2, g3⟩ := minI_mem is i
    refine cr_min hc pins s σ H _ us Q I rv ⟨a, i :: is, rfl, SqL.of ha, Nat.succ_pos _, fun m hm hle => ?_⟩
    have hq : m = minI i is := by
      have a1 : m ≤ minI i is := by
        rcases g1 with g | g
        · rw [g]; exact hle i List.mem_cons_self
        · exact hle _ (List.mem_cons_of_mem _ g)
      have a2 : minI i is ≤ m := by
        rcases List.mem_cons.mp hm with e | hm
        · rw [e]; exact g2
        · exact g3 m hm
      omega
    rw [hq]
    exact q _ _ (Same.refl H) (.int _)
  · cases hf
theorem bl_sum (hc : X.calm = true) : CallR X (.builtin "sum") (rBl X.K bSum) := by
  intro pins s σ H vs us Q I rv h
  obtain ⟨P, ds, r, hp, hd, hf, q⟩ := h
  unfold bSum at hf
  split at hf
  · obtain ⟨v, rfl, h1⟩ := rd1 hd
    obtain ⟨is, hn, rfl⟩ := Option.map_eq_some_iff.mp hf
    obtain ⟨a, xs, rfl, ha, hr⟩ := h1.lst
    have e := rp_ints hr hn
    subst e
    rw [sumI_sum] at q
    exact cr_sum hc pins s σ H _ us Q I rv ⟨a, is, rfl, SqL.of ha, q _ _ (Same.refl H) (.int _)⟩
  · cases hf

/-! ### calls of built-ins -/
variable {a b c e : Expr} {es : List Expr} {ma mb mc : ME} {m : MA} {pos p : Pos} {x : Str} {id : String} {f : List PyData → Option PyData}
theorem blt_read {t : TA} {K : PySem.W.Frag} {σ : L2.St} {H : Hp} {Q : VK} (h : rdE K (eBlt f m) σ H Q) : tCB (rBl K f) (rdA K m) σ H Q := by
  obtain ⟨ι, P, env, st, A, w, st', e, q⟩ := h
  obtain ⟨xs, s1, h1, e⟩ := bind_ok (noX_ok e)
  refine rdA.bind A h1 fun u H1 x1 A1 r1 => ?_
  split at e
  · rename_i ds hd
    obtain ⟨r, hr, rfl, rfl⟩ := okD_ok e
    exact ⟨P, ds, r, A1.s.pthere, derefs_rd A1.s r1 hd, hr, fun z H2 sm rp => q z H2 (x1.trans (.same sm)) (A1.s.same sm) (.dat rp)⟩
  · cases e
def blt2 (x : Str) : Bool := decide (x ≠ "__name__") && decide ((x == ("__debug__" : Str)) = false)
theorem xp_blt (hc : CallR X (.builtin id) (rBl X.K f)) (hg : Gl X x) (hm : X.mg x = none) (hv : bootBuiltins x = some (.builtin id)) (ha : PA X (e :: es) (rdA X.K m)) (hs : (e :: es).all noStar = true) (hx : blt2 x = true) :
    PE X (.Call (.Name x p) (e :: es) [] pos) (rdE X.K (eBlt f m)) := by
  unfold blt2 at hx
  simp only [Bool.and_eq_true, decide_eq_true_eq] at hx
  rw [List.all_cons, Bool.and_eq_true] at hs
  exact PE.mono (pe_callB hc hg hm hv ha hx.1 hx.2 (star_cons hs.1) (star_none hs.2)) fun σ H Q h => blt_read (t := rdA X.K m) h
theorem xp_bltT {T : String} (hc : CallR X (.type T) (rBl X.K f)) (hg : Gl X x) (hm : X.mg x = none) (hv : bootBuiltins x = some (.type T)) (ha : PA X (e :: es) (rdA X.K m)) (hs : (e :: es).all noStar = true) (hx : blt2 x = true) :
    PE X (.Call (.Name x p) (e :: es) [] pos) (rdE X.K (eBlt f m)) := by
  unfold blt2 at hx
  simp only [Bool.and_eq_true, decide_eq_true_eq] at hx
  rw [List.all_cons, Bool.and_eq_true] at hs
  exact PE.mono (pe_callTy hc hg hm hv ha hx.1 hx.2 (star_cons hs.1) (star_none hs.2)) fun σ H Q h => blt_read (t := rdA X.K m) h

/-! ### isinstance -/
def Ty.nm : Ty → String
  | .int => "int"
  | .bool => "bool"
  | .str => "str"
  | .tuple => "tuple"
  | .list => "list"
  | .dict => "dict"
def tyN : PyData → String
  | .none => "NoneType"
  | .bool _ => "bool"
  | .int _ => "int"
  | .str _ => "str"
  | .list _ => "list"
  | .tuple _ => "tuple"
  | .dict _ => "dict"
theorem kit_all : ∀ (t : Ty) (d : PyData), kitB (tyN d) t.nm = some (isTy t d) := by
  intro t d
  cases t <;> cases d <;> (dsimp only [tyN, Ty.nm, isTy]; decide +kernel)
theorem RD.ty {K : PySem.W.Frag} {H : Hp} {P : AP'} {v : V} {d : PyData} (h : RD K H P v d) : TyX K H v (.type (tyN d)) := by
  cases h with
  | loc g r => exact .base (.lst g)
  | dat r =>
    cases r with
    | non => exact .base .non
    | bl _ => exact .base (.bl _)
    | int _ => exact .base (.int _)
    | str _ => exact .base (.str _)
    | lst g _ _ => exact .base (.lst g)
    | tup g _ =>
      rcases g with (g | ⟨o, g⟩) | ⟨o, its, n, g, c, _⟩
      · exact .base (.tup g)
      · exact .fTuple g
      · exact .kTuple g c
theorem boot_isi : bootBuiltins "isinstance" = some (.builtin "isinstance") := by decide +kernel
theorem xp_isi {t : Ty} {y : Str} {p2 : Pos} (hg : Gl X "isinstance") (hm : X.mg "isinstance" = none) (hg2 : Gl X y) (hm2 : X.mg y = none) (hv2 : bootBuiltins y = some (.type t.nm)) (hy : blt2 y = true) (ha : PE X a (rdE X.K ma)) (hs : noStar a = true) :
    PE X (.Call (.Name "isinstance" p) [a, .Name y p2] [] pos) (rdE X.K (eIsi t ma)) := by
  unfold blt2 at hy
  simp only [Bool.and_eq_true, decide_eq_true_eq] at hy
  have hn : PE X (.Name y p2) (tC (.ty t.nm)) := pe_bltn hg2 hm2 hv2 rfl hy.1 hy.2
  refine PE.mono (pe_callB call_isi hg hm boot_isi (pa_cons ha (pa_cons hn pa_nil (star_cons rfl)) (star_cons hs)) (by decide) (by decide) (star_cons hs) rfl) fun σ H Q ⟨ι, P, env, st, A, w, st', e, q⟩ => ?_
  obtain ⟨x, s1, h1, e⟩ := bind_ok (noX_ok e)
  split at e
  · rename_i d hd
    cases e
    refine rdE.bind A h1 fun u H1 x1 A1 r1 => ?_
    exact ⟨u, .ty t.nm, _, _, isTy t d, rfl, .ty _, (r1.rd A1.s hd).ty, kit_ty (kit_all t d), q _ _ x1 A1.s (.dat (.bl _))⟩
  · cases e

/-! ### a def -/
/-- a def's promise: it gives what F gives -/
def spOf (K : PySem.W.Frag) (F : FnS) : Sp := fun vs H Q _ => ∃ ι P xs st, RS K H P ι st ∧ Paired (RV K H P ι) vs xs ∧ ∃ v st', F xs st = .ok v st' ∧ ∀ u H', Ext ι H H' → RS K H' P ι st' → RV K H' P ι u v → Q u H'
theorem paired_len {α β : Type} {R : α → β → Prop} : ∀ {a : List α} {b : List β}, Paired R a b → a.length = b.length
  | _, _, .nil => rfl
  | _, _, .cons _ t => by rw [List.length_cons, List.length_cons, paired_len t]
end
/-- a def's promise, told where no repr is under way (gd) -/
structure FnG (gd : Bool) (P : Program) (w : World) (K : PySem.W.Frag) (mg : Str → Option Value) (base : Heap) (CX : CXT) (k : Nat) (f : Addr) (fd : FuncData) (ps : List Str) (sp : Sp) : Prop where
  len : ∀ vs H Q E, sp vs H Q E → vs.length = ps.length
  run : ∀ (A : Around) (outer : List PySem.Env) (s : Shared) (H : Hp) (args : Args) (us : List Value) (vs : List V) (Q : VK) (E : XK), Room k A → (gd = true → A.guards = some []) → Env0 P w K mg base A outer s H →
    BindsTo s fd args (ps.zip us) → Vals vs us → sp vs H Q E → codeAny (model P w) A (.call (.ref f) args) (CR CX outer P w H s Q E) s
/-- the def at f, its code's value -/
def DefAt (K : PySem.W.Frag) (f : Addr) (qual : Str) (cdv : Value) : Prop := ∃ (oc : Value) (od : Option Addr) (osl : Array (Option Value)) (fd : FuncData), K.lookup f = some ⟨oc, od, .func fd, osl⟩ ∧ fd.code = cdv ∧ fd.qualname = qual
section
variable {P : Program} {w : World} {K : PySem.W.Frag} {mg : Str → Option Value} {base : Heap} {CX : CXT} {j k : Nat} {f : Addr} {fd : FuncData} {ps : List Str} {sp sp' : Sp} {gd : Bool}
theorem FnG.mono (F : FnG gd P w K mg base CX j f fd ps sp) (h : j ≤ k) : FnG gd P w K mg base CX k f fd ps sp := ⟨F.len, fun A outer s H args us vs Q E hr => F.run A outer s H args us vs Q E (hr.mono h)⟩
theorem FnG.imp (F : FnG gd P w K mg base CX k f fd ps sp) (h : ∀ vs H Q E, sp' vs H Q E → sp vs H Q E) : FnG gd P w K mg base CX k f fd ps sp' :=
  ⟨fun vs H Q E q => F.len vs H Q E (h _ _ _ _ q), fun A outer s H args us vs Q E hr hg he hb hv hs => F.run A outer s H args us vs Q E hr hg he hb hv (h _ _ _ _ hs)⟩
theorem FnG.weak (F : FnG false P w K mg base CX k f fd ps sp) : FnG gd P w K mg base CX k f fd ps sp := ⟨F.len, fun A outer s H args us vs Q E hr _ => F.run A outer s H args us vs Q E hr fun z => nomatch z⟩
theorem FnG.ok (F : FnG false P w K mg base CX k f fd ps sp) : FnOk P w K mg base CX k f fd ps sp := ⟨F.len, fun A outer s H args us vs Q E hr => F.run A outer s H args us vs Q E hr fun z => nomatch z⟩
theorem FnG.of (F : FnOk P w K mg base CX k f fd ps sp) : FnG gd P w K mg base CX k f fd ps sp := ⟨F.len, fun A outer s H args us vs Q E hr _ => F.run A outer s H args us vs Q E hr⟩
end
section
variable {X : Cx} {e : Expr} {es : List Expr} {m : MA} {t : TA} {pos p : Pos} {x : Str} {E : XK} {sp : Sp} {gd : Bool}
variable {F : FnS} {k : Nat} {g : Addr} {fd : FuncData} {ps : List Str} {CX : CXT}
theorem run_fnG {pins : List (Addr × Obj)} {σ : L2.St} {H : Hp} {s : Shared} {Q : VK} {us : List Value} {vs : List V} (F : FnG gd X.prog X.w X.K X.mg X.base CX k g fd ps sp) (hgd : gd = true → X.A.guards = some []) (hr : Room k X.A) (hb : Binds X.K fd ps []) (hx : Passes CX X E)
    (I : Inv X pins σ H s) (r : Vals vs us) (h : sp vs H Q E) : wpAny (model X.prog X.w) X.A (call (.ref g) us) (EP X pins σ Q) X.xe s := by
  have hl : us.length = ps.length := by rw [← r.length]; exact F.len _ _ _ _ h
  have hb2 := hb s us I.kIn (by rw [List.append_nil]; exact hl)
  rw [List.append_nil] at hb2
  refine wpAny_call (codeAny_mono (F.run X.A X.stack s H ⟨us, []⟩ us vs Q E hr hgd I.env0 hb2 r h) fun rs s' q => ?_)
  cases rs with
  | error er => exact hx pins σ H s er s' I q
  | ok fl => cases fl with
    | ret u => exact I.after q
    | next => exact False.elim q
    | brk => exact False.elim q
    | cont => exact False.elim q
theorem pe_callG (F : FnG gd X.prog X.w X.K X.mg X.base CX k g fd ps sp) (hgd : gd = true → X.A.guards = some []) (hr : Room k X.A) (hg : Gl X x) (hm : X.mg x = some (.ref g)) (hk : PySem.W.keepIn X.K (.ref g) = true) (hb : Binds X.K fd ps []) (hx : Passes CX X E)
    (ha : PA X (e :: es) t) (hdb : (x == ("__debug__" : Str)) = false) (he : starEach (e :: es) X.env = (false, eval e X.env) :: starEach es X.env) (hpl : (backTo pos (starEach es X.env)).any (·.1) = false) :
    PE X (.Call (.Name x p) (e :: es) [] pos) (tCall sp [] E t) := by
  refine ⟨fun pins s σ H Q I h => wpAny_Call_Name_kw (ld_glob I hg hm ?_ hdb)⟩
  refine PySem.W.callWith_K (h₀ := X.base) I.ok.mod.kin hk (thn (ha.run pos pins s σ H _ I h) fun us s1 ⟨vs, H1, I1, rv, q1⟩ => ⟨I1.kIn, ?_⟩) he hpl
  have q2 : sp (vs ++ []) H1 Q E := q1
  rw [List.append_nil] at q2
  exact run_fnG F hgd hr hb hx I1 rv q2
theorem pe_call0G (F : FnG gd X.prog X.w X.K X.mg X.base CX k g fd ps sp) (hgd : gd = true → X.A.guards = some []) (hr : Room k X.A) (hg : Gl X x) (hm : X.mg x = some (.ref g)) (hk : PySem.W.keepIn X.K (.ref g) = true) (hb : Binds X.K fd ps []) (hx : Passes CX X E)
    (hdb : (x == ("__debug__" : Str)) = false) : PE X (.Call (.Name x p) [] [] pos) (tCall sp [] E tNil) := by
  refine ⟨fun pins s σ H Q I h => wpAny_Call_Name_kw (ld_glob I hg hm ?_ hdb)⟩
  have h2 : sp ([] ++ []) H Q E := h
  exact PySem.W.callWith_K0 I.kIn hk (run_fnG (us := []) F hgd hr hb hx I .nil h2)
theorem xp_call {gd : Bool} (G : FnG gd X.prog X.w X.K X.mg X.base CX k g fd ps (spOf X.K F)) (hgd : gd = true → X.A.guards = some []) (hr : Room k X.A) (hg : Gl X x) (hm : X.mg x = some (.ref g)) (hk : PySem.W.keepIn X.K (.ref g) = true) (hb : Binds X.K fd ps []) (hx : Passes CX X E0)
    (ha : PA X (e :: es) (rdA X.K m)) (hs : (e :: es).all noStar = true) (hd : (x == ("__debug__" : Str)) = false) : PE X (.Call (.Name x p) (e :: es) [] pos) (rdE X.K (eCall F m)) := by
  rw [List.all_cons, Bool.and_eq_true] at hs
  refine PE.mono (pe_callG G hgd hr hg hm hk hb hx ha hd (star_cons hs.1) (star_none hs.2)) fun σ H Q ⟨ι, P, env, st, A, w, st', e, q⟩ => ?_
  obtain ⟨xs, s1, h1, e⟩ := bind_ok e
  refine rdA.bind A h1 fun u H1 x1 A1 r1 => ?_
  rw [List.append_nil]
  exact ⟨ι, P, xs, s1, A1.s, r1, w, st', e, fun z H2 x2 r2 rv => q z H2 (x1.trans x2) r2 rv⟩
theorem xp_call0 {gd : Bool} (G : FnG gd X.prog X.w X.K X.mg X.base CX k g fd ps (spOf X.K F)) (hgd : gd = true → X.A.guards = some []) (hr : Room k X.A) (hg : Gl X x) (hm : X.mg x = some (.ref g)) (hk : PySem.W.keepIn X.K (.ref g) = true) (hb : Binds X.K fd ps []) (hx : Passes CX X E0)
    (hd : (x == ("__debug__" : Str)) = false) : PE X (.Call (.Name x p) [] [] pos) (rdE X.K (eCall F aNil)) := by
  refine PE.mono (pe_call0G G hgd hr hg hm hk hb hx hd) fun σ H Q ⟨ι, P, env, st, A, w, st', e, q⟩ => ?_
  exact ⟨ι, P, [], st, A.s, .nil, w, st', e, q⟩

/-! ### methods of a list that change it -/
theorem getElem?_set_of {α : Type} {l : List α} {n m : Nat} {v w : α} (h : l[n]? = some w) : (l.set n v)[m]? = if n = m then some v else l[m]? := by
  by_cases q : n = m
  · subst q
    rw [if_pos rfl, List.getElem?_set_self (List.getElem?_eq_some_iff.mp h).1]
  · rw [if_neg q, List.getElem?_set_ne q]
/-- a list at a place is changed -/
theorem RS.upd {K : PySem.W.Frag} {H : Hp} {P : AP'} {ι : List Addr} {st : Sto} (r : RS K H P ι st) {n : Nat} {l : Addr} {ds ds' : List PyData} {xs' : List V} (hl : ι[n]? = some l) (hs : st[n]? = some (.lst ds)) (hr : RpAll K H P xs' ds') :
    Ext ι H (upd H l (.lst xs')) ∧ RS K (upd H l (.lst xs')) P ι (st.set n (.lst ds')) := by
  have hmem : l ∈ ι := List.mem_of_getElem? hl
  obtain ⟨_, xs, _, h2, _⟩ := r.at_ n l hl
  have hx : Ext ι H (L2.upd H l (.lst xs')) := fun b o e q => by
    by_cases z : b = l
    · subst z
      rcases q with q | q
      · exact absurd hmem q
      · rw [h2] at e; cases e; exact absurd rfl (q xs)
    · left; rw [upd_ne z]; exact e
  have hP := r.extP hx
  refine ⟨hx, by rw [List.length_set]; exact r.len, r.nd, r.pin, fun a p z => ?_, fun m a e => ?_, r.tb.lst h2⟩
  · by_cases y : a = l
    · subst y; rw [upd_same] at z; cases z
    · rw [upd_ne y] at z; exact r.pthere a p z
  · rw [getElem?_set_of hs]
    by_cases y : n = m
    · subst y
      rw [hl] at e; cases e
      exact ⟨ds', xs', by rw [if_pos rfl], upd_same, hr.ext hP⟩
    · rw [if_neg y]
      obtain ⟨es, ys, g1, g2, g3⟩ := r.at_ m a e
      refine ⟨es, ys, g1, ?_, g3.ext hP⟩
      have ne : a ≠ l := fun z => by
        subst z
        exact y ((List.getElem?_inj (List.getElem?_eq_some_iff.mp hl).1 r.nd).mp (hl.trans e.symm))
      rw [upd_ne ne]; exact g2
end
end Ev
/-! EvZip: list(zip(a, b)), tuple(zip(a, b)). -/
namespace Ev
open PySem PySem.Spec PyProof.Rows L2

section
variable {prog : Program} {w : World} {A : Around} {E : Value → Shared → Prop} {s : Shared} {z TI TO i1 i2 T : Addr} {fp1 fp2 : List Addr} {n1 n2 i : Nat} {P1 P2 : Nat → Value → Prop} {St1 St2 : Nat → Heap → Prop}
/-- a zip's turn while the pair given before is still held -/
theorem zh_item {f : Bool} {oT : Obj} {Q : Value → Shared → Prop} (S : ZipSep2 z TI TO i1 i2 fp1 fp2) (D1 : Draws prog w A i1 fp1 n1 P1 St1) (D2 : Draws prog w A i2 fp2 n2 P2 St2)
    (hz : IsZipHeld s.heap z TI TO T f) (hT : s.heap.get? T = some oT) (hTI : IsTupOf2 s.heap TI (.ref i1) (.ref i2)) (st1 : St1 i s.heap) (st2 : St2 i s.heap) (l1 : i < n1) (l2 : i < n2)
    (hQ : ∀ x1 x2 h' tk, P1 i x1 → P2 i x2 → IsZipHeld h' z TI TO T true → St1 (i + 1) h' → St2 (i + 1) h' → IsTupOf2 h' s.heap.objs.size x1 x2 → h'.objs.size = s.heap.objs.size + 1 →
      (∀ c o, c ≠ z ∧ c ≠ i1 ∧ c ≠ i2 → s.heap.get? c = some o → h'.get? c = some o) → Q (.ref s.heap.objs.size) { s with heap := h', toks := tk }) :
    wpAny (model prog w) A (Builtin.«zip.__next__» ⟨[.ref z], []⟩) (fun fin s' => ∃ v, fin = .done (.ret v) ∧ Q v s') E s := by
  obtain ⟨hp, g, dr, tk0, os⟩ := s
  refine (show wpAny (model prog w) A (field (.ref z) 2 >>= _) _ _ _ from wpAny_bind (wpAny_field hz rfl (x := .bool false) rfl ?_))
  refine (show wpAny (model prog w) A (field (.ref z) 3 >>= _) _ _ _ from wpAny_bind (wpAny_field hz rfl (x := .ref TI) rfl (wpAny_bind (wpAny_seqItems hTI rfl ?_))))
  refine (show wpAny (model prog w) A (Builtin.SmallTypes.ownedTupleIsFree (.ref z) >>= _) _ _ _ from wpAny_bind (wpAny_tupleHeld_zip hz hT fun g0 hz0 hs0 => ?_))
  replace hs0 : Heap.SameBut z hp g0 := hs0
  simp only [Bool.false_eq_true, if_false]
  refine wpAny_bind ?_
  rw [← Array.forIn_toList]
  simp only [List.forIn_cons, List.forIn_nil]
  refine wpAny_bind (wpAny_bind (wpAny_holding (show wpAny (model prog w) A (Builtin.SmallTypes.nextOf (.ref i1) >>= _) _ _ (⟨g0, g, dr, tk0, os⟩ : Shared) from ?_)))
  refine wpAny_bind (D1.item i _ _ _ l1 (D1.over st1 hs0 S.zf1) fun x1 p1 tk1 hx1 sn1 hp1 => wpAny_pure (wpAny_pure ?_))
  replace hp1 : Heap.SameBut i1 g0 p1 := hp1
  refine wpAny_bind (wpAny_bind (wpAny_holding (show wpAny (model prog w) A (Builtin.SmallTypes.nextOf (.ref i2) >>= _) _ _ (⟨p1, g, dr, tk1, os⟩ : Shared) from ?_)))
  refine wpAny_bind (D2.item i _ _ _ l2 (D2.over (D2.over st2 hs0 S.zf2) hp1 S.sep1_2) fun x2 p2 tk2 hx2 sn2 hp2 => wpAny_pure (wpAny_pure (wpAny_pure ?_)))
  replace hp2 : Heap.SameBut i2 p1 p2 := hp2
  refine (show wpAny (model prog w) A (newTuple [x1, x2] >>= _) _ _ (⟨p2, g, dr, tk2, os⟩ : Shared) from wpAny_bind (wpAny_newTuple (wpAny_pure ⟨_, rfl, ?_⟩)))
  have hsz : p2.objs.size = hp.objs.size := by rw [hp2.1, hp1.1, hs0.1]
  have hzz : IsZipHeld p2 z TI TO T true := hp2.extBut _ _ S.zi2 (hp1.extBut _ _ S.zi1 hz0)
  have hnew : IsTupOf2 (p2.push { cls := .type "tuple", data := .seq #[x1, x2] }) p2.objs.size x1 x2 := Heap.get?_push_size _ rfl
  have hz4 : (p2.push { cls := .type "tuple", data := .seq #[x1, x2] }).objs.size = p2.objs.size + 1 := Heap.size_push ..
  have key := hQ x1 x2 (p2.push { cls := .type "tuple", data := .seq #[x1, x2] }) tk2 hx1 hx2 (Heap.get?_push_of_some _ hzz)
    (D1.frame _ _ _ (D1.over sn1 hp2 S.sep2_1) fun b _ o e => Heap.get?_push_of_some _ e) (D2.frame _ _ _ sn2 fun b _ o e => Heap.get?_push_of_some _ e)
    (by show IsTupOf2 _ hp.objs.size x1 x2; rw [← hsz]; exact hnew) (by show _ = hp.objs.size + 1; rw [← hsz]; exact hz4)
    (fun c o hc e => Heap.get?_push_of_some _ (hp2.extBut _ _ hc.2.2 (hp1.extBut _ _ hc.2.1 (hs0.extBut _ _ hc.1 e))))
  show Q (.ref p2.objs.size) _
  rw [hsz]
  exact key
theorem zh_end {f : Bool} {oT : Obj} {Q : Fin → Shared → Prop} (S : ZipSep2 z TI TO i1 i2 fp1 fp2) (D1 : Draws prog w A i1 fp1 n1 P1 St1) (D2 : Draws prog w A i2 fp2 n2 P2 St2)
    (hz : IsZipHeld s.heap z TI TO T f) (hT : s.heap.get? T = some oT) (hTI : IsTupOf2 s.heap TI (.ref i1) (.ref i2)) (st1 : St1 i s.heap) (st2 : St2 i s.heap) (l1 : i ≤ n1) (l2 : i ≤ n2) (hend : i = n1 ∨ i = n2)
    (hE : ∀ h' tk e, (∀ c o, c ≠ z ∧ c ≠ i1 ∧ c ≠ i2 → s.heap.get? c = some o → h'.get? c = some o) → (∃ o, h'.get? e = some o ∧ o.cls = .type "StopIteration") → E (.ref e) { s with heap := h', toks := tk }) :
    wpAny (model prog w) A (Builtin.«zip.__next__» ⟨[.ref z], []⟩) Q E s := by
  obtain ⟨hp, g, dr, tk0, os⟩ := s
  refine (show wpAny (model prog w) A (field (.ref z) 2 >>= _) _ _ _ from wpAny_bind (wpAny_field hz rfl (x := .bool false) rfl ?_))
  refine (show wpAny (model prog w) A (field (.ref z) 3 >>= _) _ _ _ from wpAny_bind (wpAny_field hz rfl (x := .ref TI) rfl (wpAny_bind (wpAny_seqItems hTI rfl ?_))))
  refine (show wpAny (model prog w) A (Builtin.SmallTypes.ownedTupleIsFree (.ref z) >>= _) _ _ _ from wpAny_bind (wpAny_tupleHeld_zip hz hT fun g0 hz0 hs0 => ?_))
  replace hs0 : Heap.SameBut z hp g0 := hs0
  simp only [Bool.false_eq_true, if_false]
  refine wpAny_bind ?_
  rw [← Array.forIn_toList]
  simp only [List.forIn_cons, List.forIn_nil]
  refine wpAny_bind (wpAny_bind (wpAny_holding (show wpAny (model prog w) A (Builtin.SmallTypes.nextOf (.ref i1) >>= _) _ _ (⟨g0, g, dr, tk0, os⟩ : Shared) from ?_)))
  by_cases q1 : i < n1
  · refine wpAny_bind (D1.item i _ _ _ q1 (D1.over st1 hs0 S.zf1) fun x1 p1 tk1 hx1 sn1 hp1 => wpAny_pure (wpAny_pure ?_))
    replace hp1 : Heap.SameBut i1 g0 p1 := hp1
    refine wpAny_bind (wpAny_bind (wpAny_holding (show wpAny (model prog w) A (Builtin.SmallTypes.nextOf (.ref i2) >>= _) _ _ (⟨p1, g, dr, tk1, os⟩ : Shared) from ?_)))
    have q2 : i = n2 := by omega
    refine wpAny_bind (D2.done ⟨p1, g, dr, tk1, os⟩ _ _ (by rw [← q2]; exact D2.over (D2.over st2 hs0 S.zf2) hp1 S.sep1_2) fun p2 e hp2 he => ?_)
    exact hE p2 tk1 e (fun c o hc y => hp2 _ _ hc.2.2 (hp1.extBut _ _ hc.2.1 (hs0.extBut _ _ hc.1 y))) he
  · have q2 : i = n1 := by omega
    refine wpAny_bind (D1.done ⟨g0, g, dr, tk0, os⟩ _ _ (by rw [← q2]; exact D1.over st1 hs0 S.zf1) fun p1 e hp1 he => ?_)
    exact hE p1 tk0 e (fun c o hc y => hp1 _ _ hc.2.1 (hs0.extBut _ _ hc.1 y)) he
/-- where a zip stands at turn i, S a cell that it does not know -/
def ZSt (z TI TO i1 i2 S : Addr) (St1 St2 : Nat → Heap → Prop) (i : Nat) (h : Heap) : Prop :=
  ((IsZip h z TI TO .none ∧ ∃ a1 a2, IsTupOf2 h TO a1 a2) ∨ ∃ T f oT, IsZipHeld h z TI TO T f ∧ h.get? T = some oT ∧ T ≠ S) ∧ IsTupOf2 h TI (.ref i1) (.ref i2) ∧ St1 i h ∧ St2 i h
/-- an iterator that gives new pairs -/
structure Gives (prog : Program) (w : World) (A : Around) (z S : Addr) (n : Nat) (P : Nat → Value → Value → Prop) (wr : List Addr) (St : Nat → Heap → Prop) : Prop where
  item : ∀ (i : Nat) (s : Shared) (Q : Option Value → Shared → Prop) (E : Value → Shared → Prop), i < n → St i s.heap → S < s.heap.objs.size →
    (∀ x y h' tk, P i x y → St (i + 1) h' → IsTupOf2 h' s.heap.objs.size x y → h'.objs.size = s.heap.objs.size + 1 → (∀ c o, c ∉ wr → s.heap.get? c = some o → h'.get? c = some o) → Q (some (.ref s.heap.objs.size)) { s with heap := h', toks := tk }) →
    wpAny (model prog w) A (pyNext (.ref z)) Q E s
  done : ∀ (s : Shared) (Q : Option Value → Shared → Prop) (E : Value → Shared → Prop), St n s.heap →
    (∀ h' tk, (∀ c o, c ∉ wr → s.heap.get? c = some o → h'.get? c = some o) → Q none { s with heap := h', toks := tk }) → wpAny (model prog w) A (pyNext (.ref z)) Q E s
  keep : ∀ i h h', St i h → (∀ c o, c ≠ S → h.get? c = some o → h'.get? c = some o) → St i h'
  off : S ∉ wr
theorem zip_gives {S : Addr} (Z : ZipSep2 z TI TO i1 i2 fp1 fp2) (D1 : Draws prog w A.in1 i1 fp1 n1 P1 St1) (D2 : Draws prog w A.in1 i2 fp2 n2 P2 St2) (hS : S ≠ z ∧ S ≠ TO ∧ S ≠ i1 ∧ S ≠ i2 ∧ S ≠ TI) (hf1 : S ∉ fp1) (hf2 : S ∉ fp2) :
    Gives prog w A z S (min n1 n2) (fun i x y => P1 i x ∧ P2 i y) [z, TO, i1, i2] (ZSt z TI TO i1 i2 S St1 St2) where
  item := fun i s Q E hi st hSl hQ => by
    obtain ⟨a, hTI, st1, st2⟩ := st
    have l1 : i < n1 := by omega
    have l2 : i < n2 := by omega
    rcases a with ⟨hz, a1, a2, hTO⟩ | ⟨T, f, oT, hz, hT, hTS⟩
    · refine wpAny_pyNext_zipD2_item Z D1 D2 hz hTI hTO st1 st2 l1 l2 fun x1 x2 h' tk y1 y2 b1 b2 s1 s2 b5 b6 b7 => ?_
      exact hQ x1 x2 h' tk ⟨y1, y2⟩ ⟨.inr ⟨_, false, _, b1, b5, Nat.ne_of_gt hSl⟩, b7 _ _ Z.TIz Z.TITO Z.TIi1 Z.TIi2 hTI, s1, s2⟩ b5 b6 fun c o hc e => b7 c o (fun q => hc (by simp [q])) (fun q => hc (by simp [q])) (fun q => hc (by simp [q])) (fun q => hc (by simp [q])) e
    · have hTy : s.TypeIs (.ref z) "zip" := ⟨_, hz, rfl⟩
      unfold pyNext
      refine wpAny_bind (wpAny_attempt (wpAny_callSpecial?_slot (name := Str.ofString "__next__") hTy F.slot_zip_next (wpAny_call_entry F.slot_zip_next hTy F.entry_zip_next ?_ (F.args_zip_next_1 _))))
      refine zh_item Z D1 D2 hz hT hTI st1 st2 l1 l2 fun x1 x2 h' tk y1 y2 b1 s1 s2 b5 b6 b7 => wpAny_pure ?_
      have hTz : T ≠ z ∧ T ≠ i1 ∧ T ≠ i2 ∨ ∃ o, h'.get? T = some o := by
        by_cases q : T ≠ z ∧ T ≠ i1 ∧ T ≠ i2
        · exact .inl q
        · right
          by_cases q0 : T = z
          · rw [q0]; exact ⟨_, b1⟩
          · by_cases q1 : T = i1
            · rw [q1]; exact D1.live _ _ s1
            · by_cases q2 : T = i2
              · rw [q2]; exact D2.live _ _ s2
              · exact absurd ⟨q0, q1, q2⟩ q
      have hT' : ∃ o, h'.get? T = some o := hTz.elim (fun q => ⟨_, b7 T oT q hT⟩) id
      obtain ⟨oT', hT'⟩ := hT'
      exact hQ x1 x2 h' tk ⟨y1, y2⟩ ⟨.inr ⟨T, true, oT', b1, hT', hTS⟩, b7 _ _ ⟨Z.TIz, Z.TIi1, Z.TIi2⟩ hTI, s1, s2⟩ b5 b6 fun c o hc e => b7 c o ⟨fun q => hc (by simp [q]), fun q => hc (by simp [q]), fun q => hc (by simp [q])⟩ e
  done := fun s Q E st hQ => by
    obtain ⟨a, hTI, st1, st2⟩ := st
    have l1 : min n1 n2 ≤ n1 := Nat.min_le_left _ _
    have l2 : min n1 n2 ≤ n2 := Nat.min_le_right _ _
    have he : min n1 n2 = n1 ∨ min n1 n2 = n2 := by omega
    rcases a with ⟨hz, a1, a2, hTO⟩ | ⟨T, f, oT, hz, hT, hTS⟩
    · exact wpAny_pyNext_zipD2_end Z D1 D2 hz hTI hTO st1 st2 l1 l2 he fun h' tk hk => hQ h' tk fun c o hc e => hk c o (fun q => hc (by simp [q])) (fun q => hc (by simp [q])) (fun q => hc (by simp [q])) (fun q => hc (by simp [q])) e
    · have hTy : s.TypeIs (.ref z) "zip" := ⟨_, hz, rfl⟩
      unfold pyNext
      refine wpAny_bind (wpAny_attempt (wpAny_callSpecial?_slot (name := Str.ofString "__next__") hTy F.slot_zip_next (wpAny_call_entry F.slot_zip_next hTy F.entry_zip_next ?_ (F.args_zip_next_1 _))))
      refine zh_end Z D1 D2 hz hT hTI st1 st2 l1 l2 he fun h' tk e hk ⟨o, ho, hc⟩ => ?_
      refine wpAny_bind (wpAny_isInstance (T := "StopIteration") (b := true) ⟨o, ho, hc⟩ isSubtype_stop (wpAny_pure ?_))
      exact hQ h' tk fun c o hc e => hk c o ⟨fun q => hc (by simp [q]), fun q => hc (by simp [q]), fun q => hc (by simp [q])⟩ e
  keep := fun i h h' st hk => by
    obtain ⟨a, hTI, st1, st2⟩ := st
    refine ⟨?_, hk _ _ hS.2.2.2.2.symm hTI, D1.frame _ _ _ st1 fun b hb o e => hk b o (fun q => hf1 (q ▸ hb)) e, D2.frame _ _ _ st2 fun b hb o e => hk b o (fun q => hf2 (q ▸ hb)) e⟩
    rcases a with ⟨hz, a1, a2, hTO⟩ | ⟨T, f, oT, hz, hT, hTS⟩
    · exact .inl ⟨hk _ _ hS.1.symm hz, a1, a2, hk _ _ hS.2.1.symm hTO⟩
    · exact .inr ⟨T, f, oT, hk _ _ hS.1.symm hz, hk _ _ hTS hT, hTS⟩
  off := by simp [hS.1, hS.2.1, hS.2.2.1, hS.2.2.2.1]
end
/-- the pairs that were given -/
structure Given (P : Nat → Value → Value → Prop) (lo : Addr) (h : Heap) (as : List Addr) : Prop where
  rise : as.Pairwise (· < ·)
  above : ∀ a ∈ as, lo ≤ a
  pairs : ∀ (j : Nat) (a : Addr), as[j]? = some a → ∃ x y, P j x y ∧ IsTupOf2 h a x y
theorem Given.lt {P : Nat → Value → Value → Prop} {lo : Addr} {h : Heap} {as : List Addr} (g : Given P lo h as) {a : Addr} (ha : a ∈ as) : a < h.objs.size := by
  obtain ⟨j, hj⟩ := List.mem_iff_getElem?.mp ha
  obtain ⟨_, _, _, e⟩ := g.pairs j a hj
  exact Heap.lt_size e
section
variable {prog : Program} {w : World} {A : Around} {E : Value → Shared → Prop} {s : Shared} {R : Result → Shared → Prop} {z S : Addr} {n : Nat} {P : Nat → Value → Value → Prop} {wr : List Addr} {St : Nat → Heap → Prop} {lo : Nat}
theorem gv_loop (G : Gives prog w A.in1 z S n P wr St) (hlo : S < lo) (hwr : ∀ c ∈ wr, c < lo) (hn : n ≤ sizeLine) (res : Value) {h₁ : Heap}
    (hR : ∀ h' tk acc c as, (∀ b o, b ≠ S → b ∉ wr → h₁.get? b = some o → h'.get? b = some o) → h'.get? S = some { cls := .type "list", dict := none, data := .seq acc c, slots := #[] } → as.length = n → Given P lo h' as →
      acc.toList = as.map Value.ref → R (.ok (.ret res)) { s with heap := h', toks := tk }) :
    ∀ (k i : Nat) (h : Heap) (tk c : Nat) (acc : Array Value) (as : List Addr), n - i = k → i ≤ n → St i h → (∀ b o, b ≠ S → b ∉ wr → h₁.get? b = some o → h.get? b = some o) →
      h.get? S = some { cls := .type "list", dict := none, data := .seq acc c, slots := #[] } → acc.toList = as.map Value.ref → as.length = i → Given P lo h as → lo ≤ h.objs.size →
      codeAny (model prog w) A (.builtin "list.extend.loop" ⟨[.ref S, .ref z, res], []⟩) R { s with heap := h, toks := tk } := by
  intro k
  induction k with
  | zero =>
    intro i h tk c acc as hk hi hst hkeep hS hacc hal hG hls
    have hin : i = n := by omega
    subst hin
    refine codeAny_builtin PySem.F.entry_extend_loop ?_
    rw [Around.under_plainId PySem.F.plain_extend_loop _]
    refine (show wpAny (model prog w) A.in1 (pyNext (.ref z) >>= _) _ _ ({ s with heap := h, toks := tk } : Shared) from wpAny_bind (G.done _ _ _ hst fun h' tk' he => wpAny_pure ?_))
    refine hR h' tk' acc c as (fun b o h1 h2 e => he b o h2 (hkeep b o h1 h2 e)) (he S _ G.off hS) hal ⟨hG.rise, hG.above, fun j a hj => ?_⟩ hacc
    obtain ⟨x, y, e2, e3⟩ := hG.pairs j a hj
    exact ⟨x, y, e2, he a _ (fun q => Nat.lt_irrefl _ (Nat.lt_of_lt_of_le (hwr a q) (hG.above a (List.mem_of_getElem? hj)))) e3⟩
  | succ k ih =>
    intro i h tk c acc as hk hi hst hkeep hS hacc hal hG hls
    have hlt : i < n := by omega
    have hsz : acc.size = i := by rw [← Array.length_toList, hacc, List.length_map, hal]
    refine codeAny_builtin PySem.F.entry_extend_loop ?_
    rw [Around.under_plainId PySem.F.plain_extend_loop _]
    have hSl : S < h.objs.size := Heap.lt_size hS
    refine (show wpAny (model prog w) A.in1 (pyNext (.ref z) >>= _) _ _ ({ s with heap := h, toks := tk } : Shared) from wpAny_bind (G.item i _ _ _ hlt hst hSl fun x y h' tk' hP hst' ht hz hkp => ?_))
    replace ht : IsTupOf2 h' h.objs.size x y := ht
    replace hz : h'.objs.size = h.objs.size + 1 := hz
    replace hkp : ∀ b o, b ∉ wr → h.get? b = some o → h'.get? b = some o := hkp
    have hS' := hkp S _ G.off hS
    have up : ∀ b o, b ≠ S → h'.get? b = some o → (h'.update S (Obj.mapSeq (·.push (Value.ref h.objs.size)))).get? b = some o := fun b o hb e => (Heap.get?_update_other _ _ (Ne.symm hb)).trans e
    refine (show wpAny (model prog w) A.in1 (updateSeq S (·.push (Value.ref h.objs.size)) >>= _) _ _ ({ s with heap := h', toks := tk' } : Shared) from wpAny_bind ?_)
    refine wpAny_updateSeq hS' rfl (wpAny_pure ⟨plainId_quiet PySem.F.plain_extend_loop _, ih (i + 1) _ tk' _ (acc.push (Value.ref h.objs.size)) (as ++ [h.objs.size]) (by omega) hlt (G.keep _ _ _ hst' up)
      (fun b o h1 h2 e => up b o h1 (hkp b o h2 (hkeep b o h1 h2 e))) (Heap.get?_update_self _ hS' rfl) (by rw [Array.toList_push, hacc, List.map_append]; rfl) (by rw [List.length_append, hal]; rfl) ⟨?_, ?_, ?_⟩ ?_⟩) (by rw [hsz]; omega) (by show (acc.push (Value.ref h.objs.size)).size ≤ sizeLine + 1; rw [Array.size_push, hsz]; omega)
    · refine List.pairwise_append.mpr ⟨hG.rise, List.pairwise_singleton _ _, fun a ha b hb => ?_⟩
      rw [List.mem_singleton.mp hb]
      exact hG.lt ha
    · intro a ha
      rcases List.mem_append.mp ha with ha | ha
      · exact hG.above a ha
      · rw [List.mem_singleton.mp ha]; exact hls
    · intro j b hj
      rcases Nat.lt_trichotomy j as.length with h1 | h1 | h1
      · rw [List.getElem?_append_left h1] at hj
        obtain ⟨x', y', e2, e3⟩ := hG.pairs j b hj
        have hb := hG.above b (List.mem_of_getElem? hj)
        exact ⟨x', y', e2, up b _ (Nat.ne_of_gt (Nat.lt_of_lt_of_le hlo hb)) (hkp b _ (fun q => Nat.lt_irrefl _ (Nat.lt_of_lt_of_le (hwr b q) hb)) e3)⟩
      · subst h1
        have hb : h.objs.size = b := by simpa using hj
        subst hb
        exact ⟨x, y, by rw [hal]; exact hP, up _ _ (Nat.ne_of_gt hSl) ht⟩
      · have hnone : (as ++ [h.objs.size])[j]? = none := List.getElem?_eq_none (by rw [List.length_append, List.length_singleton]; omega)
        rw [hnone] at hj; cases hj
    · have e : (h'.update S (Obj.mapSeq (·.push (Value.ref h.objs.size)))).get? h.objs.size = _ := up _ _ (Nat.ne_of_gt hSl) ht
      exact Nat.le_trans hls (Nat.le_of_lt (Heap.lt_size e))
end
section
variable {prog : Program} {w : World} {A : Around} {E : Value → Shared → Prop} {s : Shared} {R : Result → Shared → Prop} {z S : Addr} {n : Nat} {P : Nat → Value → Value → Prop} {wr : List Addr} {St : Nat → Heap → Prop} {lo : Nat}
theorem zip_no_len : typeLookup (.type "zip") "__len__" = pure none := by rw [typeLookup_type, builtinLookup_eq_fast]; kernel_rfl
theorem zip_no_hint : typeLookup (.type "zip") "__length_hint__" = pure none := by rw [typeLookup_type, builtinLookup_eq_fast]; kernel_rfl
/-- S.extend(z) for a zip z, S empty -/
theorem gv_extend (G : Gives prog w A.in1 z S n P wr St) (hTy : ∀ h : Heap, St 0 h → ∃ o, h.get? z = some o ∧ o.cls = .type "zip") (hself : ∀ (s : Shared) (Q : Value → Shared → Prop) (E : Value → Shared → Prop), St 0 s.heap → Q (.ref z) s → wpAny (model prog w) A.in1 (pyIter (.ref z)) Q E s)
    (hst : St 0 s.heap) (hSz : S ≠ z) (hwr : ∀ c ∈ wr, c < s.heap.objs.size) (res : Value) (c₀ : Nat) (hS : s.heap.get? S = some { cls := .type "list", data := .seq #[] c₀ })
    (hR : ∀ h' tk acc c as, (∀ b o, b ≠ S → b ∉ wr → s.heap.get? b = some o → h'.get? b = some o) → h'.get? S = some { cls := .type "list", dict := none, data := .seq acc c, slots := #[] } → as.length = n → Given P s.heap.objs.size h' as →
      acc.toList = as.map Value.ref → R (.ok (.ret res)) { s with heap := h', toks := tk }) (hn : n ≤ sizeLine) :
    wpAny (model prog w) A.in1 (Builtin.List.listExtendWith (.ref S) (.ref z) res)
      (fun fin s' => match fin with | .done f => R (.ok f) s' | .again c' => c'.quiet = true ∧ codeAny (model prog w) A c' R s') (fun e s' => R (.error e) s') s := by
  have hSl : S < s.heap.objs.size := Heap.lt_size hS
  unfold Builtin.List.listExtendWith
  have hty : s.TypeIs (.ref z) "zip" := hTy _ hst
  refine wpAny_bind (wpAny_typeOf (T := "zip") hty ?_)
  have q1 : Builtin.List.listSameRef (.ref S) (.ref z) = false := by simp [Builtin.List.listSameRef, hSz]
  have q2 : (Value.type "zip" == Value.type "list") = false := by decide
  have q3 : (Value.type "zip" == Value.type "tuple") = false := by decide
  simp only [q1, q2, q3, Bool.or_false, Bool.false_eq_true, if_false]
  refine wpAny_bind (hself s _ _ hst (wpAny_bind (wpAny_holding ?_)))
  unfold Builtin.List.listLengthHint
  refine wpAny_bind (wpAny_specialOf hty zip_no_len ?_)
  refine (show wpAny (model prog w) A.in1 (specialOf (Value.ref z) (Str.ofString "__length_hint__") >>= _) _ _ s from wpAny_bind (wpAny_specialOf hty zip_no_hint (wpAny_pure ?_)))
  refine (show wpAny (model prog w) A.in1 (rule "list.extend.makes-room" >>= fun _ => Builtin.List.listTouch (.ref S) >>= fun _ => again (.builtin "list.extend.loop" ⟨[.ref S, .ref z, res], []⟩)) _ _ s from wpAny_bind (wpAny_rule (wpAny_bind ?_)))
  refine (show wpAny (model prog w) A.in1 (updateSeq S (·.push .none) >>= fun _ => updateSeq S (·.pop)) _ _ s from wpAny_bind (wpAny_updateSeq hS rfl ?_))
  have u2 := Heap.get?_update_self (Obj.mapSeq (·.push Value.none)) hS rfl
  refine wpAny_updateSeq (hz := by seq_fits) u2 rfl ?_
  have u3 := Heap.get?_update_self (Obj.mapSeq (·.pop)) u2 rfl
  have oth : ∀ b o, b ≠ S → s.heap.get? b = some o → ((s.heap.update S (Obj.mapSeq (·.push Value.none))).update S (Obj.mapSeq (·.pop))).get? b = some o :=
    fun b o hb e => by rw [Heap.get?_update_other _ _ (Ne.symm hb), Heap.get?_update_other _ _ (Ne.symm hb)]; exact e
  refine wpAny_pure ⟨plainId_quiet PySem.F.plain_extend_loop _, ?_⟩
  refine gv_loop (s := s) (h₁ := s.heap) (lo := s.heap.objs.size) G hSl hwr hn res hR n 0 _ _ _ #[] [] (Nat.sub_zero _) (Nat.zero_le _) (G.keep _ _ _ hst oth) (fun b o hb _ e => oth b o hb e) u3 rfl rfl ⟨List.Pairwise.nil, (fun _ ha => nomatch ha), (fun j a hj => by simp at hj)⟩ ?_
  refine Nat.le_of_eq ?_
  rw [Heap.size_update, Heap.size_update]
/-- what is wanted of a zip that is to be drained -/
structure Ready (prog : Program) (w : World) (A : Around) (z n : Nat) (P : Nat → Value → Value → Prop) (wr : List Addr) (s : Shared) : Prop where
  hz : s.TypeIs (.ref z) "zip"
  wrl : ∀ c ∈ wr, c < s.heap.objs.size
  st : ∃ St : Addr → Nat → Heap → Prop, (∀ S, s.heap.objs.size ≤ S → Gives prog w A z S n P wr (St S)) ∧ (∀ S (h' : Heap), s.heap.objs.size ≤ S → (∀ c o, s.heap.get? c = some o → h'.get? c = some o) → St S 0 h') ∧
    (∀ S (h : Heap), St S 0 h → ∃ o, h.get? z = some o ∧ o.cls = .type "zip") ∧ ∀ S (s : Shared) (Q : Value → Shared → Prop) (E : Value → Shared → Prop), St S 0 s.heap → Q (.ref z) s → wpAny (model prog w) A (pyIter (.ref z)) Q E s
theorem Given.low {lo lo' : Addr} {h : Heap} {as : List Addr} (g : Given P lo h as) (hl : lo' ≤ lo) : Given P lo' h as := ⟨g.rise, fun a ha => Nat.le_trans hl (g.above a ha), g.pairs⟩
theorem Given.to {lo lo' : Addr} {h : Heap} {as : List Addr} (e : lo = lo') (g : Given P lo h as) : Given P lo' h as := e ▸ g
/-- list(z) -/
theorem gv_list {Q : Value → Shared → Prop} (G : Ready prog w A.in1.in1 z n P wr s) (hn : n ≤ sizeLine)
    (hQ : ∀ h' tk acc c as, (∀ b o, b ∉ wr → s.heap.get? b = some o → h'.get? b = some o) → h'.get? s.heap.objs.size = some { cls := .type "list", dict := none, data := .seq acc c, slots := #[] } → as.length = n → Given P (s.heap.objs.size + 1) h' as →
      acc.toList = as.map Value.ref → Q (.ref s.heap.objs.size) { s with heap := h', toks := tk }) :
    wpAny (model prog w) A (call (.type "list") [.ref z]) Q E s := by
  obtain ⟨hz, wrl, St, g1, g2, g3, g4⟩ := G
  have zl : z < s.heap.objs.size := by obtain ⟨_, ho, _⟩ := hz; exact Heap.lt_size ho
  refine callType_codes (Q₁ := fun obj s₁ => obj = .ref s.heap.objs.size ∧ s₁ = { s with heap := s.heap.push { cls := .type "list", data := .seq #[] } }) PySem.F.called_list (PySem.F.typeCall_list_1 _) PySem.F.entry_list_init (code_list_new _ ⟨rfl, rfl⟩) fun obj s₁ h₁ => ?_
  obtain ⟨rfl, rfl⟩ := h₁
  have hS : (s.heap.push { cls := .type "list", data := .seq #[] }).get? s.heap.objs.size = some { cls := .type "list", data := .seq #[] } := Heap.get?_push_size _ rfl
  refine ⟨⟨_, hS, rfl⟩, PySem.F.args_list_init_2 _ _, ?_⟩
  refine (show wpAny (model prog w) A.in1.in1 (do let old ← Builtin.List.listItems (.ref s.heap.objs.size); Builtin.List.listUpdate (.ref s.heap.objs.size) (fun _ => #[]); letGo old.toList.reverse; Builtin.List.listExtendWith (.ref s.heap.objs.size) (.ref z) .none) _ _ ({ s with heap := s.heap.push { cls := .type "list", data := .seq #[] } } : Shared) from wpAny_bind ?_)
  unfold Builtin.List.listItems
  refine wpAny_bind (wpAny_seqItems hS rfl (wpAny_pure ?_))
  refine (show wpAny (model prog w) A.in1.in1 (updateSeq s.heap.objs.size (fun _ => #[]) >>= fun _ => letGo (#[] : Array Value).toList.reverse >>= fun _ => Builtin.List.listExtendWith (.ref s.heap.objs.size) (.ref z) .none) _ _ ({ s with heap := s.heap.push { cls := .type "list", data := .seq #[] } } : Shared) from wpAny_bind (wpAny_updateSeq hS rfl ?_))
  have u2 := Heap.get?_update_self (Obj.mapSeq (fun _ => (#[] : Array Value))) hS rfl
  have sz : ((s.heap.push { cls := .type "list", data := .seq #[] }).update s.heap.objs.size (Obj.mapSeq (fun _ => (#[] : Array Value)))).objs.size = s.heap.objs.size + 1 := by rw [Heap.size_update, Heap.size_push]
  have oth : ∀ b o, s.heap.get? b = some o → ((s.heap.push { cls := .type "list", data := .seq #[] }).update s.heap.objs.size (Obj.mapSeq (fun _ => (#[] : Array Value)))).get? b = some o :=
    fun b o e => by rw [Heap.get?_update_other _ _ (Nat.ne_of_gt (Heap.lt_size e))]; exact Heap.get?_push_of_some _ e
  refine wpAny_bind (wpAny_letGo ?_)
  refine gv_extend (A := A.in1) (S := s.heap.objs.size) (St := St s.heap.objs.size) (g1 _ (Nat.le_refl _)) (g3 _) (fun s Q E => g4 _ s Q E) (g2 _ _ (Nat.le_refl _) oth) (Nat.ne_of_gt zl) (fun c hc => by show c < _; rw [sz]; exact Nat.lt_succ_of_lt (wrl c hc)) .none _ u2 (fun h' tk acc c as hk hS' hl hG hacc => ?_) hn
  refine ⟨rfl, hQ h' tk acc c as (fun b o hb e => hk b o (Nat.ne_of_lt (Heap.lt_size e)) hb (oth b o e)) hS' hl ?_ hacc⟩
  have hG' : Given P ((s.heap.push { cls := .type "list", data := .seq #[] }).update s.heap.objs.size (Obj.mapSeq (fun _ => (#[] : Array Value)))).objs.size h' as := hG
  rw [sz] at hG'
  exact hG'
/-- what is collected from z -/
theorem gv_collect {Q : List Value → Shared → Prop} (G : Ready prog w A.in1 z n P wr s) (hn : n ≤ sizeLine)
    (hQ : ∀ (h' : Heap) tk as, (∀ b o, b ∉ wr → s.heap.get? b = some o → h'.get? b = some o) → as.length = n → Given P (s.heap.objs.size + 1) h' as → s.heap.objs.size + 1 ≤ h'.objs.size → Q (as.map Value.ref) { s with heap := h', toks := tk }) :
    wpAny (model prog w) A (collect (.ref z)) Q E s := by
  obtain ⟨hz, wrl, St, g1, g2, g3, g4⟩ := G
  have zl : z < s.heap.objs.size := by obtain ⟨_, ho, _⟩ := hz; exact Heap.lt_size ho
  unfold collect
  refine wpAny_bind (wpAny_runValue (codeAny_builtin entry_proto_collect' ?_))
  rw [Around.under_plainId PySem.F.plain_proto_collect _]
  refine (show wpAny (model prog w) A.in1 (newList [] >>= fun l => again (.builtin "list.__iadd__" ⟨[l, .ref z], []⟩)) _ _ s from wpAny_bind (wpAny_newObj_type ?_))
  refine wpAny_pure ⟨plainId_quiet PySem.F.plain_list_iadd _, codeAny_builtin entry_list_iadd' ?_⟩
  rw [Around.under_plainId PySem.F.plain_list_iadd _]
  have hS : (s.heap.push { cls := .type "list", data := .seq ([] : List Value).toArray }).get? s.heap.objs.size = some { cls := .type "list", data := .seq #[] } := Heap.get?_push_size _ rfl
  have sz : (s.heap.push { cls := .type "list", data := .seq ([] : List Value).toArray }).objs.size = s.heap.objs.size + 1 := Heap.size_push ..
  have oth : ∀ b o, s.heap.get? b = some o → (s.heap.push { cls := .type "list", data := .seq ([] : List Value).toArray }).get? b = some o := fun b o e => Heap.get?_push_of_some _ e
  have key := gv_extend (A := A) (s := { s with heap := s.heap.push { cls := .type "list", data := .seq ([] : List Value).toArray } }) (S := s.heap.objs.size) (St := St s.heap.objs.size)
    (R := fun (q : Result) (s' : Shared) => ∃ (h' : Heap) (tk : Nat) (acc' : Array Value) (c' : Nat) (as : List Addr), q = .ok (.ret (.ref s.heap.objs.size)) ∧ s' = { s with heap := h', toks := tk } ∧
      (∀ b o, b ∉ wr → s.heap.get? b = some o → h'.get? b = some o) ∧ h'.get? s.heap.objs.size = some { cls := .type "list", dict := none, data := .seq acc' c', slots := #[] } ∧ as.length = n ∧ Given P (s.heap.objs.size + 1) h' as ∧ acc'.toList = as.map Value.ref)
    (g1 _ (Nat.le_refl _)) (g3 _) (fun s Q E => g4 _ s Q E) (g2 _ _ (Nat.le_refl _) oth) (Nat.ne_of_gt zl) (fun c hc => by show c < _; rw [sz]; exact Nat.lt_succ_of_lt (wrl c hc)) (.ref s.heap.objs.size) _ hS
    (fun h' tk acc' c' as hk hS' hl hG hacc => ⟨h', tk, acc', c', as, rfl, rfl, fun b o hb e => hk b o (Nat.ne_of_lt (Heap.lt_size e)) hb (oth b o e), hS', hl, Given.to sz hG, hacc⟩) hn
  refine (show wpAny (model prog w) A.in1 (Builtin.List.listExtendWith (.ref s.heap.objs.size) (.ref z) (.ref s.heap.objs.size)) _ _ _ from ?_)
  refine wpAny_mono key (fun fl s' x => ?_) fun e s' x => ?_
  · cases fl with
    | done f =>
      obtain ⟨h', tk, acc', c', as, e1, rfl, hk, hS', hl, hG, hacc⟩ := x
      cases e1
      refine (show wpAny (model prog w) A (load s.heap.objs.size >>= _) _ _ _ from wpAny_bind (wpAny_load hS' (wpAny_pure ?_)))
      show Q acc'.toList _
      rw [hacc]
      exact hQ h' tk as hk hl hG (Heap.lt_size hS')
    | again c₁ =>
      refine ⟨x.1, codeAny_mono x.2 fun q s₂ y => ?_⟩
      obtain ⟨h', tk, acc', c', as, rfl, rfl, hk, hS', hl, hG, hacc⟩ := y
      refine (show wpAny (model prog w) A (load s.heap.objs.size >>= _) _ _ _ from wpAny_bind (wpAny_load hS' (wpAny_pure ?_)))
      show Q acc'.toList _
      rw [hacc]
      exact hQ h' tk as hk hl hG (Heap.lt_size hS')
  · obtain ⟨_, _, _, _, _, e', _⟩ := x
    cases e'
/-- tuple(z) -/
theorem gv_tuple {Q : Value → Shared → Prop} (G : Ready prog w A.in1.in1.in1 z n P wr s) (hn : n ≤ sizeLine)
    (hQ : ∀ (h' : Heap) tk as, (∀ b o, b ∉ wr → s.heap.get? b = some o → h'.get? b = some o) → as.length = n → Given P (s.heap.objs.size + 1) h' as → s.heap.objs.size + 1 ≤ h'.objs.size → Q (.ref h'.objs.size) { s with heap := h'.push { cls := .type "tuple", data := .seq (as.map Value.ref).toArray }, toks := tk }) :
    wpAny (model prog w) A (call (.type "tuple") [.ref z]) Q E s := by
  have hTy : s.TypeIs (.ref z) "zip" := G.hz
  refine callType_codes (Q₁ := fun obj s₁ => s₁.TypeIs obj "tuple" ∧ Q obj s₁) PySem.F.called_tuple (PySem.F.typeCall_tuple_1 _) PySem.F.entry_object_init (codeAny_of_tree ?_) fun obj s₁ h₁ => ?_
  · refine (show wpAny (model prog w) A.in1.in1 (do checkBuiltinCall "tuple.__new__" ⟨[.type "tuple", .ref z], []⟩; again (.builtin "tuple.__new__" ⟨[.type "tuple", .ref z], []⟩)) _ _ s from ?_)
    refine wpAny_bind (wpAny_of_eq (PySem.F.newCall_tuple_1 _) (wpAny_pure ⟨plainId_quiet PySem.F.plain_tuple_new _, codeAny_builtin PySem.F.entry_tuple_new ?_⟩))
    rw [Around.under_plainId PySem.F.plain_tuple_new _]
    have hsub := sub_tuple_self
    have hinit := init_tuple_lookup
    have hmh := madeHere_tuple
    wp_walk using wpAny_typeOf hTy, gv_collect G hn
    intro h' tk as hk hl hG hle
    refine (show wpAny (model prog w) _ (Builtin.Tuple.tupleExact (as.map Value.ref).toArray >>= fun v => ret v) _ _ _ from ?_)
    unfold Builtin.Tuple.tupleExact
    refine wpAny_bind (wpAny_newObj_type (wpAny_pure ?_) (by show (as.map Value.ref).toArray.size ≤ sizeLine; rw [List.size_toArray, List.length_map, hl]; exact hn))
    exact ⟨⟨_, Heap.get?_push_size _ rfl, rfl⟩, hQ h' tk as hk hl hG hle⟩
  · exact ⟨h₁.1, PySem.F.args_object_init_2 obj _, object_init_meets PySem.F.called_tuple.init.lookup PySem.F.called_tuple.made (by decide) prog w A.in1 _ s₁ ⟨h₁.1, rfl, h₁.2⟩⟩
end
/-! ### many new objects tracked -/
def putN : Hp → List (Addr × HO) → Hp
  | H, [] => H
  | H, p :: N => putN (upd H p.1 p.2) N
theorem putN_off {b : Addr} : ∀ (N : List (Addr × HO)) (H : Hp), b ∉ N.map (·.1) → putN H N b = H b
  | [], _, _ => rfl
  | p :: N, H, h => by
    rw [List.map_cons, List.mem_cons, not_or] at h
    show putN (upd H p.1 p.2) N b = H b
    rw [putN_off N _ h.2, upd_ne h.1]
theorem putN_at : ∀ (N : List (Addr × HO)) (H : Hp), (N.map (·.1)).Nodup → ∀ p ∈ N, putN H N p.1 = some p.2
  | [], _, _, _, h => nomatch h
  | q :: N, H, nd, p, h => by
    rw [List.map_cons, List.nodup_cons] at nd
    show putN (upd H q.1 q.2) N p.1 = some p.2
    rcases List.mem_cons.mp h with e | h
    · rw [e, putN_off N _ nd.1, upd_same]
    · exact putN_at N _ nd.2 p h
theorem lay_many {X : Cx} {pins : List (Addr × Obj)} {σ : L2.St} {H : Hp} {s : Shared} {h' : Heap} {N : List (Addr × HO)} (tk : Nat) (I : Inv X pins σ H s) (hk : ∀ b o, s.heap.get? b = some o → h'.get? b = some o) (hp : ∀ p ∈ N, s.heap.objs.size ≤ p.1) (nd : (N.map (·.1)).Nodup)
    (new : ∀ p ∈ N, ObjOk X.prog X.w (putN H N) h' p.1 p.2) : Inv X pins σ (putN H N) { s with heap := h', toks := tk } ∧ Same H (putN H N) ∧ ∀ p ∈ N, H p.1 = none := by
  have fr : ∀ p ∈ N, H p.1 = none := fun p h => I.hok.fresh (hp p h)
  have sm : Same H (putN H N) := fun b o e => by
    rw [putN_off N H fun z => ?_]
    · exact e
    · obtain ⟨p, hm, ep⟩ := List.mem_map.mp z
      have := fr p hm
      rw [ep, e] at this
      cases this
  refine ⟨I.call' (ch := []) rfl ⟨fun b o q _ _ _ => hk b o q, fun b o q _ _ _ => ⟨o.slots, hk b o q⟩, fun b o q n _ => ?_, fun b o q _ => ⟨o, hk b o q⟩, fun b xs q => sm b _ q, fun b o u q => sm b _ q, fun b ps q => ⟨#[], by rw [sm b _ q]; simp⟩⟩ (fun b u q => ?_) I.bare fun b z => by simp at z, sm, fr⟩
  · rw [putN_off N H fun z => ?_]
    · exact n
    · obtain ⟨p, hm, ep⟩ := List.mem_map.mp z
      exact Nat.lt_irrefl _ (Nat.lt_of_lt_of_le (Heap.lt_size q) (ep ▸ hp p hm))
  · by_cases hb : b ∈ N.map (·.1)
    · obtain ⟨p, hm, ep⟩ := List.mem_map.mp hb
      subst ep
      rw [putN_at N H nd p hm] at q
      cases q
      exact new p hm
    · rw [putN_off N H hb] at q
      exact (I.hok b u q).stay (fun d v _ y => hk d v y) (fun d y => sm d _ y) fun d xs y => sm d _ y

/-! ### what is zipped: a list or a tuple -/
structure Zs (prog : Program) (w : World) (a : Addr) (its : Array Value) (o : Obj) (Hs : Heap → Prop) : Prop where
  B : Begins (.ref a) o Hs
  D : ∀ (A : Around) (it : Addr), A.handled = none → a ≠ it → ∃ St : Nat → Heap → Prop, Draws prog w A it [it, a] its.size (fun i v => its[i]? = some v) St ∧ ∀ h, h.get? it = some o → Hs h → St 0 h
theorem zs_list {prog : Program} {w : World} (a : Addr) (its : Array Value) : Zs prog w a its { cls := .type "list_iterator", data := .fields #[.ref a, .int 0 0] } fun h => h.IsList a its :=
  ⟨begins_list a its, fun A it hh ne => ⟨_, Draws.list hh it a ne its, fun h e l => ⟨⟨_, e, rfl, rfl⟩, l⟩⟩⟩
theorem zs_tuple {prog : Program} {w : World} (a : Addr) (its : Array Value) : Zs prog w a its { cls := .type "tuple_iterator", data := .fields #[.ref a, .int 0 0] } fun h => h.IsTuple a its :=
  ⟨begins_tuple a its, fun A it hh ne => ⟨_, Draws.tuple hh it a ne its, fun h e l => ⟨⟨_, e, rfl, rfl⟩, l⟩⟩⟩
section
variable {prog : Program} {w : World} {A : Around} {E : Value → Shared → Prop} {s : Shared} {a b : Addr} {xs ys : Array Value} {o1 o2 : Obj} {H1 H2 : Heap → Prop}
theorem zip_ready {Q : Value → Shared → Prop} (hh : A.handled = none) (Z1 : Zs prog w a xs o1 H1) (Z2 : Zs prog w b ys o2 H2) (h1 : H1 s.heap) (h2 : H2 s.heap) (la : a < s.heap.objs.size) (lb : b < s.heap.objs.size)
    (h : ∀ h' z wr, (∀ c o, s.heap.get? c = some o → h'.get? c = some o) → (∀ c ∈ wr, s.heap.objs.size ≤ c) → s.heap.objs.size ≤ h'.objs.size →
      (∀ A : Around, A.handled = none → Ready prog w A z (min xs.size ys.size) (fun i x y => xs[i]? = some x ∧ ys[i]? = some y) wr { s with heap := h' }) → Q (.ref z) { s with heap := h' }) :
    wpAny (model prog w) A (call (.type "zip") [.ref a, .ref b]) Q E s := by
  refine zip_begins2 Z1.B Z2.B h1 h2 fun h' hz hTI hTO i1 i2 sz hk => ?_
  refine h h' (s.heap.objs.size + 4) [s.heap.objs.size + 4, s.heap.objs.size + 3, s.heap.objs.size, s.heap.objs.size + 1] hk (fun c hc => ?_) (by rw [sz]; exact Nat.le_add_right _ _) fun A' hA => ⟨⟨_, hz, rfl⟩, fun c hc => ?_, ?_⟩
  · have e : c = s.heap.objs.size + 4 ∨ c = s.heap.objs.size + 3 ∨ c = s.heap.objs.size ∨ c = s.heap.objs.size + 1 := by simpa using hc
    rcases e with e | e | e | e <;> (rw [e]; first | exact Nat.le_refl _ | exact Nat.le_add_right _ _)
  · have e : c = s.heap.objs.size + 4 ∨ c = s.heap.objs.size + 3 ∨ c = s.heap.objs.size ∨ c = s.heap.objs.size + 1 := by simpa using hc
    show c < h'.objs.size
    rw [sz]
    rcases e with e | e | e | e <;> (rw [e]; first | exact Nat.lt_add_of_pos_right (by decide) | exact Nat.add_lt_add_left (by decide) _)
  · obtain ⟨St1, D1, b1⟩ := Z1.D A'.in1 s.heap.objs.size hA (Nat.ne_of_lt la)
    obtain ⟨St2, D2, b2⟩ := Z2.D A'.in1 (s.heap.objs.size + 1) hA (Nat.ne_of_lt (Nat.lt_succ_of_lt lb))
    have apart : ∀ N S a b : Nat, a < N → b < N → N + 5 ≤ S → (S ≠ N + 4 ∧ S ≠ N + 3 ∧ S ≠ N ∧ S ≠ N + 1 ∧ S ≠ N + 2) ∧ S ∉ [N, a] ∧ S ∉ [N + 1, b] := fun N S a b q1 q2 q3 => by
      refine ⟨⟨by omega, by omega, by omega, by omega, by omega⟩, fun z => ?_, fun z => ?_⟩ <;> (rcases List.mem_cons.mp z with z | z <;> first | omega | (have z := List.mem_singleton.mp z; omega))
    let N0 := s.heap.objs.size
    refine ⟨fun S => ZSt (s.heap.objs.size + 4) (s.heap.objs.size + 2) (s.heap.objs.size + 3) s.heap.objs.size (s.heap.objs.size + 1) S St1 St2, fun S hS => ?_, fun S h'' hS hk2 => ?_, fun S h st => ?_, fun S s Q E st q => ?_⟩
    · have hS : h'.objs.size ≤ S := hS
      obtain ⟨a1, a2, a3⟩ := apart s.heap.objs.size S a b la lb (sz ▸ hS)
      exact zip_gives (n1 := xs.size) (n2 := ys.size) (zip_sep2 (N := s.heap.objs.size) (fun c hc => by rw [List.mem_singleton.mp hc]; exact la) (fun c hc => by rw [List.mem_singleton.mp hc]; exact lb)) D1 D2 a1 a2 a3
    · refine ⟨.inl ⟨hk2 _ _ hz, _, _, hk2 _ _ hTO⟩, hk2 _ _ hTI, b1 _ (hk2 _ _ i1) (Z1.B.keeps _ _ (Z1.B.keeps _ _ h1 hk) hk2), b2 _ (hk2 _ _ i2) (Z2.B.keeps _ _ (Z2.B.keeps _ _ h2 hk) hk2)⟩
    · rcases st.1 with ⟨z, _⟩ | ⟨T, f, oT, z, _⟩
      · exact ⟨_, z, rfl⟩
      · exact ⟨_, z, rfl⟩
    · have hTy : s.TypeIs (.ref (N0 + 4)) "zip" := by
        rcases st.1 with ⟨z, _⟩ | ⟨T, f, oT, z, _⟩
        · exact ⟨_, z, rfl⟩
        · exact ⟨_, z, rfl⟩
      refine wpAny_pyIter_slot hTy F.slot_zip_iter (wpAny_call_entry F.slot_zip_iter hTy F.entry_zip_iter ?_ (F.args_zip_iter_1 _))
      exact (show wpAny (model prog w) _ (ret (.ref (N0 + 4))) _ _ s from wpAny_pure ⟨_, rfl, "zip", _, hTy, F.slot_zip_next.lookup, q⟩)
end
end Ev
/-! EvZipR: the rules of list(zip(a, b)), tuple(zip(a, b)). -/
namespace Ev
open PySem PySem.Spec PyProof.Rows L2

def zN : List Addr → List V → List V → List (Addr × HO)
  | a :: as, x :: xs, y :: ys => (a, .tup [x, y]) :: zN as xs ys
  | _, _, _ => []
theorem zN_mem : ∀ {as : List Addr} {xs ys : List V} {p : Addr × HO}, p ∈ zN as xs ys → ∃ (j : Nat) (x y : V), as[j]? = some p.1 ∧ xs[j]? = some x ∧ ys[j]? = some y ∧ p.2 = .tup [x, y]
  | [], _, _, _, h => by simp [zN] at h
  | _ :: _, [], _, _, h => by simp [zN] at h
  | _ :: _, _ :: _, [], _, h => by simp [zN] at h
  | a :: as, x :: xs, y :: ys, p, h => by
    unfold zN at h
    rcases List.mem_cons.mp h with e | h
    · subst e
      exact ⟨0, x, y, rfl, rfl, rfl, rfl⟩
    · obtain ⟨j, u, v, h1, h2, h3, h4⟩ := zN_mem h
      exact ⟨j + 1, u, v, h1, h2, h3, h4⟩
theorem zN_fst : ∀ {as : List Addr} {xs ys : List V}, as.length = min xs.length ys.length → (zN as xs ys).map (·.1) = as
  | [], _, _, _ => by simp [zN]
  | _ :: _, [], _, h => by simp at h
  | _ :: _, _ :: _, [], h => by simp at h
  | a :: as, x :: xs, y :: ys, h => by
    unfold zN
    simp only [List.length_cons] at h
    rw [List.map_cons, zN_fst (by omega)]
section
variable {K : PySem.W.Frag} {H : Hp} {P : AP'}
theorem zN_rp : ∀ {as : List Addr} {xs ys : List V} {ds es : List PyData}, as.length = min xs.length ys.length → (∀ p ∈ zN as xs ys, H p.1 = some p.2) → RpAll K H P xs ds → RpAll K H P ys es → RpAll K H P (as.map V.ref) (zips ds es)
  | [], _, _, _, _, h, _, .nil, _ => by simp [zips]; exact .nil
  | [], _, _, _, _, h, _, .cons _ _, .nil => by simp [zips]; exact .nil
  | [], _, _, _, _, h, _, .cons _ _, .cons _ _ => by simp at h
  | _ :: _, _, _, _, _, h, _, .nil, _ => by simp at h
  | _ :: _, _, _, _, _, h, _, .cons _ _, .nil => by simp at h
  | a :: as, _, _, _, _, h, q, .cons r1 t1, .cons r2 t2 => by
    simp only [List.length_cons] at h
    unfold zN at q
    unfold zips
    refine .cons (.tup (SqT.of (q _ List.mem_cons_self)) (.cons r1 (.cons r2 .nil))) (zN_rp (by omega) (fun p hp => q p (List.mem_cons_of_mem _ hp)) t1 t2)
end
section
variable {X : Cx} {pins : List (Addr × Obj)} {σ : L2.St} {H : Hp} {s : Shared}
/-- what is handed to zip -/
theorem zarg (I : Inv X pins σ H s) {P : AP'} {v : V} {d : PyData} {ds : List PyData} (h : RD X.K H P v d) (hs : seqD d = some ds) :
    ∃ (a : Addr) (its : List Value) (o : Obj) (Hs : Heap → Prop) (xs : List V), v = .ref a ∧ Zs X.prog X.w a its.toArray o Hs ∧ Hs s.heap ∧ a < s.heap.objs.size ∧ Vals xs its ∧ RpAll X.K H P xs ds := by
  cases d with
  | list es =>
    cases hs
    obtain ⟨a, xs, e, h1, h2⟩ := h.lst
    obtain ⟨its, rv, pl, _⟩ := I.list (SqL.of (K := X.K) h1)
    exact ⟨a, its, _, _, xs, e, zs_list a _, pl.isList, pl.lt, rv, h2⟩
  | tuple es =>
    cases hs
    obtain ⟨a, xs, e, h1, h2⟩ := h.tup
    obtain ⟨its, rv, pl, _⟩ := I.tuple h1
    exact ⟨a, its, _, _, xs, e, zs_tuple a _, pl, pl.lt, rv, h2⟩
  | _ => cases hs
theorem pairs_ok {h' : Heap} {lo : Nat} {as : List Addr} {xs ys : List V} {i1 i2 : List Value} {H' : Hp} (r1 : Vals xs i1) (r2 : Vals ys i2) (G : Given (fun i x y => i1.toArray[i]? = some x ∧ i2.toArray[i]? = some y) lo h' as) : ∀ p ∈ zN as xs ys, ObjOk X.prog X.w H' h' p.1 p.2 := by
  intro p hp
  obtain ⟨j, x, y, e1, e2, e3, e4⟩ := zN_mem hp
  obtain ⟨u, v, ⟨g1, g2⟩, g3⟩ := G.pairs j p.1 e1
  obtain ⟨u', hu, ru⟩ := r1.get e2
  obtain ⟨v', hv, rv⟩ := r2.get e3
  have e5 : u' = u := Option.some.inj (hu.symm.trans (by simpa using g1))
  have e6 : v' = v := Option.some.inj (hv.symm.trans (by simpa using g2))
  subst e5 e6
  rw [e4]
  exact ⟨by show 2 ≤ sizeLine; decide, [u', v'], .cons ru (.cons rv .nil), ⟨_, g3, rfl, _, rfl⟩⟩
theorem vals_rf : ∀ as : List Addr, Vals (as.map V.ref) (as.map Value.ref)
  | [] => .nil
  | _ :: as => .cons rfl (vals_rf as)
end
section
variable {X : Cx} {a b : Expr} {t : TA} {p p1 pos pos1 : Pos}
theorem zips_len {ds es : List PyData} {xs ys : List V} {K : PySem.W.Frag} {H : Hp} {P : AP'} (r1 : RpAll K H P xs ds) (r2 : RpAll K H P ys es) : (zips ds es).length = min xs.length ys.length := by
  rw [r1.length, r2.length]
  induction ds generalizing es xs ys with
  | nil => simp [zips]
  | cons d ds ih =>
    cases es with
    | nil => simp [zips]
    | cons e es =>
      cases r1 with
      | cons _ t1 => cases r2 with
        | cons _ t2 =>
          simp only [zips, List.length_cons, ih t1 t2]
          omega
theorem pe_zipL (hc : X.calm = true) (hg : Gl X "list") (hm : X.mg "list" = none) (hgz : Gl X "zip") (hmz : X.mg "zip" = none) (ha : PA X [a, b] t)
    (hs : starEach [a, b] X.env = (false, eval a X.env) :: starEach [b] X.env) (hpl : (backTo pos1 (starEach [b] X.env)).any (·.1) = false) :
    PE X (.Call (.Name "list" p) [.Call (.Name "zip" p1) [a, b] [] pos1] [] pos) (tCB (rBl X.K bZipL) t) := by
  refine ⟨fun pins s σ H Q I hq => ?_⟩
  refine wpAny_Call_Name_kw (ld_blt I hg hm (by decide +kernel : bootBuiltins "list" = some (.type "list")) ?_)
  refine PyProof.Rows.callWith_type1 ?_ rfl rfl
  refine (show wpAny _ _ (spliced ((false, eval (.Call (.Name "zip" p1) [a, b] [] pos1) X.env) :: backTo pos (starEach [] X.env))) _ _ s from Calls.spliced_cons ?_)
  refine Call_ (ld_blt I hgz hmz PyProof.Rows.boot_zip (PyProof.Rows.callWith_type1 (thn (ha.run pos1 pins s σ H _ I hq) fun us s1 ⟨vs, H1, I1, rv, q1⟩ => ?_) hs hpl))
  obtain ⟨P, ds, r, hp, hd, hf, q⟩ := q1
  unfold bZipL at hf
  split at hf
  · rename_i d e
    cases hd with
    | cons rd1 tl =>
    cases tl with
    | cons rd2 tl =>
    cases tl
    cases hd1 : seqD d with
    | none => rw [hd1] at hf; cases hf
    | some es1 =>
    cases hd2 : seqD e with
    | none => rw [hd1, hd2] at hf; cases hf
    | some es2 =>
    rw [hd1, hd2] at hf
    obtain ⟨c, rfl⟩ := of_if hf
    have c := Nat.le_of_ble_eq_true c
    obtain ⟨x1, i1, o1, Hs1, xs1, rfl, Z1, k1, l1, v1, rp1⟩ := zarg I1 rd1 hd1
    obtain ⟨x2, i2, o2, Hs2, xs2, rfl, Z2, k2, l2, v2, rp2⟩ := zarg I1 rd2 hd2
    cases rv with
    | cons r1 rv =>
    cases rv with
    | cons r2 rv =>
    cases rv
    cases r1
    cases r2
    have hln : min i1.toArray.size i2.toArray.size = (zips es1 es2).length := by
      rw [zips_len rp1 rp2, v1.length, v2.length, List.size_toArray, List.size_toArray]
    have hh : X.A.handled = none := I1.ok.hd hc
    refine zip_ready hh Z1 Z2 k1 k2 l1 l2 fun h' z wr hk hwr hsz hR => Calls.spliced_nil ?_
    refine gv_list (hR _ hh) (by rw [hln]; exact c) fun h'' tk acc cc as hk2 hS hl hG hacc => ?_
    have hkk : ∀ b o, s1.heap.get? b = some o → h''.get? b = some o := fun b o e => hk2 b o (fun z => Nat.lt_irrefl _ (Nat.lt_of_lt_of_le (Heap.lt_size e) (hwr b z))) (hk b o e)
    have hll : as.length = min xs1.length xs2.length := by rw [hl, v1.length, v2.length, List.size_toArray, List.size_toArray]
    have hlo : ∀ a ∈ as, h'.objs.size < a := fun a ha => hG.above a ha
    have nd : ((h'.objs.size, HO.lst (as.map V.ref)) :: zN as xs1 xs2).map (·.1) = h'.objs.size :: as := by rw [List.map_cons, zN_fst hll]
    have ndd : (h'.objs.size :: as).Nodup := List.nodup_cons.mpr ⟨fun z => Nat.lt_irrefl _ (hlo _ z), List.Pairwise.imp (fun {a b} (h : a < b) => Nat.ne_of_lt h) hG.rise⟩
    obtain ⟨J, sm, _⟩ := lay_many (N := (h'.objs.size, HO.lst (as.map V.ref)) :: zN as xs1 xs2) tk I1 hkk (fun p hp => by
      have : p.1 ∈ h'.objs.size :: as := nd ▸ List.mem_map_of_mem hp
      rcases List.mem_cons.mp this with e | e
      · rw [e]; exact hsz
      · exact Nat.le_trans hsz (Nat.le_of_lt (hlo _ e))) (by rw [nd]; exact ndd) (fun p hp => by
      rcases List.mem_cons.mp hp with e | hp
      · subst e
        refine ⟨by rw [List.length_map, hl, hln]; exact c, acc.toList, cc, by rw [hacc]; exact vals_rf as, ?_⟩
        rw [Array.toArray_toList]
        exact hS
      · exact pairs_ok v1 v2 hG p hp)
    have at_ := putN_at ((h'.objs.size, HO.lst (as.map V.ref)) :: zN as xs1 xs2) H1 (by rw [nd]; exact ndd)
    refine ⟨.ref h'.objs.size, _, J, rfl, q _ _ sm (.lst (at_ _ List.mem_cons_self) (fun z => hp _ z (I1.hok.fresh hsz)) (zN_rp hll (fun p hp => at_ p (List.mem_cons_of_mem _ hp)) (rp1.ext (.same sm)) (rp2.ext (.same sm))))⟩
  · cases hf
def rZt (K : PySem.W.Frag) : List V → Hp → VK → Prop := fun vs H Q => ∃ P ds zs, (∀ a, P a → H a ≠ none) ∧ Paired (RD K H P) vs ds ∧ bZipT ds = some (.tuple zs) ∧ ∀ a H' o xs, Same H H' → H' a = some (.frz o (.tup xs)) → o.cls = .type "tuple" → o.dict = none → RpAll K H' P xs zs → Q (.ref a) H'
theorem pe_zipT (hc : X.calm = true) (hg : Gl X "tuple") (hm : X.mg "tuple" = none) (hgz : Gl X "zip") (hmz : X.mg "zip" = none) (ha : PA X [a, b] t)
    (hs : starEach [a, b] X.env = (false, eval a X.env) :: starEach [b] X.env) (hpl : (backTo pos1 (starEach [b] X.env)).any (·.1) = false) :
    PE X (.Call (.Name "tuple" p) [.Call (.Name "zip" p1) [a, b] [] pos1] [] pos) (tCB (rZt X.K) t) := by
  refine ⟨fun pins s σ H Q I hq => ?_⟩
  refine wpAny_Call_Name_kw (ld_blt I hg hm (by decide +kernel : bootBuiltins "tuple" = some (.type "tuple")) ?_)
  refine PyProof.Rows.callWith_type1 ?_ rfl rfl
  refine (show wpAny _ _ (spliced ((false, eval (.Call (.Name "zip" p1) [a, b] [] pos1) X.env) :: backTo pos (starEach [] X.env))) _ _ s from Calls.spliced_cons ?_)
  refine Call_ (ld_blt I hgz hmz PyProof.Rows.boot_zip (PyProof.Rows.callWith_type1 (thn (ha.run pos1 pins s σ H _ I hq) fun us s1 ⟨vs, H1, I1, rv, q1⟩ => ?_) hs hpl))
  obtain ⟨P, ds, zs, hp, hd, hf, q⟩ := q1
  unfold bZipT at hf
  split at hf
  · rename_i d e
    cases hd with
    | cons rd1 tl =>
    cases tl with
    | cons rd2 tl =>
    cases tl
    cases hd1 : seqD d with
    | none => rw [hd1] at hf; cases hf
    | some es1 =>
    cases hd2 : seqD e with
    | none => rw [hd1, hd2] at hf; cases hf
    | some es2 =>
    rw [hd1, hd2] at hf
    obtain ⟨c, hzz⟩ := of_if hf
    cases hzz
    have c := Nat.le_of_ble_eq_true c
    obtain ⟨x1, i1, o1, Hs1, xs1, rfl, Z1, k1, l1, v1, rp1⟩ := zarg I1 rd1 hd1
    obtain ⟨x2, i2, o2, Hs2, xs2, rfl, Z2, k2, l2, v2, rp2⟩ := zarg I1 rd2 hd2
    cases rv with
    | cons r1 rv =>
    cases rv with
    | cons r2 rv =>
    cases rv
    cases r1
    cases r2
    have hln : min i1.toArray.size i2.toArray.size = (zips es1 es2).length := by
      rw [zips_len rp1 rp2, v1.length, v2.length, List.size_toArray, List.size_toArray]
    have hh : X.A.handled = none := I1.ok.hd hc
    refine zip_ready hh Z1 Z2 k1 k2 l1 l2 fun h' z wr hk hwr hsz hR => Calls.spliced_nil ?_
    refine gv_tuple (hR _ hh) (by rw [hln]; exact c) fun h'' tk as hk2 hl hG hle => ?_
    have hkk : ∀ b o, s1.heap.get? b = some o → (h''.push { cls := .type "tuple", data := .seq (as.map Value.ref).toArray }).get? b = some o := fun b o e => Heap.get?_push_of_some _ (hk2 b o (fun z => Nat.lt_irrefl _ (Nat.lt_of_lt_of_le (Heap.lt_size e) (hwr b z))) (hk b o e))
    have hll : as.length = min xs1.length xs2.length := by rw [hl, v1.length, v2.length, List.size_toArray, List.size_toArray]
    have hlo : ∀ a ∈ as, h'.objs.size < a := fun a ha => hG.above a ha
    have hhi : ∀ a ∈ as, a < h''.objs.size := fun a ha => hG.lt ha
    have nd : ((h''.objs.size, HO.frz { cls := .type "tuple", data := .seq (as.map Value.ref).toArray } (.tup (as.map V.ref))) :: zN as xs1 xs2).map (·.1) = h''.objs.size :: as := by rw [List.map_cons, zN_fst hll]
    have ndd : (h''.objs.size :: as).Nodup := List.nodup_cons.mpr ⟨fun z => Nat.lt_irrefl _ (hhi _ z), List.Pairwise.imp (fun {a b} (h : a < b) => Nat.ne_of_lt h) hG.rise⟩
    have hsz2 : s1.heap.objs.size ≤ h''.objs.size := Nat.le_trans hsz (Nat.le_of_lt hle)
    have hS : (h''.push { cls := .type "tuple", data := .seq (as.map Value.ref).toArray }).get? h''.objs.size = some { cls := .type "tuple", data := .seq (as.map Value.ref).toArray } := Heap.get?_push_size _ rfl
    have hG2 : Given (fun i x y => i1.toArray[i]? = some x ∧ i2.toArray[i]? = some y) (h'.objs.size + 1) (h''.push { cls := .type "tuple", data := .seq (as.map Value.ref).toArray }) as := ⟨hG.rise, hG.above, fun j a hj => let ⟨x, y, e1, e2⟩ := hG.pairs j a hj; ⟨x, y, e1, Heap.get?_push_of_some _ e2⟩⟩
    obtain ⟨J, sm, _⟩ := lay_many (N := (h''.objs.size, HO.frz { cls := .type "tuple", data := .seq (as.map Value.ref).toArray } (.tup (as.map V.ref))) :: zN as xs1 xs2) tk I1 hkk (fun p hp => by
      have : p.1 ∈ h''.objs.size :: as := nd ▸ List.mem_map_of_mem hp
      rcases List.mem_cons.mp this with e | e
      · rw [e]; exact hsz2
      · exact Nat.le_trans hsz (Nat.le_of_lt (hlo _ e))) (by rw [nd]; exact ndd) (fun p hp => by
      rcases List.mem_cons.mp hp with e | hp
      · subst e
        exact ⟨hS, by rw [List.length_map, hl, hln]; exact c, as.map Value.ref, vals_rf as, ⟨_, hS, rfl, _, rfl⟩⟩
      · exact pairs_ok v1 v2 hG2 p hp)
    have at_ := putN_at ((h''.objs.size, HO.frz { cls := .type "tuple", data := .seq (as.map Value.ref).toArray } (.tup (as.map V.ref))) :: zN as xs1 xs2) H1 (by rw [nd]; exact ndd)
    refine ⟨.ref h''.objs.size, _, J, rfl, q _ _ _ _ sm (at_ _ List.mem_cons_self) rfl rfl (zN_rp hll (fun p hp => at_ p (List.mem_cons_of_mem _ hp)) (rp1.ext (.same sm)) (rp2.ext (.same sm)))⟩
  · cases hf
end
end Ev
namespace Ev
open PySem PySem.Spec PyProof.Rows L2
section
variable {X : Cx} {a b : Expr} {m : MA} {p p1 pos pos1 : Pos}
theorem xp_zipL (hc : X.calm = true) (hg : Gl X "list") (hm : X.mg "list" = none) (hgz : Gl X "zip") (hmz : X.mg "zip" = none) (ha : PA X [a, b] (rdA X.K m)) (hs : noStar a = true) (hs2 : noStar b = true) :
    PE X (.Call (.Name "list" p) [.Call (.Name "zip" p1) [a, b] [] pos1] [] pos) (rdE X.K (eBlt bZipL m)) :=
  PE.mono (pe_zipL hc hg hm hgz hmz ha (star_cons hs) (star_none (by rw [List.all_cons, hs2]; rfl))) fun σ H Q h => blt_read (t := rdA X.K m) h
theorem xp_zipT (hc : X.calm = true) (hg : Gl X "tuple") (hm : X.mg "tuple" = none) (hgz : Gl X "zip") (hmz : X.mg "zip" = none) (ha : PA X [a, b] (rdA X.K m)) (hs : noStar a = true) (hs2 : noStar b = true) :
    PE X (.Call (.Name "tuple" p) [.Call (.Name "zip" p1) [a, b] [] pos1] [] pos) (rdE X.K (eZipT bZipT m)) :=
  PE.mono (pe_zipT hc hg hm hgz hmz ha (star_cons hs) (star_none (by rw [List.all_cons, hs2]; rfl))) fun σ H Q ⟨ι, P, env, st, A, w, st', e, q⟩ => by
    obtain ⟨xs, s1, h1, e⟩ := bind_ok (noX_ok e)
    refine rdA.bind (Q := fun vs H1 => rZt X.K vs H1 Q) A h1 fun u H1 x1 A1 r1 => ?_
    split at e
    · rename_i ds hd
      split at e
      · rename_i zs hz
        cases e
        exact ⟨P, ds, zs, A1.s.pthere, derefs_rd A1.s r1 hd, hz, fun a H2 o xs sm g1 g2 g3 g4 => q _ H2 (x1.trans (.same sm)) (A1.s.same sm) (.ftp g1 g2 g3 g4)⟩
      · cases e
    · cases e
end
end Ev
/-! EvEnz: enumerate of a zip of two tuples. -/
namespace Ev
open PySem PySem.Spec PyProof.Rows L2
abbrev Zf (h : Heap) (z TI TO : Addr) (v0 : Value) (f : Bool) : Prop :=
  h.get? z = some { cls := .type "zip", dict := none, data := .fields #[v0, .bool f, .bool false, .ref TI, .ref TO], slots := #[] }
section
variable {prog : Program} {w : World} {A : Around} {E : Value → Shared → Prop} {s : Shared} {z TI TO i1 i2 a b : Addr} {f : Bool} {v0 : Value} {i : Nat} {xs ys : Array Value} {u1 u2 : Value}
/-- the cells lie apart -/
structure Zap (z TI TO i1 i2 a b : Addr) : Prop where
  TIz : TI ≠ z
  TOz : TO ≠ z
  TIO : TI ≠ TO
  TI1 : TI ≠ i1
  TI2 : TI ≠ i2
  TO1 : TO ≠ i1
  TO2 : TO ≠ i2
  z1 : z ≠ i1
  z2 : z ≠ i2
  i12 : i1 ≠ i2
  az : a ≠ z
  aO : a ≠ TO
  a1 : a ≠ i1
  a2 : a ≠ i2
  bz : b ≠ z
  bO : b ≠ TO
  b1 : b ≠ i1
  b2 : b ≠ i2
/-- a zip's turn where it may use its own tuple -/
theorem zg_item {Q : Value → Shared → Prop} (D : Zap z TI TO i1 i2 a b) (hfree : ∀ Q' : Bool → Shared → Prop, Q' true s → wpAny (model prog w) A (Builtin.SmallTypes.ownedTupleIsFree (.ref z)) Q' E s)
    (hz : Zf s.heap z TI TO v0 f) (hTI : IsTupOf2 s.heap TI (.ref i1) (.ref i2)) (hTO : IsTupOf2 s.heap TO u1 u2) (t1 : s.heap.IsTupleIter i1 a i) (t2 : s.heap.IsTupleIter i2 b i) (ha : s.heap.IsTuple a xs) (hb : s.heap.IsTuple b ys)
    {x y : Value} (hx : xs[i]? = some x) (hy : ys[i]? = some y)
    (hQ : ∀ h' tk, IsZip h' z TI TO (rawInt s.heap.objs.size) → IsTupOf2 h' TO x y → h'.IsTupleIter i1 a (i + 1) → h'.IsTupleIter i2 b (i + 1) → IsTupOf2 h' s.heap.objs.size x y → h'.objs.size = s.heap.objs.size + 1 →
      (∀ c o, c ≠ z ∧ c ≠ TO ∧ c ≠ i1 ∧ c ≠ i2 → s.heap.get? c = some o → h'.get? c = some o) → Q (.ref s.heap.objs.size) { s with heap := h', toks := tk }) :
    wpAny (model prog w) A (Builtin.«zip.__next__» ⟨[.ref z], []⟩) (fun fin s' => ∃ v, fin = .done (.ret v) ∧ Q v s') E s := by
  obtain ⟨hp, gn, dr, tk, os⟩ := s
  refine (show wpAny (model prog w) A (field (.ref z) 2 >>= _) _ _ _ from wpAny_bind (wpAny_field hz rfl (x := .bool false) rfl ?_))
  refine (show wpAny (model prog w) A (field (.ref z) 3 >>= _) _ _ _ from wpAny_bind (wpAny_field hz rfl (x := .ref TI) rfl (wpAny_bind (wpAny_seqItems hTI rfl ?_))))
  refine (show wpAny (model prog w) A (Builtin.SmallTypes.ownedTupleIsFree (.ref z) >>= _) _ _ _ from wpAny_bind (hfree _ ?_))
  simp only [if_true]
  refine wpAny_bind (wpAny_rule (wpAny_bind (wpAny_field hz rfl (x := .ref TO) rfl (wpAny_bind (wpAny_setField_rec hz (by simp) fun h0 k0 b0 => ?_)))))
  have k0 : Zf h0 z TI TO .ellipsis f := k0
  have b0 : Heap.SameBut z hp h0 := b0
  refine wpAny_bind ?_
  simp only [List.zipIdx_cons, List.zipIdx_nil, List.forIn_cons, List.forIn_nil]
  refine wpAny_bind (wpAny_bind (wpAny_onRaise (show wpAny (model prog w) A (Builtin.SmallTypes.nextOf (.ref i1) >>= _) _ _ (⟨h0, gn, dr, tk, os⟩ : Shared) from wpAny_bind (wpAny_nextOf_tuple_item (t1.extBut b0.extBut D.z1.symm) (ha.extBut b0.extBut D.az) hx fun h1 k1 b1 => wpAny_pure ?_))))
  have b1 : Heap.SameBut i1 h0 h1 := b1
  have o1 : IsTupOf2 h1 TO u1 u2 := b1.extBut _ _ D.TO1 (b0.extBut _ _ D.TOz hTO)
  refine wpAny_bind (wpAny_seqItems (s := ⟨h1, gn, dr, tk, os⟩) o1 rfl (wpAny_bind (updateSeq_IsTupOf2 (s := ⟨h1, gn, dr, tk, os⟩) o1 fun h2 o2 b2 => wpAny_bind (wpAny_letGo (wpAny_pure ?_)))))
  have o2 : IsTupOf2 h2 TO x u2 := o2
  have b2 : Heap.SameBut TO h1 h2 := b2
  refine wpAny_bind (wpAny_bind (wpAny_onRaise (show wpAny (model prog w) A (Builtin.SmallTypes.nextOf (.ref i2) >>= _) _ _ (⟨h2, gn, dr, tk, os⟩ : Shared) from wpAny_bind (wpAny_nextOf_tuple_item (((t2.extBut b0.extBut D.z2.symm).extBut b1.extBut D.i12.symm).extBut b2.extBut D.TO2.symm) (((hb.extBut b0.extBut D.bz).extBut b1.extBut D.b1).extBut b2.extBut D.bO) hy fun h3 k3 b3 => wpAny_pure ?_))))
  have b3 : Heap.SameBut i2 h2 h3 := b3
  have o3 : IsTupOf2 h3 TO x u2 := b3.extBut _ _ D.TO2 o2
  refine wpAny_bind (wpAny_seqItems (s := ⟨h3, gn, dr, tk, os⟩) o3 rfl (wpAny_bind (updateSeq_IsTupOf2 (s := ⟨h3, gn, dr, tk, os⟩) o3 fun h4 o4 b4 => wpAny_bind (wpAny_letGo (wpAny_pure (wpAny_pure ?_))))))
  have o4 : IsTupOf2 h4 TO x y := o4
  have b4 : Heap.SameBut TO h3 h4 := b4
  refine wpAny_bind (wpAny_seqItems (s := ⟨h4, gn, dr, tk, os⟩) o4 rfl (wpAny_bind (wpAny_newTuple ?_)))
  have sz : h4.objs.size = hp.objs.size := by rw [b4.1, b3.1, b2.1, b1.1, b0.1]
  have kz : Zf h4 z TI TO .ellipsis f := b4.extBut _ _ D.TOz.symm (b3.extBut _ _ D.z2 (b2.extBut _ _ D.TOz.symm (b1.extBut _ _ D.z1 k0)))
  have old : ∀ c o, c ≠ z ∧ c ≠ TO ∧ c ≠ i1 ∧ c ≠ i2 → hp.get? c = some o → h4.get? c = some o := fun c o hc q => b4.extBut _ _ hc.2.1 (b3.extBut _ _ hc.2.2.2 (b2.extBut _ _ hc.2.1 (b1.extBut _ _ hc.2.2.1 (b0.extBut _ _ hc.1 q))))
  have j1 : h4.IsTupleIter i1 a (i + 1) := ((k1.extBut b2.extBut D.TO1.symm).extBut b3.extBut D.i12).extBut b4.extBut D.TO1.symm
  have j2 : h4.IsTupleIter i2 b (i + 1) := k3.extBut b4.extBut D.TO2.symm
  have lz : z < h4.objs.size := Heap.lt_size kz
  refine (show wpAny (model prog w) A (Builtin.SmallTypes.ownedTupleHandOut (.ref z) (.ref h4.objs.size) >>= _) _ _ (⟨h4.push { cls := .type "tuple", data := .seq #[x, y] }, gn, dr, tk, os⟩ : Shared) from wpAny_bind ?_)
  unfold Builtin.SmallTypes.ownedTupleHandOut
  have kp : Zf (h4.push { cls := .type "tuple", data := .seq #[x, y] }) z TI TO .ellipsis f := Heap.get?_push_of_some _ kz
  refine wpAny_bind (wpAny_setField_rec kp (by simp) fun h5 k5 b5 => ?_)
  have k5 : Zf h5 z TI TO (rawInt h4.objs.size) f := k5
  refine wpAny_setField_rec k5 (by simp) fun h6 k6 b6 => wpAny_pure ⟨_, rfl, ?_⟩
  have k6 : IsZip h6 z TI TO (rawInt h4.objs.size) := k6
  have b5 : Heap.SameBut z (h4.push { cls := .type "tuple", data := .seq #[x, y] }) h5 := b5
  have b6 : Heap.SameBut z h5 h6 := b6
  have up : ∀ c o, c ≠ z → h4.get? c = some o → h6.get? c = some o := fun c o hc q => b6.extBut _ _ hc (b5.extBut _ _ hc (Heap.get?_push_of_some _ q))
  have nt : IsTupOf2 h6 h4.objs.size x y := b6.extBut _ _ (Nat.ne_of_gt lz) (b5.extBut _ _ (Nat.ne_of_gt lz) (Heap.get?_push_size _ rfl))
  have s6 : h6.objs.size = h4.objs.size + 1 := by rw [b6.1, b5.1, Heap.size_push]
  rw [sz] at k6 nt s6
  show Q (.ref h4.objs.size) ⟨h6, gn, dr, tk, os⟩
  rw [sz]
  exact hQ h6 tk k6 (up _ _ D.TOz o4) (j1.at fun o q => up _ _ D.z1.symm q) (j2.at fun o q => up _ _ D.z2.symm q) nt s6 fun c o hc q => up c o hc.1 (old c o hc q)
/-- a zip's end where it may use its own tuple -/
theorem zg_end {Q : Fin → Shared → Prop} (hh : A.handled = none) (D : Zap z TI TO i1 i2 a b) (hfree : ∀ Q' : Bool → Shared → Prop, Q' true s → wpAny (model prog w) A (Builtin.SmallTypes.ownedTupleIsFree (.ref z)) Q' E s)
    (hz : Zf s.heap z TI TO v0 f) (hTI : IsTupOf2 s.heap TI (.ref i1) (.ref i2)) (hTO : IsTupOf2 s.heap TO u1 u2) (t1 : s.heap.IsTupleIter i1 a i) (t2 : s.heap.IsTupleIter i2 b i) (ha : s.heap.IsTuple a xs) (hb : s.heap.IsTuple b ys)
    (hend : xs[i]? = none ∨ ys[i]? = none)
    (hE : ∀ h' tk e, (∀ c o, c ≠ z ∧ c ≠ TO ∧ c ≠ i1 ∧ c ≠ i2 → s.heap.get? c = some o → h'.get? c = some o) → (∃ o, h'.get? e = some o ∧ o.cls = .type "StopIteration") → E (.ref e) { s with heap := h', toks := tk }) :
    wpAny (model prog w) A (Builtin.«zip.__next__» ⟨[.ref z], []⟩) Q E s := by
  obtain ⟨hp, gn, dr, tk, os⟩ := s
  refine (show wpAny (model prog w) A (field (.ref z) 2 >>= _) _ _ _ from wpAny_bind (wpAny_field hz rfl (x := .bool false) rfl ?_))
  refine (show wpAny (model prog w) A (field (.ref z) 3 >>= _) _ _ _ from wpAny_bind (wpAny_field hz rfl (x := .ref TI) rfl (wpAny_bind (wpAny_seqItems hTI rfl ?_))))
  refine (show wpAny (model prog w) A (Builtin.SmallTypes.ownedTupleIsFree (.ref z) >>= _) _ _ _ from wpAny_bind (hfree _ ?_))
  simp only [if_true]
  refine wpAny_bind (wpAny_rule (wpAny_bind (wpAny_field hz rfl (x := .ref TO) rfl (wpAny_bind (wpAny_setField_rec hz (by simp) fun h0 k0 b0 => ?_)))))
  have k0 : Zf h0 z TI TO .ellipsis f := k0
  have b0 : Heap.SameBut z hp h0 := b0
  refine wpAny_bind ?_
  simp only [List.zipIdx_cons, List.zipIdx_nil, List.forIn_cons, List.forIn_nil]
  refine wpAny_bind (wpAny_bind (wpAny_onRaise (show wpAny (model prog w) A (Builtin.SmallTypes.nextOf (.ref i1) >>= _) _ _ (⟨h0, gn, dr, tk, os⟩ : Shared) from ?_)))
  cases hx : xs[i]? with
  | some x =>
    have hy : ys[i]? = none := hend.resolve_left fun q => by rw [hx] at q; cases q
    refine wpAny_bind (wpAny_nextOf_tuple_item (t1.extBut b0.extBut D.z1.symm) (ha.extBut b0.extBut D.az) hx fun h1 k1 b1 => wpAny_pure ?_)
    have b1 : Heap.SameBut i1 h0 h1 := b1
    have o1 : IsTupOf2 h1 TO u1 u2 := b1.extBut _ _ D.TO1 (b0.extBut _ _ D.TOz hTO)
    refine wpAny_bind (wpAny_seqItems (s := ⟨h1, gn, dr, tk, os⟩) o1 rfl (wpAny_bind (updateSeq_IsTupOf2 (s := ⟨h1, gn, dr, tk, os⟩) o1 fun h2 o2 b2 => wpAny_bind (wpAny_letGo (wpAny_pure ?_)))))
    have b2 : Heap.SameBut TO h1 h2 := b2
    refine wpAny_bind (wpAny_bind (wpAny_onRaise (show wpAny (model prog w) A (Builtin.SmallTypes.nextOf (.ref i2) >>= _) _ _ (⟨h2, gn, dr, tk, os⟩ : Shared) from wpAny_bind (wpAny_nextOf_tuple_end hh (((t2.extBut b0.extBut D.z2.symm).extBut b1.extBut D.i12.symm).extBut b2.extBut D.TO2.symm) (((hb.extBut b0.extBut D.bz).extBut b1.extBut D.b1).extBut b2.extBut D.bO) hy fun h3 e b3 ⟨oe, g1, g2⟩ => ?_))))
    have b3 : Heap.ExtBut i2 h2 h3 := b3
    have g1 : h3.get? e = some oe := g1
    have k3 : Zf h3 z TI TO .ellipsis f := b3 _ _ D.z2 (b2.extBut _ _ D.TOz.symm (b1.extBut _ _ D.z1 k0))
    have ne : e ≠ z := fun q => by subst q; rw [k3] at g1; cases g1; simp at g2
    refine wpAny_setField_rec (s := ⟨h3, gn, dr, tk, os⟩) k3 (by simp) fun h4 _ b4 => ?_
    have b4 : Heap.SameBut z h3 h4 := b4
    exact hE h4 tk e (fun c o hc q => b4.extBut _ _ hc.1 (b3 _ _ hc.2.2.2 (b2.extBut _ _ hc.2.1 (b1.extBut _ _ hc.2.2.1 (b0.extBut _ _ hc.1 q))))) ⟨oe, b4.extBut _ _ ne g1, g2⟩
  | none =>
    refine wpAny_bind (wpAny_nextOf_tuple_end hh (t1.extBut b0.extBut D.z1.symm) (ha.extBut b0.extBut D.az) hx fun h3 e b3 ⟨oe, g1, g2⟩ => ?_)
    have b3 : Heap.ExtBut i1 h0 h3 := b3
    have g1 : h3.get? e = some oe := g1
    have k3 : Zf h3 z TI TO .ellipsis f := b3 _ _ D.z1 k0
    have ne : e ≠ z := fun q => by subst q; rw [k3] at g1; cases g1; simp at g2
    refine wpAny_setField_rec (s := ⟨h3, gn, dr, tk, os⟩) k3 (by simp) fun h4 _ b4 => ?_
    have b4 : Heap.SameBut z h3 h4 := b4
    exact hE h4 tk e (fun c o hc q => b4.extBut _ _ hc.1 (b3 _ _ hc.2.2.1 (b0.extBut _ _ hc.1 q))) ⟨oe, b4.extBut _ _ ne g1, g2⟩
/-- where a zip of two tuples stands at turn i -/
structure ZS (z TI TO i1 i2 a b : Addr) (i : Nat) (h : Heap) : Prop where
  hz : ∃ v0 f, Zf h z TI TO v0 f ∧ (v0 = .none ∨ ∃ T : Addr, v0 = rawInt T)
  hO : ∃ u v, IsTupOf2 h TO u v
  hI : IsTupOf2 h TI (.ref i1) (.ref i2)
  t1 : h.IsTupleIter i1 a i
  t2 : h.IsTupleIter i2 b i
theorem ZS.at (D : Zap z TI TO i1 i2 a b) {h h' : Heap} (q : ZS z TI TO i1 i2 a b i h) (k : ∀ c ∈ [z, TI, TO, i1, i2], ∀ o, h.get? c = some o → h'.get? c = some o) : ZS z TI TO i1 i2 a b i h' := by
  obtain ⟨⟨v0, f, q1, q2⟩, ⟨u, v, q3⟩, q4, q5, q6⟩ := q
  exact ⟨⟨v0, f, k z (by simp) _ q1, q2⟩, ⟨u, v, k TO (by simp) _ q3⟩, k TI (by simp) _ q4, q5.at fun o q => k i1 (by simp) o q, q6.at fun o q => k i2 (by simp) o q⟩
theorem free_none (hz : Zf s.heap z TI TO .none f) : ∀ Q' : Bool → Shared → Prop, Q' true s → wpAny (model prog w) A (Builtin.SmallTypes.ownedTupleIsFree (.ref z)) Q' E s := fun Q' q => by
  unfold Builtin.SmallTypes.ownedTupleIsFree
  exact wpAny_bind (wpAny_field hz rfl (x := .none) rfl (wpAny_pure q))
theorem dead_wp {T : Addr} {Q : Option Obj → Shared → Prop} (ho : s.heap.get? T = none) (h : Q none s) : wpAny (model prog w) A (loadIfAlive T) Q E s := by
  have q : Q (s.heap.get? T) s := ho ▸ h
  exact fun _ _ _ => q
theorem free_dead {T : Addr} (hz : Zf s.heap z TI TO (rawInt T) f) (hT : s.heap.get? T = none) : ∀ Q' : Bool → Shared → Prop, Q' true s → wpAny (model prog w) A (Builtin.SmallTypes.ownedTupleIsFree (.ref z)) Q' E s := fun Q' q => by
  unfold Builtin.SmallTypes.ownedTupleIsFree
  refine wpAny_bind (wpAny_field hz rfl (x := rawInt T) rfl ?_)
  refine (show wpAny (model prog w) A (loadIfAlive ((T : Int).toNat) >>= _) _ _ _ from ?_)
  rw [Int.toNat_natCast]
  exact wpAny_bind (dead_wp hT (wpAny_pure q))
theorem Zap.sep (D : Zap z TI TO i1 i2 a b) : ZipSep2 z TI TO i1 i2 [i1, a] [i2, b] where
  TIz := D.TIz
  TOz := D.TOz
  TITO := D.TIO
  TIi1 := D.TI1
  mem1 := by simp
  zf1 := by simp [D.z1, D.az.symm]
  Tf1 := by simp [D.TO1, D.aO.symm]
  TIi2 := D.TI2
  mem2 := by simp
  zf2 := by simp [D.z2, D.bz.symm]
  Tf2 := by simp [D.TO2, D.bO.symm]
  sep1_2 := by simp [D.i12, D.b1.symm]
  sep2_1 := by simp [D.i12.symm, D.a2.symm]
theorem zn_item {Q : Value → Shared → Prop} (hh : A.handled = none) (D : Zap z TI TO i1 i2 a b) (st : ZS z TI TO i1 i2 a b i s.heap) (ha : s.heap.IsTuple a xs) (hb : s.heap.IsTuple b ys)
    {x y : Value} (hx : xs[i]? = some x) (hy : ys[i]? = some y)
    (hQ : ∀ h' tk, ZS z TI TO i1 i2 a b (i + 1) h' → IsTupOf2 h' s.heap.objs.size x y → h'.objs.size = s.heap.objs.size + 1 →
      (∀ c o, c ≠ z ∧ c ≠ TO ∧ c ≠ i1 ∧ c ≠ i2 → s.heap.get? c = some o → h'.get? c = some o) → Q (.ref s.heap.objs.size) { s with heap := h', toks := tk }) :
    wpAny (model prog w) A (Builtin.SmallTypes.nextOf (.ref z)) Q E s := by
  obtain ⟨⟨v0, f, hz, hv⟩, ⟨u1, u2, hO⟩, hI, t1, t2⟩ := st
  have hTy : s.TypeIs (.ref z) "zip" := ⟨_, hz, rfl⟩
  unfold Builtin.SmallTypes.nextOf
  refine wpAny_bind (wpAny_callSpecial?_slot (name := Str.ofString "__next__") hTy F.slot_zip_next (wpAny_call_entry F.slot_zip_next hTy F.entry_zip_next ?_ (F.args_zip_next_1 _)))
  have fin : ∀ (hf : ∀ Q' : Bool → Shared → Prop, Q' true s → wpAny (model prog w) A.in1 (Builtin.SmallTypes.ownedTupleIsFree (.ref z)) Q' E s),
      wpAny (model prog w) A.in1 (Builtin.«zip.__next__» ⟨[.ref z], []⟩) (fun fin s' => ∃ v, fin = .done (.ret v) ∧ wpAny (model prog w) A (pure v) Q E s') E s := fun hf =>
    zg_item D hf hz hI hO t1 t2 ha hb hx hy fun h' tk g1 g2 g3 g4 g5 g6 g7 => wpAny_pure (hQ h' tk ⟨⟨_, _, g1, .inr ⟨_, rfl⟩⟩, ⟨_, _, g2⟩, g7 _ _ ⟨D.TIz, D.TIO, D.TI1, D.TI2⟩ hI, g3, g4⟩ g5 g6 g7)
  rcases hv with rfl | ⟨T, rfl⟩
  · exact fin (free_none hz)
  · cases hT : s.heap.get? T with
    | none => exact fin (free_dead hz hT)
    | some oT =>
      have D1 := Draws.tuple (prog := prog) (w := w) (A := A.in1) hh i1 a D.a1 xs
      have D2 := Draws.tuple (prog := prog) (w := w) (A := A.in1) hh i2 b D.b2 ys
      have l1 := (Array.getElem?_eq_some_iff.mp hx).1
      have l2 := (Array.getElem?_eq_some_iff.mp hy).1
      refine zh_item D.sep D1 D2 hz hT hI ⟨t1, ha⟩ ⟨t2, hb⟩ l1 l2 fun x1 x2 h' tk y1 y2 g1 g3 g4 g5 g6 g7 => ?_
      have y1 : xs[i]? = some x1 := y1
      have y2 : ys[i]? = some x2 := y2
      rw [hx] at y1; cases y1
      rw [hy] at y2; cases y2
      exact wpAny_pure (hQ h' tk ⟨⟨_, _, g1, .inr ⟨_, rfl⟩⟩, ⟨_, _, g7 _ _ ⟨D.TOz, D.TO1, D.TO2⟩ hO⟩, g7 _ _ ⟨D.TIz, D.TI1, D.TI2⟩ hI, g3.1, g4.1⟩ g5 g6 fun c o hc q => g7 c o ⟨hc.1, hc.2.2.1, hc.2.2.2⟩ q)
theorem zt_end {T : Addr} {oT : Obj} {Q : Fin → Shared → Prop} (hh : A.handled = none) (D : Zap z TI TO i1 i2 a b) (hz : Zf s.heap z TI TO (rawInt T) f) (hT : s.heap.get? T = some oT) (hI : IsTupOf2 s.heap TI (.ref i1) (.ref i2))
    (t1 : s.heap.IsTupleIter i1 a i) (t2 : s.heap.IsTupleIter i2 b i) (ha : s.heap.IsTuple a xs) (hb : s.heap.IsTuple b ys) (he : xs[i]? = none ∨ ys[i]? = none)
    (hE : ∀ h' tk e, (∀ c o, c ≠ z ∧ c ≠ TO ∧ c ≠ i1 ∧ c ≠ i2 → s.heap.get? c = some o → h'.get? c = some o) → (∃ o, h'.get? e = some o ∧ o.cls = .type "StopIteration") → E (.ref e) { s with heap := h', toks := tk }) :
    wpAny (model prog w) A (Builtin.«zip.__next__» ⟨[.ref z], []⟩) Q E s := by
  obtain ⟨hp, gn, dr, tk0, os⟩ := s
  refine (show wpAny (model prog w) A (field (.ref z) 2 >>= _) _ _ _ from wpAny_bind (wpAny_field hz rfl (x := .bool false) rfl ?_))
  refine (show wpAny (model prog w) A (field (.ref z) 3 >>= _) _ _ _ from wpAny_bind (wpAny_field hz rfl (x := .ref TI) rfl (wpAny_bind (wpAny_seqItems hI rfl ?_))))
  refine (show wpAny (model prog w) A (Builtin.SmallTypes.ownedTupleIsFree (.ref z) >>= _) _ _ _ from wpAny_bind (wpAny_tupleHeld_zip hz hT fun g0 _ b0 => ?_))
  have b0 : Heap.SameBut z hp g0 := b0
  simp only [Bool.false_eq_true, if_false]
  refine wpAny_bind ?_
  rw [← Array.forIn_toList]
  simp only [List.forIn_cons, List.forIn_nil]
  refine wpAny_bind (wpAny_bind (wpAny_holding (show wpAny (model prog w) A (Builtin.SmallTypes.nextOf (.ref i1) >>= _) _ _ (⟨g0, gn, dr, tk0, os⟩ : Shared) from ?_)))
  cases hx : xs[i]? with
  | some x =>
    have hy : ys[i]? = none := he.resolve_left fun q => by rw [hx] at q; cases q
    refine wpAny_bind (wpAny_nextOf_tuple_item (t1.extBut b0.extBut D.z1.symm) (ha.extBut b0.extBut D.az) hx fun h1 k1 b1 => wpAny_pure (wpAny_pure ?_))
    have b1 : Heap.SameBut i1 g0 h1 := b1
    refine wpAny_bind (wpAny_bind (wpAny_holding (show wpAny (model prog w) A (Builtin.SmallTypes.nextOf (.ref i2) >>= _) _ _ (⟨h1, gn, dr, tk0, os⟩ : Shared) from wpAny_bind (wpAny_nextOf_tuple_end hh ((t2.extBut b0.extBut D.z2.symm).extBut b1.extBut D.i12.symm) ((hb.extBut b0.extBut D.bz).extBut b1.extBut D.b1) hy fun h3 e b3 g2 => ?_))))
    exact hE h3 tk0 e (fun c o hc q => b3 _ _ hc.2.2.2 (b1.extBut _ _ hc.2.2.1 (b0.extBut _ _ hc.1 q))) g2
  | none =>
    refine wpAny_bind (wpAny_nextOf_tuple_end hh (t1.extBut b0.extBut D.z1.symm) (ha.extBut b0.extBut D.az) hx fun h3 e b3 g2 => ?_)
    exact hE h3 tk0 e (fun c o hc q => b3 _ _ hc.2.2.1 (b0.extBut _ _ hc.1 q)) g2
theorem zn_end {Q : Value → Shared → Prop} (hh : A.handled = none) (D : Zap z TI TO i1 i2 a b) (st : ZS z TI TO i1 i2 a b i s.heap) (ha : s.heap.IsTuple a xs) (hb : s.heap.IsTuple b ys)
    (he : xs[i]? = none ∨ ys[i]? = none)
    (hE : ∀ h' tk e, (∀ c o, c ≠ z ∧ c ≠ TO ∧ c ≠ i1 ∧ c ≠ i2 → s.heap.get? c = some o → h'.get? c = some o) → (∃ o, h'.get? e = some o ∧ o.cls = .type "StopIteration") → E (.ref e) { s with heap := h', toks := tk }) :
    wpAny (model prog w) A (Builtin.SmallTypes.nextOf (.ref z)) Q E s := by
  obtain ⟨⟨v0, f, hz, hv⟩, ⟨u1, u2, hO⟩, hI, t1, t2⟩ := st
  have hTy : s.TypeIs (.ref z) "zip" := ⟨_, hz, rfl⟩
  unfold Builtin.SmallTypes.nextOf
  refine wpAny_bind (wpAny_callSpecial?_slot (name := Str.ofString "__next__") hTy F.slot_zip_next (wpAny_call_entry F.slot_zip_next hTy F.entry_zip_next ?_ (F.args_zip_next_1 _)))
  rcases hv with rfl | ⟨T, rfl⟩
  · exact zg_end hh D (free_none hz) hz hI hO t1 t2 ha hb he hE
  · cases hT : s.heap.get? T with
    | none => exact zg_end hh D (free_dead hz hT) hz hI hO t1 t2 ha hb he hE
    | some oT => exact zt_end hh D hz hT hI t1 t2 ha hb he hE
/-- enumerate's turn over such a zip -/
theorem ez_item {e : Addr} {c : Int} {old : Value} {Q : Value → Shared → Prop} (hh : A.handled = none) (D : Zap z TI TO i1 i2 a b) (st : ZS z TI TO i1 i2 a b i s.heap) (ha : s.heap.IsTuple a xs) (hb : s.heap.IsTuple b ys)
    {x y : Value} (hx : xs[i]? = some x) (hy : ys[i]? = some y) (he : IsEnum s.heap e z c old) (ne : e ∉ [z, TI, TO, i1, i2])
    (hQ : ∀ h1 tk1 h2, IsTupOf2 h1 s.heap.objs.size x y → h1.objs.size = s.heap.objs.size + 1 → (∀ c o, c ≠ z ∧ c ≠ TO ∧ c ≠ i1 ∧ c ≠ i2 → s.heap.get? c = some o → h1.get? c = some o) →
      ZS z TI TO i1 i2 a b (i + 1) h2 → IsEnumOut h2 e z (c + 1) (.ref s.heap.objs.size) (s.heap.objs.size + 1) →
      h2.get? (s.heap.objs.size + 1) = some { cls := .type "tuple", data := .seq #[.int c tk1, .ref s.heap.objs.size] } → (∀ d o, d ≠ e → h1.get? d = some o → h2.get? d = some o) →
      Q (.ref (s.heap.objs.size + 1)) { s with heap := h2, toks := tk1 + 1 }) :
    wpAny (model prog w) A (Builtin.«enumerate.__next__» ⟨[.ref e], []⟩) (fun fin s' => ∃ v, fin = .done (.ret v) ∧ Q v s') E s := by
  obtain ⟨hp, gn, dr, tk0, os⟩ := s
  simp only [List.mem_cons, List.not_mem_nil, or_false, not_or] at ne
  obtain ⟨n1, n2, n3, n4, n5⟩ := ne
  refine (show wpAny (model prog w) A (field (.ref e) 2 >>= _) _ _ _ from wpAny_bind (wpAny_field he rfl (x := .ref z) rfl ?_))
  refine wpAny_bind (zn_item hh D st ha hb hx hy fun h1 tk1 g1 g2 g3 g4 => ?_)
  have g2 : IsTupOf2 h1 hp.objs.size x y := g2
  have g3 : h1.objs.size = hp.objs.size + 1 := g3
  have e1 : IsEnum h1 e z c old := g4 _ _ ⟨n1, n3, n4, n5⟩ he
  refine (show wpAny (model prog w) A (field (.ref e) 3 >>= _) _ _ (⟨h1, gn, dr, tk1, os⟩ : Shared) from wpAny_bind (wpAny_field e1 rfl (x := rawInt c) rfl ?_))
  refine (show wpAny (model prog w) A (field (.ref e) 4 >>= _) _ _ (⟨h1, gn, dr, tk1, os⟩ : Shared) from wpAny_bind (wpAny_field e1 rfl (x := .none) rfl ?_))
  refine (show wpAny (model prog w) A (mkInt c >>= _) _ _ (⟨h1, gn, dr, tk1, os⟩ : Shared) from wpAny_bind (wpAny_mkInt ?_))
  refine (show wpAny (model prog w) A (setField (.ref e) 3 (rawInt (c + 1)) >>= _) _ _ (⟨h1, gn, dr, tk1 + 1, os⟩ : Shared) from wpAny_bind (wpAny_setField_rec e1 (by simp) fun h2 e2 b2 => ?_))
  have b2 : Heap.SameBut e h1 h2 := b2
  have e2 : IsEnum h2 e z (c + 1) old := e2
  refine (show wpAny (model prog w) A (setField (.ref e) 4 .none >>= _) _ _ (⟨h2, gn, dr, tk1 + 1, os⟩ : Shared) from wpAny_bind (wpAny_setField_rec e2 (by simp) fun h3 e3 b3 => ?_))
  have b3 : Heap.SameBut e h2 h3 := b3
  have e3 : IsEnum h3 e z (c + 1) old := e3
  refine (show wpAny (model prog w) A (newTuple [.int c tk1, .ref hp.objs.size] >>= _) _ _ (⟨h3, gn, dr, tk1 + 1, os⟩ : Shared) from wpAny_bind (wpAny_newTuple ?_))
  have s3 : h3.objs.size = hp.objs.size + 1 := by rw [b3.1, b2.1, g3]
  have le : e < hp.objs.size + 1 := Nat.lt_succ_of_lt (Heap.lt_size he)
  generalize hh4 : h3.push { cls := .type "tuple", data := .seq #[.int c tk1, .ref hp.objs.size] } = h4
  have e4 : IsEnum h4 e z (c + 1) old := by rw [← hh4]; exact Heap.get?_push_of_some _ e3
  have k4 : ∀ d o, d ≠ e → h1.get? d = some o → h4.get? d = some o := fun d o hd q => by rw [← hh4]; exact Heap.get?_push_of_some _ (b3.extBut _ _ hd (b2.extBut _ _ hd q))
  have t4 : h4.get? (hp.objs.size + 1) = some { cls := .type "tuple", data := .seq #[.int c tk1, .ref hp.objs.size] } := by rw [← hh4, ← s3]; exact Heap.get?_push_size _ rfl
  rw [s3]
  clear hh4 e3 b3 e2 b2 s3
  refine (show wpAny (model prog w) A (Builtin.SmallTypes.ownedTupleIsFree (.ref e) >>= _) _ _ (⟨h4, gn, dr, tk1 + 1, os⟩ : Shared) from wpAny_bind ?_)
  unfold Builtin.SmallTypes.ownedTupleIsFree
  refine wpAny_bind (wpAny_field e4 rfl (x := .none) rfl (wpAny_pure ?_))
  simp only [if_true]
  refine wpAny_bind (wpAny_rule (wpAny_bind (wpAny_field e4 rfl (x := old) rfl (wpAny_bind (wpAny_setField_rec e4 (by simp) fun h5 e5 b5 => ?_)))))
  have b5 : Heap.SameBut e h4 h5 := b5
  have e5 : IsEnum h5 e z (c + 1) (.ref hp.objs.size) := e5
  refine (show wpAny (model prog w) A (Builtin.SmallTypes.ownedTupleHandOut (.ref e) (.ref (hp.objs.size + 1)) >>= _) _ _ (⟨h5, gn, dr, tk1 + 1, os⟩ : Shared) from wpAny_bind ?_)
  unfold Builtin.SmallTypes.ownedTupleHandOut
  refine wpAny_bind (wpAny_setField_rec e5 (by simp) fun h6 e6 b6 => ?_)
  have b6 : Heap.SameBut e h5 h6 := b6
  have e6 : IsEnumOut h6 e z (c + 1) (.ref hp.objs.size) (hp.objs.size + 1) := e6
  refine wpAny_setField_rec e6 (by simp) fun h7 e7 b7 => ?_
  have b7 : Heap.SameBut e h6 h7 := b7
  have e7 : IsEnumOut h7 e z (c + 1) (.ref hp.objs.size) (hp.objs.size + 1) := e7
  have k7 : ∀ d o, d ≠ e → h4.get? d = some o → h7.get? d = some o := fun d o hd q => b7.extBut _ _ hd (b6.extBut _ _ hd (b5.extBut _ _ hd q))
  refine wpAny_bind (wpAny_letGo (wpAny_pure ⟨_, rfl, hQ h1 tk1 h7 g2 g3 g4 (g1.at D fun d hd o q => k7 d o (fun r => ?_) (k4 d o (fun r => ?_) q)) e7 (k7 _ _ (Nat.ne_of_gt le) t4) fun d o hd q => k7 d o hd (k4 d o hd q)⟩))
  all_goals
    subst r
    simp [n1, n2, n3, n4, n5] at hd
theorem ez_next {e : Addr} {c : Int} {old : Value} {Q : Option Value → Shared → Prop} (hh : A.handled = none) (D : Zap z TI TO i1 i2 a b) (st : ZS z TI TO i1 i2 a b i s.heap) (ha : s.heap.IsTuple a xs) (hb : s.heap.IsTuple b ys)
    {x y : Value} (hx : xs[i]? = some x) (hy : ys[i]? = some y) (he : IsEnum s.heap e z c old) (ne : e ∉ [z, TI, TO, i1, i2])
    (hQ : ∀ h1 tk1 h2, IsTupOf2 h1 s.heap.objs.size x y → h1.objs.size = s.heap.objs.size + 1 → (∀ c o, c ≠ z ∧ c ≠ TO ∧ c ≠ i1 ∧ c ≠ i2 → s.heap.get? c = some o → h1.get? c = some o) →
      ZS z TI TO i1 i2 a b (i + 1) h2 → IsEnumOut h2 e z (c + 1) (.ref s.heap.objs.size) (s.heap.objs.size + 1) →
      h2.get? (s.heap.objs.size + 1) = some { cls := .type "tuple", data := .seq #[.int c tk1, .ref s.heap.objs.size] } → (∀ d o, d ≠ e → h1.get? d = some o → h2.get? d = some o) →
      Q (some (.ref (s.heap.objs.size + 1))) { s with heap := h2, toks := tk1 + 1 }) :
    wpAny (model prog w) A (pyNext (.ref e)) Q E s := by
  have hT : s.TypeIs (.ref e) "enumerate" := ⟨_, he, rfl⟩
  unfold pyNext
  exact wpAny_bind (wpAny_attempt (wpAny_callSpecial?_slot (name := Str.ofString "__next__") hT F.slot_enumerate_next (wpAny_call_entry F.slot_enumerate_next hT F.entry_enumerate_next
    (ez_item (A := A.in1) hh D st ha hb hx hy he ne fun h1 tk1 h2 g1 g2 g3 g4 g5 g6 g7 => wpAny_pure (hQ h1 tk1 h2 g1 g2 g3 g4 g5 g6 g7)) (F.args_enumerate_next_1 _))))
theorem ez_stop {e : Addr} {c : Int} {old : Value} {Q : Option Value → Shared → Prop} (hh : A.handled = none) (D : Zap z TI TO i1 i2 a b) (st : ZS z TI TO i1 i2 a b i s.heap) (ha : s.heap.IsTuple a xs) (hb : s.heap.IsTuple b ys)
    (hend : xs[i]? = none ∨ ys[i]? = none) (he : IsEnum s.heap e z c old)
    (hQ : ∀ h' tk, (∀ c o, c ≠ z ∧ c ≠ TO ∧ c ≠ i1 ∧ c ≠ i2 → s.heap.get? c = some o → h'.get? c = some o) → Q none { s with heap := h', toks := tk }) :
    wpAny (model prog w) A (pyNext (.ref e)) Q E s := by
  have hT : s.TypeIs (.ref e) "enumerate" := ⟨_, he, rfl⟩
  unfold pyNext
  refine wpAny_bind (wpAny_attempt (wpAny_callSpecial?_slot (name := Str.ofString "__next__") hT F.slot_enumerate_next (wpAny_call_entry F.slot_enumerate_next hT F.entry_enumerate_next ?_ (F.args_enumerate_next_1 _))))
  refine (show wpAny (model prog w) A.in1 (field (.ref e) 2 >>= _) _ _ _ from wpAny_bind (wpAny_field he rfl (x := .ref z) rfl ?_))
  refine wpAny_bind (zn_end (A := A.in1) hh D st ha hb hend fun h' tk x g1 ⟨o, ho, hc⟩ => ?_)
  exact wpAny_bind (wpAny_isInstance (T := "StopIteration") (b := true) ⟨o, ho, hc⟩ isSubtype_stop (wpAny_pure (hQ h' tk g1)))
end
/-- the tuples at a and b, each two items in a new pair, in a new pair behind its number -/
def IteZ (K : PySem.W.Frag) (a b : Addr) : It :=
  ⟨fun i H => ∃ (xs ys : List V) (x y : V), SqT K H a xs ∧ SqT K H b ys ∧ xs[i]? = some x ∧ ys[i]? = some y,
    fun i H v H' => ∃ T U x y, v = .ref U ∧ H T = none ∧ H U = none ∧ T ≠ U ∧ H' = upd (upd H T (.tup [x, y])) U (.tup [.int (i : Nat), .ref T]) ∧ (∀ xs, SqT K H a xs → xs[i]? = some x) ∧ ∀ ys, SqT K H b ys → ys[i]? = some y,
    fun i H => ∃ xs ys : List V, SqT K H a xs ∧ SqT K H b ys ∧ (xs.length ≤ i ∨ ys.length ≤ i)⟩
theorem turn_enZ {P : Program} {w : World} {K : PySem.W.Frag} {elts : List Expr} {kk : Nat} {tpos : Pos} {z TI TO i1 i2 a b e : Addr} (D : Zap z TI TO i1 i2 a b) (ne : e ∉ [z, TI, TO, i1, i2]) :
    Turn P w K (.Tuple elts kk tpos) (IteZ K a b) [e, z, TI, TO, i1, i2] e (fun i h => (∃ old, IsEnum h e z ((i : Nat) : Int) old) ∧ ZS z TI TO i1 i2 a b i h) where
  mem := by simp
  obj := fun i h st c hc => by
    obtain ⟨⟨old, he⟩, ⟨v0, f, hz, _⟩, ⟨u, v, hO⟩, hI, ⟨o1, p1, _, d1⟩, ⟨o2, p2, _, d2⟩⟩ := st
    have q : c = e ∨ c = z ∨ c = TI ∨ c = TO ∨ c = i1 ∨ c = i2 := by simpa using hc
    rcases q with q | q | q | q | q | q
    · rw [q]; exact ⟨_, he, fun v r => nomatch r⟩
    · rw [q]; exact ⟨_, hz, fun v r => nomatch r⟩
    · rw [q]; exact ⟨_, hI, fun v r => nomatch r⟩
    · rw [q]; exact ⟨_, hO, fun v r => nomatch r⟩
    · rw [q]; exact ⟨o1, p1, fun v r => by rw [d1] at r; cases r⟩
    · rw [q]; exact ⟨o2, p2, fun v r => by rw [d2] at r; cases r⟩
  keep := fun i h h' st k => ⟨let ⟨old, he⟩ := st.1; ⟨old, k e (by simp) _ he⟩, st.2.at D fun c hc o q => k c (List.mem_cons_of_mem _ hc) o q⟩
  item := by
    intro X hP hw hK hc i pins s σ H E I hf st hg
    subst hP hw hK
    obtain ⟨⟨old, he⟩, st⟩ := st
    obtain ⟨xs, ys, x, y, hqx, hqy, hx, hy⟩ := hg
    obtain ⟨its, rv, p, _⟩ := I.tuple hqx
    obtain ⟨its2, rv2, p2, _⟩ := I.tuple hqy
    obtain ⟨u, hu, ru⟩ := rv.get hx
    obtain ⟨u2, hu2, ru2⟩ := rv2.get hy
    have le : e < s.heap.objs.size := Heap.lt_size he
    refine ez_next (I.ok.hd hc) D st p p2 (x := u) (y := u2) (by simpa using hu) (by simpa using hu2) he ne fun h1 tk1 h2 g1 g2 g3 g4 g5 g6 g7 => ?_
    refine ⟨_, rfl, wpAny_letOwnedTupleGo_enum (s := { s with heap := h2, toks := tk1 + 1 }) g5 fun h3 e3 b3 => ?_⟩
    have b3 : Heap.SameBut e h2 h3 := b3
    have hf1 : ∀ c ∈ [z, TO, i1, i2], FpOk X pins H c := fun c hc => hf c (by simp at hc ⊢; rcases hc with q | q | q | q <;> simp [q])
    have new1 : ObjOk X.prog X.w (upd H s.heap.objs.size (.tup [x, y])) h1 s.heap.objs.size (.tup [x, y]) :=
      ⟨by show 2 ≤ sizeLine; decide, [u, u2], .cons ru (.cons ru2 .nil), ⟨_, g1, rfl, _, rfl⟩⟩
    have I1 : Inv X pins σ (upd H s.heap.objs.size (.tup [x, y])) { s with heap := h1, toks := tk1 } :=
      I.turnedNew (t' := tk1) (ch := [z, TO, i1, i2]) (fun c o hb q => g3 c o ⟨fun r => hb (by simp [r]), fun r => hb (by simp [r]), fun r => hb (by simp [r]), fun r => hb (by simp [r])⟩ q) hf1 (Nat.le_refl _) new1
    have f1 : ∀ c ∈ [e, z, TI, TO, i1, i2], (upd H s.heap.objs.size (.tup [x, y])) c = none ∧ c < s.heap.objs.size := fun c hcm => by
      have hlt : c < s.heap.objs.size := by
        obtain ⟨⟨v0, f, hz, _⟩, ⟨w1, w2, hO⟩, hI, ⟨o1, p1, _⟩, ⟨o2, p2', _⟩⟩ := st
        have q : c = e ∨ c = z ∨ c = TI ∨ c = TO ∨ c = i1 ∨ c = i2 := by simpa using hcm
        rcases q with q | q | q | q | q | q
        · rw [q]; exact le
        · rw [q]; exact Heap.lt_size hz
        · rw [q]; exact Heap.lt_size hI
        · rw [q]; exact Heap.lt_size hO
        · rw [q]; exact Heap.lt_size p1
        · rw [q]; exact Heap.lt_size p2'
      exact ⟨by rw [upd_ne (Nat.ne_of_lt hlt)]; exact (hf c hcm).1, hlt⟩
    have hfe : ∀ c ∈ [e], FpOk X pins (upd H s.heap.objs.size (.tup [x, y])) c := fun c hce => by
      have q := List.mem_singleton.mp hce
      subst q
      obtain ⟨r1, r2, r3, r4, r5, r6⟩ := hf c (by simp)
      exact ⟨(f1 c (by simp)).1, r2, r3, r4, r5, r6⟩
    have t3 : h3.get? (s.heap.objs.size + 1) = some { cls := .type "tuple", data := .seq #[.int i tk1, .ref s.heap.objs.size] } := (b3.2 _ (Nat.ne_of_gt (Nat.lt_succ_of_lt le))).trans g6
    have new2 : ObjOk X.prog X.w (upd (upd H s.heap.objs.size (.tup [x, y])) (s.heap.objs.size + 1) (.tup [.int (i : Nat), .ref s.heap.objs.size])) h3 (s.heap.objs.size + 1) (.tup [.int (i : Nat), .ref s.heap.objs.size]) :=
      ⟨by show 2 ≤ sizeLine; decide, [.int i tk1, .ref s.heap.objs.size], .cons ⟨_, rfl⟩ (.cons rfl .nil), ⟨_, t3, rfl, _, rfl⟩⟩
    have I2 : Inv X pins σ (upd (upd H s.heap.objs.size (.tup [x, y])) (s.heap.objs.size + 1) (.tup [.int (i : Nat), .ref s.heap.objs.size])) { s with heap := h3, toks := tk1 + 1 } :=
      I1.turnedNew (t' := tk1 + 1) (ch := [e]) (fun c o hb q => (b3.2 c (fun r => hb (by simp [r]))).trans (g7 c o (fun r => hb (by simp [r])) q)) hfe (by show h1.objs.size ≤ _; rw [g2]; exact Nat.le_refl _) new2
    refine ⟨.ref (s.heap.objs.size + 1), _, I2, rfl, ⟨s.heap.objs.size, s.heap.objs.size + 1, x, y, rfl, I.hok.fresh (Nat.le_refl _), I.hok.fresh (Nat.le_succ _), Nat.ne_of_lt (Nat.lt_succ_self _), rfl, fun l hl => by rw [I.tuple_inj hl hqx]; exact hx, fun l hl => by rw [I.tuple_inj hl hqy]; exact hy⟩, ⟨⟨Value.ref s.heap.objs.size, ?_⟩, ?_⟩, fun c hcm => ?_⟩
    · have q : ((i + 1 : Nat) : Int) = (i : Int) + 1 := by omega
      rw [q]; exact e3
    · exact g4.at D fun c hc o q => (b3.2 c (fun r => ne (r ▸ hc))).trans q
    · obtain ⟨q1, q2⟩ := f1 c hcm
      rw [upd_ne (Nat.ne_of_lt (Nat.lt_succ_of_lt q2))]
      exact q1
  done := by
    intro X hP hw hK hc i pins s σ H E I hf st hg
    subst hP hw hK
    obtain ⟨⟨old, he⟩, st⟩ := st
    obtain ⟨xs, ys, hqx, hqy, hend⟩ := hg
    obtain ⟨its, rv, p, _⟩ := I.tuple hqx
    obtain ⟨its2, rv2, p2, _⟩ := I.tuple hqy
    have l1 := rv.length
    have l2 := rv2.length
    have hn : its.toArray[i]? = none ∨ its2.toArray[i]? = none := by
      rcases hend with q | q
      · exact .inl (by simp; omega)
      · exact .inr (by simp; omega)
    refine ez_stop (I.ok.hd hc) D st p p2 hn he fun h' tk hk => ⟨rfl, I.turnedL (t' := tk) (ch := [z, TO, i1, i2]) (fun c o hb q =>
      hk c o ⟨fun r => hb (by simp [r]), fun r => hb (by simp [r]), fun r => hb (by simp [r]), fun r => hb (by simp [r])⟩ q) fun c hc => hf c (by simp at hc ⊢; rcases hc with q | q | q | q <;> simp [q])⟩
  self := fun A i s Q E st h => let ⟨⟨_, ie⟩, _⟩ := st; wpAny_pyIter_enum ie h
theorem enz_new {z TI TO : Addr} {v0 : Value} :
    Meets (Builtin.«enumerate.__new__» ⟨[.type "enumerate", .ref z], []⟩) (fun _ R s => IsZip s.heap z TI TO v0 ∧
      R (.ok (.ret (.ref s.heap.objs.size))) { s with heap := s.heap.push { cls := .type "enumerate", data := .fields #[.none, .bool false, .ref z, rawInt 0, .none, .none] } }) :=
  .of_wp fun prog w A R s h => by
    obtain ⟨hp, gn, dr, tk, os⟩ := s
    obtain ⟨hh, h⟩ := h
    have hsub := sub_enumerate
    have it : ∀ {A' : Around} {E : Value → Shared → Prop} {Q : Value → Shared → Prop}, Q (.ref z) ⟨hp, gn, dr, tk, os⟩ → wpAny (model prog w) A' (pyIter (.ref z)) Q E ⟨hp, gn, dr, tk, os⟩ :=
      fun y => wpAny_pyIter_zip (s := ⟨hp, gn, dr, tk, os⟩) hh y
    wp_walk using it
    refine wpAny_stack_any fun st => wpAny_pure ?_
    split
    · rename_i c _ _ _ _ _
      cases (c == Value.type "enumerate")
      · wp_walk using it
        exact ⟨_, rfl, h⟩
      · wp_walk using it
        exact ⟨_, rfl, h⟩
    · wp_walk using it
      exact ⟨_, rfl, h⟩
theorem enz_call {prog : Program} {w : World} {A : Around} {E : Value → Shared → Prop} {s : Shared} {z TI TO : Addr} {v0 : Value} {Q : Value → Shared → Prop} (hh : IsZip s.heap z TI TO v0)
    (h : ∀ h', IsEnum h' s.heap.objs.size z 0 .none → (∀ b o, s.heap.get? b = some o → h'.get? b = some o) → Q (.ref s.heap.objs.size) { s with heap := h' }) :
    wpAny (model prog w) A (call (.type "enumerate") [.ref z]) Q E s := by
  refine callType_new F.called_enumerate (by decide) (F.typeCall_enumerate_1 _) (F.newCall_enumerate_1 _) (fun obj => F.args_object_init_2 obj _) F.entry_enumerate_new enz_new ⟨hh, ?_⟩
  have ie : IsEnum (s.heap.push { cls := .type "enumerate", data := .fields #[.none, .bool false, .ref z, rawInt 0, .none, .none] }) s.heap.objs.size z 0 .none := Heap.get?_push_size s.heap rfl
  exact ⟨⟨_, ie, rfl⟩, h _ ie fun b o x => Heap.get?_push_of_some _ x⟩
def iEnzT (K : PySem.W.Frag) (ta : TA) : L2.TI := fun σ H R => ta σ H fun vs H1 => ∃ a b xs ys, vs = [.ref a, .ref b] ∧ SqT K H1 a xs ∧ SqT K H1 b ys ∧ R (IteZ K a b) H1
theorem zap_of {N a b : Nat} (ha : a < N) (hb : b < N) : Zap (N + 4) (N + 2) (N + 3) N (N + 1) a b := by
  constructor <;> (first | (show (_ : Nat) ≠ _; omega))
theorem pi_enz {X : Cx} {e e2 : Expr} {ta : TA} {p p1 pos pos1 tpos : Pos} {elts : List Expr} {kk : Nat} (hge : Gl X "enumerate") (hme : X.mg "enumerate" = none) (hg : Gl X "zip") (hm : X.mg "zip" = none) (ha : PA X [e, e2] ta)
    (hs : starEach [e, e2] X.env = (false, eval e X.env) :: starEach [e2] X.env) (hpl : (backTo pos1 (starEach [e2] X.env)).any (·.1) = false) :
    PI X (.Tuple elts kk tpos) (.Call (.Name "enumerate" p) [.Call (.Name "zip" p1) [e, e2] [] pos1] [] pos) (iEnzT X.K ta) := by
  refine ⟨fun pins s σ H R I h => ?_⟩
  refine wpAny_Call_Name_kw (ld_blt I hge hme boot_enumerate ?_)
  refine PyProof.Rows.callWith_type1 ?_ rfl rfl
  refine (show wpAny _ _ (spliced ((false, eval (.Call (.Name "zip" p1) [e, e2] [] pos1) X.env) :: backTo pos (starEach [] X.env))) _ _ s from Calls.spliced_cons ?_)
  refine Call_ (ld_blt I hg hm PyProof.Rows.boot_zip (PyProof.Rows.callWith_type1 (thn (ha.run pos1 pins s σ H _ I h) fun us s1 ⟨vs, H1, I1, r1, q1⟩ => ?_) hs hpl))
  obtain ⟨a, b, xs, ys, ex, hqx, hqy, q⟩ := q1
  subst ex
  cases r1 with
  | cons r rr =>
  cases rr with
  | cons r' rr =>
  cases rr
  cases r
  cases r'
  obtain ⟨its, rv, p1', _⟩ := I1.tuple hqx
  obtain ⟨its2, rv2, p2', _⟩ := I1.tuple hqy
  obtain ⟨o1, ho1, _⟩ := id p1'
  obtain ⟨o2, ho2, _⟩ := id p2'
  refine RZ.call_zipT (show s1.heap.IsTuple a its.toArray from p1') (show s1.heap.IsTuple b its2.toArray from p2') fun h' hz hTI hTO h1 h2 hsz hk => Calls.spliced_nil ?_
  refine enz_call (s := { s1 with heap := h' }) hz fun h'' he hk2 => wpAny_pyIter_enum he ?_
  have hkk : ∀ c o, s1.heap.get? c = some o → h''.get? c = some o := fun c o q => hk2 c o (hk c o q)
  have I2 : Inv X pins σ H1 { s1 with heap := h'' } := I1.kept (t' := s1.toks) hkk
  have hsz : h'.objs.size = s1.heap.objs.size + 5 := hsz
  have fresh6 : ∀ c, c ∈ [h'.objs.size, s1.heap.objs.size + 4, s1.heap.objs.size + 2, s1.heap.objs.size + 3, s1.heap.objs.size, s1.heap.objs.size + 1] → FpOk X pins H1 c := fun c hcm => by
    have q : c = h'.objs.size ∨ c = s1.heap.objs.size + 4 ∨ c = s1.heap.objs.size + 2 ∨ c = s1.heap.objs.size + 3 ∨ c = s1.heap.objs.size ∨ c = s1.heap.objs.size + 1 := by simpa using hcm
    have hle : s1.heap.objs.size ≤ c := by
      rcases q with q | q | q | q | q | q <;> rw [q]
      · rw [hsz]; exact Nat.le_add_right _ _
      · exact Nat.le_add_right _ _
      · exact Nat.le_add_right _ _
      · exact Nat.le_add_right _ _
      · exact Nat.le_refl _
      · exact Nat.le_add_right _ _
    exact I1.fpOk hle (I1.hok.fresh hle)
  have apart : ∀ N S : Nat, S = N + 5 → S ∉ [N + 4, N + 2, N + 3, N, N + 1] := fun N S q => by
    simp only [List.mem_cons, List.not_mem_nil, or_false, not_or]
    omega
  have st : ZS (s1.heap.objs.size + 4) (s1.heap.objs.size + 2) (s1.heap.objs.size + 3) s1.heap.objs.size (s1.heap.objs.size + 1) a b 0 h'' :=
    ⟨⟨_, false, hk2 _ _ hz, .inl rfl⟩, ⟨_, _, hk2 _ _ hTO⟩, hk2 _ _ hTI, h1.at fun o q => hk2 _ _ q, h2.at fun o q => hk2 _ _ q⟩
  exact ⟨h'.objs.size, _, _, _, H1, rfl, I2, turn_enZ (zap_of (Heap.lt_size ho1) (Heap.lt_size ho2)) (apart _ _ hsz), ⟨⟨.none, he⟩, st⟩, fresh6, q⟩
end Ev
/-! EvSum: sum(lists, a list). -/
namespace Ev
open PySem PySem.Spec PyProof.Rows L2
section
variable {prog : Program} {w : World} {A : Around} {E : Value → Shared → Prop} {s : Shared}
/-- the lists laid one behind another -/
def catV : Nat → (Nat → List Value) → List Value → List Value
  | 0, _, acc => acc
  | n + 1, G, acc => catV n (fun i => G (i + 1)) (acc ++ G 0)
abbrev LsAt (h : Heap) (a : Addr) (vs : List Value) : Prop := ∃ n, h.get? a = some { cls := .type "list", data := .seq vs.toArray n }
theorem sumL_loop {R : Result → Shared → Prop} {I S l : Addr} {items : Array Value} {h0 : Heap} (hh : A.handled = none) (hlI : l ≠ I) (hSI : S ≠ I) (hSl : S ≠ l) (hI0 : h0.get? I = none) (hS0 : h0.get? S = none) {N : Nat} (hSN : N ≤ S) :
    ∀ (k i : Nat) (s : Shared) (p : Addr) (acc : List Value) (c : Nat) (G : Nat → List Value), items.size - i = k → i ≤ items.size → s.heap.IsListIter I l i → s.heap.IsList l items → (∀ b o, h0.get? b = some o → s.heap.get? b = some o) →
      (∀ j v, items[i + j]? = some v → ∃ a, v = .ref a ∧ LsAt h0 a (G j)) → (catV k G acc).length ≤ sizeLine → (∀ j, j ≤ k → (catV j G acc).length ≤ sizeLine) → LsAt s.heap p acc → p ≠ I → p ≠ S →
      s.heap.get? S = some { cls := .type "list", dict := none, data := .seq #[.ref p] c, slots := #[] } →
      (∀ h' tk q, (∀ b o, h0.get? b = some o → h'.get? b = some o) → ((k = 0 ∧ q = p) ∨ N ≤ q) → LsAt h' q (catV k G acc) → R (.ok (.ret (.ref q))) { s with heap := h', toks := tk }) →
      codeAny (model prog w) A (.builtin "sum.loop" ⟨[.ref I, .ref S, rawInt 2, rawInt 0], []⟩) R s := by
  intro k
  induction k with
  | zero =>
    intro i s p acc c G hk hi hit hl h00 hG hz hzz hp hpI hpS hS hR
    refine codeAny_builtin F.entry_sum_loop ?_
    rw [Around.under_plainId F.plain_sum_loop _]
    refine (show wpAny (model prog w) A.in1 (seqItems? (.ref S) >>= _) _ _ s from wpAny_bind (wpAny_seqItems hS rfl ?_))
    have W := Walks.list (prog := prog) (w := w) (A := A.in1) hh I l hlI items
    refine (show wpAny (model prog w) A.in1 (tryCatch (pyNext (.ref I)) _ >>= _) _ _ s from wpAny_bind (wpAny_tryCatch (W.done s _ _ ?_ fun h' tk hk' => ?_)))
    · have e : i = items.size := by omega
      rw [← e]
      exact ⟨hit, hl⟩
    · refine wpAny_pure (hR h' tk p (fun b o e => hk' b o (fun z => ?_) (h00 b o e)) (.inl ⟨rfl, rfl⟩) ?_)
      · rw [List.mem_singleton.mp z, hI0] at e
        cases e
      · obtain ⟨n, e⟩ := hp
        exact ⟨n, hk' p _ (fun z => hpI (List.mem_singleton.mp z)) e⟩
  | succ k ih =>
    intro i s p acc c G hk hi hit hl h00 hG hz hzz hp hpI hpS hS hR
    have hlt : i < items.size := by omega
    refine codeAny_builtin F.entry_sum_loop ?_
    rw [Around.under_plainId F.plain_sum_loop _]
    refine (show wpAny (model prog w) A.in1 (seqItems? (.ref S) >>= _) _ _ s from wpAny_bind (wpAny_seqItems hS rfl ?_))
    have W := Walks.list (prog := prog) (w := w) (A := A.in1) hh I l hlI items
    refine (show wpAny (model prog w) A.in1 (tryCatch (pyNext (.ref I)) _ >>= _) _ _ s from wpAny_bind (wpAny_tryCatch (W.item i s _ _ hlt ⟨hit, hl⟩ fun v h1 tk hP st1 hk1 => ?_)))
    obtain ⟨a, rfl, na, ea⟩ := hG 0 v hP
    obtain ⟨np, ep⟩ := hp
    have k1 : ∀ b o, b ≠ I → s.heap.get? b = some o → h1.get? b = some o := fun b o hb e => hk1 b o (fun z => hb (List.mem_singleton.mp z)) e
    have aI : a ≠ I := fun z => by rw [z, hI0] at ea; cases ea
    have aS : a ≠ S := fun z => by rw [z, hS0] at ea; cases ea
    have e1 : h1.get? p = _ := k1 _ _ hpI ep
    have e2 : h1.get? a = _ := k1 _ _ aI (h00 _ _ ea)
    have e3 : h1.get? S = _ := k1 _ _ hSI hS
    have hlen : (acc ++ G 0).length ≤ sizeLine := by
      have := hzz 1 (by omega)
      exact this
    refine (show wpAny (model prog w) A.in1 ((holding [Value.ref a] (binaryOp .Add (.ref p) (.ref a))).attempt >>= _) _ _ ({ s with heap := h1, toks := tk } : Shared) from wpAny_bind (wpAny_attempt (wpAny_holding (PySem.P.add_list e1 e2 ?_ (by rw [List.size_toArray, List.size_toArray, ← List.length_append]; exact hlen)))))
    have eap : acc.toArray ++ (G 0).toArray = (acc ++ G 0).toArray := by simp
    rw [eap]
    have f3 : (h1.push { cls := .type "list", data := .seq (acc ++ G 0).toArray }).get? S = _ := Heap.get?_push_of_some _ e3
    refine (show wpAny (model prog w) A.in1 (updateSeq S (fun _ => #[.ref h1.objs.size]) >>= _) _ _ ({ s with heap := h1.push { cls := .type "list", data := .seq (acc ++ G 0).toArray }, toks := tk } : Shared) from wpAny_bind (wpAny_updateSeq f3 rfl ?_))
    have g3 := Heap.get?_update_self (Obj.mapSeq fun _ => #[Value.ref h1.objs.size]) f3 rfl
    refine wpAny_bind (wpAny_letGo (wpAny_bind (wpAny_updateSeq g3 rfl (wpAny_pure ⟨plainId_quiet F.plain_sum_loop _, ?_⟩))))
    have g4 := Heap.get?_update_self (Obj.mapSeq fun _ => #[Value.ref h1.objs.size]) g3 rfl
    have S1 : S < h1.objs.size := Heap.lt_size e3
    have I1 : I < h1.objs.size := by obtain ⟨_, q, _⟩ := st1.1; exact Heap.lt_size q
    have up : ∀ b o, b ≠ S → h1.get? b = some o → (((h1.push { cls := .type "list", data := .seq (acc ++ G 0).toArray }).update S (Obj.mapSeq fun _ => #[Value.ref h1.objs.size])).update S (Obj.mapSeq fun _ => #[Value.ref h1.objs.size])).get? b = some o := fun b o hb e =>
      (Heap.get?_update_other _ _ (Ne.symm hb)).trans ((Heap.get?_update_other _ _ (Ne.symm hb)).trans (Heap.get?_push_of_some _ e))
    have hnew : (((h1.push { cls := .type "list", data := .seq (acc ++ G 0).toArray }).update S (Obj.mapSeq fun _ => #[Value.ref h1.objs.size])).update S (Obj.mapSeq fun _ => #[Value.ref h1.objs.size])).get? h1.objs.size = some { cls := .type "list", data := .seq (acc ++ G 0).toArray } :=
      (Heap.get?_update_other _ _ (Nat.ne_of_lt S1)).trans ((Heap.get?_update_other _ _ (Nat.ne_of_lt S1)).trans (Heap.get?_push_size _ rfl))
    refine ih (i + 1) _ h1.objs.size (acc ++ G 0) _ (fun j => G (j + 1)) (by omega) hlt (st1.1.at fun o e => up _ _ hSI.symm e) (st1.2.at fun o e => up _ _ hSl.symm e) (fun b o e => up _ _ (fun z => ?_) (k1 _ _ (fun z => ?_) (h00 _ _ e)))
      (fun j v e => hG (j + 1) v (by rw [show i + (j + 1) = i + 1 + j by omega]; exact e)) hz (fun j hj => hzz (j + 1) (by omega)) ⟨_, hnew⟩ (Nat.ne_of_gt I1) (Nat.ne_of_gt S1) g4 fun h' tk' q q1 q2 q3 => hR h' tk' q q1 (.inr ?_) q3
    · rw [z, hS0] at e; cases e
    · rw [z, hI0] at e; cases e
    · rcases q2 with ⟨_, rfl⟩ | q2
      · exact Nat.le_trans hSN (Nat.le_of_lt S1)
      · exact q2
theorem args_sum2 (a b : Value) : argsOk "sum" ⟨[a, b], []⟩ := by unfold argsOk; kernel_rfl
theorem sum_lists {l b : Addr} {items : Array Value} {acc : List Value} {G : Nat → List Value} {Q : Value → Shared → Prop} (hh : A.handled = none) (hl : s.heap.IsList l items) (hb : LsAt s.heap b acc)
    (hG : ∀ j v, items[j]? = some v → ∃ a, v = .ref a ∧ LsAt s.heap a (G j)) (hz : ∀ j, j ≤ items.size → (catV j G acc).length ≤ sizeLine)
    (h : ∀ h' tk q, (∀ c o, s.heap.get? c = some o → h'.get? c = some o) → ((items.size = 0 ∧ q = b) ∨ s.heap.objs.size ≤ q) → LsAt h' q (catV items.size G acc) → Q (.ref q) { s with heap := h', toks := tk }) :
    wpAny (model prog w) A (call (.builtin "sum") [.ref l, .ref b]) Q E s := by
  have ll : l < s.heap.objs.size := by obtain ⟨_, q, _⟩ := hl; exact Heap.lt_size q
  have lb : b < s.heap.objs.size := by obtain ⟨_, q⟩ := hb; exact Heap.lt_size q
  refine call_function_tree F.kind_sum F.plain_sum F.entry_sum (args_sum2 _ _) ?_
  unfold Builtin.«sum»
  simp only [List.length_cons, List.length_nil]
  rw [if_neg (by decide)]
  refine wpAny_bind (wpAny_of_eq (show Builtin.Builtins.bindParams "sum" ["start"] 0 ⟨[.ref b], []⟩ = pure [some (.ref b)] from rfl) ?_)
  refine wpAny_bind (wpAny_pyIter_list hl ?_)
  refine wpAny_bind (wpAny_pure ?_)
  obtain ⟨nb, eb⟩ := hb
  have tb : ({ s with heap := s.heap.push { cls := .type "list_iterator", data := .fields #[.ref l, rawInt 0] } } : Shared).TypeIs (.ref b) "list" := ⟨_, Heap.get?_push_of_some _ eb, rfl⟩
  simp only [List.forIn_cons, List.forIn_nil]
  refine wpAny_bind (wpAny_bind (wpAny_bind (wpAny_isInstance (T := "list") (b := false) tb F.sub_list_str ?_)))
  simp only [Bool.false_eq_true, if_false]
  refine wpAny_pure (wpAny_bind (wpAny_bind (wpAny_isInstance (T := "list") (b := false) tb F.sub_list_bytes ?_)))
  simp only [Bool.false_eq_true, if_false]
  refine wpAny_pure (wpAny_bind (wpAny_bind (wpAny_isInstance (T := "list") (b := false) tb F.sub_list_bytearray ?_)))
  simp only [Bool.false_eq_true, if_false]
  refine wpAny_pure (wpAny_pure (wpAny_bind (wpAny_newObj_type ?_)))
  have off : ∀ k, s.heap.objs.size ≤ k → s.heap.get? k = none := fun k hk => by
    cases q : s.heap.get? k with
    | none => rfl
    | some o => exact absurd (Heap.lt_size q) (Nat.not_lt.mpr hk)
  have z1 : (s.heap.push { cls := .type "list_iterator", data := .fields #[.ref l, rawInt 0] }).objs.size = s.heap.objs.size + 1 := Heap.size_push ..
  have up : ∀ c o, s.heap.get? c = some o → ((s.heap.push { cls := .type "list_iterator", data := .fields #[.ref l, rawInt 0] }).push { cls := .type "list", data := .seq ([Value.ref b] : List Value).toArray }).get? c = some o :=
    fun c o e => Heap.get?_push_of_some _ (Heap.get?_push_of_some _ e)
  have gS : ((s.heap.push { cls := .type "list_iterator", data := .fields #[.ref l, rawInt 0] }).push { cls := .type "list", data := .seq ([Value.ref b] : List Value).toArray }).get? (s.heap.objs.size + 1) = some { cls := .type "list", data := .seq #[.ref b] } := by
    rw [← z1]
    exact Heap.get?_push_size _ rfl
  have gI : ((s.heap.push { cls := .type "list_iterator", data := .fields #[.ref l, rawInt 0] }).push { cls := .type "list", data := .seq ([Value.ref b] : List Value).toArray }).IsListIter s.heap.objs.size l 0 := ⟨_, Heap.get?_push_of_some _ (Heap.get?_push_size _ rfl), rfl, rfl⟩
  refine (show wpAny (model prog w) A.in1 (again (.builtin "sum.loop" ⟨[.ref s.heap.objs.size, .ref (s.heap.push { cls := .type "list_iterator", data := .fields #[.ref l, rawInt 0] }).objs.size, rawInt 2, rawInt 0], []⟩)) _ _ _ from ?_)
  rw [z1]
  refine wpAny_pure ⟨plainId_quiet F.plain_sum_loop _, sumL_loop (I := s.heap.objs.size) (S := s.heap.objs.size + 1) (l := l) (items := items) (h0 := s.heap) (N := s.heap.objs.size) hh (Nat.ne_of_lt ll) (Nat.succ_ne_self _) (Nat.ne_of_gt (Nat.lt_succ_of_lt ll)) (off _ (Nat.le_refl _)) (off _ (Nat.le_succ _)) (Nat.le_succ _)
    items.size 0 _ b acc _ G (Nat.sub_zero _) (Nat.zero_le _) gI ?_ up (fun j v e => hG j v (by rw [← Nat.zero_add j]; exact e)) (hz _ (Nat.le_refl _)) hz ⟨nb, up _ _ eb⟩ (Nat.ne_of_lt lb) (Nat.ne_of_lt (Nat.lt_succ_of_lt lb)) gS fun h' tk q q1 q2 q3 => ?_⟩
  · obtain ⟨o, q, r⟩ := hl
    exact ⟨o, up _ _ q, r⟩
  · exact h h' tk q q1 q2 q3
end
/-! ### over the readings -/
def rSumL (K : PySem.W.Frag) : List V → Hp → VK → Prop := fun vs H Q => ∃ P ls st r, (∀ a, P a → H a ≠ none) ∧ Paired (Rp K H P) vs [.list ls, .list st] ∧ Nat.ble st.length line = true ∧ catD ls st = some r ∧ ∀ u H', Same H H' → Rp K H' P u (.list r) → Q u H'
section
variable {K : PySem.W.Frag} {H : Hp} {P : AP'}
theorem cat_rp : ∀ {ls : List PyData} {G : Nat → List Value} {acc : List Value} {vs : List V} {ds r : List PyData}, (∀ (j : Nat) (d : PyData), ls[j]? = some d → ∃ es ws, d = PyData.list es ∧ Vals ws (G j) ∧ RpAll K H P ws es) → Vals vs acc → RpAll K H P vs ds → catD ls ds = some r →
    ∃ ws, Vals ws (catV ls.length G acc) ∧ RpAll K H P ws r
  | [], G, acc, vs, ds, r, hG, hv, hr, h => by
    unfold catD at h
    cases h
    exact ⟨vs, hv, hr⟩
  | d :: ls, G, acc, vs, ds, r, hG, hv, hr, h => by
    obtain ⟨es, ws, rfl, g1, g2⟩ := hG 0 d rfl
    unfold catD at h
    split at h
    · refine cat_rp (ls := ls) (G := fun i => G (i + 1)) (fun j d e => hG (j + 1) d (by simpa using e)) (hv.append g1) (RpAll.append hr g2) h
    · cases h
theorem cat_len : ∀ {ls : List PyData} {G : Nat → List Value} {acc : List Value} {vs : List V} {ds r : List PyData}, (∀ (j : Nat) (d : PyData), ls[j]? = some d → ∃ es ws, d = PyData.list es ∧ Vals ws (G j) ∧ RpAll K H P ws es) → Vals vs acc → RpAll K H P vs ds → ds.length ≤ line → catD ls ds = some r →
    ∀ j, j ≤ ls.length → (catV j G acc).length ≤ sizeLine
  | ls, G, acc, vs, ds, r, hG, hv, hr, hl, h, 0, _ => by
    show acc.length ≤ sizeLine
    rw [← hv.length, hr.length]
    exact hl
  | [], G, acc, vs, ds, r, hG, hv, hr, hl, h, j + 1, hj => absurd hj (Nat.not_succ_le_zero _)
  | d :: ls, G, acc, vs, ds, r, hG, hv, hr, hl, h, j + 1, hj => by
    obtain ⟨es, ws, rfl, g1, g2⟩ := hG 0 d rfl
    unfold catD at h
    split at h
    · rename_i hb
      exact cat_len (ls := ls) (G := fun i => G (i + 1)) (fun j d e => hG (j + 1) d (by simpa using e)) (hv.append g1) (RpAll.append hr g2) (by rw [List.length_append]; exact Nat.le_of_ble_eq_true hb) h j (Nat.le_of_succ_le_succ hj)
    · cases h
theorem cat_lists : ∀ {ls ds r : List PyData}, catD ls ds = some r → ∀ (j : Nat) (d : PyData), ls[j]? = some d → ∃ es, d = PyData.list es
  | [], _, _, _, j, d, e => by simp at e
  | d0 :: ls, ds, r, h, j, d, e => by
    unfold catD at h
    split at h
    · rename_i heq; cases heq
    · rename_i heq
      cases heq
      split at h
      · cases j with
        | zero => exact ⟨_, (Option.some.inj (by simpa using e)).symm⟩
        | succ j => exact cat_lists h j d (by simpa using e)
      · cases h
    · cases h
end
section
variable {X : Cx}
theorem bl_sumL (hc : X.calm = true) : CallR X (.builtin "sum") (rSumL X.K) := by
  intro pins s σ H vs us Q I rv h
  obtain ⟨P, ls, st, r, hp, hd, hst, hcat, q⟩ := h
  cases hd with
  | cons r1 tl =>
  cases tl with
  | cons r2 tl =>
  cases tl
  cases r1 with
  | lst k1 k2 k3 =>
  cases r2 with
  | lst m1 m2 m3 =>
  rename_i a xs b ys
  cases rv with
  | cons x1 rv =>
  cases rv with
  | cons x2 rv =>
  cases rv
  cases x1
  cases x2
  obtain ⟨its, ra, pl, _⟩ := I.list (SqL.of k1)
  obtain ⟨_, itb, nb, rb, _, eb⟩ := I.lstM m1
  have key : ∀ j : Nat, ∃ g : List Value, (∀ v : Value, its.toArray[j]? = some v → ∃ a, v = Value.ref a ∧ LsAt s.heap a g) ∧ ∀ d : PyData, ls[j]? = some d → ∃ es ws, d = PyData.list es ∧ Vals ws g ∧ RpAll X.K H P ws es := by
    intro j
    cases hj : ls[j]? with
    | none =>
      refine ⟨[], fun v e => ?_, fun d e => by cases e⟩
      have l1 := ra.length
      have l2 := k3.length
      have l3 := List.getElem?_eq_none_iff.mp hj
      have l4 := (Array.getElem?_eq_some_iff.mp e).1
      rw [List.size_toArray] at l4
      omega
    | some d =>
      obtain ⟨es, rfl⟩ := cat_lists hcat j d hj
      obtain ⟨x, hx, rx⟩ := k3.get hj
      cases rx with
      | lst n1 n2 n3 =>
      obtain ⟨u, hu, ru⟩ := ra.get hx
      cases ru
      obtain ⟨_, itc, nc, rc, _, ec⟩ := I.lstM n1
      refine ⟨itc, fun v e => ?_, fun d e => ?_⟩
      · have e2 : its[j]? = some v := by simpa using e
        rw [hu] at e2
        cases e2
        exact ⟨_, rfl, nc, ec⟩
      · cases e
        exact ⟨es, _, rfl, rc, n3⟩
  let G : Nat → List Value := fun j => Classical.choose (key j)
  have hG := fun j => Classical.choose_spec (key j)
  have sz : its.toArray.size = ls.length := by rw [List.size_toArray, ← ra.length, k3.length]
  refine sum_lists (I.ok.hd hc) pl.isList ⟨nb, eb⟩ (G := G) (fun j v e => (hG j).1 v e) (fun j hj => cat_len (fun j d e => (hG j).2 d e) rb m3 (Nat.le_of_ble_eq_true hst) hcat j (by rw [← sz]; exact hj)) fun h' tk p hk hpq hp' => ?_
  obtain ⟨ws, w1, w2⟩ := cat_rp (ls := ls) (G := G) (fun j d e => (hG j).2 d e) rb m3 hcat
  rcases hpq with ⟨h0, rfl⟩ | hpq
  · rw [sz] at h0
    cases ls with
    | cons _ _ => cases h0
    | nil =>
      unfold catD at hcat
      cases hcat
      exact ⟨.ref p, H, I.kept hk, rfl, q _ _ (Same.refl H) (.lst m1 m2 m3)⟩
  · obtain ⟨n, ep⟩ := hp'
    rw [sz] at ep
    have hn := I.hok.fresh hpq
    have hl := cat_len (fun j d e => (hG j).2 d e) rb m3 (Nat.le_of_ble_eq_true hst) hcat _ (Nat.le_refl _)
    have J : Inv X pins σ (upd H p (.lst ws)) { s with heap := h', toks := tk } := I.laid hk hpq ⟨by rw [w1.length]; exact hl, _, n, w1, ep⟩
    have sm := same_upd (o := HO.lst ws) hn
    exact ⟨.ref p, _, J, rfl, q _ _ sm (.lst upd_same (fun z => hp p z hn) (w2.ext (.same sm) _ _))⟩
end
section
variable {X : Cx} {a b : Expr} {m : MA} {pos p : Pos}
theorem xp_sumL (hc : X.calm = true) (hg : Gl X "sum") (hm : X.mg "sum" = none) (ha : PA X [a, b] (rdA X.K m)) (hs : noStar a = true) (hs2 : noStar b = true) : PE X (.Call (.Name "sum" p) [a, b] [] pos) (rdE X.K (eSumL m)) := by
  have t2 := star_cons (es := []) (env := X.env) hs2
  have t1 := star_cons (es := [b]) (env := X.env) hs
  refine PE.mono (pe_callB (bl_sumL hc) hg hm (by decide +kernel) ha (by decide) (by decide) t1 (by rw [t2]; rfl)) fun σ H Q ⟨ι, P, env, st, A, w, st', e, q⟩ => ?_
  obtain ⟨xs, s1, h1, e⟩ := bind_ok (noX_ok e)
  refine rdA.bind A h1 fun u H1 x1 A1 r1 => ?_
  split at e
  · rename_i ls sl
    split at e
    · rename_i hst
      obtain ⟨r, hr, rfl, rfl⟩ := okD_ok e
      obtain ⟨r0, hr0, rfl⟩ := Option.map_eq_some_iff.mp hr
      cases r1 with
      | cons c1 tl =>
      cases tl with
      | cons c2 tl =>
      cases tl
      have d1 : ∀ {v : V} {d : PyData}, RV X.K H1 P ι v (.dat d) → Rp X.K H1 P v d := fun z => by cases z; assumption
      exact ⟨P, ls, sl, r0, A1.s.pthere, .cons (d1 c1) (.cons (d1 c2) .nil), hst, hr0, fun z H2 sm rp => q z H2 (x1.trans (.same sm)) (A1.s.same sm) (.dat rp)⟩
    · cases e
  · cases e
end
end Ev
/-! EvSort: sorted of data that are alike. -/
namespace Ev
open PySem PySem.W PySem.SeqAt PyProof.Rows
/-! ### the sort, computed -/
theorem sLe_total : TotalLe sLe := sortLe_total (listOrd itemOrd) false keyToks
abbrev Srt (l : List PyData) : Prop := l.Pairwise fun a b => sLe a b = true
theorem ins_mem {x z : PyData} : ∀ {l : List PyData}, z ∈ ins x l → z = x ∨ z ∈ l
  | [], h => by
    unfold ins at h
    exact .inl (List.mem_singleton.mp h)
  | y :: ys, h => by
    unfold ins at h
    split at h
    · rcases List.mem_cons.mp h with e | h
      · exact .inr (by rw [e]; exact List.mem_cons_self)
      · rcases ins_mem h with e | h
        · exact .inl e
        · exact .inr (List.mem_cons_of_mem _ h)
    · rcases List.mem_cons.mp h with e | h
      · exact .inl e
      · exact .inr h
theorem not_sLe {x y : PyData} (h : sLe y x = false) : sLe x y = true := (sLe_total.total y x).elim (fun z => by rw [z] at h; cases h) id
theorem ins_srt {x : PyData} : ∀ {l : List PyData}, Srt l → Srt (ins x l)
  | [], _ => by unfold ins; exact List.pairwise_singleton _ _
  | y :: ys, h => by
    have h2 := List.pairwise_cons.mp h
    unfold ins
    split
    · rename_i c
      refine List.pairwise_cons.mpr ⟨fun z hz => ?_, ins_srt h2.2⟩
      rcases ins_mem hz with e | hz
      · rw [e]; exact c
      · exact h2.1 z hz
    · rename_i c
      have c := not_sLe (Bool.eq_false_iff.mpr c)
      refine List.pairwise_cons.mpr ⟨fun z hz => ?_, h⟩
      rcases List.mem_cons.mp hz with e | hz
      · rw [e]; exact c
      · exact sLe_total.trans _ _ _ c (h2.1 z hz)
theorem ins_cls {x c : PyData} : ∀ {l : List PyData}, Srt l → (ins x l).filter (sameRank sLe c) = l.filter (sameRank sLe c) ++ [x].filter (sameRank sLe c)
  | [], _ => by unfold ins; rfl
  | y :: ys, h => by
    have h2 := List.pairwise_cons.mp h
    unfold ins
    split
    · rw [List.filter_cons, List.filter_cons, ins_cls h2.2]
      split <;> simp
    · rename_i cy
      have cy := Bool.eq_false_iff.mpr cy
      by_cases q : sameRank sLe c x = true
      · have none : (y :: ys).filter (sameRank sLe c) = [] := by
          refine List.filter_eq_nil_iff.mpr fun z hz hzc => ?_
          unfold sameRank at q hzc
          rw [Bool.and_eq_true] at q hzc
          have yz : sLe y z = true := by
            rcases List.mem_cons.mp hz with e | hz
            · rw [e]; exact sLe_total.refl y
            · exact h2.1 z hz
          have := sLe_total.trans _ _ _ yz (sLe_total.trans _ _ _ hzc.2 q.1)
          rw [cy] at this
          cases this
        rw [List.filter_cons, if_pos q, none]
        simp [q]
      · rw [List.filter_cons, if_neg q]
        simp [q]
theorem isortA_ok : ∀ (xs acc pre : List PyData), Srt acc → (∀ c, acc.filter (sameRank sLe c) = pre.filter (sameRank sLe c)) → Srt (isortA acc xs) ∧ ∀ c, (isortA acc xs).filter (sameRank sLe c) = (pre ++ xs).filter (sameRank sLe c)
  | [], acc, pre, h1, h2 => by
    unfold isortA
    exact ⟨h1, fun c => by rw [List.append_nil]; exact h2 c⟩
  | x :: xs, acc, pre, h1, h2 => by
    unfold isortA
    have z := isortA_ok xs (ins x acc) (pre ++ [x]) (ins_srt h1) fun c => by rw [ins_cls h1, List.filter_append, h2 c]
    rw [List.append_assoc] at z
    exact z
theorem isort_eq (xs : List PyData) : isort xs = xs.mergeSort sLe := by
  obtain ⟨h1, h2⟩ := isortA_ok xs [] [] List.Pairwise.nil fun _ => rfl
  exact sort_unique sLe_total h1 fun c => by rw [← List.nil_append xs]; exact h2 c
/-! ### what can be sorted -/
theorem alikeB_ok : ∀ {ds : List PyData}, alikeB ds = true → AllAlike ds
  | [], _, d, hd, _, _ => absurd hd (by simp)
  | x :: xs, h, d, hd, e, he => by
    unfold alikeB at h
    simp only [Bool.and_eq_true] at h
    obtain ⟨h1, h2, h3⟩ := h
    rcases List.mem_cons.mp hd with e1 | hd2
    · subst e1
      rcases List.mem_cons.mp he with e2 | he2
      · rw [e2]; exact h2
      · have := List.all_eq_true.mp h1 e he2
        rw [Bool.and_eq_true] at this
        exact this.1
    · rcases List.mem_cons.mp he with e2 | he2
      · subst e2
        have := List.all_eq_true.mp h1 d hd2
        rw [Bool.and_eq_true] at this
        exact this.2
      · exact alikeB_ok h3 d hd2 e he2
theorem tup_reads {h : Heap} {v : Value} {ds : List PyData} {as : List Addr} (r : Reads h v (.tuple ds) as) : ∃ a o xs n, v = .ref a ∧ h.get? a = some o ∧ o.cls = .type "tuple" ∧ o.data = .seq xs n ∧ (ds = [] → xs[0]? = none) := by
  cases r with
  | @tuple a o xs n _ _ h1 h2 h3 h4 =>
    refine ⟨a, o, xs, n, rfl, h1, h2, h3, fun e => ?_⟩
    subst e
    have := SeqAt.ReadsAll.length _ _ _ h4
    have z : xs.size = 0 := by simpa using this
    simp [z]
section
variable {M : Model} {A : Around} {E : Value → Shared → Prop} {s : Shared}
theorem tup_first : ∀ (vs : List Value), (∀ v ∈ vs, ∃ a o xs n, v = Value.ref a ∧ s.heap.get? a = some o ∧ o.cls = .type "tuple" ∧ o.data = .seq xs n) → ∃ fs : List (Option Value), ∀ {Q : List (Option Value) → Shared → Prop}, Q fs s → wpAny M A (vs.mapM firstOfTuple') Q E s
  | [], _ => ⟨[], fun h => by rw [List.mapM_nil]; exact wpAny_pure h⟩
  | v :: vs, t => by
    obtain ⟨fs, hf⟩ := tup_first vs fun u hu => t u (List.mem_cons_of_mem _ hu)
    obtain ⟨a, o, xs, n, rfl, ho, hc, hd⟩ := t v List.mem_cons_self
    refine ⟨xs[0]? :: fs, fun {Q} h => ?_⟩
    rw [List.mapM_cons]
    refine wpAny_bind ?_
    rw [kas_first_eq]
    refine wpAny_bind (Looks.here (show Looks M s.heap (typeOf (.ref a)) o.cls from (Looks.ld ho).andThen .now) ?_)
    rw [hc, if_neg (by first | decide | simp)]
    refine wpAny_bind (listItems_at ho hd (wpAny_pure ?_))
    exact wpAny_bind (hf (wpAny_pure h))
/-- the first an empty tuple, the rest tuples -/
theorem tup_kind {v : Value} {vs : List Value} {Q : SortKind → Shared → Prop} (h0 : ∃ a o xs n, v = Value.ref a ∧ s.heap.get? a = some o ∧ o.cls = .type "tuple" ∧ o.data = .seq xs n ∧ xs[0]? = none)
    (ht : ∀ u ∈ vs, ∃ a o xs n, u = Value.ref a ∧ s.heap.get? a = some o ∧ o.cls = .type "tuple" ∧ o.data = .seq xs n) (h : Q oneType' s) : wpAny M A (keyKind' (v :: vs).toArray) Q E s := by
  obtain ⟨fs, hf⟩ := tup_first (M := M) (A := A) (E := E) vs ht
  obtain ⟨a, o, xs, n, rfl, ho, hc, hd, hn⟩ := h0
  have all : ∀ u ∈ Value.ref a :: vs, Looks M s.heap (typeOf u) (.type "tuple") := fun u hu => by
    rcases List.mem_cons.mp hu with rfl | hu
    · rw [← hc]
      exact (Looks.ld ho).andThen .now
    · obtain ⟨b, o2, ys, m, rfl, h1, h2, _⟩ := ht u hu
      rw [← h2]
      exact (Looks.ld h1).andThen .now
  rw [keyKind'_eq, List.mapM_toArray, map_eq_pure_bind, List.mapM_cons]
  refine wpAny_bind (wpAny_bind (wpAny_bind ?_))
  rw [kas_first_eq]
  refine wpAny_bind (Looks.here (all _ List.mem_cons_self) ?_)
  rw [if_neg (by first | decide | simp)]
  refine wpAny_bind (listItems_at ho hd (wpAny_pure ?_))
  rw [hn]
  refine wpAny_bind (hf (wpAny_pure (wpAny_pure ?_)))
  rw [if_neg (by simp), if_neg (by simp)]
  rw [oneTypeOnly'_eq, List.mapM_toArray, map_eq_pure_bind]
  refine wpAny_bind (wpAny_bind (wpAny_bind (kas_mapM (r := Value.type "tuple") _ (fun u hu Q' hq => (all u hu).here hq) (wpAny_pure ?_))))
  have hall : ((List.map (fun _ => Value.type "tuple") (Value.ref a :: vs)).toArray.all fun x => x == Value.type "tuple") = true := by
    simp only [List.all_toArray, List.all_map, List.all_eq_true]
    intro _ _
    rfl
  have h1 : (List.map (fun _ => Value.type "tuple") (Value.ref a :: vs)).toArray[0]? = some (Value.type "tuple") := by simp
  rw [h1]
  simp only [hall, if_true]
  exact wpAny_pure (wpAny_pure h)
end
section
variable {prog : Program} {w : World} {A : Around} {E : Value → Shared → Prop} {s : Shared}
theorem tup_lt {xs ys : List PyData} {a b : Value} {as bs : List Addr} {Q : Bool → Shared → Prop} (ra : Reads s.heap a (.tuple xs) as) (rb : Reads s.heap b (.tuple ys) bs) (h : alike (.tuple xs) (.tuple ys) = true) (hu : A.units + min (PyData.tuple xs).depth (PyData.tuple ys).depth < cLine)
    (hq : Q (dataLt (.tuple xs) (.tuple ys)) s) : wpAny (model prog w) A (oneLt' true a b) Q E s := by
  have hal : alikeAll xs ys = true := by simpa [alike] using h
  rw [oneLt'_eq]
  simp only [if_true]
  refine wpAny_bind (wpAny_cRoomFor (by omega) ?_)
  cases ra with
  | @tuple l o vs n _ as₁ h1 h2 h3 h4 =>
    cases rb with
    | @tuple l' o' vs' n' _ bs₁ k1 k2 k3 k4 =>
      have n1 : vs.size = xs.length := by simpa using SeqAt.ReadsAll.length _ _ _ h4
      have n2 : vs'.size = ys.length := by simpa using SeqAt.ReadsAll.length _ _ _ k4
      obtain ⟨cls, dd, data, sl⟩ := o
      obtain ⟨cls2, dd2, data2, sl2⟩ := o'
      simp only at h2 h3 k2 k3
      subst h2 h3 k2 k3
      refine wpAny_bind (wpAny_callSpecialIfBound?_slot ⟨_, h1, rfl⟩ F.slot_tuple_lt ?_)
      refine call_meets F.slot_tuple_lt ⟨_, h1, rfl⟩ F.entry_tuple_lt (F.args_tuple_lt_2 _ _) (SeqAt.tuple_ltAt l l' vs vs' n n' dd dd2 sl sl2 (pairEq xs ys) (fun j => dataLt (xs.getD j .none) (ys.getD j .none))) ⟨h1, k1, fun j j1 j2 => ?_, fun j j1 j2 hj => ?_, ?_⟩
      · have := eqAt_alikeAll xs ys A.in1 s vs.toList vs'.toList _ _ h4 k4 hal (SeqAt.room_in hu) j (by simpa using j1) (by simpa using j2)
        simpa using this
      · have := rcLt_alikeAll xs ys A.in1 s vs.toList vs'.toList _ _ h4 k4 hal (SeqAt.room_in hu) j (by simpa using j1) (by simpa using j2) hj
        simpa using this
      · rw [n1, n2, firstLt_toks xs ys hal, ← dataLt_tuple]
        exact wpAny_truthy_bool hq
/-- what sortB says can be sorted -/
theorem sorts_ok {vs : List Value} {ds : List PyData} (e : EachIs (fun v d => ∃ as, Reads s.heap v d as) vs ds) (h : sortB ds = true) (hu : A.units + 64 < cLine) : SortsAt prog w A s (dataKind s.heap ds) vs := by
  unfold sortB at h
  simp only [Bool.and_eq_true] at h
  obtain ⟨h1, h2, h3, h4⟩ := h
  have hal := alikeB_ok h1
  have dep : ∀ d, d ∈ ds → A.units + d.depth < cLine := fun d hd => by
    have := Nat.le_of_ble_eq_true (List.all_eq_true.mp h3 d hd)
    omega
  unfold kindB at h2
  split at h2
  · rename_i ds'
    have tp : ∀ d ∈ PyData.tuple [] :: ds', ∃ xs, d = .tuple xs := fun d hd => by
      rcases List.mem_cons.mp hd with rfl | hd
      · exact ⟨_, rfl⟩
      · have := List.all_eq_true.mp h2 d hd
        cases d <;> first | exact ⟨_, rfl⟩ | cases this
    refine ⟨fun v hv => ?_, oneType', fun E x y a b Q ha hb hq => ?_, fun _ E Q hq => ?_⟩
    · obtain ⟨d, hd, as, r⟩ := e.left v hv
      exact ⟨_, dataKind_some hal hd r⟩
    · obtain ⟨d, as, hd, ra, rfl⟩ := dataKind_inv ha
      obtain ⟨d', as', hd', rb, rfl⟩ := dataKind_inv hb
      rw [keyLt'_oneType]
      have al := hal d hd d' hd'
      have rm : A.units + min d.depth d'.depth < cLine := Nat.lt_of_le_of_lt (Nat.add_le_add_left (Nat.min_le_left _ _) _) (dep d hd)
      obtain ⟨xs, rfl⟩ := tp d hd
      obtain ⟨ys, rfl⟩ := tp d' hd'
      exact tup_lt ra rb al rm hq
    · cases e with
      | cons r0 rr =>
        obtain ⟨as, r0⟩ := r0
        obtain ⟨a, o, xs, n, g1, g2, g3, g4, g5⟩ := tup_reads r0
        refine tup_kind ⟨a, o, xs, n, g1, g2, g3, g4, g5 rfl⟩ (fun u hu => ?_) hq
        obtain ⟨d, hd, as2, r2⟩ := rr.left u hu
        obtain ⟨ys, rfl⟩ := tp d (List.mem_cons_of_mem _ hd)
        obtain ⟨b, o2, zs, m, k1, k2, k3, k4, _⟩ := tup_reads r2
        exact ⟨b, o2, zs, m, k1, k2, k3, k4⟩
  · refine SortsAt.data e hal ?_ dep
    rcases Bool.or_eq_true_iff.mp h2 with h2 | h2
    · left
      intro d hd
      have := List.all_eq_true.mp h2 d hd
      cases d with
      | tuple xs => cases xs with
        | nil => cases this
        | cons x r => exact ⟨x, r, rfl⟩
      | _ => cases this
    · right
      intro d hd
      have := List.all_eq_true.mp h2 d hd
      cases d <;> first | (cases this; done) | exact ⟨(fun z => nomatch z), fun _ z => nomatch z⟩
end
end Ev
namespace Ev
open PySem PySem.Spec PyProof.Rows L2 PySem.W
section
variable {X : Cx}
theorem each_rp {K : PySem.W.Frag} {H : Hp} {P : AP'} : ∀ {xs : List V} {us : List Value} {ds : List PyData}, RpAll K H P xs ds → Vals xs us → EachIs (fun (u : Value) (d : PyData) => ∃ v, RelV v u ∧ Rp K H P v d) us ds
  | _, _, _, .nil, .nil => .nil
  | _, _, _, .cons r t, .cons a b => .cons ⟨_, a, r⟩ (each_rp t b)
theorem rp_each {K : PySem.W.Frag} {H : Hp} {P : AP'} : ∀ {us : List Value} {ds : List PyData}, EachIs (fun (u : Value) (d : PyData) => ∃ v, RelV v u ∧ Rp K H P v d) us ds → ∃ ys, Vals ys us ∧ RpAll K H P ys ds
  | _, _, .nil => ⟨[], .nil, .nil⟩
  | _, _, .cons ⟨v, a, r⟩ t => let ⟨ys, h1, h2⟩ := rp_each t; ⟨v :: ys, .cons a h1, .cons r h2⟩
theorem bl_sorted (hu : X.A.units + 80 < cLine) : CallR X (.builtin "sorted") (rBl X.K bSorted) := by
  intro pins s σ H vs us Q I rv h
  obtain ⟨P, ds, r, hp, hd, hf, q⟩ := h
  unfold bSorted at hf
  split at hf
  · rename_i dd
    split at hf
    · rename_i hs
      cases hf
      obtain ⟨v, rfl, h1⟩ := rd1 hd
      obtain ⟨a, xs, rfl, ha, hr⟩ := h1.lst
      obtain ⟨its, rvs, pl, hz⟩ := I.list (SqL.of ha)
      obtain ⟨u, rfl, ru⟩ := vals1 rv
      cases ru
      have e1 := each_rp hr rvs
      have e2 : EachIs (fun (u : Value) (d : PyData) => ∃ as, Reads (sortingHeap (copyHeap s.heap its) (s.heap.objs.size + 1) its) u d as) its dd := e1.mono fun u d ⟨v, a, r⟩ => by
        have J : Inv X pins σ H { s with heap := sortingHeap (copyHeap s.heap its) (s.heap.objs.size + 1) its, toks := s.toks } := I.kept fun b o e => sorting_copy_old e
        exact (r.dp).reads J d v u a
      have S := sorts_ok (prog := X.prog) (w := X.w) (A := X.A.in1.in1) (s := { s with heap := sortingHeap (copyHeap s.heap its) (s.heap.objs.size + 1) its }) e2 hs (by show X.A.units + 1 + 1 + 64 < cLine; omega)
      have hal : AllAlike dd := by
        unfold sortB at hs
        rw [Bool.and_eq_true] at hs
        exact alikeB_ok hs.1
      have e3 := sortVals_each (κ := dataKind (sortingHeap (copyHeap s.heap its) (s.heap.objs.size + 1) its) dd) (rev := false) keyToks e1 ((each_mem e2).mono fun u d ⟨⟨as, r⟩, hm⟩ => dataKind_some hal hm r)
      have e4 : EachIs (fun (u : Value) (d : PyData) => ∃ v, RelV v u ∧ Rp X.K H P v d) (sortVals (dataKind (sortingHeap (copyHeap s.heap its) (s.heap.objs.size + 1) its) dd) false its its) (isort dd) := by
        rw [isort_eq]
        exact e3
      obtain ⟨ys, k1, k2⟩ := rp_each e4
      have hlen : ys.length ≤ sizeLine := by
        rw [k1.length, sortVals_length false rfl]
        rw [← rvs.length]
        exact hz
      refine sorted_vals pl.isList S (by rw [← rvs.length]; exact hz) ?_
      obtain ⟨nn, hat⟩ := sortedAll_at s.heap its (sortVals (dataKind (sortingHeap (copyHeap s.heap its) (s.heap.objs.size + 1) its) dd) false its its).toArray
      refine ⟨.ref (s.heap.objs.size + 1), upd H (s.heap.objs.size + 1) (.lst ys), I.laid (t' := s.toks) (fun b o e => sortedAll_old e) (Nat.le_succ _) ⟨hlen, _, nn, k1, hat⟩, rfl, put_lst hp k2 q _ (I.hok.fresh (Nat.le_succ _))⟩
    · cases hf
  · cases hf
end
end Ev
/-! EvLoop: list methods, what is walked, comprehensions over the combinators. -/
namespace Ev
open PySem PySem.Spec PyProof.Rows L2

section
variable {X : Cx} {a b c e : Expr} {es : List Expr} {ma mb mc : ME} {m : MA} {pos p p1 apos : Pos} {x : Str}
theorem RV.loc' {K : PySem.W.Frag} {H : Hp} {P : AP'} {ι : List Addr} {v : V} {n : Nat} (h : RV K H P ι v (.loc n)) : ∃ l, v = .ref l ∧ ι[n]? = some l := by
  cases h with
  | loc q => exact ⟨_, rfl, q⟩
theorem RV.dat' {K : PySem.W.Frag} {H : Hp} {P : AP'} {ι : List Addr} {v : V} {d : PyData} (h : RV K H P ι v (.dat d)) : Rp K H P v d := by
  cases h with
  | dat q => exact q
theorem RV.lty {K : PySem.W.Frag} {H : Hp} {P : AP'} {ι : List Addr} {st : Sto} {l : Addr} {n : Nat} (r : RS K H P ι st) (h : ι[n]? = some l) : tyV K "list" (.ref l) H := by
  obtain ⟨ds, xs, h1, h2, h3⟩ := r.at_ n l h
  exact .inl ⟨rfl, xs, SqL.of h2⟩
theorem xp_app (ho : PE X (.Name x p1) (rdE X.K ma)) (ha : PE X b (rdE X.K mb)) (hs : noStar b = true) (hline : (apos.endLine == pos.line) = true) :
    PE X (.Call (.Attribute (.Name x p1) "append" apos) [b] [] pos) (rdE X.K (eApp ma mb)) := by
  have hst := star_cons (es := []) (env := X.env) hs
  refine PE.mono (pe_bm PySem.F.plainAttrs_list PySem.F.slot_list_append PySem.F.type_list_append mt_append ho (pa_cons ha pa_nil hst) rfl (by rw [hst]; rfl) hline hst rfl) fun σ H Q ⟨ι, P, env, st, A, w, st', e, q⟩ => ?_
  obtain ⟨ov, s1, h1, e⟩ := bind_ok (noX_ok e)
  obtain ⟨v, s2, h2, e⟩ := bind_ok e
  split at e
  · split at e
    · rename_i ds hds
      obtain ⟨c, rfl, rfl⟩ := of_ifOk e
      refine rdE.bind A h1 fun u H1 x1 A1 r1 => ?_
      obtain ⟨l, rfl, hl⟩ := r1.loc'
      refine ⟨RV.lty A1.s hl, rdE.bind A1 h2 fun t H2 x2 A2 r2 => ?_⟩
      obtain ⟨ds', xs, g1, g2, g3⟩ := A2.s.at_ _ l hl
      rw [hds] at g1; cases g1
      obtain ⟨y1, y2⟩ := A2.s.upd hl hds (g3.append (.cons r2.dat' .nil))
      exact ⟨l, xs, t, rfl, rfl, g2, by rw [g3.length, ← line_eq]; exact Nat.le_of_ble_eq_true c, q _ _ ((x1.trans x2).trans y1) y2 (.dat .non)⟩
    · cases e
  · cases e
theorem xp_pop (ho : PE X (.Name x p1) (rdE X.K ma)) (hline : (apos.endLine == pos.line) = true) : PE X (.Call (.Attribute (.Name x p1) "pop" apos) [] [] pos) (rdE X.K (ePop ma)) := by
  refine PE.mono (pe_bm0 PySem.F.plainAttrs_list PySem.F.slot_list_pop PySem.F.type_list_pop mt_pop ho rfl hline) fun σ H Q ⟨ι, P, env, st, A, w, st', e, q⟩ => ?_
  obtain ⟨ov, s1, h1, e⟩ := bind_ok (noX_ok e)
  split at e
  · split at e
    · rename_i ds hds
      split at e
      · rename_i d hd
        cases e
        refine rdE.bind A h1 fun u H1 x1 A1 r1 => ?_
        obtain ⟨l, rfl, hl⟩ := r1.loc'
        obtain ⟨ds', xs, g1, g2, g3⟩ := A1.s.at_ _ l hl
        rw [hds] at g1; cases g1
        obtain ⟨v, hv, rv⟩ := g3.get hd
        obtain ⟨y1, y2⟩ := A1.s.upd hl hds g3.dropLast
        exact ⟨RV.lty A1.s hl, l, xs, v, rfl, rfl, g2, by rw [g3.length]; exact hv, q _ _ (x1.trans y1) y2 (.dat (rv.ext (A1.s.extP y1)))⟩
      · cases e
    · cases e
  · cases e
theorem ins_rp {K : PySem.W.Frag} {H : Hp} {P : AP'} {xs : List V} {ds : List PyData} {o : V} {d : PyData} (r : RpAll K H P xs ds) (q : Rp K H P o d) (k : Nat) : RpAll K H P (xs.take k ++ [o] ++ xs.drop k) (insL ds k d) := by
  unfold insL
  rw [List.append_assoc]
  exact (r.take _).append (.cons q (r.drop _))
theorem xp_ins (ho : PE X (.Name x p1) (rdE X.K ma)) (hb : PE X b (rdE X.K mb)) (hc : PE X c (rdE X.K mc)) (hs : noStar b = true) (hs2 : noStar c = true) (hline : (apos.endLine == pos.line) = true) :
    PE X (.Call (.Attribute (.Name x p1) "insert" apos) [b, c] [] pos) (rdE X.K (eIns ma mb mc)) := by
  have hst2 := star_cons (es := []) (env := X.env) hs2
  have hst := star_cons (es := [c]) (env := X.env) hs
  refine PE.mono (pe_bm PySem.F.plainAttrs_list PySem.F.slot_list_insert PySem.F.type_list_insert mt_insert ho (pa_cons hb (pa_cons hc pa_nil hst2) hst) rfl (by rw [hst, hst2]; rfl) hline hst (by rw [hst2]; rfl)) fun σ H Q ⟨ι, P, env, st, A, w, st', e, q⟩ => ?_
  obtain ⟨ov, s1, h1, e⟩ := bind_ok (noX_ok e)
  obtain ⟨iv, s2, h2, e⟩ := bind_ok e
  obtain ⟨v, s3, h3, e⟩ := bind_ok e
  split at e
  · split at e
    · rename_i ds hds
      obtain ⟨c, rfl, rfl⟩ := of_ifOk e
      simp only [Bool.and_eq_true, decide_eq_true_eq] at c
      obtain ⟨⟨c1, c2⟩, c3⟩ := c
      have c3 := Nat.le_of_ble_eq_true c3
      refine rdE.bind A h1 fun u H1 x1 A1 r1 => ?_
      obtain ⟨l, rfl, hl⟩ := r1.loc'
      refine ⟨RV.lty A1.s hl, rdE.bind A1 h2 fun t H2 x2 A2 r2 => rdE.bind A2 h3 fun o H3 x3 A3 r3 => ?_⟩
      obtain ⟨ds', xs, g1, g2, g3⟩ := A3.s.at_ _ l hl
      rw [hds] at g1; cases g1
      cases r2.dat'
      obtain ⟨y1, y2⟩ := A3.s.upd hl hds (ins_rp g3 r3.dat' _)
      have hll : line = 16777216 := rfl
      exact ⟨l, xs, _, o, rfl, rfl, g2, by rw [g3.length, ← line_eq]; exact c3, c1, by omega, q _ _ (((x1.trans x2).trans x3).trans y1) y2 (.dat .non)⟩
    · cases e
  · cases e
end

/-! ### what is walked -/
/-- the turns of J yield the data xs, as they lay at H -/
def Walks (K : PySem.W.Frag) (P : AP') (J : It) (xs : List PyData) (H : Hp) : Prop :=
  ∀ (P' : AP') (H' : Hp), (∀ a, P' a → P a ∨ H a = none) → ExtP P' H H' → ∀ i : Nat, (i < xs.length → J.go i H') ∧ (xs.length ≤ i → J.stop i H') ∧
    ∀ d x H'', xs[i]? = some d → J.yld i H' x H'' → Same H' H'' ∧ Rp K H'' P' x d
/-- the item at a turn; none: the end -/
def nxt : Src → Nat → Sto → Option (Option PyData)
  | .its xs, i, _ => some xs[i]?
  | .at_ n, i, s => match s[n]? with
    | some (.lst xs) => some xs[i]?
    | none => none
def WalkG (K : PySem.W.Frag) (P : AP') (ι : List Addr) (J : It) (src : Src) (H : Hp) : Prop :=
  ∀ (P' : AP') (ι' : List Addr) (st' : Sto) (H' : Hp), ι <+: ι' → (∀ a, P' a → P a ∨ H a = none) → ExtP P' H H' → RS K H' P' ι' st' → ∀ i : Nat,
    (nxt src i st' = some none → J.stop i H') ∧ ∀ d, nxt src i st' = some (some d) → J.go i H' ∧ ∀ x H'', J.yld i H' x H'' → Same H' H'' ∧ Rp K H'' P' x d
def rdI (K : PySem.W.Frag) (m : MI) : TI := fun σ H R => ∃ ι P env st, At K H P ι σ env st ∧ ∃ src st', m env st = .ok src st' ∧
  ∀ J H', Ext ι H H' → RS K H' P ι st' → WalkG K P ι J src H' → R J H'
theorem Walks.g {K : PySem.W.Frag} {P : AP'} {ι : List Addr} {J : It} {xs : List PyData} {H : Hp} (w : Walks K P J xs H) : WalkG K P ι J (.its xs) H := by
  intro P' ι' st' H' _ hP hx _ i
  obtain ⟨w1, w2, w3⟩ := w P' H' hP hx i
  refine ⟨fun e => w2 ?_, fun d e => ⟨w1 ?_, fun x H'' => w3 d x H'' (Option.some.inj e)⟩⟩
  · exact List.getElem?_eq_none_iff.mp (Option.some.inj e)
  · exact (List.getElem?_eq_some_iff.mp (Option.some.inj e)).1
theorem walk_at {K : PySem.W.Frag} {P : AP'} {ι : List Addr} {n : Nat} {a : Addr} {H : Hp} (h : ι[n]? = some a) : WalkG K P ι (Itl K a) (.at_ n) H := by
  intro P' ι' st' H' hι hP hx r i
  have h' : ι'[n]? = some a := by
    obtain ⟨t, rfl⟩ := hι
    rw [List.getElem?_append_left (List.getElem?_eq_some_iff.mp h).1]; exact h
  obtain ⟨ds, xs, g1, g2, g3⟩ := r.at_ n a h'
  simp only [nxt, g1]
  refine ⟨fun e => ⟨xs, SqL.of g2, ?_⟩, fun d e => ?_⟩
  · rw [g3.length]; exact List.getElem?_eq_none_iff.mp (Option.some.inj e)
  · obtain ⟨v, hv, rv⟩ := g3.get (Option.some.inj e)
    refine ⟨⟨xs, v, SqL.of g2, hv⟩, fun x H'' ⟨e1, e2⟩ => ?_⟩
    subst e1
    cases (e2 xs (SqL.of g2)).symm.trans hv
    exact ⟨Same.refl _, rv⟩
section
variable {K : PySem.W.Frag} {H : Hp} {P : AP'}
theorem walk_list {a : Addr} {xs : List V} {ds : List PyData} (h : H a = some (.lst xs)) (n : ¬ P a) (r : RpAll K H P xs ds) : Walks K P (Itl K a) ds H := by
  intro P' H' hP hx i
  have r' : RpAll K H' P' xs ds := (r.toP hP _ _).ext hx _ _
  have n' : ¬ P' a := fun z => (hP a z).elim n fun y => by rw [h] at y; cases y
  have h' : H' a = some (.lst xs) := hx.get h (.inl n') fun _ z => nomatch z
  refine ⟨fun hi => ?_, fun hi => ⟨xs, SqL.of h', by rw [r.length]; exact hi⟩, fun d x H'' hd hy => ?_⟩
  · obtain ⟨v, hv, _⟩ := r'.get (List.getElem?_eq_getElem hi)
    exact ⟨xs, v, SqL.of h', hv⟩
  · obtain ⟨rfl, hy⟩ := hy
    obtain ⟨v, hv, rv⟩ := r'.get hd
    have e := (hy xs (SqL.of h')).symm.trans hv
    cases e
    exact ⟨Same.refl _, rv⟩
theorem walk_tup {a : Addr} {xs : List V} {ds : List PyData} (h : SqT K H a xs) (r : RpAll K H P xs ds) : Walks K P (Itt K a) ds H := by
  intro P' H' hP hx i
  have r' : RpAll K H' P' xs ds := (r.toP hP _ _).ext hx _ _
  have h' : SqT K H' a xs := SqT.ext hx h
  refine ⟨fun hi => ?_, fun hi => ⟨xs, h', by rw [r.length]; exact hi⟩, fun d x H'' hd hy => ?_⟩
  · obtain ⟨v, hv, _⟩ := r'.get (List.getElem?_eq_getElem hi)
    exact ⟨xs, v, h', hv⟩
  · obtain ⟨rfl, hy⟩ := hy
    obtain ⟨v, hv, rv⟩ := r'.get hd
    have e := (hy xs h').symm.trans hv
    cases e
    exact ⟨Same.refl _, rv⟩
theorem upFrom_length : ∀ (n : Nat) (lo : Int), (upFrom lo n).length = n
  | 0, _ => rfl
  | n + 1, lo => by unfold upFrom; rw [List.length_cons, upFrom_length n]
theorem upFrom_get : ∀ (n : Nat) (lo : Int) (i : Nat) (d : PyData), (upFrom lo n)[i]? = some d → d = .int (lo + i)
  | 0, _, _, _, h => by simp [upFrom] at h
  | n + 1, lo, 0, d, h => by
    simp [upFrom] at h
    rw [← h]; simp
  | n + 1, lo, i + 1, d, h => by
    have h2 : (upFrom (lo + 1) n)[i]? = some d := by simpa [upFrom] using h
    rw [upFrom_get n (lo + 1) i d h2]
    congr 1
    omega
theorem walk_range {lo : Int} {n : Nat} : Walks K P (Itr lo n) (upFrom lo n) H := by
  intro P' H' hP hx i
  rw [upFrom_length]
  refine ⟨fun hi => hi, fun hi => hi, fun d x H'' hd hy => ?_⟩
  obtain ⟨rfl, rfl⟩ := hy
  rw [upFrom_get _ _ _ _ hd]
  exact ⟨Same.refl _, .int _⟩
theorem zips_get : ∀ {xs ys : List PyData} {i : Nat} {d : PyData}, (zips xs ys)[i]? = some d → ∃ x y, xs[i]? = some x ∧ ys[i]? = some y ∧ d = .tuple [x, y]
  | [], _, _, _, h => by simp [zips] at h
  | _ :: _, [], _, _, h => by simp [zips] at h
  | x :: xs, y :: ys, 0, d, h => by
    simp [zips] at h
    exact ⟨x, y, rfl, rfl, h.symm⟩
  | x :: xs, y :: ys, i + 1, d, h => by
    have h2 : (zips xs ys)[i]? = some d := by simpa [zips] using h
    obtain ⟨u, v, h3, h4, h5⟩ := zips_get h2
    exact ⟨u, v, by simpa using h3, by simpa using h4, h5⟩
theorem zips_length : ∀ {xs ys : List PyData}, (zips xs ys).length = min xs.length ys.length
  | [], _ => by simp [zips]
  | _ :: _, [] => by simp [zips]
  | x :: xs, y :: ys => by
    have := @zips_length xs ys
    simp only [zips, List.length_cons]
    omega
theorem walk_zipL {a b : Addr} {xs ys : List V} {ds es : List PyData} (h : H a = some (.lst xs)) (n : ¬ P a) (r : RpAll K H P xs ds) (h2 : H b = some (.lst ys)) (n2 : ¬ P b) (r2 : RpAll K H P ys es) : Walks K P (Itz K a b) (zips ds es) H := by
  intro P' H' hP hx i
  have q1 : RpAll K H' P' xs ds := (r.toP hP _ _).ext hx _ _
  have q2 : RpAll K H' P' ys es := (r2.toP hP _ _).ext hx _ _
  have n' : ¬ P' a := fun z => (hP a z).elim n fun y => by rw [h] at y; cases y
  have n2' : ¬ P' b := fun z => (hP b z).elim n2 fun y => by rw [h2] at y; cases y
  have h' : H' a = some (.lst xs) := hx.get h (.inl n') fun _ z => nomatch z
  have h2' : H' b = some (.lst ys) := hx.get h2 (.inl n2') fun _ z => nomatch z
  rw [zips_length]
  refine ⟨fun hi => ?_, fun hi => ⟨xs, ys, SqL.of h', SqL.of h2', by rw [r.length, r2.length]; omega⟩, fun d x H'' hd hy => ?_⟩
  · obtain ⟨v, hv, _⟩ := q1.get (List.getElem?_eq_getElem (show i < ds.length by omega))
    obtain ⟨u, hu, _⟩ := q2.get (List.getElem?_eq_getElem (show i < es.length by omega))
    exact ⟨xs, ys, v, u, SqL.of h', SqL.of h2', hv, hu⟩
  · obtain ⟨T, v, u, rfl, hT, rfl, f1, f2⟩ := hy
    obtain ⟨d1, d2, e1, e2, rfl⟩ := zips_get hd
    obtain ⟨v', hv, rv⟩ := q1.get e1
    obtain ⟨u', hu, ru⟩ := q2.get e2
    cases (f1 xs (SqL.of h')).symm.trans hv
    cases (f2 ys (SqL.of h2')).symm.trans hu
    have sm := same_upd (o := .tup [v, u]) hT
    exact ⟨sm, .tup (SqT.of upd_same) (.cons (rv.ext (.same sm)) (.cons (ru.ext (.same sm)) .nil))⟩
theorem walk_zipT {a b : Addr} {xs ys : List V} {ds es : List PyData} (h : SqT K H a xs) (r : RpAll K H P xs ds) (h2 : SqT K H b ys) (r2 : RpAll K H P ys es) : Walks K P (RZ.ItzT K a b) (zips ds es) H := by
  intro P' H' hP hx i
  have q1 : RpAll K H' P' xs ds := (r.toP hP _ _).ext hx _ _
  have q2 : RpAll K H' P' ys es := (r2.toP hP _ _).ext hx _ _
  have h' : SqT K H' a xs := SqT.ext hx h
  have h2' : SqT K H' b ys := SqT.ext hx h2
  rw [zips_length]
  refine ⟨fun hi => ?_, fun hi => ⟨xs, ys, h', h2', by rw [r.length, r2.length]; omega⟩, fun d x H'' hd hy => ?_⟩
  · obtain ⟨v, hv, _⟩ := q1.get (List.getElem?_eq_getElem (show i < ds.length by omega))
    obtain ⟨u, hu, _⟩ := q2.get (List.getElem?_eq_getElem (show i < es.length by omega))
    exact ⟨xs, ys, v, u, h', h2', hv, hu⟩
  · obtain ⟨T, v, u, rfl, hT, rfl, f1, f2⟩ := hy
    obtain ⟨d1, d2, e1, e2, rfl⟩ := zips_get hd
    obtain ⟨v', hv, rv⟩ := q1.get e1
    obtain ⟨u', hu, ru⟩ := q2.get e2
    cases (f1 xs h').symm.trans hv
    cases (f2 ys h2').symm.trans hu
    have sm := same_upd (o := .tup [v, u]) hT
    exact ⟨sm, .tup (SqT.of upd_same) (.cons (rv.ext (.same sm)) (.cons (ru.ext (.same sm)) .nil))⟩
theorem enums_get : ∀ {xs : List PyData} {k : Int} {i : Nat} {d : PyData}, (enums k xs)[i]? = some d → ∃ x, xs[i]? = some x ∧ d = .tuple [.int (k + i), x]
  | [], _, _, _, h => by simp [enums] at h
  | x :: xs, k, 0, d, h => by
    simp [enums] at h
    exact ⟨x, rfl, by rw [← h]; simp⟩
  | x :: xs, k, i + 1, d, h => by
    have h2 : (enums (k + 1) xs)[i]? = some d := by simpa [enums] using h
    obtain ⟨u, h3, h5⟩ := enums_get h2
    refine ⟨u, by simpa using h3, ?_⟩
    rw [h5]
    have e : k + 1 + (i : Int) = k + ((i + 1 : Nat) : Int) := by omega
    rw [e]
theorem enums_length : ∀ {xs : List PyData} {k : Int}, (enums k xs).length = xs.length
  | [], _ => rfl
  | x :: xs, k => by unfold enums; rw [List.length_cons, enums_length, List.length_cons]
theorem walk_enum {a : Addr} {xs : List V} {ds : List PyData} (h : H a = some (.lst xs)) (n : ¬ P a) (r : RpAll K H P xs ds) : Walks K P (Ite K a) (enums 0 ds) H := by
  intro P' H' hP hx i
  have r' : RpAll K H' P' xs ds := (r.toP hP _ _).ext hx _ _
  have n' : ¬ P' a := fun z => (hP a z).elim n fun y => by rw [h] at y; cases y
  have h' : H' a = some (.lst xs) := hx.get h (.inl n') fun _ z => nomatch z
  rw [enums_length]
  refine ⟨fun hi => ?_, fun hi => ⟨xs, SqL.of h', by rw [r.length]; exact hi⟩, fun d x H'' hd hy => ?_⟩
  · obtain ⟨v, hv, _⟩ := r'.get (List.getElem?_eq_getElem hi)
    exact ⟨xs, v, SqL.of h', hv⟩
  · obtain ⟨T, v, rfl, hT, rfl, f1⟩ := hy
    obtain ⟨d1, e1, rfl⟩ := enums_get hd
    obtain ⟨v', hv, rv⟩ := r'.get e1
    cases (f1 xs (SqL.of h')).symm.trans hv
    have sm := same_upd (o := .tup [.int (i : Nat), v]) hT
    have e0 : (0 : Int) + (i : Nat) = ((i : Nat) : Int) := by omega
    rw [e0]
    exact ⟨sm, .tup (SqT.of upd_same) (.cons (.int _) (.cons (rv.ext (.same sm)) .nil))⟩
theorem walk_enT {a : Addr} {xs : List V} {ds : List PyData} (h : SqT K H a xs) (r : RpAll K H P xs ds) : Walks K P (IteT K a) (enums 0 ds) H := by
  intro P' H' hP hx i
  have r' : RpAll K H' P' xs ds := (r.toP hP _ _).ext hx _ _
  have h' : SqT K H' a xs := SqT.ext hx h
  rw [enums_length]
  refine ⟨fun hi => ?_, fun hi => ⟨xs, h', by rw [r.length]; exact hi⟩, fun d x H'' hd hy => ?_⟩
  · obtain ⟨v, hv, _⟩ := r'.get (List.getElem?_eq_getElem hi)
    exact ⟨xs, v, h', hv⟩
  · obtain ⟨T, v, rfl, hT, rfl, f1⟩ := hy
    obtain ⟨d1, e1, rfl⟩ := enums_get hd
    obtain ⟨v', hv, rv⟩ := r'.get e1
    cases (f1 xs h').symm.trans hv
    have sm := same_upd (o := .tup [.int (i : Nat), v]) hT
    have e0 : (0 : Int) + (i : Nat) = ((i : Nat) : Int) := by omega
    rw [e0]
    exact ⟨sm, .tup (SqT.of upd_same) (.cons (.int _) (.cons (rv.ext (.same sm)) .nil))⟩
theorem walk_enZ {a b : Addr} {xs ys : List V} {ds es : List PyData} (h : SqT K H a xs) (r : RpAll K H P xs ds) (h2 : SqT K H b ys) (r2 : RpAll K H P ys es) : Walks K P (IteZ K a b) (enums 0 (zips ds es)) H := by
  intro P' H' hP hx i
  have q1 : RpAll K H' P' xs ds := (r.toP hP _ _).ext hx _ _
  have q2 : RpAll K H' P' ys es := (r2.toP hP _ _).ext hx _ _
  have h' : SqT K H' a xs := SqT.ext hx h
  have h2' : SqT K H' b ys := SqT.ext hx h2
  rw [enums_length, zips_length]
  refine ⟨fun hi => ?_, fun hi => ⟨xs, ys, h', h2', by rw [r.length, r2.length]; omega⟩, fun d x H'' hd hy => ?_⟩
  · obtain ⟨v, hv, _⟩ := q1.get (List.getElem?_eq_getElem (show i < ds.length by omega))
    obtain ⟨u, hu, _⟩ := q2.get (List.getElem?_eq_getElem (show i < es.length by omega))
    exact ⟨xs, ys, v, u, h', h2', hv, hu⟩
  · obtain ⟨T, U, v, u, rfl, hT, hU, hTU, rfl, f1, f2⟩ := hy
    obtain ⟨d1, e1, rfl⟩ := enums_get hd
    obtain ⟨d2, d3, e2, e3, rfl⟩ := zips_get e1
    obtain ⟨v', hv, rv⟩ := q1.get e2
    obtain ⟨u', hu, ru⟩ := q2.get e3
    cases (f1 xs h').symm.trans hv
    cases (f2 ys h2').symm.trans hu
    have sm1 := same_upd (o := .tup [v, u]) hT
    have hU' : upd H' T (.tup [v, u]) U = none := by rw [upd_ne hTU.symm]; exact hU
    have sm2 := same_upd (o := .tup [.int (i : Nat), .ref T]) hU'
    have e0 : (0 : Int) + (i : Nat) = ((i : Nat) : Int) := by omega
    rw [e0]
    have t1 : Rp K (upd H' T (.tup [v, u])) P' (.ref T) (.tuple [d2, d3]) := .tup (SqT.of upd_same) (.cons (rv.ext (.same sm1)) (.cons (ru.ext (.same sm1)) .nil))
    exact ⟨sm1.trans sm2, .tup (SqT.of upd_same) (.cons (.int _) (.cons (t1.ext (.same sm2)) .nil))⟩
end
/-- a list or a tuple -/
def iSq (K : PySem.W.Frag) (tl : TE) : TI := fun σ H R => tl σ H fun x H1 => ∃ a, x = .ref a ∧ (((∃ xs, SqL K H1 a xs) ∧ R (Itl K a) H1) ∨ ((∃ xs, SqT K H1 a xs) ∧ R (Itt K a) H1))
section
variable {X : Cx} {tg a b c e : Expr} {es : List Expr} {ma mb mc : ME} {m : MA} {pos p p1 apos tpos : Pos} {x : Str} {elts : List Expr} {kk : Nat}
theorem pi_sq {l : Expr} {tl : TE} (hl : PE X l tl) : PI X tg l (iSq X.K tl) := by
  refine ⟨fun pins s σ H R I h => thn (hl.run pins s σ H _ I h) fun v s1 ⟨x, H1, I1, r1, q1⟩ => ?_⟩
  obtain ⟨b, rfl, q1⟩ := q1
  cases r1
  have frs : ∀ y ∈ [s1.heap.objs.size], FpOk X pins H1 y := fun y hy => by
    rw [List.mem_singleton.mp hy]
    exact I1.fpOk (Nat.le_refl _) (I1.hok.fresh (Nat.le_refl _))
  rcases q1 with ⟨⟨xs, hq⟩, q⟩ | ⟨⟨xs, hq⟩, q⟩
  · obtain ⟨its, rv, pl, _⟩ := I1.list hq
    exact wpAny_pyIter_list pl.isList ⟨s1.heap.objs.size, [s1.heap.objs.size], _, _, H1, rfl, I1.kept (t' := s1.toks) (fun _ _ z => Heap.get?_push_of_some _ z), turn_list b _, ⟨_, Heap.get?_push_size _ rfl, rfl, rfl⟩, frs, q⟩
  · obtain ⟨its, rv, pl, _⟩ := I1.tuple hq
    exact wpAny_pyIter_tuple (show s1.heap.IsTuple b its.toArray from pl) ⟨s1.heap.objs.size, [s1.heap.objs.size], _, _, H1, rfl, I1.kept (t' := s1.toks) (fun _ _ z => Heap.get?_push_of_some _ z), turn_tuple b _, ⟨_, Heap.get?_push_size _ rfl, rfl, rfl⟩, frs, q⟩
theorem xi_seq (ha : PE X a (rdE X.K ma)) : PI X tg a (rdI X.K (iSeq ma)) :=
  PI.mono (pi_sq ha) fun σ H R ⟨ι, P, env, st, A, src, st', e, q⟩ => by
    obtain ⟨v, s1, h1, e⟩ := bind_ok e
    refine rdE.bind A h1 fun u H1 x1 A1 r1 => ?_
    split at e
    · cases e
      cases r1.dat' with
      | lst g1 g2 g3 => exact ⟨_, rfl, .inl ⟨⟨_, SqL.of g1⟩, q _ _ x1 A1.s (walk_list g1 g2 g3).g⟩⟩
    · cases e
      cases r1.dat' with
      | tup g1 g3 => exact ⟨_, rfl, .inr ⟨⟨_, g1⟩, q _ _ x1 A1.s (walk_tup g1 g3).g⟩⟩
    · cases e
      obtain ⟨l, rfl, hl⟩ := r1.loc'
      obtain ⟨ds, xs, h1, h2, h3⟩ := A1.s.at_ _ l hl
      exact ⟨l, rfl, .inl ⟨⟨xs, SqL.of h2⟩, q _ _ x1 A1.s (walk_at hl)⟩⟩
    · cases e
theorem xi_rng1 (hg : Gl X "range") (hm : X.mg "range" = none) (ha : PE X a (rdE X.K ma)) (hs : noStar a = true) : PI X tg (.Call (.Name "range" p) [a] [] pos) (rdI X.K (iRng1 ma)) :=
  PI.mono (pi_range1 hg hm (pa_cons ha pa_nil (star_cons hs)) (star_cons hs)) fun σ H R ⟨ι, P, env, st, A, src, st', e, q⟩ => by
    obtain ⟨v, s1, h1, e⟩ := bind_ok e
    refine rdE.bind A h1 fun u H1 x1 A1 r1 => ?_
    split at e
    · obtain ⟨c, rfl, rfl⟩ := of_ifOk e
      simp only [Bool.and_eq_true, decide_eq_true_eq] at c
      cases r1.dat'
      exact ⟨_, rfl, by omega, by omega, q _ _ x1 A1.s (Walks.g walk_range)⟩
    · cases e
theorem xi_rng2 (hg : Gl X "range") (hm : X.mg "range" = none) (ha : PE X a (rdE X.K ma)) (hb : PE X b (rdE X.K mb)) (hs : noStar a = true) (hs2 : noStar b = true) : PI X tg (.Call (.Name "range" p) [a, b] [] pos) (rdI X.K (iRng2 ma mb)) := by
  have t2 := star_cons (es := []) (env := X.env) hs2
  have t1 := star_cons (es := [b]) (env := X.env) hs
  refine PI.mono (pi_range2 hg hm (pa_cons ha (pa_cons hb pa_nil t2) t1) (by rw [t1, t2]; rfl) t2) fun σ H R ⟨ι, P, env, st, A, src, st', e, q⟩ => ?_
  obtain ⟨v, s1, h1, e⟩ := bind_ok e
  obtain ⟨w, s2, h2, e⟩ := bind_ok e
  refine rdE.bind A h1 fun u H1 x1 A1 r1 => rdE.bind A1 h2 fun t H2 x2 A2 r2 => ?_
  split at e
  · obtain ⟨c, rfl, rfl⟩ := of_ifOk e
    simp only [Bool.and_eq_true, decide_eq_true_eq] at c
    cases r1.dat'
    cases r2.dat'
    exact ⟨_, _, rfl, ⟨by omega, by omega, by omega, by omega⟩, q _ _ (x1.trans x2) A2.s (Walks.g walk_range)⟩
  · cases e
theorem xi_zip (hg : Gl X "zip") (hm : X.mg "zip" = none) (ha : PE X a (rdE X.K ma)) (hb : PE X b (rdE X.K mb)) (hs : noStar a = true) (hs2 : noStar b = true) : PI X (.Tuple elts kk tpos) (.Call (.Name "zip" p) [a, b] [] pos) (rdI X.K (iZip ma mb)) := by
  have t2 := star_cons (es := []) (env := X.env) hs2
  have t1 := star_cons (es := [b]) (env := X.env) hs
  refine PI.mono (RZ.pi_zipA hg hm (pa_cons ha (pa_cons hb pa_nil t2) t1) t1 (by rw [t2]; rfl)) fun σ H R ⟨ι, P, env, st, A, src, st', e, q⟩ => ?_
  obtain ⟨v, s1, h1, e⟩ := bind_ok e
  obtain ⟨w, s2, h2, e⟩ := bind_ok e
  refine rdE.bind A h1 fun u H1 x1 A1 r1 => rdE.bind A1 h2 fun t H2 x2 A2 r2 => ?_
  have r1 := r1.ext (A1.s.extP x2)
  split at e
  · cases e
    cases r1.dat' with
    | lst g1 g2 g3 =>
      cases r2.dat' with
      | lst k1 k2 k3 => exact ⟨_, _, _, _, rfl, .inl ⟨SqL.of g1, SqL.of k1, q _ _ (x1.trans x2) A2.s (walk_zipL g1 g2 g3 k1 k2 k3).g⟩⟩
  · cases e
    cases r1.dat' with
    | tup g1 g3 =>
      cases r2.dat' with
      | tup k1 k3 => exact ⟨_, _, _, _, rfl, .inr ⟨g1, k1, q _ _ (x1.trans x2) A2.s (walk_zipT g1 g3 k1 k3).g⟩⟩
  · cases e
theorem xi_enz (hge : Gl X "enumerate") (hme : X.mg "enumerate" = none) (hg : Gl X "zip") (hm : X.mg "zip" = none) (ha : PE X a (rdE X.K ma)) (hb : PE X b (rdE X.K mb)) (hs : noStar a = true) (hs2 : noStar b = true) :
    PI X (.Tuple elts kk tpos) (.Call (.Name "enumerate" p) [.Call (.Name "zip" p1) [a, b] [] apos] [] pos) (rdI X.K (iEnZ ma mb)) := by
  have t2 := star_cons (es := []) (env := X.env) hs2
  have t1 := star_cons (es := [b]) (env := X.env) hs
  refine PI.mono (pi_enz hge hme hg hm (pa_cons ha (pa_cons hb pa_nil t2) t1) t1 (by rw [t2]; rfl)) fun σ H R ⟨ι, P, env, st, A, src, st', e, q⟩ => ?_
  obtain ⟨v, s1, h1, e⟩ := bind_ok e
  obtain ⟨w, s2, h2, e⟩ := bind_ok e
  refine rdE.bind A h1 fun u H1 x1 A1 r1 => rdE.bind A1 h2 fun t H2 x2 A2 r2 => ?_
  have r1 := r1.ext (A1.s.extP x2)
  split at e
  · cases e
    cases r1.dat' with
    | tup g1 g3 =>
      cases r2.dat' with
      | tup k1 k3 => exact ⟨_, _, _, _, rfl, g1, k1, q _ _ (x1.trans x2) A2.s (walk_enZ g1 g3 k1 k3).g⟩
  · cases e
theorem xi_enum (hg : Gl X "enumerate") (hm : X.mg "enumerate" = none) (ha : PE X a (rdE X.K ma)) (hs : noStar a = true) : PI X (.Tuple elts kk tpos) (.Call (.Name "enumerate" p) [a] [] pos) (rdI X.K (iEnum ma)) :=
  PI.mono (pi_en hg hm (pa_cons ha pa_nil (star_cons hs)) (star_cons hs)) fun σ H R ⟨ι, P, env, st, A, src, st', e, q⟩ => by
    obtain ⟨v, s1, h1, e⟩ := bind_ok e
    refine rdE.bind A h1 fun u H1 x1 A1 r1 => ?_
    split at e
    · cases e
      cases r1.dat' with
      | lst g1 g2 g3 => exact ⟨_, _, rfl, .inl ⟨SqL.of g1, q _ _ x1 A1.s (walk_enum g1 g2 g3).g⟩⟩
    · cases e
      cases r1.dat' with
      | tup g1 g3 => exact ⟨_, _, rfl, .inr ⟨g1, q _ _ x1 A1.s (walk_enT g1 g3).g⟩⟩
    · cases e
end

/-! ### targets -/
mutual
def TG.slots : TG → List Nat
  | .nm i => [i]
  | .tup ts => TG.slotsL ts
def TG.slotsL : List TG → List Nat
  | [] => []
  | t :: ts => t.slots ++ TG.slotsL ts
end
/-- but the slots of is -/
def But (is : List Nat) (σ σ' : L2.St) : Prop := σ'.length = σ.length ∧ ∀ i, i ∉ is → σ'[i]? = σ[i]?
theorem But.refl (is : List Nat) (σ : L2.St) : But is σ σ := ⟨rfl, fun _ _ => rfl⟩
theorem But.trans {is js : List Nat} {σ σ1 σ2 : L2.St} (a : But is σ σ1) (b : But js σ1 σ2) : But (is ++ js) σ σ2 :=
  ⟨b.1.trans a.1, fun i h => (b.2 i fun z => h (List.mem_append_right _ z)).trans (a.2 i fun z => h (List.mem_append_left _ z))⟩
def rdG (K : PySem.W.Frag) (t : TG) : L2.TG := fun v σ H Q => ∃ ι P env st d env', At K H P ι σ env st ∧ Rp K H P v d ∧ t.put d env = some env' ∧ ∀ σ', RE K H P ι σ' env' → But t.slots σ σ' → Q σ' H
def rdGs (K : PySem.W.Frag) (ts : List TG) : L2.TGs := fun vs σ H Q => ∃ ι P env st ds env', At K H P ι σ env st ∧ RpAll K H P vs ds ∧ TG.puts ts ds env = some env' ∧ ∀ σ', RE K H P ι σ' env' → But (TG.slotsL ts) σ σ' → Q σ' H
theorem PGs.mono {X : Cx} {e : List Expr} {t t' : L2.TGs} (h : PGs X e t) (q : ∀ v σ H Q, t' v σ H Q → t v σ H Q) : PGs X e t' := ⟨fun pins s σ H v u Q I r w => h.run pins s σ H v u Q I r (q _ _ _ _ w)⟩
section
variable {X : Cx} {e : Expr} {es : List Expr} {t : TG} {ts : List TG} {pos : Pos}
theorem xg_nm {i : Nat} {x : Str} (h : PG X (.Name x pos) (gName i)) : PG X (.Name x pos) (rdG X.K (.nm i)) :=
  PG.mono h fun v σ H Q ⟨ι, P, env, st, d, env', A, r, e, q⟩ => by
    unfold TG.put at e
    cases e
    refine q _ (A.e.set i (.dat r)) ⟨List.length_set, fun j hj => ?_⟩
    unfold TG.slots at hj
    rw [List.getElem?_set_ne (fun z => hj (by rw [z]; exact List.mem_singleton_self _))]
theorem xgs_nil : PGs X [] (rdGs X.K []) :=
  PGs.mono pgs_nil fun v σ H Q ⟨ι, P, env, st, ds, env', A, r, e, q⟩ => by
    cases r with
    | nil =>
      unfold TG.puts at e
      cases e
      exact ⟨rfl, q _ A.e (But.refl _ _)⟩
    | cons _ _ =>
      unfold TG.puts at e
      cases e
theorem each_cons {env : PySem.Env} (h : noStar e = true) : (assignEach (e :: es) env).map (·.2) = assign e env :: (assignEach es env).map (·.2) := by
  cases e <;> first | rfl | cases h
theorem each_len {env : PySem.Env} : ∀ {es : List Expr}, (assignEach es env).length = es.length
  | [] => rfl
  | e :: es => by
    have ih := @each_len env es
    cases e <;> (show (assignEach es env).length + 1 = es.length + 1; rw [ih])
theorem each_star {env : PySem.Env} : ∀ {es : List Expr}, es.all noStar = true → (assignEach es env).findIdx? (·.1) = none
  | [], _ => rfl
  | e :: es, h => by
    rw [List.all_cons, Bool.and_eq_true] at h
    have ih := @each_star env es h.2
    have key : assignEach (e :: es) env = (false, assign e env) :: assignEach es env := by
      have h1 := h.1
      cases e <;> first | rfl | cases h1
    rw [key, List.findIdx?_cons, ih]
    rfl
theorem xgs_cons (h1 : PG X e (rdG X.K t)) (h2 : PGs X es (rdGs X.K ts)) (hs : noStar e = true) : PGs X (e :: es) (rdGs X.K (t :: ts)) :=
  PGs.mono (pgs_cons h1 h2 (each_cons hs)) fun v σ H Q ⟨ι, P, env, st, ds, env', A, r, e, q⟩ => by
    cases r with
    | nil =>
      unfold TG.puts at e
      cases e
    | cons r1 r2 =>
      unfold TG.puts at e
      split at e
      · rename_i env1 he1
        refine ⟨_, _, rfl, ι, P, env, st, _, env1, A, r1, he1, fun σ1 R1 B1 => ?_⟩
        refine ⟨ι, P, env1, st, _, env', ⟨R1, A.s⟩, r2, e, fun σ2 R2 B2 => q σ2 R2 ?_⟩
        unfold TG.slotsL
        exact B1.trans B2
      · cases e
theorem puts_len : ∀ {ts : List TG} {ds : List PyData} {env env' : Env}, TG.puts ts ds env = some env' → ts.length = ds.length
  | [], [], _, _, _ => rfl
  | [], _ :: _, _, _, e => by unfold TG.puts at e; cases e
  | _ :: _, [], _, _, e => by unfold TG.puts at e; cases e
  | t :: ts, d :: ds, env, env', e => by
    unfold TG.puts at e
    split at e
    · rw [List.length_cons, List.length_cons, puts_len e]
    · cases e
theorem xg_tup {k : Nat} (hc : X.calm = true) (h : PGs X es (rdGs X.K ts)) (hl : es.length = ts.length) (hs : es.all noStar = true) : PG X (.Tuple es k pos) (rdG X.K (.tup ts)) := by
  have t1 : PG X (.Tuple es k pos) _ := pg_tup (n := es.length) hc h each_len (each_star hs)
  have t2 : PG X (.Tuple es k pos) _ := pg_lst (n := es.length) hc h each_len (each_star hs)
  refine ⟨fun pins s σ H v u Q I r ⟨ι, P, env, st, d, env', A, rd, e, q⟩ => ?_⟩
  unfold TG.put at e
  split at e
  · rename_i heq
    cases heq
  · rename_i ts' ds heq
    cases heq
    cases rd with
    | tup g1 g3 => exact t1.run pins s σ H _ u Q I r ⟨_, _, rfl, g1, by rw [g3.length, hl, puts_len e], ι, P, _, st, _, _, A, g3, e, fun σ' R B => q σ' R (by unfold TG.slots; exact B)⟩
  · rename_i ts' ds heq
    cases heq
    cases rd with
    | lst g1 g2 g3 => exact t2.run pins s σ H _ u Q I r ⟨_, _, rfl, SqL.of g1, by rw [g3.length, hl, puts_len e], ι, P, _, st, _, _, A, g3, e, fun σ' R B => q σ' R (by unfold TG.slots; exact B)⟩
  · cases e
end
end Ev
namespace Ev
open PySem PySem.Spec PyProof.Rows L2
/-! ### x.index(d) -/
theorem idxF_ok {d : PyData} : ∀ {ds : List PyData} {n j : Nat}, idxF d ds n = some j → n ≤ j ∧ ∃ z, ds[j - n]? = some z ∧ PyData.eqv z d = true ∧ ∀ (m : Nat) (z' : PyData), m < j - n → ds[m]? = some z' → PyData.eqv z' d = false
  | [], _, _, h => by cases h
  | z :: zs, n, j, h => by
    unfold idxF at h
    split at h
    · rename_i c
      cases h
      rw [Nat.sub_self]
      exact ⟨Nat.le_refl _, z, rfl, c, fun m _ hm => absurd hm (Nat.not_lt_zero _)⟩
    · rename_i c
      obtain ⟨h1, w, h2, h3, h4⟩ := idxF_ok h
      have e : j - n = (j - (n + 1)) + 1 := by omega
      refine ⟨by omega, w, ?_, h3, fun m z' hm hz => ?_⟩
      · rw [e]; exact h2
      · rw [e] at hm
        cases m with
        | zero =>
          have hz : some z = some z' := hz
          rw [← Option.some.inj hz]
          exact Bool.eq_false_iff.mpr c
        | succ m => exact h4 m z' (by omega) hz
theorem idxD_ok {ds : List PyData} {d r : PyData} (h : idxD ds d = some r) : SeqAt.shaped d = true ∧ SeqAt.shaped (.list ds) = true ∧ ∃ (j : Nat) (z : PyData), r = .int j ∧ ds[j]? = some z ∧ PyData.eqv z d = true ∧ ∀ (m : Nat) (z' : PyData), m < j → ds[m]? = some z' → PyData.eqv z' d = false := by
  unfold idxD at h
  split at h
  · rename_i c
    rw [Bool.and_eq_true] at c
    obtain ⟨j, hj, rfl⟩ := Option.map_eq_some_iff.mp h
    obtain ⟨_, z, h2, h3, h4⟩ := idxF_ok hj
    exact ⟨c.1, c.2, j, z, rfl, by simpa using h2, h3, by simpa using h4⟩
  · cases h
/-- t.index(x), t a tuple of data -/
def rIdxT (K : PySem.W.Frag) : V → List V → Hp → VK → Prop := fun x xs H Q => ∃ (a : Addr) (y : V) (d : PyData) (ds : List PyData) (vs : List V) (j : Nat) (z : PyData), x = V.ref a ∧ xs = [y] ∧ SqT K H a vs ∧ DpAll K H vs ds ∧ Dp K H y d ∧
  SeqAt.shaped (.list ds) = true ∧ SeqAt.shaped d = true ∧ ds[j]? = some z ∧ PyData.eqv z d = true ∧ (∀ (m : Nat) (z' : PyData), m < j → ds[m]? = some z' → PyData.eqv z' d = false) ∧ Q (.int (j : Nat)) H
section
variable {X : Cx}
theorem mt_idxT (hu : X.A.units + 65 < cLine) : MtR X "tuple.index" (rIdxT X.K) := by
  intro pins s σ H x xs v us Q I rx rxs h
  obtain ⟨a, y, d, ds, vs, j, z, rfl, rfl, ht, hds, hy, sl, sd, hz, hzj, hno, q⟩ := h
  cases rx
  obtain ⟨uy, rfl, ry⟩ := vals1 rxs
  obtain ⟨bs, r1⟩ := Dp.reads I d y uy hy ry
  have lay : PyData.canLayAll0 ds = true := SeqAt.canLay_of_shaped sl
  have room : X.A.units + 1 + min (PyData.depthAll ds) d.depth < cLine := room_in_shaped sd hu
  obtain ⟨its, rv, ⟨⟨cls, dd, data, sls⟩, ho, hc, n, hdt⟩, hlen⟩ := I.tuple ht
  simp only at hc hdt
  subst hc hdt
  obtain ⟨as, h4⟩ := Dp.readsAll I ds _ its hds rv
  have hn : its.length = ds.length := SeqAt.ReadsAll.length ds its as h4
  have hmap : its.map (SeqAt.readOf s.heap) = ds := SeqAt.readsAll_map ds its as lay h4
  obtain ⟨hjd, _⟩ := List.getElem?_eq_some_iff.mp hz
  have hj : j < its.toArray.size := by rw [List.size_toArray]; omega
  have look : ∀ (m : Nat) (hm : m < its.toArray.size) (z' : PyData), ds[m]? = some z' → SeqAt.readOf s.heap its.toArray[m] = z' := fun m hm z' hz' => by
    have hml : m < its.length := by simpa using hm
    rw [← hmap, List.getElem?_map, List.getElem?_eq_getElem hml] at hz'
    simpa using Option.some.inj hz'
  refine call_meets PySem.F.slot_tuple_index ⟨_, ho, rfl⟩ PySem.F.entry_tuple_index (PySem.F.args_tuple_index_2 _ _) (TI.tuple_indexAt a its.toArray n dd sls uy (fun u => PyData.eqv (SeqAt.readOf s.heap u) d) j hj (by rw [look j hj z hz]; exact hzj) fun m hm hmj => ?_)
    ⟨ho, SeqAt.items_eqAt (vs := its.toArray) (show ReadsAll s.heap its.toArray.toList ds as from h4) r1 lay (SeqAt.canLay_of_shaped sd) room, ⟨.int (j : Nat), H, I.tok _, ⟨_, rfl⟩, q⟩⟩
  have hz' : ds[m]? = some (ds[m]'(by omega)) := List.getElem?_eq_getElem (by omega)
  rw [look m hm _ hz']
  exact hno m _ hmj hz'
/-- the receiver is a known object without a dict -/
def tBMF (T : String) (r : V → List V → Hp → VK → Prop) (to : TE) (t : TA) : TE := fun σ H Q => to σ H fun x H1 => (∃ a o u, x = .ref a ∧ H1 a = some (.frz o u) ∧ o.cls = .type T ∧ o.dict = none) ∧ t σ H1 fun xs H2 => r x xs H2 Q
theorem pe_bmF {o e : Expr} {es : List Expr} {to : TE} {t : TA} {name : Str} {apos cpos : Pos} {T id : String} {r : V → List V → Hp → VK → Prop} (pa : PlainAttrs T) (slot : Slot T name id) (hty : typeOf (.builtin id) = pure (.type "method_descriptor")) (hm : MtR X id r) (ho : PE X o to) (ha : PA X (e :: es) t)
    (hbase : attributeBase o name X.env (eval o X.env) = eval o X.env)
    (hfew : ((backTo cpos (starEach (e :: es) X.env)).all (fun x => !x.1) && (backToKw cpos (keywordEach [] X.env)).all (fun x => x.1.isSome) && decide ((e :: es).length + ([] : List Keyword).length + (if ([] : List Keyword).isEmpty then 0 else 1) < 30)) = true)
    (hline : (apos.endLine == cpos.line) = true) (hs : starEach (e :: es) X.env = (false, eval e X.env) :: starEach es X.env) (hplain : (backTo cpos (starEach es X.env)).any (·.1) = false) :
    PE X (.Call (.Attribute o name apos) (e :: es) [] cpos) (tBMF T r to t) := by
  refine ⟨fun pins s σ H Q I h => wpAny_Call_method_late hbase hfew hline rfl (thn (ho.run pins s σ H _ I h) fun v s1 ⟨x, H1, I1, r1, ⟨b, ob, u, ex, eb, hc, hd⟩, q1⟩ => ?_)⟩
  subst ex
  cases r1
  have hob : s1.heap.get? b = some ob := (I1.hok b _ eb).1
  refine ⟨T, id, pa, slot, hty, ⟨ob, hob, hc⟩, (fun c hc => by cases hc; exact ⟨ob, hob, hd⟩), ?_⟩
  have hA := ha.run cpos pins s1 σ H1 _ I1 q1
  rw [hs] at hA ⊢
  refine Calls.callWith_builtin (by show (false || (backTo cpos (starEach es X.env)).any (·.1)) = false; rw [hplain] <;> rfl) (Calls.evalArgs_plain (thn hA fun us s2 ⟨vs, H2, I2, r2, q2⟩ => ?_))
  exact hm pins s2 σ H2 (.ref b) vs _ us Q I2 rfl r2 q2
end
section
variable {X : Cx} {b : Expr} {ma mb : ME} {pos p1 apos : Pos} {x : Str}
theorem xp_idx (hu : X.A.units + 65 < cLine) (ho : PE X (.Name x p1) (rdE X.K ma)) (ha : PE X b (rdE X.K mb)) (hs : noStar b = true) (hline : (apos.endLine == pos.line) = true) :
    PE X (.Call (.Attribute (.Name x p1) "index" apos) [b] [] pos) (rdE X.K (eIdx ma mb)) := by
  have hst := star_cons (es := []) (env := X.env) hs
  have L : PE X (.Call (.Attribute (.Name x p1) "index" apos) [b] [] pos) _ := pe_bm PySem.F.plainAttrs_list PySem.F.slot_list_index PySem.F.type_list_index (mt_indexD hu) ho (pa_cons ha pa_nil hst) rfl (by rw [hst]; rfl) hline hst rfl
  have T : PE X (.Call (.Attribute (.Name x p1) "index" apos) [b] [] pos) _ := pe_bmF PySem.F.plainAttrs_tuple PySem.F.slot_tuple_index PySem.F.type_tuple_index (mt_idxT hu) ho (pa_cons ha pa_nil hst) rfl (by rw [hst]; rfl) hline hst rfl
  refine ⟨fun pins s σ H Q I ⟨ι, P, env, st, A, w, st', e, q⟩ => ?_⟩
  obtain ⟨ov, s1, h1, e⟩ := bind_ok (noX_ok e)
  obtain ⟨yv, s2, h2, e⟩ := bind_ok e
  split at e
  · rename_i ds d hd _
    obtain ⟨r, hr, rfl, rfl⟩ := okD_ok e
    obtain ⟨c1, c2, j, z, rfl, g1, g2, g3⟩ := idxD_ok hr
    refine T.run pins s σ H Q I (rdE.bind A h1 fun u H1 x1 A1 r1 => ?_)
    cases r1 with
    | ftp hf hc hdn rp =>
      refine ⟨⟨_, _, _, rfl, hf, hc, hdn⟩, rdE.bind A1 h2 fun t H2 x2 A2 r2 => ?_⟩
      have xP := A1.s.extP x2
      have hf2 := xP.get hf (.inr fun _ z => nomatch z) fun _ z => nomatch z
      exact ⟨_, t, d, ds, _, j, z, rfl, rfl, .inl (.inr ⟨_, hf2⟩), (rp.ext xP).dp, (r2.rd A2.s hd).dp, c2, c1, g1, g2, g3, q _ _ (x1.trans x2) A2.s (.dat (.int _))⟩
  · rename_i ds d hd _
    obtain ⟨r, hr, rfl, rfl⟩ := okD_ok e
    obtain ⟨c1, c2, j, z, rfl, g1, g2, g3⟩ := idxD_ok hr
    refine L.run pins s σ H Q I (rdE.bind A h1 fun u H1 x1 A1 r1 => ?_)
    cases r1.dat' with
    | lst k1 k2 k3 =>
      refine ⟨.inl ⟨rfl, _, SqL.of k1⟩, rdE.bind A1 h2 fun t H2 x2 A2 r2 => ?_⟩
      have rp := (Rp.lst k1 k2 k3).ext (A1.s.extP x2)
      exact ⟨_, t, d, ds, j, z, rfl, rfl, rp.dp, (r2.rd A2.s hd).dp, c2, c1, g1, g2, g3, q _ _ (x1.trans x2) A2.s (.dat (.int _))⟩
  · rename_i n d hd _
    split at e
    · rename_i ds hn
      obtain ⟨r, hr, rfl, rfl⟩ := okD_ok e
      obtain ⟨c1, c2, j, z, rfl, g1, g2, g3⟩ := idxD_ok hr
      refine L.run pins s σ H Q I (rdE.bind A h1 fun u H1 x1 A1 r1 => ?_)
      obtain ⟨l, rfl, hl⟩ := r1.loc'
      refine ⟨RV.lty A1.s hl, rdE.bind A1 h2 fun t H2 x2 A2 r2 => ?_⟩
      obtain ⟨ds', xs, k1, k2, k3⟩ := A2.s.at_ _ l hl
      rw [hn] at k1; cases k1
      exact ⟨l, t, d, ds, j, z, rfl, rfl, .lst (SqL.of k2) k3.dp, (r2.rd A2.s hd).dp, c2, c1, g1, g2, g3, q _ _ (x1.trans x2) A2.s (.dat (.int _))⟩
    · cases e
  · cases e
end
end Ev
/-! EvComp: list comprehensions over the combinators. -/
namespace Ev
open PySem PySem.Spec PyProof.Rows L2

def lcIt (nx : Nat → Sto → Option (Option PyData)) (f : PyData → Sto → Out (List PyData)) : Nat → Nat → Sto → Out (List PyData)
  | 0, _, _ => .bad
  | k + 1, i, s => match nx i s with
    | some (some x) => (f x s).bind fun ys s => (lcIt nx f k (i + 1) s).bind fun r s => .ok (ys ++ r) s
    | some none => .ok [] s
    | none => .bad
theorem lcGo_it {f : PyData → Sto → Out (List PyData)} {xs : List PyData} : ∀ (n i : Nat) (s : Sto) (r : List PyData) (s' : Sto), i + n = xs.length → lcGo f (xs.drop i) s = .ok r s' → lcIt (nxt (.its xs)) f (n + 1) i s = .ok r s'
  | 0, i, s, r, s', hi, h => by
    rw [List.drop_eq_nil_of_le (by omega)] at h
    unfold lcIt
    simp only [nxt, List.getElem?_eq_none (show xs.length ≤ i by omega)]
    exact h
  | n + 1, i, s, r, s', hi, h => by
    have hlt : i < xs.length := by omega
    rw [List.drop_eq_getElem_cons hlt] at h
    unfold lcGo at h
    obtain ⟨ys, s1, h1, h⟩ := bind_ok h
    obtain ⟨zs, s2, h2, h⟩ := bind_ok h
    unfold lcIt
    simp only [nxt, List.getElem?_eq_getElem hlt, h1, Out.bind]
    rw [lcGo_it n (i + 1) s1 zs s2 (by omega) h2]
    exact h
theorem lcAt_it {f : PyData → Sto → Out (List PyData)} {n : Nat} : ∀ (k i : Nat) (s : Sto) (r : List PyData) (s' : Sto), lcAt f n k i s = .ok r s' → lcIt (nxt (.at_ n)) f k i s = .ok r s'
  | 0, i, s, r, s', h => by unfold lcAt at h; cases h
  | k + 1, i, s, r, s', h => by
    unfold lcAt at h
    unfold lcIt
    split at h
    · rename_i xs hs
      simp only [nxt, hs]
      split at h
      · rename_i x hx
        simp only [hx]
        obtain ⟨ys, s1, h1, h⟩ := bind_ok h
        obtain ⟨zs, s2, h2, h⟩ := bind_ok h
        simp only [h1, Out.bind]
        rw [lcAt_it k (i + 1) s1 zs s2 h2]
        exact h
      · rename_i hx
        simp only [hx]
        exact h
    · cases h
theorem lcRun_it {f : PyData → Sto → Out (List PyData)} {src : Src} {s s' : Sto} {r : List PyData} (h : lcRun f src s = .ok r s') : ∃ k, lcIt (nxt src) f k 0 s = .ok r s' := by
  cases src with
  | its xs => exact ⟨xs.length + 1, lcGo_it xs.length 0 s r s' (by omega) h⟩
  | at_ n =>
    unfold lcRun at h
    split at h
    · rename_i hq; cases hq
    · rename_i hq
      cases hq
      split at h
      · exact ⟨_, lcAt_it _ _ _ _ _ h⟩
      · cases h

section
variable {K : PySem.W.Frag} {H H1 H' : Hp} {P P' : AP'} {ι : List Addr} {s st : Sto} {σ : L2.St} {env : Env} {D : Addr}
/-- the list at D grows -/
structure Acc (K : PySem.W.Frag) (P : AP') (ι : List Addr) (D : Addr) (H1 H : Hp) (s : Sto) (rs : List PyData) : Prop where
  a : ∃ acc, H D = some (.lst acc) ∧ RpAll K H P acc rs
  s : RS K H P ι s
  x : ExtP (fun x => x ∈ ι ∨ x = D) H1 H
theorem RS.out (r : RS K H P ι s) (hD : D ∉ ι) (hP : P D) {xs ys : List V} (h : H D = some (.lst xs)) : RS K (L2.upd H D (.lst ys)) P ι s := by
  have hx : ExtP P H (L2.upd H D (.lst ys)) := fun b o e q => by
    by_cases z : b = D
    · subst z
      rcases q with q | q
      · exact absurd hP q
      · rw [h] at e; cases e; exact absurd rfl (q xs)
    · left; rw [upd_ne z]; exact e
  refine ⟨r.len, r.nd, r.pin, fun a p z => ?_, fun n a e => ?_, r.tb.lst h⟩
  · by_cases y : a = D
    · subst y; rw [upd_same] at z; cases z
    · rw [upd_ne y] at z; exact r.pthere a p z
  · obtain ⟨es, zs, g1, g2, g3⟩ := r.at_ n a e
    exact ⟨es, zs, g1, by rw [upd_ne (fun z => hD (by rw [← z]; exact List.mem_of_getElem? e))]; exact g2, g3.ext hx _ _⟩
/-- one more item -/
theorem Acc.app {rs : List PyData} {y : V} {d : PyData} (a : Acc K P ι D H1 H s rs) (hD : D ∉ ι) (hP : P D) (r : Rp K H P y d) (hl : rs.length < line) : ∃ acc, H D = some (.lst acc) ∧ acc.length < sizeLine ∧ Acc K P ι D H1 (L2.upd H D (.lst (acc ++ [y]))) s (rs ++ [d]) := by
  obtain ⟨acc, h1, h2⟩ := a.a
  have hx : ExtP P H (L2.upd H D (.lst (acc ++ [y]))) := fun b o e q => by
    by_cases z : b = D
    · subst z
      rcases q with q | q
      · exact absurd hP q
      · rw [h1] at e; cases e; exact absurd rfl (q acc)
    · left; rw [upd_ne z]; exact e
  refine ⟨acc, h1, by rw [h2.length, ← line_eq]; exact hl, ⟨_, upd_same, (h2.append (.cons r .nil)).ext hx _ _⟩, a.s.out hD hP h1, fun b o e q => ?_⟩
  have q1 := a.x b o e q
  by_cases z : b = D
  · subst z
    rcases q with q | q
    · exact absurd (.inr rfl) q
    · rcases q1 with q1 | ⟨ps, ps', _, q1⟩
      · rw [h1] at q1; cases q1; exact absurd rfl (q acc)
      · rw [h1] at q1; cases q1
  · rw [upd_ne z]; exact q1
/-- a step that keeps what is not at ι -/
theorem Acc.step {rs : List PyData} {H2 : Hp} {s2 : Sto} (a : Acc K P ι D H1 H s rs) (hD : D ∉ ι) (hP : P D) (x : Ext ι H H2) (r : RS K H2 P ι s2) : Acc K P ι D H1 H2 s2 rs := by
  obtain ⟨acc, h1, h2⟩ := a.a
  exact ⟨⟨acc, x.get h1 (.inl hD) (fun _ z => nomatch z), h2.ext (a.s.extP x) _ _⟩, r, a.x.trans (x.mono fun _ z => .inl z)⟩
theorem wipe_same : ∀ {vs : List Nat} {σ σ' : L2.St}, But vs σ σ' → L2.wipe σ' vs = L2.wipe σ vs := by
  intro vs σ σ' b
  have get : ∀ (vs : List Nat) (σ : L2.St) (i : Nat), (L2.wipe σ vs)[i]? = if i ∈ vs ∧ i < σ.length then some none else σ[i]? := by
    intro vs
    induction vs with
    | nil => intro σ i; unfold L2.wipe; simp
    | cons v vs ih =>
      intro σ i
      unfold L2.wipe
      by_cases hv : v = i
      · subst hv
        by_cases hl : v < σ.length
        · rw [List.getElem?_set_self (by rw [L2.wipe_length]; exact hl), if_pos ⟨List.mem_cons_self, hl⟩]
        · rw [List.getElem?_eq_none (by rw [List.length_set, L2.wipe_length]; omega), if_neg (fun z => hl z.2), List.getElem?_eq_none (by omega)]
      · rw [List.getElem?_set_ne hv, ih]
        have e : (i ∈ vs ∧ i < σ.length) ↔ (i ∈ v :: vs ∧ i < σ.length) := by
          rw [List.mem_cons]
          exact ⟨fun z => ⟨.inr z.1, z.2⟩, fun z => ⟨z.1.resolve_left (fun y => hv y.symm), z.2⟩⟩
        by_cases h : i ∈ vs ∧ i < σ.length
        · rw [if_pos h, if_pos (e.mp h)]
        · rw [if_neg h, if_neg (fun z => h (e.mpr z))]
  apply List.ext_getElem?
  intro i
  rw [get, get, b.1]
  by_cases h : i ∈ vs ∧ i < σ.length
  · rw [if_pos h, if_pos h]
  · rw [if_neg h, if_neg h]
    by_cases h1 : i ∈ vs
    · rw [List.getElem?_eq_none (by rw [b.1]; exact Nat.le_of_not_lt fun z => h ⟨h1, z⟩), List.getElem?_eq_none (Nat.le_of_not_lt fun z => h ⟨h1, z⟩)]
    · exact b.2 i h1
theorem wipe_wipe {vs : List Nat} {σ : L2.St} : L2.wipe (L2.wipe σ vs) vs = L2.wipe σ vs := by
  have get : ∀ (vs : List Nat) (σ : L2.St) (i : Nat), i ∉ vs → (L2.wipe σ vs)[i]? = σ[i]? := by
    intro vs
    induction vs with
    | nil => intro σ i _; rfl
    | cons v vs ih =>
      intro σ i hi
      unfold L2.wipe
      rw [List.getElem?_set_ne (fun z => hi (by rw [z]; exact List.mem_cons_self)), ih σ i fun z => hi (List.mem_cons_of_mem _ z)]
  exact wipe_same ⟨L2.wipe_length _ _, fun i hi => get vs σ i hi⟩
theorem But.mono {is js : List Nat} {σ σ' : L2.St} (b : But is σ σ') (h : ∀ i ∈ is, i ∈ js) : But js σ σ' := ⟨b.1, fun i hi => b.2 i fun z => hi (h i z)⟩
end

/-- the outer loop of a comprehension, its block's end by bd -/
theorem lc_outer {K : PySem.W.Frag} {tg : TG} {own vs : List Nat} {c : MT} {g : Env → Sto → Out (List PyData)} {bd : Addr → L2.St → Hp → (Hp → Prop) → Prop}
    {ι : List Addr} {P : AP'} {env : Env} {σ : L2.St} {H0 H1 : Hp} {s1 s2 : Sto} {src : Src} {r : List PyData} {J : It} {Qd : Hp → Prop} {D : Addr}
    (hb : ∀ (σ2 : L2.St) (env' : Env) (s s' : Sto) (ys rs : List PyData) (H : Hp) (Nx : Hp → Prop), RE K H (Pl P D) ι σ2 env' → Acc K (Pl P D) ι D H1 H s rs → g env' s = .ok ys s' → (rs ++ ys).length ≤ line →
      (∀ H', Acc K (Pl P D) ι D H1 H' s' (rs ++ ys) → Nx H') → bd D σ2 H Nx)
    (hsl : ∀ i ∈ tg.slots, i ∈ own) (e0 : RE K H1 P ι σ env) (hr1 : RS K H1 P ι s1) (w : WalkG K P ι J src H1) (hD : H1 D = none) (hrun : lcRun (turn tg own c g env) src s1 = .ok r s2) (hlen : r.length ≤ line)
    (hd : ∀ H, Acc K (Pl P D) ι D H1 H s2 r → Qd H) :
    ∃ W : Nat → Nat → Hp → Prop, (∃ m, W 0 m (upd H1 D (.lst []))) ∧ ∀ i m H, W i m H →
      (J.stop i H ∧ Qd H) ∨ (J.go i H ∧ ∃ Nx : Hp → Prop, (∀ H', Nx H' → ∃ m', m' < m ∧ W (i + 1) m' H') ∧ ∀ x H', J.yld i H x H' → rdG K tg x (L2.wipe σ own) H' fun σ2 H2 => L2.wipe σ2 own = L2.wipe σ own ∧ rdT K c σ2 H2 fun b H3 =>
        if b = true then bd D σ2 H3 Nx else Nx H3) := by
  obtain ⟨k0, hk0⟩ := lcRun_it hrun
  have hDι : D ∉ ι := fun z => hr1.pthere D (hr1.pin D z) hD
  have sm := same_upd (o := .lst []) hD
  refine ⟨fun i m H => ∃ s rs rest, Acc K (Pl P D) ι D H1 H s rs ∧ lcIt (nxt src) (turn tg own c g env) m i s = .ok rest s2 ∧ rs ++ rest = r, ⟨k0, s1, [], r, ⟨⟨[], upd_same, .nil⟩, hr1.add hD, fun b o e _ => .inl (sm b o e)⟩, hk0, rfl⟩, ?_⟩
  rintro i m H ⟨s, rs, rest, A, hit, hrest⟩
  cases m with
  | zero => unfold lcIt at hit; cases hit
  | succ m =>
    unfold lcIt at hit
    have hfresh : ∀ a, Pl P D a → P a ∨ H1 a = none := fun a z => z.imp id fun y => by rw [y]; exact hD
    have hxP : ExtP (Pl P D) H1 H := A.x.mono fun a z => z.imp (fun y => hr1.pin a y) id
    obtain ⟨w1, w2⟩ := w (Pl P D) ι s H (List.prefix_refl _) hfresh hxP A.s i
    split at hit
    · rename_i d hn
      obtain ⟨w3, w4⟩ := w2 d hn
      obtain ⟨ys, s3, hf, hit⟩ := bind_ok hit
      obtain ⟨zs, s4, hi2, hit⟩ := bind_ok hit
      cases hit
      refine .inr ⟨w3, fun H' => ∃ m', m' < m + 1 ∧ ∃ s rs rest, Acc K (Pl P D) ι D H1 H' s rs ∧ lcIt (nxt src) (turn tg own c g env) m' (i + 1) s = .ok rest s2 ∧ rs ++ rest = r, fun H' z => z, fun x H2 hy => ?_⟩
      obtain ⟨sm2, rx⟩ := w4 x H2 hy
      have A2 : Acc K (Pl P D) ι D H1 H2 s rs := A.step hDι (.inr rfl) (.same sm2) (A.s.same sm2)
      have E2 : RE K H2 (Pl P D) ι (L2.wipe σ own) (wipeE env own) := (((e0.toP hfresh).ext hxP).ext (.same sm2)).wipe own
      unfold turn at hf
      split at hf
      · rename_i env' hput
        refine ⟨ι, Pl P D, _, s, d, env', ⟨E2, A2.s⟩, rx, hput, fun σ2 R2 B2 => ⟨?_, ?_⟩⟩
        · rw [wipe_same (B2.mono hsl), wipe_wipe]
        · obtain ⟨b, s5, hc, hf⟩ := bind_ok hf
          refine ⟨ι, Pl P D, env', s, ⟨R2, A2.s⟩, b, s5, hc, fun H3 x3 r3 => ?_⟩
          have A3 := A2.step hDι (.inr rfl) x3 r3
          cases b with
          | true =>
            refine iteT ?_
            refine hb σ2 env' s5 s3 ys rs H3 _ (R2.ext (A2.s.extP x3)) A3 hf ?_ fun H' A' => ⟨m, Nat.lt_succ_self _, s3, rs ++ ys, zs, A', hi2, by rw [List.append_assoc]; exact hrest⟩
            rw [← hrest] at hlen
            simp only [List.length_append] at hlen ⊢
            omega
          | false =>
            cases hf
            refine iteF ?_
            exact ⟨m, Nat.lt_succ_self _, _, rs, zs, A3, hi2, hrest⟩
      · cases hf
    · rename_i hn
      cases hit
      rw [List.append_nil] at hrest
      subst hrest
      exact .inl ⟨w1 hn, hd H A⟩
    · cases hit
theorem okL_ok {xs : List PyData} {s s' : Sto} {v : Vl} (h : okL xs s = .ok v s') : xs.length ≤ line ∧ v = .dat (.list xs) ∧ s' = s := by
  obtain ⟨c, h1, h2⟩ := of_ifOk h
  exact ⟨Nat.le_of_ble_eq_true c, h1, h2⟩
theorem Acc.end_ {K : PySem.W.Frag} {P : AP'} {ι : List Addr} {D : Addr} {H0 H1 H : Hp} {s : Sto} {r : List PyData} (A : Acc K (Pl P D) ι D H1 H s r) (x : Ext ι H0 H1) (hD : H1 D = none) : Ext ι H0 H := fun b o e q => by
  refine x.two (P2 := fun _ => True) A.x e q (q.imp (fun y z => z.elim y fun w => ?_) id)
  rw [w] at e y
  exact x.there e y hD
theorem lc_read {K : PySem.W.Frag} {it : MI} {tg : TG} {own : List Nat} {c : MT} {e : ME} (hsl : ∀ i ∈ tg.slots, i ∈ own) {σ : L2.St} {H : Hp} {Q : VK} (h : rdF K (eLc it tg own c e) σ H Q) : tLc (rdI K it) (rdG K tg) (rdT K c) (rdE K e) own σ H Q := by
  obtain ⟨ι, P, env, st, A, ds, st', he, q⟩ := h
  obtain ⟨src, s1, h1, he⟩ := bind_ok (noX_ok he)
  obtain ⟨r, s2, h2, he⟩ := bind_ok he
  obtain ⟨hl, hv, rfl⟩ := okL_ok he
  cases hv
  refine ⟨ι, P, env, st, A, src, s1, h1, fun J H1 x1 r1 w D hD => ?_⟩
  have A1 := A.next x1 r1
  have hDι : D ∉ ι := fun z => r1.pthere D (r1.pin D z) hD
  refine lc_outer (vs := own) (bd := fun D σ2 H3 Nx => rdE K e σ2 H3 fun y H4 => ∃ acc, H4 D = some (.lst acc) ∧ acc.length < sizeLine ∧ Nx (upd H4 D (.lst (acc ++ [y])))) (H0 := H) (fun σ2 env' s s' ys rs H3 Nx R2 A3 hg hlen hN => ?_) hsl A1.e r1 w hD h2 hl fun H2 A2 => ?_
  · obtain ⟨v, s6, h6, hg⟩ := bind_ok hg
    split at hg
    · cases hg
      refine ⟨ι, _, env', s, ⟨R2, A3.s⟩, _, _, h6, fun y H4 x4 r4 rv => ?_⟩
      have A4 := A3.step hDι (.inr rfl) x4 r4
      obtain ⟨acc, g1, g2, g3⟩ := A4.app hDι (.inr rfl) rv.dat' (by
        simp only [List.length_append, List.length_cons, List.length_nil] at hlen; omega)
      exact ⟨acc, g1, g2, hN _ g3⟩
    · cases hg
  · obtain ⟨acc, g1, g2⟩ := A2.a
    exact q D H2 acc (none_back A.s x1 hD r1.pthere) (A2.end_ x1 hD) A2.s g1 g2
theorem inner_read {K : PySem.W.Frag} {tg : TG} {own : List Nat} {c : MT} {e : ME} {ι : List Addr} {P : AP'} {env : Env} {σ : L2.St} {H0 H1 : Hp} {s1 s2 : Sto} {src : Src} {rs r : List PyData} {J : It} {Nx : Hp → Prop} {D : Addr}
    (hsl : ∀ i ∈ tg.slots, i ∈ own) (e0 : RE K H1 P ι σ env) (hDι : D ∉ ι) (hP : P D) (A0 : Acc K P ι D H0 H1 s1 rs) (w : WalkG K P ι J src H1) (hrun : lcRun (turn tg own c (one e) env) src s1 = .ok r s2) (hlen : (rs ++ r).length ≤ line)
    (hd : ∀ H, Acc K P ι D H0 H s2 (rs ++ r) → Nx H) :
    ∃ W1 : Nat → Nat → Hp → Prop, (∃ m, W1 0 m H1) ∧ ∀ j k H, W1 j k H →
      (J.stop j H ∧ Nx H) ∨ (J.go j H ∧ ∃ Nx1 : Hp → Prop, (∀ H', Nx1 H' → ∃ k', k' < k ∧ W1 (j + 1) k' H') ∧ ∀ x H', J.yld j H x H' → rdG K tg x (L2.wipe σ own) H' fun σ3 H5 => L2.wipe σ3 own = L2.wipe σ own ∧ rdT K c σ3 H5 fun b H6 =>
        if b = true then rdE K e σ3 H6 fun y H7 => ∃ acc, H7 D = some (.lst acc) ∧ acc.length < sizeLine ∧ Nx1 (upd H7 D (.lst (acc ++ [y]))) else Nx1 H6) := by
  obtain ⟨k0, hk0⟩ := lcRun_it hrun
  refine ⟨fun j m H => ∃ s rs' rest, Acc K P ι D H1 H s (rs ++ rs') ∧ lcIt (nxt src) (turn tg own c (one e) env) m j s = .ok rest s2 ∧ rs' ++ rest = r, ⟨k0, s1, [], r, ⟨by rw [List.append_nil]; exact A0.a, A0.s, ExtP.refl _ _⟩, hk0, rfl⟩, ?_⟩
  rintro j m H ⟨s, rs', rest, A, hit, hrest⟩
  cases m with
  | zero => unfold lcIt at hit; cases hit
  | succ m =>
    unfold lcIt at hit
    have hxP : ExtP P H1 H := A.x.mono fun a z => z.elim (fun y => A0.s.pin a y) fun y => by rw [y]; exact hP
    obtain ⟨w1, w2⟩ := w P ι s H (List.prefix_refl _) (fun a z => .inl z) hxP A.s j
    split at hit
    · rename_i d hn
      obtain ⟨w3, w4⟩ := w2 d hn
      obtain ⟨ys, s3, hf, hit⟩ := bind_ok hit
      obtain ⟨zs, s4, hi2, hit⟩ := bind_ok hit
      cases hit
      refine .inr ⟨w3, fun H' => ∃ m', m' < m + 1 ∧ ∃ s rs' rest, Acc K P ι D H1 H' s (rs ++ rs') ∧ lcIt (nxt src) (turn tg own c (one e) env) m' (j + 1) s = .ok rest s2 ∧ rs' ++ rest = r, fun H' z => z, fun x H2 hy => ?_⟩
      obtain ⟨sm2, rx⟩ := w4 x H2 hy
      have A2 : Acc K P ι D H1 H2 s (rs ++ rs') := A.step hDι hP (.same sm2) (A.s.same sm2)
      have E2 : RE K H2 P ι (L2.wipe σ own) (wipeE env own) := ((e0.ext hxP).ext (.same sm2)).wipe own
      unfold turn at hf
      split at hf
      · rename_i env' hput
        refine ⟨ι, P, _, s, d, env', ⟨E2, A2.s⟩, rx, hput, fun σ2 R2 B2 => ⟨?_, ?_⟩⟩
        · rw [wipe_same (B2.mono hsl), wipe_wipe]
        · obtain ⟨b, s5, hc, hf⟩ := bind_ok hf
          refine ⟨ι, P, env', s, ⟨R2, A2.s⟩, b, s5, hc, fun H3 x3 r3 => ?_⟩
          have A3 := A2.step hDι hP x3 r3
          cases b with
          | true =>
            refine iteT ?_
            obtain ⟨v, s6, h6, hf⟩ := bind_ok hf
            split at hf
            · cases hf
              refine ⟨ι, P, env', s5, ⟨R2.ext (A2.s.extP x3), A3.s⟩, _, _, h6, fun y H4 x4 r4 rv => ?_⟩
              have A4 := A3.step hDι hP x4 r4
              rw [← hrest] at hlen
              obtain ⟨acc, g1, g2, g3⟩ := A4.app hDι hP rv.dat' (by
                simp only [List.length_append, List.length_cons, List.length_nil] at hlen ⊢; omega)
              rw [List.append_assoc] at g3
              exact ⟨acc, g1, g2, m, Nat.lt_succ_self _, _, _, zs, g3, hi2, by rw [List.append_assoc]; exact hrest⟩
            · cases hf
          | false =>
            cases hf
            refine iteF ?_
            exact ⟨m, Nat.lt_succ_self _, _, rs', zs, A3, hi2, hrest⟩
      · cases hf
    · rename_i hn
      cases hit
      rw [List.append_nil] at hrest
      subst hrest
      exact .inl ⟨w1 hn, hd H ⟨A.a, A.s, A0.x.trans A.x⟩⟩
    · cases hit
theorem lc2_read {K : PySem.W.Frag} {it it1 : MI} {tg tg1 : TG} {own own1 : List Nat} {c c1 : MT} {e : ME} (hsl : ∀ i ∈ tg.slots, i ∈ own) (hsl1 : ∀ i ∈ tg1.slots, i ∈ own1) {σ : L2.St} {H : Hp} {Q : VK} (h : rdF K (eLc2 it tg own c it1 tg1 own1 c1 e) σ H Q) :
    tLc2 (rdI K it) (rdG K tg) (rdT K c) (rdI K it1) (rdG K tg1) (rdT K c1) (rdE K e) own own1 σ H Q := by
  obtain ⟨ι, P, env, st, A, ds, st', he, q⟩ := h
  obtain ⟨src, s1, h1, he⟩ := bind_ok (noX_ok he)
  obtain ⟨r, s2, h2, he⟩ := bind_ok he
  obtain ⟨hl, hv, rfl⟩ := okL_ok he
  cases hv
  refine ⟨ι, P, env, st, A, src, s1, h1, fun J H1 x1 r1 w D hD => ?_⟩
  have A1 := A.next x1 r1
  have hDι : D ∉ ι := fun z => r1.pthere D (r1.pin D z) hD
  refine lc_outer (vs := own) (bd := fun D σ2 H3 Nx => rdI K it1 σ2 H3 fun J1 H4 => ∃ W1 : Nat → Nat → Hp → Prop, (∃ m, W1 0 m H4) ∧ ∀ j k H, W1 j k H →
      (J1.stop j H ∧ Nx H) ∨ (J1.go j H ∧ ∃ Nx1 : Hp → Prop, (∀ H', Nx1 H' → ∃ k', k' < k ∧ W1 (j + 1) k' H') ∧ ∀ x H', J1.yld j H x H' → rdG K tg1 x (L2.wipe σ2 own1) H' fun σ3 H5 => L2.wipe σ3 own1 = L2.wipe σ2 own1 ∧ rdT K c1 σ3 H5 fun b H6 =>
        if b = true then rdE K e σ3 H6 fun y H7 => ∃ acc, H7 D = some (.lst acc) ∧ acc.length < sizeLine ∧ Nx1 (upd H7 D (.lst (acc ++ [y]))) else Nx1 H6)) (H0 := H) (fun σ2 env' s s' ys rs H3 Nx R2 A3 hg hlen hN => ?_) hsl A1.e r1 w hD h2 hl fun H2 A2 => ?_
  · obtain ⟨src1, s6, h6, hg⟩ := bind_ok hg
    refine ⟨ι, _, env', s, ⟨R2, A3.s⟩, src1, s6, h6, fun J1 H4 x4 r4 w4 => ?_⟩
    have A4 := A3.step hDι (.inr rfl) x4 r4
    exact inner_read hsl1 (R2.ext (A3.s.extP x4)) hDι (.inr rfl) A4 w4 hg hlen hN
  · obtain ⟨acc, g1, g2⟩ := A2.a
    exact q D H2 acc (none_back A.s x1 hD r1.pthere) (A2.end_ x1 hD) A2.s g1 g2
end Ev
/-! EvDict: dicts of the module read at a text, dicts of truth values made and read. -/
namespace Ev
open PySem PySem.Spec PyProof.Rows L2

theorem valV_kvD : ∀ {ds : List (Str × Bool)} {k : Str} {b : Bool}, ds.lookup k = some b → valV (kvD ds) (.inr k) = some (.bl b)
  | [], _, _, h => by cases h
  | p :: r, k, b, h => by
    obtain ⟨x, c⟩ := p
    have h2 : (match k == x with | true => some c | false => r.lookup k) = some b := h
    show valV ((.inr x, .bl c) :: kvD r) (.inr k) = some (.bl b)
    cases q : (k == x) with
    | true =>
      rw [q] at h2
      have e := beq_iff_eq.mp q
      subst e
      rw [valV_pos rfl]
      exact congrArg (fun z => some (V.bl z)) (Option.some.inj h2)
    | false =>
      rw [q] at h2
      have ne : k ≠ x := beq_eq_false_iff_ne.mp q
      rw [valV_neg (fun z => ne (Sum.inr.inj z).symm)]
      exact valV_kvD h2
section
variable {X : Cx} {a b : Expr} {ma mb : ME} {pos : Pos}
theorem xp_ixD (hu : X.A.units + 1 < cLine) (ha : PE X a (rdE X.K ma)) (hb : PE X b (rdE X.K mb)) (hs : plainIx b = true) : PE X (.Subscript a b pos) (rdE X.K (eIxD ma mb)) :=
  PE.mono (pe_dget hu ha hb (plainIx_ok hs)) fun σ H Q ⟨ι, P, env, st, A, w, st', e, q⟩ => by
    obtain ⟨x, s1, h1, e⟩ := bind_ok (noX_ok e)
    obtain ⟨y, s2, h2, e⟩ := bind_ok e
    refine rdE.bind A h1 fun u H1 x1 A1 r1 => rdE.bind A1 h2 fun t H2 x2 A2 r2 => ?_
    have r1 := r1.ext (A1.s.extP x2)
    cases x with
    | dct ds =>
      cases y with
      | dat d =>
        cases d with
        | str k =>
          have e : okB (ds.lookup k) s2 = .ok w st' := e
          cases hb : ds.lookup k with
          | none => rw [hb] at e; cases e
          | some c =>
            rw [hb] at e
            cases e
            cases r1 with
            | dct hd =>
              cases r2.dat' with
              | str =>
                refine ⟨_, .bl c, rfl, ?_, q _ _ (x1.trans x2) A2.s (.dat (.bl c))⟩
                rw [← valV_kvD hb]
                exact DGet.k (k := .inr k) hd
        | _ => cases e
      | _ => cases e
    | _ => cases e
/-- d[k], d a dict of the module -/
theorem xp_dct {p : Addr} {kvs : List (Str × PyData)} (hn : PE X a (tC (.ref p))) (hk : ∀ k d, kvs.lookup k = some d → ∃ v, KDct X.K X.w p k v ∧ ∀ H P, Rp X.K H P v d) (hb : PE X b (rdE X.K mb)) (hs : plainIx b = true) : PE X (.Subscript a b pos) (rdE X.K (eDct kvs mb)) :=
  PE.mono (pe_ix ix_kdict hn hb (plainIx_ok hs)) fun σ H Q ⟨ι, P, env, st, A, w, st', e, q⟩ => by
    obtain ⟨y, s1, h1, e⟩ := bind_ok (noX_ok e)
    refine rdE.bind (Q := fun y H2 => rIxD X.K X.w (.ref p) y H2 Q) A h1 fun u H1 x1 A1 r1 => ?_
    split at e
    · rename_i k
      obtain ⟨d, hd, rfl, rfl⟩ := okD_ok e
      obtain ⟨v, kd, rp⟩ := hk k d hd
      cases r1.dat' with
      | str => exact ⟨p, k, v, rfl, rfl, kd, q _ _ x1 A1.s (.dat (rp _ _))⟩
    · cases e
end

/-! ### a dict made -/
def dropD (H : Hp) (D : Addr) : Hp := fun b => if b = D then none else H b
theorem dropD_same {H : Hp} {D : Addr} : dropD H D D = none := if_pos rfl
theorem dropD_ne {H : Hp} {D b : Addr} (h : b ≠ D) : dropD H D b = H b := if_neg h
theorem dropD_upd {H : Hp} {D : Addr} {o : HO} : L2.upd (dropD H D) D o = L2.upd H D o := funext fun b => by
  by_cases h : b = D
  · rw [h, upd_same, upd_same]
  · rw [upd_ne h, upd_ne h, dropD_ne h]
section
variable {K : PySem.W.Frag} {H : Hp} {P : AP'} {D : Addr} {kvs : List (Key × V)}
theorem SqT.dropD {a : Addr} {xs : List V} (hD : H D = some (.dK kvs)) (h : SqT K H a xs) : SqT K (dropD H D) a xs := by
  rcases h with (h | ⟨o, h⟩) | h
  · refine .inl (.inl ?_)
    rw [Ev.dropD_ne (fun z => by rw [z, hD] at h; cases h)]
    exact h
  · refine .inl (.inr ⟨o, ?_⟩)
    rw [Ev.dropD_ne (fun z => by rw [z, hD] at h; cases h)]
    exact h
  · exact .inr h
mutual
theorem Rp.dropD (hD : H D = some (.dK kvs)) : ∀ (d : PyData) (v : V), Rp K H P v d → Rp K (dropD H D) P v d
  | .none, _, h => by cases h; exact .non
  | .bool _, _, h => by cases h; exact .bl _
  | .int _, _, h => by cases h; exact .int _
  | .str _, _, h => by cases h; exact .str _
  | .list ds, _, h => by
    cases h with
    | lst g1 g2 g3 => exact .lst (by rw [Ev.dropD_ne (fun z => by rw [z, hD] at g1; cases g1)]; exact g1) g2 (RpAll.dropD hD ds _ g3)
  | .tuple ds, _, h => by
    cases h with
    | tup g1 g3 => exact .tup (SqT.dropD hD g1) (RpAll.dropD hD ds _ g3)
  | .dict _, _, h => by cases h
theorem RpAll.dropD (hD : H D = some (.dK kvs)) : ∀ (ds : List PyData) (vs : List V), RpAll K H P vs ds → RpAll K (dropD H D) P vs ds
  | [], _, h => by cases h; exact .nil
  | d :: ds, _, h => by
    cases h with
    | cons r t => exact .cons (Rp.dropD hD d _ r) (RpAll.dropD hD ds _ t)
end
theorem RS.dropD {ι : List Addr} {st : Sto} (r : RS K H P ι st) (hD : H D = some (.dK kvs)) (n : ¬ P D) : RS K (dropD H D) P ι st := by
  refine ⟨r.len, r.nd, r.pin, fun a p z => ?_, fun m a e => ?_, fun p hp => ?_⟩
  · by_cases q : a = D
    · exact n (q ▸ p)
    · rw [Ev.dropD_ne q] at z
      exact r.pthere a p z
  · obtain ⟨ds, xs, h1, h2, h3⟩ := r.at_ m a e
    exact ⟨ds, xs, h1, by rw [Ev.dropD_ne (fun z => by rw [z, hD] at h2; cases h2)]; exact h2, RpAll.dropD hD _ _ h3⟩
  · obtain ⟨ps, h1, h2, h3⟩ := r.tb p hp
    refine ⟨ps, ?_, h2, fun pos cv hc => ?_⟩
    · rw [Ev.dropD_ne (fun z => by rw [z, hD] at h1; cases h1)]
      exact h1
    · obtain ⟨c, e1, e2⟩ := h3 pos cv hc
      refine ⟨c, e1, ?_⟩
      rw [Ev.dropD_ne (fun z => by rw [z, hD] at e2; unfold LamX.CodeO at e2; cases e2)]
      exact e2
end
theorem dctL_append : ∀ {a b : List PyData} {c : List (Str × Bool)}, dctL (a ++ b) = some c → ∃ c1 c2, dctL a = some c1 ∧ dctL b = some c2 ∧ c = c1 ++ c2
  | [], b, c, h => ⟨[], c, rfl, h, rfl⟩
  | x :: a, b, c, h => by
    rw [List.cons_append] at h
    unfold dctL at h
    split at h
    · rename_i hq; cases hq
    · rename_i heq
      cases heq
      obtain ⟨l, hl, rfl⟩ := Option.map_eq_some_iff.mp h
      obtain ⟨c1, c2, h1, h2, rfl⟩ := dctL_append hl
      exact ⟨_, c2, by unfold dctL; rw [h1]; rfl, h2, rfl⟩
    · cases h
theorem noKey_app {x : Str} : ∀ {a b : List (Str × Bool)}, noKey x (a ++ b) = true → noKey x a = true ∧ noKey x b = true
  | [], b, h => ⟨rfl, h⟩
  | p :: a, b, h => by
    have h : (!decide (p.1 = x) && noKey x (a ++ b)) = true := h
    rw [Bool.and_eq_true] at h
    obtain ⟨h1, h2⟩ := noKey_app h.2
    refine ⟨?_, h2⟩
    show (!decide (p.1 = x) && noKey x a) = true
    rw [h.1, h1]; rfl
theorem distinct_mid : ∀ {a b : List (Str × Bool)} {x : Str} {c : Bool}, distinct (a ++ (x, c) :: b) = true → ∀ p ∈ a, p.1 ≠ x
  | [], _, _, _, _, _, h => nomatch h
  | q :: a, b, x, c, h, p, hp => by
    rw [List.cons_append] at h
    unfold distinct at h
    rw [Bool.and_eq_true] at h
    rcases List.mem_cons.mp hp with e | hp
    · subst e
      have h2 := (noKey_app h.1).2
      unfold noKey at h2
      rw [Bool.and_eq_true] at h2
      intro z
      rw [z] at h2
      simp at h2
    · exact distinct_mid h.2 p hp
theorem putK_kvD {ds : List (Str × Bool)} {x : Str} {c : Bool} (h : ∀ p ∈ ds, p.1 ≠ x) : putK (kvD ds) (.inr x) (.bl c) = kvD (ds ++ [(x, c)]) := by
  unfold putK
  rw [if_neg]
  · unfold kvD
    rw [List.map_append]
    rfl
  · intro z
    obtain ⟨p, hp, e⟩ := List.any_eq_true.mp z
    unfold kvD at hp
    obtain ⟨q, hq, rfl⟩ := List.mem_map.mp hp
    exact h q hq (Sum.inr.inj (of_decide_eq_true e))
theorem dc_read {K : PySem.W.Frag} {it : MI} {tg : TG} {own : List Nat} {mk mv : ME} (hsl : ∀ i ∈ tg.slots, i ∈ own) {σ : L2.St} {H : Hp} {Q : VK} (h : rdE K (eDc it tg own mk mv) σ H Q) : tDc (rdI K it) (rdG K tg) (rdT K tYes) (rdE K mk) (rdE K mv) own σ H Q := by
  obtain ⟨ι, P, env, st, A, w, st', he, q⟩ := h
  obtain ⟨src, s1, h1, he⟩ := bind_ok (noX_ok he)
  obtain ⟨r, s2, h2, he⟩ := bind_ok he
  split at he
  · rename_i ds hds
    obtain ⟨c, rfl, rfl⟩ := of_ifOk he
    rw [Bool.and_eq_true] at c
    have hlen := Nat.le_of_ble_eq_true c.2
    refine ⟨ι, P, env, st, A, src, s1, h1, fun J H1 x1 r1 w D hD => ?_⟩
    have A1 := A.next x1 r1
    have hDP : ¬ P D := fun z => r1.pthere D z hD
    obtain ⟨k0, hk0⟩ := lcRun_it h2
    refine ⟨fun i m H' => ∃ G s rs rest cs, H' = upd G D (.dK (kvD cs)) ∧ G D = none ∧ Ext ι H1 G ∧ RS K G P ι s ∧ dctL rs = some cs ∧ lcIt (nxt src) (turn tg own tYes (pairD mk mv) env) m i s = .ok rest st' ∧ rs ++ rest = r,
      ⟨k0, H1, s1, [], r, [], rfl, hD, ExtP.refl _ _, r1, rfl, hk0, rfl⟩, ?_⟩
    rintro i m H' ⟨G, s, rs, rest, cs, rfl, hG, xG, rG, hcs, hit, hrest⟩
    cases m with
    | zero => unfold lcIt at hit; cases hit
    | succ m =>
      unfold lcIt at hit
      have smG : Same G (upd G D (.dK (kvD cs))) := same_upd hG
      have xH : Ext ι H1 (upd G D (.dK (kvD cs))) := xG.trans (.same smG)
      have rH := rG.same smG
      obtain ⟨w1, w2⟩ := w P ι s _ (List.prefix_refl _) (fun a z => .inl z) (r1.extP xH) rH i
      split at hit
      · rename_i d hn
        obtain ⟨w3, w4⟩ := w2 d hn
        obtain ⟨ys, s3, hf, hit⟩ := bind_ok hit
        obtain ⟨zs, s4, hi2, hit⟩ := bind_ok hit
        cases hit
        refine .inr ⟨w3, fun H' => ∃ m', m' < m + 1 ∧ ∃ G s rs rest cs, H' = upd G D (.dK (kvD cs)) ∧ G D = none ∧ Ext ι H1 G ∧ RS K G P ι s ∧ dctL rs = some cs ∧ lcIt (nxt src) (turn tg own tYes (pairD mk mv) env) m' (i + 1) s = .ok rest st' ∧ rs ++ rest = r, fun H' z => z, fun x H2 hy => ?_⟩
        obtain ⟨sm2, rx⟩ := w4 x H2 hy
        have xH2 : Ext ι H1 H2 := xH.trans (.same sm2)
        have r2 := rH.same sm2
        have E2 : RE K H2 P ι (L2.wipe σ own) (wipeE env own) := (A1.e.ext (r1.extP xH2)).wipe own
        unfold turn at hf
        split at hf
        · rename_i env' hput
          refine ⟨ι, P, _, s, d, env', ⟨E2, r2⟩, rx, hput, fun σ2 R2 B2 => ⟨?_, ?_⟩⟩
          · rw [wipe_same (B2.mono hsl), wipe_wipe]
          · obtain ⟨b, s5, hc, hf⟩ := bind_ok hf
            cases hc
            refine ⟨ι, P, env', s, ⟨R2, r2⟩, true, s, rfl, fun H3 x3 r3 => iteT ?_⟩
            unfold pairD at hf
            obtain ⟨kv, s6, hk, hf⟩ := bind_ok hf
            obtain ⟨vv, s7, hv, hf⟩ := bind_ok hf
            split at hf
            · rename_i z c0 _
              cases hf
              have A3 : At K H3 P ι σ2 env' s := ⟨R2.ext (r2.extP x3), r3⟩
              refine rdE.bind A3 hk fun y H4 x4 A4 r4 => rdE.bind A4 hv fun z' H5 x5 A5 r5 => ?_
              cases r4.dat'
              cases r5.dat'
              have hx : Ext ι H2 H5 := (x3.trans x4).trans x5
              have d2 : H2 D = some (.dK (kvD cs)) := sm2 D _ upd_same
              have d5 : H5 D = some (.dK (kvD cs)) := hx.get d2 (.inr fun _ z => nomatch z) fun _ z => nomatch z
              have hdm : dctL (rs ++ ([PyData.tuple [.str z, .bool c0]] ++ zs)) = some ds := by rw [hrest]; exact hds
              obtain ⟨c1, c2, e1, e2, e3⟩ := dctL_append hdm
              rw [hcs] at e1
              cases e1
              obtain ⟨c3, c4, e4, e5, e6⟩ := dctL_append e2
              have e7 : c3 = [(z, c0)] := by
                have : dctL [PyData.tuple [.str z, .bool c0]] = some [(z, c0)] := rfl
                rw [this] at e4
                exact (Option.some.inj e4).symm
              subst e7
              have hno : ∀ p ∈ cs, p.1 ≠ z := distinct_mid (b := c4) (c := c0) (by rw [← List.singleton_append, ← e6, ← e3]; exact c.1)
              have hcl : (kvD cs).length < sizeLine := by
                unfold kvD
                rw [List.length_map, sizeLine_eq]
                rw [e3, List.length_append] at hlen
                omega
              refine ⟨kvD cs, .inr z, rfl, d5, hcl, m, Nat.lt_succ_self _, dropD H5 D, _, rs ++ [PyData.tuple [.str z, .bool c0]], zs, cs ++ [(z, c0)], ?_, dropD_same, fun b o e n => ?_, RS.dropD A5.s d5 hDP, ?_, hi2, by rw [List.append_assoc]; exact hrest⟩
              · rw [dropD_upd, putK_kvD hno]
              · have ne : b ≠ D := fun y => by rw [y, hD] at e; cases e
                rw [Ev.dropD_ne ne]
                exact (xH2.trans hx) b o e n
              · have key : ∀ (a b : List PyData) (c1 c2 : List (Str × Bool)), dctL a = some c1 → dctL b = some c2 → dctL (a ++ b) = some (c1 ++ c2) := fun a b c1 c2 h1 h2 => by
                  induction a generalizing c1 with
                  | nil => cases h1; exact h2
                  | cons x a ih =>
                    unfold dctL at h1
                    split at h1
                    · rename_i hq; cases hq
                    · rename_i heq
                      cases heq
                      obtain ⟨l, hl, rfl⟩ := Option.map_eq_some_iff.mp h1
                      rw [List.cons_append]
                      unfold dctL
                      rw [ih l hl]
                      rfl
                    · cases h1
                exact key _ _ _ _ hcs rfl
            · cases hf
        · cases hf
      · rename_i hn
        cases hit
        rw [List.append_nil] at hrest
        subst hrest
        rw [hcs] at hds
        cases hds
        exact .inl ⟨w1 hn, q _ _ (x1.trans xH) rH (.dct upd_same)⟩
      · cases hit
  · cases he
end Ev
/-! EvStm: statements, defs over the combinators. -/
namespace Ev
open PySem PySem.Spec PyProof.Rows L2

/-- from H to H', where new lists may come in -/
structure Gr (ι : List Addr) (P : AP') (H : Hp) (ι' : List Addr) (P' : AP') (H' : Hp) : Prop where
  pre : ι <+: ι'
  inc : ∀ a, P a → P' a
  new : ∀ a, P' a → P a ∨ H a = none
  nw : ∀ a ∈ ι', a ∈ ι ∨ H a = none
  x : Ext ι H H'
theorem Gr.of {ι : List Addr} {P : AP'} {H H' : Hp} (x : Ext ι H H') : Gr ι P H ι P H' := ⟨List.prefix_refl _, fun _ h => h, fun _ h => .inl h, fun _ h => .inl h, x⟩
section
variable {K : PySem.W.Frag} {ι ι1 ι2 : List Addr} {P P1 P2 : AP'} {H H1 H2 : Hp} {st st1 : Sto} {σ : L2.St} {env : Env}
theorem Gr.trans (a : Gr ι P H ι1 P1 H1) (b : Gr ι1 P1 H1 ι2 P2 H2) (h : ∀ x ∈ ι, H1 x ≠ none) : Gr ι P H ι2 P2 H2 := by
  have back : ∀ x, H1 x = none → H x = none := fun x e => by
    cases z : H x with
    | none => rfl
    | some o =>
      by_cases y : x ∈ ι
      · exact absurd e (h x y)
      · exact (a.x.there z y e).elim
  refine ⟨a.pre.trans b.pre, fun x y => b.inc x (a.inc x y), fun x y => ?_, fun x y => ?_, fun c o e q => ?_⟩
  · rcases b.new x y with z | z
    · exact a.new x z
    · exact .inr (back x z)
  · rcases b.nw x y with z | z
    · exact a.nw x z
    · exact .inr (back x z)
  · refine a.x.two (P2 := fun _ => True) b.x e q ?_
    rcases q with q | q
    · left
      intro z
      rcases a.nw c z with y | y
      · exact q y
      · rw [e] at y; cases y
    · exact .inr q
theorem RS.there (r : RS K H P ι st) (h : ι1 <+: ι) : ∀ x ∈ ι1, H x ≠ none := fun x hx => r.pthere x (r.pin x (h.subset hx))
def rdS (K : PySem.W.Frag) (m : MS) : TS := fun D σ H => ∃ ι P env st, At K H P ι σ env st ∧ ∃ r st', m env st = .ok r st' ∧ match r with
  | .nx env' => ∀ σ' H' ι' P', Gr ι P H ι' P' H' → At K H' P' ι' σ' env' st' → D.nx σ' H'
  | .rt v => ∀ u H' ι' P', Gr ι P H ι' P' H' → RS K H' P' ι' st' → RV K H' P' ι' u v → D.rt u H'
end
section
variable {X : Cx} {a b c e : Expr} {es : List Expr} {s0 s1 : Stmt} {ss : List Stmt} {ma mb mc : ME} {m m2 : MS} {mA : MA} {pos p p1 apos tpos : Pos} {x : Str}
theorem xs_nil : PSs X [] (rdS X.K sNil) :=
  PSs.mono pss_nil fun D σ H ⟨ι, P, env, st, A, r, st', e, q⟩ => by
    cases e
    exact q σ H ι P (Gr.of (ExtP.refl _ _)) A
theorem xs_one (h : PS X s0 (rdS X.K m)) : PSs X [s0] (rdS X.K m) := pss_one h
theorem xs_cons (h : PS X s0 (rdS X.K m)) (h2 : PSs X ss (rdS X.K m2)) : PSs X (s0 :: ss) (rdS X.K (sCons m m2)) :=
  PSs.mono (pss_cons h h2) fun D σ H ⟨ι, P, env, st, A, r, st', e, q⟩ => by
    obtain ⟨r1, st1, h1, e⟩ := bind_ok e
    refine ⟨ι, P, env, st, A, r1, st1, h1, ?_⟩
    cases r1 with
    | rt v =>
      cases e
      exact q
    | nx env1 =>
      intro σ1 H1 ι1 P1 g1 A1
      refine ⟨ι1, P1, env1, st1, A1, r, st', e, ?_⟩
      have hh := A1.s.there g1.pre
      cases r with
      | nx env' => exact fun σ' H' ι' P' g A' => q σ' H' ι' P' (g1.trans g hh) A'
      | rt v => exact fun u H' ι' P' g r2 rv => q u H' ι' P' (g1.trans g hh) r2 rv
theorem xs_pass : PS X (.Pass pos) (rdS X.K sNil) :=
  PS.mono ps_pass fun D σ H ⟨ι, P, env, st, A, r, st', e, q⟩ => by
    cases e
    exact q σ H ι P (Gr.of (ExtP.refl _ _)) A
theorem xs_bad : PS X s0 (rdS X.K sBad) :=
  PS.mono (ps_never) fun D σ H ⟨ι, P, env, st, A, r, st', e, q⟩ => by cases e
theorem xs_ret (ha : PE X a (rdE X.K ma)) : PS X (.Return (some a) pos) (rdS X.K (sRet ma)) :=
  PS.mono (ps_ret ha) fun D σ H ⟨ι, P, env, st, A, r, st', e, q⟩ => by
    obtain ⟨v, s1, h1, e⟩ := bind_ok e
    cases e
    exact rdE.bind A h1 fun u H1 x1 A1 r1 => q u H1 ι P (Gr.of x1) A1.s r1
theorem xs_retN : PS X (.Return none pos) (rdS X.K sRetN) :=
  PS.mono ps_retN fun D σ H ⟨ι, P, env, st, A, r, st', e, q⟩ => by
    cases e
    exact q _ H ι P (Gr.of (ExtP.refl _ _)) A.s (.dat .non)
theorem xs_if {t1 t2 : List Stmt} (hc : PT X c (rdT X.K (tOf mc))) (h1 : PSs X t1 (rdS X.K m)) (h2 : PSs X t2 (rdS X.K m2)) : PS X (.If c t1 t2 pos) (rdS X.K (sIf mc m m2)) :=
  PS.mono (ps_if hc h1 h2) fun D σ H ⟨ι, P, env, st, A, r, st', e, q⟩ => by
    obtain ⟨k, s1, g1, e⟩ := bind_ok e
    refine rdT.bind A g1 fun H1 x1 A1 => ?_
    have go : ∀ mm : MS, mm env s1 = .ok r st' → rdS X.K mm D σ H1 := fun mm em => by
      refine ⟨ι, P, env, s1, A1, r, st', em, ?_⟩
      have hh := A1.s.there (List.prefix_refl ι)
      cases r with
      | nx env' => exact fun σ' H' ι' P' g A' => q σ' H' ι' P' ((Gr.of x1).trans g hh) A'
      | rt v => exact fun u H' ι' P' g r2 rv => q u H' ι' P' ((Gr.of x1).trans g hh) r2 rv
    cases k with
    | true => exact iteT (go _ e)
    | false => exact iteF (go _ e)
theorem xs_exp (ha : PE X a (rdE X.K ma)) (hs : swapsWith a none pos.line X.env = pure false) : PS X (.Expr a pos) (rdS X.K (sExp ma)) :=
  PS.mono (ps_expr ha hs) fun D σ H ⟨ι, P, env, st, A, r, st', e, q⟩ => by
    obtain ⟨v, s1, h1, e⟩ := bind_ok e
    cases e
    exact rdE.bind A h1 fun u H1 x1 A1 r1 => q σ H1 ι P (Gr.of x1) A1
/-- name = e -/
theorem xs_set {i : Nat} (h : PS X s0 (tAsg (rdE X.K ma) (gName i))) : PS X s0 (rdS X.K (sSet i ma)) :=
  PS.mono h fun D σ H ⟨ι, P, env, st, A, r, st', e, q⟩ => by
    obtain ⟨v, s1, h1, e⟩ := bind_ok e
    cases e
    exact rdE.bind A h1 fun u H1 x1 A1 r1 => q _ H1 ι P (Gr.of x1) ⟨A1.e.set i r1, A1.s⟩
theorem prefix_get {α : Type} {l l' : List α} (h : l <+: l') {n : Nat} {v : α} (e : l[n]? = some v) : l'[n]? = some v := by
  obtain ⟨t, rfl⟩ := h
  rw [List.getElem?_append_left (List.getElem?_eq_some_iff.mp e).1]; exact e
theorem RE.grow {K : PySem.W.Frag} {H : Hp} {P : AP'} {ι ι' : List Addr} {σ : L2.St} {env : Env} (h : RE K H P ι σ env) (p : ι <+: ι') : RE K H P ι' σ env := ⟨h.len, fun i v e => by
  obtain ⟨u, h1, h2⟩ := h.at_ i v e
  refine ⟨u, h1, ?_⟩
  cases h2 with
  | dat r => exact .dat r
  | loc r => exact .loc (prefix_get p r)
  | scr r r2 => exact .scr r r2
  | dct r => exact .dct r
  | ftp q c d r => exact .ftp q c d r⟩
/-- name = a new list, changed later -/
theorem xs_new {i : Nat} (h : PS X s0 (tAsg (rdF X.K ma) (gName i))) : PS X s0 (rdS X.K (sNew i ma)) :=
  PS.mono h fun D σ H ⟨ι, P, env, st, A, r, st', e, q⟩ => by
    obtain ⟨v, s1, h1, e⟩ := bind_ok (noX_ok e)
    split at e
    · rename_i ds
      cases e
      refine ⟨ι, P, env, st, A, ds, s1, h1, fun a H1 xs hn x1 r1 ha hr => ?_⟩
      have hni : a ∉ ι := fun z => A.s.pthere a (A.s.pin a z) hn
      have hxP : ExtP (Pl P a) H H1 := x1.mono fun y z => .inl (A.s.pin y z)
      refine q _ H1 (ι ++ [a]) (Pl P a) ⟨List.prefix_append _ _, fun y z => .inl z, fun y z => z.imp id fun w => by rw [w]; exact hn, fun y z => ?_, x1⟩ ⟨?_, ?_⟩
      · rcases List.mem_append.mp z with w | w
        · exact .inl w
        · rw [List.mem_singleton.mp w]; exact .inr hn
      · refine RE.set (((A.e.toP (P' := Pl P a) fun y z => z.imp id fun w => by rw [w]; exact hn).ext hxP).grow (List.prefix_append _ _)) i (.loc ?_)
        rw [← r1.len, List.getElem?_append_right (Nat.le_refl _), Nat.sub_self]; rfl
      · refine ⟨by rw [List.length_append, List.length_append, r1.len]; rfl, ?_, fun y z => ?_, r1.pthere, fun n y z => ?_, r1.tb⟩
        · refine List.nodup_append.mpr ⟨r1.nd, List.nodup_cons.mpr ⟨List.not_mem_nil, List.nodup_nil⟩, fun y hy w hw => ?_⟩
          rw [List.mem_singleton.mp hw]
          exact fun z => hni (by rw [← z]; exact hy)
        · rcases List.mem_append.mp z with w | w
          · exact r1.pin y w
          · exact .inr (List.mem_singleton.mp w)
        · by_cases hl : n < ι.length
          · rw [List.getElem?_append_left hl] at z
            obtain ⟨es, ys, g1, g2, g3⟩ := r1.at_ n y z
            exact ⟨es, ys, by rw [List.getElem?_append_left (by rw [← r1.len]; exact hl)]; exact g1, g2, g3⟩
          · have hl2 : n = ι.length := by
              have := (List.getElem?_eq_some_iff.mp z).1
              rw [List.length_append] at this
              simp only [List.length_cons, List.length_nil] at this
              omega
            subst hl2
            rw [List.getElem?_append_right (Nat.le_refl _), Nat.sub_self] at z
            cases z
            exact ⟨ds, xs, by rw [r1.len, List.getElem?_append_right (Nat.le_refl _), Nat.sub_self]; rfl, ha, hr⟩
    · cases e
/-- targets = e -/
theorem xs_unp {tg : TG} {t : Expr} (ha : PE X a (rdE X.K ma)) (hg : PG X t (rdG X.K tg)) (hs : swapsWithSole [t] a pos.line X.env = pure false) (hw : swappedStores [t] a X.env = pure none) (hn : noStar t = true) : PS X (.Assign [t] a pos) (rdS X.K (sUnp tg ma)) :=
  PS.mono (ps_asg ha hg hs hw (each_cons hn)) fun D σ H ⟨ι, P, env, st, A, r, st', e, q⟩ => by
    obtain ⟨v, s1, h1, e⟩ := bind_ok (noX_ok e)
    refine rdE.bind A h1 fun u H1 x1 A1 r1 => ?_
    split at e
    · split at e
      · rename_i env' hp
        cases e
        exact ⟨ι, P, env, _, _, env', A1, r1.dat', hp, fun σ' R B => q σ' H1 ι P (Gr.of x1) ⟨R, A1.s⟩⟩
      · cases e
    · cases e
/-- o[i] = e -/
theorem xs_sub (ha : PE X a (rdE X.K ma)) (ho : PE X b (rdE X.K mb)) (hi : PE X c (rdE X.K mc)) (hs : swapsWithSole [.Subscript b c p] a pos.line X.env = pure false) (hw : swappedStores [.Subscript b c p] a X.env = pure none)
    (hx : ∀ v, assign (.Subscript b c p) X.env v = (do
      let ov ← holding [v] (eval b X.env)
      let iv ← holding [v, ov] (eval c X.env)
      standAt p
      holding [v, ov, iv] (setItem ov iv v)
      release [v, ov, iv] [])) : PS X (.Assign [.Subscript b c p] a pos) (rdS X.K (sSub mb mc ma)) :=
  PS.mono (ps_asg ha (pg_sub ho hi set_list hx) hs hw (each_cons rfl)) fun D σ H ⟨ι, P, env, st, A, r, st', e, q⟩ => by
    obtain ⟨v, s1, h1, e⟩ := bind_ok (noX_ok e)
    obtain ⟨ov, s2, h2, e⟩ := bind_ok e
    obtain ⟨iv, s3, h3, e⟩ := bind_ok e
    refine rdE.bind A h1 fun u H1 x1 A1 r1 => rdE.bind A1 h2 fun w H2 x2 A2 r2 => rdE.bind A2 h3 fun z H3 x3 A3 r3 => ?_
    have r1' := (r1.ext (A1.s.extP x2)).ext (A2.s.extP x3)
    have r2' := r2.ext (A2.s.extP x3)
    split at e
    · split at e
      · rename_i s4 hput
        cases e
        unfold putAt at hput
        split at hput
        · split at hput
          · rename_i ds hds
            split at hput
            · rename_i j hj
              cases hput
              obtain ⟨l, rfl, hl⟩ := r2'.loc'
              cases r3.dat'
              obtain ⟨ds', xs, g1, g2, g3⟩ := A3.s.at_ _ l hl
              rw [hds] at g1; cases g1
              obtain ⟨y1, y2⟩ := A3.s.upd hl hds (RpAll.set r1'.dat' j g3)
              have hx := ((x1.trans x2).trans x3).trans y1
              exact ⟨l, xs, _, j, rfl, rfl, g2, by rw [g3.length]; exact hj, q σ _ ι P (Gr.of hx) ⟨A3.e.ext (A3.s.extP y1), y2⟩⟩
            · cases hput
          · cases hput
        · cases hput
      · cases e
    · cases e
/-- many at once -/
theorem setsE_re {K : PySem.W.Frag} {H : Hp} {P : AP'} {ι : List Addr} : ∀ {is : List Nat} {us : List V} {vs : List Vl} {σ : L2.St} {env env' : Env}, Paired (RV K H P ι) us vs → setsE is vs env = some env' → RE K H P ι σ env →
    us.length = is.length ∧ RE K H P ι ((is.zip us).foldl (fun σ q => σ.set q.1 (some q.2)) σ) env'
  | [], _, _, _, _, _, .nil, e, r => by unfold setsE at e; cases e; exact ⟨rfl, r⟩
  | [], _, _, _, _, _, .cons _ _, e, r => by unfold setsE at e; cases e
  | _ :: _, _, _, _, _, _, .nil, e, r => by unfold setsE at e; cases e
  | i :: is, _, _, _, _, _, .cons q t, e, r => by
    unfold setsE at e
    obtain ⟨h1, h2⟩ := setsE_re t e (r.set i q)
    exact ⟨by rw [List.length_cons, List.length_cons, h1], h2⟩
/-- a, b, .. = x, y, .. by any road -/
theorem xs_par {is : List Nat} {ts : TS} (h : PS X s0 ts) (hq : ∀ D σ H, (rdA X.K mA σ H fun vs H1 => vs.length = is.length ∧ D.nx ((is.zip vs).foldl (fun σ q => σ.set q.1 (some q.2)) σ) H1) → ts D σ H) : PS X s0 (rdS X.K (sPar is mA)) :=
  PS.mono h fun D σ H ⟨ι, P, env, st, A, r, st', e, q⟩ => by
    obtain ⟨v, s1, h1, e⟩ := bind_ok (noX_ok e)
    refine hq D σ H (rdA.bind A h1 fun u H1 x1 A1 r1 => ?_)
    split at e
    · rename_i env' hs
      cases e
      obtain ⟨g1, g2⟩ := setsE_re r1 hs A1.e
      exact ⟨g1, q _ H1 ι P (Gr.of x1) ⟨g2, A1.s⟩⟩
    · cases e
end

/-! ### loops -/
def forIt (nx : Nat → Sto → Option (Option PyData)) (tg : TG) (body : MS) : Nat → Nat → MS
  | 0, _, _, _ => .bad
  | k + 1, i, env, s => match nx i s with
    | some (some x) => match tg.put x env with
      | some env => (body env s).bind fun r s => match r with
        | .nx env => forIt nx tg body k (i + 1) env s
        | .rt v => .ok (.rt v) s
      | none => .bad
    | some none => .ok (.nx env) s
    | none => .bad
theorem forGo_it {tg : TG} {body : MS} {xs : List PyData} : ∀ (n i : Nat) (env : Env) (s : Sto) (r : SR) (s' : Sto), i + n = xs.length → forGo body tg (xs.drop i) env s = .ok r s' → forIt (nxt (.its xs)) tg body (n + 1) i env s = .ok r s'
  | 0, i, env, s, r, s', hi, h => by
    rw [List.drop_eq_nil_of_le (by omega)] at h
    unfold forIt
    simp only [nxt, List.getElem?_eq_none (show xs.length ≤ i by omega)]
    exact h
  | n + 1, i, env, s, r, s', hi, h => by
    have hlt : i < xs.length := by omega
    rw [List.drop_eq_getElem_cons hlt] at h
    unfold forGo at h
    unfold forIt
    simp only [nxt, List.getElem?_eq_getElem hlt]
    split at h
    · rename_i env1 hp
      try simp only [hp]
      obtain ⟨r1, s1, h1, h⟩ := bind_ok h
      simp only [h1, Out.bind]
      cases r1 with
      | nx env2 => exact forGo_it n (i + 1) env2 s1 r s' (by omega) h
      | rt v => exact h
    · cases h
theorem forAt_it {tg : TG} {body : MS} {n : Nat} : ∀ (k i : Nat) (env : Env) (s : Sto) (r : SR) (s' : Sto), forAt body tg n k i env s = .ok r s' → forIt (nxt (.at_ n)) tg body k i env s = .ok r s'
  | 0, i, env, s, r, s', h => by unfold forAt at h; cases h
  | k + 1, i, env, s, r, s', h => by
    unfold forAt at h
    unfold forIt
    split at h
    · rename_i xs hs
      simp only [nxt, hs]
      split at h
      · rename_i x hx
        simp only [hx]
        split at h
        · rename_i env1 hp
          try simp only [hp]
          obtain ⟨r1, s1, h1, h⟩ := bind_ok h
          simp only [h1, Out.bind]
          cases r1 with
          | nx env2 => exact forAt_it k (i + 1) env2 s1 r s' h
          | rt v => exact h
        · cases h
      · rename_i hx
        simp only [hx]
        exact h
    · cases h
section
variable {X : Cx} {tg c : Expr} {iter : Expr} {body : List Stmt} {t : TG} {mi : MI} {m : MS} {mc : ME} {pos : Pos}
theorem WalkG.next {K : PySem.W.Frag} {P P1 : AP'} {ι ι1 : List Addr} {J : It} {src : Src} {H H1 : Hp} (w : WalkG K P ι J src H) (g : Gr ι P H ι1 P1 H1) (hp : ∀ a ∈ ι, P a) (hh : ∀ x ∈ ι, H1 x ≠ none) : WalkG K P1 ι1 J src H1 := fun P' ι' st' H' p f x r => by
  have back : ∀ x, H1 x = none → H x = none := fun x e => by
    cases z : H x with
    | none => rfl
    | some o =>
      by_cases y : x ∈ ι
      · exact absurd e (hh x y)
      · exact (g.x.there z y e).elim
  refine w P' ι' st' H' (g.pre.trans p) (fun a h => ?_) (fun b o e q => ?_) r
  · rcases f a h with z | z
    · exact g.new a z
    · exact .inr (back a z)
  · exact g.x.two (P2 := fun _ => True) x e (q.imp (fun y z => y (r.pin b ((g.pre.trans p).subset z))) id) q
theorem xs_for (hp : PassesOwn (model X.prog X.w) X.A X.env X.xe) (hc : X.calm = true) (hi : PI X tg iter (rdI X.K mi)) (hg : PG X tg (rdG X.K t)) (hb : PSs X body (rdS X.K m)) (hs : ∀ x, foldedSetIterable iter X.env x = pure x) : PS X (.For tg iter body [] pos) (rdS X.K (sFor mi t m)) :=
  PS.mono (ps_for hp hc hi hg hb hs) fun D σ H ⟨ι, P, env, st, A, r, st', e, q⟩ => by
    obtain ⟨src, s1, h1, e⟩ := bind_ok (noX_ok e)
    have hrun : ∃ k, forIt (nxt src) t m k 0 env s1 = .ok r st' := by
      split at e
      · exact ⟨_, forGo_it _ 0 env s1 r st' (Nat.zero_add _) e⟩
      · split at e
        · exact ⟨_, forAt_it _ _ _ _ _ _ e⟩
        · cases e
    obtain ⟨k0, hk0⟩ := hrun
    refine ⟨ι, P, env, st, A, src, s1, h1, fun J H1 x1 r1 w => ?_⟩
    have A1 := A.next x1 r1
    refine ⟨fun i k σ' H' => ∃ ι' P' env' s', Gr ι P H ι' P' H' ∧ At X.K H' P' ι' σ' env' s' ∧ WalkG X.K P' ι' J src H' ∧ forIt (nxt src) t m k i env' s' = .ok r st', ⟨k0, ι, P, env, s1, Gr.of x1, A1, w, hk0⟩, ?_⟩
    rintro i k σ' H' ⟨ι', P', env', s', g, A', w', hit⟩
    cases k with
    | zero => unfold forIt at hit; cases hit
    | succ k =>
      unfold forIt at hit
      obtain ⟨w1, w2⟩ := w' P' ι' s' H' (List.prefix_refl _) (fun a h => .inl h) (ExtP.refl _ _) A'.s i
      split at hit
      · rename_i d hn
        obtain ⟨w3, w4⟩ := w2 d hn
        split at hit
        · rename_i env2 hput
          obtain ⟨r2, s2, h2, hit⟩ := bind_ok hit
          refine .inr ⟨w3, fun σ3 H3 => ∃ k', k' < k + 1 ∧ ∃ ι' P' env' s', Gr ι P H ι' P' H3 ∧ At X.K H3 P' ι' σ3 env' s' ∧ WalkG X.K P' ι' J src H3 ∧ forIt (nxt src) t m k' (i + 1) env' s' = .ok r st', fun σ3 H3 z => z, fun x H2 hy => ?_⟩
          obtain ⟨sm, rx⟩ := w4 x H2 hy
          refine ⟨ι', P', env', s', d, env2, ⟨A'.e.ext (.same sm), A'.s.same sm⟩, rx, hput, fun σ2 R2 _ => ?_⟩
          refine ⟨ι', P', env2, s', ⟨R2, A'.s.same sm⟩, r2, s2, h2, ?_⟩
          have g3 : Gr ι P H ι' P' H2 := g.trans (Gr.of (.same sm)) (A'.s.there g.pre)
          have h2' := (A'.s.same sm).there g.pre
          have w5 : WalkG X.K P' ι' J src H2 := w'.next (Gr.of (.same sm)) A'.s.pin ((A'.s.same sm).there (List.prefix_refl _))
          cases r2 with
          | nx env3 => exact fun σ3 H3 ι3 P3 g4 A3 => ⟨k, Nat.lt_succ_self _, ι3, P3, env3, s2, g3.trans g4 h2', A3, w5.next g4 A'.s.pin (A3.s.there g4.pre), hit⟩
          | rt v =>
            cases hit
            exact fun u H3 ι3 P3 g4 r4 rv => q u H3 ι3 P3 (g3.trans g4 h2') r4 rv
        · cases hit
      · rename_i hn
        cases hit
        exact .inl ⟨w1 hn, q σ' H' ι' P' g A'⟩
      · cases hit
theorem xs_wh (hp : PassesOwn (model X.prog X.w) X.A X.env X.xe) (hc : PT X c (rdT X.K (tOf mc))) (hb : PSs X body (rdS X.K m)) : PS X (.While c body [] pos) (rdS X.K (sWh mc m)) :=
  PS.mono (ps_while hp hc hb) fun D σ H ⟨ι, P, env, st, A, r, st', e, q⟩ => by
    refine ⟨fun k σ' H' => ∃ ι' P' env' s', Gr ι P H ι' P' H' ∧ At X.K H' P' ι' σ' env' s' ∧ whGo mc m k env' s' = .ok r st', ⟨16384, ι, P, env, st, Gr.of (ExtP.refl _ _), A, noX_ok e⟩, ?_⟩
    rintro k σ' H' ⟨ι', P', env', s', g, A', hit⟩
    cases k with
    | zero => unfold whGo at hit; cases hit
    | succ k =>
      unfold whGo at hit
      obtain ⟨b, s1, h1, hit⟩ := bind_ok hit
      refine rdT.bind A' h1 fun H1 x1 A1 => ?_
      have g1 : Gr ι P H ι' P' H1 := g.trans (Gr.of x1) (A'.s.there g.pre)
      cases b with
      | true =>
        obtain ⟨r2, s2, h2, hit⟩ := bind_ok hit
        refine iteT ⟨fun σ3 H3 => ∃ k', k' < k + 1 ∧ ∃ ι' P' env' s', Gr ι P H ι' P' H3 ∧ At X.K H3 P' ι' σ3 env' s' ∧ whGo mc m k' env' s' = .ok r st', fun σ3 H3 z => z, ι', P', env', s1, A1, r2, s2, h2, ?_⟩
        have hh := A1.s.there g.pre
        cases r2 with
        | nx env3 => exact fun σ3 H3 ι3 P3 g4 A3 => ⟨k, Nat.lt_succ_self _, ι3, P3, env3, s2, g1.trans g4 hh, A3, hit⟩
        | rt v =>
          cases hit
          exact fun u H3 ι3 P3 g4 r4 rv => q u H3 ι3 P3 (g1.trans g4 hh) r4 rv
      | false =>
        cases hit
        exact iteF (q σ' H1 ι' P' g1 A1)
end

/-! ### a def -/
section
variable {K : PySem.W.Frag} {ι ι' : List Addr} {P P' : AP'} {H H' : Hp} {st st' : Sto}
theorem RS.pop (r : RS K H' P' ι' st') (p : ι <+: ι') (hP : ∀ a, P a → P' a) (hp : ∀ a ∈ ι, P a) : RS K H' P ι (st'.take ι.length) := by
  have hlen : ι.length ≤ ι'.length := p.length_le
  refine ⟨?_, r.nd.sublist p.sublist, hp, fun a z => r.pthere a (hP a z), fun n a e => ?_, r.tb⟩
  · rw [List.length_take, ← r.len]; omega
  · obtain ⟨ds, xs, h1, h2, h3⟩ := r.at_ n a (prefix_get p e)
    refine ⟨ds, xs, ?_, h2, h3.toP (fun x hx => .inl (hP x hx)) _ _⟩
    rw [List.getElem?_take_of_lt (List.getElem?_eq_some_iff.mp e).1]; exact h1
theorem start_re {np nn : Nat} {N : List Str} {vs : List V} {xs : List Vl} (h : Paired (RV K H P ι) vs xs) (hl : vs.length = np) (hN : N.length = nn) : RE K H P ι (L2.start N vs) (xs.map some ++ List.replicate (nn - np) none) := by
  have hx := paired_len h
  refine ⟨?_, fun i v e => ?_⟩
  · unfold L2.start
    rw [List.length_append, List.length_append, List.length_map, List.length_map, List.length_replicate, List.length_replicate, hN, hl, ← hx, hl]
  · by_cases hi : i < xs.length
    · rw [List.getElem?_append_left (by rw [List.length_map]; exact hi), List.getElem?_map] at e
      have key : ∀ {vs : List V} {xs : List Vl} {i : Nat} {x : Vl}, Paired (RV K H P ι) vs xs → xs[i]? = some x → ∃ v, vs[i]? = some v ∧ RV K H P ι v x := by
        intro vs xs i x h
        induction h generalizing i with
        | nil => intro e; simp at e
        | cons r t ih =>
          intro e
          cases i with
          | zero => simp at e; subst e; exact ⟨_, rfl, r⟩
          | succ i => exact (ih (by simpa using e)).imp fun v z => ⟨by simpa using z.1, z.2⟩
      cases hq : xs[i]? with
      | none => rw [hq] at e; cases e
      | some x =>
        rw [hq] at e
        cases e
        obtain ⟨w, h1, h2⟩ := key h hq
        refine ⟨w, ?_, h2⟩
        unfold L2.start
        rw [List.getElem?_append_left (by rw [List.length_map, hx]; exact hi), List.getElem?_map, h1]; rfl
    · rw [List.getElem?_append_right (by rw [List.length_map]; omega), List.getElem?_replicate] at e
      split at e <;> cases e
theorem fn_read {np nn : Nat} {N : List Str} {m : MS} {vs : List V} {Q : VK} {E : XK} (hN : N.length = nn) (h : spOf K (fnS np nn m) vs H Q E) : rdS K m { nx := fun _ H' => Q .non H', rt := Q } (L2.start N vs) H := by
  obtain ⟨ι, P, xs, st, r, hv, v, st', e, q⟩ := h
  unfold fnS at e
  split at e
  · rename_i hl
    have hl := beq_iff_eq.mp hl
    have R := start_re (N := N) (nn := nn) hv ((paired_len hv).trans hl) hN
    have fin : ∀ {ι' : List Addr} {P' : AP'} {H' : Hp} {s1 : Sto}, Gr ι P H ι' P' H' → RS K H' P' ι' s1 → RS K H' P ι (s1.take st.length) := fun g r2 => by
      rw [← r.len]; exact r2.pop g.pre g.inc r.pin
    split at e
    · rename_i env1 s1 hm
      cases e
      exact ⟨ι, P, _, st, ⟨R, r⟩, _, _, hm, fun σ' H' ι' P' g A' => q _ H' g.x (fin g A'.s) (.dat .non)⟩
    · rename_i v1 s1 hm
      refine ⟨ι, P, _, st, ⟨R, r⟩, _, _, hm, fun u H' ι' P' g r2 rv => ?_⟩
      unfold freeze at e
      split at e
      · cases e
        exact q u H' g.x (fin g r2) (.dat (rv.dat'.toP (fun x hx => .inl (g.inc x hx)) _ _))
      · rename_i n
        obtain ⟨l, rfl, hl2⟩ := rv.loc'
        split at e
        · rename_i hlt
          cases e
          refine q _ H' g.x (fin g r2) (.loc ?_)
          have hlt := Nat.le_of_ble_eq_true hlt
          have hn : n < ι.length := by rw [r.len]; exact hlt
          have h3 := prefix_get g.pre (List.getElem?_eq_getElem hn)
          rw [h3] at hl2
          cases hl2
          exact List.getElem?_eq_getElem hn
        · rename_i hlt
          split at e
          · rename_i ds hds
            cases e
            obtain ⟨ds', ys, g1, g2, g3⟩ := r2.at_ n l hl2
            rw [hds] at g1; cases g1
            refine q _ H' g.x (fin g r2) (.dat (.lst g2 (fun z => ?_) (g3.toP (fun x hx => .inl (g.inc x hx)) _ _)))
            rcases g.nw l (List.mem_of_getElem? hl2) with y | y
            · obtain ⟨j, hj, hje⟩ := List.mem_iff_getElem.mp y
              have h3 := prefix_get g.pre (List.getElem?_eq_getElem hj)
              rw [hje] at h3
              have e1 : j = n := (List.getElem?_inj (List.getElem?_eq_some_iff.mp h3).1 r2.nd).mp (h3.trans hl2.symm)
              apply hlt
              apply Nat.ble_eq_true_of_le
              rw [← e1, ← r.len]
              exact hj
            · exact r.pthere l z y
          · cases e
      · cases e
      · cases e
      · cases e
        refine q u H' g.x (fin g r2) ?_
        cases rv with
        | ftp q c d r => exact .ftp q c d (r.toP (fun x hx => .inl (g.inc x hx)) _ _)
    · cases e
    · cases e
  · cases e
theorem fn_len {np nn : Nat} {m : MS} {vs : List V} {Q : VK} {E : XK} (h : spOf K (fnS np nn m) vs H Q E) : vs.length = np := by
  obtain ⟨ι, P, xs, st, r, hv, v, st', e, q⟩ := h
  unfold fnS at e
  split at e
  · rename_i hl
    exact (paired_len hv).trans (beq_iff_eq.mp hl)
  · cases e
end
/-- a def keeps what its body gives -/
theorem fn_ok {gd : Bool} {Pg : Program} {w : World} {K : PySem.W.Frag} {mg : Str → Option Value} {base : Heap} {CX : CXT} {qn qual : Str} {params : Arguments} {body : List Stmt} {scope : Scope} {f : Addr} {fd : FuncData} {N ps : List Str} {k np nn : Nat} {m : MS}
    (F : FunD K qn qual params body scope [] [] f fd) (S : FnScope N ps scope) (hN : N.length = nn) (hp : ps.length = np)
    (h : ∀ (cdv : Value) (A : Around) (outer : List PySem.Env) (s : Shared) (H : Hp) (E : XK), (gd = true → A.guards = some []) → DefAt K f qual cdv → Room k (A.deeper (envOfC qual scope s.heap.objs.size f cdv)) → PSs (cxOf CX Pg w K mg base N qual scope f cdv A outer s H E).nox body (rdS K m)) :
    FnG gd Pg w K mg base CX (k + 1) f fd ps (spOf K (fnS np nn m)) := by
  obtain ⟨oc, od, dV, kV, doc, pm, an, cdv, ct, osl, rfl, lk, hcd, _, _⟩ := F.ex
  refine ⟨fun vs H Q E z => (fn_len z).trans hp.symm, fun A outer s H args us vs Q E hr hg e0 hb r z => ?_⟩
  exact LamX.run_ofS lk hcd S hr e0 hb r ((fn_len z).trans hp.symm) fun hr' => ⟨_, (h cdv A outer s H E hg ⟨_, _, _, _, lk, rfl, rfl⟩ hr').nox, fn_read hN z⟩
section
variable {X : Cx} {s0 : Stmt} {ma : ME} {t : TG} {m : MS}
theorem forB_ok {it : MI} {t : TG} {m : MS} {env : Env} {st st' : Sto} {r : SR} (h : sForB it t m env st = .ok r st') : sFor it t m env st = .ok r st' := by
  obtain ⟨src, s1, h1, e⟩ := bind_ok h
  unfold sFor
  rw [noX_ok h1]
  show noX (Out.bind (.ok src s1) _) = _
  simp only [Out.bind]
  rw [e]
  rfl
theorem xs_forB {it : MI} (h : PS X s0 (rdS X.K (sFor it t m))) : PS X s0 (rdS X.K (sForB it t m)) :=
  PS.mono h fun D σ H ⟨ι, P, env, st, A, r, st', e, q⟩ => ⟨ι, P, env, st, A, r, st', forB_ok e, q⟩
theorem xs_forXB (h : PS X s0 (rdS X.K (sForX ma t m))) : PS X s0 (rdS X.K (sForXB ma t m)) :=
  PS.mono h fun D σ H ⟨ι, P, env, st, A, r, st', e, q⟩ => by
    obtain ⟨x, s1, h1, e⟩ := bind_ok e
    refine ⟨ι, P, env, st, A, r, st', ?_, q⟩
    unfold sForX
    rw [h1]
    exact forB_ok e
theorem xs_pre (h : PS X s0 (rdS X.K m)) : PS X s0 (rdS X.K (sPre ma m)) :=
  PS.mono h fun D σ H ⟨ι, P, env, st, A, r, st', e, q⟩ => by
    refine ⟨ι, P, env, st, A, r, st', ?_, q⟩
    unfold sPre at e
    split at e
    · cases e
    · exact e
theorem xs_forX (h : PS X s0 (rdS X.K (sFor (iSeq ma) t m))) : PS X s0 (rdS X.K (sForX ma t m)) :=
  PS.mono h fun D σ H ⟨ι, P, env, st, A, r, st', e, q⟩ => by
    obtain ⟨x, s1, h1, e⟩ := bind_ok e
    refine ⟨ι, P, env, st, A, r, st', ?_, q⟩
    have k : iSeq ma env st = iSeq (fun _ s => .ok x s) env s1 := by
      unfold iSeq
      simp only [h1, Out.bind]
    unfold sFor at e ⊢
    rw [k]
    exact e
end
end Ev
/-! EvParN: a, b = [..], e with a list that is changed later. -/
namespace Ev
open PySem PySem.Spec PyProof.Rows L2

/-- the values of arguments, some of them new lists -/
def rdAN (K : PySem.W.Frag) (m : MA) : TA := fun σ H Q => ∃ ι P env st, At K H P ι σ env st ∧ ∃ vs st', m env st = .ok vs st' ∧
  ∀ us H' ι' P', Gr ι P H ι' P' H' → At K H' P' ι' σ env st' → Paired (RV K H' P' ι') us vs → Q us H'
section
variable {K : PySem.W.Frag} {ι ι' : List Addr} {P P' : AP'} {H H1 : Hp} {σ : L2.St} {env : Env} {st s1 : Sto}
theorem new_at {a : Addr} {xs : List V} {ds : List PyData} (A : At K H P ι σ env st) (hn : H a = none) (x1 : Ext ι H H1) (r1 : RS K H1 (Pl P a) ι s1) (ha : H1 a = some (.lst xs)) (hr : RpAll K H1 (Pl P a) xs ds) :
    Gr ι P H (ι ++ [a]) (Pl P a) H1 ∧ At K H1 (Pl P a) (ι ++ [a]) σ env (s1 ++ [.lst ds]) ∧ (ι ++ [a])[s1.length]? = some a := by
  have hni : a ∉ ι := fun z => A.s.pthere a (A.s.pin a z) hn
  have hxP : ExtP (Pl P a) H H1 := x1.mono fun y z => .inl (A.s.pin y z)
  have hg : (ι ++ [a])[s1.length]? = some a := by rw [← r1.len, List.getElem?_append_right (Nat.le_refl _), Nat.sub_self]; rfl
  refine ⟨⟨List.prefix_append _ _, fun y z => .inl z, fun y z => z.imp id fun w => by rw [w]; exact hn, fun y z => ?_, x1⟩, ⟨((A.e.toP (P' := Pl P a) fun y z => z.imp id fun w => by rw [w]; exact hn).ext hxP).grow (List.prefix_append _ _), ?_⟩, hg⟩
  · rcases List.mem_append.mp z with w | w
    · exact .inl w
    · rw [List.mem_singleton.mp w]; exact .inr hn
  · refine ⟨by rw [List.length_append, List.length_append, r1.len]; rfl, ?_, fun y z => ?_, r1.pthere, fun n y z => ?_, r1.tb⟩
    · refine List.nodup_append.mpr ⟨r1.nd, List.nodup_cons.mpr ⟨List.not_mem_nil, List.nodup_nil⟩, fun y hy w hw => ?_⟩
      rw [List.mem_singleton.mp hw]
      exact fun z => hni (by rw [← z]; exact hy)
    · rcases List.mem_append.mp z with w | w
      · exact r1.pin y w
      · exact .inr (List.mem_singleton.mp w)
    · by_cases hl : n < ι.length
      · rw [List.getElem?_append_left hl] at z
        obtain ⟨es, ys, g1, g2, g3⟩ := r1.at_ n y z
        exact ⟨es, ys, by rw [List.getElem?_append_left (by rw [← r1.len]; exact hl)]; exact g1, g2, g3⟩
      · have hl2 : n = ι.length := by
          have := (List.getElem?_eq_some_iff.mp z).1
          rw [List.length_append] at this
          simp only [List.length_cons, List.length_nil] at this
          omega
        subst hl2
        rw [List.getElem?_append_right (Nat.le_refl _), Nat.sub_self] at z
        cases z
        exact ⟨ds, xs, by rw [r1.len, List.getElem?_append_right (Nat.le_refl _), Nat.sub_self]; rfl, ha, hr⟩
theorem RV.gr {u : V} {v : Vl} (g : Gr ι P H ι' P' H1) (pin : ∀ a ∈ ι, P a) (r : RV K H P ι u v) : RV K H1 P' ι' u v := by
  have x : ExtP P' H H1 := g.x.mono fun y z => g.inc y (pin y z)
  have e : RE K H P ι [some u] [some v] := ⟨rfl, fun i w e => by
    match i, e with
    | 0, e => cases e; exact ⟨u, rfl, r⟩
    | i + 1, e => simp at e⟩
  obtain ⟨u', e1, e2⟩ := (((e.toP (P' := P') g.new).ext x).grow g.pre).at_ 0 v rfl
  cases e1
  exact e2
end
section
variable {X : Cx} {a : Expr} {es : List Expr} {ma : ME} {m : MA}
theorem xan_of (h : PA X es (rdA X.K m)) : PA X es (rdAN X.K m) :=
  PA.mono h fun σ H Q ⟨ι, P, env, st, A, w, st', e, q⟩ => ⟨ι, P, env, st, A, w, st', e, fun us H' x r w => q us H' ι P (Gr.of x) (A.next x r) w⟩
theorem xan_nil : PA X [] (rdAN X.K aNil) := xan_of xa_nil
theorem xan_cons (ha : PE X a (rdE X.K ma)) (hr : PA X es (rdAN X.K m)) (hs : noStar a = true) : PA X (a :: es) (rdAN X.K (aCons ma m)) :=
  PA.mono (pa_cons ha hr (star_cons hs)) fun σ H Q ⟨ι, P, env, st, A, w, st', e, q⟩ => by
    obtain ⟨x, s1, h1, e⟩ := bind_ok e
    obtain ⟨y, s2, h2, e⟩ := bind_ok e
    cases e
    refine rdE.bind A h1 fun u H1 x1 A1 r1 => ?_
    exact ⟨ι, P, env, s1, A1, y, _, h2, fun us H2 ι' P' g A2 w => q _ H2 ι' P' ((Gr.of x1).trans g (A1.s.there (List.prefix_refl ι))) A2 (.cons (r1.gr g A1.s.pin) w)⟩
theorem xan_new (ha : PE X a (rdF X.K ma)) (hr : PA X es (rdAN X.K m)) (hs : noStar a = true) : PA X (a :: es) (rdAN X.K (aNew ma m)) :=
  PA.mono (pa_cons ha hr (star_cons hs)) fun σ H Q ⟨ι, P, env, st, A, w, st', e, q⟩ => by
    obtain ⟨x, s1, h1, e⟩ := bind_ok e
    split at e
    · rename_i ds
      obtain ⟨y, s2, h2, e⟩ := bind_ok e
      cases e
      refine ⟨ι, P, env, st, A, ds, s1, h1, fun a H1 xs hn x1 r1 ha hr => ?_⟩
      obtain ⟨g1, A1, hl⟩ := new_at A hn x1 r1 ha hr
      refine ⟨ι ++ [a], Pl P a, env, s1 ++ [.lst ds], A1, y, _, h2, fun us H2 ι' P' g A2 w => q _ H2 ι' P' (g1.trans g fun z hz => ?_) A2 (.cons (.loc (prefix_get g.pre hl)) w)⟩
      obtain ⟨n, hn⟩ := List.mem_iff_getElem?.mp hz
      obtain ⟨_, _, _, e, _⟩ := r1.at_ n z hn
      rw [e]
      exact fun z => nomatch z
    · cases e
end
/-- what names stored at once want of their values' reading -/
structure ParA (K : PySem.W.Frag) (tA : TA) (mA : MA) : Prop where
  mono : ∀ {σ : L2.St} {H : Hp} {Q Q' : List V → Hp → Prop}, tA σ H Q → (∀ vs H, Q vs H → Q' vs H) → tA σ H Q'
  par : ∀ {is : List Nat} {D : Ends} {σ : L2.St} {H : Hp}, rdS K (sPar is mA) D σ H → tA σ H fun vs H1 => vs.length = is.length ∧ ∀ H2, Same H1 H2 → D.nx ((is.zip vs).foldl (fun σ q => σ.set q.1 (some q.2)) σ) H2
theorem parAN {K : PySem.W.Frag} {mA : MA} : ParA K (rdAN K mA) mA where
  mono := fun ⟨ι, P, env, st, A, vs, st', e, z⟩ q => ⟨ι, P, env, st, A, vs, st', e, fun us H' ι' P' g A2 w => q _ _ (z us H' ι' P' g A2 w)⟩
  par := fun {is D σ H} ⟨ι, P, env, st, A, r, st', e, q⟩ => by
    obtain ⟨v, s1, h1, e⟩ := bind_ok (noX_ok e)
    split at e
    · rename_i env' hs
      cases e
      refine ⟨ι, P, env, st, A, v, _, h1, fun us H1 ι' P' g A1 w => ?_⟩
      obtain ⟨g1, g2⟩ := setsE_re w hs A1.e
      refine ⟨g1, fun H2 sm => q _ H2 ι' P' ⟨g.pre, g.inc, g.new, g.nw, g.x.trans (.same sm)⟩ ⟨g2.ext (.same sm), A1.s.same sm⟩⟩
    · cases e
end Ev
/-! EvSwap: o[i], p[j] = a, b. -/
namespace Ev
open PySem PySem.Spec PyProof.Rows L2
/-- targets o[i], their values' data -/
def rdW (K : PySem.W.Frag) (ts : List (ME × ME)) : L2.TGs := fun vs σ H Q => ∃ ι P env st, At K H P ι σ env st ∧ ∃ ds st', RpAll K H P vs ds ∧ putsAt ts ds env st = .ok () st' ∧ ∀ H', Ext ι H H' → RS K H' P ι st' → Q σ H'
section
variable {X : Cx} {b c : Expr} {es : List Expr} {mb mc : ME} {ts : List (ME × ME)} {p pos : Pos} {k : Nat} {m : MA}
theorem xgw_nil : PGs X [] (rdW X.K []) :=
  PGs.mono pgs_nil fun v σ H Q ⟨ι, P, env, st, A, ds, st', r, e, q⟩ => by
    cases r with
    | nil =>
      unfold putsAt at e
      cases e
      exact ⟨rfl, q _ (ExtP.refl _ _) A.s⟩
    | cons _ _ => unfold putsAt at e; cases e
theorem xgw_cons (ho : PE X b (rdE X.K mb)) (hi : PE X c (rdE X.K mc)) (h2 : PGs X es (rdW X.K ts))
    (hx : ∀ v, assign (.Subscript b c p) X.env v = (do
      let ov ← holding [v] (eval b X.env)
      let iv ← holding [v, ov] (eval c X.env)
      standAt p
      holding [v, ov, iv] (setItem ov iv v)
      release [v, ov, iv] [])) : PGs X (.Subscript b c p :: es) (rdW X.K ((mb, mc) :: ts)) :=
  PGs.mono (pgs_cons (pg_sub ho hi set_list hx) h2 (each_cons rfl)) fun v σ H Q ⟨ι, P, env, st, A, ds, st', r, e, q⟩ => by
    cases r with
    | nil => unfold putsAt at e; cases e
    | cons r1 r2 =>
      unfold putsAt at e
      obtain ⟨ov, s1, h1, e⟩ := bind_ok e
      obtain ⟨iv, s2, h2, e⟩ := bind_ok e
      refine ⟨_, _, rfl, rdE.bind A h1 fun w H2 x2 A2 rw2 => rdE.bind A2 h2 fun z H3 x3 A3 rz => ?_⟩
      have hxx := x2.trans x3
      have r1' := (r1.ext (A.s.extP x2)).ext (A2.s.extP x3)
      have r2' := (r2.ext (A.s.extP x2) _ _).ext (A2.s.extP x3) _ _
      have rw' := rw2.ext (A2.s.extP x3)
      cases iv with
      | dat kd =>
        dsimp only at e
        split at e
        · rename_i s3 hput
          unfold putAt at hput
          split at hput
          · split at hput
            · rename_i dl hds
              split at hput
              · rename_i j hj
                cases hput
                obtain ⟨l, rfl, hl⟩ := rw'.loc'
                cases rz.dat'
                obtain ⟨ds', xs, g1, g2, g3⟩ := A3.s.at_ _ l hl
                rw [hds] at g1; cases g1
                obtain ⟨y1, y2⟩ := A3.s.upd hl hds (RpAll.set r1' j g3)
                have yP := A3.s.extP y1
                exact ⟨l, xs, _, j, rfl, rfl, g2, by rw [g3.length]; exact hj, ι, P, env, _, ⟨A3.e.ext yP, y2⟩, _, st', r2'.ext yP _ _, e, fun H' x r => q H' ((hxx.trans y1).trans x) r⟩
              · cases hput
            · cases hput
          · cases hput
        · cases e
      | _ => cases e
theorem xs_subs {t : List Expr} {k2 : Nat} {p2 : Pos} (hc : X.calm = true) (ha : PA X es (rdA X.K m)) (hg : PGs X t (rdW X.K ts)) (hl : t.length = ts.length) (hb : Nat.ble ts.length 1000 = true) (hts : t.all noStar = true) (hw : swappedStores [.Tuple t k p] (.Tuple es k2 p2) X.env = pure none) :
    PS X (.Assign [.Tuple t k p] (.Tuple es k2 p2) pos) (rdS X.K (sSubs ts m)) :=
  PS.mono (ps_asg (pe_tup ha) (pg_tup (n := t.length) hc hg each_len (each_star hts)) rfl hw (each_cons rfl)) fun D σ H ⟨ι, P, env, st, A, r, st', e, q⟩ => by
    obtain ⟨v, s1, h1, e⟩ := bind_ok (noX_ok e)
    refine rdA.bind A h1 fun u H1 x1 A1 r1 => ?_
    split at e
    · rename_i ds hd
      obtain ⟨⟨⟩, s2, h2, e⟩ := bind_ok e
      cases e
      have rp := dats_rp r1 hd
      have hlen : ∀ {ts : List (ME × ME)} {ds : List PyData} {env : Env} {s s' : Sto}, putsAt ts ds env s = .ok () s' → ds.length = ts.length := by
        intro ts
        induction ts with
        | nil => intro ds env s s' h; cases ds with
          | nil => rfl
          | cons _ _ => unfold putsAt at h; cases h
        | cons tt ts ih =>
          intro ds env s s' h
          cases ds with
          | nil => unfold putsAt at h; cases h
          | cons d ds =>
            unfold putsAt at h
            obtain ⟨ov, s1, _, h⟩ := bind_ok h
            obtain ⟨iv, s2, _, h⟩ := bind_ok h
            split at h
            · split at h
              · rw [List.length_cons, List.length_cons, ih h]
              · cases h
            · cases h
      have hll : u.length = t.length := by rw [rp.length, hlen h2, hl]
      have hsz := Nat.le_of_ble_eq_true hb
      refine ⟨by rw [hll, hl, sizeLine_eq]; omega, fun pp hp => ⟨pp, u, rfl, SqT.of upd_same, hll, ?_⟩⟩
      have sm := same_upd (o := HO.tup u) hp
      exact ⟨ι, P, env, s1, ⟨A1.e.ext (.same sm), A1.s.same sm⟩, ds, _, rp.ext (.same sm) _ _, h2, fun H' x r => q _ H' ι P (Gr.of ((x1.trans (.same sm)).trans x)) ⟨(A1.e.ext (.same sm)).ext ((A1.s.same sm).extP x), r⟩⟩
    · cases e
end
end Ev
/-! EvCmp: from the syntax to the combinators. -/
namespace Ev
open PySem PySem.Spec PyProof.Rows L2

/-! ### names -/
def ixOf (x : Str) : List Str → Nat → Option Nat
  | [], _ => none
  | y :: ys, n => if x = y then some n else ixOf x ys (n + 1)
theorem ixOf_get {x : Str} : ∀ {ys : List Str} {n i : Nat}, ixOf x ys n = some i → n ≤ i ∧ ys[i - n]? = some x
  | [], _, _, h => by unfold ixOf at h; cases h
  | y :: ys, n, i, h => by
    unfold ixOf at h
    split at h
    · rename_i e
      cases h
      rw [Nat.sub_self]
      exact ⟨Nat.le_refl _, by rw [e]; rfl⟩
    · obtain ⟨h1, h2⟩ := ixOf_get h
      refine ⟨by omega, ?_⟩
      rw [show i - n = (i - (n + 1)) + 1 by omega]
      exact h2
theorem ixOf_zero {x : Str} {ys : List Str} {i : Nat} (h : ixOf x ys 0 = some i) : ys[i]? = some x := (ixOf_get h).2
abbrev FT := List (Str × FnS)
abbrev CT := List (Str × PyData)
structure Tab where
  fs : FT
  cs : CT
  N : List Str
  mu : List Str
  bl : List Str
  /-- what lambdas may call -/
  lf : FT := []
  /-- dicts of the module -/
  ds : List (Str × List (Str × PyData)) := []
structure Cok (T : Tab) (sc : Scope) (fnb : Str → Bool) (X : Cx) : Prop where
  hN : X.N = T.N
  nd : T.N.Nodup
  nm : ∀ x ∈ T.N, (x == ("__debug__" : Str)) = false ∧ (x == ("__classdict__" : Str)) = false
  hsc : X.env.scope = sc
  kind : sc.kind = .function
  calm : X.calm = true
  fn : ∀ x, fnb x = true → X.fn x = true
  un : X.A.units + 65 < cLine
  un2 : X.A.units + 80 < cLine
  calls : ∀ x F, T.fs.lookup x = some F → (x == ("__debug__" : Str)) = false ∧ ∃ (gd : Bool) (k : Nat) (g : Addr) (fd : FuncData) (ps : List Str) (CX : CXT), FnG gd X.prog X.w X.K X.mg X.base CX k g fd ps (spOf X.K F) ∧ (gd = true → X.A.guards = some []) ∧ Room k X.A ∧ X.mg x = some (.ref g) ∧ PySem.W.keepIn X.K (.ref g) = true ∧ Binds X.K fd ps [] ∧ ∀ o H s e s', CX o H s E0 e s' → False
  consts : ∀ x d, T.cs.lookup x = some d → (x == ("__debug__" : Str)) = false ∧ ∃ u v, X.mg x = some u ∧ RelV v u ∧ ∀ H P, Rp X.K H P v d
  free : ∀ x ∈ T.bl, X.mg x = none
  dicts : ∀ x kvs, T.ds.lookup x = some kvs → (x == ("__debug__" : Str)) = false ∧ ∃ p, X.mg x = some (.ref p) ∧ ∀ k d, kvs.lookup k = some d → ∃ v, KDct X.K X.w p k v ∧ ∀ H P, Rp X.K H P v d
/-! ### the function -/
def locB (sc : Scope) (fnb : Str → Bool) (x : Str) : Bool := match sc.names.lookup x with
  | some .local => true
  | some .cell => fnb x
  | _ => false
def cmpTG (T : Tab) (sc : Scope) (fnb : Str → Bool) : Nat → Expr → Option TG
  | 0, _ => none
  | n + 1, .Name x _ => if locB sc fnb x then (ixOf x T.N 0).map .nm else none
  | n + 1, .Tuple es _ _ => (go n es).map .tup
  | _, _ => none
where
  go (n : Nat) : List Expr → Option (List TG)
  | [] => some []
  | e :: es => match noStar e, cmpTG T sc fnb n e, go n es with
    | true, some t, some ts => some (t :: ts)
    | _, _, _ => none
/-- the names of a target, with their slots -/
def ownOf (T : Tab) : Nat → Expr → List (Str × Nat)
  | 0, _ => []
  | n + 1, .Name x _ => match ixOf x T.N 0 with
    | some i => [(x, i)]
    | none => []
  | n + 1, .Tuple es _ _ => es.flatMap (ownOf T n)
  | _, _ => []
def cmpA (f : Expr → Option ME) : List Expr → Option MA
  | [] => some aNil
  | .Starred e _ :: r => match f e, cmpA f r with
    | some a, some m => some (aStar a m)
    | _, _ => none
  | e :: r => match f e, cmpA f r with
    | some a, some m => some (aCons a m)
    | _, _ => none
def glB (sc : Scope) (x : Str) : Bool := match sc.names.lookup x with
  | some .globalImplicit => true
  | _ => false
def isTup : Expr → Bool
  | .Tuple _ _ _ => true
  | _ => false
def notSet : Expr → Bool
  | .Set _ _ _ => false
  | _ => true
inductive Ik where
  | rng | zip | enm | no
def ikOf (x : Str) : Ik := if x = "range" then .rng else if x = "zip" then .zip else if x = "enumerate" then .enm else .no
def blB (T : Tab) (sc : Scope) (x : Str) : Bool := glB sc x && decide (x ∈ T.bl)
/-- enumerate's zip -/
def enzOf (T : Tab) (f : Expr → Option ME) (sc : Scope) : Expr → Option MI
  | .Call (.Name x _) [a, b] [] _ => if decide (x = "zip") && (blB T sc x && (noStar a && noStar b)) then match f a, f b with
    | some A, some B => some (iEnZ A B)
    | _, _ => none
    else none
  | _ => none
def cmpI (T : Tab) (f : Expr → Option ME) (sc : Scope) (tup : Bool) (e : Expr) : Option MI :=
  match e with
  | .Call (.Name x _) as [] _ => match ikOf x, blB T sc x, as with
    | .rng, true, [a] => if noStar a then (f a).map iRng1 else none
    | .rng, true, [a, b] => if noStar a && noStar b then match f a, f b with
      | some A, some B => some (iRng2 A B)
      | _, _ => none
      else none
    | .zip, true, [a, b] => if tup && noStar a && noStar b then match f a, f b with
      | some A, some B => some (iZip A B)
      | _, _ => none
      else none
    | .enm, true, [a] => if tup && noStar a then match enzOf T f sc a with
      | some m => some m
      | none => (f a).map iEnum
      else none
    | .no, _, _ => (f e).map iSeq
    | _, _, _ => none
  | e => if notSet e then (f e).map iSeq else none
def cmpB (f : Expr → Option ME) (op : BoolOp) : List Expr → Option ME
  | [] => none
  | [a] => f a
  | a :: b :: r => match f a, cmpB f op (b :: r) with
    | some A, some B => some (match op with
      | .And => eAnd A B
      | .Or => eOr A B)
    | _, _ => none
def cmpO (f : Expr → Option ME) : Option Expr → Option MO'
  | none => some oNone
  | some e => (f e).map oSome
inductive Bk where
  | len | all | any | abs | int | tuple | list | max | min | sum | sorted
def bkOf (x : Str) : Option Bk :=
  if x = "len" then some .len else if x = "all" then some .all else if x = "any" then some .any else if x = "tuple" then some .tuple else if x = "list" then some .list
  else if x = "max" then some .max else if x = "min" then some .min else if x = "sum" then some .sum else if x = "abs" then some .abs else if x = "int" then some .int else if x = "sorted" then some .sorted else none
def Bk.f : Bk → List PyData → Option PyData
  | .len => bLen
  | .all => bAll
  | .any => bAny
  | .abs => bAbs
  | .int => bInt
  | .tuple => bTuple
  | .list => bList
  | .max => bMax
  | .min => bMin
  | .sum => bSum
  | .sorted => bSorted
def zipOf (T : Tab) (sc : Scope) : Bk → List Expr → Option ((MA → ME) × List Expr)
  | .list, [.Call (.Name z _) [a, b] [] _] => if decide (z = "zip") && (blB T sc z && (noStar a && noStar b)) then some (eBlt bZipL, [a, b]) else none
  | .tuple, [.Call (.Name z _) [a, b] [] _] => if decide (z = "zip") && (blB T sc z && (noStar a && noStar b)) then some (eZipT bZipT, [a, b]) else none
  | .sum, [a, b] => if noStar a && noStar b then some (eSumL, [a, b]) else none
  | _, _ => none
def tyOf (x : Str) : Option Ty :=
  if x = "int" then some .int else if x = "tuple" then some .tuple else if x = "bool" then some .bool else if x = "str" then some .str else if x = "list" then some .list else if x = "dict" then some .dict else none
def dctOf (T : Tab) (sc : Scope) : Expr → Option (List (Str × PyData))
  | .Name x _ => if glB sc x then T.ds.lookup x else none
  | _ => none
def strIx : Expr → Bool
  | .Constant (.str _) _ _ => true
  | _ => false
inductive Mk where
  | app | pop | ins | idx
def mkOf (x : Str) : Option Mk := if x = "append" then some .app else if x = "pop" then some .pop else if x = "insert" then some .ins else if x = "index" then some .idx else none
def cmpE (T : Tab) : Nat → Scope → (Str → Bool) → Expr → Option ME
  | 0, _, _, _ => none
  | n + 1, sc, fnb, e => match e with
    | .Constant (.int i) _ _ => some (eCst (.int i))
    | .Constant (.bool b) _ _ => some (eCst (.bool b))
    | .Constant .none _ _ => some (eCst .none)
    | .Constant (.str x) _ _ => some (eCst (.str x))
    | .Name x _ => match sc.names.lookup x with
      | some .globalImplicit => (T.cs.lookup x).map eCst
      | some .local => (ixOf x T.N 0).map eVar
      | some .cell => (ixOf x T.N 0).map eVar
      | some .free => (ixOf x T.N 0).map eVar
      | _ => none
    | .BinOp a op b _ => match pOp op, cmpE T n sc fnb a, cmpE T n sc fnb b with
      | some f, some A, some B => some (e2 f A B)
      | _, _, _ => none
    | .UnaryOp .USub a _ => (cmpE T n sc fnb a).map (e1 pNeg)
    | .UnaryOp .Not a _ => (cmpE T n sc fnb a).map eNot
    | .BoolOp op es _ => cmpB (cmpE T n sc fnb) op es
    | .Compare a [op] [b] _ => if behindInMarks op b then none else match cmpE T n sc fnb a, cmpE T n sc fnb b with
      | some A, some B => some (eCmp (pCmp op) A B)
      | _, _ => none
    | .Compare a [op, op'] [b, c] _ => if lastMarks [op, op'] [b, c] then none else match cmpE T n sc fnb a, cmpE T n sc fnb b, cmpE T n sc fnb c with
      | some A, some B, some C => some (eChain (pCmp op) (pCmp op') A B C)
      | _, _, _ => none
    | .IfExp c a b _ => match cmpE T n sc fnb c, cmpE T n sc fnb a, cmpE T n sc fnb b with
      | some C, some A, some B => some (eIf C A B)
      | _, _, _ => none
    | .Tuple es _ _ => (cmpA (cmpE T n sc fnb) es).map eTup
    | .List es _ => (cmpA (cmpE T n sc fnb) es).map eLst
    | .Subscript a (.Slice lo hi none _) _ => match cmpE T n sc fnb a, cmpO (cmpE T n sc fnb) lo, cmpO (cmpE T n sc fnb) hi with
      | some A, some L, some U => some (eSl A L U)
      | _, _, _ => none
    | .Subscript a (.Slice none none (some (.UnaryOp .USub (.Constant (.int 1) _ _) _)) _) _ => (cmpE T n sc fnb a).map (e1 pRev)
    | .Subscript a b _ => if plainIx b then match dctOf T sc a with
      | some kvs => (cmpE T n sc fnb b).map (eDct kvs)
      | none => match cmpE T n sc fnb a, cmpE T n sc fnb b with
        | some A, some B => some (if strIx b then eIxD A B else e2 pIx A B)
        | _, _ => none
      else none
    | .Call (.Name x _) as [] _ => if glB sc x && as.all noStar then match T.fs.lookup x with
      | some F => (cmpA (cmpE T n sc fnb) as).map (eCall F)
      | none => if decide (x ∈ T.bl) then match bkOf x, as with
        | some k, a :: r => match zipOf T sc k (a :: r) with
          | some q => (cmpA (cmpE T n sc fnb) q.2).map q.1
          | none => (cmpA (cmpE T n sc fnb) (a :: r)).map (eBlt k.f)
        | some _, [] => none
        | none, _ => if x = "isinstance" then match as with
          | [a, .Name y _] => if blB T sc y then match tyOf y, cmpE T n sc fnb a with
            | some t, some A => some (eIsi t A)
            | _, _ => none
            else none
          | _ => none
          else none
        else none
      else none
    | .Call (.Attribute (.Name x p1) m apos) as [] pos => if apos.endLine == pos.line && as.all noStar then match mkOf m, cmpE T n sc fnb (.Name x p1), as with
      | some .app, some O, [a] => (cmpE T n sc fnb a).map (eApp O)
      | some .pop, some O, [] => some (ePop O)
      | some .idx, some O, [a] => (cmpE T n sc fnb a).map (eIdx O)
      | some .ins, some O, [a, b] => match cmpE T n sc fnb a, cmpE T n sc fnb b with
        | some A, some B => some (eIns O A B)
        | _, _ => none
      | _, _, _ => none
      else none
    | .ListComp elt [⟨tg, iter, ifs, 0⟩] scope _ =>
      if blkC T.N sc scope (ownOf T 8 tg) && notSet iter then
        match cmpI T (cmpE T n sc fnb) sc (isTup tg) iter, cmpTG T (relS scope sc) (fun x => scope.names.lookup x == some .cell) 8 tg, cmpC (cmpE T n (relS scope sc) (fun x => scope.names.lookup x == some .cell)) ifs, cmpE T n (relS scope sc) (fun x => scope.names.lookup x == some .cell) elt with
        | some it, some t, some c, some e => if t.slots.all fun i => decide (i ∈ (ownOf T 8 tg).map (·.2)) then some (eLc it t ((ownOf T 8 tg).map (·.2)) c e) else none
        | _, _, _, _ => none
      else none
    | .ListComp elt [⟨tg, iter, ifs, 0⟩, ⟨tg1, iter1, ifs1, 0⟩] scope _ =>
      if blkC T.N sc scope (ownOf T 8 tg ++ ownOf T 8 tg1) && notSet iter && notSet iter1 then
        match cmpI T (cmpE T n sc fnb) sc (isTup tg) iter, cmpTG T (relS scope sc) (fun x => scope.names.lookup x == some .cell) 8 tg, cmpC (cmpE T n (relS scope sc) (fun x => scope.names.lookup x == some .cell)) ifs, cmpE T n (relS scope sc) (fun x => scope.names.lookup x == some .cell) elt,
          cmpI T (cmpE T n (relS scope sc) (fun x => scope.names.lookup x == some .cell)) (relS scope sc) (isTup tg1) iter1, cmpTG T (relS scope sc) (fun x => scope.names.lookup x == some .cell) 8 tg1, cmpC (cmpE T n (relS scope sc) (fun x => scope.names.lookup x == some .cell)) ifs1 with
        | some it, some t, some c, some e, some it1, some t1, some c1 =>
          if (t.slots.all fun i => decide (i ∈ (ownOf T 8 tg ++ ownOf T 8 tg1).map (·.2))) && (t1.slots.all fun i => decide (i ∈ (ownOf T 8 tg1).map (·.2))) then
            some (eLc2 it t ((ownOf T 8 tg ++ ownOf T 8 tg1).map (·.2)) c it1 t1 ((ownOf T 8 tg1).map (·.2)) c1 e) else none
        | _, _, _, _, _, _, _ => none
      else none
    | _ => none
where
  cmpC (f : Expr → Option ME) : List Expr → Option MT
  | [] => some tYes
  | [c] => (f c).map tOf
  | _ => none

/-! ### it is right -/
section
variable {T : Tab} {sc : Scope} {fnb : Str → Bool} {X : Cx}
theorem glB_ok {x : Str} (h : glB sc x = true) (e : X.env.scope = sc) : Gl X x := by
  unfold glB at h
  split at h
  · show X.env.scope.names.lookup x = _
    rw [e]; assumption
  · cases h
theorem blB_ok {x : Str} (ok : Cok T sc fnb X) (h : blB T sc x = true) : Gl X x ∧ X.mg x = none := by
  unfold blB at h
  rw [Bool.and_eq_true] at h
  exact ⟨glB_ok h.1 ok.hsc, ok.free x (of_decide_eq_true h.2)⟩
theorem Cok.blk (ok : Cok T sc fnb X) {scope : Scope} {own : List (Str × Nat)} (h : blkC T.N sc scope own = true) (s : Shared) (H : Hp) (C : Addr) (cl : List (Str × Addr)) (fp : List Addr) :
    Cok T (relS scope sc) (fun x => scope.names.lookup x == some .cell) (X.blk s H scope (compEnvC scope cl C X.env) fp) where
  hN := ok.hN
  nd := ok.nd
  nm := ok.nm
  hsc := by rw [← ok.hsc]; rfl
  kind := (blkOk_by h).kind
  calm := ok.calm
  fn := fun x hx => hx
  un := ok.un
  un2 := ok.un2
  calls := ok.calls
  consts := ok.consts
  free := ok.free
  dicts := ok.dicts
theorem pv_ok (ok : Cok T sc fnb X) {x : Str} {i : Nat} {pos : Pos} (h : ixOf x T.N 0 = some i) (v : Vis sc x) : PE X (.Name x pos) (rdE X.K (eVar i)) := by
  have hi := ixOf_zero h
  have hm := List.mem_of_getElem? hi
  exact xp_var (pe_var (by rw [ok.hN]; exact hi) (by rw [ok.hsc]; exact v) (ok.nm x hm).1 (ok.nm x hm).2)
theorem cmpTG_ok : ∀ (n : Nat) (X : Cx) (sc : Scope) (fnb : Str → Bool) (ok : Cok T sc fnb X) (e : Expr) (t : TG), cmpTG T sc fnb n e = some t → PG X e (rdG X.K t)
  | 0, X, sc, fnb, ok, e, t, h => by unfold cmpTG at h; cases h
  | n + 1, X, sc, fnb, ok, e, t, h => by
    have go : ∀ (es : List Expr) (ts : List TG), cmpTG.go T sc fnb n es = some ts → PGs X es (rdGs X.K ts) ∧ es.length = ts.length ∧ es.all noStar = true := by
      intro es
      induction es with
      | nil => intro ts h; unfold cmpTG.go at h; cases h; exact ⟨xgs_nil, rfl, rfl⟩
      | cons e es ih =>
        intro ts h
        unfold cmpTG.go at h
        split at h
        · rename_i h1 h2 h3
          cases h
          obtain ⟨i1, i2, i3⟩ := ih _ h3
          exact ⟨xgs_cons (cmpTG_ok n X sc fnb ok e _ h2) i1 h1, by rw [List.length_cons, List.length_cons, i2], by rw [List.all_cons, h1, i3]; rfl⟩
        · cases h
    unfold cmpTG at h
    split at h
    · rename_i heq; cases heq
    · rename_i x p heq
      cases heq
      split at h
      · rename_i hl
        obtain ⟨i, hi, rfl⟩ := Option.map_eq_some_iff.mp h
        have hi := ixOf_zero hi
        have hloc : Loc X.env.scope x ∧ (X.fn x = true ∨ X.env.scope.names.lookup x = some .local) := by
          rw [ok.hsc]
          unfold locB at hl
          split at hl
          · rename_i z; exact ⟨.inl z, .inr z⟩
          · rename_i z; exact ⟨.inr z, .inl (ok.fn x hl)⟩
          · cases hl
        exact xg_nm (pg_name (by rw [ok.hN]; exact ok.nd) (by rw [ok.hN]; exact hi) hloc.1 hloc.2)
      · cases h
    · rename_i heq
      cases heq
      obtain ⟨ts, hts, rfl⟩ := Option.map_eq_some_iff.mp h
      obtain ⟨i1, i2, i3⟩ := go _ _ hts
      exact xg_tup ok.calm i1 i2 i3
    · cases h
theorem cmpA_ok {f : Expr → Option ME} (hf : ∀ e m, f e = some m → PE X e (rdE X.K m)) : ∀ (es : List Expr) (m : MA), cmpA f es = some m → PA X es (rdA X.K m)
  | [], m, h => by unfold cmpA at h; cases h; exact xa_nil
  | e :: es, m, h => by
    unfold cmpA at h
    split at h
    · rename_i heq; cases heq
    · rename_i heq
      cases heq
      split at h
      · rename_i h1 h2
        cases h
        exact xa_star (hf _ _ h1) (cmpA_ok hf _ _ h2)
      · cases h
    · rename_i hne heq
      cases heq
      split at h
      · rename_i h1 h2
        cases h
        refine xa_cons (hf _ _ h1) (cmpA_ok hf _ _ h2) ?_
        cases e <;> first | rfl | exact absurd rfl (hne _ _)
      · cases h
theorem notSet_ok {e : Expr} (h : notSet e = true) (env : PySem.Env) (x : Value) : foldedSetIterable e env x = pure x := by
  cases e <;> first | rfl | cases h
theorem cmpI_ok {f : Expr → Option ME} (ok : Cok T sc fnb X) (hf : ∀ e m, f e = some m → PE X e (rdE X.K m)) {tg e : Expr} {tup : Bool} {m : MI} (ht : tup = true → isTup tg = true) (h : cmpI T f sc tup e = some m) : PI X tg e (rdI X.K m) := by
  unfold cmpI at h
  split at h
  · rename_i x p as pos
    split at h
    · rename_i a hk hb
      unfold ikOf at hk
      split at hk
      · rename_i hx
        subst hx
        obtain ⟨g1, g2⟩ := blB_ok ok hb
        split at h
        · rename_i hs
          obtain ⟨A, hA, rfl⟩ := Option.map_eq_some_iff.mp h
          exact xi_rng1 g1 g2 (hf _ _ hA) hs
        · cases h
      · split at hk
        · cases hk
        · split at hk <;> cases hk
    · rename_i a b hk hb
      unfold ikOf at hk
      split at hk
      · rename_i hx
        subst hx
        obtain ⟨g1, g2⟩ := blB_ok ok hb
        split at h
        · rename_i hs
          rw [Bool.and_eq_true] at hs
          split at h
          · rename_i A B hA hB
            cases h
            exact xi_rng2 g1 g2 (hf _ _ hA) (hf _ _ hB) hs.1 hs.2
          · cases h
        · cases h
      · split at hk
        · cases hk
        · split at hk <;> cases hk
    · rename_i a b hk hb
      unfold ikOf at hk
      split at hk
      · cases hk
      · split at hk
        · rename_i hx
          subst hx
          obtain ⟨g1, g2⟩ := blB_ok ok hb
          split at h
          · rename_i hs
            simp only [Bool.and_eq_true] at hs
            obtain ⟨⟨s0, s1⟩, s2⟩ := hs
            have htt := ht s0
            split at h
            · rename_i A B hA hB
              cases h
              cases tg <;> first | exact xi_zip g1 g2 (hf _ _ hA) (hf _ _ hB) s1 s2 | cases htt
            · cases h
          · cases h
        · split at hk <;> cases hk
    · rename_i a hk hb
      unfold ikOf at hk
      split at hk
      · cases hk
      · split at hk
        · cases hk
        · split at hk
          · rename_i hx
            subst hx
            obtain ⟨g1, g2⟩ := blB_ok ok hb
            split at h
            · rename_i hs
              rw [Bool.and_eq_true] at hs
              have htt := ht hs.1
              cases hz : enzOf T f sc a with
              | some mz =>
                rw [hz] at h
                cases h
                unfold enzOf at hz
                split at hz
                · split at hz
                  · rename_i hc
                    simp only [Bool.and_eq_true, decide_eq_true_eq] at hc
                    obtain ⟨c1, c2, c3, c4⟩ := hc
                    subst c1
                    obtain ⟨k1, k2⟩ := blB_ok ok c2
                    split at hz
                    · rename_i hA hB
                      cases hz
                      cases tg <;> first | exact xi_enz g1 g2 k1 k2 (hf _ _ hA) (hf _ _ hB) c3 c4 | cases htt
                    · cases hz
                  · cases hz
                · cases hz
              | none =>
                rw [hz] at h
                obtain ⟨A, hA, rfl⟩ := Option.map_eq_some_iff.mp h
                cases tg <;> first | exact xi_enum g1 g2 (hf _ _ hA) hs.2 | cases htt
            · cases h
          · cases hk
    · obtain ⟨A, hA, rfl⟩ := Option.map_eq_some_iff.mp h
      exact xi_seq (hf _ _ hA)
    · cases h
  · split at h
    · obtain ⟨A, hA, rfl⟩ := Option.map_eq_some_iff.mp h
      exact xi_seq (hf _ _ hA)
    · cases h
theorem cmpB_ok {f : Expr → Option ME} {op : BoolOp} {pos : Pos} (hf : ∀ e m, f e = some m → PE X e (rdE X.K m) ∧ PT X e (rdT X.K (tOf m))) : ∀ (es : List Expr) (m : ME), cmpB f op es = some m → PE X (.BoolOp op es pos) (rdE X.K m) ∧ PW X (.BoolOp op es pos) (rdT X.K (tOf m))
  | [], m, h => by unfold cmpB at h; cases h
  | [a], m, h => by
    unfold cmpB at h
    obtain ⟨h1, h2⟩ := hf _ _ h
    exact ⟨pe_one h1, xw_one h2⟩
  | a :: b :: r, m, h => by
    unfold cmpB at h
    split at h
    · rename_i A B hA hB
      obtain ⟨h1, h2⟩ := hf _ _ hA
      obtain ⟨h3, h4⟩ := cmpB_ok hf (b :: r) _ hB
      cases op with
      | And => cases h; exact ⟨xp_and h1 h3, xw_and h2 h4⟩
      | Or => cases h; exact ⟨xp_or h1 h3, xw_or h2 h4⟩
    · cases h
theorem cmpO_ok {f : Expr → Option ME} (hf : ∀ e m, f e = some m → PE X e (rdE X.K m)) {o : Option Expr} {m : MO'} (h : cmpO f o = some m) : PO X o (rdO X.K m) := by
  cases o with
  | none => cases h; exact xo_none
  | some e =>
    obtain ⟨A, hA, rfl⟩ := Option.map_eq_some_iff.mp h
    exact xo_some (hf _ _ hA)
theorem PTs.mono {ifs : List Expr} {t t' : TT} (h : PTs X ifs t) (q : ∀ σ H Q, t' σ H Q → t σ H Q) : PTs X ifs t' := ⟨fun pins s σ H Q I w => h.run pins s σ H Q I (q _ _ _ w)⟩
theorem cmpC_ok {f : Expr → Option ME} (hf : ∀ e m, f e = some m → PT X e (rdT X.K (tOf m))) {ifs : List Expr} {m : MT} (h : cmpE.cmpC f ifs = some m) : PTs X ifs (rdT X.K m) := by
  unfold cmpE.cmpC at h
  split at h
  · cases h
    exact PTs.mono pts_nil fun σ H Q ⟨ι, P, env, st, A, b, st', e, q⟩ => by
      cases e
      exact q H (ExtP.refl _ _) A.s
  · obtain ⟨A, hA, rfl⟩ := Option.map_eq_some_iff.mp h
    exact pts_one (hf _ _ hA)
  · cases h
theorem bk_ok (ok : Cok T sc fnb X) {x : Str} {k : Bk} {e : Expr} {es : List Expr} {m : MA} {p pos : Pos} (hk : bkOf x = some k) (hg : Gl X x) (hm : X.mg x = none) (ha : PA X (e :: es) (rdA X.K m)) (hs : (e :: es).all noStar = true) :
    PE X (.Call (.Name x p) (e :: es) [] pos) (rdE X.K (eBlt k.f m)) := by
  unfold bkOf at hk
  repeat' split at hk
  all_goals first | (cases hk; done) | (rename_i hx; subst hx; cases hk)
  · exact xp_blt bl_len hg hm PySem.boot_len ha hs (by decide)
  · exact xp_blt (bl_all ok.calm) hg hm (by decide +kernel) ha hs (by decide)
  · exact xp_blt (bl_any ok.calm) hg hm (by decide +kernel) ha hs (by decide)
  · exact xp_bltT bl_tuple hg hm (by decide +kernel) ha hs (by decide)
  · exact xp_bltT bl_list hg hm (by decide +kernel) ha hs (by decide)
  · exact xp_blt (bl_max ok.calm) hg hm (by decide +kernel) ha hs (by decide)
  · exact xp_blt (bl_min ok.calm) hg hm (by decide +kernel) ha hs (by decide)
  · exact xp_blt (bl_sum ok.calm) hg hm (by decide +kernel) ha hs (by decide)
  · exact xp_blt bl_abs hg hm (by decide +kernel) ha hs (by decide)
  · exact xp_bltT bl_int hg hm (by decide +kernel) ha hs (by decide)
  · exact xp_blt (bl_sorted ok.un2) hg hm (by decide +kernel) ha hs (by decide)
theorem bk_list {x : Str} (h : bkOf x = some .list) : x = "list" := by
  unfold bkOf at h
  repeat' split at h
  all_goals first | assumption | cases h
theorem bk_tuple {x : Str} (h : bkOf x = some .tuple) : x = "tuple" := by
  unfold bkOf at h
  repeat' split at h
  all_goals first | assumption | cases h
theorem bk_sum {x : Str} (h : bkOf x = some .sum) : x = "sum" := by
  unfold bkOf at h
  repeat' split at h
  all_goals first | assumption | cases h
theorem zip_ok {k : Bk} {x : Str} {as : List Expr} {q : (MA → ME) × List Expr} {m : MA} {p pos : Pos} (ok : Cok T sc fnb X) (hk : bkOf x = some k) (hg : Gl X x) (hm : X.mg x = none) (h : zipOf T sc k as = some q) (ha : PA X q.2 (rdA X.K m)) :
    PE X (.Call (.Name x p) as [] pos) (rdE X.K (q.1 m)) := by
  unfold zipOf at h
  split at h
  · split at h
    · rename_i hb
      simp only [Bool.and_eq_true, decide_eq_true_eq] at hb
      obtain ⟨e, h1, h2, h3⟩ := hb
      cases h
      subst e
      obtain ⟨g1, g2⟩ := blB_ok ok h1
      have e := bk_list hk
      subst e
      exact xp_zipL ok.calm hg hm g1 g2 ha h2 h3
    · cases h
  · split at h
    · rename_i hb
      simp only [Bool.and_eq_true, decide_eq_true_eq] at hb
      obtain ⟨e, h1, h2, h3⟩ := hb
      cases h
      subst e
      obtain ⟨g1, g2⟩ := blB_ok ok h1
      have e := bk_tuple hk
      subst e
      exact xp_zipT ok.calm hg hm g1 g2 ha h2 h3
    · cases h
  · split at h
    · rename_i hb
      rw [Bool.and_eq_true] at hb
      cases h
      have e := bk_sum hk
      subst e
      exact xp_sumL ok.calm hg hm ha hb.1 hb.2
    · cases h
  · cases h
theorem ty_ok {y : Str} {t : Ty} (h : tyOf y = some t) : bootBuiltins y = some (.type t.nm) ∧ blt2 y = true := by
  unfold tyOf at h
  repeat' split at h
  all_goals first | (cases h; done) | (rename_i hx; subst hx; cases h; exact ⟨by decide +kernel, by decide⟩)
theorem plainT {e : Expr} {m : ME} (h : PE X e (rdE X.K m)) (he : ∀ whole, isTrue e X.env whole = (do let v ← whole; standAt e.pos; holding [v] (truthy v))) : PE X e (rdE X.K m) ∧ PT X e (rdT X.K (tOf m)) := ⟨h, xt_plain h he⟩
theorem eLc_lst {it : MI} {tg : TG} {own : List Nat} {c : MT} {e : ME} : ∀ env st v st', eLc it tg own c e env st = .ok v st' → ∃ ds, v = .dat (.list ds) := fun env st v st' h => by
  obtain ⟨src, s1, h1, h⟩ := bind_ok (noX_ok h)
  obtain ⟨r, s2, h2, h⟩ := bind_ok h
  exact ⟨r, (okL_ok h).2.1⟩
theorem eLc2_lst {it it1 : MI} {tg tg1 : TG} {own own1 : List Nat} {c c1 : MT} {e : ME} : ∀ env st v st', eLc2 it tg own c it1 tg1 own1 c1 e env st = .ok v st' → ∃ ds, v = .dat (.list ds) := fun env st v st' h => by
  obtain ⟨src, s1, h1, h⟩ := bind_ok (noX_ok h)
  obtain ⟨r, s2, h2, h⟩ := bind_ok h
  exact ⟨r, (okL_ok h).2.1⟩
/-- a comprehension's parts -/
structure Lc1 (X : Cx) (tg iter elt : Expr) (ifs : List Expr) (scope : Scope) (own : List (Str × Nat)) (it : MI) (t : TG) (c : MT) (e : ME) : Prop where
  ok : BlkOk X.N X.env.scope scope own
  nd : X.N.Nodup
  calm : X.calm = true
  i : PI X tg iter (rdI X.K it)
  s : ∀ x, foldedSetIterable iter X.env x = pure x
  g : ∀ (s : Shared) (H : Hp) (C : Addr) (cl : List (Str × Addr)) (fp : List Addr), PG (X.blk s H scope (compEnvC scope cl C X.env) fp) tg (rdG X.K t)
  q : ∀ (s : Shared) (H : Hp) (C : Addr) (cl : List (Str × Addr)) (fp : List Addr), PTs (X.blk s H scope (compEnvC scope cl C X.env) fp) ifs (rdT X.K c)
  y : ∀ (s : Shared) (H : Hp) (C : Addr) (cl : List (Str × Addr)) (fp : List Addr), PE (X.blk s H scope (compEnvC scope cl C X.env) fp) elt (rdE X.K e)
  sl : ∀ i ∈ t.slots, i ∈ own.map (·.2)
theorem Lc1.pe {tg iter elt : Expr} {ifs : List Expr} {scope : Scope} {own : List (Str × Nat)} {it : MI} {t : TG} {c : MT} {e : ME} {pos : Pos} (L : Lc1 X tg iter elt ifs scope own it t c e) : PE X (.ListComp elt [⟨tg, iter, ifs, 0⟩] scope pos) (rdF X.K (eLc it t (own.map (·.2)) c e)) :=
  PE.mono (pe_lc L.calm L.nd L.i L.ok L.g L.q L.y L.s) fun _ _ _ => lc_read L.sl
structure Lc2 (X : Cx) (tg1 iter1 : Expr) (ifs1 : List Expr) (scope : Scope) (own own1 : List (Str × Nat)) (it1 : MI) (t1 : TG) (c1 : MT) : Prop where
  i : ∀ (s : Shared) (H : Hp) (C : Addr) (cl : List (Str × Addr)) (fp : List Addr), PI (X.blk s H scope (compEnvC scope cl C X.env) fp) tg1 iter1 (rdI X.K it1)
  s : ∀ env x, foldedSetIterable iter1 env x = pure x
  g : ∀ (s : Shared) (H : Hp) (C : Addr) (cl : List (Str × Addr)) (fp : List Addr), PG (X.blk s H scope (compEnvC scope cl C X.env) fp) tg1 (rdG X.K t1)
  q : ∀ (s : Shared) (H : Hp) (C : Addr) (cl : List (Str × Addr)) (fp : List Addr), PTs (X.blk s H scope (compEnvC scope cl C X.env) fp) ifs1 (rdT X.K c1)
  sl : ∀ i ∈ t1.slots, i ∈ own1.map (·.2)
  sub : ∀ i ∈ own1.map (·.2), i ∈ own.map (·.2)
theorem Lc2.pe {tg iter elt tg1 iter1 : Expr} {ifs ifs1 : List Expr} {scope : Scope} {own own1 : List (Str × Nat)} {it it1 : MI} {t t1 : TG} {c c1 : MT} {e : ME} {pos : Pos} (L : Lc1 X tg iter elt ifs scope own it t c e) (M : Lc2 X tg1 iter1 ifs1 scope own own1 it1 t1 c1) :
    PE X (.ListComp elt [⟨tg, iter, ifs, 0⟩, ⟨tg1, iter1, ifs1, 0⟩] scope pos) (rdF X.K (eLc2 it t (own.map (·.2)) c it1 t1 (own1.map (·.2)) c1 e)) :=
  PE.mono (pe_lc2 (vs1 := own1.map (·.2)) L.calm L.nd L.i L.ok M.sub L.g L.q M.i M.g M.q L.y L.s M.s) fun _ _ _ => lc2_read L.sl M.sl
theorem xt_ife {a b c : Expr} {ma mb mc : ME} {pos : Pos} (hc : PT X c (rdT X.K (tOf mc))) (ha : PT X a (rdT X.K (tOf ma))) (hb : PT X b (rdT X.K (tOf mb))) : PT X (.IfExp c a b pos) (rdT X.K (tOf (eIf mc ma mb))) := by
  refine ⟨fun pins s σ H Q I ⟨ι, P, env, st, A, w, st', e, q⟩ => ?_⟩
  obtain ⟨k, s1, h1, e⟩ := bind_ok (tOf_ok e)
  have hq : rdT X.K (tOf mc) σ H fun c H1 => if c = true then rdT X.K (tOf ma) σ H1 Q else rdT X.K (tOf mb) σ H1 Q := by
    refine rdT.bind A h1 fun H1 x1 A1 => ?_
    cases k with
    | true =>
      refine iteT (rdT.bind (st1 := st') (v := w) A1 ?_ fun H2 x2 A2 => q H2 (x1.trans x2) A2.s)
      have e' : ma env s1 = .ok (.dat (.bool w)) st' := e
      show (ma env s1).bind _ = _
      rw [e']; rfl
    | false =>
      refine iteF (rdT.bind (st1 := st') (v := w) A1 ?_ fun H2 x2 A2 => q H2 (x1.trans x2) A2.s)
      have e' : mb env s1 = .ok (.dat (.bool w)) st' := e
      show (mb env s1).bind _ = _
      rw [e']; rfl
  refine isTrue_IfExp (thn (hc.run pins s σ H _ I hq) fun d s2 ⟨H1, I1, q1⟩ => ?_)
  cases d with
  | true => exact ha.run pins s2 σ H1 Q I1 q1
  | false => exact hb.run pins s2 σ H1 Q I1 q1
theorem cmpE_ok (T : Tab) : ∀ (n : Nat) (X : Cx) (sc : Scope) (fnb : Str → Bool) (ok : Cok T sc fnb X) (e : Expr) (m : ME), cmpE T n sc fnb e = some m → PE X e (rdE X.K m) ∧ PT X e (rdT X.K (tOf m))
  | 0, X, sc, fnb, ok, e, m, h => by unfold cmpE at h; cases h
  | n + 1, X, sc, fnb, ok, e, m, h => by
    have ih : ∀ e m, cmpE T n sc fnb e = some m → PE X e (rdE X.K m) ∧ PT X e (rdT X.K (tOf m)) := fun e m => cmpE_ok T n X sc fnb ok e m
    have ihE : ∀ e m, cmpE T n sc fnb e = some m → PE X e (rdE X.K m) := fun e m z => (ih e m z).1
    have hu := ok.un
    unfold cmpE at h
    split at h
    · cases h; exact plainT (xp_cst pe_int fun _ _ => .int _) fun _ => rfl
    · cases h; exact plainT (xp_cst pe_bl fun _ _ => .bl _) fun _ => rfl
    · cases h; exact plainT (xp_cst pe_non fun _ _ => .non) fun _ => rfl
    · cases h; exact plainT (xp_cst pe_str fun _ _ => .str _) fun _ => rfl
    · rename_i x p
      split at h
      · rename_i hl
        obtain ⟨d, hd, rfl⟩ := Option.map_eq_some_iff.mp h
        obtain ⟨h1, u, v, h2, h3, h4⟩ := ok.consts x d hd
        exact plainT (xp_cst (pe_glob (by show X.env.scope.names.lookup x = _; rw [ok.hsc]; exact hl) h2 h3 h1) h4) fun _ => rfl
      · rename_i hl
        obtain ⟨i, hi, rfl⟩ := Option.map_eq_some_iff.mp h
        exact plainT (pv_ok ok hi (.inl hl)) fun _ => rfl
      · rename_i hl
        obtain ⟨i, hi, rfl⟩ := Option.map_eq_some_iff.mp h
        exact plainT (pv_ok ok hi (.inr (.inl hl))) fun _ => rfl
      · rename_i hl
        obtain ⟨i, hi, rfl⟩ := Option.map_eq_some_iff.mp h
        exact plainT (pv_ok ok hi (.inr (.inr hl))) fun _ => rfl
      · cases h
    · split at h
      · rename_i hf hA hB
        cases h
        exact plainT (xp_e2 (op_of hf) (ihE _ _ hA) (ihE _ _ hB)) fun _ => rfl
      · cases h
    · obtain ⟨A, hA, rfl⟩ := Option.map_eq_some_iff.mp h
      exact plainT (xp_neg (ihE _ _ hA)) fun _ => rfl
    · obtain ⟨A, hA, rfl⟩ := Option.map_eq_some_iff.mp h
      exact ⟨xp_not (ihE _ _ hA), xt_not (ih _ _ hA).2⟩
    · obtain ⟨h1, h2⟩ := cmpB_ok ih _ _ h
      exact ⟨h1, h2.pt⟩
    · split at h
      · cases h
      · rename_i hb
        split at h
        · rename_i hA hB
          cases h
          have hb' := Bool.eq_false_iff.mpr hb
          exact ⟨xp_cmp (cm_of hu _) (ihE _ _ hA) (ihE _ _ hB) hb', xt_cmp (cm_of hu _) (ihE _ _ hA) (ihE _ _ hB) hb'⟩
        · cases h
    · split at h
      · cases h
      · rename_i hb
        split at h
        · rename_i hA hB hC
          cases h
          have hb' := Bool.eq_false_iff.mpr hb
          exact ⟨xp_chain (cm_of hu _) (cm_of hu _) (ihE _ _ hA) (ihE _ _ hB) (ihE _ _ hC) hb', PT.of_chain (cm_of hu _) (cm_of hu _) (ihE _ _ hA) (ihE _ _ hB) (ihE _ _ hC) hb'⟩
        · cases h
    · split at h
      · rename_i hC hA hB
        cases h
        exact ⟨xp_ife (ih _ _ hC).2 (ihE _ _ hA) (ihE _ _ hB), xt_ife (ih _ _ hC).2 (ih _ _ hA).2 (ih _ _ hB).2⟩
      · cases h
    · obtain ⟨A, hA, rfl⟩ := Option.map_eq_some_iff.mp h
      exact plainT (xp_tup (cmpA_ok ihE _ _ hA)) fun _ => rfl
    · obtain ⟨A, hA, rfl⟩ := Option.map_eq_some_iff.mp h
      exact plainT (xp_lst (cmpA_ok ihE _ _ hA)) fun _ => rfl
    · split at h
      · rename_i hA hL hU
        cases h
        exact plainT (xp_sl (ihE _ _ hA) (cmpO_ok ihE hL) (cmpO_ok ihE hU)) fun _ => rfl
      · cases h
    · obtain ⟨A, hA, rfl⟩ := Option.map_eq_some_iff.mp h
      exact plainT (xp_rev (ihE _ _ hA)) fun _ => rfl
    · split at h
      · rename_i hp
        split at h
        · rename_i kvs hk
          obtain ⟨B, hB, rfl⟩ := Option.map_eq_some_iff.mp h
          unfold dctOf at hk
          split at hk
          · split at hk
            · rename_i hg
              obtain ⟨h1, p, h2, h3⟩ := ok.dicts _ _ hk
              exact plainT (xp_dct (pe_glob (glB_ok hg ok.hsc) h2 rfl h1) h3 (ihE _ _ hB) hp) fun _ => rfl
            · cases hk
          · cases hk
        · split at h
          · rename_i A B hA hB
            cases h
            cases strIx _ with
            | true => exact plainT (xp_ixD (by omega) (ihE _ _ hA) (ihE _ _ hB) hp) fun _ => rfl
            | false => exact plainT (xp_ix (ihE _ _ hA) (ihE _ _ hB) hp) fun _ => rfl
          · cases h
      · cases h
    · rename_i x p as pos
      split at h
      · rename_i hb
        rw [Bool.and_eq_true] at hb
        have hg := glB_ok hb.1 ok.hsc
        split at h
        · rename_i F hF
          obtain ⟨A, hA, rfl⟩ := Option.map_eq_some_iff.mp h
          obtain ⟨hd, gd, k, g, fd, ps, CX, G, hgd, hr, hm, hk, hbi, hx⟩ := ok.calls x F hF
          have pass : Passes CX X E0 := fun _ _ _ _ _ _ _ z => (hx _ _ _ _ _ z).elim
          cases as with
          | nil =>
            unfold cmpA at hA
            cases hA
            exact plainT (xp_call0 G hgd hr hg hm hk hbi pass hd) fun _ => rfl
          | cons e es => exact plainT (xp_call G hgd hr hg hm hk hbi pass (cmpA_ok ihE _ _ hA) hb.2 hd) fun _ => rfl
        · split at h
          · rename_i hbl
            have hm := ok.free x (of_decide_eq_true hbl)
            split at h
            · rename_i k a r hk
              split at h
              · rename_i q hq
                obtain ⟨A, hA, rfl⟩ := Option.map_eq_some_iff.mp h
                exact plainT (zip_ok ok hk hg hm hq (cmpA_ok ihE _ _ hA)) fun _ => rfl
              · obtain ⟨A, hA, rfl⟩ := Option.map_eq_some_iff.mp h
                exact plainT (bk_ok ok hk hg hm (cmpA_ok ihE _ _ hA) hb.2) fun _ => rfl
            · cases h
            · split at h
              · rename_i hx
                subst hx
                split at h
                · rename_i a y p2
                  split at h
                  · rename_i hy
                    obtain ⟨g1, g2⟩ := blB_ok ok hy
                    split at h
                    · rename_i t A ht hA
                      cases h
                      obtain ⟨t1, t2⟩ := ty_ok ht
                      have hs := hb.2
                      rw [List.all_cons, Bool.and_eq_true] at hs
                      exact plainT (xp_isi hg hm g1 g2 t1 t2 (ihE _ _ hA) hs.1) fun _ => rfl
                    · cases h
                  · cases h
                · cases h
              · cases h
          · cases h
      · cases h
    · rename_i x p1 mm apos as pos
      split at h
      · rename_i hb
        rw [Bool.and_eq_true] at hb
        split at h
        · rename_i O a hk hO
          obtain ⟨A, hA, rfl⟩ := Option.map_eq_some_iff.mp h
          unfold mkOf at hk
          repeat' split at hk
          all_goals first | (cases hk; done) | skip
          rename_i hx; subst hx
          have hs := hb.2
          rw [List.all_cons, Bool.and_eq_true] at hs
          exact plainT (xp_app (ihE _ _ hO) (ihE _ _ hA) hs.1 hb.1) fun _ => rfl
        · rename_i O hk hO
          cases h
          unfold mkOf at hk
          repeat' split at hk
          all_goals first | (cases hk; done) | skip
          rename_i hx; subst hx
          exact plainT (xp_pop (ihE _ _ hO) hb.1) fun _ => rfl
        · rename_i O a hk hO
          obtain ⟨A, hA, rfl⟩ := Option.map_eq_some_iff.mp h
          unfold mkOf at hk
          repeat' split at hk
          all_goals first | (cases hk; done) | skip
          rename_i hx; subst hx
          have hs := hb.2
          rw [List.all_cons, Bool.and_eq_true] at hs
          exact plainT (xp_idx hu (ihE _ _ hO) (ihE _ _ hA) hs.1 hb.1) fun _ => rfl
        · rename_i O a b hk hO
          split at h
          · rename_i A B hA hB
            cases h
            unfold mkOf at hk
            repeat' split at hk
            all_goals first | (cases hk; done) | skip
            rename_i hx; subst hx
            have hs := hb.2
            simp only [List.all_cons, Bool.and_eq_true] at hs
            exact plainT (xp_ins (ihE _ _ hO) (ihE _ _ hA) (ihE _ _ hB) hs.1 hs.2.1 hb.1) fun _ => rfl
          · cases h
        · cases h
      · cases h
    · rename_i elt tg iter ifs scope pos
      split at h
      · rename_i hb
        rw [Bool.and_eq_true] at hb
        have ihB : ∀ (s : Shared) (H : Hp) (C : Addr) (cl : List (Str × Addr)) (fp : List Addr), ∀ e m, cmpE T n (relS scope sc) (fun x => scope.names.lookup x == some .cell) e = some m → PE (X.blk s H scope (compEnvC scope cl C X.env) fp) e (rdE X.K m) ∧ PT (X.blk s H scope (compEnvC scope cl C X.env) fp) e (rdT X.K (tOf m)) :=
          fun s H C cl fp e m => cmpE_ok T n _ _ _ (ok.blk hb.1 s H C cl fp) e m
        split at h
        · rename_i it t c e hi ht hc he
          split at h
          · rename_i hsl
            cases h
            have L : Lc1 X tg iter elt ifs scope (ownOf T 8 tg) it t c e := ⟨by rw [ok.hN, ok.hsc]; exact blkOk_by hb.1, by rw [ok.hN]; exact ok.nd, ok.calm, cmpI_ok ok ihE (fun z => z) hi, notSet_ok hb.2 _,
              fun s H C cl fp => cmpTG_ok 8 _ _ _ (ok.blk hb.1 s H C cl fp) _ _ ht, fun s H C cl fp => cmpC_ok (fun e m z => (ihB s H C cl fp e m z).2) hc, fun s H C cl fp => (ihB s H C cl fp _ _ he).1,
              fun i hi => of_decide_eq_true (List.all_eq_true.mp hsl i hi)⟩
            exact plainT (PE.mono L.pe fun _ _ _ => rdF_of eLc_lst) fun _ => rfl
          · cases h
        · cases h
      · cases h
    · rename_i elt tg iter ifs tg1 iter1 ifs1 scope pos
      split at h
      · rename_i hb
        simp only [Bool.and_eq_true] at hb
        obtain ⟨⟨hb1, hb2⟩, hb3⟩ := hb
        have ihB : ∀ (s : Shared) (H : Hp) (C : Addr) (cl : List (Str × Addr)) (fp : List Addr), ∀ e m, cmpE T n (relS scope sc) (fun x => scope.names.lookup x == some .cell) e = some m → PE (X.blk s H scope (compEnvC scope cl C X.env) fp) e (rdE X.K m) ∧ PT (X.blk s H scope (compEnvC scope cl C X.env) fp) e (rdT X.K (tOf m)) :=
          fun s H C cl fp e m => cmpE_ok T n _ _ _ (ok.blk hb1 s H C cl fp) e m
        split at h
        · rename_i it t c e it1 t1 c1 hi ht hc he hi1 ht1 hc1
          split at h
          · rename_i hsl
            rw [Bool.and_eq_true] at hsl
            cases h
            have L : Lc1 X tg iter elt ifs scope (ownOf T 8 tg ++ ownOf T 8 tg1) it t c e := ⟨by rw [ok.hN, ok.hsc]; exact blkOk_by hb1, by rw [ok.hN]; exact ok.nd, ok.calm, cmpI_ok ok ihE (fun z => z) hi, notSet_ok hb2 _,
              fun s H C cl fp => cmpTG_ok 8 _ _ _ (ok.blk hb1 s H C cl fp) _ _ ht, fun s H C cl fp => cmpC_ok (fun e m z => (ihB s H C cl fp e m z).2) hc, fun s H C cl fp => (ihB s H C cl fp _ _ he).1,
              fun i hi => of_decide_eq_true (List.all_eq_true.mp hsl.1 i hi)⟩
            have M : Lc2 X tg1 iter1 ifs1 scope (ownOf T 8 tg ++ ownOf T 8 tg1) (ownOf T 8 tg1) it1 t1 c1 := ⟨fun s H C cl fp => cmpI_ok (ok.blk hb1 s H C cl fp) (fun e m z => (ihB s H C cl fp e m z).1) (fun z => z) hi1, notSet_ok hb3,
              fun s H C cl fp => cmpTG_ok 8 _ _ _ (ok.blk hb1 s H C cl fp) _ _ ht1, fun s H C cl fp => cmpC_ok (fun e m z => (ihB s H C cl fp e m z).2) hc1,
              fun i hi => of_decide_eq_true (List.all_eq_true.mp hsl.2 i hi), fun i hi => by rw [List.map_append]; exact List.mem_append_right _ hi⟩
            exact plainT (PE.mono (Lc2.pe L M) fun _ _ _ => rdF_of eLc2_lst) fun _ => rfl
          · cases h
        · cases h
      · cases h
    · cases h
end
end Ev
/-! EvExc: what raises. -/
namespace Ev
open PySem PySem.Spec PyProof.Rows L2

theorem bind_exn {α β : Type} {o : Out α} {f : α → Sto → Out β} {x : Xn} {s : Sto} (h : o.bind f = .exn x s) : o = .exn x s ∨ ∃ a s1, o = .ok a s1 ∧ f a s1 = .exn x s := by
  cases o with
  | ok a s1 => exact .inr ⟨a, s1, rfl, h⟩
  | exn y t =>
    left
    cases h
    rfl
  | bad => cases h
/-- the exception tells x -/
def Tl (K : PySem.W.Frag) (H : Hp) (P : AP') (C : Addr) (x : Xn) (cls : Value) (d : Option Addr) : Prop := cls = .ref C ∧ ∃ a v, d = some a ∧ H a = some (.xd [(("thing" : Str), v)]) ∧ Rp K H P v x.arg
def XWh (K : PySem.W.Frag) (C : Addr) (E : XK) (ι : List Addr) (P : AP') (H : Hp) (x : Xn) (st' : Sto) : Prop := ∀ cls d H', Ext ι H H' → RS K H' P ι st' → Tl K H' P C x cls d → E cls d H'
theorem XWh.next {K : PySem.W.Frag} {C : Addr} {E : XK} {ι : List Addr} {P : AP'} {H H' : Hp} {x : Xn} {st' : Sto} (w : XWh K C E ι P H x st') (e : Ext ι H H') : XWh K C E ι P H' x st' := fun cls d H2 x2 r t => w cls d H2 (e.trans x2) r t
def rdX (K : PySem.W.Frag) (C : Addr) (E : XK) (m : ME) : TE := fun σ H _ => ∃ ι P env st, At K H P ι σ env st ∧ ∃ x st', m env st = .exn x st' ∧ XWh K C E ι P H x st'
def rdXT (K : PySem.W.Frag) (C : Addr) (E : XK) (m : MT) : TT := fun σ H _ => ∃ ι P env st, At K H P ι σ env st ∧ ∃ x st', m env st = .exn x st' ∧ XWh K C E ι P H x st'
def rdXA (K : PySem.W.Frag) (C : Addr) (E : XK) (m : MA) : TA := fun σ H _ => ∃ ι P env st, At K H P ι σ env st ∧ ∃ x st', m env st = .exn x st' ∧ XWh K C E ι P H x st'
def rdXS (K : PySem.W.Frag) (C : Addr) (E : XK) (m : MS) : TS := fun _ σ H => ∃ ι P env st, At K H P ι σ env st ∧ ∃ x st', m env st = .exn x st' ∧
  ∀ cls d H' ι' P', Gr ι P H ι' P' H' → RS K H' P' ι' st' → Tl K H' P' C x cls d → E cls d H'
def spX (K : PySem.W.Frag) (C : Addr) (F : FnS) : Sp := fun vs H _ E => ∃ ι P xs st, RS K H P ι st ∧ Paired (RV K H P ι) vs xs ∧ ∃ x st', F xs st = .exn x st' ∧ XWh K C E ι P H x st'
section
variable {X : Cx}
theorem PE.or2 {e : Expr} {t t1 t2 : TE} (h1 : PE X e t1) (h2 : PE X e t2) (q : ∀ σ H Q, t σ H Q → t1 σ H Q ∨ t2 σ H Q) : PE X e t := ⟨fun pins s σ H Q I w => (q _ _ _ w).elim (h1.run pins s σ H Q I) (h2.run pins s σ H Q I)⟩
theorem PT.or2 {e : Expr} {t t1 t2 : TT} (h1 : PT X e t1) (h2 : PT X e t2) (q : ∀ σ H Q, t σ H Q → t1 σ H Q ∨ t2 σ H Q) : PT X e t := ⟨fun pins s σ H Q I w => (q _ _ _ w).elim (h1.run pins s σ H Q I) (h2.run pins s σ H Q I)⟩
theorem PW.or2 {e : Expr} {t t1 t2 : TT} (h1 : PW X e t1) (h2 : PW X e t2) (q : ∀ σ H Q, t σ H Q → t1 σ H Q ∨ t2 σ H Q) : PW X e t := ⟨fun wh pins s σ H Q I w => (q _ _ _ w).elim (h1.run wh pins s σ H Q I) (h2.run wh pins s σ H Q I)⟩
theorem PA.or2 {e : List Expr} {t t1 t2 : TA} (h1 : PA X e t1) (h2 : PA X e t2) (q : ∀ σ H Q, t σ H Q → t1 σ H Q ∨ t2 σ H Q) : PA X e t := ⟨fun pos pins s σ H Q I w => (q _ _ _ w).elim (h1.run pos pins s σ H Q I) (h2.run pos pins s σ H Q I)⟩
theorem PS.or2 {e : Stmt} {t t1 t2 : TS} (h1 : PS X e t1) (h2 : PS X e t2) (q : ∀ D σ H, t D σ H → t1 D σ H ∨ t2 D σ H) : PS X e t := ⟨fun pins s σ H D I w => (q _ _ _ w).elim (h1.run pins s σ H D I) (h2.run pins s σ H D I)⟩
theorem PSs.or2 {e : List Stmt} {t t1 t2 : TS} (h1 : PSs X e t1) (h2 : PSs X e t2) (q : ∀ D σ H, t D σ H → t1 D σ H ∨ t2 D σ H) : PSs X e t := ⟨fun pins s σ H D I w => (q _ _ _ w).elim (h1.run pins s σ H D I) (h2.run pins s σ H D I)⟩
theorem PE.no {e : Expr} {t : TE} (q : ∀ σ H Q, ¬ t σ H Q) : PE X e t := ⟨fun pins s σ H Q I w => (q _ _ _ w).elim⟩
theorem PT.no {e : Expr} {t : TT} (q : ∀ σ H Q, ¬ t σ H Q) : PT X e t := ⟨fun pins s σ H Q I w => (q _ _ _ w).elim⟩
theorem PA.no {e : List Expr} {t : TA} (q : ∀ σ H Q, ¬ t σ H Q) : PA X e t := ⟨fun pos pins s σ H Q I w => (q _ _ _ w).elim⟩
theorem PS.no {e : Stmt} {t : TS} (q : ∀ D σ H, ¬ t D σ H) : PS X e t := ⟨fun pins s σ H D I w => (q _ _ _ w).elim⟩
theorem PSs.no {e : List Stmt} {t : TS} (q : ∀ D σ H, ¬ t D σ H) : PSs X e t := ⟨fun pins s σ H D I w => (q _ _ _ w).elim⟩
end
/-- m raises nothing -/
def NoE (m : ME) : Prop := ∀ env st x s', m env st ≠ .exn x s'
section
variable {X : Cx} {C : Addr} {E : XK} {a b c e : Expr} {es rest : List Expr} {ma mb mc : ME} {m : MA} {pos p : Pos}
theorem okD_no {o : Option PyData} {s s' : Sto} {x : Xn} (h : okD o s = .exn x s') : False := by
  cases o <;> cases h
theorem okB_no {o : Option Bool} {s s' : Sto} {x : Xn} (h : okB o s = .exn x s') : False := by
  cases o <;> cases h
theorem tOf_exn {m : ME} {env : Env} {s s' : Sto} {x : Xn} (h : tOf m env s = .exn x s') : m env s = .exn x s' := by
  rcases bind_exn h with h | ⟨v, s1, h1, h⟩
  · exact h
  · split at h <;> cases h
theorem xx_no (h : NoE ma) : PE X e (rdX X.K C E ma) := PE.no fun σ H Q ⟨ι, P, env, st, A, x, st', q, w⟩ => h _ _ _ _ q
theorem xxt_no (h : NoE ma) : PT X e (rdXT X.K C E (tOf ma)) := PT.no fun σ H Q ⟨ι, P, env, st, A, x, st', q, w⟩ => h _ _ _ _ (tOf_exn q)
theorem xx_e2 {op : Operator} {f : PyData → PyData → Option PyData} (ho : OpR X (binaryOp op) (rOp X.K f)) (ha : PE X a (rdE X.K ma)) (hb : PE X b (rdE X.K mb)) (xa : PE X a (rdX X.K C E ma)) (xb : PE X b (rdX X.K C E mb)) : PE X (.BinOp a op b pos) (rdX X.K C E (e2 f ma mb)) :=
  PE.or2 (pe_op ho xa hb) (pe_op ho ha xb) fun σ H Q ⟨ι, P, env, st, A, x, st', e, w⟩ => by
    rcases bind_exn e with h | ⟨v, s1, h1, e⟩
    · exact .inl ⟨ι, P, env, st, A, x, st', h, w⟩
    · right
      refine rdE.bind A h1 fun u H1 x1 A1 r1 => ?_
      rcases bind_exn e with h | ⟨v2, s2, h2, e⟩
      · exact ⟨ι, P, env, s1, A1, x, st', h, w.next x1⟩
      · split at e
        · exact (okD_no e).elim
        · cases e
theorem xx_ix (ha : PE X a (rdE X.K ma)) (hb : PE X b (rdE X.K mb)) (xa : PE X a (rdX X.K C E ma)) (xb : PE X b (rdX X.K C E mb)) (hs : plainIx b = true) : PE X (.Subscript a b pos) (rdX X.K C E (e2 pIx ma mb)) :=
  PE.or2 (pe_ix (ix_of (X := X)) xa hb (plainIx_ok hs)) (pe_ix (ix_of (X := X)) ha xb (plainIx_ok hs)) fun σ H Q ⟨ι, P, env, st, A, x, st', e, w⟩ => by
    rcases bind_exn e with h | ⟨v, s1, h1, e⟩
    · exact .inl ⟨ι, P, env, st, A, x, st', h, w⟩
    · right
      refine rdE.bind A h1 fun u H1 x1 A1 r1 => ?_
      rcases bind_exn e with h | ⟨v2, s2, h2, e⟩
      · exact ⟨ι, P, env, s1, A1, x, st', h, w.next x1⟩
      · split at e
        · exact (okD_no e).elim
        · cases e
theorem xx_cmp {op : CmpOp} {f : PyData → PyData → Option Bool} (ho : OpR X (compareOp op) (rCm X.K f)) (ha : PE X a (rdE X.K ma)) (hb : PE X b (rdE X.K mb)) (xa : PE X a (rdX X.K C E ma)) (xb : PE X b (rdX X.K C E mb)) (hm : behindInMarks op b = false) :
    PE X (.Compare a [op] [b] pos) (rdX X.K C E (eCmp f ma mb)) :=
  PE.or2 (pe_cmpR ho xa hb hm) (pe_cmpR ho ha xb hm) fun σ H Q ⟨ι, P, env, st, A, x, st', e, w⟩ => by
    rcases bind_exn e with h | ⟨v, s1, h1, e⟩
    · exact .inl ⟨ι, P, env, st, A, x, st', h, w⟩
    · right
      refine rdE.bind A h1 fun u H1 x1 A1 r1 => ?_
      rcases bind_exn e with h | ⟨v2, s2, h2, e⟩
      · exact ⟨ι, P, env, s1, A1, x, st', h, w.next x1⟩
      · split at e
        · exact (okB_no e).elim
        · cases e
theorem xxt_cmp {op : CmpOp} {f : PyData → PyData → Option Bool} (ho : OpR X (compareOp op) (rCm X.K f)) (ha : PE X a (rdE X.K ma)) (hb : PE X b (rdE X.K mb)) (xa : PE X a (rdX X.K C E ma)) (xb : PE X b (rdX X.K C E mb)) (hm : behindInMarks op b = false) :
    PT X (.Compare a [op] [b] pos) (rdXT X.K C E (tOf (eCmp f ma mb))) :=
  PT.or2 (pt_cmpR ho xa hb hm) (pt_cmpR ho ha xb hm) fun σ H Q ⟨ι, P, env, st, A, x, st', e, w⟩ => by
    rcases bind_exn (tOf_exn e) with h | ⟨v, s1, h1, e⟩
    · exact .inl ⟨ι, P, env, st, A, x, st', h, w⟩
    · right
      refine rdE.bind A h1 fun u H1 x1 A1 r1 => ?_
      rcases bind_exn e with h | ⟨v2, s2, h2, e⟩
      · exact ⟨ι, P, env, s1, A1, x, st', h, w.next x1⟩
      · split at e
        · exact (okB_no e).elim
        · cases e
theorem xxt_plain {e : Expr} (h : PE X e (rdX X.K C E ma)) (he : ∀ whole, isTrue e X.env whole = (do let v ← whole; standAt e.pos; holding [v] (truthy v))) : PT X e (rdXT X.K C E (tOf ma)) :=
  PT.mono (pt_val h he) fun σ H Q ⟨ι, P, env, st, A, x, st', e, w⟩ => ⟨ι, P, env, st, A, x, st', tOf_exn e, w⟩
theorem xx_and (ha : PE X a (rdE X.K ma)) (hb : PE X (.BoolOp .And (b :: rest) pos) (rdE X.K mb)) (xa : PE X a (rdX X.K C E ma)) (xb : PE X (.BoolOp .And (b :: rest) pos) (rdX X.K C E mb)) : PE X (.BoolOp .And (a :: b :: rest) pos) (rdX X.K C E (eAnd ma mb)) :=
  PE.or2 (pe_and xa hb) (pe_and ha xb) fun σ H Q ⟨ι, P, env, st, A, x, st', e, w⟩ => by
    rcases bind_exn e with h | ⟨k, s1, h1, e⟩
    · exact .inl ⟨ι, P, env, st, A, x, st', tOf_exn h, w⟩
    · right
      refine rdE.bind A (tOf_ok h1) fun u H1 x1 A1 r1 => ⟨k, r1.bool, ?_⟩
      cases k with
      | true => exact ⟨ι, P, env, s1, A1, x, st', e, w.next x1⟩
      | false => cases e
theorem xx_or (ha : PE X a (rdE X.K ma)) (hb : PE X (.BoolOp .Or (b :: rest) pos) (rdE X.K mb)) (xa : PE X a (rdX X.K C E ma)) (xb : PE X (.BoolOp .Or (b :: rest) pos) (rdX X.K C E mb)) : PE X (.BoolOp .Or (a :: b :: rest) pos) (rdX X.K C E (eOr ma mb)) :=
  PE.or2 (pe_or xa hb) (pe_or ha xb) fun σ H Q ⟨ι, P, env, st, A, x, st', e, w⟩ => by
    rcases bind_exn e with h | ⟨k, s1, h1, e⟩
    · exact .inl ⟨ι, P, env, st, A, x, st', tOf_exn h, w⟩
    · right
      refine rdE.bind A (tOf_ok h1) fun u H1 x1 A1 r1 => ⟨k, r1.bool, ?_⟩
      cases k with
      | false => exact ⟨ι, P, env, s1, A1, x, st', e, w.next x1⟩
      | true => cases e
theorem xx_not (xa : PE X a (rdX X.K C E ma)) : PE X (.UnaryOp .Not a pos) (rdX X.K C E (eNot ma)) :=
  PE.mono (pe_not xa) fun σ H Q ⟨ι, P, env, st, A, x, st', e, w⟩ => by
    rcases bind_exn e with h | ⟨k, s1, h1, e⟩
    · exact ⟨ι, P, env, st, A, x, st', tOf_exn h, w⟩
    · cases e
theorem xxt_not (xa : PT X a (rdXT X.K C E (tOf ma))) : PT X (.UnaryOp .Not a pos) (rdXT X.K C E (tOf (eNot ma))) :=
  PT.mono (pt_not xa) fun σ H Q ⟨ι, P, env, st, A, x, st', e, w⟩ => by
    rcases bind_exn (tOf_exn e) with h | ⟨k, s1, h1, e⟩
    · exact ⟨ι, P, env, st, A, x, st', h, w⟩
    · cases e
theorem xxw_one {op : BoolOp} (ha : PT X a (rdXT X.K C E (tOf ma))) : PW X (.BoolOp op [a] pos) (rdXT X.K C E (tOf ma)) := by
  cases op
  · exact pw_and1 ha
  · exact pw_or1 ha
theorem tOf_of_exn {m : ME} {env : Env} {s s' : Sto} {x : Xn} (h : m env s = .exn x s') : tOf m env s = .exn x s' := by
  unfold tOf
  rw [h]
  rfl
theorem xxw_and (ha : PT X a (rdT X.K (tOf ma))) (hb : PW X (.BoolOp .And (b :: rest) pos) (rdT X.K (tOf mb))) (xa : PT X a (rdXT X.K C E (tOf ma))) (xb : PW X (.BoolOp .And (b :: rest) pos) (rdXT X.K C E (tOf mb))) : PW X (.BoolOp .And (a :: b :: rest) pos) (rdXT X.K C E (tOf (eAnd ma mb))) :=
  PW.or2 (pw_and xa hb) (pw_and ha xb) fun σ H Q ⟨ι, P, env, st, A, x, st', e, w⟩ => by
    rcases bind_exn (tOf_exn e) with h | ⟨k, s1, h1, e⟩
    · exact .inl ⟨ι, P, env, st, A, x, st', h, w⟩
    · right
      refine rdT.bind A h1 fun H1 x1 A1 => ?_
      cases k with
      | true =>
        rw [if_pos rfl]
        exact ⟨ι, P, env, s1, A1, x, st', tOf_of_exn e, w.next x1⟩
      | false => cases e
theorem xxw_or (ha : PT X a (rdT X.K (tOf ma))) (hb : PW X (.BoolOp .Or (b :: rest) pos) (rdT X.K (tOf mb))) (xa : PT X a (rdXT X.K C E (tOf ma))) (xb : PW X (.BoolOp .Or (b :: rest) pos) (rdXT X.K C E (tOf mb))) : PW X (.BoolOp .Or (a :: b :: rest) pos) (rdXT X.K C E (tOf (eOr ma mb))) :=
  PW.or2 (pw_or xa hb) (pw_or ha xb) fun σ H Q ⟨ι, P, env, st, A, x, st', e, w⟩ => by
    rcases bind_exn (tOf_exn e) with h | ⟨k, s1, h1, e⟩
    · exact .inl ⟨ι, P, env, st, A, x, st', h, w⟩
    · right
      refine rdT.bind A h1 fun H1 x1 A1 => ?_
      cases k with
      | false =>
        rw [if_neg Bool.false_ne_true]
        exact ⟨ι, P, env, s1, A1, x, st', tOf_of_exn e, w.next x1⟩
      | true => cases e
theorem xx_ife {c : Expr} (hc : PT X c (rdT X.K (tOf mc))) (ha : PE X a (rdE X.K ma)) (hb : PE X b (rdE X.K mb)) (xc : PT X c (rdXT X.K C E (tOf mc))) (xa : PE X a (rdX X.K C E ma)) (xb : PE X b (rdX X.K C E mb)) : PE X (.IfExp c a b pos) (rdX X.K C E (eIf mc ma mb)) :=
  PE.or2 (pe_ifExp xc ha hb) (pe_ifExp hc xa xb) fun σ H Q ⟨ι, P, env, st, A, x, st', e, w⟩ => by
    rcases bind_exn e with h | ⟨k, s1, h1, e⟩
    · exact .inl ⟨ι, P, env, st, A, x, st', h, w⟩
    · right
      refine rdT.bind A h1 fun H1 x1 A1 => ?_
      cases k with
      | true => exact ⟨ι, P, env, s1, A1, x, st', e, w.next x1⟩
      | false => exact ⟨ι, P, env, s1, A1, x, st', e, w.next x1⟩
theorem xxa_nil : PA X [] (rdXA X.K C E aNil) := PA.no fun σ H Q ⟨ι, P, env, st, A, x, st', e, w⟩ => by cases e
theorem xxa_cons (ha : PE X a (rdE X.K ma)) (hr : PA X es (rdA X.K m)) (xa : PE X a (rdX X.K C E ma)) (xr : PA X es (rdXA X.K C E m)) (hs : noStar a = true) : PA X (a :: es) (rdXA X.K C E (aCons ma m)) :=
  PA.or2 (pa_cons xa hr (star_cons hs)) (pa_cons ha xr (star_cons hs)) fun σ H Q ⟨ι, P, env, st, A, x, st', e, w⟩ => by
    rcases bind_exn e with h | ⟨v, s1, h1, e⟩
    · exact .inl ⟨ι, P, env, st, A, x, st', h, w⟩
    · right
      refine rdE.bind A h1 fun u H1 x1 A1 r1 => ?_
      rcases bind_exn e with h | ⟨v2, s2, h2, e⟩
      · exact ⟨ι, P, env, s1, A1, x, st', h, w.next x1⟩
      · cases e
theorem xx_tup {k : Nat} (h : PA X es (rdXA X.K C E m)) : PE X (.Tuple es k pos) (rdX X.K C E (eTup m)) :=
  PE.mono (pe_tup h) fun σ H Q ⟨ι, P, env, st, A, x, st', e, w⟩ => by
    rcases bind_exn e with h | ⟨v, s1, h1, e⟩
    · exact ⟨ι, P, env, st, A, x, st', h, w⟩
    · split at e
      · split at e <;> cases e
      · cases e
variable {F : FnS} {k k2 : Nat} {g : Addr} {fd : FuncData} {ps : List Str} {CX' : CXT} {x : Str}
/-- a call: an argument raises, or the def -/
theorem xx_args {gd : Bool} (G : FnG gd X.prog X.w X.K X.mg X.base CX' k g fd ps (spOf X.K F)) (hgd : gd = true → X.A.guards = some []) (hr : Room k X.A) (hg : Gl X x) (hm : X.mg x = some (.ref g)) (hk : PySem.W.keepIn X.K (.ref g) = true) (hb : Binds X.K fd ps []) (hx : Passes CX' X E0)
    (xa : PA X (e :: es) (rdXA X.K C E m)) (hs : (e :: es).all noStar = true) (hd : (x == ("__debug__" : Str)) = false) (hF : ∀ xs s y s', F xs s ≠ .exn y s') : PE X (.Call (.Name x p) (e :: es) [] pos) (rdX X.K C E (eCall F m)) := by
  rw [List.all_cons, Bool.and_eq_true] at hs
  refine PE.mono (pe_callG G hgd hr hg hm hk hb hx xa hd (star_cons hs.1) (star_none hs.2)) fun σ H Q ⟨ι, P, env, st, A, x, st', e, w⟩ => ?_
  rcases bind_exn e with h | ⟨v, s1, h1, e⟩
  · exact ⟨ι, P, env, st, A, x, st', h, w⟩
  · exact (hF _ _ _ _ e).elim
theorem xx_call (G : FnOk X.prog X.w X.K X.mg X.base (L2.CX X.prog X.w) k g fd ps (spX X.K C F)) (hr : Room k X.A) (hg : Gl X x) (hm : X.mg x = some (.ref g)) (hk : PySem.W.keepIn X.K (.ref g) = true) (hb : Binds X.K fd ps []) (hx : Passes (L2.CX X.prog X.w) X E)
    (ha : PA X (e :: es) (rdA X.K m)) (xa : PA X (e :: es) (rdXA X.K C E m)) (hs : (e :: es).all noStar = true) (hd : (x == ("__debug__" : Str)) = false) : PE X (.Call (.Name x p) (e :: es) [] pos) (rdX X.K C E (eCall F m)) := by
  rw [List.all_cons, Bool.and_eq_true] at hs
  refine PE.or2 (pe_call G hr hg hm hk hb .nil hx xa hd (star_cons hs.1) (star_none hs.2)) (pe_call G hr hg hm hk hb .nil hx ha hd (star_cons hs.1) (star_none hs.2)) fun σ H Q ⟨ι, P, env, st, A, x, st', e, w⟩ => ?_
  rcases bind_exn e with h | ⟨xs, s1, h1, e⟩
  · exact .inl ⟨ι, P, env, st, A, x, st', h, w⟩
  · right
    refine rdA.bind A h1 fun u H1 x1 A1 r1 => ?_
    rw [List.append_nil]
    exact ⟨ι, P, xs, s1, A1.s, r1, x, st', e, w.next x1⟩
theorem xx_call0 (G : FnOk X.prog X.w X.K X.mg X.base (L2.CX X.prog X.w) k g fd ps (spX X.K C F)) (hr : Room k X.A) (hg : Gl X x) (hm : X.mg x = some (.ref g)) (hk : PySem.W.keepIn X.K (.ref g) = true) (hb : Binds X.K fd ps []) (hx : Passes (L2.CX X.prog X.w) X E)
    (hd : (x == ("__debug__" : Str)) = false) : PE X (.Call (.Name x p) [] [] pos) (rdX X.K C E (eCall F aNil)) := by
  refine PE.mono (pe_call0 G hr hg hm hk hb .nil hx hd) fun σ H Q ⟨ι, P, env, st, A, x, st', e, w⟩ => ?_
  exact ⟨ι, P, [], st, A.s, .nil, x, st', e, w⟩
end
/-! ### statements -/
section
variable {X : Cx} {C : Addr} {E : XK} {a b c e : Expr} {s0 : Stmt} {ss : List Stmt} {ma mb mc : ME} {m m2 : MS} {pos p : Pos}
theorem xxs_no (h : ∀ env st x s', m env st ≠ .exn x s') : PS X s0 (rdXS X.K C E m) := PS.no fun D σ H ⟨ι, P, env, st, A, x, st', q, w⟩ => h _ _ _ _ q
theorem xwh_gr {K : PySem.W.Frag} {ι : List Addr} {P : AP'} {H : Hp} {x : Xn} {st' : Sto} (w : ∀ cls d H' ι' P', Gr ι P H ι' P' H' → RS K H' P' ι' st' → Tl K H' P' C x cls d → E cls d H') : XWh K C E ι P H x st' := fun cls d H' x1 r t => w cls d H' ι P (Gr.of x1) r t
theorem xxs_ret (ha : PE X a (rdX X.K C E ma)) : PS X (.Return (some a) pos) (rdXS X.K C E (sRet ma)) :=
  PS.mono (ps_ret ha) fun D σ H ⟨ι, P, env, st, A, x, st', e, w⟩ => by
    rcases bind_exn e with h | ⟨v, s1, h1, e⟩
    · exact ⟨ι, P, env, st, A, x, st', h, xwh_gr w⟩
    · cases e
theorem xxs_exp (ha : PE X a (rdX X.K C E ma)) (hs : swapsWith a none pos.line X.env = pure false) : PS X (.Expr a pos) (rdXS X.K C E (sExp ma)) :=
  PS.mono (ps_expr ha hs) fun D σ H ⟨ι, P, env, st, A, x, st', e, w⟩ => by
    rcases bind_exn e with h | ⟨v, s1, h1, e⟩
    · exact ⟨ι, P, env, st, A, x, st', h, xwh_gr w⟩
    · cases e
theorem xxs_set {i : Nat} (h : PS X s0 (tAsg (rdX X.K C E ma) (gName i))) : PS X s0 (rdXS X.K C E (sSet i ma)) :=
  PS.mono h fun D σ H ⟨ι, P, env, st, A, x, st', e, w⟩ => by
    rcases bind_exn e with h | ⟨v, s1, h1, e⟩
    · exact ⟨ι, P, env, st, A, x, st', h, xwh_gr w⟩
    · cases e
theorem pi_x {tg e : Expr} {m : ME} (h : PE X e (rdX X.K C E m)) : PI X tg e (fun σ H _ => rdX X.K C E m σ H fun _ _ => False) :=
  ⟨fun pins s σ H R I w => wpAny_mono (h.run pins s σ H _ I w) (fun v s1 hv => let ⟨_, _, _, _, z⟩ := hv; z.elim) fun _ _ z => z⟩
theorem xxs_for {tg iter : Expr} {body : List Stmt} {t : TG} {b : MS} (hp : PassesOwn (model X.prog X.w) X.A X.env X.xe) (hc : X.calm = true) (ha : PE X iter (rdX X.K C E ma)) (hg : PG X tg (rdG X.K t)) (hb : PSs X body (rdS X.K b)) (hs : ∀ x, foldedSetIterable iter X.env x = pure x) : PS X (.For tg iter body [] pos) (rdXS X.K C E (sForX ma t b)) :=
  PS.mono (ps_for hp hc (pi_x ha) hg hb hs) fun D σ H ⟨ι, P, env, st, A, x, st', e, w⟩ => by
    rcases bind_exn e with h | ⟨v, s1, h1, e⟩
    · exact ⟨ι, P, env, st, A, x, st', h, xwh_gr w⟩
    · exact (noX_no e).elim
theorem forGo_itx {tg : TG} {body : MS} {xs : List PyData} : ∀ (n i : Nat) (env : Env) (s : Sto) (x : Xn) (s' : Sto), i + n = xs.length → forGo body tg (xs.drop i) env s = .exn x s' → forIt (nxt (.its xs)) tg body (n + 1) i env s = .exn x s'
  | 0, i, env, s, x, s', hi, h => by
    rw [List.drop_eq_nil_of_le (by omega)] at h
    cases h
  | n + 1, i, env, s, x, s', hi, h => by
    have hlt : i < xs.length := by omega
    rw [List.drop_eq_getElem_cons hlt] at h
    unfold forGo at h
    unfold forIt
    simp only [nxt, List.getElem?_eq_getElem hlt]
    split at h
    · rename_i env1 hp
      try simp only [hp]
      rcases bind_exn h with h | ⟨r1, s1, h1, h⟩
      · simp only [h, Out.bind]
      · simp only [h1, Out.bind]
        cases r1 with
        | nx env2 => exact forGo_itx n (i + 1) env2 s1 x s' (by omega) h
        | rt v => cases h
    · cases h
theorem forAt_itx {tg : TG} {body : MS} {n : Nat} : ∀ (k i : Nat) (env : Env) (s : Sto) (y : Xn) (s' : Sto), forAt body tg n k i env s = .exn y s' → forIt (nxt (.at_ n)) tg body k i env s = .exn y s'
  | 0, i, env, s, y, s', h => by unfold forAt at h; cases h
  | k + 1, i, env, s, y, s', h => by
    unfold forAt at h
    unfold forIt
    split at h
    · rename_i xs hs
      simp only [nxt, hs]
      split at h
      · rename_i x hx
        simp only [hx]
        split at h
        · rename_i env1 hp
          try simp only [hp]
          rcases bind_exn h with h | ⟨r1, s1, h1, h⟩
          · simp only [h, Out.bind]
          · simp only [h1, Out.bind]
            cases r1 with
            | nx env2 => exact forAt_itx k (i + 1) env2 s1 y s' h
            | rt v => cases h
        · cases h
      · cases h
    · cases h
theorem xxs_forB {tg iter : Expr} {body : List Stmt} {t : TG} {mi : MI} (hp : PassesOwn (model X.prog X.w) X.A X.env X.xe) (hc : X.calm = true) (hi : PI X tg iter (rdI X.K mi)) (hg : PG X tg (rdG X.K t)) (hb : PSs X body (rdS X.K m)) (xb : PSs X body (rdXS X.K C E m)) (hs : ∀ x, foldedSetIterable iter X.env x = pure x) :
    PS X (.For tg iter body [] pos) (rdXS X.K C E (sForB mi t m)) :=
  PS.mono (ps_for hp hc hi hg (PSs.or2 (t := fun D σ H => rdS X.K m D σ H ∨ rdXS X.K C E m D σ H) hb xb fun _ _ _ z => z) hs) fun D σ H ⟨ι, P, env, st, A, x, st', e, w⟩ => by
    rcases bind_exn e with h | ⟨src, s1, h1, e⟩
    · exact (noX_no h).elim
    have h1 := noX_ok h1
    have hrun : ∃ k, forIt (nxt src) t m k 0 env s1 = .exn x st' := by
      split at e
      · exact ⟨_, forGo_itx _ 0 env s1 x st' (Nat.zero_add _) e⟩
      · split at e
        · exact ⟨_, forAt_itx _ _ _ _ _ _ e⟩
        · cases e
    obtain ⟨k0, hk0⟩ := hrun
    refine ⟨ι, P, env, st, A, src, s1, h1, fun J H1 x1 r1 wk => ?_⟩
    have A1 := A.next x1 r1
    refine ⟨fun i k σ' H' => ∃ ι' P' env' s', Gr ι P H ι' P' H' ∧ At X.K H' P' ι' σ' env' s' ∧ WalkG X.K P' ι' J src H' ∧ forIt (nxt src) t m k i env' s' = .exn x st', ⟨k0, ι, P, env, s1, Gr.of x1, A1, wk, hk0⟩, ?_⟩
    rintro i k σ' H' ⟨ι', P', env', s', g, A', w', hit⟩
    cases k with
    | zero => unfold forIt at hit; cases hit
    | succ k =>
      unfold forIt at hit
      obtain ⟨w1, w2⟩ := w' P' ι' s' H' (List.prefix_refl _) (fun a h => .inl h) (ExtP.refl _ _) A'.s i
      split at hit
      · rename_i d hn
        obtain ⟨w3, w4⟩ := w2 d hn
        split at hit
        · rename_i env2 hput
          rcases bind_exn hit with hx | ⟨r2, s2, h2, hit⟩
          · refine .inr ⟨w3, fun _ _ => False, fun _ _ z => z.elim, fun y H2 hy => ?_⟩
            obtain ⟨sm, rx⟩ := w4 y H2 hy
            refine ⟨ι', P', env', s', d, env2, ⟨A'.e.ext (.same sm), A'.s.same sm⟩, rx, hput, fun σ2 R2 _ => .inr ⟨ι', P', env2, s', ⟨R2, A'.s.same sm⟩, x, st', hx, ?_⟩⟩
            have g3 : Gr ι P H ι' P' H2 := g.trans (Gr.of (.same sm)) (A'.s.there g.pre)
            have h2' := (A'.s.same sm).there g.pre
            exact fun cls dd H3 ι3 P3 g4 r4 tl => w cls dd H3 ι3 P3 (g3.trans g4 h2') r4 tl
          · refine .inr ⟨w3, fun σ3 H3 => ∃ k', k' < k + 1 ∧ ∃ ι' P' env' s', Gr ι P H ι' P' H3 ∧ At X.K H3 P' ι' σ3 env' s' ∧ WalkG X.K P' ι' J src H3 ∧ forIt (nxt src) t m k' (i + 1) env' s' = .exn x st', fun σ3 H3 z => z, fun y H2 hy => ?_⟩
            obtain ⟨sm, rx⟩ := w4 y H2 hy
            refine ⟨ι', P', env', s', d, env2, ⟨A'.e.ext (.same sm), A'.s.same sm⟩, rx, hput, fun σ2 R2 _ => ?_⟩
            refine .inl ⟨ι', P', env2, s', ⟨R2, A'.s.same sm⟩, r2, s2, h2, ?_⟩
            have g3 : Gr ι P H ι' P' H2 := g.trans (Gr.of (.same sm)) (A'.s.there g.pre)
            have h2' := (A'.s.same sm).there g.pre
            have w5 : WalkG X.K P' ι' J src H2 := w'.next (Gr.of (.same sm)) A'.s.pin ((A'.s.same sm).there (List.prefix_refl _))
            cases r2 with
            | nx env3 => exact fun σ3 H3 ι3 P3 g4 A3 => ⟨k, Nat.lt_succ_self _, ι3, P3, env3, s2, g3.trans g4 h2', A3, w5.next g4 A'.s.pin (A3.s.there g4.pre), hit⟩
            | rt v => cases hit
        · cases hit
      · cases hit
      · cases hit
theorem xxs_forXB {t : TG} (h1 : PS X s0 (rdXS X.K C E (sForX ma t m))) (h2 : PS X s0 (rdXS X.K C E (sForB (iSeq ma) t m))) : PS X s0 (rdXS X.K C E (sForXB ma t m)) :=
  PS.or2 h1 h2 fun D σ H ⟨ι, P, env, st, A, x, st', e, w⟩ => by
    rcases bind_exn e with h | ⟨v, s1, g1, e⟩
    · left
      refine ⟨ι, P, env, st, A, x, st', ?_, w⟩
      unfold sForX
      rw [h]
      rfl
    · right
      refine ⟨ι, P, env, st, A, x, st', ?_, w⟩
      have k : iSeq ma env st = iSeq (fun _ s => .ok v s) env s1 := by
        unfold iSeq
        simp only [g1, Out.bind]
      unfold sForB at e ⊢
      rw [k]
      exact e
theorem xxs_pre {m1 : MS} (h1 : PS X s0 (rdXS X.K C E m1)) (hm : ∀ env st x st', ma env st = .exn x st' → m1 env st = .exn x st') (h2 : PS X s0 (rdXS X.K C E m)) : PS X s0 (rdXS X.K C E (sPre ma m)) :=
  PS.or2 h1 h2 fun D σ H ⟨ι, P, env, st, A, x, st', e, w⟩ => by
    unfold sPre at e
    split at e
    · rename_i h
      cases e
      exact .inl ⟨ι, P, env, st, A, x, st', hm _ _ _ _ h, w⟩
    · exact .inr ⟨ι, P, env, st, A, x, st', e, w⟩
theorem xxs_if {t1 t2 : List Stmt} (hc : PT X c (rdT X.K (tOf mc))) (h1 : PSs X t1 (rdS X.K m)) (h2 : PSs X t2 (rdS X.K m2)) (xc : PT X c (rdXT X.K C E (tOf mc))) (x1 : PSs X t1 (rdXS X.K C E m)) (x2 : PSs X t2 (rdXS X.K C E m2)) : PS X (.If c t1 t2 pos) (rdXS X.K C E (sIf mc m m2)) :=
  PS.or2 (ps_if xc h1 h2) (ps_if hc x1 x2) fun D σ H ⟨ι, P, env, st, A, x, st', e, w⟩ => by
    rcases bind_exn e with h | ⟨k, s1, g1, e⟩
    · exact .inl ⟨ι, P, env, st, A, x, st', h, xwh_gr w⟩
    · right
      refine rdT.bind A g1 fun H1 x1 A1 => ?_
      have hh := A1.s.there (List.prefix_refl ι)
      have w2 : ∀ cls d H' ι' P', Gr ι P H1 ι' P' H' → RS X.K H' P' ι' st' → Tl X.K H' P' C x cls d → E cls d H' := fun cls d H' ι' P' g r t => w cls d H' ι' P' ((Gr.of x1).trans g hh) r t
      cases k with
      | true => exact iteT ⟨ι, P, env, s1, A1, x, st', e, w2⟩
      | false => exact iteF ⟨ι, P, env, s1, A1, x, st', e, w2⟩
theorem xxs_nil : PSs X [] (rdXS X.K C E sNil) := PSs.no fun D σ H ⟨ι, P, env, st, A, x, st', e, w⟩ => by cases e
theorem xxs_cons (h : PS X s0 (rdS X.K m)) (h2 : PSs X ss (rdS X.K m2)) (x1 : PS X s0 (rdXS X.K C E m)) (x2 : PSs X ss (rdXS X.K C E m2)) : PSs X (s0 :: ss) (rdXS X.K C E (sCons m m2)) :=
  PSs.or2 (pss_cons x1 h2) (pss_cons h x2) fun D σ H ⟨ι, P, env, st, A, x, st', e, w⟩ => by
    rcases bind_exn e with h | ⟨r1, st1, h1, e⟩
    · exact .inl ⟨ι, P, env, st, A, x, st', h, w⟩
    · right
      refine ⟨ι, P, env, st, A, r1, st1, h1, ?_⟩
      cases r1 with
      | rt v => cases e
      | nx env1 =>
        intro σ1 H1 ι1 P1 g1 A1
        have hh := A1.s.there g1.pre
        exact ⟨ι1, P1, env1, st1, A1, x, st', e, fun cls d H' ι' P' g r t => w cls d H' ι' P' (g1.trans g hh) r t⟩
end
end Ev
/-! EvPx: the compiled expressions raise as they say. -/
namespace Ev
open PySem PySem.Spec PyProof.Rows L2
structure CokX (T : Tab) (C : Addr) (E : XK) (X : Cx) : Prop where
  pass : Passes (L2.CX X.prog X.w) X E
  calls : ∀ x F, T.fs.lookup x = some F → (∀ xs s y s', F xs s ≠ .exn y s') ∨ ∃ (k : Nat) (g : Addr) (fd : FuncData) (ps : List Str), FnOk X.prog X.w X.K X.mg X.base (L2.CX X.prog X.w) k g fd ps (spX X.K C F) ∧ Room k X.A ∧ X.mg x = some (.ref g) ∧ PySem.W.keepIn X.K (.ref g) = true ∧ Binds X.K fd ps []
section
variable {T : Tab} {sc : Scope} {fnb : Str → Bool} {C : Addr} {E : XK} {X : Cx}
/-- both readings -/
structure Px (X : Cx) (C : Addr) (E : XK) (e : Expr) (m : ME) : Prop where
  o : PE X e (rdE X.K m)
  x : PE X e (rdX X.K C E m)
  ot : PT X e (rdT X.K (tOf m))
  xt : PT X e (rdXT X.K C E (tOf m))
theorem no_e1 {f : PyData → Option PyData} {a : ME} : NoE (e1 f a) := fun _ _ _ _ h => noX_no h
theorem px_no {e : Expr} {m : ME} (h1 : PE X e (rdE X.K m)) (h2 : PT X e (rdT X.K (tOf m))) (h : NoE m) : Px X C E e m := ⟨h1, xx_no h, h2, xxt_no h⟩
theorem cmpA_px {f : Expr → Option ME} (hf : ∀ e m, f e = some m → Px X C E e m) : ∀ (es : List Expr) (m : MA), cmpA f es = some m → PA X es (rdXA X.K C E m)
  | [], m, h => by unfold cmpA at h; cases h; exact xxa_nil
  | e :: es, m, h => by
    unfold cmpA at h
    split at h
    · rename_i heq; cases heq
    · rename_i heq
      cases heq
      split at h
      · cases h
        exact PA.no fun σ H Q ⟨ι, P, env, st, A, x, st', q, w⟩ => noX_no q
      · cases h
    · rename_i hno heq
      cases heq
      split at h
      · rename_i h1 h2
        cases h
        have p := hf _ _ h1
        have hs : noStar e = true := by cases e <;> first | rfl | exact (hno _ _ rfl).elim
        exact xxa_cons p.o (cmpA_ok (fun e m z => (hf e m z).o) _ _ h2) p.x (cmpA_px hf _ _ h2) hs
      · cases h
theorem cmpB_px {f : Expr → Option ME} {op : BoolOp} {pos : Pos} (hf : ∀ e m, f e = some m → Px X C E e m) : ∀ (es : List Expr) (m : ME), cmpB f op es = some m → PE X (.BoolOp op es pos) (rdX X.K C E m) ∧ PW X (.BoolOp op es pos) (rdXT X.K C E (tOf m))
  | [], m, h => by unfold cmpB at h; cases h
  | [a], m, h => by
    unfold cmpB at h
    have p := hf _ _ h
    exact ⟨pe_one p.x, xxw_one p.xt⟩
  | a :: b :: r, m, h => by
    unfold cmpB at h
    split at h
    · rename_i A B hA hB
      have p := hf _ _ hA
      obtain ⟨h3, h4⟩ := cmpB_px (pos := pos) hf (b :: r) _ hB
      obtain ⟨h5, h6⟩ := cmpB_ok (pos := pos) (fun e m z => ⟨(hf e m z).o, (hf e m z).ot⟩) (b :: r) _ hB
      cases op with
      | And =>
        cases h
        exact ⟨xx_and p.o h5 p.x h3, xxw_and p.ot h6 p.xt h4⟩
      | Or =>
        cases h
        exact ⟨xx_or p.o h5 p.x h3, xxw_or p.ot h6 p.xt h4⟩
    · cases h
theorem xxt_ife {a b c : Expr} {ma mb mc : ME} {pos : Pos} (hc : PT X c (rdT X.K (tOf mc))) (xc : PT X c (rdXT X.K C E (tOf mc))) (ha : PT X a (rdXT X.K C E (tOf ma))) (hb : PT X b (rdXT X.K C E (tOf mb))) : PT X (.IfExp c a b pos) (rdXT X.K C E (tOf (eIf mc ma mb))) := by
  refine ⟨fun pins s σ H Q I ⟨ι, P, env, st, A, x, st', e, w⟩ => ?_⟩
  rcases bind_exn (tOf_exn e) with h | ⟨k, s1, h1, e⟩
  · refine isTrue_IfExp (thn (xc.run pins s σ H (fun _ _ => False) I ⟨ι, P, env, st, A, x, st', h, w⟩) fun d s2 ⟨H1, I1, q1⟩ => q1.elim)
  · have hq : rdT X.K (tOf mc) σ H fun c H1 => if c = true then rdXT X.K C E (tOf ma) σ H1 Q else rdXT X.K C E (tOf mb) σ H1 Q := by
      refine rdT.bind A h1 fun H1 x1 A1 => ?_
      cases k with
      | true => exact iteT ⟨ι, P, env, s1, A1, x, st', tOf_of_exn e, w.next x1⟩
      | false => exact iteF ⟨ι, P, env, s1, A1, x, st', tOf_of_exn e, w.next x1⟩
    refine isTrue_IfExp (thn (hc.run pins s σ H _ I hq) fun d s2 ⟨H1, I1, q1⟩ => ?_)
    cases d with
    | true => exact ha.run pins s2 σ H1 Q I1 q1
    | false => exact hb.run pins s2 σ H1 Q I1 q1
def plainPx {e : Expr} {m : ME} (h : PE X e (rdE X.K m)) (x : PE X e (rdX X.K C E m)) (he : ∀ whole, isTrue e X.env whole = (do let v ← whole; standAt e.pos; holding [v] (truthy v))) : Px X C E e m := ⟨h, x, xt_plain h he, xxt_plain x he⟩
theorem zip_noE {T : Tab} {sc : Scope} {k : Bk} {as : List Expr} {q : (MA → ME) × List Expr} {m : MA} (h : zipOf T sc k as = some q) : NoE (q.1 m) := by
  unfold zipOf at h
  (repeat' split at h) <;> first | (cases h; done) | (cases h; exact fun _ _ _ _ q => noX_no q)
theorem cmpE_px (okx : CokX T C E X) (ok : Cok T sc fnb X) : ∀ (n : Nat) (e : Expr) (m : ME), cmpE T n sc fnb e = some m → Px X C E e m
  | 0, e, m, h => by unfold cmpE at h; cases h
  | n + 1, e, m, h => by
    have ih := cmpE_px okx ok n
    obtain ⟨g1, g2⟩ := cmpE_ok T (n + 1) X sc fnb ok e m h
    have no : NoE m → Px X C E e m := fun z => px_no g1 g2 z
    have ihE : ∀ e m, cmpE T n sc fnb e = some m → PE X e (rdE X.K m) := fun e m z => (ih e m z).o
    have hu := ok.un
    unfold cmpE at h
    split at h
    · cases h; exact no fun _ _ _ _ q => by cases q
    · cases h; exact no fun _ _ _ _ q => by cases q
    · cases h; exact no fun _ _ _ _ q => by cases q
    · cases h; exact no fun _ _ _ _ q => by cases q
    · have nv : ∀ i, NoE (eVar i) := fun i env st x s' q => by
        unfold eVar at q
        split at q <;> cases q
      split at h
      · obtain ⟨d, hd, rfl⟩ := Option.map_eq_some_iff.mp h
        exact no fun _ _ _ _ q => by cases q
      · obtain ⟨i, hi, rfl⟩ := Option.map_eq_some_iff.mp h
        exact no (nv i)
      · obtain ⟨i, hi, rfl⟩ := Option.map_eq_some_iff.mp h
        exact no (nv i)
      · obtain ⟨i, hi, rfl⟩ := Option.map_eq_some_iff.mp h
        exact no (nv i)
      · cases h
    · split at h
      · rename_i hf hA hB
        cases h
        have pa := ih _ _ hA
        have pb := ih _ _ hB
        exact ⟨g1, xx_e2 (op_of hf) pa.o pb.o pa.x pb.x, g2, xxt_plain (xx_e2 (op_of hf) pa.o pb.o pa.x pb.x) fun _ => rfl⟩
      · cases h
    · obtain ⟨A, hA, rfl⟩ := Option.map_eq_some_iff.mp h
      exact no no_e1
    · obtain ⟨A, hA, rfl⟩ := Option.map_eq_some_iff.mp h
      have pa := ih _ _ hA
      exact ⟨g1, xx_not pa.x, g2, xxt_not pa.xt⟩
    · obtain ⟨h1, h2⟩ := cmpB_px ih _ _ h
      exact ⟨g1, h1, g2, h2.pt⟩
    · split at h
      · cases h
      · rename_i hb
        split at h
        · rename_i hA hB
          cases h
          have hb' := Bool.eq_false_iff.mpr hb
          have pa := ih _ _ hA
          have pb := ih _ _ hB
          exact ⟨g1, xx_cmp (cm_of hu _) pa.o pb.o pa.x pb.x hb', g2, xxt_cmp (cm_of hu _) pa.o pb.o pa.x pb.x hb'⟩
        · cases h
    · split at h
      · cases h
      · split at h
        · cases h
          exact no fun _ _ _ _ q => noX_no q
        · cases h
    · split at h
      · rename_i hC hA hB
        cases h
        have pc := ih _ _ hC
        have pa := ih _ _ hA
        have pb := ih _ _ hB
        exact ⟨g1, xx_ife pc.ot pa.o pb.o pc.xt pa.x pb.x, g2, xxt_ife pc.ot pc.xt pa.xt pb.xt⟩
      · cases h
    · obtain ⟨A, hA, rfl⟩ := Option.map_eq_some_iff.mp h
      exact ⟨g1, xx_tup (cmpA_px ih _ _ hA), g2, xxt_plain (xx_tup (cmpA_px ih _ _ hA)) fun _ => rfl⟩
    · obtain ⟨A, hA, rfl⟩ := Option.map_eq_some_iff.mp h
      exact no fun _ _ _ _ q => noX_no q
    · split at h
      · cases h
        exact no fun _ _ _ _ q => noX_no q
      · cases h
    · obtain ⟨A, hA, rfl⟩ := Option.map_eq_some_iff.mp h
      exact no no_e1
    · split at h
      · rename_i hp
        split at h
        · obtain ⟨B, hB, rfl⟩ := Option.map_eq_some_iff.mp h
          exact no fun _ _ _ _ q => noX_no q
        · split at h
          · rename_i A B hA hB
            cases h
            have pa := ih _ _ hA
            have pb := ih _ _ hB
            generalize strIx _ = c at no g1 g2 ⊢
            cases c with
            | true => exact no fun e1 e2 e3 e4 q => noX_no q
            | false => exact ⟨g1, xx_ix pa.o pb.o pa.x pb.x hp, g2, xxt_plain (xx_ix pa.o pb.o pa.x pb.x hp) fun _ => rfl⟩
          · cases h
      · cases h
    · rename_i x p as pos
      split at h
      · rename_i hb
        rw [Bool.and_eq_true] at hb
        have hg := glB_ok hb.1 ok.hsc
        split at h
        · rename_i F hF
          obtain ⟨A, hA, rfl⟩ := Option.map_eq_some_iff.mp h
          obtain ⟨hd, gd, k, g, fd, ps, CX', G, hgd, hr, hm, hk, hbi, hx⟩ := ok.calls x F hF
          have pass : Passes CX' X E0 := fun _ _ _ _ _ _ _ z => (hx _ _ _ _ _ z).elim
          cases as with
          | nil =>
            unfold cmpA at hA
            cases hA
            rcases okx.calls x F hF with hn | ⟨k, g, fd, ps, G, hr, hm, hk, hbi⟩
            · refine no fun e1 e2 e3 e4 q => ?_
              rcases bind_exn q with q | ⟨_, _, _, q⟩
              · cases q
              · exact hn _ _ _ _ q
            · exact plainPx g1 (xx_call0 G hr hg hm hk hbi okx.pass hd) fun _ => rfl
          | cons e es =>
            rcases okx.calls x F hF with hn | ⟨k, g, fd, ps, G, hr, hm, hk, hbi⟩
            · exact plainPx g1 (xx_args G hgd hr hg hm hk hbi pass (cmpA_px ih _ _ hA) hb.2 hd hn) fun _ => rfl
            · exact plainPx g1 (xx_call G hr hg hm hk hbi okx.pass (cmpA_ok ihE _ _ hA) (cmpA_px ih _ _ hA) hb.2 hd) fun _ => rfl
        · have nob : ∀ {f : List PyData → Option PyData} {a : MA}, NoE (eBlt f a) := fun _ _ _ _ q => noX_no q
          split at h
          · split at h
            · split at h
              · rename_i hq
                obtain ⟨A, hA, rfl⟩ := Option.map_eq_some_iff.mp h
                exact no (zip_noE hq)
              · obtain ⟨A, hA, rfl⟩ := Option.map_eq_some_iff.mp h
                exact no nob
            · cases h
            · split at h
              · split at h
                · split at h
                  · split at h
                    · cases h
                      exact no fun _ _ _ _ q => noX_no q
                    · cases h
                  · cases h
                · cases h
              · cases h
          · cases h
      · cases h
    · split at h
      · split at h
        · obtain ⟨A, hA, rfl⟩ := Option.map_eq_some_iff.mp h
          exact no fun _ _ _ _ q => noX_no q
        · cases h
          exact no fun _ _ _ _ q => noX_no q
        · obtain ⟨A, hA, rfl⟩ := Option.map_eq_some_iff.mp h
          exact no fun _ _ _ _ q => noX_no q
        · split at h
          · cases h
            exact no fun _ _ _ _ q => noX_no q
          · cases h
        · cases h
      · cases h
    · split at h
      · split at h
        · split at h
          · cases h
            exact no fun _ _ _ _ q => noX_no q
          · cases h
        · cases h
      · cases h
    · split at h
      · split at h
        · split at h
          · cases h
            exact no fun _ _ _ _ q => noX_no q
          · cases h
        · cases h
      · cases h
    · cases h
theorem cmp_noStar {n : Nat} {e : Expr} {m : ME} (h : cmpE T n sc fnb e = some m) : noStar e = true := by
  cases n with
  | zero => unfold cmpE at h; cases h
  | succ n =>
    cases e <;> first | rfl | skip
    unfold cmpE at h
    split at h <;> rename_i heq <;> first | (cases heq; done) | (cases h; done)
end
end Ev
/-! EvShow: repr of data. -/
namespace Ev
open PySem PySem.Spec PyProof.Rows L2
mutual
theorem smD_ok : ∀ d : PyData, smD d = true → d.showable = true ∧ d.hasDict = false ∧ d.leavesShort 13 = true
  | .none, _ => by simp [PyData.showable, PyData.hasDict, PyData.leavesShort, PyData.shown]
  | .bool b, _ => by cases b <;> simp [PyData.showable, PyData.hasDict, PyData.leavesShort, PyData.shown]
  | .int i, h => by
    unfold smD at h
    have h1 : i.natAbs < 1000000000000 := Nat.le_of_ble_eq_true h
    have h2 := PyData.shown_int_le (i := i) (by omega)
    have h3 : i.natAbs.log2 < 1920 := by
      rcases Nat.eq_zero_or_pos i.natAbs with z | z
      · rw [z, Nat.log2_zero]; omega
      · exact Nat.lt_of_lt_of_le ((Nat.log2_lt (by omega)).mpr (Nat.lt_of_lt_of_le h1 (show 1000000000000 ≤ 2 ^ 40 by decide))) (by decide)
    refine ⟨by simp [PyData.showable, h3], by simp [PyData.hasDict], ?_⟩
    simp only [PyData.leavesShort]
    exact decide_eq_true (by omega)
  | .str x, h => by
    unfold smD at h
    refine ⟨by simp [PyData.showable], by simp [PyData.hasDict], ?_⟩
    simp only [PyData.leavesShort]
    refine List.all_eq_true.mpr fun c hc => decide_eq_true ?_
    have z : c + 1 ≤ 1114112 := Nat.le_of_ble_eq_true (List.all_eq_true.mp h c hc)
    have y : 1114112 ≤ 16 ^ 8 := by decide
    omega
  | .list xs, h => by
    unfold smD at h
    obtain ⟨a, b, c⟩ := smA_ok xs h
    exact ⟨by simp [PyData.showable, a], by simp [PyData.hasDict, b], by simp only [PyData.leavesShort, c]⟩
  | .tuple xs, h => by
    unfold smD at h
    obtain ⟨a, b, c⟩ := smA_ok xs h
    exact ⟨by simp [PyData.showable, a], by simp [PyData.hasDict, b], by simp only [PyData.leavesShort, c]⟩
  | .dict _, h => by unfold smD at h; cases h
theorem smA_ok : ∀ ds : List PyData, smA ds = true → PyData.showableAll ds = true ∧ PyData.hasDictAll ds = false ∧ PyData.leavesShortAll 13 ds = true
  | [], _ => by simp [PyData.showableAll, PyData.hasDictAll, PyData.leavesShortAll]
  | d :: ds, h => by
    unfold smA at h
    rw [Bool.and_eq_true] at h
    obtain ⟨a, b, c⟩ := smD_ok d h.1
    obtain ⟨a2, b2, c2⟩ := smA_ok ds h.2
    exact ⟨by simp [PyData.showableAll, a, a2], by simp [PyData.hasDictAll, b, b2], by simp [PyData.leavesShortAll, c, c2]⟩
end
theorem showOk_ok {d : PyData} (h : showOk d = true) : d.showable = true ∧ d.hasDict = false ∧ d.depth ≤ 60 ∧ d.shown.length ≤ sizeLine := by
  unfold showOk at h
  simp only [Bool.and_eq_true] at h
  obtain ⟨a, b, c⟩ := smD_ok d h.1
  have w := Nat.le_of_ble_eq_true h.2.2
  exact ⟨a, b, Nat.le_of_ble_eq_true h.2.1, PyData.shown_fits (by decide) (by decide) c (Nat.le_trans w (by decide))⟩
/-- repr, where none is under way -/
theorem call_reprR {X : Cx} (hg : X.A.guards = some []) (hu : X.A.units + 65 < cLine) : CallR X (.builtin "repr") (fun vs H Q => ∃ v d, vs = [v] ∧ Dp X.K H v d ∧ showOk d = true ∧ Q (.str d.shown) H) := by
  intro pins s σ H vs us Q I rv h
  obtain ⟨v, d, rfl, hd, hs, q⟩ := h
  obtain ⟨h1, h2, h3, h4⟩ := showOk_ok hs
  cases rv with
  | cons r rn =>
    rename_i u us'
    cases rn
    have fin : ∀ (h' : Heap) (tk t : Nat), (∀ b o, s.heap.get? b = some o → h'.get? b = some o) → EP X pins σ Q (.str d.shown t) { s with heap := h', toks := tk } := fun h' tk t k => ⟨.str d.shown, H, I.kept k, ⟨_, rfl⟩, q⟩
    obtain ⟨as, rd⟩ := hd.reads I _ _ _ r
    cases d with
    | none =>
      cases rd
      exact P.repr_of_none (fin _ _ _ fun _ _ e => e)
    | bool b =>
      cases rd
      exact P.repr_of_bool (fin _ _ _ fun _ _ e => e)
    | int i =>
      cases rd
      refine P.repr_of_int ?_ (fin _ _ _ fun _ _ e => e)
      simpa [PyData.showable] using h1
    | str x =>
      cases rd
      exact P.repr_of_str (fin _ _ _ fun _ _ e => e) h4
    | list xs =>
      obtain ⟨a, e⟩ := isRef_of_reads rd rfl
      subst e
      exact repr_of_reads' rd h1 (PyData.noDict_hsm h2) hg (by omega) (fun _ _ e => e) (fun h' u tk k => fin h' tk u k) h4
    | tuple xs =>
      obtain ⟨a, e⟩ := isRef_of_reads rd rfl
      subst e
      exact repr_of_reads' rd h1 (PyData.noDict_hsm h2) hg (by omega) (fun _ _ e => e) (fun h' u tk k => fin h' tk u k) h4
    | dict _ => simp [PyData.hasDict] at h2
end Ev
/-! EvBadT: what is known of BadThing's class where its thing is read. -/
namespace Ev
open PySem PySem.W PySem.Calls PyProof.Rows PySem.HandSPX
structure ThT (K : Frag) (C : Addr) : Prop where
  ga : findIn K (.ref C) "__getattribute__" = some (some (.builtin "BaseException.__getattribute__"))
  gg : findIn K (.ref C) "__getattr__" = some none
  noN : findIn K (.ref C) "thing" = some none
  exC : subIn K (.ref C) (.type "BaseException") = some true
  hdC : hasDictIn K C = true
  te : exmOne K (.ref C) (.ref C) = some true
end Ev
/-! EvLam: a lambda handed on beside another value. -/
namespace Ev
open PySem PySem.Spec PyProof.Rows L2 LamX
section
variable {X : Cx} {pins : List (Addr × Obj)} {σ : L2.St} {H : Hp} {s : Shared}
/-- the lambda's object -/
abbrev lamO (X : Cx) (params : Arguments) (body : Expr) (scope : Scope) (pm ctv : Value) (c' : Addr) : Obj := PySem.W.kla_obj "<lambda>" (X.env.qual ++ "<lambda>") params body scope (cloFrom X.env.cells scope.names []) pm c' ctv
theorem lam_mk {T : List (Addr × Str)} {c tp : Addr} {params : Arguments} {body : Expr} {scope : Scope} {pos : Pos} {E : Value → Shared → Prop} {Q : Value → Shared → Prop} (J : Inv X pins σ H s) (B : TabB X.base X.mg c tp) (hco : X.env.code = .ref c)
    (mem : (tp, X.env.qual ++ "<lambda>") ∈ T) (uq : ∀ p ∈ T, p.1 = tp → p.2 = X.env.qual ++ "<lambda>") (tT : Tabs T H) (nd : defaultsOf params X.env = ([], [])) (fr : ∀ y ∈ scope.names, y.2 = .free → ∃ c, X.env.cells.lookup y.1 = some c)
    (k : ∀ (f c' : Addr) (pm ctv : Value) (G : Hp) (s' : Shared), Inv X pins σ G s' → ExtN H G → (∀ b qs, H b = some (.tbl qs) → ∃ qs', G b = some (.tbl qs')) → Tabs T G →
      s'.heap.get? f = some (lamO X params body scope pm ctv c') → G f = none → f ∉ frs X.stack → G c' = some (CodeO c' (X.env.qual ++ "<lambda>")) → Q (.ref f) s') :
    wpAny (model X.prog X.w) X.A (eval (.Lambda params body scope pos) X.env) Q E s := by
  obtain ⟨qs, tH, tt, am⟩ := tT _ mem
  refine PySem.W.kla_eval nd ?_
  have bmP : s.heap.BuiltinsAt X.mg tp := B.bm.keeps J.bk
  have gP : s.heap.get? tp = some { cls := .none, data := .fields qs } := J.hok tp _ tH
  have away : ∀ f, s.heap.objs.size ≤ f → f ∉ frs X.stack := fun f le z => by
    rcases List.mem_cons.mp (J.stkSub _ z) with e | e
    · have lt := J.lt
      rw [← e] at lt
      exact absurd (Nat.lt_of_lt_of_le lt le) (Nat.lt_irrefl _)
    · exact J.nofs le e
  cases ec : codeAmong pos qs.toList with
  | some cv =>
    obtain ⟨c', e, hc'⟩ := am pos cv ec
    subst e
    refine PySem.W.kla_makeFunctionHit (mg := X.mg) (c := c) (P := tp) (ps := qs) (closure_ok fr) J.ok.glob (J.mod.glob.keeps J.bk) hco (B.code.keeps J.bk) gP tt ec bmP fun ctv h' tk up le => ?_
    have J1 : Inv X pins σ H { s with heap := h'.push (lamO X params body scope ((X.mg "__name__").getD .none) ctv c'), toks := tk } := J.kept fun b o e => Heap.get?_push_of_some _ (up b o e)
    exact k h'.objs.size c' ((X.mg "__name__").getD .none) ctv H _ J1 (ExtN.refl H) (fun b qs e => ⟨qs, e⟩) tT (Heap.get?_push_size _ rfl) (J.hok.fresh le) (away _ le) hc'
  | none =>
    refine PySem.W.kla_makeFunction (mg := X.mg) (c := c) (P := tp) (ps := qs) (closure_ok fr) J.ok.glob (J.mod.glob.keeps J.bk) hco (B.code.keeps J.bk) gP tt ec B.gP bmP fun c' ctv h' tk up ge lt rec tb => ?_
    obtain ⟨c2, oc, vs, t, e2, oc1, oc2, oc3⟩ := rec
    cases e2
    have big : s.heap.objs.size ≤ h'.objs.size := Nat.le_trans ge (Nat.le_of_lt lt)
    have cn : H c' = none := J.hok.fresh ge
    have J1 := inv_table (t' := tk) (more := #[rawInt pos.line, rawInt pos.col, .ref c']) (h' := h'.push (lamO X params body scope ((X.mg "__name__").getD .none) ctv c')) J tH
      (fun b o nb e => Heap.get?_push_of_some _ (up b o nb e)) (Heap.get?_push_of_some _ tb) ge ⟨oc, vs, t, Heap.get?_push_of_some _ oc1, oc2, oc3⟩
    have xN : ExtN H (upd (upd H tp (.tbl (qs ++ #[rawInt pos.line, rawInt pos.col, .ref c']))) c' (CodeO c' (X.env.qual ++ "<lambda>"))) := fun b o e n => by
      rw [upd_ne (ne_of_none e cn), upd_ne (fun z => n qs (Option.some.inj (e.symm.trans (by rw [z]; exact tH))))]
      exact e
    have toL : (qs ++ #[rawInt pos.line, rawInt pos.col, .ref c']).toList = qs.toList ++ [rawInt pos.line, rawInt pos.col, .ref c'] := by simp
    have nc : tp ≠ c' := ne_of_none tH cn
    refine k h'.objs.size c' ((X.mg "__name__").getD .none) ctv _ _ J1 xN (fun b rs e => ?_) (fun p hp => ?_) (Heap.get?_push_size _ rfl) ?_ (away _ big) upd_same
    · by_cases z : b = tp
      · rw [z]
        exact ⟨_, by rw [upd_ne nc, upd_same]⟩
      · exact ⟨rs, by rw [upd_ne (ne_of_none e cn), upd_ne z]; exact e⟩
    · by_cases z : p.1 = tp
      · rw [uq p hp z, z]
        refine ⟨_, by rw [upd_ne nc, upd_same], by rw [toL]; exact PySem.TriplesOk_snoc _ _ _ _ tt, fun p' cv ecv => ?_⟩
        rw [toL] at ecv
        rcases among_app _ tt ecv with y | y
        · obtain ⟨c0, e1, e2⟩ := am p' cv y
          exact ⟨c0, e1, xN _ _ e2 codeO_ne⟩
        · exact ⟨c', y, upd_same⟩
      · obtain ⟨rs, a1, a2, a3⟩ := tT p hp
        refine ⟨rs, by rw [upd_ne (ne_of_none a1 cn), upd_ne z]; exact a1, a2, fun p' cv ecv => ?_⟩
        obtain ⟨c0, e1, e2⟩ := a3 p' cv ecv
        exact ⟨c0, e1, xN _ _ e2 codeO_ne⟩
    · rw [upd_ne (Nat.ne_of_gt lt), upd_ne (Nat.ne_of_gt (Nat.lt_of_lt_of_le (Heap.lt_size gP) big))]
      exact J.hok.fresh big
/-- e.thing, e the exception that the suite holds -/
def tThing (C : Addr) (a : Addr) (cls : Value) (d : Option Addr) (te : TE) : TE := fun σ H Q => te σ H fun x H1 => x = .ref a ∧ cls = .ref C ∧ ∃ (dd : Addr) (v : V), d = some dd ∧ H1 dd = some (.xd [(("thing" : Str), v)]) ∧ Q v H1
theorem pe_thing {C a : Addr} {oe : Obj} {cls : Value} {d : Option Addr} {pn : List (Addr × Obj)} {e : Expr} {te : TE} {pos : Pos} (T : ThT X.K C) (hz : Zc cls d oe) (hf : ∃ vs, oe.data = .fields vs) (he : PE (X.suite a ((a, oe) :: pn)) e te)
    (hb : attributeBase e "thing" X.env (eval e X.env) = eval e X.env) : PE (X.suite a ((a, oe) :: pn)) (.Attribute e "thing" pos) (tThing C a cls d te) := by
  refine ⟨fun pins s σ H Q J h => attr_of hb (thn (he.run pins s σ H _ J h) fun u s1 hh => ?_)⟩
  obtain ⟨x, H1, J1, rx, ex, ec, dd, v, ed, ea, q⟩ := hh
  subst ex ec ed
  obtain rfl : u = Value.ref a := rx
  obtain ⟨ha, _⟩ := J1.pin (a, oe) (List.mem_append_left _ List.mem_cons_self)
  obtain ⟨vs, hd⟩ := hf
  obtain ⟨mA, hns, hr⟩ : ObjOk X.prog X.w H1 s1.heap dd (.xd [(("thing" : Str), v)]) := J1.hok dd _ ea
  obtain ⟨od, ho, hl⟩ := lookIn_ns hns
  have l : List.lookup ("thing" : Str) [(("thing" : Str), v)] = some v := by simp [List.lookup]
  obtain ⟨u, hu, ru⟩ := RelO.some_of (v := v) (o := mA "thing") (by rw [← l]; exact hr "thing")
  have at_ : PySem.W.InstAt s1.heap a oe C (some od) := ⟨ha, hz.1, by unfold PySem.W.notCls; rw [hd] <;> rfl, by rw [hz.2]; exact ho⟩
  exact HandSPX.exc_get J1.kIn at_ T.ga T.gg T.exC (PySem.W.findObj_own T.hdC T.noN rfl (by rw [hl, hu])) (handed_of ru) ⟨v, H1, J1.tok _, ru, q⟩
end
end Ev
/-! EvRef: _law_refuses(lambda: .., due). -/
namespace Ev
open PySem PySem.Spec PyProof.Rows L2 LamX
def rfA (q1 q2 : Pos) : Arguments := { posonlyargs := [], args := [{ arg := "work", annotation := none, pos := q1 }, { arg := "due", annotation := none, pos := q2 }], vararg := none, kwonlyargs := [], kw_defaults := [], kwarg := none, defaults := [] }
def rfB (p1 p2 p3 p4 p5 p6 p7 p8 p9 p10 p11 p12 p13 p14 p15 p16 p17 : Pos) : List Stmt :=
  [.Try [.Expr (.Call (.Name "work" p1) [] [] p2) p3, .Return (some (.Constant (.bool false) 0 p4)) p5]
    [.ExceptHandler (some (.Name "BadThing" p6)) (some "e") [.Return (some (.Compare (.Call (.Name "repr" p7) [.Attribute (.Name "e" p8) "thing" p9] [] p10) [.Eq] [.Call (.Name "repr" p11) [.Name "due" p12] [] p13] p14)) p15] p16] [] [] p17]
def rfS : Scope := { kind := .function, names := [(PySem.Str.ofString "work", .local), (PySem.Str.ofString "due", .local), (PySem.Str.ofString "e", .local), (PySem.Str.ofString "BadThing", .globalImplicit), (PySem.Str.ofString "repr", .globalImplicit)], isGenerator := false, isCoroutine := false, more := [] }
/-- the def _law_refuses -/
structure RfD (K : PySem.W.Frag) (mg : Str → Option Value) (g : Addr) : Prop where
  gl : mg "_law_refuses" = some (.ref g)
  f : ∃ (fd : FuncData) (q1 q2 p1 p2 p3 p4 p5 p6 p7 p8 p9 p10 p11 p12 p13 p14 p15 p16 p17 : Pos), FunD K "_law_refuses" "_law_refuses" (rfA q1 q2) (rfB p1 p2 p3 p4 p5 p6 p7 p8 p9 p10 p11 p12 p13 p14 p15 p16 p17) rfS [] [] g fd
theorem rf_scope : FnScope ["work", "due", "e"] ["work", "due"] rfS := ⟨rfl, rfl, rfl, by decide +kernel, rfl, by decide +kernel, by decide +kernel⟩
section
variable {X : Cx} {pins : List (Addr × Obj)} {σ : L2.St} {H : Hp} {s s1 : Shared}
/-- the lambda that got handed in is called: Z is that def's context, entered at s -/
theorem pe_act2 {CXg : CXT} {Eg : XK} {Ng : List Str} {qg : Str} {sg : Scope} {g f c' : Addr} {cdg pm ctv : Value} {params : Arguments} {body : Expr} {scope : Scope} {k i : Nat} {a : Str} {pn : List (Addr × Obj)} {xe : Value → Shared → Prop} {W : WX} {E : XK} {tb : TE} {p1 p2 : Pos}
    (J : Inv X pins σ H s) (L : LamS X.env.scope scope) (of : s.heap.get? f = some (lamO X params body scope pm ctv c')) (nf : H f = none) (nfr : f ∉ frs X.stack)
    (bd : bindArgs (PySem.W.kla_fn "<lambda>" (X.env.qual ++ "<lambda>") params body scope (cloFrom X.env.cells scope.names []) pm (.ref c') ctv) ⟨[], []⟩ = pure [])
    (tk : Takes ((cxOf CXg X.prog X.w X.K X.mg X.base Ng qg sg g cdg X.A X.stack s H Eg).tr pn xe) W) (rm : Room (k + 1) (X.A.deeper (envOfC qg sg s.heap.objs.size g cdg)))
    (hb : ∀ (A : Around) (outer : List PySem.Env) (s : Shared) (H : Hp), Room k (A.deeper (lamEnv X scope s.heap.objs.size f c')) → PE (lamCx X A outer s H E scope f c') body tb)
    (hN : Ng[i]? = some a) (hv : Vis sg a) (hd : (a == ("__debug__" : Str)) = false) (hcd : (a == ("__classdict__" : Str)) = false) :
    PE ((cxOf CXg X.prog X.w X.K X.mg X.base Ng qg sg g cdg X.A X.stack s H Eg).tr pn xe) (.Call (.Name a p1) [] [] p2)
      (fun τ HZ Q => τ[i]? = some (some (.ref f)) ∧ HZ c' = some (CodeO c' (X.env.qual ++ "<lambda>")) ∧ (∀ cls d H', E cls d H' → W cls d τ H') ∧ tb σ HZ Q) := by
  refine ⟨fun pinsZ sZ τ HZ Q IZ h => ?_⟩
  obtain ⟨at_, co, hW, ht⟩ := h
  refine wpAny_Call_Name_kw (thn ((pe_var (pos := p1) (i := i) hN hv hd hcd).run pinsZ sZ τ HZ (fun v G => v = .ref f ∧ G = HZ) IZ ⟨.ref f, at_, rfl, rfl⟩) fun u s1 ⟨v, G, J1, rv, ev, eG⟩ => ?_)
  subst ev eG
  obtain rfl : u = Value.ref f := rv
  have o1 : s1.heap.get? f = some (lamO X params body scope pm ctv c') := J1.base.keep f _ of nf nfr (fun z => nomatch (show f ∈ ([] : List Addr) from z))
  refine PySem.W.callWith_F0 ⟨_, _, _, _, o1⟩ ?_
  have un : Un (frs X.stack) [] H G s.heap s1.heap := J1.base
  obtain ⟨⟨oc, vs, t, c1, c2, c3⟩, _, _⟩ := J1.hok c' _ co
  have run : codeAny (model X.prog X.w) (X.A.deeper (envOfC qg sg s.heap.objs.size g cdg)) (.call (.ref f) ⟨[], []⟩) (CR (L2.CX X.prog X.w) (envOfC qg sg s.heap.objs.size g cdg :: X.stack) X.prog X.w G s1 Q E) s1 := by
    refine PySem.W.kla_callFunE rm.depth o1 rfl L.co L.gen rfl ⟨c', oc, vs, t, rfl, c1, c2, c3⟩ ?_
    rw [bd]
    refine wpAny_pure (wpAny_newFunctionEnv (fun y hy => (L.own y hy).2) (fun y hy => absurd hy (by simp)) (fun h₁ ns sb => ⟨J1.nolimit.fresh _ sb, ?_⟩) L.kind)
    show codeAny _ _ (.expr body (lamEnv X scope s1.heap.objs.size f c')) _ _
    have up : ∀ b o, s1.heap.get? b = some o → h₁.get? b = some o := fun b o e => sb.extBut b o (Nat.ne_of_lt (Heap.lt_size e)) (Heap.get?_push_of_some _ e)
    have J2 : Inv (lamCx X (X.A.deeper (envOfC qg sg s.heap.objs.size g cdg)) (envOfC qg sg s.heap.objs.size g cdg :: X.stack) s1 G E scope f c') [] σ G { s1 with heap := h₁, toks := s1.toks + ([] : List (Str × Value)).length } :=
      lam_start2 J L J1.env0 rm.hd un ns up
    refine PySem.W.kla_codeExpr (wpAny_mono ((hb _ _ s1 G (rm.deeper _)).run [] _ _ G Q J2 ht) (fun v s' q => ?_) fun e s' q => q)
    obtain ⟨w', H', J', rv, q⟩ := q
    exact ⟨w', H', J'.os, J'.bare, J'.base, J'.hok, rv, q⟩
  refine wpAny_call (codeAny_mono run fun r s' q => ?_)
  cases r with
  | error er => exact tk er s' (XE.of_call J1 hW q)
  | ok fl => cases fl with
    | ret u => exact J1.after q
    | next => exact False.elim q
    | brk => exact False.elim q
    | cont => exact False.elim q
end
/-- what a def leans on that hands lambdas to _law_refuses -/
structure RefOk (T : Tab) (X : Cx) (k : Nat) (C g c tp : Addr) : Prop where
  room : Room (k + 2) X.A
  gd : X.A.guards = some []
  hs : X.stack = X.env :: X.outer
  hfr : X.env.frame = some X.env.locals
  tb : TabB X.base X.mg c tp
  co : X.env.code = .ref c
  mem : (tp, X.env.qual ++ "<lambda>") ∈ tabsOf X.K
  uq : ∀ p ∈ tabsOf X.K, p.1 = tp → p.2 = X.env.qual ++ "<lambda>"
  th : ThT X.K C
  gC : X.mg "BadThing" = some (.ref C)
  rf : RfD X.K X.mg g
  rp : X.mg "repr" = none
  fs : ∀ x F, T.lf.lookup x = some F → (x == ("__debug__" : Str)) = false ∧ ∃ (g : Addr) (fd : FuncData) (ps : List Str) (CX : CXT), FnG false X.prog X.w X.K X.mg X.base CX k g fd ps (spOf X.K F) ∧ X.mg x = some (.ref g) ∧ PySem.W.keepIn X.K (.ref g) = true ∧ Binds X.K fd ps [] ∧ ∀ o H s e s', CX o H s E0 e s' → False
  fx : ∀ x F, T.lf.lookup x = some F → (∀ xs s y s', F xs s ≠ .exn y s') ∨ ∃ (g : Addr) (fd : FuncData) (ps : List Str), FnOk X.prog X.w X.K X.mg X.base (L2.CX X.prog X.w) k g fd ps (spX X.K C F) ∧ X.mg x = some (.ref g) ∧ PySem.W.keepIn X.K (.ref g) = true ∧ Binds X.K fd ps []
theorem RS.tabs {K : PySem.W.Frag} {H H1 : Hp} {P : AP'} {ι : List Addr} {st : Sto} (r : RS K H P ι st) (x : ∀ P : AP', ExtP P H H1) (t : TabsK K H1) : RS K H1 P ι st := by
  refine ⟨r.len, r.nd, r.pin, fun a p z => ?_, fun n a q => ?_, t⟩
  · cases q : H a with
    | none => exact r.pthere a p q
    | some o => exact (x fun _ => False).there q (fun z => z) z
  · obtain ⟨ds, xs, h1, h2, h3⟩ := r.at_ n a q
    exact ⟨ds, xs, h1, (x fun _ => False).get h2 (.inl fun z => z) (fun _ z => nomatch z), h3.ext (x P)⟩
theorem rf_work : rfS.names.lookup ("work" : Str) = some .local := by decide +kernel
theorem rf_due : rfS.names.lookup ("due" : Str) = some .local := by decide +kernel
theorem rf_e : rfS.names.lookup ("e" : Str) = some .local := by decide +kernel
section
variable {T : Tab} {X : Cx} {k : Nat} {C g c tp : Addr} {due body : Expr} {scope : Scope} {params : Arguments} {M D : ME} {p lpos pos : Pos}
theorem pe_ref (R : RefOk T X k C g c tp) (hD : PE X due (rdE X.K D)) (hst : noStar due = true) (hg : Gl X "_law_refuses") (L : LamS X.env.scope scope) (hdef : defaultsOf params X.env = ([], []))
    (hbind : ∀ (q : Str) (cl : List (Str × Addr)) (pm cv ctv : Value), bindArgs (PySem.W.kla_fn "<lambda>" q params body scope cl pm cv ctv) ⟨[], []⟩ = pure [])
    (hbody : ∀ (A : Around) (outer : List PySem.Env) (s : Shared) (H : Hp) (E : XK) (f c' : Addr), Room k (A.deeper (lamEnv X scope s.heap.objs.size f c')) → PE (lamCx X A outer s H E scope f c') body (rdX X.K C E M)) :
    PE X (.Call (.Name "_law_refuses" p) [.Lambda params body scope lpos, due] [] pos) (rdE X.K (eRef M D)) := by
  refine ⟨fun pins s σ H Q I ⟨ι, P, env, st, A, v, st', e, q⟩ => ?_⟩
  obtain ⟨dv, s1, hd, e⟩ := bind_ok (noX_ok e)
  split at e
  rotate_left
  · cases e
  rename_i d
  split at e
  rotate_left
  · cases e
  rename_i xn st2 hM
  split at e
  rotate_left
  · cases e
  rename_i hok
  cases e
  rw [Bool.and_eq_true] at hok
  have hx := dEq_ok _ _ hok.1
  have hsh := hok.2
  obtain ⟨gl, fd, q1, q2, p1, p2, p3, p4, p5, p6, p7, p8, p9, p10, p11, p12, p13, p14, p15, p16, p17, F⟩ := R.rf
  have bnd : Binds X.K fd ["work", "due"] [] := F.bindsN fun _ _ _ _ _ _ us hl => match us, hl with | [_, _], _ => rfl
  obtain ⟨oc, od, dV, kV, doc, pm, an, cdv, ct, osl, rfl, lk, hcd, _, _⟩ := F.ex
  refine wpAny_Call_Name_kw (ld_glob I hg gl ?_ (by decide))
  refine PySem.W.callWith_K (h₀ := X.base) I.ok.mod.kin F.kp ?_ rfl (star_none (by simp [hst]))
  show wpAny _ _ (spliced ((false, eval (.Lambda params body scope lpos) X.env) :: backTo pos (starEach [due] X.env))) _ _ s
  refine Calls.spliced_cons (lam_mk I R.tb R.co R.mem R.uq A.s.tb hdef (L.has I.ok) fun f c' pm' ctv H1 s' I1 eN tk T1 hf hfn hfr hco => ?_)
  have x1 : ∀ P : AP', ExtP P H H1 := fun P b o e _ => by
    by_cases z : ∃ qs, o = .tbl qs
    · obtain ⟨qs, rfl⟩ := z
      obtain ⟨qs', y⟩ := tk b qs e
      exact .inr ⟨qs, qs', rfl, y⟩
    · exact .inl (eN b o e fun qs w => z ⟨qs, w⟩)
  have A1 : At X.K H1 P ι σ env st := ⟨A.e.ext (x1 P), A.s.tabs x1 T1⟩
  have I1p : Inv X ((f, lamO X params body scope pm' ctv c') :: pins) σ H1 s' := I1.pins_of fun y hy => by
    rcases List.mem_cons.mp hy with rfl | hy
    · refine ⟨hf, hfn, fun z => hfr ?_, fun hm => ?_, fun v z => by cases z⟩
      · rw [R.hs]
        exact List.mem_filterMap.mpr ⟨X.env, List.mem_cons_self, by rw [R.hfr]; exact congrArg some (Eq.symm z)⟩
      · obtain ⟨e0, he, y⟩ := List.mem_filterMap.mp hm
        refine hfr ?_
        rw [R.hs]
        exact List.mem_filterMap.mpr ⟨e0, List.mem_cons_of_mem _ he, y⟩
    · exact I1.pin y (List.mem_append_right _ hy)
  have pa2 : PA X [due] (rdA X.K (aCons D aNil)) := xa_cons hD xa_nil hst
  have hD2 : aCons D aNil env st = .ok [.dat d] s1 := by
    unfold aCons
    rw [hd]
    rfl
  refine thn (pa2.run pos _ s' σ H1 (fun us H2 => ∃ w, us = [w] ∧ Ext ι H1 H2 ∧ RS X.K H2 P ι s1 ∧ Rp X.K H2 P w d) I1p ⟨ι, P, env, st, A1, _, _, hD2, fun us H2 x2 r2 pr => ?_⟩) fun us s2 ⟨vs, H2, I2, rv, w, ew, x2, r2, rw⟩ => ?_
  · cases pr with
    | cons a b =>
      cases b
      exact ⟨_, rfl, x2, r2, a.dat'⟩
  subst ew
  obtain ⟨u, rfl, ru⟩ := vals1 rv
  refine ⟨I2.kIn, ?_⟩
  obtain ⟨hf2, hfn2, _⟩ := I2.pin (f, lamO X params body scope pm' ctv c') (List.mem_append_right _ List.mem_cons_self)
  have hco2 : H2 c' = some (CodeO c' (X.env.qual ++ "<lambda>")) := x2.get hco (.inr fun xs z => by unfold CodeO at z; cases z) codeO_ne
  have A2 : At X.K H2 P ι σ env s1 := A1.next x2 r2
  have hb2 := bnd s2 [.ref f, u] I2.kIn rfl
  have rc : codeAny (model X.prog X.w) X.A (.call (.ref g) ⟨[.ref f, u], []⟩) (CR C8.CX0 X.stack X.prog X.w H2 s2 (fun v H' => v = .bl true ∧ Ext ι H2 H' ∧ RS X.K H' P ι st') C8.E0) s2 := by
    refine run_ofS (N := ["work", "due", "e"]) (ps := ["work", "due"]) (us := [.ref f, u]) (vs := [.ref f, w]) lk hcd rf_scope R.room I2.env0 hb2 (.cons rfl (.cons ru .nil)) rfl fun hr' => ?_
    have hZ : Gl (cxOf C8.CX0 X.prog X.w X.K X.mg X.base ["work", "due", "e"] "_law_refuses" rfS g cdv X.A X.stack s2 H2 C8.E0).nox "BadThing" := by
      show rfS.names.lookup ("BadThing" : Str) = _
      decide +kernel
    have hZr : Gl (cxOf C8.CX0 X.prog X.w X.K X.mg X.base ["work", "due", "e"] "_law_refuses" rfS g cdv X.A X.stack s2 H2 C8.E0).nox "repr" := by
      show rfS.names.lookup ("repr" : Str) = _
      decide +kernel
    have hgdZ : ∀ a pn, ((cxOf C8.CX0 X.prog X.w X.K X.mg X.base ["work", "due", "e"] "_law_refuses" rfS g cdv X.A X.stack s2 H2 C8.E0).nox.suite a pn).A.guards = some [] := fun a pn => R.gd
    have hunZ : ∀ a pn, ((cxOf C8.CX0 X.prog X.w X.K X.mg X.base ["work", "due", "e"] "_law_refuses" rfS g cdv X.A X.stack s2 H2 C8.E0).nox.suite a pn).A.units + 65 < cLine := fun a pn => by
      have := hr'.un
      show (X.A.deeper (envOfC "_law_refuses" rfS s2.heap.objs.size g cdv)).units + 65 < cLine
      omega
    refine ⟨_, (pss_one (ps_try_as (X := (cxOf C8.CX0 X.prog X.w X.K X.mg X.base ["work", "due", "e"] "_law_refuses" rfS g cdv X.A X.stack s2 H2 C8.E0).nox) (c := .ref C) (i := 2) (n := "e") (Wout := fun _ _ _ _ => False)
      (tb := fun W D τ G => ∃ Ech : XK, (∀ cls d H', Ech cls d H' → W cls d τ H') ∧ τ[0]? = some (some (.ref f)) ∧ G c' = some (CodeO c' (X.env.qual ++ "<lambda>")) ∧ rdX X.K C Ech M σ G (fun _ _ => False))
      (ts := fun a cls dd => tRet (tOp rEq (tCB (fun vs H Q => ∃ v d, vs = [v] ∧ Dp X.K H v d ∧ showOk d = true ∧ Q (.str d.shown) H) (tCons (tThing C a cls dd (tVar 2)) tNil)) (tCB (fun vs H Q => ∃ v d, vs = [v] ∧ Dp X.K H v d ∧ showOk d = true ∧ Q (.str d.shown) H) (tCons (tVar 1) tNil))))
      rfl rfl rf_scope.nd rfl rf_e ⟨hZ, by decide, .inl R.gC⟩ takes0 (fun W pn xe tkW _ => ?_) (fun a oe cls dd pn hz hfl => ?_))).nox, ?_⟩
    · refine ⟨fun pinsZ sZ τ G D2 J h => ?_⟩
      obtain ⟨Ech, hW, h1, h2, h3⟩ := h
      have hp := pe_act2 (CXg := C8.CX0) (Eg := C8.E0) (Ng := ["work", "due", "e"]) (p1 := p1) (p2 := p2) (i := 0) (a := "work") (E := Ech) I2 L hf2 hfn2 hfr (hbind _ _ _ _ _) tkW hr' (fun A outer s H hr2 => hbody A outer s H Ech f c' hr2) rfl (.inl rf_work) (by decide) (by decide)
      have hq := pss_cons (ps_expr (pos := p3) hp rfl) (pss_one (ps_ret (pos := p5) (pe_bl (pos := p4) (j := 0) (b := false))))
      exact hq.run pinsZ sZ τ G D2 J ⟨h1, h2, hW, h3⟩
    · refine pss_one (ps_ret (pe_cmpR op_eq (pe_callB (call_reprR (hgdZ _ _) (hunZ _ _)) hZr R.rp (by decide +kernel) (pa_cons (pe_thing R.th hz hfl (pe_var rfl (.inl rf_e) (by decide) (by decide)) rfl) pa_nil rfl) (by decide) (by decide) rfl rfl) (pe_callB (call_reprR (hgdZ _ _) (hunZ _ _)) hZr R.rp (by decide +kernel) (pa_cons (pe_var rfl (.inl rf_due) (by decide) (by decide)) pa_nil rfl) (by decide) (by decide) rfl rfl) rfl))
    · refine ⟨fun cls dd H' => Ext ι H2 H' ∧ RS X.K H' P ι st' ∧ Tl X.K H' P C xn cls dd, fun cls dd H' ⟨x3, r3, t3⟩ => ?_, rfl, hco2, ι, P, env, s1, A2, xn, st', ?_, fun cls dd H' x3 r3 t3 => ⟨x3, r3, t3⟩⟩
      · obtain ⟨ec, da, va, ed, hda, rva⟩ := t3
        subst ec ed
        refine ⟨true, R.th.te, fun _ a na => ?_, fun z => nomatch z⟩
        refine ⟨.ref a, rfl, rfl, rfl, da, va, rfl, hda, va, xn.arg, rfl, rva.dp, by rw [hx]; exact hsh, ?_⟩
        refine ⟨w, rfl, w, d, rfl, (rw.ext (ExtP.mono x3 A2.s.pin)).dp, hsh, ?_⟩
        refine ⟨rfl, ?_, x3, r3⟩
        rw [hx]
        simp
      · exact hM
  refine wpAny_call (codeAny_mono rc fun r s3 hq => ?_)
  cases r with
  | error er => exact (show False from hq).elim
  | ok fl => cases fl with
    | ret u =>
      obtain ⟨v, H3, I3, rv, e1, x3, r3⟩ := I2.after hq
      subst e1
      exact ⟨.bl true, H3, I3.pins_of fun y hy => I3.pin y (List.mem_append_right _ (List.mem_cons_of_mem _ hy)), rv, q _ _ (((x1 _).trans x2).trans x3) r3 (.dat (.bl _))⟩
    | next => exact False.elim hq
    | brk => exact False.elim hq
    | cont => exact False.elim hq
end
end Ev
/-! EvCmpR: the tests of statements, where _law_refuses may stand. -/
namespace Ev
open PySem PySem.Spec PyProof.Rows L2 LamX
def noPar (a : Arguments) : Bool := a.posonlyargs.isEmpty && (a.args.isEmpty && (a.vararg.isNone && (a.kwonlyargs.isEmpty && (a.kw_defaults.isEmpty && (a.kwarg.isNone && a.defaults.isEmpty)))))
theorem noPar_ok {a : Arguments} (h : noPar a = true) : a = ⟨[], [], none, [], [], none, []⟩ := by
  obtain ⟨b1, b2, b3, b4, b5, b6, b7⟩ := a
  unfold noPar at h
  simp only [Bool.and_eq_true, List.isEmpty_iff, Option.isNone_iff_eq_none] at h
  obtain ⟨h1, h2, h3, h4, h5, h6, h7⟩ := h
  subst h1 h2 h3 h4 h5 h6 h7
  rfl
def fnF : Str → Bool := fun _ => false
def Tab.lam (T : Tab) : Tab := { T with fs := T.lf }
def fnT : Str → Bool := fun _ => true
def cmpR (T : Tab) (sc : Scope) : Nat → Expr → Option ME
  | 0, _ => none
  | n + 1, e => match e with
    | .UnaryOp .Not a _ => (cmpR T sc n a).map eNot
    | .BoolOp op es _ => cmpB (cmpR T sc n) op es
    | .Call (.Name "_law_refuses" _) [.Lambda params body scope _, due] [] _ =>
      if !T.lf.isEmpty && (glB sc "_law_refuses" && (noPar params && (lamSB sc scope && noStar due))) then match cmpE T.lam 60 scope fnF body, cmpE T 60 sc fnT due with
        | some M, some D => some (eRef M D)
        | _, _ => none
      else none
    | e => cmpE T 60 sc fnT e
section
variable {T : Tab} {sc : Scope} {X : Cx}
theorem lam_cok {fnb : Str → Bool} {k : Nat} {C g c tp : Addr} (ok : Cok T sc fnb X) (R : RefOk T X k C g c tp) {scope : Scope} (L : LamS sc scope) {A : Around} {outer : List PySem.Env} {s : Shared} {H : Hp} {E : XK} {f c' : Addr} (hr : Room k (A.deeper (lamEnv X scope s.heap.objs.size f c'))) :
    Cok T.lam scope fnF (lamCx X A outer s H E scope f c') where
  hN := ok.hN
  nd := ok.nd
  nm := ok.nm
  hsc := rfl
  kind := L.kind
  calm := rfl
  fn := fun _ h => nomatch h
  un := by have := hr.un; show (A.deeper _).units + 65 < cLine; omega
  un2 := by have := hr.un; show (A.deeper _).units + 80 < cLine; omega
  calls := fun x F e => by
    obtain ⟨n, g, fd, ps, CX, G, a, b, c, d⟩ := R.fs x F e
    exact ⟨n, false, k, g, fd, ps, CX, G, (fun z => nomatch z), hr, a, b, c, d⟩
  consts := ok.consts
  free := ok.free
  dicts := ok.dicts
theorem lam_cokx {k : Nat} {C g c tp : Addr} (R : RefOk T X k C g c tp) {scope : Scope} {A : Around} {outer : List PySem.Env} {s : Shared} {H : Hp} {E : XK} {f c' : Addr} (hr : Room k (A.deeper (lamEnv X scope s.heap.objs.size f c'))) : CokX T.lam C E (lamCx X A outer s H E scope f c') where
  pass := passes_call (takes_of (E := E) rfl rfl rfl rfl) fun _ _ _ _ h => h
  calls := fun x F e => by
    rcases R.fx x F e with h | ⟨g, fd, ps, G, a, b, c⟩
    · exact .inl h
    · exact .inr ⟨k, g, fd, ps, G, hr, a, b, c⟩
theorem cmpR_ok (ok : Cok T sc fnT X) (okr : T.lf ≠ [] → ∃ k C g c tp, RefOk T X k C g c tp) : ∀ (n : Nat) (e : Expr) (m : ME), cmpR T sc n e = some m → PE X e (rdE X.K m) ∧ PT X e (rdT X.K (tOf m))
  | 0, e, m, h => by unfold cmpR at h; cases h
  | n + 1, e, m, h => by
    have ih := cmpR_ok ok okr n
    unfold cmpR at h
    split at h
    · obtain ⟨A, hA, rfl⟩ := Option.map_eq_some_iff.mp h
      exact ⟨xp_not (ih _ _ hA).1, xt_not (ih _ _ hA).2⟩
    · obtain ⟨h1, h2⟩ := cmpB_ok ih _ _ h
      exact ⟨h1, h2.pt⟩
    · rename_i p1 params body scope lpos due pos
      split at h
      · rename_i hb
        simp only [Bool.and_eq_true, Bool.not_eq_true', List.isEmpty_eq_false_iff] at hb
        obtain ⟨h1, h2, h3, h4, h5⟩ := hb
        split at h
        · rename_i M D hM hD
          cases h
          obtain ⟨k, C, g, c, tp, R⟩ := okr h1
          have L := lamS_by h4
          have hp := noPar_ok h3
          subst hp
          have L2 : LamS X.env.scope scope := by rw [ok.hsc]; exact L
          refine plainT (pe_ref R (cmpE_ok T 60 X sc fnT ok _ _ hD).1 h5 (glB_ok h2 ok.hsc) L2 rfl (fun _ _ _ _ _ => rfl) fun A outer s H E f c' hr => ?_) fun _ => rfl
          exact (cmpE_px (lam_cokx R hr) (lam_cok ok R L hr) 60 _ _ hM).x
        · cases h
      · cases h
    · exact cmpE_ok T 60 X sc fnT ok _ _ h
theorem cmpR_px {C : Addr} {E : XK} (okx : CokX T C E X) (ok : Cok T sc fnT X) (okr : T.lf ≠ [] → ∃ k C g c tp, RefOk T X k C g c tp) : ∀ (n : Nat) (e : Expr) (m : ME), cmpR T sc n e = some m → Px X C E e m
  | 0, e, m, h => by unfold cmpR at h; cases h
  | n + 1, e, m, h => by
    have ih := cmpR_px okx ok okr n
    obtain ⟨g1, g2⟩ := cmpR_ok ok okr _ _ _ h
    unfold cmpR at h
    split at h
    · obtain ⟨A, hA, rfl⟩ := Option.map_eq_some_iff.mp h
      have pa := ih _ _ hA
      exact ⟨g1, xx_not pa.x, g2, xxt_not pa.xt⟩
    · obtain ⟨h1, h2⟩ := cmpB_px ih _ _ h
      exact ⟨g1, h1, g2, h2.pt⟩
    · split at h
      · split at h
        · cases h
          exact px_no g1 g2 fun _ _ _ _ q => noX_no q
        · cases h
      · cases h
    · exact cmpE_px okx ok _ _ _ h
theorem cmpR_noC {n : Nat} {e : Expr} {m : ME} (h : cmpR T sc n e = some m) : noStar e = true := by
  cases n with
  | zero => unfold cmpR at h; cases h
  | succ n =>
    cases e <;> first | rfl | skip
    unfold cmpR at h
    split at h <;> rename_i heq <;> first | (cases heq; done) | exact cmp_noStar h
end
end Ev
namespace Ev
open PySem PySem.Spec PyProof.Rows L2
def isStar : Expr → Bool
  | .Starred _ _ => true
  | _ => false
def swNames (ts : List Expr) (sc : Scope) : List Str := ts.filterMap fun e => match e with
  | .Name id pos => if sc.names.lookup id == some .local && pos.line == (ts.head?.map (·.pos.line)).getD 0 then some id else none
  | _ => none
/-- whether the stores go from the right -/
def swB (ts es : List Expr) (sc : Scope) : Bool :=
  (ts.length == 2 || ts.length == 3) && es.length == ts.length && !(es.any isStar) && (swNames ts sc).length == ts.length && (swNames ts sc).eraseDups.length == (swNames ts sc).length && !(es.all (foldedForSure 8))
theorem sw_eq {ts es : List Expr} {sc : Scope} {env : PySem.Env} {k k2 : Nat} {p p2 : Pos} (hs : env.scope = sc) (hk : sc.kind = .function) (h : (swB ts es sc && es.all (constantsAlone 8)) = false) :
    swappedStores [.Tuple ts k p] (.Tuple es k2 p2) env = pure (if swB ts es sc then some (swNames ts sc) else none) := by
  have hb : env.blockKind = .function := by unfold Env.blockKind; rw [hs, hk]; rfl
  subst hs
  unfold swappedStores
  simp only [hb]
  simp only [bne_self_eq_false, Bool.or_false]
  change (if (!(ts.length == 2 || ts.length == 3) || es.length != ts.length) = true then pure none else if (es.any isStar) = true then pure none
    else if ((swNames ts env.scope).length != ts.length || (swNames ts env.scope).eraseDups.length != (swNames ts env.scope).length) = true then pure none
    else if (es.all (foldedForSure 8)) = true then pure none else if (es.all (constantsAlone 8)) = true then _ else pure (some (swNames ts env.scope))) = _
  unfold swB at h ⊢
  by_cases h1 : (!(ts.length == 2 || ts.length == 3) || es.length != ts.length) = true
  · rw [if_pos h1]
    have e : ((ts.length == 2 || ts.length == 3) && es.length == ts.length) = false := by
      cases a : (ts.length == 2 || ts.length == 3) <;> cases b : (es.length == ts.length) <;> simp_all [bne]
    rw [e]; rfl
  · rw [if_neg h1]
    by_cases h2 : (es.any isStar) = true
    · rw [if_pos h2, h2]
      simp
    · rw [if_neg h2]
      by_cases h3 : ((swNames ts env.scope).length != ts.length || (swNames ts env.scope).eraseDups.length != (swNames ts env.scope).length) = true
      · rw [if_pos h3]
        have e : ((swNames ts env.scope).length == ts.length && (swNames ts env.scope).eraseDups.length == (swNames ts env.scope).length) = false := by
          cases a : ((swNames ts env.scope).length == ts.length) <;> cases b : ((swNames ts env.scope).eraseDups.length == (swNames ts env.scope).length) <;> simp_all [bne]
        have : ((ts.length == 2 || ts.length == 3) && es.length == ts.length && !(es.any isStar) && (swNames ts env.scope).length == ts.length && (swNames ts env.scope).eraseDups.length == (swNames ts env.scope).length && !(es.all (foldedForSure 8))) = false := by
          rw [Bool.and_assoc _ ((swNames ts env.scope).length == ts.length), e]
          simp
        rw [this]; rfl
      · rw [if_neg h3]
        by_cases h4 : (es.all (foldedForSure 8)) = true
        · rw [if_pos h4, h4]
          simp
        · rw [if_neg h4]
          have q1 : ((ts.length == 2 || ts.length == 3) && es.length == ts.length) = true := by
            cases a : (ts.length == 2 || ts.length == 3) <;> cases b : (es.length == ts.length) <;> simp_all [bne]
          have q3 : ((swNames ts env.scope).length == ts.length && (swNames ts env.scope).eraseDups.length == (swNames ts env.scope).length) = true := by
            cases a : ((swNames ts env.scope).length == ts.length) <;> cases b : ((swNames ts env.scope).eraseDups.length == (swNames ts env.scope).length) <;> simp_all [bne]
          have q : ((ts.length == 2 || ts.length == 3) && es.length == ts.length && !(es.any isStar) && (swNames ts env.scope).length == ts.length && (swNames ts env.scope).eraseDups.length == (swNames ts env.scope).length && !(es.all (foldedForSure 8))) = true := by
            rw [Bool.and_assoc _ ((swNames ts env.scope).length == ts.length), q3, q1, Bool.eq_false_iff.mpr h2, Bool.eq_false_iff.mpr h4]; rfl
          rw [q] at h ⊢
          rw [Bool.true_and] at h
          rw [h, if_neg Bool.false_ne_true, if_pos rfl]
end Ev
/-! EvCmpS: statements and defs from the syntax. -/
namespace Ev
open PySem PySem.Spec PyProof.Rows L2

def nameIx (T : Tab) (sc : Scope) : List Expr → Option (List Nat)
  | [] => some []
  | .Name x _ :: r => if locB sc (fun _ => true) x then match ixOf x T.N 0, nameIx T sc r with
    | some i, some is => some (i :: is)
    | _, _ => none
    else none
  | _ :: _ => none
def isComp : Expr → Bool
  | .ListComp _ _ _ _ => true
  | .SetComp _ _ _ _ => true
  | .DictComp _ _ _ _ _ => true
  | _ => false
def isTupV : Expr → Bool
  | .Tuple _ _ _ => true
  | _ => false
/-- name = [.. for ..]: stored within the comprehension's frame -/
def swC (sc scope : Scope) (x : Str) (p vp : Pos) : Bool := (match sc.names.lookup x with
  | some .local => true
  | _ => false) && p.line == vp.line && !(scope.names.any fun (n, k) => n == x && (k == .local || k == .cell))
def isNewL : Expr → Bool
  | .List _ _ => true
  | .ListComp _ _ _ _ => true
  | _ => false
def cmpAN (T : Tab) (f : Expr → Option ME) : List Expr → List Expr → Option MA
  | [], [] => some aNil
  | t :: ts, e :: es => match f e, cmpAN T f ts es with
    | some a, some m => some (match t with
      | .Name x _ => if decide (x ∈ T.mu) && isNewL e then aNew a m else aCons a m
      | _ => aCons a m)
    | _, _ => none
  | _, _ => none
def fromC (scope : Scope) : Str → Bool := fun x => scope.names.lookup x == some .cell
/-- name = {k: v for target in it} -/
def dcOf (T : Tab) (sc : Scope) (x : Str) (p : Pos) : Expr → Option ME
  | .DictComp kx vx [⟨tg, iter, [], 0⟩] scope vp => if swC sc scope x p vp && (blkC T.N sc scope (ownOf T 8 tg) && notSet iter) then
      match cmpI T (cmpE T 50 sc fnT) sc (isTup tg) iter, cmpTG T (relS scope sc) (fromC scope) 8 tg, cmpE T 50 (relS scope sc) (fromC scope) kx, cmpE T 50 (relS scope sc) (fromC scope) vx with
      | some it, some t, some k, some v => if t.slots.all fun i => decide (i ∈ (ownOf T 8 tg).map (·.2)) then some (eDc it t ((ownOf T 8 tg).map (·.2)) k v) else none
      | _, _, _, _ => none
    else none
  | _ => none
def cmpSs (f : Stmt → Option MS) : List Stmt → Option MS
  | [] => some sNil
  | [s] => some ((f s).getD sBad)
  | s :: r => match cmpSs f r with
    | some b => some (sCons ((f s).getD sBad) b)
    | none => none
/-- targets o[i] -/
def subsOf (f : Expr → Option ME) : List Expr → Option (List (ME × ME))
  | [] => some []
  | .Subscript o i _ :: r => if plainIx i then match f o, f i, subsOf f r with
    | some O, some I, some R => some ((O, I) :: R)
    | _, _, _ => none
    else none
  | _ :: _ => none
/-- neither range nor zip nor enumerate -/
def plainIt : Expr → Bool
  | .Call (.Name x _) _ [] _ => match ikOf x with
    | .no => true
    | _ => false
  | _ => true
theorem plainIt_ok {T : Tab} {f : Expr → Option ME} {sc : Scope} {tup : Bool} {e : Expr} {A : ME} (h : plainIt e = true) (hs : notSet e = true) (hf : f e = some A) : cmpI T f sc tup e = some (iSeq A) := by
  unfold plainIt at h
  unfold cmpI
  split at h
  · try dsimp only
    split at h
    · rename_i q
      try rw [q]
      try dsimp only
      rw [hf]; rfl
    · cases h
  · rename_i hn
    first
      | (rw [if_pos hs, hf]; rfl)
      | (split
         · exact absurd rfl (hn _ _ _ _)
         · rw [if_pos hs, hf]; rfl)
/-- a raise among the statements -/
def hasR : Nat → List Stmt → Bool
  | 0, _ => false
  | n + 1, ss => ss.any fun s => match s with
    | .Raise _ _ _ => true
    | .If _ a b _ => hasR n a || hasR n b
    | .For _ _ b _ _ => hasR n b
    | _ => false
def isFn (T : Tab) : Expr → Bool
  | .Call (.Name x _) _ [] _ => (T.fs.lookup x).isSome
  | _ => false
/-- tuple([.. for .. in f(..)]): the call is read first -/
def preOf (T : Tab) (sc : Scope) : Expr → Option ME
  | .Call (.Name z _) [.ListComp elt [⟨tg, iter, ifs, 0⟩] scope vp] [] _ =>
    if decide (z = "tuple") && (blB T sc z && (plainIt iter && (isFn T iter && (cmpE T 60 sc fnT (.ListComp elt [⟨tg, iter, ifs, 0⟩] scope vp)).isSome))) then cmpE T 60 sc fnT iter else none
  | _ => none
def retOf (p : Option ME) (m : ME) : MS := match p with
  | some a => sPre a (sRet m)
  | none => sRet m
def cmpS (T : Tab) (sc : Scope) : Nat → Stmt → Option MS
  | 0, _ => none
  | n + 1, st => match st with
    | .Return (some e) _ => (cmpR T sc 60 e).map (retOf (preOf T sc e))
    | .Return none _ => some sRetN
    | .Pass _ => some sNil
    | .Raise (some (.Call (.Name "BadThing" _) [a] [] _)) none _ => if glB sc "BadThing" then (cmpE T 60 sc fnT a).map sRaise else none
    | .Raise _ _ _ => some sBad
    | .Expr e _ => if isComp e then none else (cmpE T 60 sc fnT e).map sExp
    | .If c a b _ => match cmpR T sc 60 c, cmpSs (cmpS T sc n) a, cmpSs (cmpS T sc n) b with
      | some C, some A, some B => some (sIf C A B)
      | _, _, _ => none
    | .While c b [] _ => match cmpE T 60 sc fnT c, cmpSs (cmpS T sc n) b with
      | some C, some B => some (sWh C B)
      | _, _ => none
    | .For tg it b [] _ => if notSet it then if plainIt it then match cmpE T 60 sc fnT it, cmpTG T sc fnT 8 tg, cmpSs (cmpS T sc n) b with
        | some A, some t, some B => some (if hasR 8 b then sForXB A t B else sForX A t B)
        | _, _, _ => none
      else match cmpI T (cmpE T 60 sc fnT) sc (isTup tg) it, cmpTG T sc fnT 8 tg, cmpSs (cmpS T sc n) b with
        | some I, some t, some B => some (if hasR 8 b then sForB I t B else sFor I t B)
        | _, _, _ => none
      else none
    | .Assign [.Name x p] v _ => match ixOf x T.N 0 with
      | some i => if locB sc fnT x then match dcOf T sc x p v with
          | some m => some (sSet i m)
          | none => if decide (x ∈ T.mu) && isNewL v then (cmpE T 60 sc fnT v).map (sNew i)
            else (cmpE T 60 sc fnT v).map (sSet i)
        else none
      | none => none
    | .Assign [.Tuple ts _ _] (.Tuple es _ _) _ => match nameIx T sc ts with
      | some is => if es.length == ts.length && es.all noStar && decide is.Nodup && Nat.ble is.length 1000 && ts.all noStar && !(swB ts es sc && es.all (constantsAlone 8)) then (cmpAN T (cmpE T 60 sc fnT) ts es).map (sPar is) else none
      | none => if (es.length == ts.length && (es.all noStar && ts.all noStar)) && (!swB ts es sc && Nat.ble ts.length 1000) then match subsOf (cmpE T 60 sc fnT) ts, cmpA (cmpE T 60 sc fnT) es with
        | some R, some A => some (sSubs R A)
        | _, _ => none
        else none
    | .Assign [.Tuple ts k p] v _ => if isTupV v then none else match cmpTG T sc fnT 8 (.Tuple ts k p), cmpE T 60 sc fnT v with
      | some t, some A => some (sUnp t A)
      | _, _ => none
    | .Assign [.Subscript o i _] v _ => if !plainIx i then none else match cmpE T 60 sc fnT o, cmpE T 60 sc fnT i, cmpE T 60 sc fnT v with
      | some O, some I, some A => some (sSub O I A)
      | _, _, _ => none
    | _ => none

section
variable {T : Tab} {sc : Scope} {X : Cx}
theorem cmpE_pe (ok : Cok T sc fnT X) {e : Expr} {m : ME} (h : cmpE T 60 sc fnT e = some m) : PE X e (rdE X.K m) := (cmpE_ok T 60 X sc fnT ok e m h).1
theorem cmpE_pt (ok : Cok T sc fnT X) {e : Expr} {m : ME} (h : cmpE T 60 sc fnT e = some m) : PT X e (rdT X.K (tOf m)) := (cmpE_ok T 60 X sc fnT ok e m h).2
theorem getD_ok {f : Stmt → Option MS} (hf : ∀ e m, f e = some m → PS X e (rdS X.K m)) (s : Stmt) : PS X s (rdS X.K ((f s).getD sBad)) := by
  cases q : f s with
  | none => exact xs_bad
  | some m => exact hf _ _ q
theorem cmpSs_ok {f : Stmt → Option MS} (hf : ∀ e m, f e = some m → PS X e (rdS X.K m)) : ∀ (ss : List Stmt) (m : MS), cmpSs f ss = some m → PSs X ss (rdS X.K m)
  | [], m, h => by unfold cmpSs at h; cases h; exact xs_nil
  | [s], m, h => by
    unfold cmpSs at h
    cases h
    exact xs_one (getD_ok hf s)
  | s :: t :: r, m, h => by
    unfold cmpSs at h
    split at h
    · rename_i h2
      cases h
      exact xs_cons (getD_ok hf s) (cmpSs_ok hf _ _ h2)
    · cases h
theorem comp_no {e : Expr} (h : isComp e = false) (t : Option Expr) (n : Nat) (env : PySem.Env) : swapsWith e t n env = pure false := by
  cases e <;> first | rfl | cases h
theorem loc_ok (ok : Cok T sc fnT X) {x : Str} (hl : locB sc fnT x = true) : Loc X.env.scope x ∧ (X.fn x = true ∨ X.env.scope.names.lookup x = some .local) := by
  rw [ok.hsc]
  unfold locB at hl
  split at hl
  · rename_i z; exact ⟨.inl z, .inr z⟩
  · rename_i z; exact ⟨.inr z, .inl (ok.fn x rfl)⟩
  · cases hl
/-- name = a value that is no comprehension -/
theorem asg_plain (ok : Cok T sc fnT X) {x : Str} {i : Nat} {v : Expr} {t : TE} {p pos : Pos} (hi : ixOf x T.N 0 = some i) (hl : locB sc fnT x = true) (hv : isComp v = false) (h : PE X v t) : PS X (.Assign [.Name x p] v pos) (tAsg t (gName i)) := by
  obtain ⟨h1, h2⟩ := loc_ok ok hl
  exact ps_set (by rw [ok.hN]; exact ok.nd) (by rw [ok.hN]; exact ixOf_zero hi) h1 h (comp_no hv _ _ _) h2
theorem swC_no (ok : Cok T sc fnT X) {elt : Expr} {gens : List Comprehension} {scope : Scope} {x : Str} {p vp : Pos} (n : Nat) (h : swC sc scope x p vp = false) : swapsWith (.ListComp elt gens scope vp) (some (.Name x p)) n X.env = pure false := by
  have hb : X.env.blockKind = .function := by unfold Env.blockKind; rw [ok.hsc, ok.kind]; rfl
  unfold swapsWith
  simp only [hb]
  have hk : X.env.kindOf x = sc.names.lookup x := by unfold Env.kindOf; rw [ok.hsc]
  unfold swC at h
  simp only [hk, Expr.pos]
  show pure (((ScopeKind.function == ScopeKind.function) && (sc.names.lookup x == some NameKind.local) && p.line == vp.line) && !(scope.names.any fun y => match y with | (n, k) => n == x && (k == NameKind.local || k == NameKind.cell))) = pure false
  have e : (sc.names.lookup x == some NameKind.local) = (match sc.names.lookup x with
    | some .local => true
    | _ => false) := by
    cases sc.names.lookup x with
    | none => rfl
    | some k => cases k <;> rfl
  rw [e]
  congr 1
theorem swC_yes (ok : Cok T sc fnT X) {elt : Expr} {gens : List Comprehension} {scope : Scope} {x : Str} {p vp : Pos} (n : Nat) (h : swC sc scope x p vp = true) : X.env.scope.names.lookup x = some .local ∧ swapsWith (.ListComp elt gens scope vp) (some (.Name x p)) n X.env = pure true := by
  unfold swC at h
  simp only [Bool.and_eq_true, Bool.not_eq_true'] at h
  obtain ⟨⟨h1, h2⟩, h3⟩ := h
  have hl : X.env.scope.names.lookup x = some .local := by
    rw [ok.hsc]
    split at h1
    · assumption
    · cases h1
  exact ⟨hl, sw_true (by rw [ok.hsc]; exact ok.kind) hl h2 h3⟩
/-- the parts of a comprehension -/
theorem parts1 (ok : Cok T sc fnT X) {elt tg iter : Expr} {ifs : List Expr} {scope : Scope} {vp : Pos} {m : ME} {n : Nat} (h : cmpE T (n + 1) sc fnT (.ListComp elt [⟨tg, iter, ifs, 0⟩] scope vp) = some m) :
    ∃ own it t c e, Lc1 X tg iter elt ifs scope own it t c e ∧ m = eLc it t (own.map (·.2)) c e := by
  unfold cmpE at h
  split at h <;> rename_i heq <;> first | (cases heq; done) | skip
  · cases heq
    split at h
    · rename_i hb
      rw [Bool.and_eq_true] at hb
      have ihB : ∀ (s : Shared) (H : Hp) (C : Addr) (cl : List (Str × Addr)) (fp : List Addr), ∀ e m, cmpE T n (relS scope sc) (fun x => scope.names.lookup x == some .cell) e = some m → PE (X.blk s H scope (compEnvC scope cl C X.env) fp) e (rdE X.K m) ∧ PT (X.blk s H scope (compEnvC scope cl C X.env) fp) e (rdT X.K (tOf m)) :=
        fun s H C cl fp e m => cmpE_ok T n _ _ _ (ok.blk hb.1 s H C cl fp) e m
      split at h
      · rename_i it t c e hi ht hc he
        split at h
        · rename_i hsl
          cases h
          exact ⟨_, it, t, c, e, ⟨by rw [ok.hN, ok.hsc]; exact blkOk_by hb.1, by rw [ok.hN]; exact ok.nd, ok.calm, cmpI_ok ok (fun e m z => (cmpE_ok T n X sc fnT ok e m z).1) (fun z => z) hi, notSet_ok hb.2 _,
            fun s H C cl fp => cmpTG_ok 8 _ _ _ (ok.blk hb.1 s H C cl fp) _ _ ht, fun s H C cl fp => cmpC_ok (fun e m z => (ihB s H C cl fp e m z).2) hc, fun s H C cl fp => (ihB s H C cl fp _ _ he).1,
            fun i hi => of_decide_eq_true (List.all_eq_true.mp hsl i hi)⟩, rfl⟩
        · cases h
      · cases h
    · cases h
  · cases h
theorem parts2 (ok : Cok T sc fnT X) {elt tg iter tg1 iter1 : Expr} {ifs ifs1 : List Expr} {scope : Scope} {vp : Pos} {m : ME} {n : Nat} (h : cmpE T (n + 1) sc fnT (.ListComp elt [⟨tg, iter, ifs, 0⟩, ⟨tg1, iter1, ifs1, 0⟩] scope vp) = some m) :
    ∃ own own1 it t c e it1 t1 c1, Lc1 X tg iter elt ifs scope own it t c e ∧ Lc2 X tg1 iter1 ifs1 scope own own1 it1 t1 c1 ∧ m = eLc2 it t (own.map (·.2)) c it1 t1 (own1.map (·.2)) c1 e := by
  unfold cmpE at h
  split at h <;> rename_i heq <;> first | (cases heq; done) | skip
  · cases heq
    split at h
    · rename_i hb
      simp only [Bool.and_eq_true] at hb
      obtain ⟨⟨hb1, hb2⟩, hb3⟩ := hb
      have ihB : ∀ (s : Shared) (H : Hp) (C : Addr) (cl : List (Str × Addr)) (fp : List Addr), ∀ e m, cmpE T n (relS scope sc) (fun x => scope.names.lookup x == some .cell) e = some m → PE (X.blk s H scope (compEnvC scope cl C X.env) fp) e (rdE X.K m) ∧ PT (X.blk s H scope (compEnvC scope cl C X.env) fp) e (rdT X.K (tOf m)) :=
        fun s H C cl fp e m => cmpE_ok T n _ _ _ (ok.blk hb1 s H C cl fp) e m
      split at h
      · rename_i it t c e it1 t1 c1 hi ht hc he hi1 ht1 hc1
        split at h
        · rename_i hsl
          rw [Bool.and_eq_true] at hsl
          cases h
          refine ⟨_, _, it, t, c, e, it1, t1, c1, ⟨by rw [ok.hN, ok.hsc]; exact blkOk_by hb1, by rw [ok.hN]; exact ok.nd, ok.calm, cmpI_ok ok (fun e m z => (cmpE_ok T n X sc fnT ok e m z).1) (fun z => z) hi, notSet_ok hb2 _,
            fun s H C cl fp => cmpTG_ok 8 _ _ _ (ok.blk hb1 s H C cl fp) _ _ ht, fun s H C cl fp => cmpC_ok (fun e m z => (ihB s H C cl fp e m z).2) hc, fun s H C cl fp => (ihB s H C cl fp _ _ he).1,
            fun i hi => of_decide_eq_true (List.all_eq_true.mp hsl.1 i hi)⟩,
            ⟨fun s H C cl fp => cmpI_ok (ok.blk hb1 s H C cl fp) (fun e m z => (ihB s H C cl fp e m z).1) (fun z => z) hi1, notSet_ok hb3,
            fun s H C cl fp => cmpTG_ok 8 _ _ _ (ok.blk hb1 s H C cl fp) _ _ ht1, fun s H C cl fp => cmpC_ok (fun e m z => (ihB s H C cl fp e m z).2) hc1,
            fun i hi => of_decide_eq_true (List.all_eq_true.mp hsl.2 i hi), fun i hi => by rw [List.map_append]; exact List.mem_append_right _ hi⟩, rfl⟩
        · cases h
      · cases h
    · cases h
  · cases h
/-- name = a list display or comprehension: the list is new -/
theorem asg_new (ok : Cok T sc fnT X) {x : Str} {i : Nat} {v : Expr} {m : ME} {p pos : Pos} (hi : ixOf x T.N 0 = some i) (hl : locB sc fnT x = true) (hv : isNewL v = true) (h : cmpE T 60 sc fnT v = some m) : PS X (.Assign [.Name x p] v pos) (tAsg (rdF X.K m) (gName i)) := by
  obtain ⟨l1, l2⟩ := loc_ok ok hl
  have hN : X.N.Nodup := by rw [ok.hN]; exact ok.nd
  have hx : X.N[i]? = some x := by rw [ok.hN]; exact ixOf_zero hi
  unfold isNewL at hv
  split at hv
  · unfold cmpE at h
    dsimp only at h
    obtain ⟨A, hA, rfl⟩ := Option.map_eq_some_iff.mp h
    exact asg_plain ok hi hl rfl (xf_lst (cmpA_ok (fun e m z => (cmpE_ok T 59 X sc fnT ok e m z).1) _ _ hA))
  · rename_i elt gens scope vp
    have shape : (∃ tg iter ifs, gens = [⟨tg, iter, ifs, 0⟩]) ∨ ∃ tg iter ifs tg1 iter1 ifs1, gens = [⟨tg, iter, ifs, 0⟩, ⟨tg1, iter1, ifs1, 0⟩] := by
      unfold cmpE at h
      split at h <;> rename_i heq <;> first | (cases heq; done) | skip
      · cases heq; exact .inl ⟨_, _, _, rfl⟩
      · cases heq; exact .inr ⟨_, _, _, _, _, _, rfl⟩
      · cases h
    rcases shape with ⟨tg, iter, ifs, rfl⟩ | ⟨tg, iter, ifs, tg1, iter1, ifs1, rfl⟩
    · obtain ⟨own, it, t, c, e, L, rfl⟩ := parts1 ok h
      cases hs : swC sc scope x p vp with
      | true =>
        obtain ⟨y1, y2⟩ := swC_yes (elt := elt) (gens := [⟨tg, iter, ifs, 0⟩]) ok pos.line hs
        exact PS.mono (ps_setLc L.calm L.nd hx y1 y2 L.i L.ok L.g L.q L.y L.s) fun D σ H z => lc_read L.sl z
      | false => exact ps_set hN hx l1 L.pe (swC_no ok pos.line hs) l2
    · obtain ⟨own, own1, it, t, c, e, it1, t1, c1, L, M, rfl⟩ := parts2 ok h
      cases hs : swC sc scope x p vp with
      | true =>
        obtain ⟨y1, y2⟩ := swC_yes (elt := elt) (gens := [⟨tg, iter, ifs, 0⟩, ⟨tg1, iter1, ifs1, 0⟩]) ok pos.line hs
        exact PS.mono (ps_setLc2 (vs1 := List.map (fun y : Str × Nat => y.2) own1) L.calm L.nd hx y1 y2 L.i L.ok M.sub L.g L.q M.i M.g M.q L.y L.s M.s) fun D σ H z => lc2_read L.sl M.sl z
      | false => exact ps_set hN hx l1 (Lc2.pe L M) (swC_no ok pos.line hs) l2
  · cases hv
theorem cmp_list {v : Expr} {m : ME} {n : Nat} {fnb : Str → Bool} (hv : isNewL v = true) (h : cmpE T n sc fnb v = some m) : ∀ env st r st', m env st = .ok r st' → ∃ ds, r = .dat (.list ds) := by
  cases n with
  | zero => unfold cmpE at h; cases h
  | succ n =>
    unfold isNewL at hv
    split at hv
    · unfold cmpE at h
      dsimp only at h
      obtain ⟨A, hA, rfl⟩ := Option.map_eq_some_iff.mp h
      exact eLst_lst
    · unfold cmpE at h
      split at h <;> rename_i heq <;> first | (cases heq; done) | skip
      · split at h
        · split at h
          · split at h
            · cases h; exact eLc_lst
            · cases h
          · cases h
        · cases h
      · split at h
        · split at h
          · split at h
            · cases h; exact eLc2_lst
            · cases h
          · cases h
        · cases h
      · cases h
    · cases hv
theorem cmp_rdF (ok : Cok T sc fnT X) {v : Expr} {m : ME} (hv : isNewL v = true) (h : cmpE T 60 sc fnT v = some m) : PE X v (rdF X.K m) := by
  unfold isNewL at hv
  split at hv
  · unfold cmpE at h
    dsimp only at h
    obtain ⟨A, hA, rfl⟩ := Option.map_eq_some_iff.mp h
    exact xf_lst (cmpA_ok (fun e m z => (cmpE_ok T 59 X sc fnT ok e m z).1) _ _ hA)
  · rename_i elt gens scope vp
    have shape : (∃ tg iter ifs, gens = [⟨tg, iter, ifs, 0⟩]) ∨ ∃ tg iter ifs tg1 iter1 ifs1, gens = [⟨tg, iter, ifs, 0⟩, ⟨tg1, iter1, ifs1, 0⟩] := by
      unfold cmpE at h
      split at h <;> rename_i heq <;> first | (cases heq; done) | skip
      · cases heq; exact .inl ⟨_, _, _, rfl⟩
      · cases heq; exact .inr ⟨_, _, _, _, _, _, rfl⟩
      · cases h
    rcases shape with ⟨tg, iter, ifs, rfl⟩ | ⟨tg, iter, ifs, tg1, iter1, ifs1, rfl⟩
    · obtain ⟨own, it, t, c, e, L, rfl⟩ := parts1 ok h
      exact L.pe
    · obtain ⟨own, own1, it, t, c, e, it1, t1, c1, L, M, rfl⟩ := parts2 ok h
      exact Lc2.pe L M
  · cases hv
theorem cmpAN_ok (ok : Cok T sc fnT X) : ∀ (ts es : List Expr) (m : MA), es.all noStar = true → cmpAN T (cmpE T 60 sc fnT) ts es = some m → PA X es (rdAN X.K m)
  | [], [], m, _, h => by unfold cmpAN at h; cases h; exact xan_nil
  | [], _ :: _, m, _, h => by unfold cmpAN at h; cases h
  | _ :: _, [], m, _, h => by unfold cmpAN at h; cases h
  | t :: ts, e :: es, m, hs, h => by
    rw [List.all_cons, Bool.and_eq_true] at hs
    unfold cmpAN at h
    split at h
    · rename_i a mm ha hm
      have ih := cmpAN_ok ok ts es mm hs.2 hm
      have hp := cmpE_pe ok ha
      split at h
      · split at h
        · rename_i hb
          rw [Bool.and_eq_true] at hb
          cases h
          exact xan_new (cmp_rdF ok hb.2 ha) ih hs.1
        · cases h
          exact xan_cons hp ih hs.1
      · cases h
        exact xan_cons hp ih hs.1
    · cases h
/-! ### a dict comprehension stored -/
theorem swD_yes (ok : Cok T sc fnT X) {kx vx : Expr} {gens : List Comprehension} {scope : Scope} {x : Str} {p vp : Pos} (n : Nat) (h : swC sc scope x p vp = true) : X.env.scope.names.lookup x = some .local ∧ swapsWith (.DictComp kx vx gens scope vp) (some (.Name x p)) n X.env = pure true := by
  obtain ⟨h1, h2⟩ := swC_yes ok (elt := kx) (gens := gens) n h
  exact ⟨h1, h2⟩
theorem ps_setDc {i : Nat} {y : Str} {py : Pos} {kx vx tg iter : Expr} {ifs : List Expr} {scope : Scope} {own : List (Str × Nat)} {pos spos : Pos} {wi : TI} {g : L2.TG} {tt : TT} {tk tv : TE} (hc : X.calm = true) (hN : X.N.Nodup) (hy : X.N[i]? = some y) (hyl : X.env.scope.names.lookup y = some .local)
    (hsw : swapsWith (.DictComp kx vx [⟨tg, iter, ifs, 0⟩] scope pos) (some (.Name y py)) spos.line X.env = pure true) (hi : PI X tg iter wi) (ok : BlkOk X.N X.env.scope scope own)
    (hg : ∀ (s : Shared) (H : Hp) (C : Addr) (cl : List (Str × Addr)) (fp : List Addr), PG (X.blk s H scope (compEnvC scope cl C X.env) fp) tg g) (ht : ∀ (s : Shared) (H : Hp) (C : Addr) (cl : List (Str × Addr)) (fp : List Addr), PTs (X.blk s H scope (compEnvC scope cl C X.env) fp) ifs tt)
    (hk : ∀ (s : Shared) (H : Hp) (C : Addr) (cl : List (Str × Addr)) (fp : List Addr), PE (X.blk s H scope (compEnvC scope cl C X.env) fp) kx tk) (he : ∀ (s : Shared) (H : Hp) (C : Addr) (cl : List (Str × Addr)) (fp : List Addr), PE (X.blk s H scope (compEnvC scope cl C X.env) fp) vx tv) (hs : ∀ x, foldedSetIterable iter X.env x = pure x) :
    PS X (.Assign [.Name y py] (.DictComp kx vx [⟨tg, iter, ifs, 0⟩] scope pos) spos) (tAsg (tDc wi g tt tk tv (own.map (·.2))) (gName i)) := by
  refine ⟨fun pins s σ H D I q => ?_⟩
  rw [exec_Assign_Name_used _ _ _ _ hsw]
  refine wpAny_bind (wpAny_standAt (wpAny_bind (show wpAny (model X.prog X.w) X.A (do let _ ← comprehension (.DictComp kx vx [⟨tg, iter, ifs, 0⟩] scope pos) scope X.env (firstIterPos [⟨tg, iter, ifs, 0⟩] pos) newDict false (eval iter X.env) (some (assign (.Name y py) X.env))) _ _ s from ?_)))
  have q : tDc wi g tt tk tv (own.map (·.2)) σ H (fun x H1 => gName i x σ H1 D.nx) := q
  refine wpAny_bind (thn (dc_core (Qf := fun _ s' => SP X pins D .next s') hc hN I hi ok hg ht hk he hs q fun L C s' m H' I' q hn ⟨f0, f1, f2, f3, f4, f5⟩ => ?_) fun _ s' hq => wpAny_pure (wpAny_pure hq))
  refine (show wpAny (model X.prog X.w) _ (assign (.Name y py) X.env (.ref L)) _ _ _ from wpAny_assign_Name (store_ok2 (v := V.ref L) I' hN hy (.inl hyl) rfl (fun s2 I2 ⟨a, sb, ha⟩ => ?_) (.inr hyl)))
  have haC : C ≠ a := ha.elim (fun z => by rw [z]; exact f1) fun z e => f4 y a z e.symm
  exact ⟨m, hn.sameBut sb haC, fun h3 sb3 => ⟨_, H', I2.turned (t' := s2.toks) (fun b o hb e => (sb3.2 b hb).trans e) f0 f1 f3 f4 f5, q⟩⟩
theorem xs_dc (ok : Cok T sc fnT X) {x : Str} {i : Nat} {v : Expr} {m : ME} {p pos : Pos} (hi : ixOf x T.N 0 = some i) (h : dcOf T sc x p v = some m) : PS X (.Assign [.Name x p] v pos) (rdS X.K (sSet i m)) := by
  unfold dcOf at h
  split at h
  · rename_i kx vx tg iter scope vp
    split at h
    · rename_i hb
      simp only [Bool.and_eq_true] at hb
      obtain ⟨hb0, hb1, hb2⟩ := hb
      have ihB : ∀ (s : Shared) (H : Hp) (C : Addr) (cl : List (Str × Addr)) (fp : List Addr), ∀ e m, cmpE T 50 (relS scope sc) (fromC scope) e = some m → PE (X.blk s H scope (compEnvC scope cl C X.env) fp) e (rdE X.K m) :=
        fun s H C cl fp e m z => (cmpE_ok T 50 _ _ _ (ok.blk hb1 s H C cl fp) e m z).1
      split at h
      · rename_i it t k v' hi1 ht hk hv
        split at h
        · rename_i hsl
          cases h
          obtain ⟨y1, y2⟩ := swD_yes (kx := kx) (vx := vx) (gens := [⟨tg, iter, [], 0⟩]) ok pos.line hb0
          refine xs_set (PS.mono (ps_setDc (own := ownOf T 8 tg) ok.calm (by rw [ok.hN]; exact ok.nd) (by rw [ok.hN]; exact ixOf_zero hi) y1 y2 (cmpI_ok ok (fun e m z => (cmpE_ok T 50 X sc fnT ok e m z).1) (fun z => z) hi1) (by rw [ok.hN, ok.hsc]; exact blkOk_by hb1)
            (fun s H C cl fp => cmpTG_ok 8 _ _ _ (ok.blk hb1 s H C cl fp) _ _ ht) (fun s H C cl fp => cmpC_ok (f := fun _ => none) (ifs := []) (m := tYes) (fun e m z => nomatch z) rfl) (fun s H C cl fp => ihB s H C cl fp _ _ hk) (fun s H C cl fp => ihB s H C cl fp _ _ hv) (notSet_ok hb2 _)) fun D σ H z => dc_read (fun i hi => of_decide_eq_true (List.all_eq_true.mp hsl i hi)) z)
        · cases h
      · cases h
    · cases h
  · cases h
/-! ### many names at once -/
def gNs : List Nat → L2.TGs
  | [] => gNil
  | i :: is => gCons (gName i) (gNs is)
theorem nameIx_gs (ok : Cok T sc fnT X) : ∀ {ts : List Expr} {is : List Nat}, nameIx T sc ts = some is → PGs X ts (gNs is) ∧ ts.length = is.length
  | [], is, h => by unfold nameIx at h; cases h; exact ⟨pgs_nil, rfl⟩
  | e :: es, is, h => by
    unfold nameIx at h
    split at h
    · rename_i heq; cases heq
    · rename_i x p r heq
      cases heq
      split at h
      · rename_i hl
        split at h
        · rename_i i js hi hj
          cases h
          obtain ⟨l1, l2⟩ := loc_ok ok hl
          obtain ⟨h1, h2⟩ := nameIx_gs ok hj
          exact ⟨pgs_cons (pg_name (by rw [ok.hN]; exact ok.nd) (by rw [ok.hN]; exact ixOf_zero hi) l1 l2) h1 (each_cons rfl), by rw [List.length_cons, List.length_cons, h2]⟩
        · cases h
      · cases h
    · cases h
theorem gNs_put : ∀ {is : List Nat} {us : List V} {σ : L2.St} {H : Hp} {Q : L2.St → Hp → Prop}, us.length = is.length → Q ((is.zip us).foldl (fun σ q => σ.set q.1 (some q.2)) σ) H → gNs is us σ H Q
  | [], [], _, _, _, _, q => ⟨rfl, q⟩
  | [], _ :: _, _, _, _, h, _ => by simp at h
  | _ :: _, [], _, _, _, h, _ => by simp at h
  | i :: is, u :: us, _, _, _, h, q => ⟨u, us, rfl, gNs_put (by simpa using h) q⟩
theorem xs_par2 {s0 : Stmt} {is : List Nat} {ts : TS} {mA : MA} {tA : TA} (p : ParA X.K tA mA) (h : PS X s0 ts) (hq : ∀ D σ H, (tA σ H fun vs H1 => vs.length = is.length ∧ ∀ H2, Same H1 H2 → D.nx ((is.zip vs).foldl (fun σ q => σ.set q.1 (some q.2)) σ) H2) → ts D σ H) : PS X s0 (rdS X.K (sPar is mA)) :=
  PS.mono h fun D σ H w => hq D σ H (p.par w)
theorem xs_tup (ok : Cok T sc fnT X) {ts es : List Expr} {is : List Nat} {mA : MA} {tA : TA} {k k2 : Nat} {p p2 pos : Pos} (hn : nameIx T sc ts = some is) (hl : es.length = ts.length) (hb : Nat.ble is.length 1000 = true) (hts : ts.all noStar = true) (pr : ParA X.K tA mA) (ha : PA X es tA)
    (hw : swappedStores [.Tuple ts k p] (.Tuple es k2 p2) X.env = pure none) : PS X (.Assign [.Tuple ts k p] (.Tuple es k2 p2) pos) (rdS X.K (sPar is mA)) := by
  obtain ⟨h1, h2⟩ := nameIx_gs ok hn
  have hb := Nat.le_of_ble_eq_true hb
  refine xs_par2 pr (ps_asg (pe_tup ha) (pg_tup (n := is.length) ok.calm h1 (by rw [each_len, h2]) (each_star hts)) rfl hw (each_cons rfl)) fun D σ H h => ?_
  refine pr.mono h fun vs H1 ⟨l, q⟩ => ⟨by rw [l, sizeLine_eq]; omega, fun p hp => ?_⟩
  exact ⟨p, vs, rfl, SqT.of upd_same, l, gNs_put l (q _ (same_upd hp))⟩
def swG (sc : Scope) (o : Nat) (e : Expr) : Option Str := match e with
  | .Name id pos => if sc.names.lookup id == some .local && pos.line == o then some id else none
  | _ => none
theorem swNames_eq (ts : List Expr) (sc : Scope) : swNames ts sc = ts.filterMap (swG sc ((ts.head?.map (·.pos.line)).getD 0)) := rfl
structure Nm (T : Tab) (sc : Scope) (e : Expr) (x : Str) (i : Nat) : Prop where
  e : ∃ p, e = .Name x p
  i : ixOf x T.N 0 = some i
  l : sc.names.lookup x = some .local
theorem swn_cons {o : Nat} {e : Expr} {r : List Expr} {is : List Nat} (hn : nameIx T sc (e :: r) = some is) (h : ((e :: r).filterMap (swG sc o)).length = (e :: r).length) :
    ∃ x i js, Nm T sc e x i ∧ is = i :: js ∧ nameIx T sc r = some js ∧ (r.filterMap (swG sc o)).length = r.length ∧ (e :: r).filterMap (swG sc o) = x :: r.filterMap (swG sc o) := by
  unfold nameIx at hn
  split at hn
  · rename_i heq; cases heq
  · rename_i x p r heq
    cases heq
    split at hn
    · split at hn
      · rename_i i js hi hj
        cases hn
        have hle := List.length_filterMap_le (swG sc o) r
        rw [List.filterMap_cons] at h ⊢
        split at h
        · rw [List.length_cons] at h; omega
        · rename_i b hb
          unfold swG at hb
          dsimp only at hb
          split at hb
          · rename_i w
            rw [Bool.and_eq_true] at w
            cases hb
            exact ⟨x, i, js, ⟨⟨p, rfl⟩, hi, by simpa using w.1⟩, rfl, hj, by simpa using h, rfl⟩
          · cases hb
      · cases hn
    · cases hn
  · cases hn
theorem xs_tuple (ok : Cok T sc fnT X) {ts es : List Expr} {is : List Nat} {mA : MA} {tA : TA} {k k2 : Nat} {p p2 pos : Pos} (hn : nameIx T sc ts = some is) (hl : es.length = ts.length) (hd : is.Nodup) (hb : Nat.ble is.length 1000 = true) (hts : ts.all noStar = true) (pr : ParA X.K tA mA) (ha : PA X es tA)
    (hc : (swB ts es sc && es.all (constantsAlone 8)) = false) : PS X (.Assign [.Tuple ts k p] (.Tuple es k2 p2) pos) (rdS X.K (sPar is mA)) := by
  have hsw := sw_eq (k := k) (k2 := k2) (p := p) (p2 := p2) ok.hsc ok.kind hc
  cases hq : swB ts es sc with
  | false =>
    rw [hq] at hsw
    exact xs_tup ok hn hl hb hts pr ha hsw
  | true =>
    rw [hq, if_pos rfl] at hsw
    unfold swB at hq
    simp only [Bool.and_eq_true, Bool.or_eq_true, beq_iff_eq] at hq
    obtain ⟨⟨⟨⟨⟨h23, _⟩, _⟩, hnl⟩, _⟩, _⟩ := hq
    rw [swNames_eq] at hnl hsw
    have hN : X.N.Nodup := by rw [ok.hN]; exact ok.nd
    rcases h23 with h2 | h3
    · match ts, es, h2, hn, hnl, hsw, hl, ha with
      | [e1, e2], [a, b], _, hn, hnl, hsw, hl, ha =>
        generalize ((List.head? [e1, e2]).map (·.pos.line)).getD 0 = o at hnl hsw
        obtain ⟨x, i, js, N1, rfl, hn, hnl, f1⟩ := swn_cons hn hnl
        obtain ⟨y, j, ks, N2, rfl, hn, hnl, f2⟩ := swn_cons hn hnl
        unfold nameIx at hn
        cases hn
        obtain ⟨⟨px, rfl⟩, i1, l1⟩ := N1
        obtain ⟨⟨py, rfl⟩, i2, l2⟩ := N2
        rw [f1, f2, List.filterMap_nil] at hsw
        have hij : i ≠ j := fun z => (List.nodup_cons.mp hd).1 (by rw [z]; exact List.mem_cons_self)
        refine xs_par2 pr (ps_par ok.calm hN (by rw [ok.hN]; exact ixOf_zero i1) (by rw [ok.hN]; exact ixOf_zero i2) hij (by rw [ok.hsc]; exact l1) (by rw [ok.hsc]; exact l2) ha hsw rfl) fun D σ H h => ?_
        refine pr.mono h fun vs H1 ⟨l, q⟩ => ?_
        match vs, l, q with
        | [v, w], _, q => exact ⟨v, w, rfl, q _ (Same.refl _)⟩
    · match ts, es, h3, hn, hnl, hsw, hl, ha with
      | [e1, e2, e3], [a, b, c], _, hn, hnl, hsw, hl, ha =>
        generalize ((List.head? [e1, e2, e3]).map (·.pos.line)).getD 0 = o at hnl hsw
        obtain ⟨x, i, js, N1, rfl, hn, hnl, f1⟩ := swn_cons hn hnl
        obtain ⟨y, j, ks, N2, rfl, hn, hnl, f2⟩ := swn_cons hn hnl
        obtain ⟨z, m, ms, N3, rfl, hn, hnl, f3⟩ := swn_cons hn hnl
        unfold nameIx at hn
        cases hn
        obtain ⟨⟨px, rfl⟩, i1, l1⟩ := N1
        obtain ⟨⟨py, rfl⟩, i2, l2⟩ := N2
        obtain ⟨⟨pz, rfl⟩, i3, l3⟩ := N3
        rw [f1, f2, f3, List.filterMap_nil] at hsw
        have hd2 := List.nodup_cons.mp hd
        have hij : i ≠ j := fun z => hd2.1 (by rw [z]; exact List.mem_cons_self)
        have him : i ≠ m := fun z => hd2.1 (by rw [z]; exact List.mem_cons_of_mem _ List.mem_cons_self)
        have hjm : j ≠ m := fun z => (List.nodup_cons.mp hd2.2).1 (by rw [z]; exact List.mem_cons_self)
        refine xs_par2 pr (ps_par3 ok.calm hN (by rw [ok.hN]; exact ixOf_zero i1) (by rw [ok.hN]; exact ixOf_zero i2) (by rw [ok.hN]; exact ixOf_zero i3) hij him hjm (by rw [ok.hsc]; exact l1) (by rw [ok.hsc]; exact l2) (by rw [ok.hsc]; exact l3) ha hsw rfl) fun D σ H h => ?_
        refine pr.mono h fun vs H1 ⟨l, q⟩ => ?_
        match vs, l, q with
        | [v, w, u], _, q => exact ⟨v, w, u, rfl, q _ (Same.refl _)⟩
theorem cmp_noC {v : Expr} {n : Nat} {fnb : Str → Bool} {m : ME} (h : cmpE T n sc fnb v = some m) (hv : isNewL v = false) : isComp v = false := by
  cases n with
  | zero => unfold cmpE at h; cases h
  | succ n =>
    cases hc : isComp v with
    | false => rfl
    | true =>
      unfold isComp at hc
      split at hc
      · cases hv
      · unfold cmpE at h
        split at h <;> rename_i heq <;> first | (cases heq; done) | (cases h; done)
      · unfold cmpE at h
        split at h <;> rename_i heq <;> first | (cases heq; done) | (cases h; done)
      · cases hc
theorem asg_sub {b c : Expr} {p : Pos} {env : PySem.Env} (h : plainIx c = true) : ∀ v, assign (.Subscript b c p) env v = (do
      let ov ← holding [v] (eval b env)
      let iv ← holding [v, ov] (eval c env)
      standAt p
      holding [v, ov, iv] (setItem ov iv v)
      release [v, ov, iv] []) := fun v => by
  cases c <;> first | rfl | cases h
theorem sw_none {ts es : List Expr} {sc : Scope} {env : PySem.Env} {k k2 : Nat} {p p2 : Pos} (hs : env.scope = sc) (hk : sc.kind = .function) (h : swB ts es sc = false) : swappedStores [.Tuple ts k p] (.Tuple es k2 p2) env = pure none := by
  rw [sw_eq hs hk (by rw [h]; rfl), h]
  rfl
theorem subsOf_ok (ok : Cok T sc fnT X) : ∀ (ts : List Expr) (R : List (ME × ME)), subsOf (cmpE T 60 sc fnT) ts = some R → PGs X ts (rdW X.K R) ∧ ts.length = R.length
  | [], R, h => by unfold subsOf at h; cases h; exact ⟨xgw_nil, rfl⟩
  | e :: ts, R, h => by
    unfold subsOf at h
    split at h
    · rename_i heq; cases heq
    · rename_i o i p r heq
      cases heq
      split at h
      · rename_i hp
        split at h
        · rename_i O I R' hO hI hR
          cases h
          obtain ⟨g1, g2⟩ := subsOf_ok ok _ _ hR
          exact ⟨xgw_cons (cmpE_pe ok hO) (cmpE_pe ok hI) g1 (asg_sub hp), by rw [List.length_cons, List.length_cons, g2]⟩
        · cases h
      · cases h
    · cases h
theorem swo_no {t v : Expr} (ht : (match t with
    | .Name _ _ => true
    | _ => false) = false) (n : Nat) (env : PySem.Env) (hv : isComp v = false) : swapsWithSole [t] v n env = pure false := comp_no hv _ _ _
theorem swoB_no {o i : Expr} {p : Pos} {v : Expr} (n : Nat) (env : PySem.Env) : swapsWithSole [.Subscript o i p] v n env = pure false := by
  cases v <;> rfl
theorem swoT_no {ts : List Expr} {k : Nat} {p : Pos} {v : Expr} (n : Nat) (env : PySem.Env) : swapsWithSole [.Tuple ts k p] v n env = pure false := by
  cases v <;> rfl
theorem swt_no {t v : Expr} {env : PySem.Env} (h : isTupV v = false) : swappedStores [t] v env = pure none := by
  cases v <;> first | (cases t <;> rfl) | cases h
theorem sub_no {o i v : Expr} {p : Pos} {env : PySem.Env} : swappedStores [.Subscript o i p] v env = pure none := by
  cases v <;> rfl
theorem xs_raise0 {s0 : Stmt} {ma : ME} : PS X s0 (rdS X.K (sRaise ma)) :=
  PS.mono (ps_never) fun D σ H ⟨ι, P, env, st, A, r, st', e, q⟩ => by
    obtain ⟨v, s1, h1, e⟩ := bind_ok e
    split at e <;> cases e
theorem cmpS_ok (ok : Cok T sc fnT X) (okr : T.lf ≠ [] → ∃ k C g c tp, RefOk T X k C g c tp) (hp : PassesOwn (model X.prog X.w) X.A X.env X.xe) : ∀ (n : Nat) (st : Stmt) (m : MS), cmpS T sc n st = some m → PS X st (rdS X.K m)
  | 0, st, m, h => by unfold cmpS at h; cases h
  | n + 1, st, m, h => by
    have ih := cmpS_ok ok okr hp n
    unfold cmpS at h
    split at h
    · obtain ⟨A, hA, rfl⟩ := Option.map_eq_some_iff.mp h
      unfold retOf
      split
      · exact xs_pre (xs_ret (cmpR_ok ok okr _ _ _ hA).1)
      · exact xs_ret (cmpR_ok ok okr _ _ _ hA).1
    · cases h; exact xs_retN
    · cases h; exact xs_pass
    · split at h
      · obtain ⟨A, hA, rfl⟩ := Option.map_eq_some_iff.mp h
        exact xs_raise0
      · cases h
    · cases h; exact xs_bad
    · split at h
      · cases h
      · rename_i hc
        obtain ⟨A, hA, rfl⟩ := Option.map_eq_some_iff.mp h
        exact xs_exp (cmpE_pe ok hA) (comp_no (Bool.eq_false_iff.mpr hc) _ _ _)
    · split at h
      · rename_i hC hA hB
        cases h
        exact xs_if (cmpR_ok ok okr _ _ _ hC).2 (cmpSs_ok ih _ _ hA) (cmpSs_ok ih _ _ hB)
      · cases h
    · split at h
      · rename_i hC hB
        cases h
        exact xs_wh hp (cmpE_pt ok hC) (cmpSs_ok ih _ _ hB)
      · cases h
    · split at h
      · rename_i hs
        split at h
        · rename_i hpl
          split at h
          · rename_i hA ht hB
            cases h
            split
            · exact xs_forXB (xs_forX (xs_for hp ok.calm (cmpI_ok ok (fun e m z => cmpE_pe ok z) (fun z => z) (plainIt_ok (T := T) (sc := sc) (tup := isTup _) hpl hs hA)) (cmpTG_ok 8 _ _ _ ok _ _ ht) (cmpSs_ok ih _ _ hB) (notSet_ok hs _)))
            · exact xs_forX (xs_for hp ok.calm (cmpI_ok ok (fun e m z => cmpE_pe ok z) (fun z => z) (plainIt_ok (T := T) (sc := sc) (tup := isTup _) hpl hs hA)) (cmpTG_ok 8 _ _ _ ok _ _ ht) (cmpSs_ok ih _ _ hB) (notSet_ok hs _))
          · cases h
        · split at h
          · rename_i hi ht hB
            cases h
            split
            · exact xs_forB (xs_for hp ok.calm (cmpI_ok ok (fun e m z => cmpE_pe ok z) (fun z => z) hi) (cmpTG_ok 8 _ _ _ ok _ _ ht) (cmpSs_ok ih _ _ hB) (notSet_ok hs _))
            · exact xs_for hp ok.calm (cmpI_ok ok (fun e m z => cmpE_pe ok z) (fun z => z) hi) (cmpTG_ok 8 _ _ _ ok _ _ ht) (cmpSs_ok ih _ _ hB) (notSet_ok hs _)
          · cases h
      · cases h
    · rename_i x p v pos
      split at h
      · rename_i i hi
        split at h
        · rename_i hl
          split at h
          · rename_i m hm
            cases h
            exact xs_dc ok hi hm
          · split at h
            · rename_i hm
              rw [Bool.and_eq_true] at hm
              obtain ⟨A, hA, rfl⟩ := Option.map_eq_some_iff.mp h
              exact xs_new (asg_new ok hi hl hm.2 hA)
            · obtain ⟨A, hA, rfl⟩ := Option.map_eq_some_iff.mp h
              cases hv : isNewL v with
              | true => exact xs_set (PS.mono (asg_new ok hi hl hv hA) fun D σ H z => rdF_of (cmp_list hv hA) z)
              | false =>
                exact xs_set (asg_plain ok hi hl (cmp_noC hA hv) (cmpE_pe ok hA))
        · cases h
      · cases h
    · split at h
      · rename_i is hn
        split at h
        · rename_i hb
          simp only [Bool.and_eq_true, Bool.not_eq_true', beq_iff_eq, decide_eq_true_eq] at hb
          obtain ⟨⟨⟨⟨⟨h1, h2⟩, h3⟩, h4⟩, h5⟩, h6⟩ := hb
          obtain ⟨A, hA, rfl⟩ := Option.map_eq_some_iff.mp h
          exact xs_tuple ok hn h1 h3 h4 h5 parAN (cmpAN_ok ok _ _ _ h2 hA) h6
        · cases h
      · split at h
        · rename_i hb
          simp only [Bool.and_eq_true, Bool.not_eq_true', beq_iff_eq] at hb
          obtain ⟨⟨h1, h2, h3⟩, h4, h5⟩ := hb
          split at h
          · rename_i R A hR hA
            cases h
            obtain ⟨g1, g2⟩ := subsOf_ok ok _ _ hR
            exact xs_subs ok.calm (cmpA_ok (fun e m z => cmpE_pe ok z) _ _ hA) g1 g2 (by rw [← g2]; exact h5) h3 (sw_none ok.hsc ok.kind h4)
          · cases h
        · cases h
    · split at h
      · cases h
      · rename_i hc
        have hc := Bool.eq_false_iff.mpr hc
        split at h
        · rename_i ht hA
          cases h
          exact xs_unp (cmpE_pe ok hA) (cmpTG_ok 8 _ _ _ ok _ _ ht) (swoT_no _ _) (swt_no hc) rfl
        · cases h
    · split at h
      · cases h
      · rename_i hc
        have hc := Bool.eq_false_iff.mpr hc
        split at h
        · rename_i hO hI hA
          cases h
          refine xs_sub (cmpE_pe ok hA) (cmpE_pe ok hO) (cmpE_pe ok hI) (swoB_no _ _) sub_no (asg_sub ?_)
          simpa using hc
        · cases h
    · cases h
end
end Ev
/-! EvCmpX: the compiled text raises as it says. -/
namespace Ev
open PySem PySem.Spec PyProof.Rows L2
section
variable {T : Tab} {sc : Scope} {C : Addr} {E : XK} {X : Cx}
/-- BadThing may be raised -/
def Rz (X : Cx) (C : Addr) (E : XK) : Prop := ∀ (a : Expr) (ma : ME) (p pos pos2 : Pos), Gl X "BadThing" → noStar a = true → PE X a (rdE X.K ma) → PE X a (rdX X.K C E ma) → PS X (.Raise (some (.Call (.Name "BadThing" p) [a] [] pos)) none pos2) (rdXS X.K C E (sRaise ma))
theorem new_noE {v : Expr} {m : ME} {n : Nat} (hv : isNewL v = true) (h : cmpE T n sc fnT v = some m) : NoE m := by
  cases n with
  | zero => unfold cmpE at h; cases h
  | succ n =>
    unfold isNewL at hv
    split at hv
    · unfold cmpE at h
      dsimp only at h
      obtain ⟨A, hA, rfl⟩ := Option.map_eq_some_iff.mp h
      exact fun _ _ _ _ q => noX_no q
    · unfold cmpE at h
      split at h <;> rename_i heq <;> first | (cases heq; done) | skip
      · split at h
        · split at h
          · split at h
            · cases h; exact fun _ _ _ _ q => noX_no q
            · cases h
          · cases h
        · cases h
      · split at h
        · split at h
          · split at h
            · cases h; exact fun _ _ _ _ q => noX_no q
            · cases h
          · cases h
        · cases h
      · cases h
    · cases hv
theorem getD_px {f : Stmt → Option MS} (hf : ∀ e m, f e = some m → PS X e (rdS X.K m) ∧ PS X e (rdXS X.K C E m)) (s : Stmt) : PS X s (rdXS X.K C E ((f s).getD sBad)) := by
  cases q : f s with
  | none => exact xxs_no fun _ _ _ _ z => by cases z
  | some m => exact (hf _ _ q).2
theorem cmpSs_px {f : Stmt → Option MS} (hf : ∀ e m, f e = some m → PS X e (rdS X.K m) ∧ PS X e (rdXS X.K C E m)) : ∀ (ss : List Stmt) (m : MS), cmpSs f ss = some m → PSs X ss (rdXS X.K C E m)
  | [], m, h => by unfold cmpSs at h; cases h; exact xxs_nil
  | [s], m, h => by
    unfold cmpSs at h
    cases h
    exact pss_one (getD_px hf s)
  | s :: t :: r, m, h => by
    unfold cmpSs at h
    split at h
    · rename_i h2
      cases h
      exact xxs_cons (getD_ok (fun e m z => (hf e m z).1) s) (cmpSs_ok (fun e m z => (hf e m z).1) _ _ h2) (getD_px hf s) (cmpSs_px hf _ _ h2)
    · cases h
theorem dcOf_noE {T : Tab} {sc : Scope} {x : Str} {p : Pos} {v : Expr} {m : ME} (h : dcOf T sc x p v = some m) : ∀ env st y s', m env st ≠ .exn y s' := by
  unfold dcOf at h
  (repeat' split at h) <;> first | (cases h; done) | (cases h; exact fun _ _ _ _ q => noX_no q)
/-- tuple([.. for .. in f(..)]) raises where f(..) does -/
theorem pre_px (okx : CokX T C E X) (ok : Cok T sc fnT X) {e : Expr} {a : ME} (h : preOf T sc e = some a) : PE X e (rdX X.K C E a) := by
  unfold preOf at h
  split at h
  · rename_i z zp elt tg iter ifs scope vp pos
    split at h
    · rename_i hc
      simp only [Bool.and_eq_true, decide_eq_true_eq] at hc
      obtain ⟨c1, c2, c3, c4, c5⟩ := hc
      subst c1
      obtain ⟨g1, g2⟩ := blB_ok ok c2
      obtain ⟨m, hm⟩ := Option.isSome_iff_exists.mp c5
      obtain ⟨own, it, t, c, e, L, _⟩ := parts1 (n := 59) ok hm
      have p := (cmpE_px okx ok _ _ _ h).x
      have lc : PE X (.ListComp elt [⟨tg, iter, ifs, 0⟩] scope vp) (rdX X.K C E a) := PE.mono (pe_lc L.calm L.nd (pi_x p) L.ok L.g L.q L.y L.s) fun σ H Q w => w
      have hst : starEach [.ListComp elt [⟨tg, iter, ifs, 0⟩] scope vp] X.env = (false, eval (.ListComp elt [⟨tg, iter, ifs, 0⟩] scope vp) X.env) :: starEach [] X.env := star_cons rfl
      exact PE.mono (pe_callTy (T := "tuple") bl_tuple g1 g2 (by decide +kernel) (pa_cons lc pa_nil hst) (by decide) (by decide) hst rfl) fun σ H Q w => w
    · cases h
  · cases h
theorem cmpS_px (okx : CokX T C E X) (rs : Rz X C E) (ok : Cok T sc fnT X) (okr : T.lf ≠ [] → ∃ k C g c tp, RefOk T X k C g c tp) (hp : PassesOwn (model X.prog X.w) X.A X.env X.xe) : ∀ (n : Nat) (st : Stmt) (m : MS), cmpS T sc n st = some m → PS X st (rdS X.K m) ∧ PS X st (rdXS X.K C E m)
  | 0, st, m, h => by unfold cmpS at h; cases h
  | n + 1, st, m, h => by
    have ih := cmpS_px okx rs ok okr hp n
    have ihO : ∀ e m, cmpS T sc n e = some m → PS X e (rdS X.K m) := fun e m z => (ih e m z).1
    refine ⟨cmpS_ok ok okr hp (n + 1) st m h, ?_⟩
    have no : (∀ env st x s', m env st ≠ .exn x s') → PS X st (rdXS X.K C E m) := fun z => xxs_no z
    unfold cmpS at h
    split at h
    · obtain ⟨A, hA, rfl⟩ := Option.map_eq_some_iff.mp h
      have r := cmpR_px okx ok okr _ _ _ hA
      unfold retOf
      split
      · rename_i a ha
        exact xxs_pre (xxs_ret (pre_px okx ok ha)) (fun env st x st' q => by unfold sRet; rw [q]; rfl) (xxs_ret r.x)
      · exact xxs_ret r.x
    · cases h; exact no fun _ _ _ _ q => by cases q
    · cases h; exact no fun _ _ _ _ q => by cases q
    · split at h
      · rename_i hg
        obtain ⟨A, hA, rfl⟩ := Option.map_eq_some_iff.mp h
        have p := cmpE_px okx ok _ _ _ hA
        exact rs _ _ _ _ _ (glB_ok hg ok.hsc) (cmp_noStar hA) p.o p.x
      · cases h
    · cases h; exact no fun _ _ _ _ q => by cases q
    · split at h
      · cases h
      · rename_i hc
        obtain ⟨A, hA, rfl⟩ := Option.map_eq_some_iff.mp h
        exact xxs_exp (cmpE_px okx ok _ _ _ hA).x (comp_no (Bool.eq_false_iff.mpr hc) _ _ _)
    · split at h
      · rename_i hC hA hB
        cases h
        have pc := cmpR_px okx ok okr _ _ _ hC
        exact xxs_if pc.ot (cmpSs_ok ihO _ _ hA) (cmpSs_ok ihO _ _ hB) pc.xt (cmpSs_px ih _ _ hA) (cmpSs_px ih _ _ hB)
      · cases h
    · split at h
      · cases h
        exact no fun _ _ _ _ q => noX_no q
      · cases h
    · split at h
      · rename_i hs
        split at h
        · rename_i hpl
          split at h
          · rename_i hA ht hB
            cases h
            split
            · exact xxs_forXB (xxs_for hp ok.calm (cmpE_px okx ok _ _ _ hA).x (cmpTG_ok 8 _ _ _ ok _ _ ht) (cmpSs_ok ihO _ _ hB) (notSet_ok hs _)) (xxs_forB hp ok.calm (cmpI_ok ok (fun e m z => cmpE_pe ok z) (fun z => z) (plainIt_ok (T := T) (sc := sc) (tup := isTup _) hpl hs hA)) (cmpTG_ok 8 _ _ _ ok _ _ ht) (cmpSs_ok ihO _ _ hB) (cmpSs_px ih _ _ hB) (notSet_ok hs _))
            · exact xxs_for hp ok.calm (cmpE_px okx ok _ _ _ hA).x (cmpTG_ok 8 _ _ _ ok _ _ ht) (cmpSs_ok ihO _ _ hB) (notSet_ok hs _)
          · cases h
        · split at h
          · rename_i hi ht hB
            cases h
            split
            · exact xxs_forB hp ok.calm (cmpI_ok ok (fun e m z => cmpE_pe ok z) (fun z => z) hi) (cmpTG_ok 8 _ _ _ ok _ _ ht) (cmpSs_ok ihO _ _ hB) (cmpSs_px ih _ _ hB) (notSet_ok hs _)
            · exact xxs_no fun _ _ _ _ q => noX_no q
          · cases h
      · cases h
    · rename_i x p v pos
      split at h
      · rename_i i hi
        split at h
        · rename_i hl
          split at h
          · rename_i m' hm
            cases h
            refine no fun e1 e2 e3 e4 q => ?_
            rcases bind_exn q with q | ⟨_, _, _, q⟩
            · exact dcOf_noE hm _ _ _ _ q
            · cases q
          · split at h
            · rename_i hm
              obtain ⟨A, hA, rfl⟩ := Option.map_eq_some_iff.mp h
              exact no fun _ _ _ _ q => noX_no q
            · obtain ⟨A, hA, rfl⟩ := Option.map_eq_some_iff.mp h
              cases hv : isNewL v with
              | true =>
                refine no fun e1 e2 e3 e4 q => ?_
                rcases bind_exn q with q | ⟨_, _, _, q⟩
                · exact new_noE hv hA _ _ _ _ q
                · cases q
              | false => exact xxs_set (asg_plain ok hi hl (cmp_noC hA hv) (cmpE_px okx ok _ _ _ hA).x)
        · cases h
      · cases h
    · split at h
      · split at h
        · obtain ⟨A, hA, rfl⟩ := Option.map_eq_some_iff.mp h
          exact no fun _ _ _ _ q => noX_no q
        · cases h
      · split at h
        · split at h
          · cases h
            exact no fun _ _ _ _ q => noX_no q
          · cases h
        · cases h
    · split at h
      · cases h
      · split at h
        · cases h
          exact no fun _ _ _ _ q => noX_no q
        · cases h
    · split at h
      · cases h
      · split at h
        · cases h
          exact no fun _ _ _ _ q => noX_no q
        · cases h
    · cases h
end
/-! ### a def that raises -/
section
variable {K : PySem.W.Frag} {ι ι' : List Addr} {P P' : AP'} {H H' : Hp} {st st' : Sto} {C : Addr} {E : XK}
theorem Tl.less {x : Xn} {cls : Value} {d : Option Addr} (t : Tl K H P' C x cls d) (h : ∀ a, P a → P' a) : Tl K H P C x cls d := by
  obtain ⟨h1, a, v, h2, h3, h4⟩ := t
  exact ⟨h1, a, v, h2, h3, h4.toP (fun y hy => .inl (h y hy)) _ _⟩
theorem fnx_read {np nn : Nat} {N : List Str} {m : MS} {vs : List V} {Q : VK} {D : Ends} (hN : N.length = nn) (h : spX K C (fnS np nn m) vs H Q E) : rdXS K C E m D (L2.start N vs) H := by
  obtain ⟨ι, P, xs, st, r, hv, x, st', e, w⟩ := h
  unfold fnS at e
  split at e
  · rename_i hl
    have hl := beq_iff_eq.mp hl
    have R := start_re (N := N) (nn := nn) hv ((paired_len hv).trans hl) hN
    split at e
    · cases e
    · rename_i v1 s1 hm
      unfold freeze at e
      split at e
      · cases e
      · split at e
        · cases e
        · split at e <;> cases e
      · cases e
      · cases e
      · cases e
    · rename_i y s1 hm
      cases e
      refine ⟨ι, P, _, st, ⟨R, r⟩, x, s1, hm, fun cls d H' ι' P' g r2 t => ?_⟩
      exact w cls d H' g.x (by rw [← r.len]; exact r2.pop g.pre g.inc r.pin) (t.less g.inc)
    · cases e
  · cases e
theorem fnx_len {np nn : Nat} {m : MS} {vs : List V} {Q : VK} (h : spX K C (fnS np nn m) vs H Q E) : vs.length = np := by
  obtain ⟨ι, P, xs, st, r, hv, x, st', e, w⟩ := h
  unfold fnS at e
  split at e
  · rename_i hl
    exact (paired_len hv).trans (beq_iff_eq.mp hl)
  · cases e
end
theorem fnx_ok {Pg : Program} {w : World} {K : PySem.W.Frag} {mg : Str → Option Value} {base : Heap} {qn qual : Str} {params : Arguments} {body : List Stmt} {scope : Scope} {f : Addr} {fd : FuncData} {N ps : List Str} {k np nn : Nat} {m : MS} {C : Addr}
    (F : FunD K qn qual params body scope [] [] f fd) (S : FnScope N ps scope) (hN : N.length = nn) (hp : ps.length = np)
    (h : ∀ (cdv : Value) (A : Around) (outer : List PySem.Env) (s : Shared) (H : Hp) (E : XK), Room k (A.deeper (envOfC qual scope s.heap.objs.size f cdv)) → PSs (cxOf (L2.CX Pg w) Pg w K mg base N qual scope f cdv A outer s H E) body (rdXS K C E m)) :
    FnOk Pg w K mg base (L2.CX Pg w) (k + 1) f fd ps (spX K C (fnS np nn m)) :=
  F.ok S (fun vs H Q E z => (fnx_len z).trans hp.symm) fun cdv A outer s H vs Q E hr z => ⟨_, h cdv A outer s H E hr, fnx_read hN z⟩
/-- the name x stands for a def that raises as F says -/
def GoodX (Pg : Program) (w : World) (K : PySem.W.Frag) (mg : Str → Option Value) (base : Heap) (C : Addr) (x : Str) (F : FnS) (k : Nat) : Prop :=
  ∃ (g : Addr) (fd : FuncData) (ps : List Str), FnOk Pg w K mg base (L2.CX Pg w) k g fd ps (spX K C F) ∧ mg x = some (.ref g) ∧ PySem.W.keepIn K (.ref g) = true ∧ Binds K fd ps []
def NoEF (F : FnS) : Prop := ∀ xs s y s', F xs s ≠ .exn y s'
inductive AllX (Pg : Program) (w : World) (K : PySem.W.Frag) (mg : Str → Option Value) (base : Heap) (C : Addr) (k : Nat) : FT → Prop
  | nil : AllX Pg w K mg base C k []
  | no {x : Str} {F : FnS} {r : FT} : NoEF F → AllX Pg w K mg base C k r → AllX Pg w K mg base C k ((x, F) :: r)
  | cons {x : Str} {F : FnS} {r : FT} : GoodX Pg w K mg base C x F k → AllX Pg w K mg base C k r → AllX Pg w K mg base C k ((x, F) :: r)
section
variable {Pg : Program} {w : World} {K : PySem.W.Frag} {mg : Str → Option Value} {base : Heap} {C : Addr}
theorem GoodX.mono {x : Str} {F : FnS} {j k : Nat} (h : GoodX Pg w K mg base C x F j) (l : Nat.ble j k = true) : GoodX Pg w K mg base C x F k :=
  let ⟨g, fd, ps, a, b, c, d⟩ := h
  ⟨g, fd, ps, a.mono (Nat.le_of_ble_eq_true l), b, c, d⟩
theorem GoodX.imp {x : Str} {F P : FnS} {k : Nat} (h : GoodX Pg w K mg base C x F k) (l : ∀ vs s y s', P vs s = .exn y s' → F vs s = .exn y s') : GoodX Pg w K mg base C x P k :=
  let ⟨g, fd, ps, a, b, c, d⟩ := h
  have q : ∀ vs H Q E, spX K C P vs H Q E → spX K C F vs H Q E := fun vs H Q E z => by
    unfold spX at z ⊢
    obtain ⟨ι, P', xs, st, r, hv, y, st', e, w⟩ := z
    exact ⟨ι, P', xs, st, r, hv, y, st', l _ _ _ _ e, w⟩
  ⟨g, fd, ps, ⟨fun vs H Q E z => a.len vs H Q E (q _ _ _ _ z), fun A outer s H args us vs Q E hr he hb hv hs => a.run A outer s H args us vs Q E hr he hb hv (q _ _ _ _ hs)⟩, b, c, d⟩
theorem AllX.get {k : Nat} {x : Str} {F : FnS} : ∀ {t : FT}, AllX Pg w K mg base C k t → t.lookup x = some F → NoEF F ∨ GoodX Pg w K mg base C x F k
  | _, .nil, e => by cases e
  | (y, G) :: r, .no h t, e => by
    have e2 : (match x == y with | true => some G | false => r.lookup x) = some F := e
    cases q : (x == y) with
    | true =>
      rw [q] at e2
      have e3 : G = F := Option.some.inj e2
      rw [← e3]
      exact .inl h
    | false =>
      rw [q] at e2
      exact t.get e2
  | (y, G) :: r, .cons h t, e => by
    have e2 : (match x == y with | true => some G | false => r.lookup x) = some F := e
    cases q : (x == y) with
    | true =>
      rw [q] at e2
      have e3 : G = F := Option.some.inj e2
      rw [beq_iff_eq.mp q, ← e3]
      exact .inr h
    | false =>
      rw [q] at e2
      exact t.get e2
end
end Ev
/-! EvTab: the law's call where tables of code objects stand and no repr is under way. -/
namespace Ev
open PySem PySem.Spec PyProof.Rows L2 LamX
/-- an empty table -/
abbrev oT : Obj := { cls := .none, data := .fields #[] }
theorem law_goT {Pg : Program} {w : World} {K : PySem.W.Frag} {mg mb : Str → Option Value} {CX : CXT} {k : Nat} {fa a : Addr} {ts : List (Addr × Addr)} {fd : FuncData} {x : Str} {sp : Sp} {t₁ : Shared} {us : List Value} {ns : List Int}
    (kin : K.In t₁.heap) (gns : t₁.heap.Ns mainGlobals mg) (bns : t₁.heap.Ns builtinsNs mb) (bbs : ∀ x : Str, x ≠ "__name__" → mb x = bootBuiltins x) (lim : t₁.heap.NoLimit) (ng : t₁.gens = #[])
    (eT : ∀ p ∈ ts, t₁.heap.get? p.2 = some oT) (kT : ∀ p ∈ ts, K.lookup p.2 = none) (cT : ∀ p ∈ ts, PySem.W.CodeHd t₁.heap p.1 p.2)
    (bmn : ∃ (bm : Addr) (ob : Obj), mg "__builtins__" = some (.ref bm) ∧ bm ≠ builtinsNs ∧ t₁.heap.get? bm = some ob ∧ ob.cls = .type "module" ∧ ob.dict = some builtinsNs ∧ ob.data = .plain)
    (ea : t₁.heap.get? a = some { cls := .type "list", data := .seq us.toArray }) (ia : IntsAre us ns) (le : ns.length ≤ sizeLine) (rm : Room k callerA)
    (F : ∀ base : Heap, K.In base → base.Ns mainGlobals mg → (∀ p ∈ ts, TabB base mg p.1 p.2) → FnG true Pg w K mg base CX k fa fd [x] sp) (bd : ∀ (s : Shared) (u : Value), BindsTo s fd ⟨[u], []⟩ [(x, u)])
    (good : ∀ H : Hp, (∀ p ∈ ts, H p.2 = some (.tbl #[])) → SqL K H a (ns.map V.int) → (∀ b, b ∉ ts.map (·.2) → H b = none ∨ ∃ o xs, H b = some (.frz o (.lst xs))) → sp [.ref a] H (fun v _ => v = .bl true) fun _ _ _ => False)
    (nCX : ∀ H e s', CX [] H t₁ (fun _ _ _ => False) e s' → False) :
    codeAny (model Pg w) callerA (.call (.ref fa) ⟨[.ref a], []⟩) (fun r s' => r = .ok (.ret (.bool true)) ∧ OldK t₁.heap s'.heap ∧ s'.os = t₁.os ∧ AllBare s'.gens) t₁ := by
  have rvs := vals_ints ia
  have lens := ia.length
  have tab : ∀ b : Addr, b ∈ ts.map (·.2) → t₁.heap.get? b = some oT := fun b hb => by
    obtain ⟨p, hp, e⟩ := List.mem_map.mp hb
    exact e ▸ eT p hp
  have na : a ∉ ts.map (·.2) := fun z => by
    have y := tab a z
    rw [ea] at y
    exact nomatch (show Data.seq us.toArray _ = Data.fields #[] from congrArg Obj.data (Option.some.inj y))
  have inT : ∀ p ∈ ts, p.2 ∈ ts.map (·.2) := fun p hp => List.mem_map_of_mem hp
  have main : ∀ H : Hp, (∀ p ∈ ts, H p.2 = some (.tbl #[])) → (∀ b, b ∉ ts.map (·.2) → H b = none ∨ ∃ o xs, H b = some (.frz o (.lst xs))) → SqL K H a (ns.map V.int) → HOk Pg w H t₁.heap → (∀ b, H b ≠ none → b = a ∨ b ∈ ts.map (·.2)) → (H a ≠ none → K.lookup a = none) →
      codeAny (model Pg w) callerA (.call (.ref fa) ⟨[.ref a], []⟩) (fun r s' => r = .ok (.ret (.bool true)) ∧ OldK t₁.heap s'.heap ∧ s'.os = t₁.os ∧ AllBare s'.gens) t₁ := by
    intro H tH only sq ok dom ka
    have keepB : ∀ {b : Addr} {o : Obj}, t₁.heap.get? b = some o → H b = none → (hidT t₁.heap H).get? b = some o := fun e n => hidT_get e n
    have freeB : ∀ {b : Addr} {o : Obj}, t₁.heap.get? b = some o → (∀ vs n, o.data ≠ .seq vs n) → o.data ≠ .fields #[] → H b = none := fun {b o} e n1 n2 => by
      cases y : H b with
      | none => rfl
      | some h0 =>
        rcases dom b (by rw [y]; simp) with z | z
        · rw [z, ea] at e
          cases e
          exact (n1 _ _ rfl).elim
        · rw [tab b z] at e
          cases e
          exact (n2 rfl).elim
    have freeD : ∀ {b : Addr} {o : Obj} {es : Array DictEntry} {ep : Nat}, t₁.heap.get? b = some o → o.data = .dict es ep → H b = none := fun {b o es ep} e d => by
      refine freeB e (fun vs n z => ?_) fun z => ?_
      · rw [d] at z; cases z
      · rw [d] at z; cases z
    have nsB : ∀ {b : Addr} {m : Str → Option Value}, t₁.heap.Ns b m → (hidT t₁.heap H).Ns b m := fun {b m} ⟨o, es, ep, e, d, r⟩ => ⟨o, es, ep, keepB e (freeD e d), d, r⟩
    have kinB : K.In (hidT t₁.heap H) := fun b o e => keepB (kin b o e) (by
      cases y : H b with
      | none => rfl
      | some h0 =>
        rcases dom b (by rw [y]; simp) with z | z
        · rw [z] at e y
          rw [ka (by rw [y]; simp)] at e
          cases e
        · obtain ⟨p, hp, ep⟩ := List.mem_map.mp z
          rw [← ep, kT p hp] at e
          cases e)
    have md : L2.Mod K mg (hidT t₁.heap H) := ⟨kinB, nsB gns, ⟨mb, nsB bns, bbs⟩, let ⟨mc, h1, h2⟩ := lim; ⟨mc, nsB h1, h2⟩⟩
    have tbs : ∀ p ∈ ts, TabB (hidT t₁.heap H) mg p.1 p.2 := fun p hp => by
      have eTp := eT p hp
      refine ⟨?_, ?_, fun z => ?_⟩
      · obtain ⟨o, vs, file, tf, flags, tg, inF, text, tt, e1, r1, r2, r3, r4, r5, r6, r7, r8, ne⟩ := cT p hp
        refine ⟨o, vs, file, tf, flags, tg, inF, text, tt, keepB e1 (freeB e1 (fun vs n z => ?_) fun z => ?_), r1, r2, r3, r4, r5, r6, r7, r8, ne⟩
        · rw [r2] at z; cases z
        · rw [r2] at z
          cases z
          simp at r3
      · obtain ⟨bm, ob, g1, g2, g3, g4, g5, g6⟩ := bmn
        have n1 : bm ≠ mainGlobals := fun y => by
          obtain ⟨o, es, ep, e, d, _⟩ := gns
          rw [y, e] at g3
          cases g3
          rw [d] at g6
          cases g6
        have n2 : bm ≠ p.2 := fun y => by
          rw [y, eTp] at g3
          cases g3
          cases g6
        refine ⟨bm, ob, g1, g2, n1, n2, keepB g3 (freeB g3 (fun vs n z => ?_) fun z => ?_), g4, g5, g6⟩
        · rw [g6] at z; cases z
        · rw [g6] at z; cases z
      · obtain ⟨o, es, ep, e, d, _⟩ := gns
        rw [z, eTp] at e
        cases e
        cases d
    have e0 : Env0 Pg w K mg (hidT t₁.heap H) callerA [] t₁ H := ⟨rfl, md, fun b o e => of_hidT e, Nat.le_of_eq (hidT_size _ _), trivial, fun b hb => absurd (show b ∈ ([] : List Addr) from hb) (by simp), ok, .of_eq ng⟩
    refine codeAny_mono ((F _ kinB (nsB gns) tbs).run callerA [] t₁ H ⟨[.ref a], []⟩ [.ref a] [.ref a] _ _ rm (fun _ => rfl) e0 (bd t₁ (.ref a)) (.cons rfl .nil) (good H tH sq only)) fun r s' h => ?_
    cases r with
    | error e => exact (nCX H e s' h).elim
    | ok fl => cases fl with
      | next => exact False.elim h
      | brk => exact False.elim h
      | cont => exact False.elim h
      | ret u =>
        obtain ⟨v, G, os, bare, un, okG, rv, ev⟩ := h
        have ev : v = .bl true := ev
        subst ev
        obtain rfl : u = Value.bool true := rv
        have old : ∀ b o, b ∉ ts.map (·.2) → t₁.heap.get? b = some o → s'.heap.get? b = some o := fun b o nb e => by
          rcases only b nb with z | ⟨ob, xs, z⟩
          · exact un.keep b o e z (by intro y; exact absurd (show b ∈ ([] : List Addr) from y) (by simp)) (by simp)
          · obtain ⟨e1, _⟩ := ok b _ z
            obtain ⟨e2, _⟩ := okG b _ (un.frzs b ob _ z)
            rw [e] at e1
            cases e1
            exact e2
        have grew : ∀ p ∈ ts, ∃ more : Array Value, s'.heap.get? p.2 = some { cls := .none, data := .fields more } := fun p hp => by
          obtain ⟨more, z⟩ := un.tbls p.2 #[] (tH p hp)
          exact ⟨_, okG p.2 _ z⟩
        refine ⟨rfl, ⟨fun b o e => ?_, fun b o e => ?_⟩, os, bare⟩
        · by_cases hb : b ∈ ts.map (·.2)
          · obtain ⟨p, hp, ep⟩ := List.mem_map.mp hb
            obtain ⟨more, hm⟩ := grew p hp
            subst ep
            rw [eT p hp] at e
            cases e
            exact .inr (.inl ⟨((cT p hp).tab (eT p hp)).isCodeTable, rfl, #[], more, rfl, by rw [Array.empty_append]; exact hm⟩)
          · exact .inl (old b o hb e)
        · by_cases hb : b ∈ ts.map (·.2)
          · obtain ⟨p, hp, ep⟩ := List.mem_map.mp hb
            obtain ⟨more, hm⟩ := grew p hp
            subst ep
            exact ⟨_, hm⟩
          · exact ⟨o, old b o hb e⟩
  cases hk : K.lookup a with
  | some o =>
    have e := kin a o hk
    rw [ea] at e
    cases e
    have at_ : ∀ b, b ∈ ts.map (·.2) → (if b ∈ ts.map (·.2) then some (HO.tbl #[]) else none) = some (HO.tbl #[]) := fun b h => if_pos h
    have no_ : ∀ b, b ∉ ts.map (·.2) → (if b ∈ ts.map (·.2) then some (HO.tbl #[]) else none) = none := fun b h => if_neg h
    refine main (fun b => if b ∈ ts.map (·.2) then some (.tbl #[]) else none) (fun p hp => at_ _ (inT p hp)) (fun b nb => .inl (no_ b nb)) (.inr ⟨_, us.toArray, _, hk, rfl, rfl, rfl, by rw [List.size_toArray, lens]; exact le, by simpa using rvs⟩) (fun b h0 z => ?_) (fun b z => ?_) fun z => absurd (no_ a na) z
    · by_cases hb : b ∈ ts.map (·.2)
      · have y := (at_ b hb).symm.trans z
        cases y
        exact tab b hb
      · exact nomatch ((no_ b hb).symm.trans z)
    · by_cases hb : b ∈ ts.map (·.2)
      · exact .inr hb
      · exact absurd (no_ b hb) z
  | none =>
    have nap : ∀ p ∈ ts, ¬ p.2 = a := fun p hp z => na (z ▸ inT p hp)
    refine main (fun b => if b = a then some (.frz { cls := .type "list", data := .seq us.toArray } (.lst (ns.map V.int))) else if b ∈ ts.map (·.2) then some (.tbl #[]) else none) (fun p hp => (if_neg (nap p hp)).trans (if_pos (inT p hp))) (fun b nb => ?_)
      (.inl (.inr ⟨{ cls := .type "list", data := .seq us.toArray }, if_pos rfl⟩)) (fun b h0 z => ?_) (fun b z => ?_) fun _ => hk
    · by_cases hb : b = a
      · exact .inr ⟨_, _, if_pos hb⟩
      · exact .inl ((if_neg hb).trans (if_neg nb))
    · by_cases hb : b = a
      · have y := (if_pos hb).symm.trans z
        cases y
        subst hb
        exact ⟨ea, by rw [List.length_map]; exact le, us, _, rvs, ea⟩
      · have z1 := (if_neg hb).symm.trans z
        by_cases hb2 : b ∈ ts.map (·.2)
        · have y := (if_pos hb2).symm.trans z1
          cases y
          exact tab b hb2
        · exact nomatch ((if_neg hb2).symm.trans z1)
    · by_cases hb : b = a
      · exact .inl hb
      · by_cases hb2 : b ∈ ts.map (·.2)
        · exact .inr hb2
        · exact absurd ((if_neg hb).trans (if_neg hb2)) z
theorem walk_goT {l : PySem.W.OpenLaw} {n k : Nat} {q : Program} {loose : List Str} {XP : (Str → Option Value) → Heap → Prop} {YP : World → Heap → Prop} {d : DefRec} {CX : World → CXT} {x : Str}
    (hn : l.most = some n) (hn2 : n ≤ sizeLine) (hdf : d.params.defaults = []) (rm : Room k callerA)
    (F : ∀ (w : World) (mg : Str → Option Value) (fa : Addr) (h : Heap), YP w h → h.Ns mainGlobals mg → mg d.name = some (.ref fa) → ∃ (K : PySem.W.Frag) (fd : FuncData) (ts : List (Addr × Addr)) (sp : Sp), K.In h ∧ (∀ p ∈ ts, h.get? p.2 = some oT) ∧ (∀ p ∈ ts, K.lookup p.2 = none) ∧ (∀ p ∈ ts, PySem.W.CodeHd h p.1 p.2) ∧
      (∀ (s : Shared) (u : Value), BindsTo s fd ⟨[u], []⟩ [(x, u)]) ∧
      (∀ (H : Hp) (a : Addr) (ns : List Int), ns.length ≤ n → (∀ p ∈ ts, H p.2 = some (.tbl #[])) → SqL K H a (ns.map V.int) → (∀ b, b ∉ ts.map (·.2) → H b = none ∨ ∃ o xs, H b = some (.frz o (.lst xs))) → sp [.ref a] H (fun v _ => v = .bl true) fun _ _ _ => False) ∧
      ∀ base : Heap, K.In base → base.Ns mainGlobals mg → (∀ p ∈ ts, TabB base mg p.1 p.2) → FnG true l.prog w K mg base (CX w) k fa fd [x] sp)
    (nCX : ∀ (w : World) (H : Hp) (s : Shared) (e : Value) (s' : Shared), CX w [] H s (fun _ _ _ => False) e s' → False) :
    PySem.W.WalkO q loose XP YP l.row.toRowW d [] (fun f vs => PySem.call f vs) := by
  refine Att.attach_callB hn hdf fun w s₀ s₁ mg mb fa o pm cd doc a vs ns G Y ho hd hcd hmg hobj hints hlen _ hgens => ?_
  obtain ⟨K, fd, ts, sp, kin, eT, kT, cT, bd, good, FF⟩ := F w mg fa _ Y G.T.g hmg
  exact law_goT kin G.T.g G.T.b G.T.builtins G.T.nolimit hgens eT kT cT G.T.bmain hobj hints (Nat.le_trans hlen hn2) rm FF bd (fun H tH sq only => good H a ns hlen tH sq only) fun H e s' => nCX w H s₁ e s'
end Ev
/-! EvBad: BadThing is made. -/
namespace Ev
open PySem PySem.W PySem.Calls PyProof.Rows PySem.HandSPX

def bA (p1 p2 : Pos) : Arguments := { posonlyargs := [], args := [{ arg := "self", annotation := none, pos := p1 }, { arg := "thing", annotation := none, pos := p2 }], vararg := none, kwonlyargs := [], kw_defaults := [], kwarg := none, defaults := [] }
def bB (msg : Str) (k : Nat) (q0 q1 q2 q3 q4 q5 q6 q7 q8 q9 : Pos) : List Stmt :=
  [.Expr (.Call (.Attribute (.Call (.Name "super" q0) [] [] q1) "__init__" q2) [.Constant (.str msg) k q3] [] q4) q5, .Assign [.Attribute (.Name "self" q6) "thing" q7] (.Name "thing" q8) q9]
def bS : Scope := { kind := .function, names := [(PySem.Str.ofString "self", .local), (PySem.Str.ofString "thing", .local), (PySem.Str.ofString "__class__", .free), (PySem.Str.ofString "super", .globalImplicit)], isGenerator := false, isCoroutine := false, more := [] }
/-- what the written part says of BadThing, at C, of its __init__, at fI -/
structure BadT (prog : Program) (K : Frag) (mg : Str → Option Value) (C fI cc cda : Addr) : Prop where
  gC : mg "BadThing" = some (.ref C)
  cls : ∃ nm q N bs bm sn sub ab col dd k0 k1 k2 k3 k5, K.lookup C = some (excClassObj nm q C N bs bm true sn sub ab col dd k0 k1 k2 k3 k5 "ValueError.__new__") ∧ refsVE bm = true
  sa : findIn K (.ref C) "__setattr__" = some (some (.builtin "object.__setattr__"))
  ga : findIn K (.ref C) "__getattribute__" = some (some (.builtin "BaseException.__getattribute__"))
  gg : findIn K (.ref C) "__getattr__" = some none
  noN : findIn K (.ref C) "thing" = some none
  iC : findIn K (.ref C) "__init__" = some (some (.ref fI))
  tC : typeIn K (.ref fI) = some (.type "function")
  kC : keepIn K (.ref C) = true
  exC : subIn K (.ref C) (.type "BaseException") = some true
  veC : subIn K (.ref C) (.type "ValueError") = some true
  tyC : typeIn K (.ref C) = some (.type "type")
  hdC : hasDictIn K C = true
  te : exmOne K (.ref C) (.ref C) = some true
  mC : mroIn K C (.ref C) = some true
  sup : ks_superIn K C C "__init__" = some (some (.builtin "ValueError.__init__"))
  tp : nsIn K cStatics "thirdparty.any" = some none
  cell : ∃ cl cld csl, K.lookup cc = some ⟨cl, cld, .cell (some (.ref C)), csl⟩
  code : ∃ (ccl : Value) (cdd : Option Addr) (vs : Array Value) (ccs : Array (Option Value)) (file : Str) (tf : Tok), K.lookup cda = some ⟨ccl, cdd, .fields vs, ccs⟩ ∧ vs[2]? = some (.str file tf) ∧ ((prog.main.file : Str) == file) = true
  gS : mg "super" = none
  top : (prog.main.scope.names.lookup ("super" : Str)).isSome = false
  fn : ∃ (oc : Value) (od : Option Addr) (doc pm : Value) (an : Option Addr) (ct : Value) (osl : Array (Option Value)) (p1 p2 : Pos) (msg : Str) (k : Nat) (q0 q1 q2 q3 q4 q5 q6 q7 q8 q9 : Pos), (q2.endLine == q4.line) = true ∧
    K.lookup fI = some ⟨oc, od, .func (ksFn "__init__" "BadThing.__init__" (bA p1 p2) (bB msg k q0 q1 q2 q3 q4 q5 q6 q7 q8 q9) bS .none .none doc pm an (.ref cda) ct cc), osl⟩ ∧ codeIn K (.ref cda) "BadThing.__init__" = true
theorem one_ok (v : Value) : [v].length ≤ sizeLine := by
  rw [sizeLine_eq]
  exact (by decide : 1 ≤ 16777216)
/-- what __init__ leaves of the fresh exception at x -/
structure InitB (h h' : Heap) (x C dx t1 : Addr) (v : Value) : Prop where
  keep : ∀ b o, b ≠ x → h.get? b = some o → h'.get? b = some o
  obj : h'.get? x = some { cls := .ref C, dict := some dx, data := .fields #[.ref t1, .none, .none, .none, .bool false, .none] }
  dbig : h.objs.size ≤ dx
  dne : dx ≠ x
  ns : h'.Ns1 dx (fun y => if y = "thing" then some v else none)
section
variable {prog : Program} {w : World} {M : Model} {A : Around} {E : Value → Shared → Prop} {R : Result → Shared → Prop} {s : Shared} {K : Frag} {mg mb : Str → Option Value} {C fI cc cda : Addr}
/-- the wrapper of ValueError.__init__ is called -/
theorem mw_call {u e t0 : Addr} {rest : List Value} {Q : Value → Shared → Prop} {nm q : Str} {N : Addr} {bs bm : List Value} {hd : Bool} {sn : List Str} {sub : List Value} {ab : Bool} {col : Option Bool} {dd : Option Addr} {k0 k1 k2 k3 k5 : Option Value}
    (hC : s.heap.get? C = some (excClassObj nm q C N bs bm hd sn sub ab col dd k0 k1 k2 k3 k5 "ValueError.__new__")) (he : s.heap.get? e = some (excO C t0)) (hu : s.heap.get? u = some (kxs_mw "ValueError.__init__" e)) (hz : rest.length ≤ sizeLine)
    (hq : ∀ h' t1, (∀ b o, b ≠ e → s.heap.get? b = some o → h'.get? b = some o) → h'.get? e = some (excO C t1) → Q .none { s with heap := h' }) :
    wpAny (model prog w) A (call (.ref u) rest) Q E s := by
  obtain ⟨hp, g, d, tk, os⟩ := s
  refine wpAny_call (codeAny_of_tree ?_)
  show wpAny _ A.in1 (callAny (.ref u) ⟨rest, []⟩) _ _ _
  unfold callAny
  refine wpAny_bind (wpAny_load hu ?_)
  have k1 : (Value.type "method-wrapper" == Value.type "method" || Value.type "method-wrapper" == Value.type "builtin_function_or_method" || Value.type "method-wrapper" == Value.type "method-wrapper") = true := by decide
  simp only [kxs_mw, k1, if_true]
  refine KFB.if_so (by decide) (wpAny_bind (check_bound_init F.excBase_ValueError.toExcCallFacts hC he rfl (wpAny_bind (wpAny_pure (wpAny_pure ⟨plainId_quiet F.excBase_ValueError.init.plain _, codeAny_builtin F.excBase_ValueError.initEntry ?_⟩)))))
  exact exc_init_tree (cls := .ref C) (t0 := t0) (dv := none) (c2 := .none) (c3 := .none) (b4 := .bool false) he hz fun h' k' e' _ => hq h' _ k' e'
theorem bad_init (T : BadT prog K mg C fI cc cda) {x t0 : Addr} {v : Value} (X : K.In s.heap) (hlim : s.heap.NoLimit) (hg : s.heap.Ns mainGlobals mg) (hb : s.heap.Ns builtinsNs mb) (hbb : ∀ x : Str, x ≠ "__name__" → mb x = bootBuiltins x)
    (hx : s.heap.get? x = some (excO C t0)) (hnx : K.lookup x = none) (hroom : A.depth < recursionLimit)
    (hq : ∀ h' tk dx t1, InitB s.heap h' x C dx t1 v → R (.ok (.ret .none)) { s with heap := h', toks := tk }) :
    codeAny (model prog w) A (.call (.ref fI) ⟨[.ref x, v], []⟩) R s := by
  obtain ⟨oc, od, doc, pm, an, ct, osl, p1, p2, msg, kk, q0, q1, q2, q3, q4, q5, q6, q7, q8, q9, hline, ho, hcd⟩ := T.fn
  obtain ⟨nm, q, N, bs, bm, sn, sub, ab, col, dd, k0, k1, k2, k3, k5, hC, hbm⟩ := T.cls
  obtain ⟨cl, cld, csl, hcell⟩ := T.cell
  obtain ⟨ccl, cdd, vs, ccs, file, tf, hcode, hvs, hfile⟩ := T.code
  have hcl : clsIn K C = some { name := nm, bases := bs, mro := .ref C :: bm, ns := N, qualname := q, hasDict := true, slotNames := sn, subclasses := sub, abstract := ab, collection := col, hasDel := false } := by unfold clsIn; rw [hC] <;> rfl
  refine ks_codeAny_call_defAt (fd := ksFn "__init__" "BadThing.__init__" (bA p1 p2) (bB msg kk q0 q1 q2 q3 q4 q5 q6 q7 q8 q9) bS .none .none doc pm an (.ref cda) ct cc) (body := bB msg kk q0 q1 q2 q3 q4 q5 q6 q7 q8 q9) (binds := [("self", .ref x), ("thing", v)])
    hroom (X _ _ ho) rfl hlim (codeRec_of X hcd) rfl (BindsTo.of_eq (by first | rfl | with_unfolding_all rfl)) (show ∀ y ∈ bS.names, y.2 ≠ .cell by decide) (fun y hy => by
      rcases List.mem_cons.mp hy with rfl | hy
      · show bS.names.lookup ("self" : Str) = _
        decide
      · rcases List.mem_cons.mp hy with rfl | hy
        · show bS.names.lookup ("thing" : Str) = _
          decide
        · cases hy) (fun h₁ hn k => ?_) rfl rfl rfl
  have hn' : h₁.Ns s.heap.objs.size (fun y => [(("self" : Str), Value.ref x), ("thing", v)].reverse.lookup y) := hn
  obtain ⟨hp, g, d, tk, os⟩ := s
  have X₁ : K.In h₁ := X.keeps k
  have hx₁ := k _ _ hx
  have hxL : x ≠ hp.objs.size := Nat.ne_of_lt (Heap.lt_size hx)
  have sz : hp.objs.size < h₁.objs.size := hn'.lt
  show _root_.PySem.wpAt (model prog w) (A.deeper (ksEnv "BadThing.__init__" bS hp.objs.size fI (.ref cda) cc)) (.func (bB msg kk q0 q1 q2 q3 q4 q5 q6 q7 q8 q9) (ksEnv "BadThing.__init__" bS hp.objs.size fI (.ref cda) cc)) _ _ _ _
  refine ks_wpAt_execs_cons (ks_wpAt_Expr_any ?_)
  rw [arm_eval_Call]
  refine _root_.PySem.wpAt_bind (_root_.PySem.wpAt_mono (Q := fun ov s₁ => ∃ h₂, ov = .ref h₁.objs.size ∧ s₁ = { heap := h₂, gens := g, drawn := d, toks := tk + 2, os := os } ∧ h₂.get? h₁.objs.size = some (ks_superObj C x C) ∧ ∀ y o, h₁.get? y = some o → h₂.get? y = some o) (E := fun _ _ => False) ?first (fun ov s₁ z => ?rest) fun _ _ z => z.elim)
  case rest =>
    obtain ⟨h₂, rfl, rfl, so2, k2⟩ := z
    refine _root_.PySem.wpAt_of_wpAny (wpAny_bind (wpAny_standAt ?_))
    have hform : methodCallForm (([.Constant (.str msg) kk q3] : List Expr).length + ([] : List Keyword).length) (backTo q4 (starEach [.Constant (.str msg) kk q3] (ksEnv "BadThing.__init__" bS hp.objs.size fI (.ref cda) cc))) (backToKw q4 (keywordEach [] (ksEnv "BadThing.__init__" bS hp.objs.size fI (.ref cda) cc))) = true := by rfl
    have hps : methodCallPos true (.Call (.Name "super" q0) [] [] q1) (ksEnv "BadThing.__init__" bS hp.objs.size fI (.ref cda) cc) q2 q4 = pure q4 := by
      unfold methodCallPos
      simp [hline]
    unfold methodCall
    show wpAny _ _ (holding [_] (calleeOf (methodCallForm _ _ _) _ _ _ _) >>= _) _ _ _
    have X₂ : K.In h₂ := X₁.keeps k2
    have hx₂ := k2 _ _ hx₁
    have I₂ : InstAt h₂ x (excO C t0) C none := ⟨hx₂, rfl, rfl, trivial⟩
    refine wpAny_bind (wpAny_holding ?_)
    show wpAny (model prog w) _ (getMethod (.ref h₁.objs.size) "__init__" (do return (← importBound _ _).getD true)) _ _ _
    have hal : alongIn K "__init__" (((Value.ref C :: bm).dropWhile (· != .ref C)).drop 1) = some (some (.builtin "ValueError.__init__")) := by
      have z := T.sup
      unfold ks_superIn at z
      rw [hcl] at z
      exact z
    refine kxs_getMethod kxs_ValueError so2 (looks_opaque X₂ T.tp) (l₀ := .ref C :: bm) ((W.looks_clsIn X₂ hcl).andThen .now) rfl X₂ hal (I₂.type.andThen (looks_subIn X₂ T.veC)) (ks_ne X₂ I₂ hcl) (by decide) ?_
    refine wpAny_bind (wpAny_of_eq (a := q4) hps ?_)
    have kk2 : ∀ b o, h₂.get? b = some o → (h₂.push (kxs_mw "ValueError.__init__" x)).get? b = some o := fun b o e => Heap.get?_push_of_some _ e
    have hu : (h₂.push (kxs_mw "ValueError.__init__" x)).get? h₂.objs.size = some (kxs_mw "ValueError.__init__" x) := Heap.get?_push_at rfl rfl
    show wpAny _ _ (callWith q4 (.ref h₂.objs.size) [] (backTo q4 (starEach [.Constant (.str msg) kk q3] (ksEnv "BadThing.__init__" bS hp.objs.size fI (.ref cda) cc))) []) _ _ _
    refine kxs_callWith (i := "ValueError.__init__") (x := x) rfl (evalArgs_plain ?_)
    show wpAny _ _ (spliced ((false, eval (.Constant (.str msg) kk q3) _) :: backTo q4 (starEach [] _))) _ _ _
    refine Calls.spliced_cons (wpAny_Constant_str (Calls.spliced_nil ⟨hu, ?_⟩))
    refine mw_call (X₂.keeps kk2 _ _ hC) (kk2 _ _ hx₂) hu (one_ok _) fun h₄ t1 k4 hx₄ => ?_
    have lt₁ : hp.objs.size < h₁.objs.size := sz
    have k14 : ∀ b o, b ≠ x → h₁.get? b = some o → h₄.get? b = some o := fun b o nb e => k4 b o nb (kk2 _ _ (k2 _ _ e))
    have X₄ : K.In h₄ := fun b o e => k14 b o (fun z => by rw [z, hnx] at e; cases e) (X₁ b o e)
    have hn₄ : h₄.Ns hp.objs.size (fun y => [(("self" : Str), Value.ref x), ("thing", v)].reverse.lookup y) := hn'.at fun o e => k14 _ o (Ne.symm hxL) e
    show _root_.PySem.wpAt _ _ _ (execs _ _) _ _ _
    refine ks_wpAt_execs_cons (ks_wpAt_Assign_Attr (_root_.PySem.wpAt_of_wpAny (wpAny_Name (wpAny_loadName_local rfl rfl hn₄ (v := v) (by first | rfl | kernel_rfl) ?_) (by decide))))
    refine wpAny_Name (wpAny_loadName_local rfl rfl hn₄ (v := .ref x) (by first | rfl | kernel_rfl) ?_) (by decide)
    refine set_plain X₄ (ox := excO C t1) (od := none) ⟨hx₄, rfl, rfl, trivial⟩ T.sa ?_
    refine exc_osa X₄ hx₄ hcl (show refsVE (.ref C :: bm) = true from hbm) rfl T.noN (fun h₅ tk₅ dx k5' dn dne hx₅ hn₅ => ?_)
    show _root_.PySem.wpAt _ _ _ (execs [] _) _ _ _
    have le4 : h₁.objs.size ≤ h₄.objs.size := by
      have e2 : h₂.objs.size < h₄.objs.size := Heap.lt_size (k4 _ _ (fun z => by
        have := Heap.lt_size hx₂
        rw [← z] at this
        exact Nat.lt_irrefl _ this) hu)
      have e3 : h₁.objs.size < h₂.objs.size := Heap.lt_size so2
      exact Nat.le_of_lt (Nat.lt_trans e3 e2)
    refine _root_.PySem.wpAt_of_wpAny (wpAny_execs_nil (hq h₅ tk₅ dx t1 ⟨fun b o nb e => k5' b o nb (k14 b o nb (k b o e)), hx₅, ?_, dne, hn₅⟩))
    have dn' : h₄.objs.size ≤ dx := dn
    show hp.objs.size ≤ dx
    exact Nat.le_trans (Nat.le_of_lt lt₁) (Nat.le_trans le4 dn')
  obtain ⟨oD, hD1, hD2⟩ : ∃ oD, h₁.get? C = some oD ∧ oD.data = .cls { name := nm, bases := bs, mro := .ref C :: bm, ns := N, qualname := q, hasDict := true, slotNames := sn, subclasses := sub, abstract := ab, collection := col, hasDel := false } := ⟨_, X₁ _ _ hC, rfl⟩
  refine ks_wpAt_super_base (env := ksEnv "BadThing.__init__" bS hp.objs.size fI (.ref cda) cc) rfl rfl (by decide) rfl (X₁ _ _ ho) rfl rfl rfl (X₁ _ _ hcode) rfl hvs hfile T.top ?_
  refine ks_loadName_global rfl rfl (loadGlobal_builtin (env := ksEnv "BadThing.__init__" bS hp.objs.size fI (.ref cda) cc) (hg.keeps k) T.gS (hb.keeps k) ((hbb "super" (by decide +kernel)).trans (by first | rfl | kernel_rfl)) ⟨rfl, ?_⟩)
  refine wpAny_loadName_free rfl rfl rfl ⟨_, X₁ _ _ hcell, rfl⟩ ?_
  refine wpAny_loadName_local rfl rfl hn' (v := .ref x) (by first | rfl | kernel_rfl) ?_
  refine ks_wpAny_isType_cls hD1 hD2 ⟨rfl, ?_⟩
  refine ks_wpAny_call_super hD1 hD2 hx₁ rfl (fun c e => by cases e) (looks_mroIn X₁ T.mC) (fun h₂ so2 k2 => ?_)
  exact ⟨h₂, rfl, rfl, so2, k2⟩
/-- BadThing(v) is made at e, its dict at d -/
structure MadeB (h h' : Heap) (e C d : Addr) (v : Value) : Prop where
  keep : ∀ b o, h.get? b = some o → h'.get? b = some o
  new : h.objs.size ≤ e
  obj : ∃ oe fs, h'.get? e = some oe ∧ oe.cls = .ref C ∧ oe.dict = some d ∧ oe.data = .fields fs ∧ fs[1]? = some .none
  dbig : h.objs.size ≤ d
  dne : d ≠ e
  ns : h'.Ns1 d (fun y => if y = "thing" then some v else none)
theorem bad_made (T : BadT prog K mg C fI cc cda) {v : Value} (X : K.In s.heap) (hlim : s.heap.NoLimit) (hg : s.heap.Ns mainGlobals mg) (hb : s.heap.Ns builtinsNs mb) (hbb : ∀ x : Str, x ≠ "__name__" → mb x = bootBuiltins x) (hroom : A.depth + 1 < recursionLimit)
    (hq : ∀ h' tk e d, MadeB s.heap h' e C d v → R (.ok (.ret (.ref e))) { s with heap := h', toks := tk }) : codeAny (model prog w) A (.call (.ref C) ⟨[v], []⟩) R s := by
  obtain ⟨nm, q, N, bs, bm, sn, sub, ab, col, dd, k0, k1, k2, k3, k5, hC, hbm⟩ := T.cls
  obtain ⟨hp, g, dr, tk, os⟩ := s
  have up : ∀ b o, hp.get? b = some o → ((hp.push (kdv_tup [v])).push (excO C hp.objs.size)).get? b = some o := fun b o e => Heap.get?_push_of_some _ (Heap.get?_push_of_some _ e)
  have at1 : ((hp.push (kdv_tup [v])).push (excO C hp.objs.size)).get? (hp.objs.size + 1) = some (excO C hp.objs.size) := by heap_get
  have free : K.lookup (hp.objs.size + 1) = none := by
    cases z : K.lookup (hp.objs.size + 1) with
    | none => rfl
    | some o =>
      have y := Heap.lt_size (X _ _ z)
      have y' : hp.objs.size + 1 < hp.objs.size := y
      omega
  refine call_own F.excBase_ValueError (fun Y => refsVE_contains Y bm hbm) (X _ _ hC) (looks_findIn X T.iC) (fun self => bind_fn X self T.tC) (one_ok v) ?_
  refine bad_init (s := ⟨(hp.push (kdv_tup [v])).push (excO C hp.objs.size), g, dr, tk, os⟩) T (X.keeps up) (hlim.keeps up) (hg.keeps up) (hb.keeps up) hbb at1 free ?_ fun h' tk' dx t1 D => ?_
  · show A.depth + 1 < recursionLimit
    exact hroom
  · have old : ∀ b o, hp.get? b = some o → h'.get? b = some o := fun b o e => D.keep b o (fun z => by
      have y := Heap.lt_size e
      rw [z] at y
      exact absurd (Nat.lt_of_succ_lt y) (Nat.lt_irrefl _)) (up b o e)
    have big : hp.objs.size + 1 + 1 ≤ dx := by
      have z := D.dbig
      simpa only [Heap.size_push] using z
    exact ⟨rfl, hq h' tk' (hp.objs.size + 1) dx ⟨old, Nat.le_succ _, ⟨_, _, D.obj, rfl, rfl, rfl, rfl⟩, Nat.le_trans (Nat.le_trans (Nat.le_succ _) (Nat.le_succ _)) big, D.dne, D.ns⟩⟩
end
end Ev
namespace Ev
open PySem PySem.Spec PyProof.Rows L2
theorem relO_bad {v : V} {u : Value} (r : RelV v u) (f : Str) : RelO (List.lookup f [(("thing" : Str), v)]) (if f = "thing" then some u else none) := by
  by_cases h : f = "thing"
  · subst h
    rw [if_pos rfl, show List.lookup ("thing" : Str) [(("thing" : Str), v)] = some v by simp [List.lookup]]
    exact r
  · have q : (f == ("thing" : Str)) = false := by simpa using h
    rw [if_neg h, show List.lookup f [(("thing" : Str), v)] = none by simp [List.lookup, q]]
    trivial
section
variable {X : Cx} {C fI cc cda : Addr}
/-- BadThing(e) -/
def tMkB (C : Addr) (ta : TA) : L2.St → Hp → XK → Prop := fun σ H Q => ta σ H fun vs H1 => ∃ v, vs = [v] ∧ ∀ d, H1 d = none → Q (.ref C) (some d) (upd H1 d (.xd [(("thing" : Str), v)]))
theorem pmk_bad {a : Expr} {ta : TA} {p pos : Pos} {k : Nat} (T : BadT X.prog X.K X.mg C fI cc cda) (hr : Room k X.A) (ha : PA X [a] ta) (hg : Gl X "BadThing") (hs : noStar a = true) : PMk X (.Call (.Name "BadThing" p) [a] [] pos) (tMkB C ta) := by
  intro pins s σ H Q I h
  have he : starEach (a :: []) X.env = (false, eval a X.env) :: starEach [] X.env := star_cons hs
  refine wpAny_Call_Name_kw (ld_glob I hg T.gC ?_)
  refine PySem.W.callWith_K (h₀ := X.base) I.ok.mod.kin T.kC (thn (ha.run pos pins s σ H _ I h) fun us s1 hh => ?_) he rfl
  obtain ⟨vs, H1, I1, r1, v, ev, q1⟩ := hh
  subst ev
  refine ⟨I1.kIn, ?_⟩
  cases r1 with
  | cons rv rn =>
    rename_i u us'
    cases rn
    show wpAny _ _ (call (.ref C) [u]) _ _ _
    have hlim := I1.nolimit
    obtain ⟨mb, hb, hbb⟩ := I1.mod.blt
    have hg1 : s1.heap.Ns mainGlobals X.mg := I1.mod.glob.keeps I1.bk
    have hb1 : s1.heap.Ns builtinsNs mb := hb.keeps I1.bk
    obtain ⟨hp, g, dr, tk, os⟩ := s1
    refine wpAny_call (bad_made T I1.kIn hlim hg1 hb1 hbb (by have := hr.dp; omega) fun h' tk' e d M => ?_)
    show MkP X pins σ Q (.ref e) ⟨h', g, dr, tk', os⟩
    obtain ⟨oe, fv, hoe, hc, hd, hdat, h1⟩ := M.obj
    have hns := M.ns
    obtain ⟨G, g1, g2⟩ := restrict h' fun b => decide (b ≠ e)
    have gk : ∀ b, b ≠ e → G.get? b = h'.get? b := fun b z => g1 b (decide_eq_true z)
    have ge : G.get? e = none := g2 e (by simp)
    have old : ∀ b o, hp.get? b = some o → G.get? b = some o := fun b o z => (gk b (Nat.ne_of_lt (Nat.lt_of_lt_of_le (Heap.lt_size z) M.new))).trans (M.keep b o z)
    have ob : ObjOk X.prog X.w (upd H1 d (.xd [(("thing" : Str), v)])) G d (.xd [(("thing" : Str), v)]) :=
      ⟨_, hns.at (fun o z => (gk d M.dne).trans z), fun f => relO_bad rv f⟩
    have J : Inv X pins σ (upd H1 d (.xd [(("thing" : Str), v)])) ⟨G, g, dr, tk', os⟩ := I1.laid (t' := tk') old M.dbig ob
    refine ⟨e, oe, fv, ⟨G, g, dr, tk', os⟩, _, .ref C, some d, rfl, J, fun b o z => ?_, ge, hoe, ⟨hc, hd⟩, hdat, h1, ?_, rfl, I1.bare, raises_own T.exC T.tyC, q1 d (I1.hok.fresh M.dbig)⟩
    · by_cases y : b = e
      · have z' : G.get? b = some o := z
        rw [y, ge] at z'
        cases z'
      · exact (gk b y).symm.trans z
    · rw [upd_ne (Ne.symm M.dne)]
      exact I1.hok.fresh M.new
/-- raise BadThing(e) -/
theorem rz_of {E : XK} {k : Nat} (T : BadT X.prog X.K X.mg C fI cc cda) (hc : X.calm = true) (hr : Room k X.A) (tk : Takes X fun cls d _ H => E cls d H) : Rz X C E := by
  intro a ma p pos pos2 hg hs ha xa
  have p1 : PA X [a] (rdA X.K (aCons ma aNil)) := xa_cons ha xa_nil hs
  have p2 : PA X [a] (rdXA X.K C E (aCons ma aNil)) := xxa_cons ha xa_nil xa xxa_nil hs
  refine PS.or2 (ps_raise hc tk (pmk_bad T hr p1 hg hs)) (ps_raise hc tk (pmk_bad T hr p2 hg hs)) fun D σ H ⟨ι, P, env, st, A, x, st', e, w⟩ => ?_
  rcases bind_exn e with h | ⟨v, s1, h1, e⟩
  · right
    refine ⟨ι, P, env, st, A, x, st', ?_, xwh_gr w⟩
    unfold aCons
    rw [h]
    rfl
  · left
    split at e
    · rename_i d
      cases e
      have h2 : aCons ma aNil env st = .ok [.dat d] st' := by
        unfold aCons
        rw [h1]
        rfl
      refine rdA.bind A h2 fun us H1 x1 A1 r1 => ?_
      cases r1 with
      | cons rv rn =>
        rename_i u us'
        cases rn
        refine ⟨u, rfl, fun dd hd => ?_⟩
        have sm := same_upd (o := HO.xd [(("thing" : Str), u)]) hd
        exact w _ _ _ ι P (Gr.of (x1.trans (.same sm))) (A1.s.same sm) ⟨rfl, dd, u, rfl, upd_same, (rv.dat').ext (.same sm)⟩
    · cases e
end
end Ev
/-! EvBadK: what a fragment of the heap says of BadThing. -/
namespace Ev
open PySem PySem.W PySem.Calls PyProof.Rows PySem.HandSPX
abbrev BI : Type := Option (Str × Str × Arguments × FuncBody × Scope × Addr × Value × Value × Addr)
def bInit (K : Frag) : BI := match K.lookup (He.ma K (He.ga K "BadThing") "__init__") with
  | some ⟨_, _, .func fd, _⟩ => some (fd.name, fd.qualname, fd.params, fd.body, fd.scope, fd.globals, fd.defaults, fd.kwdefaults, fd.builtins)
  | _ => none
def clsB (K : Frag) (C : Addr) : Bool := match K.lookup C with
  | some ⟨.type t, _, .cls cd, sl⟩ => t == "type" && (match cd.mro, sl.toList with
    | .ref C' :: bm, [_, _, _, _, some (.builtin n), _] => C' == C && (n == "ValueError.__new__" && (!cd.hasDel && (cd.hasDict && refsVE bm)))
    | _, _ => false)
  | _ => false
theorem clsB_ok {K : Frag} {C : Addr} (q : clsB K C = true) : ∃ nm q N bs bm sn sub ab col dd k0 k1 k2 k3 k5, K.lookup C = some (excClassObj nm q C N bs bm true sn sub ab col dd k0 k1 k2 k3 k5 "ValueError.__new__") ∧ refsVE bm = true := by
  unfold clsB at q
  split at q
  · rename_i t dd cd sl ho
    rw [Bool.and_eq_true] at q
    obtain ⟨qt, q⟩ := q
    have qt := beq_iff_eq.mp qt
    subst qt
    split at q
    · rename_i C' bm k0 k1 k2 k3 n k5 hm hs
      simp only [Bool.and_eq_true, beq_iff_eq, Bool.not_eq_true'] at q
      obtain ⟨rfl, rfl, h1, h2, h3⟩ := q
      obtain ⟨nm, bs, mro, ns, qn, hd, sn, sub, ab, col, del⟩ := cd
      dsimp only at hm h1 h2
      subst hm h1 h2
      obtain ⟨l⟩ := sl
      simp only at hs
      subst hs
      exact ⟨nm, qn, ns, bs, bm, sn, sub, ab, col, dd, k0, k1, k2, k3, k5, ho, h3⟩
    · cases q
  · cases q
def cellB (K : Frag) (C : Addr) (cl : List (Str × Addr)) : Bool := match cl with
  | [(n, cc)] => decide (n = "__class__") && (match K.lookup cc with
    | some ⟨_, _, .cell (some (.ref c)), _⟩ => c == C
    | _ => false)
  | _ => false
def fileB (prog : Program) (K : Frag) (cd : Value) : Bool := match cd with
  | .ref cda => codeIn K (.ref cda) "BadThing.__init__" && (match K.lookup cda with
    | some ⟨_, _, .fields vs, _⟩ => (match (vs[2]? : Option Value) with
      | some (.str file _) => (prog.main.file : Str) == file
      | _ => false)
    | _ => false)
  | _ => false
def badC (prog : Program) (K : Frag) : Bool :=
  let C := He.ga K "BadThing"
  let fI := He.ma K C "__init__"
  clsB K C && (He.eqO (findIn K (.ref C) "__setattr__") (some (some (.builtin "object.__setattr__"))) && (He.eqO (findIn K (.ref C) "__getattribute__") (some (some (.builtin "BaseException.__getattribute__"))) && (He.eqO (findIn K (.ref C) "__getattr__") (some none) && (He.eqO (findIn K (.ref C) "thing") (some none) &&
  (He.eqO (findIn K (.ref C) "__init__") (some (some (.ref fI))) && (decide (typeIn K (.ref fI) = some (.type "function")) && (keepIn K (.ref C) && (decide (subIn K (.ref C) (.type "BaseException") = some true) && (decide (subIn K (.ref C) (.type "ValueError") = some true) && (decide (typeIn K (.ref C) = some (.type "type")) &&
  (hasDictIn K C && (decide (exmOne K (.ref C) (.ref C) = some true) && (decide (mroIn K C (.ref C) = some true) && (He.eqO (ks_superIn K C C "__init__") (some (some (.builtin "ValueError.__init__"))) && (He.eqO (nsIn K cStatics "thirdparty.any") (some none) &&
  (match K.lookup fI with
    | some ⟨_, _, .func fd, _⟩ => cellB K C fd.closure && fileB prog K fd.code
    | _ => false))))))))))))))))
def biVal (p1 p2 : Pos) (msg : Str) (k : Nat) (q0 q1 q2 q3 q4 q5 q6 q7 q8 q9 : Pos) : BI := some (("__init__" : Str), ("BadThing.__init__" : Str), bA p1 p2, FuncBody.stmts (bB msg k q0 q1 q2 q3 q4 q5 q6 q7 q8 q9), bS, mainGlobals, Value.none, Value.none, builtinsNs)
theorem badT_of {prog : Program} {K : Frag} {mg : Str → Option Value} {p1 p2 : Pos} {msg : Str} {k : Nat} {q0 q1 q2 q3 q4 q5 q6 q7 q8 q9 : Pos} (e : bInit K = biVal p1 p2 msg k q0 q1 q2 q3 q4 q5 q6 q7 q8 q9)
    (c : badC prog K = true) (gC : mg "BadThing" = some (.ref (He.ga K "BadThing"))) (gS : mg "super" = none) (top : (prog.main.scope.names.lookup ("super" : Str)).isSome = false) (hl : (q2.endLine == q4.line) = true) :
    ThT K (He.ga K "BadThing") ∧ ∃ fI cc cda, BadT prog K mg (He.ga K "BadThing") fI cc cda := by
  unfold badC at c
  simp only [Bool.and_eq_true] at c
  obtain ⟨c1, c2, c3, c4, c5, c6, c7, c8, c9, c10, c11, c12, c13, c14, c15, c16, c17⟩ := c
  refine ⟨⟨He.eqO_ok c3, He.eqO_ok c4, He.eqO_ok c5, of_decide_eq_true c9, c12, of_decide_eq_true c13⟩, ?_⟩
  unfold bInit at e
  cases ho : K.lookup (He.ma K (He.ga K "BadThing") "__init__") with
  | none => rw [ho] at c17; cases c17
  | some o =>
    obtain ⟨oc, od, dt, osl⟩ := o
    rw [ho] at c17 e
    cases dt with
    | func fd =>
      obtain ⟨n1, n2, n3, n4, n5, n6, n7, n8, n9, n10, n11, n12, n13, n14, n15⟩ := fd
      have e2 : (some (n1, n2, n3, n4, n5, n6, n8, n9, n15) : BI) = biVal p1 p2 msg k q0 q1 q2 q3 q4 q5 q6 q7 q8 q9 := e
      unfold biVal at e2
      simp only [Option.some.injEq, Prod.mk.injEq] at e2
      obtain ⟨h1, h2, h3, h4, h5, h6, h7, h8, h9⟩ := e2
      subst h1 h2 h3 h4 h5 h6 h7 h8 h9
      have c18 : (cellB K (He.ga K "BadThing") n7 && fileB prog K n13) = true := c17
      rw [Bool.and_eq_true] at c18
      obtain ⟨d1, d2⟩ := c18
      unfold cellB at d1
      split at d1
      · rename_i n cc
        rw [Bool.and_eq_true] at d1
        obtain ⟨d3, d4⟩ := d1
        have d3 := of_decide_eq_true d3
        subst d3
        split at d4
        · rename_i cl cld c csl hcc
          have d4 := beq_iff_eq.mp d4
          subst d4
          unfold fileB at d2
          split at d2
          · rename_i cda
            rw [Bool.and_eq_true] at d2
            obtain ⟨d5, d6⟩ := d2
            split at d6
            · rename_i ccl cdd vs ccs hcd
              split at d6
              · rename_i file tf hf
                exact ⟨_, cc, cda, ⟨gC, clsB_ok c1, He.eqO_ok c2, He.eqO_ok c3, He.eqO_ok c4, He.eqO_ok c5, He.eqO_ok c6, of_decide_eq_true c7, c8, of_decide_eq_true c9, of_decide_eq_true c10, of_decide_eq_true c11, c12, of_decide_eq_true c13,
                  of_decide_eq_true c14, He.eqO_ok c15, He.eqO_ok c16, ⟨cl, cld, csl, hcc⟩, ⟨ccl, cdd, vs, ccs, file, tf, hcd, hf, d6⟩, gS, top,
                  ⟨oc, od, n10, n11, n12, n14, osl, p1, p2, msg, k, q0, q1, q2, q3, q4, q5, q6, q7, q8, q9, hl, ho, d5⟩⟩⟩
              · cases d6
            · cases d6
          · cases d2
        · cases d4
      · cases d1
    | _ => cases c17
end Ev
/-! EvEnd: defs by their combinators; the head. -/
namespace Ev
open PySem PySem.Spec PyProof.Rows L2

/-- the name x stands for a def that does what F says (gd: where no repr is under way) -/
def GoodG (gd : Bool) (Pg : Program) (w : World) (K : PySem.W.Frag) (mg : Str → Option Value) (base : Heap) (x : Str) (F : FnS) (k : Nat) : Prop :=
  (x == ("__debug__" : Str)) = false ∧ ∃ (g : Addr) (fd : FuncData) (ps : List Str), FnG gd Pg w K mg base CX0 k g fd ps (spOf K F) ∧ mg x = some (.ref g) ∧ PySem.W.keepIn K (.ref g) = true ∧ Binds K fd ps []
abbrev GoodF := GoodG false
section
variable {Pg : Program} {w : World} {K : PySem.W.Frag} {mg : Str → Option Value} {base : Heap} {gd : Bool}
theorem GoodG.mono {x : Str} {F : FnS} {j k : Nat} (h : GoodG gd Pg w K mg base x F j) (l : Nat.ble j k = true) : GoodG gd Pg w K mg base x F k :=
  let ⟨n, g, fd, ps, a, b, c, d⟩ := h
  ⟨n, g, fd, ps, a.mono (Nat.le_of_ble_eq_true l), b, c, d⟩
theorem GoodG.weak {x : Str} {F : FnS} {k : Nat} (h : GoodF Pg w K mg base x F k) : GoodG gd Pg w K mg base x F k :=
  let ⟨n, g, fd, ps, a, b, c, d⟩ := h
  ⟨n, g, fd, ps, a.weak, b, c, d⟩
/-- a prim that answers as F does where it answers -/
def Le (P F : FnS) : Prop := ∀ vs s v s', P vs s = .ok v s' → F vs s = .ok v s'
theorem GoodG.imp {x : Str} {F P : FnS} {k : Nat} (h : GoodG gd Pg w K mg base x F k) (l : Le P F) : GoodG gd Pg w K mg base x P k :=
  let ⟨n, g, fd, ps, a, b, c, d⟩ := h
  ⟨n, g, fd, ps, a.imp fun _ _ _ _ ⟨ι, Q, xs, st, r, hv, v, st', e, q⟩ => ⟨ι, Q, xs, st, r, hv, v, st', l _ _ _ _ e, q⟩, b, c, d⟩
inductive AllG (gd : Bool) (Pg : Program) (w : World) (K : PySem.W.Frag) (mg : Str → Option Value) (base : Heap) (k : Nat) : FT → Prop
  | nil : AllG gd Pg w K mg base k []
  | cons {x : Str} {F : FnS} {r : FT} : GoodG gd Pg w K mg base x F k → AllG gd Pg w K mg base k r → AllG gd Pg w K mg base k ((x, F) :: r)
theorem AllG.get {k : Nat} {x : Str} {F : FnS} : ∀ {t : FT}, AllG gd Pg w K mg base k t → t.lookup x = some F → GoodG gd Pg w K mg base x F k
  | _, .nil, e => by cases e
  | (y, G) :: r, .cons h t, e => by
    have e2 : (match x == y with | true => some G | false => r.lookup x) = some F := e
    cases q : (x == y) with
    | true =>
      rw [q] at e2
      have e3 : G = F := Option.some.inj e2
      rw [beq_iff_eq.mp q, ← e3]
      exact h
    | false =>
      rw [q] at e2
      exact t.get e2
/-- constants -/
def CstOk (K : PySem.W.Frag) (mg : Str → Option Value) (x : Str) (d : PyData) : Prop := (x == ("__debug__" : Str)) = false ∧ ∃ u v, mg x = some u ∧ RelV v u ∧ ∀ H P, Rp K H P v d
mutual
def datB (K : PySem.W.Frag) : PyData → Value → Bool
  | .none, .none => true
  | .bool b, .bool c => b == c
  | .int i, .int j _ => decide (i = j)
  | .str x, .str y _ => decide (x = y)
  | .tuple ds, .ref a => (match K.lookup a with
    | some ⟨.type c, _, .seq its _, _⟩ => decide (c = "tuple") && (decide (its.size ≤ sizeLine) && datA K ds its.toList)
    | _ => false)
  | _, _ => false
def datA (K : PySem.W.Frag) : List PyData → List Value → Bool
  | [], [] => true
  | d :: ds, u :: us => datB K d u && datA K ds us
  | _, _ => false
end
mutual
theorem datB_ok : ∀ (d : PyData) (u : Value), datB K d u = true → ∃ v, RelV v u ∧ ∀ H P, Rp K H P v d
  | .none, u, h => by
    cases u <;> first | exact ⟨.non, rfl, fun _ _ => .non⟩ | (simp [datB] at h; done)
  | .bool b, u, h => by
    cases u <;> first | (simp [datB] at h; subst h; exact ⟨.bl _, rfl, fun _ _ => .bl _⟩) | (simp [datB] at h; done)
  | .int i, u, h => by
    cases u <;> first | (simp [datB] at h; subst h; exact ⟨.int _, ⟨_, rfl⟩, fun _ _ => .int _⟩) | (simp [datB] at h; done)
  | .str i, u, h => by
    cases u <;> first | (simp [datB] at h; subst h; exact ⟨.str _, ⟨_, rfl⟩, fun _ _ => .str _⟩) | (simp [datB] at h; done)
  | .tuple ds, u, h => by
    cases u with
    | ref a =>
      unfold datB at h
      cases q : K.lookup a with
      | none => rw [q] at h; cases h
      | some o =>
        obtain ⟨oc, od, dt, osl⟩ := o
        rw [q] at h
        cases oc with
        | type c =>
          cases dt with
          | seq its n =>
            obtain ⟨h1, h2⟩ := He.ba (show (decide (c = "tuple") && (decide (its.size ≤ sizeLine) && datA K ds its.toList)) = true from h)
            obtain ⟨h3, h4⟩ := He.ba h2
            obtain ⟨vs, r, rp⟩ := datA_ok ds _ h4
            exact ⟨.ref a, rfl, fun H P => .tup (.inr ⟨_, its, n, q, congrArg Value.type (of_decide_eq_true h1), rfl, of_decide_eq_true h3, r⟩) (rp H P)⟩
          | _ => cases h
        | _ => cases dt <;> cases h
    | _ => simp [datB] at h
  | .list _, u, h => by cases u <;> simp [datB] at h
  | .dict _, u, h => by cases u <;> simp [datB] at h
theorem datA_ok : ∀ (ds : List PyData) (us : List Value), datA K ds us = true → ∃ vs, Vals vs us ∧ ∀ H P, RpAll K H P vs ds
  | [], [], _ => ⟨[], .nil, fun _ _ => .nil⟩
  | [], _ :: _, h => by simp [datA] at h
  | _ :: _, [], h => by simp [datA] at h
  | d :: ds, u :: us, h => by
    unfold datA at h
    obtain ⟨h1, h2⟩ := He.ba h
    obtain ⟨v, r, rp⟩ := datB_ok d u h1
    obtain ⟨vs, rs, rps⟩ := datA_ok ds us h2
    exact ⟨v :: vs, .cons r rs, fun H P => .cons (rp H P) (rps H P)⟩
end
def cstB (K : PySem.W.Frag) (cs : CT) : Bool := cs.all fun p => !(p.1 == ("__debug__" : Str)) && (match PySem.W.nsIn K mainGlobals p.1 with
  | some (some u) => datB K p.2 u
  | _ => false)
inductive AllC (K : PySem.W.Frag) (mg : Str → Option Value) : CT → Prop
  | nil : AllC K mg []
  | cons {x : Str} {d : PyData} {r : CT} : CstOk K mg x d → AllC K mg r → AllC K mg ((x, d) :: r)
theorem AllC.get {x : Str} {d : PyData} : ∀ {t : CT}, AllC K mg t → t.lookup x = some d → CstOk K mg x d
  | _, .nil, e => by cases e
  | (y, G) :: r, .cons h t, e => by
    have e2 : (match x == y with | true => some G | false => r.lookup x) = some d := e
    cases q : (x == y) with
    | true =>
      rw [q] at e2
      have e3 : G = d := Option.some.inj e2
      rw [beq_iff_eq.mp q, ← e3]
      exact h
    | false =>
      rw [q] at e2
      exact t.get e2
theorem cstB_ok {h : Heap} (X : K.In h) (G : h.Ns mainGlobals mg) : ∀ {cs : CT}, cstB K cs = true → AllC K mg cs
  | [], _ => .nil
  | (x, d) :: r, c => by
    unfold cstB at c
    rw [List.all_cons] at c
    obtain ⟨c1, c2⟩ := He.ba c
    obtain ⟨c3, c4⟩ := He.ba c1
    refine .cons ⟨by simpa using c3, ?_⟩ (cstB_ok X G (cs := r) c2)
    have c5 : (match PySem.W.nsIn K mainGlobals x with
      | some (some u) => datB K d u
      | _ => false) = true := c4
    cases q : PySem.W.nsIn K mainGlobals x with
    | none => rw [q] at c5; cases c5
    | some o =>
      rw [q] at c5
      cases o with
      | none => cases c5
      | some u =>
        obtain ⟨v, r1, r2⟩ := datB_ok d u c5
        exact ⟨u, v, PySem.W.mg_of X G q, r1, r2⟩
/-- dicts of the module -/
abbrev DT := List (Str × List (Str × PyData))
def dAt (K : PySem.W.Frag) (x : Str) : Option Addr := match PySem.W.nsIn K mainGlobals x with
  | some (some (.ref a)) => some a
  | _ => none
def dicV (K : PySem.W.Frag) (a : Addr) (kvs : List (Str × PyData)) : Bool := kvs.all fun q => match PySem.W.nsIn K a q.1 with
  | some (some u) => datB K q.2 u
  | _ => false
def dicB (K : PySem.W.Frag) (ds : DT) : Bool := ds.all fun p => !(p.1 == ("__debug__" : Str)) && (match dAt K p.1 with
  | some a => dicV K a p.2
  | none => false)
abbrev ObD : Type := List (Option (List (Option (Str × Int))))
def obsDs (ds : DT) (K : PySem.W.Frag) : ObD := ds.map fun p => match dAt K p.1 with
  | some a => He.dicW K a
  | none => none
def valDs (ds : DT) (w : World) : ObD := ds.map fun p => some (He.keysIn w.params (p.2.map (·.1)))
def AllD (w : World) (K : PySem.W.Frag) (mg : Str → Option Value) (ds : DT) : Prop := ∀ x kvs, ds.lookup x = some kvs → (x == ("__debug__" : Str)) = false ∧ ∃ p, mg x = some (.ref p) ∧ ∀ k d, kvs.lookup k = some d → ∃ v, KDct K w p k v ∧ ∀ H P, Rp K H P v d
theorem mem_lookup {α : Type} {x : Str} {y : α} : ∀ {l : List (Str × α)}, l.lookup x = some y → (x, y) ∈ l
  | [], h => by cases h
  | (a, b) :: r, h => by
    have h2 : (match x == a with | true => some b | false => r.lookup x) = some y := h
    cases q : (x == a) with
    | true =>
      rw [q] at h2
      rw [beq_iff_eq.mp q, Option.some.inj h2]
      exact List.mem_cons_self
    | false =>
      rw [q] at h2
      exact List.mem_cons_of_mem _ (mem_lookup h2)
theorem dic_ok {w : World} {h : Heap} {ds : DT} (X : K.In h) (G : h.Ns mainGlobals mg) (db : dicB K ds = true) (dw : obsDs ds K = valDs ds w) : AllD w K mg ds := fun x kvs e => by
  have hm := mem_lookup e
  have b1 := List.all_eq_true.mp db _ hm
  obtain ⟨b2, b3⟩ := He.ba b1
  obtain ⟨i, hi, ei⟩ := List.mem_iff_getElem.mp hm
  have w1 : (obsDs ds K)[i]? = (valDs ds w)[i]? := by rw [dw]
  unfold obsDs valDs at w1
  rw [List.getElem?_map, List.getElem?_map, List.getElem?_eq_getElem hi, ei] at w1
  have w2 := Option.some.inj w1
  dsimp only at w2 b3
  refine ⟨by simpa using b2, ?_⟩
  cases q : dAt K x with
  | none => rw [q] at b3; cases b3
  | some a =>
    rw [q] at b3 w2
    dsimp only at b3 w2
    obtain ⟨es, n, D⟩ := He.dicW_ok w2
    have qa : PySem.W.nsIn K mainGlobals x = some (some (.ref a)) := by
      unfold dAt at q
      split at q
      · rename_i b hb
        cases q
        exact hb
      · cases q
    refine ⟨a, PySem.W.mg_of X G qa, fun k d hk => ?_⟩
    have c1 := List.all_eq_true.mp b3 _ (mem_lookup hk)
    dsimp only at c1
    cases z : PySem.W.nsIn K a k with
    | none => rw [z] at c1; cases c1
    | some o =>
      rw [z] at c1
      cases o with
      | none => cases c1
      | some u =>
        obtain ⟨v, r1, r2⟩ := datB_ok d u c1
        exact ⟨v, ⟨es, n, u, D.at_, D.lit, z, r1⟩, r2⟩
def nmsOk (N : List Str) : Bool := N.all fun x => !(x == ("__debug__" : Str)) && !(x == ("__classdict__" : Str))
theorem nmsOk_ok {N : List Str} (h : nmsOk N = true) : ∀ x ∈ N, (x == ("__debug__" : Str)) = false ∧ (x == ("__classdict__" : Str)) = false := fun x hx => by
  have h2 := List.all_eq_true.mp h x hx
  obtain ⟨h3, h4⟩ := He.ba h2
  exact ⟨by simpa using h3, by simpa using h4⟩
/-- BadThing, as the heap has it -/
def BadI (Pg : Program) (K : PySem.W.Frag) (mg : Str → Option Value) : Prop := ThT K (He.ga K "BadThing") ∧ ∃ fI cc cda, BadT Pg K mg (He.ga K "BadThing") fI cc cda
/-- what lambdas in the def at f lean on -/
structure LamOk (Pg : Program) (w : World) (K : PySem.W.Frag) (mg : Str → Option Value) (base : Heap) (T : Tab) (f : Addr) (q : Str) (k : Nat) (gd : Bool) : Prop where
  gd : gd = true
  ex : ∃ (j : Nat) (C g c tp : Addr), j + 2 ≤ k ∧ LamX.TabB base mg c tp ∧ (∀ oc od osl fd, K.lookup f = some ⟨oc, od, .func fd, osl⟩ → fd.code = .ref c) ∧ (tp, (q ++ ".<locals>." : Str) ++ "<lambda>") ∈ tabsOf K ∧ (∀ p ∈ tabsOf K, p.1 = tp → p.2 = (q ++ ".<locals>." : Str) ++ "<lambda>") ∧
    ThT K C ∧ mg "BadThing" = some (.ref C) ∧ RfD K mg g ∧ mg "repr" = none ∧ AllG false Pg w K mg base j T.lf ∧ AllX Pg w K mg base C j T.lf
/-- a def -/
theorem def_fn {x : Str} {params : Arguments} {body : List Stmt} {sc : Scope} {T : Tab} {ps : List Str} {k np nn : Nat} {m : MS} {f : Addr} {fd : FuncData}
    (F : FunD K x x params body sc [] [] f fd) (S : FnScope T.N ps sc) (hn : nmsOk T.N = true) (hN : T.N.length = nn) (hp : ps.length = np)
    (hm : cmpSs (cmpS T sc 40) body = some m) (hf : AllG gd Pg w K mg base k T.fs) (hc : AllC K mg T.cs) (hds : AllD w K mg T.ds) (hbl : ∀ y ∈ T.bl, mg y = none) (hl : T.lf ≠ [] → LamOk Pg w K mg base T f x k gd) : FnG gd Pg w K mg base CX0 (k + 1) f fd ps (spOf K (fnS np nn m)) := by
  refine fn_ok F S hN hp fun cdv A outer s H E hg at_ hr => ?_
  have ok : Cok T sc fnT (cxOf CX0 Pg w K mg base T.N x sc f cdv A outer s H E).nox := {
    hN := rfl
    nd := S.nd
    nm := nmsOk_ok hn
    hsc := rfl
    kind := S.kind
    calm := rfl
    fn := fun _ _ => rfl
    un := by have := hr.un; show (A.deeper _).units + 65 < cLine; omega
    un2 := by have := hr.un; show (A.deeper _).units + 80 < cLine; omega
    calls := fun y G e => by
      obtain ⟨n, g, fd', ps', a, b, c, d⟩ := hf.get e
      exact ⟨n, gd, k, g, fd', ps', CX0, a, hg, hr, b, c, d, fun _ _ _ _ _ z => z⟩
    consts := fun y d e => hc.get e
    free := hbl
    dicts := hds }
  have okr : T.lf ≠ [] → ∃ k C g c tp, RefOk T (cxOf CX0 Pg w K mg base T.N x sc f cdv A outer s H E).nox k C g c tp := fun z => by
    obtain ⟨hgd, j, C, g, c, tp, le, tb, co, mem, uq, th, gC, rf, rp, hfs, hfx⟩ := hl z
    obtain ⟨oc, od, osl, fd0, lk, e1, e2⟩ := at_
    refine ⟨j, C, g, c, tp, { room := hr.mono le, gd := hg hgd, hs := rfl, hfr := rfl, tb := tb, co := ?_, mem := mem, uq := uq, th := th, gC := gC, rf := rf, rp := rp, fs := fun y G e => ?_, fx := fun y G e => ?_ }⟩
    · show cdv = _
      rw [← e1]
      exact co _ _ _ _ lk
    · obtain ⟨n, g, fd', ps', a, b, c, d⟩ := hfs.get e
      exact ⟨n, g, fd', ps', CX0, a, b, c, d, fun _ _ _ _ _ z => z⟩
    · rcases hfx.get e with h | ⟨g, fd', ps', a, b, c, d⟩
      · exact .inl h
      · exact .inr ⟨g, fd', ps', a, b, c, d⟩
  exact cmpSs_ok (fun st m hst => cmpS_ok ok okr (PassesOwn.never (M := model Pg w)) 40 st m hst) _ _ hm
theorem def_ok {x : Str} {params : Arguments} {body : List Stmt} {sc : Scope} {T : Tab} {ps : List Str} {k np nn : Nat} {m : MS} {f : Addr} {fd : FuncData}
    (F : FunD K x x params body sc [] [] f fd) (hd : (x == ("__debug__" : Str)) = false) (gl : mg x = some (.ref f))
    (hb : ∀ (kV doc pm : Value) (an : Option Addr) (cdv ct : Value) (us : List Value), us.length = ps.length → bindArgs (PySem.W.fnOf x x params body sc .none kV doc pm an cdv ct) ⟨us, []⟩ = pure (ps.zip us))
    (S : FnScope T.N ps sc) (hn : nmsOk T.N = true) (hN : T.N.length = nn) (hp : ps.length = np)
    (hm : cmpSs (cmpS T sc 40) body = some m) (hf : AllG gd Pg w K mg base k T.fs) (hc : AllC K mg T.cs) (hds : AllD w K mg T.ds) (hbl : ∀ y ∈ T.bl, mg y = none) (hl : T.lf ≠ [] → LamOk Pg w K mg base T f x k gd) : GoodG gd Pg w K mg base x (fnS np nn m) (k + 1) :=
  ⟨hd, f, fd, ps, def_fn F S hn hN hp hm hf hc hds hbl hl, gl, F.kp, F.bindsN hb⟩
/-- .. that raises -/
theorem def_x {x : Str} {params : Arguments} {body : List Stmt} {sc : Scope} {T : Tab} {ps : List Str} {k np nn : Nat} {m : MS} {f : Addr} {fd : FuncData} (B : BadI Pg K mg)
    (F : FunD K x x params body sc [] [] f fd) (gl : mg x = some (.ref f))
    (hb : ∀ (kV doc pm : Value) (an : Option Addr) (cdv ct : Value) (us : List Value), us.length = ps.length → bindArgs (PySem.W.fnOf x x params body sc .none kV doc pm an cdv ct) ⟨us, []⟩ = pure (ps.zip us))
    (S : FnScope T.N ps sc) (hn : nmsOk T.N = true) (hN : T.N.length = nn) (hp : ps.length = np)
    (hm : cmpSs (cmpS T sc 40) body = some m) (hf : AllG false Pg w K mg base k T.fs) (hx : AllX Pg w K mg base (He.ga K "BadThing") k T.fs) (hc : AllC K mg T.cs) (hds : AllD w K mg T.ds) (hbl : ∀ y ∈ T.bl, mg y = none) (hl : T.lf = []) : GoodX Pg w K mg base (He.ga K "BadThing") x (fnS np nn m) (k + 1) := by
  refine ⟨f, fd, ps, fnx_ok F S hN hp fun cdv A outer s H E hr => ?_, gl, F.kp, F.bindsN hb⟩
  have ok : Cok T sc fnT (cxOf (L2.CX Pg w) Pg w K mg base T.N x sc f cdv A outer s H E) := {
    hN := rfl
    nd := S.nd
    nm := nmsOk_ok hn
    hsc := rfl
    kind := S.kind
    calm := rfl
    fn := fun _ _ => rfl
    un := by have := hr.un; show (A.deeper _).units + 65 < cLine; omega
    un2 := by have := hr.un; show (A.deeper _).units + 80 < cLine; omega
    calls := fun y G e => by
      obtain ⟨n, g, fd', ps', a, b, c, d⟩ := hf.get e
      exact ⟨n, false, k, g, fd', ps', CX0, a, (fun z => nomatch z), hr, b, c, d, fun _ _ _ _ _ z => z⟩
    consts := fun y d e => hc.get e
    free := hbl
    dicts := hds }
  have tk : Takes (cxOf (L2.CX Pg w) Pg w K mg base T.N x sc f cdv A outer s H E) fun cls d _ H => E cls d H := takes_of rfl rfl rfl rfl
  have okx : CokX T (He.ga K "BadThing") E (cxOf (L2.CX Pg w) Pg w K mg base T.N x sc f cdv A outer s H E) := {
    pass := passes_call tk fun _ _ _ _ h => h
    calls := fun y G e => by
      rcases hx.get e with h | ⟨g, fd', ps', a, b, c, d⟩
      · exact .inl h
      · exact .inr ⟨k, g, fd', ps', a, hr, b, c, d⟩ }
  obtain ⟨_, fI, cc, cda, BT⟩ := B
  exact cmpSs_px (cmpS_px okx (rz_of (X := cxOf (L2.CX Pg w) Pg w K mg base T.N x sc f cdv A outer s H E) BT rfl hr tk) ok (fun z => absurd hl z) (passes_of rfl) 40) _ _ hm
/-- of a def that is said to do nothing -/
theorem def_bad {x : Str} {params : Arguments} {body : List Stmt} {sc : Scope} {N ps : List Str} {k : Nat} {f : Addr} {fd : FuncData}
    (F : FunD K x x params body sc [] [] f fd) (hd : (x == ("__debug__" : Str)) = false) (gl : mg x = some (.ref f))
    (hb : ∀ (kV doc pm : Value) (an : Option Addr) (cdv ct : Value) (us : List Value), us.length = ps.length → bindArgs (PySem.W.fnOf x x params body sc .none kV doc pm an cdv ct) ⟨us, []⟩ = pure (ps.zip us))
    (S : FnScope N ps sc) : GoodF Pg w K mg base x (fun _ _ => .bad) (k + 1) := by
  have no : ∀ {vs H Q E}, spOf K (fun _ _ => .bad) vs H Q E → False := fun ⟨ι, P, xs, st, r, hv, v, st', e, q⟩ => by cases e
  exact ⟨hd, f, fd, ps, .of (F.ok S (fun vs H Q E z => (no z).elim) (fun cdv A outer s H vs Q E hr z => (no z).elim)), gl, F.kp, F.bindsN hb⟩
theorem noE_bad : NoEF fun _ _ => .bad := fun _ _ _ _ h => by cases h
end
/-! ### the head -/
def isTab (o : Option Obj) : Bool := match o with
  | some ⟨.none, none, .fields vs, sl⟩ => vs.size == 0 && sl.size == 0
  | _ => false
theorem isTab_ok {o : Option Obj} (h : isTab o = true) : o = some oT := by
  unfold isTab at h
  split at h
  · rename_i vs sl
    rw [Bool.and_eq_true, beq_iff_eq, beq_iff_eq] at h
    rw [Array.eq_empty_of_size_eq_zero h.1, Array.eq_empty_of_size_eq_zero h.2]
  · cases h
/-- the objects that o names and that are looked at -/
def refsT (o : Obj) : List Addr := match o.data with
  | .seq its _ => its.toList.flatMap He.refV
  | .dict es _ => es.toList.flatMap fun e => He.refV e.val
  | .func fd => He.refV fd.code ++ fd.closure.map (·.2)
  | .cls cd => cd.ns :: cd.mro.flatMap He.refV
  | .cell (some v) => He.refV v
  | _ => []
def stepT (g : Addr → Option Obj) (as : List Addr) : List Addr := as.flatMap fun a => match g a with
  | some o => refsT o
  | none => []
def levT (g : Addr → Option Obj) : Nat → List Addr → List Addr
  | 0, as => as
  | n + 1, as => as ++ levT g n (stepT g as)
def frA {β : Type} : List Addr → (List Addr → β) → β
  | [], k => k []
  | a :: r, k => HandSHeadRun.frNat a fun a => frA r fun l => k (a :: l)
theorem frA_eq {β : Type} : ∀ (as : List Addr) (k : List Addr → β), frA as k = k as
  | [], _ => rfl
  | a :: r, k => by
    unfold frA
    rw [HandSHeadRun.frNat_eq, frA_eq r]
def frLev {β : Type} (g : Addr → Option Obj) : Nat → List Addr → (List Addr → β) → β
  | 0, as, k => frA as k
  | n + 1, as, k => frA as fun as => frLev g n (stepT g as) fun r => k (as ++ r)
theorem frLev_eq {β : Type} {g : Addr → Option Obj} : ∀ (n : Nat) (as : List Addr) (k : List Addr → β), frLev g n as k = k (levT g n as)
  | 0, as, k => frA_eq as k
  | n + 1, as, k => by
    unfold frLev
    rw [frA_eq, frLev_eq n]
    rfl
/-- what is known of the heap: what the module reaches, but the tables -/
def kfr (g : Addr → Option Obj) (n : Nat) : PySem.W.Frag := He.frG g ((cStatics :: levT g n [mainGlobals]).filter fun a => !isTab (g a))
/-- .. each address and object looked up once -/
def frK {β : Type} (g : Addr → Option Obj) : List Addr → (PySem.W.Frag → β) → β
  | [], k => k []
  | a :: r, k => HandSHeadRun.frNat a fun a => match g a with
    | some o => match isTab (some o) with
      | true => frK g r k
      | false => frK g r fun K => k ((a, o) :: K)
    | none => frK g r k
theorem frK_eq {β : Type} {g : Addr → Option Obj} : ∀ (as : List Addr) (k : PySem.W.Frag → β), frK g as k = k (He.frG g (as.filter fun a => !isTab (g a)))
  | [], k => rfl
  | a :: r, k => by
    unfold frK
    rw [HandSHeadRun.frNat_eq]
    cases q : g a with
    | none =>
      dsimp only
      rw [frK_eq r k, List.filter_cons, q]
      have : (!isTab (none : Option Obj)) = true := rfl
      rw [if_pos this]
      unfold He.frG
      rw [List.filterMap_cons, q]
      rfl
    | some o =>
      dsimp only
      cases z : isTab (some o) with
      | true =>
        dsimp only
        rw [frK_eq r k, List.filter_cons, q, z]
        rfl
      | false =>
        dsimp only
        rw [frK_eq r _, List.filter_cons, q, z]
        unfold He.frG
        simp only [Bool.not_false, if_true]
        rw [List.filterMap_cons, q]
        rfl
def frC {β : Type} : List (Addr × Addr × Str) → (List (Addr × Addr × Str) → β) → β
  | [], k => k []
  | q :: r, k => HandSHeadRun.frNat q.1 fun c => HandSHeadRun.frNat q.2.1 fun p => frC r fun l => k ((c, p, q.2.2) :: l)
theorem frC_eq {β : Type} : ∀ (l : List (Addr × Addr × Str)) (k : List (Addr × Addr × Str) → β), frC l k = k l
  | [], k => rfl
  | q :: r, k => by
    unfold frC
    rw [HandSHeadRun.frNat_eq, HandSHeadRun.frNat_eq, frC_eq r]
def tabL (g : Addr → Option Obj) (K : PySem.W.Frag) (l : List (Addr × Addr × Str)) : Bool := l.all fun q => PySem.W.codeHdIn K q.1 q.2.1 && isTab (g q.2.1)
def makerL (K : PySem.W.Frag) (l : List (Addr × Addr × Str)) (x : Str) : Bool := match K.lookup (He.ga K x) with
  | some o => match codeAt K o with
    | [q] => HandSHeadRun.frNat q.2.1 fun p => l.all fun r => match Nat.beq r.2.1 p with
      | true => decide (r.2.2 = q.2.2)
      | false => true
    | _ => false
  | none => false
def makerB (K : PySem.W.Frag) (x : Str) : Bool := makerL K (codesOf K) x
abbrev AlE : Type := ((He.AlD × Bool) × BI) × ObD
def biOf (mk : List Str) (K : PySem.W.Frag) : BI := match mk with
  | [] => none
  | _ => bInit K
def bcOf (prog : Program) (mk : List Str) (K : PySem.W.Frag) : Bool := match mk with
  | [] => true
  | _ => badC prog K
def obsK (prog : Program) (fa : List He.Fa) (fn : List He.DefD) (cs : CT) (mk : List Str) (ds : DT) (g : Addr → Option Obj) (K : PySem.W.Frag) : AlE := (((He.obsD fa fn K, (cstB K cs && dicB K ds) && frC (codesOf K) fun l => tabL g K l && (mk.all (makerL K l) && bcOf prog mk K)), biOf mk K), obsDs ds K)
def obsC (prog : Program) (n : Nat) (fa : List He.Fa) (fn : List He.DefD) (cs : CT) (mk : List Str) (ds : DT) (g : Addr → Option Obj) : AlE := frLev g n [mainGlobals] fun as => frK g (cStatics :: as) (obsK prog fa fn cs mk ds g)
theorem obsC_is {prog : Program} {n : Nat} {fa : List He.Fa} {fn : List He.DefD} {cs : CT} {mk : List Str} {ds : DT} {g : Addr → Option Obj} : obsC prog n fa fn cs mk ds g = obsK prog fa fn cs mk ds g (kfr g n) := by
  unfold obsC
  rw [frLev_eq, frK_eq]
  rfl
/-- each code object has its own table, empty at h -/
structure TabOk (K : PySem.W.Frag) (h : Heap) : Prop where
  at_ : ∀ q ∈ codesOf K, PySem.W.CodeHd h q.1 q.2.1 ∧ h.get? q.2.1 = some oT
  no : ∀ q ∈ codesOf K, K.lookup q.2.1 = none
theorem TabOk.ts1 {K : PySem.W.Frag} {h : Heap} (t : TabOk K h) : ∀ p ∈ (codesOf K).map (fun q => (q.1, q.2.1)), h.get? p.2 = some oT := fun p hp => by
  obtain ⟨q, hq, rfl⟩ := List.mem_map.mp hp
  exact (t.at_ q hq).2
theorem TabOk.ts2 {K : PySem.W.Frag} {h : Heap} (t : TabOk K h) : ∀ p ∈ (codesOf K).map (fun q => (q.1, q.2.1)), K.lookup p.2 = none := fun p hp => by
  obtain ⟨q, hq, rfl⟩ := List.mem_map.mp hp
  exact t.no q hq
theorem TabOk.ts3 {K : PySem.W.Frag} {h : Heap} (t : TabOk K h) : ∀ p ∈ (codesOf K).map (fun q => (q.1, q.2.1)), PySem.W.CodeHd h p.1 p.2 := fun p hp => by
  obtain ⟨q, hq, rfl⟩ := List.mem_map.mp hp
  exact (t.at_ q hq).1
theorem frG_no {g : Addr → Option Obj} {as : List Addr} {a : Addr} (h : a ∉ as) : (He.frG g as).lookup a = none := by
  induction as with
  | nil => rfl
  | cons b r ih =>
    have n1 : a ≠ b := fun z => h (by rw [z]; exact List.mem_cons_self)
    have n2 : a ∉ r := fun z => h (List.mem_cons_of_mem _ z)
    unfold He.frG
    rw [List.filterMap_cons]
    cases g b with
    | none => exact ih n2
    | some o =>
      have e : (a == b) = false := beq_eq_false_iff_ne.mpr n1
      show List.lookup a ((b, o) :: _) = none
      rw [List.lookup_cons, e]
      exact ih n2
theorem tabL_ok {g : Addr → Option Obj} {n : Nat} {h : Heap} (X : (kfr g n).In h) (hg : ∀ a, g a = h.get? a) (c : tabL g (kfr g n) (codesOf (kfr g n)) = true) : TabOk (kfr g n) h := by
  have c2 : ∀ q ∈ codesOf (kfr g n), _ := fun q hq => List.all_eq_true.mp c q hq
  simp only [Bool.and_eq_true] at c2
  refine ⟨fun q hq => ⟨PySem.W.codeHd_of_K X (c2 q hq).1, ?_⟩, fun q hq => ?_⟩
  · rw [← hg]
    exact isTab_ok (c2 q hq).2
  · refine frG_no fun z => ?_
    have := (List.mem_filter.mp z).2
    rw [(c2 q hq).2] at this
    cases this
/-- what the end leans on -/
structure SaysC (prog : Program) (fa : List He.Fa) (fn : List He.DefD) (cs : CT) (mk : List Str) (bv : BI) (ds : DT) (w : World) (h : Heap) (K : PySem.W.Frag) : Prop where
  X : K.In h
  c : He.SaysD fa fn K
  cb : cstB K cs = true
  t : TabOk K h
  mks : ∀ x ∈ mk, makerB K x = true
  bi : biOf mk K = bv
  bc : bcOf prog mk K = true
  db : dicB K ds = true
  dw : obsDs ds K = valDs ds w
def hookC (prog : Program) (n : Nat) (fa : List He.Fa) (fn : List He.DefD) (cs : CT) (mk : List Str) (bv : BI) (ds : DT) : PySem.W.Hook where
  α := AlE
  obs := fun s => obsC prog n fa fn cs mk ds s.heap.get?
  val := fun w => (((He.valD fn, true), bv), valDs ds w)
  says := fun w h => ∃ K : PySem.W.Frag, SaysC prog fa fn cs mk bv ds w h K
  of := fun w s e => by
    have e : obsK prog fa fn cs mk ds s.heap.get? (kfr s.heap.get? n) = (((He.valD fn, true), bv), valDs ds w) := (obsC_is (prog := prog) (n := n) (fa := fa) (fn := fn) (cs := cs) (mk := mk) (ds := ds) (g := s.heap.get?)).symm.trans e
    have e1 := congrArg (fun z : AlE => z.1.1.1) e
    have e2 := congrArg (fun z : AlE => z.1.1.2) e
    have e3 := congrArg (fun z : AlE => z.1.2) e
    have e5 := congrArg (fun z : AlE => z.2) e
    have e4 : ((cstB (kfr s.heap.get? n) cs && dicB (kfr s.heap.get? n) ds) && frC (codesOf (kfr s.heap.get? n)) fun l => tabL s.heap.get? (kfr s.heap.get? n) l && (mk.all (makerL (kfr s.heap.get? n) l) && bcOf prog mk (kfr s.heap.get? n))) = true := e2
    rw [frC_eq] at e4
    simp only [Bool.and_eq_true] at e4
    obtain ⟨⟨c1, c5⟩, c2, c3, c4⟩ := e4
    exact ⟨kfr s.heap.get? n, He.frG_in, e1, c1, tabL_ok He.frG_in (fun _ => rfl) c2, fun x hx => List.all_eq_true.mp c3 x hx, e3, c4, c5, e5⟩
  keeps := fun _ _ _ ⟨K, S⟩ k => ⟨K, PySem.W.Frag.In.keeps S.X k, S.c, S.cb, ⟨fun q hq => ⟨(S.t.at_ q hq).1.keeps k, k _ _ (S.t.at_ q hq).2⟩, S.t.no⟩, S.mks, S.bi, S.bc, S.db, S.dw⟩
theorem obsC_eq {prog : Program} {n : Nat} {fa : List He.Fa} {fn : List He.DefD} {cs : CT} {mk : List Str} {bv : BI} {ds : DT} {g : Addr → Option Obj} {s : Shared} (h : ∀ a, g a = s.heap.get? a) : obsC prog n fa fn cs mk ds g = (hookC prog n fa fn cs mk bv ds).obs s := by
  have e : g = s.heap.get? := funext h
  rw [e] <;> rfl
/-- what a law's defs lean on -/
structure Hd (fa : List He.Fa) (fn : List He.DefD) (cs : CT) (ds : DT) (w : World) (K : PySem.W.Frag) (mg : Str → Option Value) (h : Heap) : Prop where
  X : K.In h
  G : h.Ns mainGlobals mg
  c : He.SaysD fa fn K
  cs : AllC K mg cs
  dx : AllD w K mg ds
section
variable {fa : List He.Fa} {fn : List He.DefD} {cs : CT} {ds : DT} {w : World} {K : PySem.W.Frag} {mg : Str → Option Value} {h : Heap}
theorem Hd.glo (c : Hd fa fn cs ds w K mg h) (i : Nat) {x : Str} (e : fa[i]? = some (.glo x)) : mg x = some (.ref (He.ga K x)) := He.glo_ok c.X c.G (c.c.fact i e)
def isFree (x : Str) : He.Fa → Bool
  | .free y => decide (y = x)
  | _ => false
theorem Hd.free (c : Hd fa fn cs ds w K mg h) {bl : List Str} (e : (bl.all fun x => fa.any (isFree x)) = true) : ∀ y ∈ bl, mg y = none := fun y hy => by
  have h1 := List.all_eq_true.mp e y hy
  obtain ⟨f, hf, hm⟩ := List.any_eq_true.mp h1
  cases f with
  | free z =>
    have hm : z = y := of_decide_eq_true hm
    subst hm
    obtain ⟨i, hi, e⟩ := List.mem_iff_getElem.mp hf
    exact He.free_ok c.X c.G (c.c.fact i (f := .free z) (by rw [List.getElem?_eq_getElem hi, e]))
  | _ => cases hm
theorem Hd.fre (c : Hd fa fn cs ds w K mg h) (i : Nat) {x : Str} (e : fa[i]? = some (.free x)) : mg x = none := He.free_ok c.X c.G (c.c.fact i e)
end
/-- a maker's lambdas -/
theorem lamOk_of {Pg : Program} {w : World} {K : PySem.W.Frag} {mg : Str → Option Value} {base h : Heap} {T : Tab} {x : Str} {j k : Nat} {params : Arguments} {body : List Stmt} {sc : Scope} {fd : FuncData} {g : Addr} (t : TabOk K h) (mb : makerB K x = true) (F : FunD K x x params body sc [] [] (He.ga K x) fd)
    (tbs : ∀ p ∈ (codesOf K).map (fun q => (q.1, q.2.1)), LamX.TabB base mg p.1 p.2) (B : BadI Pg K mg) (gC : mg "BadThing" = some (.ref (He.ga K "BadThing"))) (rf : RfD K mg g) (rp : mg "repr" = none) (hf : AllG false Pg w K mg base j T.lf) (hx : AllX Pg w K mg base (He.ga K "BadThing") j T.lf) (le : Nat.ble (j + 2) k = true) :
    LamOk Pg w K mg base T (He.ga K x) x k true := by
  obtain ⟨oc, od, dV, kV, doc, pm, an, cdv, ct, osl, rfl, lk, hcd, _, _⟩ := F.ex
  unfold makerB makerL at mb
  rw [lk] at mb
  dsimp only at mb
  have key : ∃ c tp, cdv = .ref c ∧ codeAt K ⟨oc, od, .func (PySem.W.fnOf x x params body sc dV kV doc pm an cdv ct), osl⟩ = [(c, tp, (x ++ ".<locals>." : Str) ++ "<lambda>")] := by
    unfold codeAt at mb ⊢
    dsimp only at mb ⊢
    cases cdv with
    | ref c =>
      dsimp only at mb ⊢
      cases q : K.lookup c with
      | none => rw [q] at mb; cases mb
      | some o2 =>
        rw [q] at mb
        dsimp only at mb ⊢
        cases q2 : tab11 o2 with
        | none => rw [q2] at mb; cases mb
        | some tp => exact ⟨c, tp, rfl, rfl⟩
    | _ => cases mb
  obtain ⟨c, tp, rfl, ec⟩ := key
  have mem : (c, tp, (x ++ ".<locals>." : Str) ++ "<lambda>") ∈ codesOf K := List.mem_flatMap.mpr ⟨(He.ga K x, ⟨oc, od, .func (PySem.W.fnOf x x params body sc dV kV doc pm an (.ref c) ct), osl⟩), PySem.W.mem_of_lookupK lk, by show _ ∈ codeAt K _; rw [ec]; exact List.mem_cons_self⟩
  refine ⟨rfl, j, _, g, c, tp, Nat.le_of_ble_eq_true le, tbs (c, tp) (List.mem_map.mpr ⟨_, mem, rfl⟩), fun oc2 od2 osl2 fd2 e => ?_, List.mem_map.mpr ⟨_, mem, rfl⟩, fun p hp e => ?_, B.1, gC, rf, rp, hf, hx⟩
  · rw [lk] at e
    cases e
    rfl
  · obtain ⟨r, hr, rfl⟩ := List.mem_map.mp hp
    rw [ec] at mb
    dsimp only at mb
    rw [HandSHeadRun.frNat_eq] at mb
    have z := List.all_eq_true.mp mb r hr
    have e2 : r.2.1 = tp := e
    rw [e2, show Nat.beq tp tp = true from Nat.beq_refl tp] at z
    exact of_decide_eq_true z
theorem law_rp {K : PySem.W.Frag} {H : Hp} {P : AP'} : ∀ ns : List Int, RpAll K H P (ns.map V.int) (ns.map PyData.int)
  | [] => .nil
  | n :: ns => .cons (.int n) (law_rp ns)
/-- the law's promise at the top -/
theorem law_sp {K : PySem.W.Frag} {F : FnS} {H : Hp} {a : Addr} {ns : List Int} (tH : ∀ p ∈ (codesOf K).map (fun q => (q.1, q.2.1)), H p.2 = some (.tbl #[])) (hS : SqL K H a (ns.map V.int)) (only : ∀ b, b ∉ ((codesOf K).map (fun q => (q.1, q.2.1))).map (·.2) → H b = none ∨ ∃ o xs, H b = some (.frz o (.lst xs)))
    (h : ∃ s', F [.scr (ns.map .int)] [] = .ok (.dat (.bool true)) s') : spOf K F [.ref a] H (fun v _ => v = .bl true) fun _ _ _ => False := by
  obtain ⟨s', h⟩ := h
  refine ⟨[], fun _ => False, [.scr (ns.map .int)], [], ⟨rfl, List.nodup_nil, fun a z => (List.not_mem_nil z).elim, fun a z => z.elim, fun n a z => by simp at z, fun p hp => ?_⟩, .cons (.scr ?_ (law_rp ns)) .nil, _, _, h, fun u H' _ _ r => ?_⟩
  · obtain ⟨q, hq, rfl⟩ := List.mem_map.mp hp
    exact LamX.TabS.nil (tH (q.1, q.2.1) (List.mem_map.mpr ⟨q, hq, rfl⟩))
  · rcases hS with (hS | ⟨o, hS⟩) | hS
    · by_cases z : a ∈ ((codesOf K).map (fun q => (q.1, q.2.1))).map (·.2)
      · obtain ⟨p, hp, rfl⟩ := List.mem_map.mp z
        rw [tH p hp] at hS
        cases hS
      · rcases only a z with q | ⟨o, xs, q⟩
        · rw [hS] at q; cases q
        · rw [hS] at q; cases q
    · exact .inl ⟨o, hS⟩
    · exact .inr fun H' => .inr hS
  · cases r with
    | dat r => cases r; rfl
/-- BadThing by the checks -/
theorem badI_of {prog : Program} {K : PySem.W.Frag} {mg : Str → Option Value} {fa : List He.Fa} {fn : List He.DefD} {cs : CT} {mk : List Str} {ds : DT} {w : World} {h : Heap} {p1 p2 : Pos} {msg : Str} {k : Nat} {q0 q1 q2 q3 q4 q5 q6 q7 q8 q9 : Pos} (S : SaysC prog fa fn cs mk (biVal p1 p2 msg k q0 q1 q2 q3 q4 q5 q6 q7 q8 q9) ds w h K) (hm : mk.isEmpty = false) (gC : mg "BadThing" = some (.ref (He.ga K "BadThing"))) (gS : mg "super" = none)
    (top : (prog.main.scope.names.lookup ("super" : Str)).isSome = false) (hl : (q2.endLine == q4.line) = true) : BadI prog K mg := by
  have b1 := S.bi
  have b2 := S.bc
  cases mk with
  | nil => cases hm
  | cons x r => exact badT_of b1 b2 gC gS top hl
end Ev
namespace Ev
open PySem
def G_NOUGHT : PyData := (.tuple [(.int (0)), (.int (1))])
def G_MOST_CORNERS : PyData := (.int (6))
def G_MOST_OFFERS : PyData := (.int (12))
def G_MOST_BELOW : PyData := (.int (12))
def B_is_whole : MS := sRet (eAnd (eIsi .int (eVar 0)) (eNot (eIsi .bool (eVar 0))))
def F_is_whole : FnS := fnS 1 1 B_is_whole
def B_is_from : MS := sRet (eAnd (eCall F_is_whole (aCons (eVar 0) (aNil))) (eChain pLe pLe (eVar 1) (eVar 0) (eVar 2)))
def F_is_from : FnS := fnS 3 3 B_is_from
def B_is_many : MS := sRet (eAnd (eIsi .tuple (eVar 0)) (eCmp pEq (eBlt bLen (aCons (eVar 0) (aNil))) (eVar 1)))
def F_is_many : FnS := fnS 2 2 B_is_many
def B_lean : MS := sCons (sIf (eCmp pLt (eVar 1) (eCst (.int (0)))) (sPar [0, 1] (aCons (e1 pNeg (eVar 0)) (aCons (e1 pNeg (eVar 1)) (aNil)))) (sNil)) (sCons (sPar [2, 3] (aCons (eBlt bAbs (aCons (eVar 0) (aNil))) (aCons (eVar 1) (aNil)))) (sCons (sWh (eCmp pGt (eVar 3) (eCst (.int (0)))) (sPar [2, 3] (aCons (eVar 3) (aCons (e2 pSub (eVar 2) (e2 pMul (eVar 3) (e2 pDiv (eVar 2) (eVar 3)))) (aNil))))) (sRet (eTup (aCons (e2 pDiv (eVar 0) (eVar 2)) (aCons (e2 pDiv (eVar 1) (eVar 2)) (aNil)))))))
def F_lean : FnS := fnS 2 4 B_lean
def B_is_fraction : MS := sCons (sIf (eOr (eNot (eCall F_is_many (aCons (eVar 0) (aCons (eCst (.int (2))) (aNil))))) (eOr (eNot (eCall F_is_whole (aCons (e2 pIx (eVar 0) (eCst (.int (0)))) (aNil)))) (eOr (eNot (eCall F_is_whole (aCons (e2 pIx (eVar 0) (eCst (.int (1)))) (aNil)))) (eCmp pLt (e2 pIx (eVar 0) (eCst (.int (1)))) (eCst (.int (1))))))) (sRet (eCst (.bool false))) (sNil)) (sRet (eCmp pEq (eCall F_leanP (aCons (e2 pIx (eVar 0) (eCst (.int (0)))) (aCons (e2 pIx (eVar 0) (eCst (.int (1)))) (aNil)))) (eVar 0)))
def F_is_fraction : FnS := fnS 1 1 B_is_fraction
def B_plus : MS := sRet (eCall F_leanP (aCons (e2 pAdd (e2 pMul (e2 pIx (eVar 0) (eCst (.int (0)))) (e2 pIx (eVar 1) (eCst (.int (1))))) (e2 pMul (e2 pIx (eVar 1) (eCst (.int (0)))) (e2 pIx (eVar 0) (eCst (.int (1)))))) (aCons (e2 pMul (e2 pIx (eVar 0) (eCst (.int (1)))) (e2 pIx (eVar 1) (eCst (.int (1))))) (aNil))))
def F_plus : FnS := fnS 2 2 B_plus
def B_minus : MS := sRet (eCall F_leanP (aCons (e2 pSub (e2 pMul (e2 pIx (eVar 0) (eCst (.int (0)))) (e2 pIx (eVar 1) (eCst (.int (1))))) (e2 pMul (e2 pIx (eVar 1) (eCst (.int (0)))) (e2 pIx (eVar 0) (eCst (.int (1)))))) (aCons (e2 pMul (e2 pIx (eVar 0) (eCst (.int (1)))) (e2 pIx (eVar 1) (eCst (.int (1))))) (aNil))))
def F_minus : FnS := fnS 2 2 B_minus
def B_times : MS := sRet (eCall F_leanP (aCons (e2 pMul (e2 pIx (eVar 0) (eCst (.int (0)))) (e2 pIx (eVar 1) (eCst (.int (0))))) (aCons (e2 pMul (e2 pIx (eVar 0) (eCst (.int (1)))) (e2 pIx (eVar 1) (eCst (.int (1))))) (aNil))))
def F_times : FnS := fnS 2 2 B_times
def B_over : MS := sRet (eCall F_leanP (aCons (e2 pMul (e2 pIx (eVar 0) (eCst (.int (0)))) (e2 pIx (eVar 1) (eCst (.int (1))))) (aCons (e2 pMul (e2 pIx (eVar 0) (eCst (.int (1)))) (e2 pIx (eVar 1) (eCst (.int (0))))) (aNil))))
def F_over : FnS := fnS 2 2 B_over
def B_less : MS := sRet (eCmp pLt (e2 pMul (e2 pIx (eVar 0) (eCst (.int (0)))) (e2 pIx (eVar 1) (eCst (.int (1))))) (e2 pMul (e2 pIx (eVar 1) (eCst (.int (0)))) (e2 pIx (eVar 0) (eCst (.int (1))))))
def F_less : FnS := fnS 2 2 B_less
def B_no_more : MS := sRet (eCmp pLe (e2 pMul (e2 pIx (eVar 0) (eCst (.int (0)))) (e2 pIx (eVar 1) (eCst (.int (1))))) (e2 pMul (e2 pIx (eVar 1) (eCst (.int (0)))) (e2 pIx (eVar 0) (eCst (.int (1))))))
def F_no_more : FnS := fnS 2 2 B_no_more
def B_greater : MS := sRet (eIf (eCall P_less (aCons (eVar 0) (aCons (eVar 1) (aNil)))) (eVar 1) (eVar 0))
def F_greater : FnS := fnS 2 2 B_greater
def B_most_of : MS := sCons (sSet 1 (e2 pIx (eVar 0) (eCst (.int (0))))) (sCons (sForX (eSl (eVar 0) (oSome (eCst (.int (1)))) (oNone)) (.nm 2) (sSet 1 (eCall F_greater (aCons (eVar 1) (aCons (eVar 2) (aNil)))))) (sRet (eVar 1)))
def F_most_of : FnS := fnS 1 3 B_most_of
def B_is_point : MS := sRet (eAnd (eCall F_is_many (aCons (eVar 0) (aCons (eCst (.int (2))) (aNil)))) (eAnd (eCall P_is_fraction (aCons (e2 pIx (eVar 0) (eCst (.int (0)))) (aNil))) (eCall P_is_fraction (aCons (e2 pIx (eVar 0) (eCst (.int (1)))) (aNil)))))
def F_is_point : FnS := fnS 1 1 B_is_point
def B_is_lot : MS := sCons (sIf (eOr (eNot (eCall F_is_many (aCons (eVar 0) (aCons (eCst (.int (2))) (aNil))))) (eOr (eNot (eIsi .tuple (e2 pIx (eVar 0) (eCst (.int (0)))))) (eNot (eChain pLe pLe (eCst (.int (1))) (eBlt bLen (aCons (e2 pIx (eVar 0) (eCst (.int (0)))) (aNil))) (eCst G_MOST_CORNERS))))) (sRet (eCst (.bool false))) (sNil)) (sCons (sIf (eOr (eNot (eCall F_is_point (aCons (e2 pIx (eVar 0) (eCst (.int (1)))) (aNil)))) (eNot (eBlt bAll (aCons (eLc (iSeq (e2 pIx (eVar 0) (eCst (.int (0))))) (.nm 1) [1] (tYes) (eCall F_is_point (aCons (eVar 1) (aNil)))) (aNil))))) (sRet (eCst (.bool false))) (sNil)) (sCons (sSet 2 (e2 pIx (eVar 0) (eCst (.int (1))))) (sCons (sIf (eNot (eBlt bAll (aCons (eLc2 (iSeq (e2 pIx (eVar 0) (eCst (.int (0))))) (.nm 1) [1, 3] (tYes) (iSeq (eTup (aCons (eCst (.int (0))) (aCons (eCst (.int (1))) (aNil))))) (.nm 3) [3] (tYes) (eCall P_no_more (aCons (e2 pIx (eVar 2) (eVar 3)) (aCons (e2 pIx (eVar 1) (eVar 3)) (aNil))))) (aNil)))) (sRet (eCst (.bool false))) (sNil)) (sRet (eBlt bAll (aCons (eLc (iSeq (eTup (aCons (eCst (.int (0))) (aCons (eCst (.int (1))) (aNil))))) (.nm 3) [3] (tYes) (eBlt bAny (aCons (eLc (iSeq (e2 pIx (eVar 0) (eCst (.int (0))))) (.nm 1) [1] (tYes) (eCall P_less (aCons (e2 pIx (eVar 2) (eVar 3)) (aCons (e2 pIx (eVar 1) (eVar 3)) (aNil))))) (aNil)))) (aNil)))))))
def F_is_lot : FnS := fnS 1 4 B_is_lot
def B_check_lot : MS := sIf (eNot (eCall F_is_lot (aCons (eVar 0) (aNil)))) (sRaise (eVar 0)) (sNil)
def F_check_lot : FnS := fnS 1 1 B_check_lot
def B_check_point : MS := sIf (eNot (eCall F_is_point (aCons (eVar 0) (aNil)))) (sRaise (eVar 0)) (sNil)
def F_check_point : FnS := fnS 1 1 B_check_point
def B_gains_at : MS := sCons (sExp (eCall F_check_lot (aCons (eVar 0) (aNil)))) (sCons (sExp (eCall F_check_point (aCons (eVar 1) (aNil)))) (sRet (eTup (aCons (eCall P_minus (aCons (e2 pIx (eVar 1) (eCst (.int (0)))) (aCons (e2 pIx (e2 pIx (eVar 0) (eCst (.int (1)))) (eCst (.int (0)))) (aNil)))) (aCons (eCall P_minus (aCons (e2 pIx (eVar 1) (eCst (.int (1)))) (aCons (e2 pIx (e2 pIx (eVar 0) (eCst (.int (1)))) (eCst (.int (1)))) (aNil)))) (aNil))))))
def F_gains_at : FnS := fnS 2 2 B_gains_at
def B_point_at : MS := sCons (sExp (eCall F_check_lot (aCons (eVar 0) (aNil)))) (sCons (sExp (eCall F_check_point (aCons (eVar 1) (aNil)))) (sRet (eTup (aCons (eCall P_plus (aCons (e2 pIx (eVar 1) (eCst (.int (0)))) (aCons (e2 pIx (e2 pIx (eVar 0) (eCst (.int (1)))) (eCst (.int (0)))) (aNil)))) (aCons (eCall P_plus (aCons (e2 pIx (eVar 1) (eCst (.int (1)))) (aCons (e2 pIx (e2 pIx (eVar 0) (eCst (.int (1)))) (eCst (.int (1)))) (aNil)))) (aNil))))))
def F_point_at : FnS := fnS 2 2 B_point_at
def B_corner_gains : MS := sRet (eLc (iSeq (e2 pIx (eVar 0) (eCst (.int (0))))) (.nm 1) [1] (tYes) (eTup (aCons (eCall P_minus (aCons (e2 pIx (eVar 1) (eCst (.int (0)))) (aCons (e2 pIx (e2 pIx (eVar 0) (eCst (.int (1)))) (eCst (.int (0)))) (aNil)))) (aCons (eCall P_minus (aCons (e2 pIx (eVar 1) (eCst (.int (1)))) (aCons (e2 pIx (e2 pIx (eVar 0) (eCst (.int (1)))) (eCst (.int (1)))) (aNil)))) (aNil)))))
def F_corner_gains : FnS := fnS 1 2 B_corner_gains
def B_bests_of : MS := sCons (sExp (eCall F_check_lot (aCons (eVar 0) (aNil)))) (sCons (sSet 1 (eCall F_corner_gains (aCons (eVar 0) (aNil)))) (sRet (eTup (aCons (eCall F_most_of (aCons (eLc (iSeq (eVar 1)) (.nm 2) [2] (tYes) (e2 pIx (eVar 2) (eCst (.int (0))))) (aNil))) (aCons (eCall F_most_of (aCons (eLc (iSeq (eVar 1)) (.nm 2) [2] (tYes) (e2 pIx (eVar 2) (eCst (.int (1))))) (aNil))) (aNil))))))
def F_bests_of : FnS := fnS 1 3 B_bests_of
def B_is_left_of : MS := sRet (eOr (eCall P_less (aCons (e2 pIx (eVar 0) (eCst (.int (0)))) (aCons (e2 pIx (eVar 1) (eCst (.int (0)))) (aNil)))) (eAnd (eCmp pEq (e2 pIx (eVar 0) (eCst (.int (0)))) (e2 pIx (eVar 1) (eCst (.int (0))))) (eCall P_less (aCons (e2 pIx (eVar 0) (eCst (.int (1)))) (aCons (e2 pIx (eVar 1) (eCst (.int (1)))) (aNil))))))
def F_is_left_of : FnS := fnS 2 2 B_is_left_of
def B_in_order : MS := sCons (sNew 1 (eLst (aNil))) (sCons (sForX (eVar 0) (.nm 2) (sIf (eCmp pNotIn (eVar 2) (eVar 1)) (sCons (sSet 3 (eBlt bLen (aCons (eLc (iSeq (eVar 1)) (.nm 4) [4] (tOf (eCall F_is_left_of (aCons (eVar 4) (aCons (eVar 2) (aNil))))) (eVar 4)) (aNil)))) (sExp (eIns (eVar 1) (eVar 3) (eVar 2)))) (sNil))) (sRet (eVar 1)))
def F_in_order : FnS := fnS 1 5 B_in_order
def B_turns_up : MS := sCons (sPar [3, 4] (aCons (eCall P_minus (aCons (e2 pIx (eVar 2) (eCst (.int (0)))) (aCons (e2 pIx (eVar 0) (eCst (.int (0)))) (aNil)))) (aCons (eCall P_minus (aCons (e2 pIx (eVar 2) (eCst (.int (1)))) (aCons (e2 pIx (eVar 0) (eCst (.int (1)))) (aNil)))) (aNil)))) (sRet (eCall P_no_more (aCons (eCall P_times (aCons (eCall P_minus (aCons (e2 pIx (eVar 1) (eCst (.int (1)))) (aCons (e2 pIx (eVar 0) (eCst (.int (1)))) (aNil)))) (aCons (eVar 3) (aNil)))) (aCons (eCall P_times (aCons (eVar 4) (aCons (eCall P_minus (aCons (e2 pIx (eVar 1) (eCst (.int (0)))) (aCons (e2 pIx (eVar 0) (eCst (.int (0)))) (aNil)))) (aNil)))) (aNil)))))
def F_turns_up : FnS := fnS 3 5 B_turns_up
def B_outer_gains : MS := sCons (sSet 1 (eCall F_in_order (aCons (eCall F_corner_gains (aCons (eVar 0) (aNil))) (aNil)))) (sCons (sSet 2 (eCall F_most_of (aCons (eLc (iSeq (eVar 1)) (.nm 3) [3] (tYes) (e2 pIx (eVar 3) (eCst (.int (1))))) (aNil)))) (sCons (sSet 4 (eBlt bMax (aCons (eLc (iEnum (eVar 1)) (.tup [.nm 5, .nm 3]) [5, 3] (tOf (eCmp pEq (e2 pIx (eVar 3) (eCst (.int (1)))) (eVar 2))) (eVar 5)) (aNil)))) (sCons (sNew 6 (eLst (aNil))) (sCons (sForX (eSl (eVar 1) (oSome (eVar 4)) (oNone)) (.nm 3) (sCons (sWh (eAnd (eCmp pNe (eVar 6) (eLst (aNil))) (eAnd (eCall P_no_more (aCons (e2 pIx (e2 pIx (eVar 6) (e1 pNeg (eCst (.int (1))))) (eCst (.int (1)))) (aCons (e2 pIx (eVar 3) (eCst (.int (1)))) (aNil)))) (eCmp pEq (e2 pIx (e2 pIx (eVar 6) (e1 pNeg (eCst (.int (1))))) (eCst (.int (0)))) (e2 pIx (eVar 3) (eCst (.int (0))))))) (sExp (ePop (eVar 6)))) (sCons (sWh (eAnd (eCmp pGt (eBlt bLen (aCons (eVar 6) (aNil))) (eCst (.int (1)))) (eCall F_turns_up (aCons (e2 pIx (eVar 6) (e1 pNeg (eCst (.int (2))))) (aCons (e2 pIx (eVar 6) (e1 pNeg (eCst (.int (1))))) (aCons (eVar 3) (aNil)))))) (sExp (ePop (eVar 6)))) (sExp (eApp (eVar 6) (eVar 3)))))) (sRet (eVar 6))))))
def F_outer_gains : FnS := fnS 1 7 B_outer_gains
def B_other_at : MS := sCons (sIf (eCall P_less (aCons (e2 pIx (e2 pIx (eVar 0) (e1 pNeg (eCst (.int (1))))) (eCst (.int (0)))) (aCons (eVar 1) (aNil)))) (sRet (eCst .none)) (sNil)) (sCons (sIf (eCall P_no_more (aCons (eVar 1) (aCons (e2 pIx (e2 pIx (eVar 0) (eCst (.int (0)))) (eCst (.int (0)))) (aNil)))) (sRet (e2 pIx (e2 pIx (eVar 0) (eCst (.int (0)))) (eCst (.int (1))))) (sNil)) (sCons (sFor (iZip (eVar 0) (eSl (eVar 0) (oSome (eCst (.int (1)))) (oNone))) (.tup [.nm 2, .nm 3]) (sIf (eCall P_no_more (aCons (eVar 1) (aCons (e2 pIx (eVar 3) (eCst (.int (0)))) (aNil)))) (sCons (sSet 4 (eCall P_over (aCons (eCall P_minus (aCons (eVar 1) (aCons (e2 pIx (eVar 2) (eCst (.int (0)))) (aNil)))) (aCons (eCall P_minus (aCons (e2 pIx (eVar 3) (eCst (.int (0)))) (aCons (e2 pIx (eVar 2) (eCst (.int (0)))) (aNil)))) (aNil))))) (sRet (eCall P_plus (aCons (e2 pIx (eVar 2) (eCst (.int (1)))) (aCons (eCall P_times (aCons (eVar 4) (aCons (eCall P_minus (aCons (e2 pIx (eVar 3) (eCst (.int (1)))) (aCons (e2 pIx (eVar 2) (eCst (.int (1)))) (aNil)))) (aNil)))) (aNil)))))) (sNil))) (sRet (e2 pIx (e2 pIx (eVar 0) (e1 pNeg (eCst (.int (1))))) (eCst (.int (1)))))))
def F_other_at : FnS := fnS 2 5 B_other_at
def B_turned_rows : MS := sRet (eLc (iSeq (e1 pRev (eVar 0))) (.nm 1) [1] (tYes) (eTup (aCons (e2 pIx (eVar 1) (eCst (.int (1)))) (aCons (e2 pIx (eVar 1) (eCst (.int (0)))) (aNil)))))
def F_turned_rows : FnS := fnS 1 2 B_turned_rows
def B_is_in : MS := sCons (sSet 2 (eCall F_gains_at (aCons (eVar 0) (aCons (eVar 1) (aNil))))) (sCons (sIf (eOr (eCall P_less (aCons (e2 pIx (eVar 2) (eCst (.int (0)))) (aCons (eCst G_NOUGHT) (aNil)))) (eCall P_less (aCons (e2 pIx (eVar 2) (eCst (.int (1)))) (aCons (eCst G_NOUGHT) (aNil))))) (sRet (eCst (.bool false))) (sNil)) (sCons (sSet 3 (eCall F_other_at (aCons (eCall F_outer_gains (aCons (eVar 0) (aNil))) (aCons (e2 pIx (eVar 2) (eCst (.int (0)))) (aNil))))) (sRet (eAnd (eCmp pIsNot (eVar 3) (eCst .none)) (eCall P_no_more (aCons (e2 pIx (eVar 2) (eCst (.int (1)))) (aCons (eVar 3) (aNil))))))))
def F_is_in : FnS := fnS 2 4 B_is_in
def B_is_full : MS := sCons (sIf (eNot (eCall F_is_in (aCons (eVar 0) (aCons (eVar 1) (aNil))))) (sRet (eCst (.bool false))) (sNil)) (sCons (sPar [2, 3] (aCons (eCall F_gains_at (aCons (eVar 0) (aCons (eVar 1) (aNil)))) (aCons (eCall F_outer_gains (aCons (eVar 0) (aNil))) (aNil)))) (sRet (eOr (eCmp pEq (e2 pIx (eVar 2) (eCst (.int (1)))) (eCall F_other_at (aCons (eVar 3) (aCons (e2 pIx (eVar 2) (eCst (.int (0)))) (aNil))))) (eCmp pEq (e2 pIx (eVar 2) (eCst (.int (0)))) (e2 pIx (e2 pIx (eVar 3) (e1 pNeg (eCst (.int (1))))) (eCst (.int (0))))))))
def F_is_full : FnS := fnS 2 4 B_is_full
def B_is_share : MS := sRet (eAnd (eCall P_is_fraction (aCons (eVar 0) (aNil))) (eAnd (eCmp pLe (e2 pIx (eVar 0) (eCst (.int (1)))) (eCst G_MOST_BELOW)) (eAnd (eCall P_less (aCons (eCst G_NOUGHT) (aCons (eVar 0) (aNil)))) (eCall P_less (aCons (eVar 0) (aCons (eTup (aCons (eCst (.int (1))) (aCons (eCst (.int (1))) (aNil)))) (aNil)))))))
def F_is_share : FnS := fnS 1 1 B_is_share
def B_is_patience : MS := sRet (eAnd (eCall F_is_many (aCons (eVar 0) (aCons (eCst (.int (2))) (aNil)))) (eAnd (eCall F_is_share (aCons (e2 pIx (eVar 0) (eCst (.int (0)))) (aNil))) (eCall F_is_share (aCons (e2 pIx (eVar 0) (eCst (.int (1)))) (aNil)))))
def F_is_patience : FnS := fnS 1 1 B_is_patience
def B_check_patience : MS := sIf (eNot (eCall F_is_patience (aCons (eVar 0) (aNil)))) (sRaise (eVar 0)) (sNil)
def F_check_patience : FnS := fnS 1 1 B_check_patience
def B_first_offer : MS := sCons (sSet 2 (eCall F_other_at (aCons (eCall F_turned_rows (aCons (eVar 0) (aNil))) (aCons (eVar 1) (aNil))))) (sRet (eTup (aCons (eVar 2) (aCons (eCall F_other_at (aCons (eVar 0) (aCons (eVar 2) (aNil)))) (aNil)))))
def F_first_offer : FnS := fnS 2 3 B_first_offer
def B_second_offer : MS := sCons (sSet 2 (eCall F_other_at (aCons (eVar 0) (aCons (eVar 1) (aNil))))) (sRet (eTup (aCons (eCall F_other_at (aCons (eCall F_turned_rows (aCons (eVar 0) (aNil))) (aCons (eVar 2) (aNil)))) (aCons (eVar 2) (aNil)))))
def F_second_offer : FnS := fnS 2 3 B_second_offer
def B_offers_left : MS := sCons (sExp (eCall F_check_lot (aCons (eVar 0) (aNil)))) (sCons (sExp (eCall F_check_patience (aCons (eVar 1) (aNil)))) (sCons (sIf (eNot (eCall F_is_from (aCons (eVar 2) (aCons (eCst (.int (1))) (aCons (eCst G_MOST_OFFERS) (aNil)))))) (sRaise (eVar 2)) (sNil)) (sCons (sPar [3, 4, 5] (aCons (eCall F_outer_gains (aCons (eVar 0) (aNil))) (aNew (eLst (aNil)) (aCons (eTup (aCons (eCst G_NOUGHT) (aCons (eCst G_NOUGHT) (aNil)))) (aNil))))) (sCons (sFor (iRng1 (eVar 2)) (.nm 6) (sCons (sPar [7, 8] (aCons (eCall F_first_offer (aCons (eVar 3) (aCons (eCall P_times (aCons (e2 pIx (eVar 1) (eCst (.int (1)))) (aCons (e2 pIx (eVar 5) (eCst (.int (1)))) (aNil)))) (aNil)))) (aCons (eCall F_second_offer (aCons (eVar 3) (aCons (eCall P_times (aCons (e2 pIx (eVar 1) (eCst (.int (0)))) (aCons (e2 pIx (eVar 5) (eCst (.int (0)))) (aNil)))) (aNil)))) (aNil)))) (sCons (sExp (eApp (eVar 4) (eTup (aCons (eCall F_point_at (aCons (eVar 0) (aCons (eVar 7) (aNil)))) (aCons (eCall F_point_at (aCons (eVar 0) (aCons (eVar 8) (aNil)))) (aNil)))))) (sSet 5 (eTup (aCons (e2 pIx (eVar 7) (eCst (.int (0)))) (aCons (e2 pIx (eVar 8) (eCst (.int (1)))) (aNil)))))))) (sRet (eBlt bTuple (aCons (eVar 4) (aNil))))))))
def F_offers_left : FnS := fnS 3 9 B_offers_left
def B_step_apart : MS := sCons (sExp (eCall F_check_lot (aCons (eVar 0) (aNil)))) (sCons (sExp (eCall F_check_patience (aCons (eVar 1) (aNil)))) (sCons (sIf (eNot (eCall F_is_from (aCons (eVar 2) (aCons (eCst (.int (2))) (aCons (eCst G_MOST_OFFERS) (aNil)))))) (sRaise (eVar 2)) (sNil)) (sCons (sSet 3 (eCall F_offers_left (aCons (eVar 0) (aCons (eVar 1) (aCons (eVar 2) (aNil)))))) (sCons (sPar [4, 5] (aCons (e2 pIx (e2 pIx (e2 pIx (eVar 3) (e1 pNeg (eCst (.int (1))))) (eCst (.int (0)))) (eCst (.int (0)))) (aCons (e2 pIx (e2 pIx (e2 pIx (eVar 3) (e1 pNeg (eCst (.int (2))))) (eCst (.int (0)))) (eCst (.int (0)))) (aNil)))) (sRet (eIf (eCall P_less (aCons (eVar 5) (aCons (eVar 4) (aNil)))) (eCall P_minus (aCons (eVar 4) (aCons (eVar 5) (aNil)))) (eCall P_minus (aCons (eVar 5) (aCons (eVar 4) (aNil))))))))))
def F_step_apart : FnS := fnS 3 6 B_step_apart
def B__law_cell_at : MS := sCons (sIf (eCmp pLt (eVar 1) (eBlt bLen (aCons (eVar 0) (aNil)))) (sRet (e2 pIx (eVar 0) (eVar 1))) (sNil)) (sRet (eCst (.int (0))))
def F__law_cell_at : FnS := fnS 2 2 B__law_cell_at
def B__law_draw : MS := sCons (sSet 3 (eTup (aCons (eCst (.int (1000003))) (aCons (eCst (.int (1000033))) (aCons (eCst (.int (1000037))) (aCons (eCst (.int (1000039))) (aCons (eCst (.int (1000081))) (aCons (eCst (.int (1000099))) (aCons (eCst (.int (1000117))) (aCons (eCst (.int (1000121))) (aCons (eCst (.int (1000133))) (aCons (eCst (.int (1000151))) (aCons (eCst (.int (1000159))) (aCons (eCst (.int (1000171))) (aCons (eCst (.int (1000183))) (aCons (eCst (.int (1000187))) (aCons (eCst (.int (1000193))) (aCons (eCst (.int (1000199))) (aNil))))))))))))))))))) (sRet (e2 pMod (e2 pMod (eBlt bInt (aCons (e2 pAdd (e2 pMul (eVar 0) (eCst (.int (48271)))) (e2 pMul (eVar 1) (eCst (.int (69621))))) (aNil))) (e2 pIx (eVar 3) (e2 pMod (eBlt bInt (aCons (eVar 1) (aNil))) (eCst (.int (16)))))) (eVar 2)))
def F__law_draw : FnS := fnS 3 4 B__law_draw
def B__law_number : MS := sCons (sSet 3 (eCst (.int (1)))) (sCons (sFor (iRng1 (e2 pMod (eBlt bInt (aCons (eVar 1) (aNil))) (eCst (.int (24))))) (.nm 4) (sSet 3 (e2 pMul (eVar 3) (eCst (.int (1009)))))) (sCons (sSet 5 (e2 pDiv (e2 pSub (eVar 0) (e2 pPow (eCst (.int (10))) (eCst (.int (18))))) (eVar 3))) (sCons (sIf (eCmp pGt (eVar 5) (eCst (.int (0)))) (sRet (e2 pMod (e2 pMod (eBlt bInt (aCons (eVar 5) (aNil))) (eCst (.int (1009)))) (eVar 2))) (sNil)) (sCons (sSet 6 (e2 pMod (eBlt bInt (aCons (eVar 0) (aNil))) (eCst (.int (1000003))))) (sRet (e2 pMod (eCall F__law_draw (aCons (e2 pMul (e2 pAdd (eVar 6) (e2 pMul (eCst (.int (977))) (eVar 1))) (e2 pAdd (e2 pAdd (eVar 6) (e2 pMul (eCst (.int (31))) (eVar 1))) (eCst (.int (5))))) (aCons (e2 pAdd (e2 pMod (eBlt bInt (aCons (eVar 1) (aNil))) (eCst (.int (9)))) (eCst (.int (1)))) (aCons (eCst (.int (999983))) (aNil))))) (eVar 2)))))))
def F__law_number : FnS := fnS 3 7 B__law_number
def B__law_next : MS := sCons (sSub (eVar 0) (eCst (.int (2))) (e2 pAdd (e2 pIx (eVar 0) (eCst (.int (2)))) (eCst (.int (1))))) (sCons (sSet 2 (e2 pDiv (e2 pIx (eVar 0) (eCst (.int (2)))) (eCst (.int (12))))) (sCons (sSet 3 (e2 pAdd (eCall F__law_cell_at (aCons (e2 pIx (eVar 0) (eCst (.int (0)))) (aCons (e2 pAdd (e2 pIx (eVar 0) (eCst (.int (1)))) (eVar 2)) (aNil)))) (e2 pMul (eCst (.int (31))) (eVar 2)))) (sRet (eCall F__law_number (aCons (eVar 3) (aCons (e2 pAdd (e2 pMod (eBlt bInt (aCons (e2 pIx (eVar 0) (eCst (.int (2)))) (aNil))) (eCst (.int (12)))) (eCst (.int (1)))) (aCons (eVar 1) (aNil))))))))
def F__law_next : FnS := fnS 2 4 B__law_next
def B__law_part : MS := sRet (eCall F_leanP (aCons (eCall F__law_next (aCons (eVar 0) (aCons (eVar 1) (aNil)))) (aCons (e2 pAdd (eCst (.int (1))) (eCall F__law_next (aCons (eVar 0) (aCons (eVar 2) (aNil))))) (aNil))))
def F__law_part : FnS := fnS 3 3 B__law_part
def B__law_lot : MS := sCons (sSet 2 (eTup (aCons (eCall P_minus (aCons (eCall F__law_part (aCons (eVar 0) (aCons (eCst (.int (9))) (aCons (eCst (.int (3))) (aNil))))) (aCons (eTup (aCons (eCst (.int (2))) (aCons (eCst (.int (1))) (aNil)))) (aNil)))) (aCons (eCall P_minus (aCons (eCall F__law_part (aCons (eVar 0) (aCons (eCst (.int (9))) (aCons (eCst (.int (3))) (aNil))))) (aCons (eTup (aCons (eCst (.int (2))) (aCons (eCst (.int (1))) (aNil)))) (aNil)))) (aNil))))) (sCons (sSet 3 (eTup (aNil))) (sCons (sFor (iRng1 (e2 pAdd (eCst (.int (1))) (eCall F__law_next (aCons (eVar 0) (aCons (eVar 1) (aNil)))))) (.nm 4) (sCons (sSet 5 (eTup (aCons (eCall F__law_part (aCons (eVar 0) (aCons (eCst (.int (10))) (aCons (eCst (.int (3))) (aNil))))) (aCons (eCall F__law_part (aCons (eVar 0) (aCons (eCst (.int (10))) (aCons (eCst (.int (3))) (aNil))))) (aNil))))) (sCons (sSet 6 (eIf (eCmp pEq (eVar 4) (eCst (.int (0)))) (eTup (aCons (eCst (.int (1))) (aCons (eCst (.int (1))) (aNil)))) (eTup (aCons (eCst (.int (0))) (aCons (eCst (.int (1))) (aNil)))))) (sSet 3 (e2 pAdd (eVar 3) (eTup (aCons (eTup (aCons (eCall P_plus (aCons (e2 pIx (eVar 2) (eCst (.int (0)))) (aCons (eCall P_plus (aCons (e2 pIx (eVar 5) (eCst (.int (0)))) (aCons (eVar 6) (aNil)))) (aNil)))) (aCons (eCall P_plus (aCons (e2 pIx (eVar 2) (eCst (.int (1)))) (aCons (eCall P_plus (aCons (e2 pIx (eVar 5) (eCst (.int (1)))) (aCons (eVar 6) (aNil)))) (aNil)))) (aNil)))) (aNil)))))))) (sRet (eTup (aCons (eVar 3) (aCons (eVar 2) (aNil)))))))
def F__law_lot : FnS := fnS 2 7 B__law_lot
def B__law_gains : MS := sRet (eLc (iSeq (e2 pIx (eVar 0) (eCst (.int (0))))) (.nm 1) [1] (tYes) (eTup (aCons (eCall P_minus (aCons (e2 pIx (eVar 1) (eCst (.int (0)))) (aCons (e2 pIx (e2 pIx (eVar 0) (eCst (.int (1)))) (eCst (.int (0)))) (aNil)))) (aCons (eCall P_minus (aCons (e2 pIx (eVar 1) (eCst (.int (1)))) (aCons (e2 pIx (e2 pIx (eVar 0) (eCst (.int (1)))) (eCst (.int (1)))) (aNil)))) (aNil)))))
def F__law_gains : FnS := fnS 1 2 B__law_gains
def B__law_more : MS := sRet (eIf (eCall P_less (aCons (eVar 0) (aCons (eVar 1) (aNil)))) (eVar 1) (eVar 0))
def F__law_more : FnS := fnS 2 2 B__law_more
def B__law_high : MS := sCons (sSet 2 (eCst .none)) (sCons (sForX (eVar 0) (.nm 3) (sIf (eNot (eCall P_less (aCons (e2 pIx (eVar 3) (eCst (.int (0)))) (aCons (eVar 1) (aNil))))) (sSet 2 (eIf (eCmp pIs (eVar 2) (eCst .none)) (e2 pIx (eVar 3) (eCst (.int (1)))) (eCall F__law_more (aCons (eVar 2) (aCons (e2 pIx (eVar 3) (eCst (.int (1)))) (aNil)))))) (sNil))) (sCons (sForX (eVar 0) (.nm 3) (sForX (eVar 0) (.nm 4) (sIf (eAnd (eCall P_less (aCons (e2 pIx (eVar 3) (eCst (.int (0)))) (aCons (eVar 1) (aNil)))) (eCall P_less (aCons (eVar 1) (aCons (e2 pIx (eVar 4) (eCst (.int (0)))) (aNil))))) (sCons (sSet 5 (eCall P_over (aCons (eCall P_minus (aCons (eVar 1) (aCons (e2 pIx (eVar 3) (eCst (.int (0)))) (aNil)))) (aCons (eCall P_minus (aCons (e2 pIx (eVar 4) (eCst (.int (0)))) (aCons (e2 pIx (eVar 3) (eCst (.int (0)))) (aNil)))) (aNil))))) (sSet 2 (eCall F__law_more (aCons (eVar 2) (aCons (eCall P_plus (aCons (e2 pIx (eVar 3) (eCst (.int (1)))) (aCons (eCall P_times (aCons (eVar 5) (aCons (eCall P_minus (aCons (e2 pIx (eVar 4) (eCst (.int (1)))) (aCons (e2 pIx (eVar 3) (eCst (.int (1)))) (aNil)))) (aNil)))) (aNil)))) (aNil)))))) (sNil)))) (sRet (eVar 2))))
def F__law_high : FnS := fnS 2 6 B__law_high
def B__law_patience : MS := sCons (sSet 1 (eTup (aNil))) (sCons (sForX (eTup (aCons (eCst (.int (0))) (aCons (eCst (.int (1))) (aNil)))) (.nm 2) (sCons (sSet 3 (e2 pAdd (eCst (.int (2))) (eCall F__law_next (aCons (eVar 0) (aCons (eCst (.int (11))) (aNil)))))) (sSet 1 (e2 pAdd (eVar 1) (eTup (aCons (eCall F_leanP (aCons (e2 pAdd (eCst (.int (1))) (eCall F__law_next (aCons (eVar 0) (aCons (e2 pSub (eVar 3) (eCst (.int (1)))) (aNil))))) (aCons (eVar 3) (aNil)))) (aNil))))))) (sRet (eVar 1)))
def F__law_patience : FnS := fnS 1 4 B__law_patience
def B__law_offer : MS := sCons (sSet 2 (eLc (iSeq (eVar 0)) (.nm 3) [3] (tYes) (eTup (aCons (e2 pIx (eVar 3) (eCst (.int (1)))) (aCons (e2 pIx (eVar 3) (eCst (.int (0)))) (aNil)))))) (sCons (sSet 4 (eCall F__law_high (aCons (eVar 2) (aCons (eVar 1) (aNil))))) (sRet (eTup (aCons (eVar 4) (aCons (eCall F__law_high (aCons (eVar 0) (aCons (eVar 4) (aNil)))) (aNil))))))
def F__law_offer : FnS := fnS 2 5 B__law_offer
def L_law_7_3 : MS := sSet 9 (eTup (aCons (e2 pIx (eVar 11) (eCst (.int (0)))) (aCons (e2 pIx (eVar 12) (eCst (.int (1)))) (aNil))))
def L_law_7_2 : MS := sCons (sIf (eOr (eCmp pNe (eVar 11) (eVar 13)) (eOr (eCmp pNe (eVar 12) (eTup (aCons (e2 pIx (eVar 14) (eCst (.int (1)))) (aCons (e2 pIx (eVar 14) (eCst (.int (0)))) (aNil))))) (eOr (eNot (eCall F_is_full (aCons (eVar 2) (aCons (eVar 7) (aNil))))) (eOr (eNot (eCall F_is_full (aCons (eVar 2) (aCons (eVar 10) (aNil))))) (eOr (eCall P_less (aCons (e2 pIx (eVar 11) (eCst (.int (1)))) (aCons (eCall P_times (aCons (e2 pIx (eVar 3) (eCst (.int (1)))) (aCons (e2 pIx (eVar 9) (eCst (.int (1)))) (aNil)))) (aNil)))) (eCall P_less (aCons (e2 pIx (eVar 12) (eCst (.int (0)))) (aCons (eCall P_times (aCons (e2 pIx (eVar 3) (eCst (.int (0)))) (aCons (e2 pIx (eVar 9) (eCst (.int (0)))) (aNil)))) (aNil))))))))) (sRet (eCst (.bool false))) (sNil)) L_law_7_3
def L_law_7_1 : MS := sCons (sPar [13, 14] (aCons (eCall F__law_offer (aCons (eVar 5) (aCons (eCall P_times (aCons (e2 pIx (eVar 3) (eCst (.int (1)))) (aCons (e2 pIx (eVar 9) (eCst (.int (1)))) (aNil)))) (aNil)))) (aCons (eCall F__law_offer (aCons (eVar 6) (aCons (eCall P_times (aCons (e2 pIx (eVar 3) (eCst (.int (0)))) (aCons (e2 pIx (eVar 9) (eCst (.int (0)))) (aNil)))) (aNil)))) (aNil)))) L_law_7_2
def L_law_7_0 : MS := sCons (sPar [11, 12] (aCons (eCall F_gains_at (aCons (eVar 2) (aCons (eVar 7) (aNil)))) (aCons (eCall F_gains_at (aCons (eVar 2) (aCons (eVar 10) (aNil)))) (aNil)))) L_law_7_1
def L_law_10_2 : MS := sIf (eOr (eCall P_less (aCons (eVar 17) (aCons (eVar 18) (aNil)))) (eCall P_less (aCons (eVar 19) (aCons (eVar 17) (aNil))))) (sRet (eCst (.bool false))) (sNil)
def L_law_10_1 : MS := sCons (sUnp (.tup [.nm 18, .nm 19]) (eIf (eCall P_less (aCons (eVar 13) (aCons (eVar 14) (aNil)))) (eTup (aCons (eVar 13) (aCons (eVar 14) (aNil)))) (eTup (aCons (eVar 14) (aCons (eVar 13) (aNil)))))) L_law_10_2
def L_law_10_0 : MS := sCons (sUnp (.tup [.nm 13, .nm 14, .nm 17]) (eLc (iSeq (eTup (aCons (e2 pSub (eVar 16) (eCst (.int (2)))) (aCons (e2 pSub (eVar 16) (eCst (.int (1)))) (aCons (eVar 16) (aNil)))))) (.nm 20) [20] (tYes) (e2 pIx (eCall F_gains_at (aCons (eVar 2) (aCons (e2 pIx (e2 pIx (eVar 8) (eVar 20)) (eCst (.int (0)))) (aNil)))) (eCst (.int (0)))))) L_law_10_1
def R_law_12 : MS := sRet (eCmp pEq (eCall F_offers_left (aCons (eIf (eCmp pLt (eBlt bLen (aCons (e2 pIx (eVar 2) (eCst (.int (0)))) (aNil))) (eCst (.int (6)))) (eTup (aCons (e2 pAdd (e2 pIx (eVar 2) (eCst (.int (0)))) (eSl (e2 pIx (eVar 2) (eCst (.int (0)))) (oNone) (oSome (eCst (.int (1)))))) (aCons (e2 pIx (eVar 2) (eCst (.int (1)))) (aNil)))) (eVar 2)) (aCons (eVar 3) (aCons (eVar 4) (aNil))))) (eVar 8))
def R_law_11 : MS := sCons (sIf (eCmp pGt (eVar 4) (eCst (.int (1)))) (sCons (sSet 21 (eCall P_minus (aCons (e2 pIx (e2 pIx (e2 pIx (eVar 8) (e1 pNeg (eCst (.int (1))))) (eCst (.int (0)))) (eCst (.int (0)))) (aCons (e2 pIx (e2 pIx (e2 pIx (eVar 8) (e1 pNeg (eCst (.int (2))))) (eCst (.int (0)))) (eCst (.int (0)))) (aNil))))) (sIf (eCmp pNe (eCall F_step_apart (aCons (eVar 2) (aCons (eVar 3) (aCons (eVar 4) (aNil))))) (eIf (eCmp pGe (e2 pIx (eVar 21) (eCst (.int (0)))) (eCst (.int (0)))) (eVar 21) (eCall P_minus (aCons (eTup (aCons (eCst (.int (0))) (aCons (eCst (.int (1))) (aNil)))) (aCons (eVar 21) (aNil)))))) (sRet (eCst (.bool false))) (sNil))) (sNil)) R_law_12
def R_law_10 : MS := sCons (sFor (iRng2 (eCst (.int (2))) (eVar 4)) (.nm 16) L_law_10_0) R_law_11
def R_law_9 : MS := sCons (sIf (eOr (eCmp pNe (e2 pIx (eCall F_gains_at (aCons (eVar 2) (aCons (e2 pIx (e2 pIx (eVar 8) (eCst (.int (0)))) (eCst (.int (0)))) (aNil)))) (eCst (.int (0)))) (e2 pIx (eVar 15) (eCst (.int (0))))) (eCmp pNe (e2 pIx (eCall F_gains_at (aCons (eVar 2) (aCons (e2 pIx (e2 pIx (eVar 8) (eCst (.int (0)))) (eCst (.int (1)))) (aNil)))) (eCst (.int (1)))) (e2 pIx (eVar 15) (eCst (.int (1)))))) (sRet (eCst (.bool false))) (sNil)) R_law_10
def R_law_8 : MS := sCons (sSet 15 (eCall F_bests_of (aCons (eVar 2) (aNil)))) R_law_9
def R_law_7 : MS := sCons (sForX (eVar 8) (.tup [.nm 7, .nm 10]) L_law_7_0) R_law_8
def R_law_6 : MS := sCons (sSet 9 (eTup (aCons (eTup (aCons (eCst (.int (0))) (aCons (eCst (.int (1))) (aNil)))) (aCons (eTup (aCons (eCst (.int (0))) (aCons (eCst (.int (1))) (aNil)))) (aNil))))) R_law_7
def R_law_5 : MS := sCons (sIf (eOr (eNot (eCall F_is_patience (aCons (eVar 3) (aNil)))) (eOr (eCmp pNe (eBlt bLen (aCons (eVar 8) (aNil))) (eVar 4)) (eCmp pNe (eSl (eVar 8) (oNone) (oSome (eCst (.int (1))))) (eCall F_offers_left (aCons (eVar 2) (aCons (eVar 3) (aCons (eCst (.int (1))) (aNil)))))))) (sRet (eCst (.bool false))) (sNil)) R_law_6
def R_law_4 : MS := sCons (sSet 8 (eCall F_offers_left (aCons (eVar 2) (aCons (eVar 3) (aCons (eVar 4) (aNil)))))) R_law_5
def R_law_3 : MS := sCons (sSet 6 (eLc (iSeq (eVar 5)) (.nm 7) [7] (tYes) (eTup (aCons (e2 pIx (eVar 7) (eCst (.int (1)))) (aCons (e2 pIx (eVar 7) (eCst (.int (0)))) (aNil)))))) R_law_4
def R_law_2 : MS := sCons (sSet 5 (eCall F__law_gains (aCons (eVar 2) (aNil)))) R_law_3
def R_law_1 : MS := sCons (sPar [2, 3, 4] (aCons (eCall F__law_lot (aCons (eVar 1) (aCons (eCst (.int (5))) (aNil)))) (aCons (eCall F__law_patience (aCons (eVar 1) (aNil))) (aCons (e2 pAdd (eCst (.int (1))) (eCall F__law_next (aCons (eVar 1) (aCons (eCst (.int (6))) (aNil))))) (aNil))))) R_law_2
def R_law_0 : MS := sCons (sNew 1 (eLst (aCons (eSl (eVar 0) (oNone) (oSome (eCst (.int (63))))) (aCons (eCst (.int (0))) (aCons (eCst (.int (0))) (aNil)))))) R_law_1
def B_law : MS := R_law_0
def F_law : FnS := fnS 1 22 B_law
def N_is_whole : List Str := ["thing"]
def N_is_from : List Str := ["thing", "least", "most"]
def N_is_many : List Str := ["thing", "many"]
def N_lean : List Str := ["top", "below", "one", "other"]
def N_is_fraction : List Str := ["thing"]
def N_plus : List Str := ["one", "other"]
def N_minus : List Str := ["one", "other"]
def N_times : List Str := ["one", "other"]
def N_over : List Str := ["one", "other"]
def N_less : List Str := ["one", "other"]
def N_no_more : List Str := ["one", "other"]
def N_greater : List Str := ["one", "other"]
def N_most_of : List Str := ["things", "found", "one"]
def N_is_point : List Str := ["thing"]
def N_is_lot : List Str := ["thing", "corner", "keep", "side"]
def N_check_lot : List Str := ["lot"]
def N_check_point : List Str := ["point"]
def N_gains_at : List Str := ["lot", "point"]
def N_point_at : List Str := ["lot", "gains"]
def N_corner_gains : List Str := ["lot", "corner"]
def N_bests_of : List Str := ["lot", "gains", "one"]
def N_is_left_of : List Str := ["one", "other"]
def N_in_order : List Str := ["points", "found", "point", "at", "one"]
def N_turns_up : List Str := ["one", "middle", "last", "right", "rise"]
def N_outer_gains : List Str := ["lot", "rows", "best", "one", "first", "at", "found"]
def N_other_at : List Str := ["rows", "gain", "one", "late", "part"]
def N_turned_rows : List Str := ["rows", "one"]
def N_is_in : List Str := ["lot", "point", "gains", "most"]
def N_is_full : List Str := ["lot", "point", "gains", "rows"]
def N_is_share : List Str := ["thing"]
def N_is_patience : List Str := ["thing"]
def N_check_patience : List Str := ["patience"]
def N_first_offer : List Str := ["rows", "waits", "mine"]
def N_second_offer : List Str := ["rows", "waits", "theirs"]
def N_offers_left : List Str := ["lot", "patience", "many", "rows", "found", "last", "turn", "one", "other"]
def N_step_apart : List Str := ["lot", "patience", "many", "rows", "one", "other"]
def N__law_cell_at : List Str := ["script", "k"]
def N__law_draw : List Str := ["cell", "k", "bound", "primes"]
def N__law_number : List Str := ["cell", "k", "bound", "scale", "lap", "remains", "small"]
def N__law_next : List Str := ["draw", "bound", "at", "cell"]
def N__law_part : List Str := ["draw", "top", "below"]
def N__law_lot : List Str := ["draw", "most", "keep", "corners", "turn", "gains", "more"]
def N__law_gains : List Str := ["lot", "corner"]
def N__law_more : List Str := ["one", "other"]
def N__law_high : List Str := ["gains", "here", "found", "one", "other", "part"]
def N__law_patience : List Str := ["draw", "found", "side", "below"]
def N__law_offer : List Str := ["gains", "waits", "turned", "one", "mine"]
def N_law : List Str := ["script", "draw", "lot", "patience", "many", "gains", "turned", "one", "rows", "last", "other", "here", "there", "first", "second", "bests", "at", "third", "low", "high", "place", "apart"]
end Ev
namespace Ev
open PySem
/-! LemLean: lean is a division by the gcd -/
def lnC : ME := eCmp pGt (eVar 3) (eCst (.int (0)))
def lnB : MS := sPar [2, 3] (aCons (eVar 3) (aCons (e2 pSub (eVar 2) (e2 pMul (eVar 3) (e2 pDiv (eVar 2) (eVar 3)))) (aNil)))
theorem ln_step {b0 b1 : Option Vl} {x y : Nat} (hx : x.log2 ≤ 8000) (hy : y.log2 ≤ 8000) (hy0 : 0 < y) (s : Sto) :
    lnB [b0, b1, some (.dat (.int x)), some (.dat (.int y))] s = .ok (.nx [b0, b1, some (.dat (.int y)), some (.dat (.int (x % y : Nat)))]) s := by
  have h1 : divOk (y : Int) = true := by
    unfold divOk
    rw [Bool.and_eq_true]
    exact ⟨decide_eq_true (by omega), Nat.ble_eq_true_of_le (by show (y : Int).natAbs.log2 + 1 ≤ 9000; rw [Int.natAbs_natCast]; omega)⟩
  have h2 : mulOk (y : Int) ((x : Int) / (y : Int)) = true := by
    refine mulOk_small (m := 8000) (n := 8000) (by rw [Int.natAbs_natCast]; exact hy) ?_ (by omega)
    rw [← Int.natCast_ediv, Int.natAbs_natCast]
    exact Nat.le_trans (log2_le_of_le (Nat.div_le_self _ _)) hx
  have h3 : (x : Int) - (y : Int) * ((x : Int) / (y : Int)) = ((x % y : Nat) : Int) := by
    rw [Int.natCast_emod, Int.emod_def]
  simp [lnB, noX, sPar, aCons, aNil, eVar, e2, Out.bind, deref, okD, pSub, pMul, pDiv, h1, h2, h3, setsE]
theorem ln_test {b0 b1 : Option Vl} {x y : Int} (s : Sto) : tOf lnC [b0, b1, some (.dat (.int x)), some (.dat (.int y))] s = .ok (decide (0 < y)) s := by
  simp [lnC, tOf, eCmp, eVar, eCst, Out.bind, deref, okB, pGt]
theorem ln_loop (b0 b1 : Option Vl) (s : Sto) : ∀ (n x y k : Nat), y < 2 ^ n → x.log2 ≤ 8000 → y.log2 ≤ 8000 → 2 * n + 2 ≤ k →
    whGo lnC lnB k [b0, b1, some (.dat (.int x)), some (.dat (.int y))] s = .ok (.nx [b0, b1, some (.dat (.int (Nat.gcd x y : Nat))), some (.dat (.int 0))]) s
  | 0, x, y, k, h, hx, hy, hk => by
    have : y = 0 := by simpa using h
    subst this
    obtain ⟨k, rfl⟩ : ∃ j, k = j + 1 := ⟨k - 1, by omega⟩
    unfold whGo
    rw [ln_test]
    simp [Out.bind]
  | n + 1, x, y, k, h, hx, hy, hk => by
    obtain ⟨k, rfl⟩ : ∃ j, k = j + 1 := ⟨k - 1, by omega⟩
    unfold whGo
    rw [ln_test]
    by_cases hy0 : y = 0
    · subst hy0
      simp [Out.bind]
    · have hp : (0 : Int) < (y : Int) := by omega
      simp only [Out.bind, decide_eq_true hp]
      rw [ln_step hx hy (by omega)]
      simp only [Out.bind]
      obtain ⟨k, rfl⟩ : ∃ j, k = j + 1 := ⟨k - 1, by omega⟩
      have hlt := Nat.mod_lt x (show 0 < y by omega)
      have hc : (x % y).log2 ≤ 8000 := Nat.le_trans (log2_le_of_le (Nat.le_of_lt hlt)) hy
      unfold whGo
      rw [ln_test]
      by_cases hc0 : x % y = 0
      · rw [hc0]
        have e : Nat.gcd x y = y := by rw [Nat.gcd_comm, Nat.gcd_rec, hc0, Nat.gcd_zero_left]
        simp [Out.bind, e]
      · have hp : (0 : Int) < ((x % y : Nat) : Int) := by omega
        simp only [Out.bind, decide_eq_true hp]
        rw [ln_step hy hc (by omega)]
        simp only [Out.bind]
        have hs : y % (x % y) < 2 ^ n := by
          have h1 := Nat.mod_lt y (show 0 < x % y by omega)
          have h2 : (x % y) + y % (x % y) ≤ y := by
            have h3 := Nat.div_add_mod y (x % y)
            have h4 : 1 ≤ y / (x % y) := (Nat.one_le_div_iff (by omega)).mpr (Nat.le_of_lt hlt)
            have h5 : (x % y) * 1 ≤ (x % y) * (y / (x % y)) := Nat.mul_le_mul_left _ h4
            omega
          rw [Nat.pow_succ] at h
          omega
        rw [ln_loop b0 b1 s n (x % y) (y % (x % y)) k hs hc (Nat.le_trans (log2_le_of_le (Nat.le_of_lt (Nat.lt_trans (Nat.mod_lt y (by omega)) hlt))) hy) (by omega)]
        have e : Nat.gcd (x % y) (y % (x % y)) = Nat.gcd x y := by
          rw [Nat.gcd_comm, ← Nat.gcd_rec, ← Nat.gcd_rec, Nat.gcd_comm]
        rw [e]
theorem lt_pow_log2 (n : Nat) : n < 2 ^ (n.log2 + 1) := Nat.lt_log2_self
theorem abs_eq (a : Int) : (if a < 0 then -a else a) = (a.natAbs : Int) := by
  split <;> omega
theorem ln_tail (a : Int) (b : Nat) (hb : 0 < b) (ha2 : a.natAbs.log2 ≤ 8000) (hb2 : b.log2 ≤ 8000) (s : Sto) (x y : Option Vl) :
    (sCons (sPar [2, 3] (aCons (eBlt bAbs (aCons (eVar 0) (aNil))) (aCons (eVar 1) (aNil)))) (sCons (sWh (eCmp pGt (eVar 3) (eCst (.int (0)))) (sPar [2, 3] (aCons (eVar 3) (aCons (e2 pSub (eVar 2) (e2 pMul (eVar 3) (e2 pDiv (eVar 2) (eVar 3)))) (aNil))))) (sRet (eTup (aCons (e2 pDiv (eVar 0) (eVar 2)) (aCons (e2 pDiv (eVar 1) (eVar 2)) (aNil)))))))
      [some (.dat (.int a)), some (.dat (.int b)), x, y] s = .ok (.rt (.dat (.tuple [.int (a / (Nat.gcd a.natAbs b : Nat)), .int ((b : Int) / (Nat.gcd a.natAbs b : Nat))]))) s := by
  have e1 : (sPar [2, 3] (aCons (eBlt bAbs (aCons (eVar 0) (aNil))) (aCons (eVar 1) (aNil)))) [some (.dat (.int a)), some (.dat (.int b)), x, y] s = .ok (.nx [some (.dat (.int a)), some (.dat (.int b)), some (.dat (.int (a.natAbs : Nat))), some (.dat (.int (b : Nat)))]) s := by
    simp only [noX, sPar, aCons, aNil, eVar, eBlt, eBlt.derefs, Out.bind, deref, okD, bAbs, setsE, abs_eq, List.getElem?_cons_zero, List.getElem?_cons_succ, List.set]
  have e2' := ln_loop (some (.dat (.int a))) (some (.dat (.int b))) s 8001 a.natAbs b 16384 (Nat.lt_of_lt_of_le (lt_pow_log2 b) (Nat.pow_le_pow_right (by omega) (by omega))) (by omega) (by omega) (by omega)
  have hg : 0 < Nat.gcd a.natAbs b := Nat.gcd_pos_of_pos_right _ hb
  have hd : divOk ((Nat.gcd a.natAbs b : Nat) : Int) = true := by
    unfold divOk
    rw [Bool.and_eq_true]
    refine ⟨decide_eq_true (by omega), Nat.ble_eq_true_of_le ?_⟩
    rw [Int.natAbs_natCast]
    have := log2_le_of_le (Nat.gcd_le_right a.natAbs hb)
    show _ + 1 ≤ 9000
    omega
  unfold sCons
  rw [e1]
  simp only [Out.bind]
  unfold sWh
  show (Out.bind (noX (whGo lnC lnB 16384 _ s)) _) = _
  rw [e2']
  simp [noX, Out.bind, sRet, eTup, aCons, aNil, e2, eVar, deref, okD, pDiv, hd, dats, unf1, line, Nat.ble]
theorem le_lean : Le F_leanP F_lean := by
  intro vs s v s' h
  unfold F_leanP at h
  split at h
  · rename_i a b
    split at h
    · rename_i hb
      simp only [Bool.and_eq_true, decide_eq_true_eq] at hb
      obtain ⟨⟨h0, ha⟩, hb⟩ := hb
      have ha := Nat.le_of_ble_eq_true ha
      have hb := Nat.le_of_ble_eq_true hb
      cases h
      refine fnS_dat0 rfl ?_
      show B_lean [some (.dat (.int a)), some (.dat (.int b)), none, none] s = _
      unfold B_lean
      by_cases hn : b < 0
      · have e : (sIf (eCmp pLt (eVar 1) (eCst (.int (0)))) (sPar [0, 1] (aCons (e1 pNeg (eVar 0)) (aCons (e1 pNeg (eVar 1)) (aNil)))) (sNil)) [some (.dat (.int a)), some (.dat (.int b)), none, none] s = .ok (.nx [some (.dat (.int (-a))), some (.dat (.int (b.natAbs : Nat))), none, none]) s := by
          have : -b = (b.natAbs : Int) := by omega
          simp [noX, sIf, tOf, eCmp, eVar, eCst, Out.bind, deref, okB, pLt, hn, sPar, aCons, aNil, e1, okD, pNeg, setsE, this]
        rw [sCons_nx e, ln_tail (-a) b.natAbs (by omega) (by rw [Int.natAbs_neg]; omega) (by omega)]
        simp [leanI, hn]
      · have e : (sIf (eCmp pLt (eVar 1) (eCst (.int (0)))) (sPar [0, 1] (aCons (e1 pNeg (eVar 0)) (aCons (e1 pNeg (eVar 1)) (aNil)))) (sNil)) [some (.dat (.int a)), some (.dat (.int b)), none, none] s = .ok (.nx [some (.dat (.int a)), some (.dat (.int (b.natAbs : Nat))), none, none]) s := by
          have : b = (b.natAbs : Int) := by omega
          rw [← this]
          simp [sIf, tOf, eCmp, eVar, eCst, Out.bind, deref, okB, pLt, hn, sNil]
        rw [sCons_nx e, ln_tail a b.natAbs (by omega) (by omega) (by omega)]
        simp [leanI, hn]
    · cases h
  · cases h
end Ev
/-! LemNext: a draw lies below its bound. -/
namespace Ev
open PySem
theorem le2_log {i : Int} {n : Nat} (h : i.natAbs < 2 ^ n) (hn : 0 < n) : i.natAbs.log2 ≤ n := by
  rcases Nat.eq_zero_or_pos i.natAbs with e | e
  · rw [e, Nat.log2_zero]; omega
  · exact Nat.le_of_lt ((Nat.log2_lt (by omega)).mpr h)
theorem dw_pr (k : Int) (h1 : 1 ≤ k) (h2 : k ≤ 9) (x b : Vl) (s : Sto) : ∃ p : Int, 0 < p ∧ (e2 pIx (eVar 3) (e2 pMod (eBlt bInt (aCons (eVar 1) (aNil))) (eCst (.int (16))))) [some x, some (.dat (.int k)), some b, some (.dat (.tuple [.int 1000003, .int 1000033, .int 1000037, .int 1000039, .int 1000081, .int 1000099, .int 1000117, .int 1000121, .int 1000133, .int 1000151, .int 1000159, .int 1000171, .int 1000183, .int 1000187, .int 1000193, .int 1000199]))] s = .ok (.dat (.int p)) s := by
  have : k = 1 ∨ k = 2 ∨ k = 3 ∨ k = 4 ∨ k = 5 ∨ k = 6 ∨ k = 7 ∨ k = 8 ∨ k = 9 := by omega
  rcases this with rfl | rfl | rfl | rfl | rfl | rfl | rfl | rfl | rfl <;> exact ⟨_, by decide, rfl⟩
theorem dw_ok (x k : Int) (hx : x.natAbs < 2 ^ 80) (h1 : 1 ≤ k) (h2 : k ≤ 9) (s : Sto) : ∃ r : Int, F__law_draw [.dat (.int x), .dat (.int k), .dat (.int 999983)] s = .ok (.dat (.int r)) s := by
  obtain ⟨p, hp, e⟩ := dw_pr k h1 h2 (.dat (.int x)) (.dat (.int 999983)) s
  have m1 : mulOk x 48271 = true := mulOk_small (m := 80) (n := 80) (le2_log hx (by omega)) (by decide) (by omega)
  have m2 : mulOk k 69621 = true := mulOk_small (m := 80) (n := 80) (le2_log (Nat.lt_of_le_of_lt (show k.natAbs ≤ 9 by omega) (by decide)) (by omega)) (by decide) (by omega)
  refine ⟨(x * 48271 + k * 69621) % p % 999983, fnS_dat0 rfl ?_⟩
  unfold B__law_draw
  rw [sCons_nx (e' := [some (.dat (.int x)), some (.dat (.int k)), some (.dat (.int 999983)), some (.dat (.tuple [.int 1000003, .int 1000033, .int 1000037, .int 1000039, .int 1000081, .int 1000099, .int 1000117, .int 1000121, .int 1000133, .int 1000151, .int 1000159, .int 1000171, .int 1000183, .int 1000187, .int 1000193, .int 1000199]))]) (s' := s) rfl]
  refine sRet_ok (e2_dat (e2_dat (eBlt1_dat (e2_dat (r := .int (x * 48271 + k * 69621)) (e2_dat (r := .int (x * 48271)) rfl rfl ?_) (e2_dat (r := .int (k * 69621)) rfl rfl ?_) rfl) rfl) e (r := .int ((x * 48271 + k * 69621) % p)) ?_) rfl rfl)
  · simp only [pMul, m1, if_true]
  · simp only [pMul, m2, if_true]
  · simp only [pMod, hp, decide_true, if_true]
theorem nm_loop (k : Int) (h1 : 1 ≤ k) (h2 : k ≤ 12) (x b : Vl) (s : Sto) : ∃ (p : Int) (l : Option Vl), 0 < p ∧ divOk p = true ∧ (sFor (iRng1 (e2 pMod (eBlt bInt (aCons (eVar 1) (aNil))) (eCst (.int (24))))) (.nm 4) (sSet 3 (e2 pMul (eVar 3) (eCst (.int (1009)))))) [some x, some (.dat (.int k)), some b, some (.dat (.int 1)), none, none, none] s = .ok (.nx [some x, some (.dat (.int k)), some b, some (.dat (.int p)), l, none, none]) s := by
  have : k = 1 ∨ k = 2 ∨ k = 3 ∨ k = 4 ∨ k = 5 ∨ k = 6 ∨ k = 7 ∨ k = 8 ∨ k = 9 ∨ k = 10 ∨ k = 11 ∨ k = 12 := by omega
  rcases this with rfl | rfl | rfl | rfl | rfl | rfl | rfl | rfl | rfl | rfl | rfl | rfl
  · exact ⟨1009 ^ 1, some (.dat (.int 0)), by decide +kernel, by decide +kernel, by kernel_rfl⟩
  · exact ⟨1009 ^ 2, some (.dat (.int 1)), by decide +kernel, by decide +kernel, by kernel_rfl⟩
  · exact ⟨1009 ^ 3, some (.dat (.int 2)), by decide +kernel, by decide +kernel, by kernel_rfl⟩
  · exact ⟨1009 ^ 4, some (.dat (.int 3)), by decide +kernel, by decide +kernel, by kernel_rfl⟩
  · exact ⟨1009 ^ 5, some (.dat (.int 4)), by decide +kernel, by decide +kernel, by kernel_rfl⟩
  · exact ⟨1009 ^ 6, some (.dat (.int 5)), by decide +kernel, by decide +kernel, by kernel_rfl⟩
  · exact ⟨1009 ^ 7, some (.dat (.int 6)), by decide +kernel, by decide +kernel, by kernel_rfl⟩
  · exact ⟨1009 ^ 8, some (.dat (.int 7)), by decide +kernel, by decide +kernel, by kernel_rfl⟩
  · exact ⟨1009 ^ 9, some (.dat (.int 8)), by decide +kernel, by decide +kernel, by kernel_rfl⟩
  · exact ⟨1009 ^ 10, some (.dat (.int 9)), by decide +kernel, by decide +kernel, by kernel_rfl⟩
  · exact ⟨1009 ^ 11, some (.dat (.int 10)), by decide +kernel, by decide +kernel, by kernel_rfl⟩
  · exact ⟨1009 ^ 12, some (.dat (.int 11)), by decide +kernel, by decide +kernel, by kernel_rfl⟩
theorem nm_ok (x k b : Int) (h1 : 1 ≤ k) (h2 : k ≤ 12) (hb : 0 < b) (s : Sto) : ∃ r : Int, 0 ≤ r ∧ r < b ∧ F__law_number [.dat (.int x), .dat (.int k), .dat (.int b)] s = .ok (.dat (.int r)) s := by
  obtain ⟨p, l, hp, hd, el⟩ := nm_loop k h1 h2 (.dat (.int x)) (.dat (.int b)) s
  have e5 : (sSet 5 (e2 pDiv (e2 pSub (eVar 0) (e2 pPow (eCst (.int (10))) (eCst (.int (18))))) (eVar 3))) [some (.dat (.int x)), some (.dat (.int k)), some (.dat (.int b)), some (.dat (.int p)), l, none, none] s = .ok (.nx [some (.dat (.int x)), some (.dat (.int k)), some (.dat (.int b)), some (.dat (.int p)), l, some (.dat (.int ((x - 1000000000000000000) / p))), none]) s := by
    have hpw : pPow (.int 10) (.int 18) = some (.int 1000000000000000000) := by rfl
    simp only [noX, sSet, e2, eVar, eCst, Out.bind, deref, okD, pSub, pDiv, hpw, hd, if_true, List.getElem?_cons_zero, List.getElem?_cons_succ, List.set]
  have hm : ∀ y : Int, 0 ≤ y % b ∧ y % b < b := fun y => ⟨Int.emod_nonneg _ (by omega), Int.emod_lt_of_pos _ hb⟩
  by_cases hr : 0 < (x - 1000000000000000000) / p
  · refine ⟨(x - 1000000000000000000) / p % 1009 % b, (hm _).1, (hm _).2, fnS_dat0 rfl ?_⟩
    unfold B__law_number
    rw [sCons_nx (e' := [some (.dat (.int x)), some (.dat (.int k)), some (.dat (.int b)), some (.dat (.int 1)), none, none, none]) (s' := s) rfl, sCons_nx el, sCons_nx e5, sCons_rt]
    simp only [noX, sIf, tOf, eCmp, sRet, e2, eBlt, eBlt.derefs, aCons, aNil, eVar, eCst, Out.bind, deref, okD, okB, pGt, pMod, bInt, hr, hb, decide_true, if_true, show decide ((0 : Int) < 1009) = true from rfl, List.getElem?_cons_zero, List.getElem?_cons_succ]
  · have hs1 := Int.emod_nonneg x (show (1000003 : Int) ≠ 0 by omega)
    have hs2 := Int.emod_lt_of_pos x (show (0 : Int) < 1000003 by omega)
    obtain ⟨r, er⟩ := dw_ok ((x % 1000003 + 977 * k) * (x % 1000003 + 31 * k + 5)) (k % 9 + 1) (by
      rw [Int.natAbs_mul]
      have a1 : (x % 1000003 + 977 * k).natAbs ≤ 2 ^ 30 := by omega
      have a2 : (x % 1000003 + 31 * k + 5).natAbs ≤ 2 ^ 30 := by omega
      exact Nat.lt_of_le_of_lt (Nat.mul_le_mul a1 a2) (by decide)) (by omega) (by omega) s
    refine ⟨r % b, (hm _).1, (hm _).2, fnS_dat0 rfl ?_⟩
    unfold B__law_number
    rw [sCons_nx (e' := [some (.dat (.int x)), some (.dat (.int k)), some (.dat (.int b)), some (.dat (.int 1)), none, none, none]) (s' := s) rfl, sCons_nx el, sCons_nx e5]
    have e6 : (sIf (eCmp pGt (eVar 5) (eCst (.int (0)))) (sRet (e2 pMod (e2 pMod (eBlt bInt (aCons (eVar 5) (aNil))) (eCst (.int (1009)))) (eVar 2))) (sNil)) [some (.dat (.int x)), some (.dat (.int k)), some (.dat (.int b)), some (.dat (.int p)), l, some (.dat (.int ((x - 1000000000000000000) / p))), none] s = .ok (.nx [some (.dat (.int x)), some (.dat (.int k)), some (.dat (.int b)), some (.dat (.int p)), l, some (.dat (.int ((x - 1000000000000000000) / p))), none]) s := by
      simp only [sIf, tOf, eCmp, eVar, eCst, Out.bind, deref, okB, pGt, hr, decide_false, List.getElem?_cons_zero, List.getElem?_cons_succ]
      rfl
    rw [sCons_nx e6, sCons_nx (e' := [some (.dat (.int x)), some (.dat (.int k)), some (.dat (.int b)), some (.dat (.int p)), l, some (.dat (.int ((x - 1000000000000000000) / p))), some (.dat (.int (x % 1000003)))]) (s' := s) rfl]
    have m1 : mulOk 977 k = true := mulOk_small (m := 80) (n := 80) (by decide) (le2_log (Nat.lt_of_le_of_lt (show k.natAbs ≤ 12 by omega) (by decide)) (by omega)) (by omega)
    have m2 : mulOk 31 k = true := mulOk_small (m := 80) (n := 80) (by decide) (le2_log (Nat.lt_of_le_of_lt (show k.natAbs ≤ 12 by omega) (by decide)) (by omega)) (by omega)
    have m3 : mulOk (x % 1000003 + 977 * k) (x % 1000003 + 31 * k + 5) = true := mulOk_small (m := 80) (n := 80) (le2_log (Nat.lt_of_le_of_lt (show _ ≤ 2 ^ 30 by omega) (by decide)) (by omega)) (le2_log (Nat.lt_of_le_of_lt (show _ ≤ 2 ^ 30 by omega) (by decide)) (by omega)) (by omega)
    simp only [noX, sRet, e2, eCall, eBlt, eBlt.derefs, aCons, aNil, eVar, eCst, Out.bind, deref, okD, pAdd, pMul, pMod, bInt, m1, m2, m3, hb, decide_true, if_true, List.getElem?_cons_zero, List.getElem?_cons_succ, show decide ((0 : Int) < 9) = true from rfl, er]
/-- the draw's store -/
def drw (cut : List PyData) (c : Int) : MO := .lst [.list cut, .int 0, .int c]
theorem ca_ok (ns : List Int) (k : Int) (hk : 0 ≤ k) (s : Sto) : ∃ x : Int, F__law_cell_at [.dat (.list (ns.map .int)), .dat (.int k)] s = .ok (.dat (.int x)) s := by
  have hl : bLen [.list (ns.map PyData.int)] = some (.int (ns.length : Nat)) := by
    simp [bLen, pLen]
  by_cases h : k < (ns.length : Int)
  · obtain ⟨y, hy⟩ : ∃ y, ns[k.toNat]? = some y := ⟨ns[k.toNat]'(by omega), List.getElem?_eq_getElem _⟩
    have hix : pIx (.list (ns.map .int)) (.int k) = some (.int y) := by
      show (L2.ixN (ns.map PyData.int).length k).bind (fun j => (ns.map PyData.int)[j]?) = _
      unfold L2.ixN
      rw [List.length_map, if_pos hk, if_pos h, Option.bind_some, List.getElem?_map, hy]
      rfl
    refine ⟨y, fnS_dat0 rfl ?_⟩
    unfold B__law_cell_at
    exact sCons_rt ((sIf_t (eCmp_dat rfl (eBlt1_dat rfl hl) (congrArg some (decide_eq_true h)))).trans (sRet_ok (e2_dat rfl rfl hix)))
  · refine ⟨0, fnS_dat0 rfl ?_⟩
    unfold B__law_cell_at
    exact (sCons_nx (sIf_f (eCmp_dat rfl (eBlt1_dat rfl hl) (congrArg some (decide_eq_false h))))).trans rfl
/-- a draw -/
theorem nx_ok (ns : List Int) (c b : Int) (hc : 0 ≤ c) (hc2 : c < 1000000000) (hb : 0 < b) (r : Sto) : ∃ v : Int, 0 ≤ v ∧ v < b ∧ F__law_next [.loc 0, .dat (.int b)] (drw (ns.map .int) c :: r) = .ok (.dat (.int v)) (drw (ns.map .int) (c + 1) :: r) := by
  obtain ⟨x, ex⟩ := ca_ok ns (0 + (c + 1) / 12) (by omega) (drw (ns.map .int) (c + 1) :: r)
  obtain ⟨v, h0, h1, ev⟩ := nm_ok (x + 31 * ((c + 1) / 12)) ((c + 1) % 12 + 1) b (by omega) (by omega) hb (drw (ns.map .int) (c + 1) :: r)
  refine ⟨v, h0, h1, ?_⟩
  have m : mulOk 31 ((c + 1) / 12) = true := mulOk_small (m := 80) (n := 80) (by decide) (le2_log (Nat.lt_of_le_of_lt (show _ ≤ 1000000000 by omega) (by decide)) (by omega)) (by omega)
  have hm : B__law_next [some (.loc 0), some (.dat (.int b)), none, none] (drw (ns.map .int) c :: r) = .ok (.rt (.dat (.int v))) (drw (ns.map .int) (c + 1) :: r) := by
    unfold B__law_next
    rw [sCons_nx (e' := [some (.loc 0), some (.dat (.int b)), none, none]) (s' := drw (ns.map .int) (c + 1) :: r) rfl]
    rw [sCons_nx (e' := [some (.loc 0), some (.dat (.int b)), some (.dat (.int ((c + 1) / 12))), none]) (s' := drw (ns.map .int) (c + 1) :: r) rfl]
    have e1 : (e2 pAdd (eCall F__law_cell_at (aCons (e2 pIx (eVar 0) (eCst (.int (0)))) (aCons (e2 pAdd (e2 pIx (eVar 0) (eCst (.int (1)))) (eVar 2)) (aNil)))) (e2 pMul (eCst (.int (31))) (eVar 2))) [some (.loc 0), some (.dat (.int b)), some (.dat (.int ((c + 1) / 12))), none] (drw (ns.map .int) (c + 1) :: r) = .ok (.dat (.int (x + 31 * ((c + 1) / 12)))) (drw (ns.map .int) (c + 1) :: r) := by
      refine e2_dat (d := .int x) (e := .int (31 * ((c + 1) / 12))) ex (e2_dat rfl rfl ?_) rfl
      simp only [pMul, m, if_true]
    rw [sCons_nx (sSet_ok e1)]
    exact sRet_ok ev
  have := fnS_dat (np := 2) (nn := 4) (vs := [.loc 0, .dat (.int b)]) rfl hm
  rw [show F__law_next = fnS 2 4 B__law_next from rfl, this]
  simp
end Ev
/-! LemPrim: the short forms answer as the defs do. -/
namespace Ev
open PySem
theorem big_log {n : Nat} (h : n ≤ big) : n.log2 ≤ 3600 := Nat.le_trans (log2_le_of_le h) (by decide +kernel)
theorem sm4_ok {a b c d : Int} (h : sm4 a b c d = true) : mulOk a d = true ∧ mulOk c b = true ∧ mulOk b d = true ∧ mulOk a c = true ∧ mulOk b c = true := by
  have h := Nat.le_of_ble_eq_true h
  have ha : a.natAbs.log2 ≤ 3600 := big_log (by omega)
  have hb : b.natAbs.log2 ≤ 3600 := big_log (by omega)
  have hc : c.natAbs.log2 ≤ 3600 := big_log (by omega)
  have hd : d.natAbs.log2 ≤ 3600 := big_log (by omega)
  exact ⟨mulOk_small ha hd (by omega), mulOk_small hc hb (by omega), mulOk_small hb hd (by omega), mulOk_small ha hc (by omega), mulOk_small hb hc (by omega)⟩
theorem pMul_ok {i j : Int} (h : mulOk i j = true) : pMul (.int i) (.int j) = some (.int (i * j)) := by
  simp only [pMul, h, if_true]
theorem lnP_ok {t u : Int} (h : arOk t u = true) (s : Sto) : F_leanP [.dat (.int t), .dat (.int u)] s = .ok (.dat (leanI t u)) s := by
  unfold F_leanP
  unfold arOk at h
  simp only [h, if_true]
theorem le_less : Le P_less F_less := by
  intro vs s v s' h
  unfold P_less at h
  split at h
  · split at h
    · rename_i a b c d hs
      obtain ⟨h1, h2, _⟩ := sm4_ok hs
      cases h
      refine fnS_dat0 rfl (sRet_ok (eCmp_dat (e2_dat rfl rfl (pMul_ok h1)) (e2_dat rfl rfl (pMul_ok h2)) rfl))
    · cases h
  · cases h
theorem le_no_more : Le P_no_more F_no_more := by
  intro vs s v s' h
  unfold P_no_more at h
  split at h
  · split at h
    · rename_i a b c d hs
      obtain ⟨h1, h2, _⟩ := sm4_ok hs
      cases h
      refine fnS_dat0 rfl (sRet_ok (eCmp_dat (e2_dat rfl rfl (pMul_ok h1)) (e2_dat rfl rfl (pMul_ok h2)) rfl))
    · cases h
  · cases h
theorem le_plus : Le P_plus F_plus := by
  intro vs s v s' h
  unfold P_plus at h
  split at h
  · split at h
    · rename_i a b c d hs
      obtain ⟨hs, hr⟩ := Bool.and_eq_true_iff.mp hs
      obtain ⟨h1, h2, h3, h4, h5⟩ := sm4_ok hs
      cases h
      exact fnS_dat0 rfl (sRet_ok (eCall2_dat (e2_dat (e2_dat rfl rfl (pMul_ok h1)) (e2_dat rfl rfl (pMul_ok h2)) rfl) (e2_dat rfl rfl (pMul_ok h3)) (lnP_ok hr _)))
    · cases h
  · cases h
theorem le_minus : Le P_minus F_minus := by
  intro vs s v s' h
  unfold P_minus at h
  split at h
  · split at h
    · rename_i a b c d hs
      obtain ⟨hs, hr⟩ := Bool.and_eq_true_iff.mp hs
      obtain ⟨h1, h2, h3, h4, h5⟩ := sm4_ok hs
      cases h
      exact fnS_dat0 rfl (sRet_ok (eCall2_dat (e2_dat (e2_dat rfl rfl (pMul_ok h1)) (e2_dat rfl rfl (pMul_ok h2)) rfl) (e2_dat rfl rfl (pMul_ok h3)) (lnP_ok hr _)))
    · cases h
  · cases h
theorem le_times : Le P_times F_times := by
  intro vs s v s' h
  unfold P_times at h
  split at h
  · split at h
    · rename_i a b c d hs
      obtain ⟨hs, hr⟩ := Bool.and_eq_true_iff.mp hs
      obtain ⟨h1, h2, h3, h4, h5⟩ := sm4_ok hs
      cases h
      exact fnS_dat0 rfl (sRet_ok (eCall2_dat (e2_dat rfl rfl (pMul_ok h4)) (e2_dat rfl rfl (pMul_ok h3)) (lnP_ok hr _)))
    · cases h
  · cases h
theorem le_over : Le P_over F_over := by
  intro vs s v s' h
  unfold P_over at h
  split at h
  · split at h
    · rename_i a b c d hs
      obtain ⟨hs, hr⟩ := Bool.and_eq_true_iff.mp hs
      obtain ⟨h1, h2, h3, h4, h5⟩ := sm4_ok hs
      cases h
      exact fnS_dat0 rfl (sRet_ok (eCall2_dat (e2_dat rfl rfl (pMul_ok h1)) (e2_dat rfl rfl (pMul_ok h5)) (lnP_ok hr _)))
    · cases h
  · cases h
theorem eqv_pair (a b c d : Int) : PyData.eqv (.tuple [.int a, .int b]) (.tuple [.int c, .int d]) = (decide (a = c) && decide (b = d)) := by
  have e : ∀ x y : Int, (x == y) = decide (x = y) := fun x y => rfl
  simp [PyData.eqv, PyData.eqvAll, e]
theorem im2_ok (a b : Int) (s : Sto) : F_is_many [.dat (.tuple [.int a, .int b]), .dat (.int 2)] s = .ok (.dat (.bool true)) s := fnS_dat0 rfl rfl
theorem iw_ok (a : Int) (s : Sto) : F_is_whole [.dat (.int a)] s = .ok (.dat (.bool true)) s := fnS_dat0 rfl rfl
theorem lean_fix {a b : Int} (hb : ¬ b < 1) : (decide ((if b < 0 then -a else a) / (Nat.gcd a.natAbs b.natAbs : Nat) = a) && decide (((b.natAbs : Nat) : Int) / (Nat.gcd a.natAbs b.natAbs : Nat) = b)) = Nat.beq (Nat.gcd a.natAbs b.natAbs) 1 := by
  have hp : 0 < Nat.gcd a.natAbs b.natAbs := Nat.gcd_pos_of_pos_right _ (by omega)
  have e : (b.natAbs : Int) = b := by omega
  rw [if_neg (by omega), e]
  by_cases h1 : Nat.gcd a.natAbs b.natAbs = 1
  · rw [h1]
    simp
  · have h2 : ¬ b / ((Nat.gcd a.natAbs b.natAbs : Nat) : Int) = b := by
      intro h
      have h3 : b / ((Nat.gcd a.natAbs b.natAbs : Nat) : Int) < b := Int.ediv_lt_self_of_pos_of_ne_one (by omega) (by omega)
      omega
    rw [decide_eq_false h2, Bool.and_false]
    cases q : Nat.beq (Nat.gcd a.natAbs b.natAbs) 1 with
    | false => rfl
    | true => exact absurd (Nat.eq_of_beq_eq_true q) h1
theorem le_is_fraction : Le P_is_fraction F_is_fraction := by
  intro vs s v s' h
  unfold P_is_fraction at h
  split at h
  · rename_i a b
    have c0 : (eCmp pLt (e2 pIx (eVar 0) (eCst (.int (1)))) (eCst (.int (1)))) [some (.dat (.tuple [.int a, .int b]))] s = .ok (.dat (.bool (decide (b < 1)))) s := rfl
    have cc : (eOr (eNot (eCall F_is_many (aCons (eVar 0) (aCons (eCst (.int (2))) (aNil))))) (eOr (eNot (eCall F_is_whole (aCons (e2 pIx (eVar 0) (eCst (.int (0)))) (aNil)))) (eOr (eNot (eCall F_is_whole (aCons (e2 pIx (eVar 0) (eCst (.int (1)))) (aNil)))) (eCmp pLt (e2 pIx (eVar 0) (eCst (.int (1)))) (eCst (.int (1))))))) [some (.dat (.tuple [.int a, .int b]))] s = .ok (.dat (.bool (decide (b < 1)))) s :=
      eOr_f (eNot_dat (eCall2_dat rfl rfl (im2_ok a b s))) (eOr_f (eNot_dat (eCall1_dat rfl (iw_ok a s))) (eOr_f (eNot_dat (eCall1_dat rfl (iw_ok b s))) c0))
    split at h
    · rename_i hb
      cases h
      rw [hb] at cc
      exact fnS_dat0 rfl (sCons_rt ((sIf_t cc).trans rfl))
    · rename_i hb
      have hb : decide (b < 1) = false := by simpa using hb
      rw [hb] at cc
      split at h
      · rename_i hl
        cases h
        have hb : ¬ b < 1 := of_decide_eq_false hb
        have ar : arOk a b = true := by
          unfold arOk
          rw [Bool.and_eq_true, Bool.and_eq_true]
          rw [Bool.and_eq_true] at hl
          exact ⟨⟨decide_eq_true (by omega), hl.1⟩, hl.2⟩
        refine fnS_dat0 rfl ((sCons_nx ((sIf_f cc).trans rfl)).trans (sRet_ok (eCmp_dat (eCall2_dat rfl rfl (lnP_ok ar s)) rfl ?_)))
        show (if SeqAt.shaped _ && SeqAt.shaped _ then some (PyData.eqv (leanI a b) (.tuple [.int a, .int b])) else none) = _
        unfold leanI
        rw [eqv_pair, lean_fix hb]
        rfl
      · cases h
  · exact noX_ok h
end Ev
/-! LemDraw: a law's first row. -/
namespace Ev
open PySem
theorem cut_map (ns : List Int) (lo hi : Option Int) : ∃ ms : List Int, cutL (ns.map PyData.int) lo hi = ms.map PyData.int := by
  unfold cutL
  rw [← List.map_drop, ← List.map_take]
  exact ⟨_, rfl⟩
abbrev eDraw : ME := eLst (aCons (eSl (eVar 0) (oNone) (oSome (eCst (.int (63))))) (aCons (eCst (.int (0))) (aCons (eCst (.int (0))) (aNil))))
theorem eDraw_ok (ns : List Int) (r : Env) (s : Sto) : ∃ ms : List Int, eDraw (some (.scr (ns.map .int)) :: r) s = .ok (.dat (.list [.list (ms.map .int), .int 0, .int 0])) s := by
  obtain ⟨ms, h⟩ := cut_map ns none (some 63)
  refine ⟨ms, ?_⟩
  rw [← h]
  rfl
/-- draw = [script[:63], 0, 0] -/
theorem draw_ok (ns : List Int) (r : Env) : ∃ ms : List Int, ∀ i, sNew i eDraw (some (.scr (ns.map .int)) :: r) [] = .ok (.nx ((some (.scr (ns.map .int)) :: r).set i (some (.loc 0)))) [drw (ms.map .int) 0] := by
  obtain ⟨ms, h⟩ := eDraw_ok ns r []
  refine ⟨ms, fun i => ?_⟩
  unfold sNew
  rw [h]
  rfl
/-- 1 + a draw -/
theorem next_ok {ns : List Int} {c b : Int} {r : Sto} {env : Env} {i : Nat} (he : env[i]? = some (some (.loc 0))) (hc : 0 ≤ c) (hc2 : c < 1000000000) (hb : 0 < b) :
    ∃ v : Int, 0 ≤ v ∧ v < b ∧ eCall F__law_next (aCons (eVar i) (aCons (eCst (.int b)) aNil)) env (drw (ns.map .int) c :: r) = .ok (.dat (.int v)) (drw (ns.map .int) (c + 1) :: r) := by
  obtain ⟨v, h0, h1, e⟩ := nx_ok ns c b hc hc2 hb r
  refine ⟨v, h0, h1, ?_⟩
  have h2 : aCons (eVar i) (aCons (eCst (.int b)) aNil) env (drw (ns.map .int) c :: r) = .ok [.loc 0, .dat (.int b)] (drw (ns.map .int) c :: r) := by
    unfold aCons eVar
    rw [he]
    rfl
  unfold eCall
  rw [h2]
  exact e
theorem sPar2_ok {i j : Nat} {a b : ME} {env : Env} {s s1 s2 : Sto} {v w : Vl} (ha : a env s = .ok v s1) (hb : b env s1 = .ok w s2) : sPar [i, j] (aCons a (aCons b aNil)) env s = .ok (.nx ((env.set i (some v)).set j (some w))) s2 := by
  have h1 : aCons b aNil env s1 = .ok [w] s2 := by
    unfold aCons
    rw [hb]
    rfl
  have h2 : aCons a (aCons b aNil) env s = .ok [v, w] s2 := by
    rw [aCons.eq_1 a, ha]
    simp only [Out.bind, h1]
  unfold sPar
  rw [h2]
  rfl
theorem sPar3_ok {i j k : Nat} {a b c : ME} {env : Env} {s s1 s2 s3 : Sto} {u v w : Vl} (ha : a env s = .ok u s1) (hb : b env s1 = .ok v s2) (hc : c env s2 = .ok w s3) : sPar [i, j, k] (aCons a (aCons b (aCons c aNil))) env s = .ok (.nx (((env.set i (some u)).set j (some v)).set k (some w))) s3 := by
  have h1 : aCons c aNil env s2 = .ok [w] s3 := by
    unfold aCons
    rw [hc]
    rfl
  have h2 : aCons b (aCons c aNil) env s1 = .ok [v, w] s3 := by
    rw [aCons.eq_1 b, hb]
    simp only [Out.bind, h1]
  have h3 : aCons a (aCons b (aCons c aNil)) env s = .ok [u, v, w] s3 := by
    rw [aCons.eq_1 a, ha]
    simp only [Out.bind, h2]
  unfold sPar
  rw [h3]
  rfl
def isT : Out SR → Bool
  | .ok (.rt (.dat (.bool true))) _ => true
  | _ => false
theorem isT_fn {np nn : Nat} {m : MS} {vs : List Vl} {s : Sto} (hl : (vs.length == np) = true) (h : isT (m (vs.map some ++ List.replicate (nn - np) none) s) = true) : ∃ s', fnS np nn m vs s = .ok (.dat (.bool true)) s' := by
  cases q : m (vs.map some ++ List.replicate (nn - np) none) s with
  | ok a s' =>
    rw [q] at h
    unfold isT at h
    split at h
    · rename_i e
      cases e
      exact ⟨_, fnS_dat hl q⟩
    · cases h
  | exn x s' => rw [q] at h; cases h
  | bad => rw [q] at h; cases h
end Ev
/-! Frac: fractions without common divisors. -/
namespace Ev
open PySem
def fr (p q : Int) : PyData := .tuple [.int p, .int q]
structure Fr (p q : Int) : Prop where
  pos : 0 < q
  cop : Nat.gcd p.natAbs q.natAbs = 1
theorem leanI_spec (t u : Int) (hu : u ≠ 0) : ∃ p q, leanI t u = fr p q ∧ Fr p q ∧ p * u = t * q ∧ p.natAbs ≤ t.natAbs ∧ q.natAbs ≤ u.natAbs := by
  obtain ⟨a, b, hab, ha, hb⟩ := Nat.exists_coprime t.natAbs u.natAbs
  have hg : 0 < Nat.gcd t.natAbs u.natAbs := Nat.gcd_pos_of_pos_right _ (by omega)
  unfold leanI
  generalize hgg : Nat.gcd t.natAbs u.natAbs = g at ha hb hg ⊢
  have hb0 : 0 < b := by
    rcases Nat.eq_zero_or_pos b with h | h
    · rw [h, Nat.zero_mul] at hb; omega
    · exact h
  have gz : (g : Int) ≠ 0 := by omega
  have e2 : ((u.natAbs : Nat) : Int) / (g : Int) = b := by
    rw [hb, Int.natCast_mul]
    exact Int.mul_ediv_cancel _ gz
  have ta : t = (a : Int) * g ∨ t = -((a : Int) * g) := by
    have := Int.natAbs_eq t
    rw [ha, Int.natCast_mul] at this
    exact this
  have ub : u = (b : Int) * g ∨ u = -((b : Int) * g) := by
    have := Int.natAbs_eq u
    rw [hb, Int.natCast_mul] at this
    exact this
  have bg : 0 < (b : Int) * g := Int.mul_pos (by omega) (by omega)
  have la : a ≤ t.natAbs := by rw [ha]; exact Nat.le_mul_of_pos_right a hg
  have lb : b ≤ u.natAbs := by rw [hb]; exact Nat.le_mul_of_pos_right b hg
  rw [e2]
  have fin : ∀ p : Int, (if u < 0 then -t else t) / (g : Int) = p → p.natAbs = a → p * u = t * b → ∃ p q, PyData.tuple [.int ((if u < 0 then -t else t) / (g : Int)), .int (b : Int)] = fr p q ∧ Fr p q ∧ p * u = t * q ∧ p.natAbs ≤ t.natAbs ∧ q.natAbs ≤ u.natAbs := fun p h1 h2 h3 =>
    ⟨p, b, by rw [h1]; rfl, ⟨by omega, by rw [h2, Int.natAbs_natCast]; exact hab⟩, h3, by omega, by rw [Int.natAbs_natCast]; exact lb⟩
  rcases ub with ub | ub
  · rw [if_neg (by omega)] at fin ⊢
    rcases ta with ta | ta
    · exact fin a (by rw [ta]; exact Int.mul_ediv_cancel _ gz) (Int.natAbs_natCast a) (by rw [ta, ub]; grind)
    · exact fin (-a) (by rw [ta, ← Int.neg_mul]; exact Int.mul_ediv_cancel _ gz) (by omega) (by rw [ta, ub]; grind)
  · rw [if_pos (by omega)] at fin ⊢
    rcases ta with ta | ta
    · exact fin (-a) (by rw [ta, ← Int.neg_mul]; exact Int.mul_ediv_cancel _ gz) (by omega) (by rw [ta, ub]; grind)
    · exact fin a (by rw [ta, Int.neg_neg]; exact Int.mul_ediv_cancel _ gz) (Int.natAbs_natCast a) (by rw [ta, ub]; grind)
theorem fr_unique {p q r t : Int} (h1 : Fr p q) (h2 : Fr r t) (h : p * t = r * q) : p = r ∧ q = t := by
  have hn : p.natAbs * t.natAbs = r.natAbs * q.natAbs := by rw [← Int.natAbs_mul, ← Int.natAbs_mul, h]
  have d1 : q.natAbs ∣ t.natAbs := Nat.Coprime.dvd_of_dvd_mul_left (Nat.Coprime.symm h1.cop) ⟨r.natAbs, by rw [hn, Nat.mul_comm]⟩
  have d2 : t.natAbs ∣ q.natAbs := Nat.Coprime.dvd_of_dvd_mul_left (Nat.Coprime.symm h2.cop) ⟨p.natAbs, by rw [← hn, Nat.mul_comm]⟩
  have e : q.natAbs = t.natAbs := Nat.dvd_antisymm d1 d2
  have p1 := h1.pos
  have p2 := h2.pos
  have e2 : q = t := by omega
  subst e2
  exact ⟨Int.eq_of_mul_eq_mul_right (by omega) h, rfl⟩
theorem leanI_eq {t u p q : Int} (hu : u ≠ 0) (hf : Fr p q) (h : t * q = p * u) : leanI t u = fr p q := by
  obtain ⟨a, b, e, f, g, _, _⟩ := leanI_spec t u hu
  obtain ⟨rfl, rfl⟩ := fr_unique f hf (by
    apply Int.eq_of_mul_eq_mul_right hu
    grind)
  exact e
/-! ### bounds -/
theorem bd_mul {a b : Int} {m n : Nat} (ha : a.natAbs ≤ m) (hb : b.natAbs ≤ n) : (a * b).natAbs ≤ m * n := by
  rw [Int.natAbs_mul]
  exact Nat.mul_le_mul ha hb
theorem bd_add {a b : Int} {m n : Nat} (ha : a.natAbs ≤ m) (hb : b.natAbs ≤ n) : (a + b).natAbs ≤ m + n := by omega
theorem bd_sub {a b : Int} {m n : Nat} (ha : a.natAbs ≤ m) (hb : b.natAbs ≤ n) : (a - b).natAbs ≤ m + n := by omega
theorem bd_log {a : Int} {m : Nat} (ha : a.natAbs ≤ m) (hm : m.log2 ≤ 1000) : a.natAbs.log2 ≤ 1000 := Nat.le_trans (log2_le_of_le ha) hm
abbrev B40 : Nat := 1099511627776
abbrev B90 : Nat := 1237940039285380274899124224
theorem mulOk_bd {a b : Int} (ha : a.natAbs ≤ B90) (hb : b.natAbs ≤ B90) : mulOk a b = true := mulOk_small (bd_log ha (by decide +kernel)) (bd_log hb (by decide +kernel)) (by omega)
theorem pMul_bd {a b : Int} (ha : a.natAbs ≤ B90) (hb : b.natAbs ≤ B90) : pMul (.int a) (.int b) = some (.int (a * b)) := pMul_ok (mulOk_bd ha hb)
theorem arOk_bd {a b : Int} (ha : a.natAbs ≤ B90) (hb : b.natAbs ≤ B90) (h0 : b ≠ 0) : arOk a b = true := by
  unfold arOk
  rw [Bool.and_eq_true, Bool.and_eq_true]
  have h1 := bd_log ha (by decide +kernel)
  have h2 := bd_log hb (by decide +kernel)
  exact ⟨⟨decide_eq_true h0, Nat.ble_eq_true_of_le (by show _ + 1 ≤ 8000; omega)⟩, Nat.ble_eq_true_of_le (by show _ + 1 ≤ 8000; omega)⟩
theorem lnP_bd {a b : Int} (ha : a.natAbs ≤ B90) (hb : b.natAbs ≤ B90) (h0 : b ≠ 0) (s : Sto) : F_leanP [.dat (.int a), .dat (.int b)] s = .ok (.dat (leanI a b)) s := lnP_ok (arOk_bd ha hb h0) s
structure Bd (p q : Int) : Prop where
  a : p.natAbs ≤ B40
  b : q.natAbs ≤ B40
theorem sm4_bd {a b c d : Int} (h1 : Bd a b) (h2 : Bd c d) : sm4 a b c d = true := by
  have e : 4 * B40 ≤ big := by decide +kernel
  have := h1.a; have := h1.b; have := h2.a; have := h2.b
  exact Nat.ble_eq_true_of_le (by omega)
section
variable {a b c d : Int}
theorem plus_bd (h1 : Bd a b) (h2 : Bd c d) (hb : b ≠ 0) (hd : d ≠ 0) (s : Sto) : P_plus [.dat (fr a b), .dat (fr c d)] s = .ok (.dat (leanI (a * d + c * b) (b * d))) s := by
  show (if sm4 a b c d && arOk (a * d + c * b) (b * d) then _ else _) = _
  rw [sm4_bd h1 h2, arOk_bd (Nat.le_trans (bd_add (bd_mul h1.a h2.b) (bd_mul h2.a h1.b)) (by decide)) (Nat.le_trans (bd_mul h1.b h2.b) (by decide)) (Int.mul_ne_zero hb hd)]
  rfl
theorem minus_bd (h1 : Bd a b) (h2 : Bd c d) (hb : b ≠ 0) (hd : d ≠ 0) (s : Sto) : P_minus [.dat (fr a b), .dat (fr c d)] s = .ok (.dat (leanI (a * d - c * b) (b * d))) s := by
  show (if sm4 a b c d && arOk (a * d - c * b) (b * d) then _ else _) = _
  rw [sm4_bd h1 h2, arOk_bd (Nat.le_trans (bd_sub (bd_mul h1.a h2.b) (bd_mul h2.a h1.b)) (by decide)) (Nat.le_trans (bd_mul h1.b h2.b) (by decide)) (Int.mul_ne_zero hb hd)]
  rfl
theorem times_bd (h1 : Bd a b) (h2 : Bd c d) (hb : b ≠ 0) (hd : d ≠ 0) (s : Sto) : P_times [.dat (fr a b), .dat (fr c d)] s = .ok (.dat (leanI (a * c) (b * d))) s := by
  show (if sm4 a b c d && arOk (a * c) (b * d) then _ else _) = _
  rw [sm4_bd h1 h2, arOk_bd (Nat.le_trans (bd_mul h1.a h2.a) (by decide)) (Nat.le_trans (bd_mul h1.b h2.b) (by decide)) (Int.mul_ne_zero hb hd)]
  rfl
theorem over_bd (h1 : Bd a b) (h2 : Bd c d) (hb : b ≠ 0) (hc : c ≠ 0) (s : Sto) : P_over [.dat (fr a b), .dat (fr c d)] s = .ok (.dat (leanI (a * d) (b * c))) s := by
  show (if sm4 a b c d && arOk (a * d) (b * c) then _ else _) = _
  rw [sm4_bd h1 h2, arOk_bd (Nat.le_trans (bd_mul h1.a h2.b) (by decide)) (Nat.le_trans (bd_mul h1.b h2.a) (by decide)) (Int.mul_ne_zero hb hc)]
  rfl
theorem less_bd (h1 : Bd a b) (h2 : Bd c d) (s : Sto) : P_less [.dat (fr a b), .dat (fr c d)] s = .ok (.dat (.bool (decide (a * d < c * b)))) s := by
  show (if sm4 a b c d then _ else _) = _
  rw [sm4_bd h1 h2]
  rfl
theorem isf_bd (h1 : Bd a b) (h : Fr a b) (s : Sto) : P_is_fraction [.dat (fr a b)] s = .ok (.dat (.bool true)) s := by
  show (if decide (b < 1) then _ else if Nat.blt a.natAbs.log2 8000 && Nat.blt b.natAbs.log2 8000 then _ else _) = _
  have := h.pos
  have h2 := bd_log h1.a (by decide +kernel)
  have h3 := bd_log h1.b (by decide +kernel)
  rw [decide_eq_false (by omega), show Nat.blt a.natAbs.log2 8000 = true from Nat.ble_eq_true_of_le (show _ + 1 ≤ 8000 by omega), show Nat.blt b.natAbs.log2 8000 = true from Nat.ble_eq_true_of_le (show _ + 1 ≤ 8000 by omega), h.cop]
  rfl
end
theorem pNe_int {a b : Int} (h : a = b) : pNe (.int a) (.int b) = some false := by
  subst h
  show some (!(a == a)) = _
  rw [beq_self_eq_true]
  rfl
theorem pNe_fr (p q : Int) : pNe (fr p q) (fr p q) = some false := by
  show (if SeqAt.shaped _ && SeqAt.shaped _ then some (PyData.eqv (fr p q) (fr p q)) else none).map not = _
  unfold fr
  rw [eqv_pair, decide_eq_true rfl, decide_eq_true rfl]
  rfl
end Ev
/-! RatFr: fractions as rationals. -/
namespace Ev
open PySem
def frD (x : Rat) : PyData := fr x.num (x.den : Int)
theorem frD_Fr (x : Rat) : Fr x.num (x.den : Int) := ⟨by have := x.den_pos; omega, by rw [Int.natAbs_natCast]; exact x.reduced⟩
theorem den0 (x : Rat) : (x.den : Int) ≠ 0 := by have := x.den_pos; omega
theorem leanI_rat {t u : Int} (hu : u ≠ 0) : leanI t u = frD (Rat.divInt t u) := by
  refine leanI_eq hu (frD_Fr _) ?_
  have h : Rat.divInt (Rat.divInt t u).num ((Rat.divInt t u).den : Int) = Rat.divInt t u := Rat.num_divInt_den _
  rw [Rat.divInt_eq_divInt_iff (den0 _) hu] at h
  omega
theorem add_div (x y : Rat) : Rat.divInt (x.num * (y.den : Int) + y.num * (x.den : Int)) ((x.den : Int) * (y.den : Int)) = x + y := by
  rw [← Rat.divInt_add_divInt _ _ (den0 x) (den0 y), Rat.num_divInt_den, Rat.num_divInt_den]
theorem sub_div (x y : Rat) : Rat.divInt (x.num * (y.den : Int) - y.num * (x.den : Int)) ((x.den : Int) * (y.den : Int)) = x - y := by
  rw [← Rat.divInt_sub_divInt _ _ (den0 x) (den0 y), Rat.num_divInt_den, Rat.num_divInt_den]
theorem mul_div (x y : Rat) : Rat.divInt (x.num * y.num) ((x.den : Int) * (y.den : Int)) = x * y := by
  rw [← Rat.divInt_mul_divInt, Rat.num_divInt_den, Rat.num_divInt_den]
theorem div_div (x y : Rat) : Rat.divInt (x.num * (y.den : Int)) ((x.den : Int) * y.num) = x / y := by
  rw [← Rat.divInt_mul_divInt, Rat.num_divInt_den, Rat.div_def, ← Rat.inv_divInt, Rat.num_divInt_den]
theorem lt_num (x y : Rat) : decide (x.num * (y.den : Int) < y.num * (x.den : Int)) = decide (x < y) := by
  rw [decide_eq_decide, Rat.lt_iff]
theorem le_num (x y : Rat) : decide (x.num * (y.den : Int) ≤ y.num * (x.den : Int)) = decide (x ≤ y) := by
  rw [decide_eq_decide, Rat.le_iff]
/-! ### sizes -/
structure Sz (n : Nat) (x : Rat) : Prop where
  a : x.num.natAbs < 2 ^ n
  b : x.den < 2 ^ n
theorem Sz.mono {m n : Nat} {x : Rat} (h : Sz m x) (l : m ≤ n) : Sz n x := ⟨Nat.lt_of_lt_of_le h.a (Nat.pow_le_pow_right (by omega) l), Nat.lt_of_lt_of_le h.b (Nat.pow_le_pow_right (by omega) l)⟩
theorem pow_mul {a b m n : Nat} (ha : a < 2 ^ m) (hb : b < 2 ^ n) : a * b < 2 ^ (m + n) := by
  rw [Nat.pow_add]
  exact Nat.mul_lt_mul'' ha hb
theorem pow_add {a b n : Nat} (ha : a < 2 ^ n) (hb : b < 2 ^ n) : a + b < 2 ^ (n + 1) := by
  rw [Nat.pow_succ]
  omega
/-- the numbers of t/u are no larger than t and u -/
theorem divInt_sz {t u : Int} {n : Nat} (hu : u ≠ 0) (h1 : t.natAbs < 2 ^ n) (h2 : u.natAbs < 2 ^ n) : Sz n (Rat.divInt t u) := by
  obtain ⟨p, q, e, f, g, hp, hq⟩ := leanI_spec t u hu
  rw [leanI_rat hu] at e
  unfold frD fr at e
  injection e with e
  injection e with e1 e2
  injection e1 with e1
  injection e2 with e2 _
  injection e2 with e2
  have e3 : (Rat.divInt t u).den = q.natAbs := by omega
  exact ⟨by rw [e1]; omega, by rw [e3]; omega⟩
section
variable {m n : Nat} {x y : Rat}
theorem num_mul (h1 : Sz m x) (h2 : Sz n y) : (x.num * (y.den : Int)).natAbs < 2 ^ (m + n) := by
  rw [Int.natAbs_mul, Int.natAbs_natCast]
  exact pow_mul h1.a h2.b
theorem den_mul (h1 : Sz m x) (h2 : Sz n y) : ((x.den : Int) * (y.den : Int)).natAbs < 2 ^ (m + n) := by
  rw [Int.natAbs_mul, Int.natAbs_natCast, Int.natAbs_natCast]
  exact pow_mul h1.b h2.b
theorem Sz.add (h1 : Sz m x) (h2 : Sz n y) : Sz (m + n + 1) (x + y) := by
  rw [← add_div]
  refine divInt_sz (Int.mul_ne_zero (den0 x) (den0 y)) ?_ (Nat.lt_of_lt_of_le (den_mul h1 h2) (Nat.pow_le_pow_right (by omega) (by omega)))
  refine Nat.lt_of_le_of_lt (Int.natAbs_add_le _ _) (pow_add (num_mul h1 h2) ?_)
  rw [Nat.add_comm m n]
  exact num_mul h2 h1
theorem Sz.sub (h1 : Sz m x) (h2 : Sz n y) : Sz (m + n + 1) (x - y) := by
  rw [← sub_div]
  refine divInt_sz (Int.mul_ne_zero (den0 x) (den0 y)) ?_ (Nat.lt_of_lt_of_le (den_mul h1 h2) (Nat.pow_le_pow_right (by omega) (by omega)))
  refine Nat.lt_of_le_of_lt (Int.natAbs_sub_le _ _) (pow_add (num_mul h1 h2) ?_)
  rw [Nat.add_comm m n]
  exact num_mul h2 h1
theorem Sz.mul (h1 : Sz m x) (h2 : Sz n y) : Sz (m + n) (x * y) := by
  rw [← mul_div]
  refine divInt_sz (Int.mul_ne_zero (den0 x) (den0 y)) ?_ (den_mul h1 h2)
  rw [Int.natAbs_mul]
  exact pow_mul h1.a h2.a
theorem Sz.div (h1 : Sz m x) (h2 : Sz n y) (h0 : y ≠ 0) : Sz (m + n) (x / y) := by
  have hn : y.num ≠ 0 := fun z => h0 (Rat.num_eq_zero.mp z)
  rw [← div_div]
  refine divInt_sz (Int.mul_ne_zero (den0 x) hn) (num_mul h1 h2) ?_
  rw [Int.natAbs_mul, Int.natAbs_natCast]
  exact pow_mul h1.b h2.a
theorem sz_lt (h : Sz n x) (l : n ≤ 3540) : x.num.natAbs < 2 ^ 3540 ∧ x.den < 2 ^ 3540 := ⟨(h.mono l).a, (h.mono l).b⟩
theorem sm4_sz (h1 : Sz m x) (h2 : Sz n y) (l1 : m ≤ 3540) (l2 : n ≤ 3540) : sm4 x.num (x.den : Int) y.num (y.den : Int) = true := by
  have e : 4 * 2 ^ 3540 ≤ big := by decide +kernel
  obtain ⟨a1, a2⟩ := sz_lt h1 l1
  obtain ⟨a3, a4⟩ := sz_lt h2 l2
  refine Nat.ble_eq_true_of_le ?_
  rw [Int.natAbs_natCast, Int.natAbs_natCast]
  generalize 2 ^ 3540 = B at *
  omega
theorem arOk_sz {t u : Int} {k : Nat} (h1 : t.natAbs < 2 ^ k) (h2 : u.natAbs < 2 ^ k) (h0 : u ≠ 0) (l : k < 8000) : arOk t u = true := by
  have key : ∀ {a : Int}, a.natAbs < 2 ^ k → a.natAbs.log2 < 8000 := fun {a} h => by
    rcases Nat.eq_zero_or_pos a.natAbs with e | e
    · rw [e, Nat.log2_zero]; omega
    · exact Nat.lt_trans ((Nat.log2_lt (by omega)).mpr h) l
  unfold arOk
  rw [Bool.and_eq_true, Bool.and_eq_true]
  exact ⟨⟨decide_eq_true h0, Nat.ble_eq_true_of_le (key h1)⟩, Nat.ble_eq_true_of_le (key h2)⟩
theorem plus_r (h1 : Sz m x) (h2 : Sz n y) (l1 : m ≤ 3540) (l2 : n ≤ 3540) (s : Sto) : P_plus [.dat (frD x), .dat (frD y)] s = .ok (.dat (frD (x + y))) s := by
  show (if sm4 x.num (x.den : Int) y.num (y.den : Int) && arOk (x.num * (y.den : Int) + y.num * (x.den : Int)) ((x.den : Int) * (y.den : Int)) then _ else _) = _
  have b1 : (x.num * (y.den : Int) + y.num * (x.den : Int)).natAbs < 2 ^ (m + n + 1) := Nat.lt_of_le_of_lt (Int.natAbs_add_le _ _) (pow_add (num_mul h1 h2) (by rw [Nat.add_comm m n]; exact num_mul h2 h1))
  rw [sm4_sz h1 h2 l1 l2, arOk_sz b1 (Nat.lt_of_lt_of_le (den_mul h1 h2) (Nat.pow_le_pow_right (by omega) (by omega))) (Int.mul_ne_zero (den0 x) (den0 y)) (by omega), leanI_rat (Int.mul_ne_zero (den0 x) (den0 y)), add_div]
  rfl
theorem minus_r (h1 : Sz m x) (h2 : Sz n y) (l1 : m ≤ 3540) (l2 : n ≤ 3540) (s : Sto) : P_minus [.dat (frD x), .dat (frD y)] s = .ok (.dat (frD (x - y))) s := by
  show (if sm4 x.num (x.den : Int) y.num (y.den : Int) && arOk (x.num * (y.den : Int) - y.num * (x.den : Int)) ((x.den : Int) * (y.den : Int)) then _ else _) = _
  have b1 : (x.num * (y.den : Int) - y.num * (x.den : Int)).natAbs < 2 ^ (m + n + 1) := Nat.lt_of_le_of_lt (Int.natAbs_sub_le _ _) (pow_add (num_mul h1 h2) (by rw [Nat.add_comm m n]; exact num_mul h2 h1))
  rw [sm4_sz h1 h2 l1 l2, arOk_sz b1 (Nat.lt_of_lt_of_le (den_mul h1 h2) (Nat.pow_le_pow_right (by omega) (by omega))) (Int.mul_ne_zero (den0 x) (den0 y)) (by omega), leanI_rat (Int.mul_ne_zero (den0 x) (den0 y)), sub_div]
  rfl
theorem times_r (h1 : Sz m x) (h2 : Sz n y) (l1 : m ≤ 3540) (l2 : n ≤ 3540) (s : Sto) : P_times [.dat (frD x), .dat (frD y)] s = .ok (.dat (frD (x * y))) s := by
  show (if sm4 x.num (x.den : Int) y.num (y.den : Int) && arOk (x.num * y.num) ((x.den : Int) * (y.den : Int)) then _ else _) = _
  have b1 : (x.num * y.num).natAbs < 2 ^ (m + n) := by rw [Int.natAbs_mul]; exact pow_mul h1.a h2.a
  rw [sm4_sz h1 h2 l1 l2, arOk_sz b1 (den_mul h1 h2) (Int.mul_ne_zero (den0 x) (den0 y)) (by omega), leanI_rat (Int.mul_ne_zero (den0 x) (den0 y)), mul_div]
  rfl
theorem over_r (h1 : Sz m x) (h2 : Sz n y) (l1 : m ≤ 3540) (l2 : n ≤ 3540) (h0 : y ≠ 0) (s : Sto) : P_over [.dat (frD x), .dat (frD y)] s = .ok (.dat (frD (x / y))) s := by
  have hn : y.num ≠ 0 := fun z => h0 (Rat.num_eq_zero.mp z)
  show (if sm4 x.num (x.den : Int) y.num (y.den : Int) && arOk (x.num * (y.den : Int)) ((x.den : Int) * y.num) then _ else _) = _
  have b1 : ((x.den : Int) * y.num).natAbs < 2 ^ (m + n) := by rw [Int.natAbs_mul, Int.natAbs_natCast]; exact pow_mul h1.b h2.a
  rw [sm4_sz h1 h2 l1 l2, arOk_sz (num_mul h1 h2) b1 (Int.mul_ne_zero (den0 x) hn) (by omega), leanI_rat (Int.mul_ne_zero (den0 x) hn), div_div]
  rfl
theorem less_r (h1 : Sz m x) (h2 : Sz n y) (l1 : m ≤ 3540) (l2 : n ≤ 3540) (s : Sto) : P_less [.dat (frD x), .dat (frD y)] s = .ok (.dat (.bool (decide (x < y)))) s := by
  show (if sm4 x.num (x.den : Int) y.num (y.den : Int) then Out.ok (Vl.dat (.bool (decide (x.num * (y.den : Int) < y.num * (x.den : Int))))) s else _) = _
  rw [sm4_sz h1 h2 l1 l2, lt_num]
  rfl
theorem no_more_r (h1 : Sz m x) (h2 : Sz n y) (l1 : m ≤ 3540) (l2 : n ≤ 3540) (s : Sto) : P_no_more [.dat (frD x), .dat (frD y)] s = .ok (.dat (.bool (decide (x ≤ y)))) s := by
  show (if sm4 x.num (x.den : Int) y.num (y.den : Int) then Out.ok (Vl.dat (.bool (decide (x.num * (y.den : Int) ≤ y.num * (x.den : Int))))) s else _) = _
  rw [sm4_sz h1 h2 l1 l2, le_num]
  rfl
theorem isf_r (h1 : Sz m x) (l1 : m ≤ 3540) (s : Sto) : P_is_fraction [.dat (frD x)] s = .ok (.dat (.bool true)) s := by
  obtain ⟨a1, a2⟩ := sz_lt h1 l1
  have f := frD_Fr x
  have p := f.pos
  show (if decide ((x.den : Int) < 1) then _ else if Nat.blt x.num.natAbs.log2 8000 && Nat.blt (x.den : Int).natAbs.log2 8000 then _ else _) = _
  have k := arOk_sz (k := 3540) a1 (u := (x.den : Int)) (by rw [Int.natAbs_natCast]; exact a2) (den0 x) (by omega)
  unfold arOk at k
  rw [Bool.and_eq_true, Bool.and_eq_true] at k
  rw [decide_eq_false (by omega), k.1.2, k.2, f.cop]
  rfl
end
theorem frD_inj {x y : Rat} (h : frD x = frD y) : x = y := by
  unfold frD fr at h
  injection h with h
  injection h with h1 h2
  injection h1 with h1
  injection h2 with h2 _
  injection h2 with h2
  exact Rat.ext h1 (by omega)
theorem pEq_r (x y : Rat) : pEq (frD x) (frD y) = some (decide (x = y)) := by
  show (if SeqAt.shaped _ && SeqAt.shaped _ then some (PyData.eqv (frD x) (frD y)) else none) = _
  unfold frD fr
  rw [eqv_pair, ← Bool.decide_and]
  show some _ = some _
  congr 1
  rw [decide_eq_decide]
  exact ⟨fun ⟨h1, h2⟩ => Rat.ext h1 (by omega), fun h => by subst h; exact ⟨rfl, rfl⟩⟩
end Ev
/-! WalkL: loops and comprehensions over mapped lists. -/
namespace Ev
open PySem
section
variable {α β : Type} {s : Sto} {env : Env} {e : ME} {it : MI} {tg : TG} {own : List Nat} {c : MT}
theorem lc_go (D : α → PyData) (p : α → Bool) (f : α → PyData) : ∀ (xs : List α),
    (∀ x ∈ xs, ∃ env1, tg.put (D x) (wipeE env own) = some env1 ∧ c env1 s = .ok (p x) s ∧ (p x = true → e env1 s = .ok (.dat (f x)) s)) →
    lcGo (turn tg own c (one e) env) (xs.map D) s = .ok ((xs.filter p).map f) s
  | [], _ => rfl
  | x :: xs, h => by
    obtain ⟨env1, h1, h2, h3⟩ := h x (List.mem_cons_self ..)
    have ih := lc_go D p f xs fun y hy => h y (List.mem_cons_of_mem _ hy)
    rw [List.map_cons, lcGo]
    have t : turn tg own c (one e) env (D x) s = .ok (if p x then [f x] else []) s := by
      unfold turn
      rw [h1]
      simp only [h2, Out.bind]
      cases hp : p x with
      | true =>
        simp only [one, h3 hp, Out.bind]
        rfl
      | false => rfl
    rw [t]
    simp only [Out.bind, ih]
    cases hp : p x <;> simp [List.filter_cons, hp]
theorem lc_fil (D : α → PyData) (p : α → Bool) (f : α → PyData) (xs : List α) (h0 : it env s = .ok (.its (xs.map D)) s) (hl : xs.length ≤ 1000)
    (h : ∀ x ∈ xs, ∃ env1, tg.put (D x) (wipeE env own) = some env1 ∧ c env1 s = .ok (p x) s ∧ (p x = true → e env1 s = .ok (.dat (f x)) s)) :
    eLc it tg own c e env s = .ok (.dat (.list ((xs.filter p).map f))) s := by
  have t := lc_go D p f xs h
  unfold eLc
  rw [h0]
  simp only [Out.bind, lcRun, t]
  have : ((xs.filter p).map f).length ≤ line := by
    rw [List.length_map]
    have := List.length_filter_le p xs
    unfold line
    omega
  unfold okL
  rw [Nat.ble_eq_true_of_le this]
  rfl
theorem filter_true {xs : List α} : xs.filter (fun _ => true) = xs := by
  induction xs with
  | nil => rfl
  | cons x xs ih => simp [List.filter_cons]
theorem lc_map (D : α → PyData) (f : α → PyData) (xs : List α) (h0 : it env s = .ok (.its (xs.map D)) s) (hl : xs.length ≤ 1000)
    (h : ∀ x ∈ xs, ∃ env1, tg.put (D x) (wipeE env own) = some env1 ∧ e env1 s = .ok (.dat (f x)) s) :
    eLc it tg own tYes e env s = .ok (.dat (.list (xs.map f))) s := by
  have t := lc_fil (c := tYes) D (fun _ => true) f xs h0 hl fun x hx => by
    obtain ⟨env1, h1, h2⟩ := h x hx
    exact ⟨env1, h1, rfl, fun _ => h2⟩
  rw [filter_true] at t
  exact t
theorem allB_map (p : α → Bool) : ∀ (xs : List α), allB (xs.map fun x => PyData.bool (p x)) = some (xs.all p)
  | [] => rfl
  | x :: xs => by
    rw [List.map_cons, allB, allB_map p xs]
    rfl
theorem anyB_map (p : α → Bool) : ∀ (xs : List α), anyB (xs.map fun x => PyData.bool (p x)) = some (xs.any p)
  | [] => rfl
  | x :: xs => by
    rw [List.map_cons, anyB, anyB_map p xs]
    rfl
theorem all_map (D : α → PyData) (p : α → Bool) (xs : List α) (h0 : it env s = .ok (.its (xs.map D)) s) (hl : xs.length ≤ 1000)
    (h : ∀ x ∈ xs, ∃ env1, tg.put (D x) (wipeE env own) = some env1 ∧ e env1 s = .ok (.dat (.bool (p x))) s) :
    eBlt bAll (aCons (eLc it tg own tYes e) aNil) env s = .ok (.dat (.bool (xs.all p))) s := by
  refine eBlt1_dat (lc_map D (fun x => .bool (p x)) xs h0 hl h) ?_
  show (allB _).map _ = _
  rw [allB_map]
  rfl
theorem any_map (D : α → PyData) (p : α → Bool) (xs : List α) (h0 : it env s = .ok (.its (xs.map D)) s) (hl : xs.length ≤ 1000)
    (h : ∀ x ∈ xs, ∃ env1, tg.put (D x) (wipeE env own) = some env1 ∧ e env1 s = .ok (.dat (.bool (p x))) s) :
    eBlt bAny (aCons (eLc it tg own tYes e) aNil) env s = .ok (.dat (.bool (xs.any p))) s := by
  refine eBlt1_dat (lc_map D (fun x => .bool (p x)) xs h0 hl h) ?_
  show (anyB _).map _ = _
  rw [anyB_map]
  rfl
/-- a loop by an invariant -/
theorem for_go {body : MS} (D : α → PyData) (I : β → Env → Sto → Prop) (step : β → α → β) : ∀ (xs : List α) (b : β) (env : Env) (s : Sto),
    (∀ b x env s, x ∈ xs → I b env s → ∃ env1, tg.put (D x) env = some env1 ∧ ∃ env2 s2, body env1 s = .ok (.nx env2) s2 ∧ I (step b x) env2 s2) →
    I b env s → ∃ env2 s2, forGo body tg (xs.map D) env s = .ok (.nx env2) s2 ∧ I (xs.foldl step b) env2 s2
  | [], b, env, s, _, hi => ⟨env, s, rfl, hi⟩
  | x :: xs, b, env, s, h, hi => by
    obtain ⟨env1, h1, env2, s2, h2, h3⟩ := h b x env s (List.mem_cons_self ..) hi
    obtain ⟨env3, s3, h4, h5⟩ := for_go D I step xs (step b x) env2 s2 (fun b y env s hy => h b y env s (List.mem_cons_of_mem _ hy)) h3
    refine ⟨env3, s3, ?_, h5⟩
    rw [List.map_cons, forGo, h1]
    simp only [h2, Out.bind]
    exact h4
theorem for_its {body : MS} (D : α → PyData) (I : β → Env → Sto → Prop) (step : β → α → β) (xs : List α) (b : β) (h0 : it env s = .ok (.its (xs.map D)) s)
    (h : ∀ b x env s, x ∈ xs → I b env s → ∃ env1, tg.put (D x) env = some env1 ∧ ∃ env2 s2, body env1 s = .ok (.nx env2) s2 ∧ I (step b x) env2 s2)
    (hi : I b env s) : ∃ env2 s2, sFor it tg body env s = .ok (.nx env2) s2 ∧ I (xs.foldl step b) env2 s2 := by
  obtain ⟨env2, s2, h1, h2⟩ := for_go D I step xs b env s h hi
  refine ⟨env2, s2, ?_, h2⟩
  unfold sFor
  rw [h0]
  simp only [Out.bind, h1]
  rfl
theorem forX_its {body : MS} {a : ME} {s1 : Sto} {d : PyData} (D : α → PyData) (I : β → Env → Sto → Prop) (step : β → α → β) (xs : List α) (b : β) (h0 : a env s = .ok (.dat d) s1) (hd : seqD d = some (xs.map D))
    (h : ∀ b x env s, x ∈ xs → I b env s → ∃ env1, tg.put (D x) env = some env1 ∧ ∃ env2 s2, body env1 s = .ok (.nx env2) s2 ∧ I (step b x) env2 s2)
    (hi : I b env s1) : ∃ env2 s2, sForX a tg body env s = .ok (.nx env2) s2 ∧ I (xs.foldl step b) env2 s2 := by
  obtain ⟨env2, s2, h1, h2⟩ := for_its (it := iSeq fun _ s => .ok (.dat d) s) (s := s1) D I step xs b (by
    unfold iSeq
    cases d <;> first | (cases hd; rfl) | (cases hd; done)) h hi
  refine ⟨env2, s2, ?_, h2⟩
  unfold sForX
  rw [h0]
  exact h1
/-- a loop by an invariant that counts the turns -/
theorem forN_go {body : MS} (D : α → PyData) (I : Nat → β → Env → Sto → Prop) (step : β → α → β) : ∀ (xs : List α) (j N : Nat) (b : β) (env : Env) (s : Sto), j + xs.length = N →
    (∀ j b x env s, x ∈ xs → j < N → I j b env s → ∃ env1, tg.put (D x) env = some env1 ∧ ∃ env2 s2, body env1 s = .ok (.nx env2) s2 ∧ I (j + 1) (step b x) env2 s2) →
    I j b env s → ∃ env2 s2, forGo body tg (xs.map D) env s = .ok (.nx env2) s2 ∧ I N (xs.foldl step b) env2 s2
  | [], j, N, b, env, s, hj, _, hi => ⟨env, s, rfl, by simp at hj; rw [← hj]; exact hi⟩
  | x :: xs, j, N, b, env, s, hj, h, hi => by
    rw [List.length_cons] at hj
    obtain ⟨env1, h1, env2, s2, h2, h3⟩ := h j b x env s (List.mem_cons_self ..) (by omega) hi
    obtain ⟨env3, s3, h4, h5⟩ := forN_go D I step xs (j + 1) N (step b x) env2 s2 (by omega) (fun j b y env s hy => h j b y env s (List.mem_cons_of_mem _ hy)) h3
    refine ⟨env3, s3, ?_, h5⟩
    rw [List.map_cons, forGo, h1]
    simp only [h2, Out.bind]
    exact h4
theorem forN_its {body : MS} (D : α → PyData) (I : Nat → β → Env → Sto → Prop) (step : β → α → β) (xs : List α) (b : β) (h0 : it env s = .ok (.its (xs.map D)) s)
    (h : ∀ j b x env s, x ∈ xs → j < xs.length → I j b env s → ∃ env1, tg.put (D x) env = some env1 ∧ ∃ env2 s2, body env1 s = .ok (.nx env2) s2 ∧ I (j + 1) (step b x) env2 s2)
    (hi : I 0 b env s) : ∃ env2 s2, sFor it tg body env s = .ok (.nx env2) s2 ∧ I xs.length (xs.foldl step b) env2 s2 := by
  obtain ⟨env2, s2, h1, h2⟩ := forN_go D I step xs 0 xs.length b env s (by omega) h hi
  refine ⟨env2, s2, ?_, h2⟩
  unfold sFor
  rw [h0]
  simp only [Out.bind, h1]
  rfl
theorem forXN_its {body : MS} {a : ME} {s1 : Sto} {d : PyData} (D : α → PyData) (I : Nat → β → Env → Sto → Prop) (step : β → α → β) (xs : List α) (b : β) (h0 : a env s = .ok (.dat d) s1) (hd : seqD d = some (xs.map D))
    (h : ∀ j b x env s, x ∈ xs → j < xs.length → I j b env s → ∃ env1, tg.put (D x) env = some env1 ∧ ∃ env2 s2, body env1 s = .ok (.nx env2) s2 ∧ I (j + 1) (step b x) env2 s2)
    (hi : I 0 b env s1) : ∃ env2 s2, sForX a tg body env s = .ok (.nx env2) s2 ∧ I xs.length (xs.foldl step b) env2 s2 := by
  obtain ⟨env2, s2, h1, h2⟩ := forN_its (it := iSeq fun _ s => .ok (.dat d) s) (s := s1) D I step xs b (by
    unfold iSeq
    cases d <;> first | (cases hd; rfl) | (cases hd; done)) h hi
  refine ⟨env2, s2, ?_, h2⟩
  unfold sForX
  rw [h0]
  exact h1
/-- a loop by a relation -/
theorem for_rel_go {body : MS} (I : Nat → Env → Sto → Prop) : ∀ (xs : List PyData) (j : Nat) (env : Env) (s : Sto),
    (∀ i x env s, xs[i]? = some x → I (j + i) env s → ∃ env1, tg.put x env = some env1 ∧ ∃ env2 s2, body env1 s = .ok (.nx env2) s2 ∧ I (j + i + 1) env2 s2) →
    I j env s → ∃ env2 s2, forGo body tg xs env s = .ok (.nx env2) s2 ∧ I (j + xs.length) env2 s2
  | [], j, env, s, _, hi => ⟨env, s, rfl, hi⟩
  | x :: xs, j, env, s, h, hi => by
    obtain ⟨env1, h1, env2, s2, h2, h3⟩ := h 0 x env s rfl hi
    obtain ⟨env3, s3, h4, h5⟩ := for_rel_go I xs (j + 1) env2 s2 (fun i y env s hy hi => by
      have := h (i + 1) y env s (by rw [List.getElem?_cons_succ]; exact hy) (by rw [show j + (i + 1) = j + 1 + i by omega]; exact hi)
      rw [show j + (i + 1) + 1 = j + 1 + i + 1 by omega] at this
      exact this) h3
    refine ⟨env3, s3, ?_, by rw [List.length_cons, show j + (xs.length + 1) = j + 1 + xs.length by omega]; exact h5⟩
    rw [forGo, h1]
    simp only [h2, Out.bind]
    exact h4
theorem for_rel {body : MS} {xs : List PyData} {s1 : Sto} (I : Nat → Env → Sto → Prop) (h0 : it env s = .ok (.its xs) s1)
    (h : ∀ i x env s, xs[i]? = some x → I i env s → ∃ env1, tg.put x env = some env1 ∧ ∃ env2 s2, body env1 s = .ok (.nx env2) s2 ∧ I (i + 1) env2 s2)
    (hi : I 0 env s1) : ∃ env2 s2, sFor it tg body env s = .ok (.nx env2) s2 ∧ I xs.length env2 s2 := by
  obtain ⟨env2, s2, h1, h2⟩ := for_rel_go (tg := tg) (body := body) I xs 0 env s1 (fun i x env s hx hi => by
    rw [Nat.zero_add] at hi
    rw [Nat.zero_add]
    exact h i x env s hx hi) hi
  rw [Nat.zero_add] at h2
  refine ⟨env2, s2, ?_, h2⟩
  unfold sFor
  rw [h0]
  simp only [Out.bind, h1]
  rfl
theorem forX_rel {body : MS} {a : ME} {d : PyData} {xs : List PyData} {s1 : Sto} (I : Nat → Env → Sto → Prop) (h0 : a env s = .ok (.dat d) s1) (hd : seqD d = some xs)
    (h : ∀ i x env s, xs[i]? = some x → I i env s → ∃ env1, tg.put x env = some env1 ∧ ∃ env2 s2, body env1 s = .ok (.nx env2) s2 ∧ I (i + 1) env2 s2)
    (hi : I 0 env s1) : ∃ env2 s2, sForX a tg body env s = .ok (.nx env2) s2 ∧ I xs.length env2 s2 := by
  obtain ⟨env2, s2, h1, h2⟩ := for_rel (it := iSeq fun _ s => .ok (.dat d) s) (s := s1) (s1 := s1) (env := env) (tg := tg) (body := body) I (by
    unfold iSeq
    cases d <;> first | (cases hd; rfl) | (cases hd; done)) h hi
  refine ⟨env2, s2, ?_, h2⟩
  unfold sForX
  rw [h0]
  exact h1
theorem upTo_get : ∀ (n : Nat) (lo : Int) (i : Nat) (x : PyData), (upFrom lo n)[i]? = some x → x = .int (lo + i) ∧ i < n
  | 0, lo, i, x, h => by simp [upFrom] at h
  | n + 1, lo, 0, x, h => by
    cases h
    exact ⟨by simp, by omega⟩
  | n + 1, lo, i + 1, x, h => by
    rw [upFrom, List.getElem?_cons_succ] at h
    obtain ⟨h1, h2⟩ := upTo_get n (lo + 1) i x h
    exact ⟨by rw [h1]; congr 1; omega, by omega⟩
theorem upTo_len : ∀ (n : Nat) (lo : Int), (upFrom lo n).length = n
  | 0, _ => rfl
  | n + 1, lo => by
    rw [upFrom, List.length_cons, upTo_len]
end
end Ev
/-! LotsR: what the defs of lots compute over rationals. -/
namespace Ev
open PySem
abbrev P2 := Rat × Rat
def pD (p : P2) : PyData := .tuple [frD p.1, frD p.2]
def lotD (cs : List P2) (k : P2) : PyData := .tuple [.tuple (cs.map pD), pD k]
structure SzP (n : Nat) (p : P2) : Prop where
  a : Sz n p.1
  b : Sz n p.2
theorem SzP.mono {m n : Nat} {p : P2} (h : SzP m p) (l : m ≤ n) : SzP n p := ⟨h.a.mono l, h.b.mono l⟩
def SzL (n : Nat) (cs : List P2) : Prop := ∀ p ∈ cs, SzP n p
section
variable {m n k : Nat} {x y z : Rat} {p q : P2} {cs : List P2} {kp : P2} {s : Sto}
theorem szc {q : Rat} (h : q.num.natAbs < 2 ^ 4 := by decide) (h2 : q.den < 2 ^ 4 := by decide) : Sz 4 q := ⟨h, h2⟩
theorem z0 : frD 0 = .tuple [.int 0, .int 1] := rfl
theorem many_r (a b : PyData) : F_is_many [.dat (.tuple [a, b]), .dat (.int 2)] s = .ok (.dat (.bool true)) s := fnS_dat0 rfl rfl
theorem is_point_r (h : SzP m p) (l : m ≤ 3540) : F_is_point [.dat (pD p)] s = .ok (.dat (.bool true)) s :=
  fnS_dat0 rfl (sRet_ok (eAnd_t (eCall2_dat rfl rfl (many_r _ _)) (eAnd_t (eCall1_dat (d := frD p.1) rfl (isf_r h.a l s)) (eCall1_dat (d := frD p.2) rfl (isf_r h.b l s)))))
theorem tup2 {a b : ME} {env : Env} {d e : PyData} (ha : a env s = .ok (.dat d) s) (hb : b env s = .ok (.dat e) s) : eTup (aCons a (aCons b aNil)) env s = .ok (.dat (.tuple [d, e])) s := by
  have h1 : aCons b aNil env s = .ok [.dat e] s := by
    unfold aCons
    rw [hb]
    rfl
  have h2 : aCons a (aCons b aNil) env s = .ok [.dat d, .dat e] s := by
    rw [aCons.eq_1 a, ha]
    simp only [Out.bind, h1]
  unfold eTup
  rw [h2]
  rfl
theorem sExp_nx {a : ME} {env : Env} {s s1 : Sto} {v : Vl} (h : a env s = .ok v s1) : sExp a env s = .ok (.nx env) s1 := by
  unfold sExp
  rw [h]
  rfl
theorem sif_skip {c : ME} {a r : MS} {env : Env} (h : c env s = .ok (.dat (.bool false)) s) : sCons (sIf c a sNil) r env s = r env s := sCons_nx (sIf_f h)
theorem sif_do {c : ME} {a r : MS} {env : Env} {v : Vl} (h : c env s = .ok (.dat (.bool true)) s) (ha : a env s = .ok (.rt v) s) : sCons (sIf c a sNil) r env s = .ok (.rt v) s := sCons_rt ((sIf_t h).trans ha)
/-! ### a nested comprehension of pairs -/
section
variable {α : Type} {env : Env} {e : ME} {it it1 : MI} {tg tg1 : TG} {own own1 : List Nat} {c1 : MT}
theorem lc2_go (D : α → PyData) (a b : α → Bool) : ∀ (xs : List α), (∀ x ∈ xs, ∃ env1, tg.put (D x) (wipeE env own) = some env1 ∧ inner it1 tg1 own1 c1 e env1 s = .ok [.bool (a x), .bool (b x)] s) →
    ∃ ds, lcGo (turn tg own tYes (inner it1 tg1 own1 c1 e) env) (xs.map D) s = .ok ds s ∧ allB ds = some (xs.all fun x => a x && b x) ∧ ds.length = 2 * xs.length
  | [], _ => ⟨[], rfl, rfl, rfl⟩
  | x :: xs, h => by
    obtain ⟨env1, h1, h2⟩ := h x (List.mem_cons_self ..)
    obtain ⟨ds, h3, h4, h5⟩ := lc2_go D a b xs fun y hy => h y (List.mem_cons_of_mem _ hy)
    refine ⟨.bool (a x) :: .bool (b x) :: ds, ?_, ?_, by simp only [List.length_cons, h5]; omega⟩
    · rw [List.map_cons, lcGo]
      have t : turn tg own tYes (inner it1 tg1 own1 c1 e) env (D x) s = .ok [.bool (a x), .bool (b x)] s := by
        unfold turn
        rw [h1]
        simp only [tYes, Out.bind, h2]
      rw [t]
      simp only [Out.bind, h3]
      rfl
    · rw [allB, allB, h4]
      simp only [List.all_cons, Bool.and_assoc]
theorem all2_map (D : α → PyData) (a b : α → Bool) (xs : List α) (h0 : it env s = .ok (.its (xs.map D)) s) (hl : xs.length ≤ 1000)
    (h : ∀ x ∈ xs, ∃ env1, tg.put (D x) (wipeE env own) = some env1 ∧ inner it1 tg1 own1 c1 e env1 s = .ok [.bool (a x), .bool (b x)] s) :
    eBlt bAll (aCons (eLc2 it tg own tYes it1 tg1 own1 c1 e) aNil) env s = .ok (.dat (.bool (xs.all fun x => a x && b x))) s := by
  obtain ⟨ds, h3, h4, h5⟩ := lc2_go D a b xs h
  refine eBlt1_dat (d := .list ds) ?_ (by show (allB ds).map _ = _; rw [h4]; rfl)
  unfold eLc2
  rw [h0]
  simp only [Out.bind, lcRun, h3]
  unfold okL
  rw [Nat.ble_eq_true_of_le (by unfold line; omega)]
  rfl
theorem inner_two {i : Nat} {d0 d1 r0 r1 : PyData} (h0 : it env s = .ok (.its [d0, d1]) s) (h1 : e ((env.set i none).set i (some (.dat d0))) s = .ok (.dat r0) s) (h2 : e ((env.set i none).set i (some (.dat d1))) s = .ok (.dat r1) s) :
    inner it (.nm i) [i] tYes e env s = .ok [r0, r1] s := by
  unfold inner
  rw [h0]
  have t1 : ∀ {d u : PyData}, e ((env.set i none).set i (some (.dat d))) s = .ok (.dat u) s → turn (.nm i) [i] tYes (one e) env d s = .ok [u] s := fun {d u} h => by
    show Out.bind (e ((env.set i none).set i (some (.dat d))) s) _ = _
    rw [h]
    rfl
  simp only [Out.bind, lcRun, lcGo, t1 h1, t1 h2]
  rfl
theorem lc_two {i : Nat} {d0 d1 r0 r1 : PyData} (h0 : it env s = .ok (.its [d0, d1]) s) (h1 : e ((env.set i none).set i (some (.dat d0))) s = .ok (.dat r0) s) (h2 : e ((env.set i none).set i (some (.dat d1))) s = .ok (.dat r1) s) :
    eLc it (.nm i) [i] tYes e env s = .ok (.dat (.list [r0, r1])) s := by
  have t1 : ∀ {d u : PyData}, e ((env.set i none).set i (some (.dat d))) s = .ok (.dat u) s → turn (.nm i) [i] tYes (one e) env d s = .ok [u] s := fun {d u} h => by
    show Out.bind (e ((env.set i none).set i (some (.dat d))) s) _ = _
    rw [h]
    rfl
  unfold eLc
  rw [h0]
  simp only [Out.bind, lcRun, lcGo, t1 h1, t1 h2]
  rfl
end
/-! ### is_lot -/
def lenB (cs : List P2) : Bool := decide (1 ≤ cs.length) && decide (cs.length ≤ 6)
def isLotB (cs : List P2) (k : P2) : Bool := lenB cs && (cs.all (fun c => decide (k.1 ≤ c.1) && decide (k.2 ≤ c.2)) && (cs.any (fun c => decide (k.1 < c.1)) && cs.any (fun c => decide (k.2 < c.2))))
theorem ble_line {n : Nat} (h : n ≤ 1000) : Nat.ble n line = true := Nat.ble_eq_true_of_le (by unfold line; omega)
theorem is_lot_r (hc : SzL m cs) (hk : SzP m kp) (l : m ≤ 3540) (hl : cs.length ≤ 1000) : F_is_lot [.dat (lotD cs kp)] s = .ok (.dat (.bool (isLotB cs kp))) s := by
  refine fnS_dat0 rfl ?_
  have ec : ∀ {v1 v2 v3}, e2 pIx (eVar 0) (eCst (.int 0)) [some (.dat (lotD cs kp)), v1, v2, v3] s = .ok (.dat (.tuple (cs.map pD))) s := rfl
  have ic : ∀ {v1 v2 v3}, iSeq (e2 pIx (eVar 0) (eCst (.int 0))) [some (.dat (lotD cs kp)), v1, v2, v3] s = .ok (.its (cs.map pD)) s := rfl
  have ch : eChain pLe pLe (eCst (.int 1)) (eBlt bLen (aCons (e2 pIx (eVar 0) (eCst (.int 0))) aNil)) (eCst G_MOST_CORNERS) [some (.dat (lotD cs kp)), none, none, none] s = .ok (.dat (.bool (lenB cs))) s := by
    have e1 : eBlt bLen (aCons (e2 pIx (eVar 0) (eCst (.int 0))) aNil) [some (.dat (lotD cs kp)), none, none, none] s = .ok (.dat (.int cs.length)) s := eBlt1_dat ec (by show some (PyData.int ((cs.map pD).length : Nat)) = _; rw [List.length_map])
    unfold eChain
    simp only [eCst, Out.bind, e1, deref, pLe]
    unfold lenB
    by_cases h1 : 1 ≤ cs.length
    · have h1' : (1 : Int) ≤ cs.length := by omega
      simp only [h1, h1', decide_true, G_MOST_CORNERS, deref, pLe, okB, Bool.true_and]
      by_cases h2 : cs.length ≤ 6
      · have h2' : (cs.length : Int) ≤ 6 := by omega
        simp only [h2, h2']
        rfl
      · have h2' : ¬ (cs.length : Int) ≤ 6 := by omega
        simp only [h2, h2']
        rfl
    · have h1' : ¬ (1 : Int) ≤ cs.length := by omega
      simp only [h1, h1']
      rfl
  have c1 := eOr_f (a := eNot (eCall F_is_many (aCons (eVar 0) (aCons (eCst (.int 2)) aNil)))) (b := eOr (eNot (eIsi .tuple (e2 pIx (eVar 0) (eCst (.int 0))))) (eNot (eChain pLe pLe (eCst (.int 1)) (eBlt bLen (aCons (e2 pIx (eVar 0) (eCst (.int 0))) aNil)) (eCst G_MOST_CORNERS)))) (env := [some (.dat (lotD cs kp)), none, none, none]) (s := s) (eNot_dat (eCall2_dat rfl rfl (many_r _ _))) (eOr_f (b := eNot (eChain pLe pLe (eCst (.int 1)) (eBlt bLen (aCons (e2 pIx (eVar 0) (eCst (.int 0))) aNil)) (eCst G_MOST_CORNERS))) rfl (eNot_dat ch))
  unfold isLotB
  cases hb : lenB cs with
  | false =>
    rw [hb] at c1
    exact sif_do c1 rfl
  | true =>
    rw [hb] at c1
    refine (sif_skip c1).trans ?_
    refine (sif_skip (eOr_f (eNot_dat (eCall1_dat (d := pD kp) rfl (is_point_r hk l))) (eNot_dat ((all_map pD (fun _ => true) cs ic hl fun x hx => ⟨_, rfl, eCall1_dat (d := pD x) rfl (is_point_r (hc x hx) l)⟩).trans (by rw [List.all_eq_true.mpr (fun _ _ => rfl)]))))).trans ?_
    rw [sCons_nx (sSet_ok (v := .dat (pD kp)) rfl)]
    have a2 := all2_map (s := s) (env := [some (.dat (lotD cs kp)), none, some (.dat (pD kp)), none]) (it := iSeq (e2 pIx (eVar 0) (eCst (.int 0)))) (tg := .nm 1) (own := [1, 3]) (it1 := iSeq (eTup (aCons (eCst (.int 0)) (aCons (eCst (.int 1)) aNil)))) (tg1 := .nm 3) (own1 := [3]) (c1 := tYes) (e := eCall P_no_more (aCons (e2 pIx (eVar 2) (eVar 3)) (aCons (e2 pIx (eVar 1) (eVar 3)) aNil))) pD (fun c => decide (kp.1 ≤ c.1)) (fun c => decide (kp.2 ≤ c.2)) cs ic hl fun x hx => ⟨_, rfl, inner_two (d0 := .int 0) (d1 := .int 1) rfl (eCall2_dat (d := frD kp.1) (e := frD x.1) rfl rfl (no_more_r hk.a (hc x hx).a l l s)) (eCall2_dat (d := frD kp.2) (e := frD x.2) rfl rfl (no_more_r hk.b (hc x hx).b l l s))⟩
    have a3 : eBlt bAll (aCons (eLc (iSeq (eTup (aCons (eCst (.int 0)) (aCons (eCst (.int 1)) aNil)))) (.nm 3) [3] tYes (eBlt bAny (aCons (eLc (iSeq (e2 pIx (eVar 0) (eCst (.int 0)))) (.nm 1) [1] tYes (eCall P_less (aCons (e2 pIx (eVar 2) (eVar 3)) (aCons (e2 pIx (eVar 1) (eVar 3)) aNil)))) aNil))) aNil) [some (.dat (lotD cs kp)), none, some (.dat (pD kp)), none] s = .ok (.dat (.bool (cs.any (fun c => decide (kp.1 < c.1)) && cs.any (fun c => decide (kp.2 < c.2))))) s := by
      refine eBlt1_dat (lc_two (d0 := .int 0) (d1 := .int 1) rfl (any_map pD (fun c => decide (kp.1 < c.1)) cs ic hl fun x hx => ⟨_, rfl, eCall2_dat (d := frD kp.1) (e := frD x.1) rfl rfl (less_r hk.a (hc x hx).a l l s)⟩) (any_map pD (fun c => decide (kp.2 < c.2)) cs ic hl fun x hx => ⟨_, rfl, eCall2_dat (d := frD kp.2) (e := frD x.2) rfl rfl (less_r hk.b (hc x hx).b l l s)⟩)) ?_
      simp only [bAll, allB, Option.map, Bool.and_true]
    cases hall : cs.all (fun c => decide (kp.1 ≤ c.1) && decide (kp.2 ≤ c.2)) with
    | false =>
      rw [hall] at a2
      exact sif_do (eNot_dat a2) rfl
    | true =>
      rw [hall] at a2
      exact (sif_skip (eNot_dat a2)).trans (sRet_ok a3)
end
end Ev
/-! LotsS: order of gains, the outer edge: what the defs compute. -/
namespace Ev
open PySem
section
variable {m n k : Nat} {x y z : Rat} {p q : P2} {cs G R : List P2} {kp : P2} {s : Sto}
/-! ### pairs compared -/
theorem lay_pt (p : P2) : (pD p).canLay0 = true := rfl
theorem lay_pts : ∀ (G : List P2), PyData.canLayAll0 (G.map pD) = true
  | [] => rfl
  | p :: G => by
    rw [List.map_cons, PyData.canLayAll0, lay_pt, lay_pts G]
    rfl
theorem dep_pt (p : P2) : (pD p).depth = 2 := rfl
theorem dep_pts : ∀ (G : List P2), PyData.depthAll (G.map pD) ≤ 2
  | [] => by simp [PyData.depthAll]
  | p :: G => by
    rw [List.map_cons, PyData.depthAll, dep_pt]
    have := dep_pts G
    omega
theorem shaped_pt (p : P2) : SeqAt.shaped (pD p) = true := rfl
theorem shaped_list (G : List P2) : SeqAt.shaped (.list (G.map pD)) = true := by
  unfold SeqAt.shaped
  have h := dep_pts G
  rw [PyData.canLay0, lay_pts]
  rw [PyData.depth]
  exact decide_eq_true (by omega)
theorem shaped_tuple (G : List P2) : SeqAt.shaped (.tuple (G.map pD)) = true := by
  unfold SeqAt.shaped
  have h := dep_pts G
  rw [PyData.canLay0, lay_pts]
  rw [PyData.depth]
  exact decide_eq_true (by omega)
theorem eqv_pt (p q : P2) : PyData.eqv (pD p) (pD q) = decide (p = q) := by
  have h : PyData.eqv (pD p) (pD q) = (PyData.eqv (frD p.1) (frD q.1) && (PyData.eqv (frD p.2) (frD q.2) && true)) := by
    unfold pD
    simp [PyData.eqv, PyData.eqvAll]
  have g : ∀ u v : Rat, PyData.eqv (frD u) (frD v) = decide (u = v) := fun u v => Option.some.inj (pEq_r u v)
  rw [h, g, g]
  obtain ⟨a, b⟩ := p
  obtain ⟨c, d⟩ := q
  by_cases h1 : a = c <;> by_cases h2 : b = d <;> simp [h1, h2]
theorem pEq_p (p q : P2) : pEq (pD p) (pD q) = some (decide (p = q)) := by
  show (if SeqAt.shaped _ && SeqAt.shaped _ then some (PyData.eqv (pD p) (pD q)) else none) = _
  rw [eqv_pt]
  rfl
theorem pNe_p (p q : P2) : pNe (pD p) (pD q) = some (!decide (p = q)) := by
  unfold pNe
  rw [pEq_p]
  rfl
theorem anyEqv_pts (p : P2) : ∀ (G : List P2), anyEqv (pD p) (G.map pD) = decide (p ∈ G)
  | [] => by simp [anyEqv]
  | q :: G => by
    rw [List.map_cons, anyEqv, anyEqv_pts p G, eqv_pt]
    by_cases h1 : q = p
    · simp [h1]
    · have : ¬ p = q := fun z => h1 z.symm
      simp [h1, this]
theorem eqvAll_pts : ∀ (G R : List P2), PyData.eqvAll (G.map pD) (R.map pD) = decide (G = R)
  | [], [] => by simp [PyData.eqvAll]
  | [], q :: R => by simp [PyData.eqvAll]
  | p :: G, [] => by simp [PyData.eqvAll]
  | p :: G, q :: R => by
    rw [List.map_cons, List.map_cons, PyData.eqvAll, eqvAll_pts G R, eqv_pt]
    by_cases h1 : p = q <;> by_cases h2 : G = R <;> simp [h1, h2]
theorem pEq_list (G R : List P2) : pEq (.list (G.map pD)) (.list (R.map pD)) = some (decide (G = R)) := by
  unfold pEq
  rw [shaped_list, shaped_list, PyData.eqv, eqvAll_pts]
  rfl
theorem pEq_tuple (G R : List P2) : pEq (.tuple (G.map pD)) (.tuple (R.map pD)) = some (decide (G = R)) := by
  unfold pEq
  rw [shaped_tuple, shaped_tuple, PyData.eqv, eqvAll_pts]
  rfl
theorem pIn_list (p : P2) (G : List P2) : pIn (pD p) (.list (G.map pD)) = some (decide (p ∈ G)) := by
  show (if SeqAt.shaped _ && SeqAt.shaped _ then some (anyEqv _ _) else none) = _
  rw [shaped_pt, shaped_list, anyEqv_pts]
  rfl
theorem pIn_tuple (p : P2) (G : List P2) : pIn (pD p) (.tuple (G.map pD)) = some (decide (p ∈ G)) := by
  show (if SeqAt.shaped _ && SeqAt.shaped _ then some (anyEqv _ _) else none) = _
  rw [shaped_pt, shaped_tuple, anyEqv_pts]
  rfl
/-! ### cuts -/
theorem cut_from1 {d : PyData} {ds : List PyData} : cutL (d :: ds) (some 1) none = ds := by
  unfold cutL
  have h : HT.sIx (d :: ds).length 0 (some 1) = 1 := by
    have := HT.sIx_nat (d :: ds).length 0 1
    simp only [List.length_cons] at *
    rw [show (some (1 : Int)) = some ((1 : Nat) : Int) from rfl, this]
    omega
  rw [h, HT.sIx_none]
  simp
theorem cut_drop {ds : List PyData} {j : Nat} (h : j ≤ ds.length) : cutL ds (some (j : Int)) none = ds.drop j := by
  unfold cutL
  rw [HT.sIx_nat, HT.sIx_none, Nat.min_eq_left h]
  rw [List.take_of_length_le (by rw [List.length_drop]; omega)]
theorem ixN_nat {n j : Nat} (h : j < n) : L2.ixN n (j : Int) = some j := by
  unfold L2.ixN
  rw [if_pos (by omega), if_pos (by omega)]
  simp
theorem ix_nat {ds : List PyData} {d : PyData} {j : Nat} (h : ds[j]? = some d) : pIx (.list ds) (.int (j : Int)) = some d := by
  have hlt : j < ds.length := by
    rcases Nat.lt_or_ge j ds.length with q | q
    · exact q
    · rw [List.getElem?_eq_none q] at h
      cases h
  show (L2.ixN ds.length (j : Int)).bind _ = _
  rw [ixN_nat hlt]
  exact h
theorem ix_natT {ds : List PyData} {d : PyData} {j : Nat} (h : ds[j]? = some d) : pIx (.tuple ds) (.int (j : Int)) = some d := ix_nat (ds := ds) h
theorem ix_zero {d : PyData} {ds : List PyData} : pIx (.list (d :: ds)) (.int 0) = some d := ix_nat (j := 0) rfl
theorem ix_last {d : PyData} {ds : List PyData} : pIx (.list (ds ++ [d])) (.int (-1)) = some d := by
  show (L2.ixN (ds ++ [d]).length (-1)).bind _ = _
  have h : L2.ixN (ds ++ [d]).length (-1) = some ds.length := by
    unfold L2.ixN
    rw [if_neg (by omega), if_pos (by simp only [List.length_append, List.length_singleton]; omega)]
    simp only [List.length_append, List.length_singleton, Option.some.injEq]
    omega
  rw [h]
  simp
theorem ix_last2 {d e : PyData} {ds : List PyData} : pIx (.list (ds ++ [e, d])) (.int (-2)) = some e := by
  show (L2.ixN (ds ++ [e, d]).length (-2)).bind _ = _
  have h : L2.ixN (ds ++ [e, d]).length (-2) = some ds.length := by
    unfold L2.ixN
    rw [if_neg (by omega), if_pos (by simp only [List.length_append, List.length_cons, List.length_nil]; omega)]
    simp only [List.length_append, List.length_cons, List.length_nil, Option.some.injEq]
    omega
  rw [h]
  simp
/-! ### the checks, gains -/
structure Lot (m : Nat) (cs : List P2) (kp : P2) : Prop where
  c : SzL m cs
  k : SzP m kp
  b : isLotB cs kp = true
  l : m ≤ 200
theorem Lot.len {m : Nat} (h : Lot m cs kp) : 1 ≤ cs.length ∧ cs.length ≤ 6 := by
  have := h.b
  unfold isLotB lenB at this
  simp only [Bool.and_eq_true, decide_eq_true_eq] at this
  exact this.1
theorem check_ok {F : FnS} {d : PyData} {B : MS} (hB : B = sIf (eNot (eCall F (aCons (eVar 0) aNil))) (sRaise (eVar 0)) sNil) (h : F [.dat d] s = .ok (.dat (.bool true)) s) : fnS 1 1 B [.dat d] s = .ok (.dat .none) s := by
  subst hB
  have e := fnS_nx (np := 1) (nn := 1) (m := sIf (eNot (eCall F (aCons (eVar 0) aNil))) (sRaise (eVar 0)) sNil) (vs := [.dat d]) (s := s) (s' := s) (e := [some (.dat d)]) rfl ((sIf_f (eNot_dat (eCall1_dat (d := d) rfl h))).trans rfl)
  rw [List.take_length] at e
  exact e
theorem check_lot_r (h : Lot m cs kp) : F_check_lot [.dat (lotD cs kp)] s = .ok (.dat .none) s :=
  check_ok rfl ((is_lot_r h.c h.k (by have := h.l; omega) (by have := h.len; omega)).trans (by rw [h.b]))

theorem check_point_r (h : SzP n p) (l : n ≤ 3540) : F_check_point [.dat (pD p)] s = .ok (.dat .none) s := check_ok rfl (is_point_r h l)

/-- a row that checks what stands in a name -/
theorem chk_row {F : FnS} {i : Nat} {r : MS} {e : Env} {d : PyData} (hF : F [.dat d] s = .ok (.dat .none) s) (he : e[i]? = some (some (.dat d))) : sCons (sExp (eCall F (aCons (eVar i) aNil))) r e s = r e s := by
  have hv : eVar i e s = .ok (.dat d) s := by
    unfold eVar
    rw [he]
  exact sCons_nx (sExp_nx (eCall1_dat hv hF))
def sub2 (p k : P2) : P2 := (p.1 - k.1, p.2 - k.2)
def add2 (p k : P2) : P2 := (p.1 + k.1, p.2 + k.2)
theorem sub2_sz (h1 : SzP m p) (h2 : SzP n q) : SzP (m + n + 1) (sub2 p q) := ⟨h1.a.sub h2.a, h1.b.sub h2.b⟩
theorem add2_sz (h1 : SzP m p) (h2 : SzP n q) : SzP (m + n + 1) (add2 p q) := ⟨h1.a.add h2.a, h1.b.add h2.b⟩

theorem gains_at_r (h : Lot m cs kp) (hp : SzP n p) (l : n ≤ 3000) : F_gains_at [.dat (lotD cs kp), .dat (pD p)] s = .ok (.dat (pD (sub2 p kp))) s := by
  have l' := h.l
  refine fnS_dat0 rfl ((chk_row (check_lot_r h) rfl).trans ((chk_row (check_point_r hp (by omega)) rfl).trans (sRet_ok (tup2 ?_ ?_))))
  · exact eCall2_dat (d := frD p.1) (e := frD kp.1) rfl rfl (minus_r hp.a h.k.a (by omega) (by omega) s)
  · exact eCall2_dat (d := frD p.2) (e := frD kp.2) rfl rfl (minus_r hp.b h.k.b (by omega) (by omega) s)


theorem point_at_r (h : Lot m cs kp) (hp : SzP n p) (l : n ≤ 3000) : F_point_at [.dat (lotD cs kp), .dat (pD p)] s = .ok (.dat (pD (add2 p kp))) s := by
  have l' := h.l
  refine fnS_dat0 rfl ((chk_row (check_lot_r h) rfl).trans ((chk_row (check_point_r hp (by omega)) rfl).trans (sRet_ok (tup2 ?_ ?_))))
  · exact eCall2_dat (d := frD p.1) (e := frD kp.1) rfl rfl (plus_r hp.a h.k.a (by omega) (by omega) s)
  · exact eCall2_dat (d := frD p.2) (e := frD kp.2) rfl rfl (plus_r hp.b h.k.b (by omega) (by omega) s)

def gns (cs : List P2) (kp : P2) : List P2 := cs.map fun c => sub2 c kp
theorem gns_len : (gns cs kp).length = cs.length := List.length_map _
theorem gns_sz (h : Lot m cs kp) : SzL 401 (gns cs kp) := fun p hp => by
  obtain ⟨c, hc, rfl⟩ := List.mem_map.mp hp
  have := h.l
  exact (sub2_sz (h.c c hc) h.k).mono (by omega)
theorem corner_gains_r (hc : SzL m cs) (hk : SzP m kp) (l : m ≤ 200) (hl : cs.length ≤ 1000) : F_corner_gains [.dat (lotD cs kp)] s = .ok (.dat (.list ((gns cs kp).map pD))) s := by
  refine fnS_dat0 rfl (sRet_ok ?_)
  unfold gns
  rw [List.map_map]
  refine lc_map pD _ cs rfl hl fun c hc' => ⟨_, rfl, tup2 ?_ ?_⟩
  · exact eCall2_dat (d := frD c.1) (e := frD kp.1) rfl rfl (minus_r (hc c hc').a hk.a (by omega) (by omega) s)
  · exact eCall2_dat (d := frD c.2) (e := frD kp.2) rfl rfl (minus_r (hc c hc').b hk.b (by omega) (by omega) s)
/-! ### the greatest -/
abbrev maxR (x y : Rat) : Rat := if x < y then y else x
abbrev minR (x y : Rat) : Rat := if y < x then y else x
theorem greater_r (h1 : Sz m x) (h2 : Sz n y) (l1 : m ≤ 3540) (l2 : n ≤ 3540) : F_greater [.dat (frD x), .dat (frD y)] s = .ok (.dat (frD (maxR x y))) s := by
  refine fnS_dat0 rfl (sRet_ok ?_)
  have c : eCall P_less (aCons (eVar 0) (aCons (eVar 1) aNil)) [some (.dat (frD x)), some (.dat (frD y))] s = .ok (.dat (.bool (decide (x < y)))) s := eCall2_dat rfl rfl (less_r h1 h2 l1 l2 s)
  by_cases h : x < y
  · rw [decide_eq_true h] at c
    unfold maxR
    rw [if_pos h]
    exact eIf_t c rfl
  · rw [decide_eq_false h] at c
    unfold maxR
    rw [if_neg h]
    exact eIf_f c rfl
theorem maxR_sz (h1 : Sz m x) (h2 : Sz m y) : Sz m (maxR x y) := by
  unfold maxR
  split
  · exact h2
  · exact h1
def most : List Rat → Rat
  | [] => 0
  | x :: xs => xs.foldl maxR x
theorem most_of_r {xs : List Rat} (h : ∀ x ∈ xs, Sz m x) (h0 : xs ≠ []) (l : m ≤ 3540) : F_most_of [.dat (.list (xs.map frD))] s = .ok (.dat (frD (most xs))) s := by
  cases xs with
  | nil => exact absurd rfl h0
  | cons x xs =>
    refine fnS_dat0 rfl ?_
    refine (sCons_nx (a := sSet 1 (e2 pIx (eVar 0) (eCst (.int 0)))) (sSet_ok (v := .dat (frD x)) (s1 := s) (e2_dat rfl rfl ix_zero))).trans ?_
    obtain ⟨env2, s2, h1, ⟨v, rfl⟩, rfl, -⟩ := forX_its (s1 := s) (d := .list (xs.map frD)) (a := eSl (eVar 0) (oSome (eCst (.int 1))) oNone) (body := sSet 1 (eCall F_greater (aCons (eVar 1) (aCons (eVar 2) aNil)))) (tg := .nm 2) (env := [some (.dat (.list ((x :: xs).map frD))), some (.dat (frD x)), none]) (s := s)
      frD (fun b e t => (∃ v, e = [some (.dat (.list ((x :: xs).map frD))), some (.dat (frD b)), v]) ∧ t = s ∧ Sz m b) maxR xs x
      (by
        show noX (okD (some (.list (cutL _ _ _))) s) = _
        rw [List.map_cons, cut_from1]
        rfl) rfl
      (fun b y e t hy ⟨⟨v, he⟩, ht, hb⟩ => by
        subst he ht
        refine ⟨_, rfl, _, _, sSet_ok (eCall2_dat (d := frD b) (e := frD y) rfl rfl (greater_r hb (h y (List.mem_cons_of_mem _ hy)) l l)), ⟨_, rfl⟩, rfl, maxR_sz hb (h y (List.mem_cons_of_mem _ hy))⟩)
      ⟨⟨_, rfl⟩, rfl, h x (List.mem_cons_self ..)⟩
    exact (sCons_nx h1).trans (sRet_ok rfl)
theorem szl_fst (h : SzL m G) : ∀ x ∈ G.map Prod.fst, Sz m x := fun x hx => by
  obtain ⟨p, hp, rfl⟩ := List.mem_map.mp hx
  exact (h p hp).a
theorem szl_snd (h : SzL m G) : ∀ x ∈ G.map Prod.snd, Sz m x := fun x hx => by
  obtain ⟨p, hp, rfl⟩ := List.mem_map.mp hx
  exact (h p hp).b
def bst (cs : List P2) (kp : P2) : P2 := (most ((gns cs kp).map Prod.fst), most ((gns cs kp).map Prod.snd))

theorem bests_of_r (h : Lot m cs kp) : F_bests_of [.dat (lotD cs kp)] s = .ok (.dat (pD (bst cs kp))) s := by
  have l' := h.l
  have ln := h.len
  have g := gns_sz h
  have ne : gns cs kp ≠ [] := fun z => by have e := gns_len (cs := cs) (kp := kp); rw [z] at e; simp at e; omega
  refine fnS_dat0 rfl ((chk_row (check_lot_r h) rfl).trans ?_)
  rw [sCons_nx (sSet_ok (eCall1_dat (d := lotD cs kp) rfl (corner_gains_r h.c h.k (by omega) (by omega))))]
  refine sRet_ok (tup2 ?_ ?_)
  · exact eCall1_dat (d := .list (((gns cs kp).map Prod.fst).map frD)) (by rw [List.map_map]; exact lc_map pD _ (gns cs kp) rfl (by rw [gns_len]; omega) fun p hp => ⟨_, rfl, rfl⟩) (most_of_r (szl_fst g) (by simpa using ne) (by omega))
  · exact eCall1_dat (d := .list (((gns cs kp).map Prod.snd).map frD)) (by rw [List.map_map]; exact lc_map pD _ (gns cs kp) rfl (by rw [gns_len]; omega) fun p hp => ⟨_, rfl, rfl⟩) (most_of_r (szl_snd g) (by simpa using ne) (by omega))

/-! ### in order -/
def lt2 (p q : P2) : Bool := decide (p.1 < q.1) || (decide (p.1 = q.1) && decide (p.2 < q.2))
theorem is_left_of_r (h1 : SzP m p) (h2 : SzP n q) (l1 : m ≤ 3540) (l2 : n ≤ 3540) : F_is_left_of [.dat (pD p), .dat (pD q)] s = .ok (.dat (.bool (lt2 p q))) s := by
  refine fnS_dat0 rfl (sRet_ok ?_)
  have c1 : eCall P_less (aCons (e2 pIx (eVar 0) (eCst (.int 0))) (aCons (e2 pIx (eVar 1) (eCst (.int 0))) aNil)) [some (.dat (pD p)), some (.dat (pD q))] s = .ok (.dat (.bool (decide (p.1 < q.1)))) s := eCall2_dat (d := frD p.1) (e := frD q.1) rfl rfl (less_r h1.a h2.a l1 l2 s)
  have c2 : eCmp pEq (e2 pIx (eVar 0) (eCst (.int 0))) (e2 pIx (eVar 1) (eCst (.int 0))) [some (.dat (pD p)), some (.dat (pD q))] s = .ok (.dat (.bool (decide (p.1 = q.1)))) s := eCmp_dat (d := frD p.1) (e := frD q.1) rfl rfl (pEq_r p.1 q.1)
  have c3 : eCall P_less (aCons (e2 pIx (eVar 0) (eCst (.int 1))) (aCons (e2 pIx (eVar 1) (eCst (.int 1))) aNil)) [some (.dat (pD p)), some (.dat (pD q))] s = .ok (.dat (.bool (decide (p.2 < q.2)))) s := eCall2_dat (d := frD p.2) (e := frD q.2) rfl rfl (less_r h1.b h2.b l1 l2 s)
  unfold lt2
  cases h : decide (p.1 < q.1) with
  | true =>
    rw [h] at c1
    exact eOr_t c1
  | false =>
    rw [h] at c1
    refine eOr_f c1 ?_
    cases h' : decide (p.1 = q.1) with
    | true =>
      rw [h'] at c2
      exact eAnd_t c2 c3
    | false =>
      rw [h'] at c2
      exact eAnd_f c2
/-- a store's last list -/
theorem at_last {xs : List PyData} : (s ++ [MO.lst xs])[s.length]? = some (MO.lst xs) := by simp
theorem set_last {xs ys : List PyData} : (s ++ [MO.lst xs]).set s.length (MO.lst ys) = s ++ [MO.lst ys] := by simp
theorem freeze_new {xs : List PyData} : freeze s.length (.loc s.length) (s ++ [MO.lst xs]) = .ok (.dat (.list xs)) s := by
  unfold freeze
  have h : Nat.blt s.length s.length = false := by
    cases q : Nat.blt s.length s.length with
    | false => rfl
    | true => exact absurd (Nat.blt_eq.mp q) (Nat.lt_irrefl _)
  simp only [h, at_last]
  simp
theorem fnS_new {np nn : Nat} {m : MS} {vs : List Vl} {xs : List PyData} (hl : (vs.length == np) = true) (h : m (vs.map some ++ List.replicate (nn - np) none) s = .ok (.rt (.loc s.length)) (s ++ [MO.lst xs])) : fnS np nn m vs s = .ok (.dat (.list xs)) s := by
  unfold fnS
  rw [hl]
  simp only [h]
  exact freeze_new
theorem lc_at {f : PyData → Sto → Out (List PyData)} {t : Sto} {i0 : Nat} {xs : List PyData} (h0 : t[i0]? = some (.lst xs)) (hf : ∀ x ∈ xs, ∃ ys, f x t = .ok ys t) : ∀ (k i : Nat), i + k = xs.length → lcAt f i0 (k + 1) i t = lcGo f (xs.drop i) t
  | 0, i, hi => by
    rw [List.drop_eq_nil_of_le (by omega), lcAt, h0]
    simp only [List.getElem?_eq_none (show xs.length ≤ i by omega)]
    rfl
  | k + 1, i, hi => by
    have hlt : i < xs.length := by omega
    rw [List.drop_eq_getElem_cons hlt, lcAt, h0]
    simp only [List.getElem?_eq_getElem hlt]
    obtain ⟨ys, hy⟩ := hf xs[i] (List.getElem_mem hlt)
    rw [lcGo, hy]
    simp only [Out.bind]
    rw [lc_at h0 hf k (i + 1) (by omega)]
theorem lc_run_at {f : PyData → Sto → Out (List PyData)} {t : Sto} {i0 : Nat} {xs : List PyData} (h0 : t[i0]? = some (.lst xs)) (hf : ∀ x ∈ xs, ∃ ys, f x t = .ok ys t) : lcRun f (.at_ i0) t = lcGo f xs t := by
  show (match t[i0]? with
    | some (.lst xs) => lcAt f i0 (xs.length + 1) 0 t
    | none => .bad) = _
  rw [h0]
  exact lc_at h0 hf xs.length 0 (by omega)
theorem lc_fil_at {α : Type} {env : Env} {e : ME} {it : MI} {tg : TG} {own : List Nat} {c : MT} {i0 : Nat} (D : α → PyData) (p : α → Bool) (f : α → PyData) (xs : List α) (h0 : it env s = .ok (.at_ i0) s) (hs : s[i0]? = some (.lst (xs.map D))) (hl : xs.length ≤ 1000)
    (h : ∀ x ∈ xs, ∃ env1, tg.put (D x) (wipeE env own) = some env1 ∧ c env1 s = .ok (p x) s ∧ (p x = true → e env1 s = .ok (.dat (f x)) s)) :
    eLc it tg own c e env s = .ok (.dat (.list ((xs.filter p).map f))) s := by
  have t := lc_go D p f xs h
  have t2 : lcRun (turn tg own c (one e) env) (.at_ i0) s = lcGo (turn tg own c (one e) env) (xs.map D) s := lc_run_at hs fun y hy => by
    obtain ⟨x, hx, rfl⟩ := List.mem_map.mp hy
    obtain ⟨env1, h1, h2, h3⟩ := h x hx
    have := lc_go (c := c) (e := e) (env := env) (s := s) (tg := tg) (own := own) D p f [x] fun z hz => by
      rw [List.mem_singleton] at hz
      subst hz
      exact ⟨env1, h1, h2, h3⟩
    unfold turn
    rw [h1]
    simp only [h2, Out.bind]
    cases hp : p x with
    | true => exact ⟨[f x], by simp only [one, h3 hp, Out.bind]⟩
    | false => exact ⟨[], rfl⟩
  unfold eLc
  rw [h0]
  simp only [Out.bind, t2, t]
  have : ((xs.filter p).map f).length ≤ line := by
    rw [List.length_map]
    have := List.length_filter_le p xs
    unfold line
    omega
  unfold okL
  rw [Nat.ble_eq_true_of_le this]
  rfl
def insAt (G : List P2) (k : Nat) (p : P2) : List P2 := G.take k ++ p :: G.drop k
def insO (F : List P2) (p : P2) : List P2 := if p ∈ F then F else insAt F (F.filter fun o => lt2 o p).length p
def inOrd (G : List P2) : List P2 := G.foldl insO []
theorem insL_pts (F : List P2) (k : Nat) (p : P2) : insL (F.map pD) k (pD p) = (insAt F k p).map pD := by
  unfold insL insAt
  rw [List.map_append, List.map_cons, List.map_take, List.map_drop]
theorem insO_sz (h : SzL m G) (hp : SzP m p) : SzL m (insO G p) := by
  unfold insO
  split
  · exact h
  · intro q hq
    unfold insAt at hq
    rw [List.mem_append, List.mem_cons] at hq
    rcases hq with hq | rfl | hq
    · exact h q (List.mem_of_mem_take hq)
    · exact hp
    · exact h q (List.mem_of_mem_drop hq)
theorem insO_len : (insO G p).length ≤ G.length + 1 := by
  unfold insO
  split
  · omega
  · unfold insAt
    rw [List.length_append, List.length_cons, List.length_take, List.length_drop]
    omega

theorem sif_one {c : ME} {a : MS} {env : Env} (h : c env s = .ok (.dat (.bool false)) s) : sIf c a sNil env s = .ok (.nx env) s := sIf_f h
theorem eIns_ok {o i a : ME} {env : Env} {t : Sto} {ds : List PyData} {j : Nat} {d : PyData} (ho : o env (t ++ [.lst ds]) = .ok (.loc t.length) (t ++ [.lst ds])) (hi : i env (t ++ [.lst ds]) = .ok (.dat (.int (j : Int))) (t ++ [.lst ds])) (ha : a env (t ++ [.lst ds]) = .ok (.dat d) (t ++ [.lst ds]))
    (hj : j ≤ ds.length) (hl : ds.length ≤ 1000) : eIns o i a env (t ++ [.lst ds]) = .ok (.dat .none) (t ++ [.lst (insL ds j d)]) := by
  unfold eIns
  simp only [ho, hi, ha, Out.bind, at_last, set_last]
  have h1 : (decide (0 ≤ (j : Int)) && decide ((j : Int) ≤ (ds.length : Int)) && Nat.blt ds.length line) = true := by
    rw [decide_eq_true (by omega), decide_eq_true (by omega)]
    exact Nat.blt_eq.mpr (by unfold line; omega)
  rw [h1]
  simp only [Int.toNat_natCast]
  rfl
theorem eApp_ok {o a : ME} {env : Env} {t : Sto} {ds : List PyData} {d : PyData} (ho : o env (t ++ [.lst ds]) = .ok (.loc t.length) (t ++ [.lst ds])) (ha : a env (t ++ [.lst ds]) = .ok (.dat d) (t ++ [.lst ds]))
    (hl : ds.length ≤ 1000) : eApp o a env (t ++ [.lst ds]) = .ok (.dat .none) (t ++ [.lst (ds ++ [d])]) := by
  unfold eApp
  simp only [ho, ha, Out.bind, at_last, set_last]
  have h1 : Nat.blt ds.length line = true := Nat.blt_eq.mpr (by unfold line; omega)
  rw [h1]
  rfl
theorem ePop_ok {o : ME} {env : Env} {t : Sto} {ds : List PyData} {d : PyData} (ho : o env (t ++ [.lst (ds ++ [d])]) = .ok (.loc t.length) (t ++ [.lst (ds ++ [d])])) : ePop o env (t ++ [.lst (ds ++ [d])]) = .ok (.dat d) (t ++ [.lst ds]) := by
  have e1 : (ds ++ [d])[(ds ++ [d]).length - 1]? = some d := by simp
  have e2 : (ds ++ [d]).dropLast = ds := List.dropLast_concat
  unfold ePop
  simp only [ho, Out.bind, at_last, e1, e2, set_last]
  rfl
theorem in_order_r (h : SzL m G) (l : m ≤ 3540) (hl : G.length ≤ 100) : F_in_order [.dat (.list (G.map pD))] s = .ok (.dat (.list ((inOrd G).map pD))) s := by
  obtain ⟨env2, s2, h1, ⟨v2, v3, v4, rfl⟩, rfl, -⟩ := forXN_its (s := s ++ [.lst []]) (s1 := s ++ [.lst []]) (d := .list (G.map pD)) (a := eVar 0) (tg := .nm 2) (env := [some (.dat (.list (G.map pD))), some (.loc s.length), none, none, none])
    (body := sIf (eCmp pNotIn (eVar 2) (eVar 1)) (sCons (sSet 3 (eBlt bLen (aCons (eLc (iSeq (eVar 1)) (.nm 4) [4] (tOf (eCall F_is_left_of (aCons (eVar 4) (aCons (eVar 2) (aNil))))) (eVar 4)) (aNil)))) (sExp (eIns (eVar 1) (eVar 3) (eVar 2)))) (sNil))
    pD (fun j (b : List P2) e t => (∃ v2 v3 v4, e = [some (.dat (.list (G.map pD))), some (.loc s.length), v2, v3, v4]) ∧ t = s ++ [.lst (b.map pD)] ∧ SzL m b ∧ b.length ≤ j) insO G [] rfl rfl
    (fun j b p e t hp hj ⟨⟨v2, v3, v4, he⟩, ht, hb, hn⟩ => by
      subst he ht
      refine ⟨_, rfl, ?_⟩
      have c : eCmp pNotIn (eVar 2) (eVar 1) [some (.dat (.list (G.map pD))), some (.loc s.length), some (.dat (pD p)), v3, v4] (s ++ [.lst (b.map pD)]) = .ok (.dat (.bool (!decide (p ∈ b)))) (s ++ [.lst (b.map pD)]) := by
        have e1 : deref (s ++ [.lst (b.map pD)]) (.loc s.length) = some (.list (b.map pD)) := by
          unfold deref
          simp only [at_last]
        have e2 : pNotIn (pD p) (.list (b.map pD)) = some (!decide (p ∈ b)) := by
          unfold pNotIn
          rw [pIn_list]
          rfl
        show (match deref _ (Vl.dat (pD p)), deref _ (Vl.loc s.length) with
          | some d, some e => okB (pNotIn d e) _
          | _, _ => .bad) = _
        rw [e1]
        show okB (pNotIn (pD p) (.list (b.map pD))) _ = _
        rw [e2]
        rfl
      by_cases hm : p ∈ b
      · rw [decide_eq_true hm] at c
        refine ⟨_, _, sIf_f c, ⟨_, _, _, rfl⟩, ?_, ?_, ?_⟩
        · unfold insO
          rw [if_pos hm]
        · exact insO_sz hb (h p hp)
        · exact Nat.le_trans insO_len (by omega)
      · rw [decide_eq_false hm] at c
        have f := lc_fil_at (s := s ++ [.lst (b.map pD)]) (env := [some (.dat (.list (G.map pD))), some (.loc s.length), some (.dat (pD p)), v3, v4]) (e := eVar 4) (it := iSeq (eVar 1)) (tg := .nm 4) (own := [4]) (c := tOf (eCall F_is_left_of (aCons (eVar 4) (aCons (eVar 2) aNil)))) pD (fun o => lt2 o p) pD b rfl at_last (by omega)
          fun o ho => ⟨_, rfl, by
            have := eCall2_dat (env := [some (.dat (.list (G.map pD))), some (.loc s.length), some (.dat (pD p)), v3, some (.dat (pD o))]) (s := s ++ [.lst (b.map pD)]) (f := F_is_left_of) (a := eVar 4) (b := eVar 2) (d := pD o) (e := pD p) rfl rfl (is_left_of_r (hb o ho) (h p hp) l l)
            unfold tOf
            show Out.bind (eCall F_is_left_of (aCons (eVar 4) (aCons (eVar 2) aNil)) [some (.dat (.list (G.map pD))), some (.loc s.length), some (.dat (pD p)), v3, some (.dat (pD o))] _) _ = _
            rw [this]
            rfl, fun _ => rfl⟩
        refine ⟨_, _, (sIf_t c).trans ((sCons_nx (sSet_ok (eBlt1_dat f (r := .int (((b.filter fun o => lt2 o p).length : Nat))) (by
          show some (PyData.int _) = _
          rw [List.length_map])))).trans (sExp_nx (eIns_ok (t := s) (ds := b.map pD) (j := (b.filter fun o => lt2 o p).length) (d := pD p) rfl rfl rfl (by rw [List.length_map]; exact List.length_filter_le _ _) (by rw [List.length_map]; omega)))), ⟨_, _, _, rfl⟩, ?_, ?_, ?_⟩
        · unfold insO
          rw [if_neg hm, insL_pts]
        · exact insO_sz hb (h p hp)
        · exact Nat.le_trans insO_len (by omega))
    ⟨⟨_, _, _, rfl⟩, rfl, (fun _ z => nomatch z), Nat.le_refl 0⟩
  exact fnS_new rfl ((sCons_nx (a := sNew 1 (eLst aNil)) rfl).trans ((sCons_nx h1).trans (sRet_ok rfl)))
end
end Ev
/-! LotsT: the outer edge, the greatest gain of the other side: what the defs compute. -/
namespace Ev
open PySem
section
variable {m n k : Nat} {x y z t : Rat} {p q one : P2} {cs G R rows : List P2} {kp : P2} {s : Sto}
theorem tOf_b {a : ME} {env : Env} {b : Bool} {s s1 : Sto} (h : a env s = .ok (.dat (.bool b)) s1) : tOf a env s = .ok b s1 := by
  unfold tOf
  rw [h]
  rfl
theorem wh_stop {c : ME} {b : MS} {k : Nat} {env : Env} (h : c env s = .ok (.dat (.bool false)) s) : whGo c b (k + 1) env s = .ok (.nx env) s := by
  unfold whGo
  rw [tOf_b h]
  rfl
theorem wh_go {c : ME} {b : MS} {k : Nat} {env e1 : Env} {s1 : Sto} (h : c env s = .ok (.dat (.bool true)) s) (hb : b env s = .ok (.nx e1) s1) : whGo c b (k + 1) env s = whGo c b k e1 s1 := by
  rw [whGo, tOf_b h]
  simp only [Out.bind, hb]
theorem sWh_ok {c : ME} {b : MS} {env e1 : Env} {s1 : Sto} (h : whGo c b 16384 env s = .ok (.nx e1) s1) : sWh c b env s = .ok (.nx e1) s1 := by
  unfold sWh
  rw [h]
  rfl
def turnsUp (a b c : P2) : Bool := decide ((b.2 - a.2) * (c.1 - a.1) ≤ (c.2 - a.2) * (b.1 - a.1))
theorem turns_up_r {a b c : P2} (h1 : SzP 401 a) (h2 : SzP 401 b) (h3 : SzP 401 c) : F_turns_up [.dat (pD a), .dat (pD b), .dat (pD c)] s = .ok (.dat (.bool (turnsUp a b c))) s := by
  refine fnS_dat0 rfl ?_
  refine (sCons_nx (sPar2_ok (v := .dat (frD (c.1 - a.1))) (w := .dat (frD (c.2 - a.2))) (eCall2_dat (d := frD c.1) (e := frD a.1) rfl rfl (minus_r h3.a h1.a (by omega) (by omega) s)) (eCall2_dat (d := frD c.2) (e := frD a.2) rfl rfl (minus_r h3.b h1.b (by omega) (by omega) s)))).trans (sRet_ok ?_)
  refine eCall2_dat (eCall2_dat (eCall2_dat (d := frD b.2) (e := frD a.2) rfl rfl (minus_r h2.b h1.b (by omega) (by omega) s)) rfl (times_r (h2.b.sub h1.b) (h3.a.sub h1.a) (by omega) (by omega) s)) (eCall2_dat rfl (eCall2_dat (d := frD b.1) (e := frD a.1) rfl rfl (minus_r h2.a h1.a (by omega) (by omega) s)) (times_r (h3.b.sub h1.b) (h2.a.sub h1.a) (by omega) (by omega) s)) (no_more_r ((h2.b.sub h1.b).mul (h3.a.sub h1.a)) ((h3.b.sub h1.b).mul (h2.a.sub h1.a)) (by omega) (by omega) s)
def pop1 (one : P2) : List P2 → List P2
  | [] => []
  | f :: r => if f.2 ≤ one.2 ∧ f.1 = one.1 then pop1 one r else f :: r
def pop2 (one : P2) : List P2 → List P2
  | [] => []
  | [f] => [f]
  | f :: g :: r => if turnsUp g f one then pop2 one (g :: r) else f :: g :: r
def stk (s : Sto) (R : List P2) : Sto := s ++ [MO.lst (R.reverse.map pD)]
theorem stk_cons (f : P2) (R : List P2) : stk s (f :: R) = s ++ [MO.lst (R.reverse.map pD ++ [pD f])] := by
  unfold stk
  simp
theorem stk_at : (stk s R)[s.length]? = some (MO.lst (R.reverse.map pD)) := at_last
abbrev EO (s : Sto) (v0 v1 v2 v4 v5 : Option Vl) (one : P2) : Env := [v0, v1, v2, some (.dat (pD one)), v4, v5, some (.loc s.length)]
theorem ne_nil_r {v0 v1 v2 v4 v5 : Option Vl} : eCmp pNe (eVar 6) (eLst aNil) (EO s v0 v1 v2 v4 v5 one) (stk s R) = .ok (.dat (.bool (!decide (R = [])))) (stk s R) := by
  have e1 : deref (stk s R) (.loc s.length) = some (.list (R.reverse.map pD)) := by
    unfold deref
    simp only [stk_at]
  have e2 : pNe (.list (R.reverse.map pD)) (.list []) = some (!decide (R = [])) := by
    have := pEq_list R.reverse []
    rw [List.map_nil] at this
    unfold pNe
    rw [this]
    show some (!decide _) = some (!decide _)
    congr 2
    simp
  show (match deref (stk s R) (Vl.loc s.length), deref (stk s R) (Vl.dat (.list [])) with
    | some d, some e => okB (pNe d e) _
    | _, _ => .bad) = _
  rw [e1]
  show okB (pNe (.list (R.reverse.map pD)) (.list [])) _ = _
  rw [e2]
  rfl
theorem last_r {v0 v1 v2 v4 v5 : Option Vl} {f : P2} : e2 pIx (eVar 6) (e1 pNeg (eCst (.int 1))) (EO s v0 v1 v2 v4 v5 one) (stk s (f :: R)) = .ok (.dat (pD f)) (stk s (f :: R)) := by
  have e1 : deref (stk s (f :: R)) (.loc s.length) = some (.list (R.reverse.map pD ++ [pD f])) := by
    rw [stk_cons]
    unfold deref
    simp only [at_last]
  show (match deref (stk s (f :: R)) (Vl.loc s.length), deref (stk s (f :: R)) (Vl.dat (.int (-1))) with
    | some d, some e => okD (pIx d e) _
    | _, _ => .bad) = _
  rw [e1]
  show okD (pIx (.list (R.reverse.map pD ++ [pD f])) (.int (-1))) _ = _
  rw [ix_last]
  rfl
theorem last2_r {v0 v1 v2 v4 v5 : Option Vl} {f g : P2} : e2 pIx (eVar 6) (e1 pNeg (eCst (.int 2))) (EO s v0 v1 v2 v4 v5 one) (stk s (f :: g :: R)) = .ok (.dat (pD g)) (stk s (f :: g :: R)) := by
  have e1 : deref (stk s (f :: g :: R)) (.loc s.length) = some (.list (R.reverse.map pD ++ [pD g, pD f])) := by
    unfold stk
    simp [deref]
  show (match deref (stk s (f :: g :: R)) (Vl.loc s.length), deref (stk s (f :: g :: R)) (Vl.dat (.int (-2))) with
    | some d, some e => okD (pIx d e) _
    | _, _ => .bad) = _
  rw [e1]
  show okD (pIx (.list (R.reverse.map pD ++ [pD g, pD f])) (.int (-2))) _ = _
  rw [ix_last2]
  rfl
theorem pop_r {env : Env} {f : P2} (h : env[6]? = some (some (.loc s.length))) : sExp (ePop (eVar 6)) env (stk s (f :: R)) = .ok (.nx env) (stk s R) := by
  have ho : eVar 6 env (stk s (f :: R)) = .ok (.loc s.length) (stk s (f :: R)) := by
    unfold eVar
    rw [h]
  rw [stk_cons] at ho ⊢
  exact sExp_nx (ePop_ok ho)
def C1 : ME := eAnd (eCmp pNe (eVar 6) (eLst aNil)) (eAnd (eCall P_no_more (aCons (e2 pIx (e2 pIx (eVar 6) (e1 pNeg (eCst (.int (1))))) (eCst (.int (1)))) (aCons (e2 pIx (eVar 3) (eCst (.int (1)))) (aNil)))) (eCmp pEq (e2 pIx (e2 pIx (eVar 6) (e1 pNeg (eCst (.int (1))))) (eCst (.int (0)))) (e2 pIx (eVar 3) (eCst (.int (0))))))
def C2 : ME := eAnd (eCmp pGt (eBlt bLen (aCons (eVar 6) (aNil))) (eCst (.int (1)))) (eCall F_turns_up (aCons (e2 pIx (eVar 6) (e1 pNeg (eCst (.int (2))))) (aCons (e2 pIx (eVar 6) (e1 pNeg (eCst (.int (1))))) (aCons (eVar 3) (aNil)))))
theorem pop1_run {v0 v1 v2 v4 v5 : Option Vl} (h1 : SzP 401 one) : ∀ (R : List P2) (fuel : Nat), SzL 401 R → R.length + 1 ≤ fuel →
    whGo C1 (sExp (ePop (eVar 6))) fuel (EO s v0 v1 v2 v4 v5 one) (stk s R) = .ok (.nx (EO s v0 v1 v2 v4 v5 one)) (stk s (pop1 one R))
  | [], fuel + 1, _, _ => wh_stop (eAnd_f ne_nil_r)
  | f :: R, fuel + 1, hR, hf => by
    have hf' := hR f (List.mem_cons_self ..)
    have ih : whGo C1 (sExp (ePop (eVar 6))) fuel (EO s v0 v1 v2 v4 v5 one) (stk s R) = .ok (.nx (EO s v0 v1 v2 v4 v5 one)) (stk s (pop1 one R)) := pop1_run h1 R fuel (fun p hp => hR p (List.mem_cons_of_mem _ hp)) (by rw [List.length_cons] at hf; omega)
    have a1 : eCmp pNe (eVar 6) (eLst aNil) (EO s v0 v1 v2 v4 v5 one) (stk s (f :: R)) = .ok (.dat (.bool true)) (stk s (f :: R)) := ne_nil_r
    have a2 : eCall P_no_more (aCons (e2 pIx (e2 pIx (eVar 6) (e1 pNeg (eCst (.int (1))))) (eCst (.int (1)))) (aCons (e2 pIx (eVar 3) (eCst (.int (1)))) (aNil))) (EO s v0 v1 v2 v4 v5 one) (stk s (f :: R)) = .ok (.dat (.bool (decide (f.2 ≤ one.2)))) (stk s (f :: R)) := eCall2_dat (d := frD f.2) (e := frD one.2) (e2_dat last_r rfl rfl) rfl (no_more_r hf'.b h1.b (by omega) (by omega) _)
    have a3 : eCmp pEq (e2 pIx (e2 pIx (eVar 6) (e1 pNeg (eCst (.int (1))))) (eCst (.int (0)))) (e2 pIx (eVar 3) (eCst (.int (0)))) (EO s v0 v1 v2 v4 v5 one) (stk s (f :: R)) = .ok (.dat (.bool (decide (f.1 = one.1)))) (stk s (f :: R)) := eCmp_dat (d := frD f.1) (e := frD one.1) (e2_dat last_r rfl rfl) rfl (pEq_r _ _)
    rw [pop1]
    by_cases q1 : f.2 ≤ one.2
    · rw [decide_eq_true q1] at a2
      by_cases q2 : f.1 = one.1
      · rw [decide_eq_true q2] at a3
        rw [if_pos ⟨q1, q2⟩]
        exact (wh_go (c := C1) (eAnd_t a1 (eAnd_t a2 a3)) (pop_r rfl)).trans ih
      · rw [decide_eq_false q2] at a3
        rw [if_neg (fun z => q2 z.2)]
        exact wh_stop (eAnd_t a1 (eAnd_t a2 a3))
    · rw [decide_eq_false q1] at a2
      rw [if_neg (fun z => q1 z.1)]
      exact wh_stop (eAnd_t a1 (eAnd_f a2))
theorem len_r {v0 v1 v2 v4 v5 : Option Vl} (h : R.length ≤ 1000) : eCmp pGt (eBlt bLen (aCons (eVar 6) (aNil))) (eCst (.int (1))) (EO s v0 v1 v2 v4 v5 one) (stk s R) = .ok (.dat (.bool (decide (1 < R.length)))) (stk s R) := by
  have e1 : deref (stk s R) (.loc s.length) = some (.list (R.reverse.map pD)) := by
    unfold deref
    simp only [stk_at]
  have e2 : eBlt bLen (aCons (eVar 6) (aNil)) (EO s v0 v1 v2 v4 v5 one) (stk s R) = .ok (.dat (.int (R.length : Nat))) (stk s R) := by
    show noX (match eBlt.derefs (stk s R) [Vl.loc s.length] with
      | some ds => okD (bLen ds) (stk s R)
      | none => .bad) = _
    unfold eBlt.derefs
    rw [e1]
    show noX (okD (some (.int ((R.reverse.map pD).length : Nat))) _) = _
    rw [List.length_map, List.length_reverse]
    rfl
  refine eCmp_dat e2 rfl ?_
  show some (decide ((1 : Int) < (R.length : Int))) = _
  congr 1
  rw [decide_eq_decide]
  omega
theorem eCall3_dat {f : FnS} {a b c : ME} {env : Env} {s1 s2 s3 : Sto} {d e g : PyData} {o : Out Vl} (ha : a env s = .ok (.dat d) s1) (hb : b env s1 = .ok (.dat e) s2) (hc : c env s2 = .ok (.dat g) s3) (hf : f [.dat d, .dat e, .dat g] s3 = o) : eCall f (aCons a (aCons b (aCons c aNil))) env s = o := by
  have h1 : aCons c aNil env s2 = .ok [.dat g] s3 := by
    unfold aCons
    rw [hc]
    rfl
  have h2 : aCons b (aCons c aNil) env s1 = .ok [.dat e, .dat g] s3 := by
    rw [aCons.eq_1 b, hb]
    simp only [Out.bind, h1]
  have h3 : aCons a (aCons b (aCons c aNil)) env s = .ok [.dat d, .dat e, .dat g] s3 := by
    rw [aCons.eq_1 a, ha]
    simp only [Out.bind, h2]
  unfold eCall
  rw [h3]
  exact hf
theorem pop2_run {v0 v1 v2 v4 v5 : Option Vl} (h1 : SzP 401 one) : ∀ (R : List P2) (fuel : Nat), SzL 401 R → R.length ≤ 1000 → R.length + 1 ≤ fuel →
    whGo C2 (sExp (ePop (eVar 6))) fuel (EO s v0 v1 v2 v4 v5 one) (stk s R) = .ok (.nx (EO s v0 v1 v2 v4 v5 one)) (stk s (pop2 one R))
  | [], fuel + 1, _, hl, _ => wh_stop (eAnd_f (len_r hl))
  | [f], fuel + 1, _, hl, _ => wh_stop (eAnd_f (len_r hl))
  | f :: g :: R, fuel + 1, hR, hl, hf => by
    have ih : whGo C2 (sExp (ePop (eVar 6))) fuel (EO s v0 v1 v2 v4 v5 one) (stk s (g :: R)) = .ok (.nx (EO s v0 v1 v2 v4 v5 one)) (stk s (pop2 one (g :: R))) := pop2_run h1 (g :: R) fuel (fun p hp => hR p (List.mem_cons_of_mem _ hp)) (by rw [List.length_cons] at hl; omega) (by rw [List.length_cons] at hf; omega)
    have a1 : eCmp pGt (eBlt bLen (aCons (eVar 6) (aNil))) (eCst (.int (1))) (EO s v0 v1 v2 v4 v5 one) (stk s (f :: g :: R)) = .ok (.dat (.bool true)) (stk s (f :: g :: R)) := by
      rw [len_r hl, decide_eq_true (by simp only [List.length_cons]; omega)]
    have a2 : eCall F_turns_up (aCons (e2 pIx (eVar 6) (e1 pNeg (eCst (.int (2))))) (aCons (e2 pIx (eVar 6) (e1 pNeg (eCst (.int (1))))) (aCons (eVar 3) (aNil)))) (EO s v0 v1 v2 v4 v5 one) (stk s (f :: g :: R)) = .ok (.dat (.bool (turnsUp g f one))) (stk s (f :: g :: R)) := eCall3_dat last2_r last_r rfl (turns_up_r (hR g (by simp)) (hR f (by simp)) h1)
    rw [pop2]
    cases hq : turnsUp g f one with
    | true =>
      rw [hq] at a2
      exact (wh_go (c := C2) (eAnd_t a1 a2) (pop_r rfl)).trans ih
    | false =>
      rw [hq] at a2
      exact wh_stop (eAnd_t a1 a2)
theorem pop1_sub (one : P2) : ∀ (R : List P2), ∀ p ∈ pop1 one R, p ∈ R
  | [], p, h => h
  | f :: R, p, h => by
    rw [pop1] at h
    split at h
    · exact List.mem_cons_of_mem _ (pop1_sub one R p h)
    · exact h
theorem pop1_len (one : P2) : ∀ (R : List P2), (pop1 one R).length ≤ R.length
  | [] => Nat.le_refl _
  | f :: R => by
    rw [pop1]
    split
    · have := pop1_len one R
      rw [List.length_cons]
      omega
    · exact Nat.le_refl _
theorem pop2_sub (one : P2) : ∀ (R : List P2), ∀ p ∈ pop2 one R, p ∈ R
  | [], p, h => h
  | [f], p, h => h
  | f :: g :: R, p, h => by
    rw [pop2] at h
    split at h
    · exact List.mem_cons_of_mem _ (pop2_sub one (g :: R) p h)
    · exact h
theorem pop2_len (one : P2) : ∀ (R : List P2), (pop2 one R).length ≤ R.length
  | [] => Nat.le_refl _
  | [f] => Nat.le_refl _
  | f :: g :: R => by
    rw [pop2]
    split
    · have := pop2_len one (g :: R)
      simp only [List.length_cons] at *
      omega
    · exact Nat.le_refl _
def push (R : List P2) (one : P2) : List P2 := one :: pop2 one (pop1 one R)
theorem push_sz (h : SzL n R) (h1 : SzP n one) : SzL n (push R one) := fun p hp => by
  unfold push at hp
  rw [List.mem_cons] at hp
  rcases hp with rfl | hp
  · exact h1
  · exact h p (pop1_sub _ _ p (pop2_sub _ _ p hp))
theorem push_len : (push R one).length ≤ R.length + 1 := by
  unfold push
  have h1 := pop1_len one R
  have h2 := pop2_len one (pop1 one R)
  rw [List.length_cons]
  omega
/-! ### places of the best -/
theorem enums_map (D : P2 → PyData) : ∀ (G : List P2) (k : Nat), enums (k : Int) (G.map D) = (G.zipIdx k).map fun pj => .tuple [.int (pj.2 : Nat), D pj.1]
  | [], k => rfl
  | p :: G, k => by
    have := enums_map D G (k + 1)
    rw [List.map_cons, enums, List.zipIdx_cons, List.map_cons, ← this]
    rfl
theorem intsOf_map : ∀ (js : List Nat), intsOf (js.map fun j => PyData.int (j : Nat)) = some (js.map fun (j : Nat) => (j : Int))
  | [] => rfl
  | j :: js => by
    rw [List.map_cons, intsOf, intsOf_map js]
    rfl
theorem maxI_nat : ∀ (js : List Nat) (j : Nat), maxI (j : Int) (js.map fun (j : Nat) => (j : Int)) = ((js.foldl max j : Nat) : Int)
  | [], j => rfl
  | i :: js, j => by
    rw [List.map_cons, maxI, List.foldl_cons, ← maxI_nat js (max j i)]
    congr 1
    split <;> omega
def spots (best : Rat) (rows : List P2) : List Nat := ((rows.zipIdx 0).filter fun pj => decide (pj.1.2 = best)).map Prod.snd
def lastIx (best : Rat) (rows : List P2) : Nat := (spots best rows).foldl max 0
theorem spots_lt {best : Rat} : ∀ j ∈ spots best rows, j < rows.length := fun j hj => by
  unfold spots at hj
  obtain ⟨⟨p, i⟩, h1, rfl⟩ := List.mem_map.mp hj
  have h2 := (List.mem_filter.mp h1).1
  have := List.snd_lt_add_of_mem_zipIdx h2
  simpa using this
theorem foldl_max_lt {N : Nat} : ∀ (js : List Nat) (j : Nat), j < N → (∀ i ∈ js, i < N) → js.foldl max j < N
  | [], j, h, _ => h
  | i :: js, j, h, hi => by
    rw [List.foldl_cons]
    exact foldl_max_lt js (max j i) (by have := hi i (List.mem_cons_self ..); omega) fun a ha => hi a (List.mem_cons_of_mem _ ha)
theorem lastIx_le {best : Rat} : lastIx best rows ≤ rows.length := by
  rcases Nat.eq_zero_or_pos rows.length with h | h
  · rw [List.eq_nil_of_length_eq_zero h]
    exact Nat.le_refl 0
  · exact Nat.le_of_lt (foldl_max_lt _ _ h spots_lt)
def edge (rows : List P2) : List P2 := ((rows.drop (lastIx (most (rows.map Prod.snd)) rows)).foldl push []).reverse
def outer (cs : List P2) (kp : P2) : List P2 := edge (inOrd (gns cs kp))
theorem spots_ne {best : Rat} (h : ∃ p ∈ rows, p.2 = best) : spots best rows ≠ [] := fun z => by
  obtain ⟨p, hp, e⟩ := h
  unfold spots at z
  rw [List.map_eq_nil_iff] at z
  obtain ⟨i, hi⟩ := List.getElem_of_mem hp
  obtain ⟨hlt, hi⟩ := hi
  have : (p, i) ∈ rows.zipIdx 0 := by
    rw [List.mem_zipIdx_iff_getElem?]
    rw [← hi]
    exact List.getElem?_eq_getElem hlt
  have h2 : (p, i) ∈ (rows.zipIdx 0).filter (fun pj => decide (pj.1.2 = best)) := List.mem_filter.mpr ⟨this, decide_eq_true e⟩
  rw [z] at h2
  cases h2
theorem most_mem : ∀ {xs : List Rat}, xs ≠ [] → most xs ∈ xs
  | [], h => absurd rfl h
  | x :: xs, _ => by
    have key : ∀ (xs : List Rat) (b : Rat), xs.foldl maxR b = b ∨ xs.foldl maxR b ∈ xs := by
      intro xs
      induction xs with
      | nil => intro b; exact .inl rfl
      | cons y ys ih =>
        intro b
        rw [List.foldl_cons]
        rcases ih (maxR b y) with h | h
        · rw [h]
          unfold maxR
          split
          · exact .inr (List.mem_cons_self ..)
          · exact .inl rfl
        · exact .inr (List.mem_cons_of_mem _ h)
    rcases key xs x with h | h
    · show xs.foldl maxR x ∈ _
      rw [h]
      exact List.mem_cons_self ..
    · exact List.mem_cons_of_mem _ h
theorem insO_ne {F : List P2} : insO F p ≠ [] := by
  unfold insO
  split
  · rename_i h
    exact List.ne_nil_of_mem h
  · unfold insAt
    simp
theorem inOrd_len : ∀ (G F : List P2), (G.foldl insO F).length ≤ F.length + G.length
  | [], F => by simp
  | p :: G, F => by
    rw [List.foldl_cons, List.length_cons]
    have h1 := inOrd_len G (insO F p)
    have h2 := insO_len (G := F) (p := p)
    omega
theorem inOrd_sz : ∀ (G F : List P2), SzL n G → SzL n F → SzL n (G.foldl insO F)
  | [], F, _, h => h
  | p :: G, F, h1, h => inOrd_sz G (insO F p) (fun q hq => h1 q (List.mem_cons_of_mem _ hq)) (insO_sz h (h1 p (List.mem_cons_self ..)))
theorem inOrd_ne : ∀ (G F : List P2), G ≠ [] ∨ F ≠ [] → G.foldl insO F ≠ []
  | [], F, h => by
    rcases h with h | h
    · exact absurd rfl h
    · exact h
  | p :: G, F, _ => inOrd_ne G (insO F p) (.inr insO_ne)
theorem outer_gains_r (h : Lot m cs kp) : F_outer_gains [.dat (lotD cs kp)] s = .ok (.dat (.list ((outer cs kp).map pD))) s := by
  have l' := h.l
  have ln := h.len
  have g := gns_sz h
  have gl : (gns cs kp).length = cs.length := gns_len
  have gne : gns cs kp ≠ [] := fun z => by rw [z] at gl; simp at gl; omega
  have rl : (inOrd (gns cs kp)).length ≤ 6 := by have := inOrd_len (gns cs kp) []; simp at this; unfold inOrd; omega
  have rsz : SzL 401 (inOrd (gns cs kp)) := inOrd_sz _ _ g (fun _ z => nomatch z)
  have rne : inOrd (gns cs kp) ≠ [] := inOrd_ne _ _ (.inl gne)
  have key : ∀ rows : List P2, rows.length ≤ 6 → SzL 401 rows → rows ≠ [] → F_in_order [.dat (.list ((gns cs kp).map pD))] s = .ok (.dat (.list (rows.map pD))) s → F_outer_gains [.dat (lotD cs kp)] s = .ok (.dat (.list ((edge rows).map pD))) s := by
    intro rows rl rsz rne hio
    have w1 : eCall F_in_order (aCons (eCall F_corner_gains (aCons (eVar 0) aNil)) aNil) [some (.dat (lotD cs kp)), none, none, none, none, none, none] s = .ok (.dat (.list (rows.map pD))) s := eCall1_dat (eCall1_dat (d := lotD cs kp) rfl (corner_gains_r h.c h.k (by omega) (by omega))) hio
    have w2 : eCall F_most_of (aCons (eLc (iSeq (eVar 1)) (.nm 3) [3] (tYes) (e2 pIx (eVar 3) (eCst (.int (1))))) (aNil)) [some (.dat (lotD cs kp)), some (.dat (.list (rows.map pD))), none, none, none, none, none] s = .ok (.dat (frD (most (rows.map Prod.snd)))) s :=
      eCall1_dat (d := .list ((rows.map Prod.snd).map frD)) (by rw [List.map_map]; exact lc_map pD _ rows rfl (by omega) fun p hp => ⟨_, rfl, rfl⟩) (most_of_r (szl_snd rsz) (by simpa using rne) (by omega))
    have w3 : eBlt bMax (aCons (eLc (iEnum (eVar 1)) (.tup [.nm 5, .nm 3]) [5, 3] (tOf (eCmp pEq (e2 pIx (eVar 3) (eCst (.int (1)))) (eVar 2))) (eVar 5)) (aNil)) [some (.dat (lotD cs kp)), some (.dat (.list (rows.map pD))), some (.dat (frD (most (rows.map Prod.snd)))), none, none, none, none] s = .ok (.dat (.int (lastIx (most (rows.map Prod.snd)) rows : Nat))) s := by
      have q0 : iEnum (eVar 1) [some (.dat (lotD cs kp)), some (.dat (.list (rows.map pD))), some (.dat (frD (most (rows.map Prod.snd)))), none, none, none, none] s = .ok (.its ((rows.zipIdx 0).map fun pj => .tuple [.int (pj.2 : Nat), pD pj.1])) s := by
        have := enums_map pD rows 0
        show Out.ok (Src.its (enums ((0 : Nat) : Int) (rows.map pD))) s = _
        rw [this]
      have q1 := lc_fil (s := s) (e := eVar 5) (tg := .tup [.nm 5, .nm 3]) (own := [5, 3]) (c := tOf (eCmp pEq (e2 pIx (eVar 3) (eCst (.int (1)))) (eVar 2))) (fun pj : P2 × Nat => PyData.tuple [.int (pj.2 : Nat), pD pj.1]) (fun pj => decide (pj.1.2 = most (rows.map Prod.snd))) (fun pj => .int (pj.2 : Nat)) (rows.zipIdx 0) q0 (by rw [List.length_zipIdx]; omega)
        fun pj hp => ⟨_, rfl, tOf_b (eCmp_dat (d := frD pj.1.2) (e := frD (most (rows.map Prod.snd))) rfl rfl (pEq_r _ _)), fun _ => rfl⟩
      refine eBlt1_dat q1 ?_
      have q2 : (List.filter (fun pj : P2 × Nat => decide (pj.1.2 = most (rows.map Prod.snd))) (rows.zipIdx 0)).map (fun pj => PyData.int (pj.2 : Nat)) = (spots (most (rows.map Prod.snd)) rows).map fun j => PyData.int (j : Nat) := by
        unfold spots
        rw [List.map_map]
        rfl
      rw [q2]
      have q3 : spots (most (rows.map Prod.snd)) rows ≠ [] := spots_ne (by
        have := most_mem (xs := rows.map Prod.snd) (by simpa using rne)
        obtain ⟨p, hp, e⟩ := List.mem_map.mp this
        exact ⟨p, hp, e⟩)
      unfold lastIx
      cases q4 : spots (most (rows.map Prod.snd)) rows with
      | nil => exact absurd q4 q3
      | cons j js =>
        show (intsOf (js.map fun j => PyData.int (j : Nat))).map _ = _
        rw [intsOf_map, List.foldl_cons]
        show some (PyData.int (maxI (j : Int) _)) = _
        rw [maxI_nat, Nat.zero_max]
    unfold edge
    generalize most (rows.map Prod.snd) = best at *
    have lx : lastIx best rows ≤ rows.length := lastIx_le
    have szr : SzL 401 (rows.drop (lastIx best rows)) := fun p hp => rsz p (List.mem_of_mem_drop hp)
    obtain ⟨env2, s2, h1, ⟨v3, v5, rfl⟩, rfl, -⟩ := forXN_its (s := s ++ [.lst []]) (s1 := s ++ [.lst []]) (d := .list ((rows.drop (lastIx best rows)).map pD)) (a := eSl (eVar 1) (oSome (eVar 4)) oNone) (tg := .nm 3) (env := [some (.dat (lotD cs kp)), some (.dat (.list (rows.map pD))), some (.dat (frD best)), none, some (.dat (.int (lastIx best rows : Nat))), none, some (.loc s.length)])
      (body := sCons (sWh C1 (sExp (ePop (eVar 6)))) (sCons (sWh C2 (sExp (ePop (eVar 6)))) (sExp (eApp (eVar 6) (eVar 3)))))
      pD (fun j (R : List P2) e t => (∃ v3 v5, e = [some (.dat (lotD cs kp)), some (.dat (.list (rows.map pD))), some (.dat (frD best)), v3, some (.dat (.int (lastIx best rows : Nat))), v5, some (.loc s.length)]) ∧ t = stk s R ∧ SzL 401 R ∧ R.length ≤ j) push (rows.drop (lastIx best rows)) []
      (by
        show noX (okD (some (.list (cutL (rows.map pD) (some (lastIx best rows : Nat)) none))) _) = _
        rw [cut_drop (by rw [List.length_map]; exact lx), List.map_drop]
        rfl) rfl
      (fun j R p e t hp hj ⟨⟨v3, v5, he⟩, ht, hR, hn⟩ => by
        subst he ht
        have jl : j < 6 := by rw [List.length_drop] at hj; omega
        have hp' := szr p hp
        have l1 := pop1_len p R
        have l2 := pop2_len p (pop1 p R)
        have g1 := sWh_ok (pop1_run (s := s) (v0 := some (.dat (lotD cs kp))) (v1 := some (.dat (.list (rows.map pD)))) (v2 := some (.dat (frD best))) (v4 := some (.dat (.int (lastIx best rows : Nat)))) (v5 := v5) hp' R 16384 hR (by omega))
        have g2 := sWh_ok (pop2_run (s := s) (v0 := some (.dat (lotD cs kp))) (v1 := some (.dat (.list (rows.map pD)))) (v2 := some (.dat (frD best))) (v4 := some (.dat (.int (lastIx best rows : Nat)))) (v5 := v5) hp' (pop1 p R) 16384 (fun q hq => hR q (pop1_sub _ _ _ hq)) (by omega) (by omega))
        refine ⟨_, rfl, _, _, (sCons_nx g1).trans ((sCons_nx g2).trans (sExp_nx (eApp_ok (t := s) (ds := (pop2 p (pop1 p R)).reverse.map pD) (d := pD p) rfl rfl (by rw [List.length_map, List.length_reverse]; omega)))), ⟨_, _, rfl⟩, ?_, push_sz hR hp', ?_⟩
        · unfold push
          rw [stk_cons]
        · have := push_len (R := R) (one := p)
          omega)
      ⟨⟨_, _, rfl⟩, rfl, (fun _ z => nomatch z), Nat.le_refl 0⟩
    exact fnS_new rfl ((sCons_nx (sSet_ok w1)).trans ((sCons_nx (sSet_ok w2)).trans ((sCons_nx (sSet_ok w3)).trans ((sCons_nx (a := sNew 6 (eLst aNil)) rfl).trans ((sCons_nx h1).trans (sRet_ok rfl))))))
  exact key _ rl rsz rne (in_order_r g (by omega) (by omega))
end
end Ev
/-! LotsU: what is in a lot: what the defs compute. -/
namespace Ev
open PySem
section
variable {m n k : Nat} {x y z t : Rat} {p q one : P2} {cs cs2 G R rows : List P2} {kp k2 : P2} {s : Sto}
theorem iZip_dat {a b : ME} {env : Env} {xs ys : List PyData} {s1 s2 : Sto} (ha : a env s = .ok (.dat (.list xs)) s1) (hb : b env s1 = .ok (.dat (.list ys)) s2) : iZip a b env s = .ok (.its (zips xs ys)) s2 := by
  unfold iZip
  rw [ha]
  simp only [Out.bind, hb]
/-! ### the greatest gain of side 1 where side 0 gains so much -/
def seg (t : Rat) (p q : P2) : Rat := p.2 + (t - p.1) / (q.1 - p.1) * (q.2 - p.2)
def segs (t : Rat) : P2 → List P2 → Option Rat
  | _, [] => none
  | p, q :: r => if t ≤ q.1 then some (seg t p q) else segs t q r
def lastP : P2 → List P2 → P2
  | p, [] => p
  | _, q :: r => lastP q r
def otherAt : List P2 → Rat → Option Rat
  | [], _ => none
  | p :: r, t => if (lastP p r).1 < t then none else if t ≤ p.1 then some p.2 else match segs t p r with
    | some v => some v
    | none => some (lastP p r).2
theorem otherAt_cons {p : P2} {r : List P2} {t : Rat} : otherAt (p :: r) t = if (lastP p r).1 < t then none else if t ≤ p.1 then some p.2 else match segs t p r with
    | some v => some v
    | none => some (lastP p r).2 := rfl
def upX : P2 → List P2 → Prop
  | _, [] => True
  | p, q :: r => p.1 < q.1 ∧ upX q r
def optD : Option Rat → PyData
  | none => .none
  | some x => frD x
theorem lastP_eq : ∀ (p : P2) (r : List P2), ∃ l, p :: r = l ++ [lastP p r]
  | p, [] => ⟨[], rfl⟩
  | p, q :: r => by
    obtain ⟨l, h⟩ := lastP_eq q r
    exact ⟨p :: l, congrArg (p :: ·) h⟩
theorem lastP_mem : ∀ (p : P2) (r : List P2), lastP p r ∈ p :: r
  | p, [] => List.mem_cons_self ..
  | p, q :: r => List.mem_cons_of_mem _ (lastP_mem q r)
theorem seg_sz (ht : Sz n t) (h1 : SzP 401 p) (h2 : SzP 401 q) (h : p.1 < q.1) : Sz (n + 2410) (seg t p q) := by
  have h0 : q.1 - p.1 ≠ 0 := by grind
  exact (h1.b.add (((ht.sub h1.a).div (h2.a.sub h1.a) h0).mul (h2.b.sub h1.b))).mono (by omega)
theorem seg_r {v0 v1 v4 : Option Vl} (ht : Sz n t) (l : n ≤ 1000) (h1 : SzP 401 p) (h2 : SzP 401 q) (h : p.1 < q.1) :
    sCons (sSet 4 (eCall P_over (aCons (eCall P_minus (aCons (eVar 1) (aCons (e2 pIx (eVar 2) (eCst (.int (0)))) (aNil)))) (aCons (eCall P_minus (aCons (e2 pIx (eVar 3) (eCst (.int (0)))) (aCons (e2 pIx (eVar 2) (eCst (.int (0)))) (aNil)))) (aNil))))) (sRet (eCall P_plus (aCons (e2 pIx (eVar 2) (eCst (.int (1)))) (aCons (eCall P_times (aCons (eVar 4) (aCons (eCall P_minus (aCons (e2 pIx (eVar 3) (eCst (.int (1)))) (aCons (e2 pIx (eVar 2) (eCst (.int (1)))) (aNil)))) (aNil)))) (aNil))))) [v0, some (.dat (frD t)), some (.dat (pD p)), some (.dat (pD q)), v4] s = .ok (.rt (.dat (frD (seg t p q)))) s := by
  have h0 : q.1 - p.1 ≠ 0 := by grind
  refine (sCons_nx (sSet_ok (eCall2_dat (eCall2_dat (d := frD t) (e := frD p.1) rfl rfl (minus_r ht h1.a (by omega) (by omega) s)) (eCall2_dat (d := frD q.1) (e := frD p.1) rfl rfl (minus_r h2.a h1.a (by omega) (by omega) s)) (over_r (ht.sub h1.a) (h2.a.sub h1.a) (by omega) (by omega) h0 s)))).trans (sRet_ok ?_)
  exact eCall2_dat (d := frD p.2) rfl (eCall2_dat (d := frD ((t - p.1) / (q.1 - p.1))) rfl (eCall2_dat (d := frD q.2) (e := frD p.2) rfl rfl (minus_r h2.b h1.b (by omega) (by omega) s)) (times_r ((ht.sub h1.a).div (h2.a.sub h1.a) h0) (h2.b.sub h1.b) (by omega) (by omega) s)) (plus_r h1.b (((ht.sub h1.a).div (h2.a.sub h1.a) h0).mul (h2.b.sub h1.b)) (by omega) (by omega) s)
def Boa : MS := sIf (eCall P_no_more (aCons (eVar 1) (aCons (e2 pIx (eVar 3) (eCst (.int (0)))) (aNil)))) (sCons (sSet 4 (eCall P_over (aCons (eCall P_minus (aCons (eVar 1) (aCons (e2 pIx (eVar 2) (eCst (.int (0)))) (aNil)))) (aCons (eCall P_minus (aCons (e2 pIx (eVar 3) (eCst (.int (0)))) (aCons (e2 pIx (eVar 2) (eCst (.int (0)))) (aNil)))) (aNil))))) (sRet (eCall P_plus (aCons (e2 pIx (eVar 2) (eCst (.int (1)))) (aCons (eCall P_times (aCons (eVar 4) (aCons (eCall P_minus (aCons (e2 pIx (eVar 3) (eCst (.int (1)))) (aCons (e2 pIx (eVar 2) (eCst (.int (1)))) (aNil)))) (aNil)))) (aNil)))))) (sNil)
theorem oa_loop (ht : Sz n t) (l : n ≤ 1000) : ∀ (v0 : Option Vl) (s : Sto) (p : P2) (r : List P2) (v2 v3 v4 : Option Vl), SzL 401 (p :: r) → upX p r →
    (∀ v, segs t p r = some v → forGo Boa (.tup [.nm 2, .nm 3]) (zips ((p :: r).map pD) (r.map pD)) [v0, some (.dat (frD t)), v2, v3, v4] s = .ok (.rt (.dat (frD v))) s) ∧
    (segs t p r = none → ∃ w2 w3 w4, forGo Boa (.tup [.nm 2, .nm 3]) (zips ((p :: r).map pD) (r.map pD)) [v0, some (.dat (frD t)), v2, v3, v4] s = .ok (.nx [v0, some (.dat (frD t)), w2, w3, w4]) s)
  | v0, s, p, [], v2, v3, v4, _, _ => ⟨(fun v h => nomatch h), fun _ => ⟨v2, v3, v4, rfl⟩⟩
  | v0, s, p, q :: r, v2, v3, v4, hs, hu => by
    obtain ⟨ih1, ih2⟩ := oa_loop ht l v0 s q r (some (.dat (pD p))) (some (.dat (pD q))) v4 (fun a ha => hs a (List.mem_cons_of_mem _ ha)) hu.2
    have h1 := hs p (List.mem_cons_self ..)
    have h2 := hs q (by simp)
    have c : eCall P_no_more (aCons (eVar 1) (aCons (e2 pIx (eVar 3) (eCst (.int (0)))) (aNil))) [v0, some (.dat (frD t)), some (.dat (pD p)), some (.dat (pD q)), v4] s = .ok (.dat (.bool (decide (t ≤ q.1)))) s := eCall2_dat (d := frD t) (e := frD q.1) rfl rfl (no_more_r ht h2.a (by omega) (by omega) s)
    have st : forGo Boa (.tup [.nm 2, .nm 3]) (zips ((p :: q :: r).map pD) ((q :: r).map pD)) [v0, some (.dat (frD t)), v2, v3, v4] s = (Boa [v0, some (.dat (frD t)), some (.dat (pD p)), some (.dat (pD q)), v4] s).bind fun r1 s => match r1 with
      | .nx env => forGo Boa (.tup [.nm 2, .nm 3]) (zips ((q :: r).map pD) (r.map pD)) env s
      | .rt v => .ok (.rt v) s := rfl
    rw [st]
    unfold segs
    by_cases hq : t ≤ q.1
    · rw [decide_eq_true hq] at c
      rw [if_pos hq]
      refine ⟨fun v h => ?_, (fun h => nomatch h)⟩
      cases h
      have b : Boa [v0, some (.dat (frD t)), some (.dat (pD p)), some (.dat (pD q)), v4] s = .ok (.rt (.dat (frD (seg t p q)))) s := (sIf_t c).trans (seg_r (v1 := none) ht l h1 h2 hu.1)
      rw [b]
      rfl
    · rw [decide_eq_false hq] at c
      rw [if_neg hq]
      have b : Boa [v0, some (.dat (frD t)), some (.dat (pD p)), some (.dat (pD q)), v4] s = .ok (.nx [v0, some (.dat (frD t)), some (.dat (pD p)), some (.dat (pD q)), v4]) s := sIf_f c
      rw [b]
      exact ⟨ih1, ih2⟩
def UpX : List P2 → Prop
  | [] => False
  | p :: r => upX p r
theorem ix_lastP {p : P2} {r : List P2} : pIx (.list ((p :: r).map pD)) (.int (-1)) = some (pD (lastP p r)) := by
  obtain ⟨l, h⟩ := lastP_eq p r
  rw [h, List.map_append]
  exact ix_last
theorem other_at_r (hr : SzL 401 rows) (hu : UpX rows) (ht : Sz n t) (l : n ≤ 1000) : F_other_at [.dat (.list (rows.map pD)), .dat (frD t)] s = .ok (.dat (optD (otherAt rows t))) s := by
  cases rows with
  | nil => exact hu.elim
  | cons p r =>
    have hu : upX p r := hu
    have h1 := hr p (List.mem_cons_self ..)
    have h2 := hr _ (lastP_mem p r)
    refine fnS_dat0 rfl ?_
    have lst : ∀ {v2 v3 v4}, e2 pIx (eVar 0) (e1 pNeg (eCst (.int (1)))) [some (.dat (.list ((p :: r).map pD))), some (.dat (frD t)), v2, v3, v4] s = .ok (.dat (pD (lastP p r))) s := e2_dat (d := .list ((p :: r).map pD)) (e := .int (-1)) rfl rfl ix_lastP
    have c1 : eCall P_less (aCons (e2 pIx (e2 pIx (eVar 0) (e1 pNeg (eCst (.int (1))))) (eCst (.int (0)))) (aCons (eVar 1) (aNil))) [some (.dat (.list ((p :: r).map pD))), some (.dat (frD t)), none, none, none] s = .ok (.dat (.bool (decide ((lastP p r).1 < t)))) s := eCall2_dat (d := frD (lastP p r).1) (e := frD t) (e2_dat lst rfl rfl) rfl (less_r h2.a ht (by omega) (by omega) s)
    have fst : ∀ {v2 v3 v4}, e2 pIx (eVar 0) (eCst (.int 0)) [some (.dat (.list ((p :: r).map pD))), some (.dat (frD t)), v2, v3, v4] s = .ok (.dat (pD p)) s := e2_dat (d := .list ((p :: r).map pD)) (e := .int 0) rfl rfl ix_zero
    have c2 : eCall P_no_more (aCons (eVar 1) (aCons (e2 pIx (e2 pIx (eVar 0) (eCst (.int (0)))) (eCst (.int (0)))) (aNil))) [some (.dat (.list ((p :: r).map pD))), some (.dat (frD t)), none, none, none] s = .ok (.dat (.bool (decide (t ≤ p.1)))) s := eCall2_dat (d := frD t) (e := frD p.1) rfl (e2_dat fst rfl rfl) (no_more_r ht h1.a (by omega) (by omega) s)
    rw [otherAt_cons]
    by_cases q1 : (lastP p r).1 < t
    · rw [decide_eq_true q1] at c1
      rw [if_pos q1]
      exact sif_do c1 rfl
    · rw [decide_eq_false q1] at c1
      rw [if_neg q1]
      refine (sif_skip c1).trans ?_
      by_cases q2 : t ≤ p.1
      · rw [decide_eq_true q2] at c2
        rw [if_pos q2]
        exact sif_do c2 (sRet_ok (e2_dat fst rfl rfl))
      · rw [decide_eq_false q2] at c2
        rw [if_neg q2]
        refine (sif_skip c2).trans ?_
        obtain ⟨a1, a2⟩ := oa_loop ht l (some (.dat (.list ((p :: r).map pD)))) s p r none none none hr hu
        have it : iZip (eVar 0) (eSl (eVar 0) (oSome (eCst (.int (1)))) (oNone)) [some (.dat (.list ((p :: r).map pD))), some (.dat (frD t)), none, none, none] s = .ok (.its (zips ((p :: r).map pD) (r.map pD))) s := by
          have sl : eSl (eVar 0) (oSome (eCst (.int (1)))) (oNone) [some (.dat (.list ((p :: r).map pD))), some (.dat (frD t)), none, none, none] s = .ok (.dat (.list (r.map pD))) s := by
            show noX (okD (some (.list (cutL _ _ _))) s) = _
            rw [List.map_cons, cut_from1]
            rfl
          exact iZip_dat (xs := (p :: r).map pD) rfl sl
        have fr : sFor (iZip (eVar 0) (eSl (eVar 0) (oSome (eCst (.int (1)))) (oNone))) (.tup [.nm 2, .nm 3]) Boa [some (.dat (.list ((p :: r).map pD))), some (.dat (frD t)), none, none, none] s = noX (forGo Boa (.tup [.nm 2, .nm 3]) (zips ((p :: r).map pD) (r.map pD)) [some (.dat (.list ((p :: r).map pD))), some (.dat (frD t)), none, none, none] s) := by
          unfold sFor
          rw [it]
          rfl
        cases hv : segs t p r with
        | some v =>
          rw [a1 v hv] at fr
          exact sCons_rt fr
        | none =>
          obtain ⟨w2, w3, w4, e⟩ := a2 hv
          rw [e] at fr
          exact (sCons_nx fr).trans (sRet_ok (e2_dat lst rfl rfl))
theorem outer_sz (h : Lot m cs kp) : SzL 401 (outer cs kp) := by
  have g := gns_sz h
  have rsz : SzL 401 (inOrd (gns cs kp)) := inOrd_sz _ _ g (fun _ z => nomatch z)
  unfold outer edge
  intro p hp
  rw [List.mem_reverse] at hp
  have : ∀ (G R : List P2), SzL 401 G → SzL 401 R → SzL 401 (G.foldl push R) := by
    intro G
    induction G with
    | nil => intro R _ h; exact h
    | cons a G ih =>
      intro R h1 h2
      rw [List.foldl_cons]
      exact ih _ (fun b hb => h1 b (List.mem_cons_of_mem _ hb)) (push_sz h2 (h1 a (List.mem_cons_self ..)))
  exact this _ [] (fun b hb => rsz b (List.mem_of_mem_drop hb)) (fun _ z => nomatch z) p hp
theorem outer_len (h : Lot m cs kp) : (outer cs kp).length ≤ 6 := by
  have ln := h.len
  have gl : (gns cs kp).length = cs.length := gns_len
  have rl : (inOrd (gns cs kp)).length ≤ 6 := by have := inOrd_len (gns cs kp) []; simp at this; unfold inOrd; omega
  unfold outer edge
  rw [List.length_reverse]
  have : ∀ (G R : List P2), (G.foldl push R).length ≤ R.length + G.length := by
    intro G
    induction G with
    | nil => intro R; simp
    | cons a G ih =>
      intro R
      rw [List.foldl_cons, List.length_cons]
      have h1 := ih (push R a)
      have h2 := push_len (R := R) (one := a)
      omega
  have h1 := this ((inOrd (gns cs kp)).drop (lastIx (most ((inOrd (gns cs kp)).map Prod.snd)) (inOrd (gns cs kp)))) []
  rw [List.length_drop, List.length_nil] at h1
  omega
def mix (p q : P2) (w : Rat) : P2 := (p.1 + w * (q.1 - p.1), p.2 + w * (q.2 - p.2))
/-! ### what is in a lot -/
def isIn (cs : List P2) (kp p : P2) : Bool := !(decide (p.1 - kp.1 < 0) || decide (p.2 - kp.2 < 0)) && (match otherAt (outer cs kp) (p.1 - kp.1) with
  | none => false
  | some v => decide (p.2 - kp.2 ≤ v))
def outerC (cs : List P2) (kp : P2) : List P2 := (outer cs kp).map fun g => add2 g kp
def within (cs : List P2) (kp : P2) (cs2 : List P2) (k2 : P2) : Bool := decide (kp = k2) && cs.all fun c => isIn cs2 k2 c
theorem segs_sz (ht : Sz n t) : ∀ (p : P2) (r : List P2), SzL 401 (p :: r) → upX p r → ∀ v, segs t p r = some v → Sz (n + 2410) v
  | p, [], _, _, v, h => by cases h
  | p, q :: r, hs, hu, v, h => by
    rw [segs] at h
    split at h
    · cases h
      exact seg_sz ht (hs p (List.mem_cons_self ..)) (hs q (by simp)) hu.1
    · exact segs_sz ht q r (fun a ha => hs a (List.mem_cons_of_mem _ ha)) hu.2 v h
theorem otherAt_sz (hr : SzL 401 rows) (hu : UpX rows) (ht : Sz n t) : ∀ v, otherAt rows t = some v → Sz (n + 2410) v := fun v h => by
  cases rows with
  | nil => exact hu.elim
  | cons p r =>
    rw [otherAt_cons] at h
    by_cases q1 : (lastP p r).1 < t
    · rw [if_pos q1] at h
      cases h
    · rw [if_neg q1] at h
      by_cases q2 : t ≤ p.1
      · rw [if_pos q2] at h
        cases h
        exact (hr p (List.mem_cons_self ..)).b.mono (by omega)
      · rw [if_neg q2] at h
        cases hw : segs t p r with
        | some w =>
          rw [hw] at h
          cases h
          exact segs_sz ht p r hr hu _ hw
        | none =>
          rw [hw] at h
          cases h
          exact (hr _ (lastP_mem p r)).b.mono (by omega)

theorem is_in_r (h : Lot m cs kp) (hu : UpX (outer cs kp)) (hp : SzP n p) (l : n ≤ 700) : F_is_in [.dat (lotD cs kp), .dat (pD p)] s = .ok (.dat (.bool (isIn cs kp p))) s := by
  have l' := h.l
  have os := outer_sz h
  have hg := sub2_sz hp h.k
  refine fnS_dat0 rfl ?_
  refine (sCons_nx (sSet_ok (eCall2_dat (d := lotD cs kp) (e := pD p) rfl rfl (gains_at_r h hp (by omega))))).trans ?_
  have c1 : eCall P_less (aCons (e2 pIx (eVar 2) (eCst (.int (0)))) (aCons (eCst G_NOUGHT) (aNil))) [some (.dat (lotD cs kp)), some (.dat (pD p)), some (.dat (pD (sub2 p kp))), none] s = .ok (.dat (.bool (decide (p.1 - kp.1 < 0)))) s := eCall2_dat (d := frD (p.1 - kp.1)) (e := frD 0) rfl rfl (less_r hg.a (n := 4) szc (by omega) (by omega) s)
  have c2 : eCall P_less (aCons (e2 pIx (eVar 2) (eCst (.int (1)))) (aCons (eCst G_NOUGHT) (aNil))) [some (.dat (lotD cs kp)), some (.dat (pD p)), some (.dat (pD (sub2 p kp))), none] s = .ok (.dat (.bool (decide (p.2 - kp.2 < 0)))) s := eCall2_dat (d := frD (p.2 - kp.2)) (e := frD 0) rfl rfl (less_r hg.b (n := 4) szc (by omega) (by omega) s)
  unfold isIn
  by_cases q1 : p.1 - kp.1 < 0
  · rw [decide_eq_true q1] at c1
    rw [decide_eq_true q1]
    exact sif_do (eOr_t c1) rfl
  · rw [decide_eq_false q1] at c1
    rw [decide_eq_false q1]
    by_cases q2 : p.2 - kp.2 < 0
    · rw [decide_eq_true q2] at c2
      rw [decide_eq_true q2]
      exact sif_do (eOr_f c1 c2) rfl
    · rw [decide_eq_false q2] at c2
      rw [decide_eq_false q2]
      refine (sif_skip (eOr_f c1 c2)).trans ?_
      have ht : Sz (n + m + 1) (p.1 - kp.1) := hg.a
      refine (sCons_nx (sSet_ok (eCall2_dat (d := .list ((outer cs kp).map pD)) (e := frD (p.1 - kp.1)) (eCall1_dat (d := lotD cs kp) rfl (outer_gains_r h)) rfl (other_at_r os hu ht (by omega))))).trans (sRet_ok ?_)
      cases hv : otherAt (outer cs kp) (p.1 - kp.1) with
      | none => rfl
      | some v =>
        have vs := otherAt_sz os hu ht v hv
        refine eAnd_t (s1 := s) ?_ (eCall2_dat (d := frD (p.2 - kp.2)) (e := frD v) rfl rfl (no_more_r hg.b vs (by omega) (by omega) s))
        rfl

end
end Ev
/-! LotsW: outer corners, lots in one another, mixtures: what the defs compute. -/
namespace Ev
open PySem
section
variable {m n k : Nat} {x y z t w : Rat} {p q one : P2} {cs cs2 G R rows : List P2} {kp k2 : P2} {s : Sto}
theorem sPre_ok {a : ME} {m : MS} {env : Env} {v : Vl} {s1 : Sto} (h : a env s = .ok v s1) : sPre a m env s = m env s := by
  unfold sPre
  rw [h]
theorem iSeq_list {a : ME} {env : Env} {xs : List PyData} {s1 : Sto} (h : a env s = .ok (.dat (.list xs)) s1) : iSeq a env s = .ok (.its xs) s1 := by
  unfold iSeq
  rw [h]
  rfl











































end
end Ev
/-! Hull: the outer edge over rationals: what it is. -/
namespace Ev
open PySem
def sl (a b : P2) : Rat := (b.2 - a.2) / (b.1 - a.1)
theorem sl_mul {a b : P2} (h : a.1 < b.1) : sl a b * (b.1 - a.1) = b.2 - a.2 := by
  unfold sl
  have : b.1 - a.1 ≠ 0 := by grind
  grind
/-- p is on the line through a and b, or below -/
def bel (a b p : P2) : Prop := p.2 ≤ a.2 + sl a b * (p.1 - a.1)
theorem bel_b {a b p : P2} (h : a.1 < b.1) : bel a b p ↔ p.2 ≤ b.2 + sl a b * (p.1 - b.1) := by
  have := sl_mul h
  unfold bel
  constructor <;> intro q <;> grind
theorem mul_nn {a b : Rat} (h1 : 0 ≤ a) (h2 : 0 ≤ b) : 0 ≤ a * b := Rat.mul_nonneg h1 h2
theorem mul_pp {a b : Rat} (h1 : 0 < a) (h2 : 0 < b) : 0 < a * b := Rat.mul_pos h1 h2
/-- behind b the steeper line is lower -/
theorem bel_left {a b c p : P2} (h1 : a.1 < b.1) (h2 : b.1 < c.1) (hs : sl b c < sl a b) (hp : p.1 ≤ b.1) (h : bel a b p) : bel b c p := by
  rw [bel_b h1] at h
  unfold bel
  have := mul_nn (a := sl a b - sl b c) (b := b.1 - p.1) (by grind) (by grind)
  grind
theorem bel_right {a b c p : P2} (h1 : a.1 < b.1) (h2 : b.1 < c.1) (hs : sl b c < sl a b) (hp : b.1 ≤ p.1) (h : bel b c p) : bel a b p := by
  rw [bel_b h1]
  unfold bel at h
  have := mul_nn (a := sl a b - sl b c) (b := p.1 - b.1) (by grind) (by grind)
  grind
theorem turns_iff {a b c : P2} (h1 : a.1 < b.1) (h2 : b.1 < c.1) : turnsUp a b c = false ↔ sl b c < sl a b := by
  have e1 := sl_mul h1
  have e2 := sl_mul h2
  unfold turnsUp
  rw [decide_eq_false_iff_not]
  have k1 : b.2 - a.2 = sl a b * (b.1 - a.1) := e1.symm
  have k2 : c.2 - a.2 = sl a b * (b.1 - a.1) + sl b c * (c.1 - b.1) := by grind
  rw [k1, k2]
  constructor
  · intro h
    apply Classical.byContradiction
    intro q
    have := mul_nn (mul_nn (a := sl b c - sl a b) (b := c.1 - b.1) (by grind) (by grind)) (b := b.1 - a.1) (by grind)
    grind
  · intro h q
    have := mul_pp (mul_pp (a := sl a b - sl b c) (b := c.1 - b.1) (by grind) (by grind)) (b := b.1 - a.1) (by grind)
    grind
/-- a chord: where the middle one is no higher -/
theorem bel_over {a b c p : P2} (h1 : a.1 < b.1) (h2 : b.1 < c.1) (hs : sl a b ≤ sl b c) (q1 : p.1 ≤ c.1) (q0 : a.1 ≤ p.1) (h : b.1 ≤ p.1 → bel b c p) (h' : p.1 ≤ b.1 → bel a b p) : bel a c p := by
  have h3 : a.1 < c.1 := by grind
  have e1 := sl_mul h1
  have e2 := sl_mul h2
  have e3 := sl_mul h3
  have hac : sl a b ≤ sl a c := by
    apply Classical.byContradiction
    intro q
    have t1 := mul_pp (a := sl a b - sl a c) (b := c.1 - a.1) (by grind) (by grind)
    have t2 := mul_nn (a := sl b c - sl a b) (b := c.1 - b.1) (by grind) (by grind)
    grind
  have hcb : sl a c ≤ sl b c := by
    apply Classical.byContradiction
    intro q
    have t1 := mul_pp (a := sl a c - sl b c) (b := c.1 - a.1) (by grind) (by grind)
    have t2 := mul_nn (a := sl b c - sl a b) (b := b.1 - a.1) (by grind) (by grind)
    grind
  rcases Rat.le_total (a := b.1) (b := p.1) with q | q
  · have k := h q
    rw [bel_b h2] at k
    rw [bel_b h3]
    have := mul_nn (a := sl b c - sl a c) (b := c.1 - p.1) (by grind) (by grind)
    grind
  · have k := h' q
    unfold bel at *
    have := mul_nn (a := sl a c - sl a b) (b := p.1 - a.1) (by grind) (by grind)
    grind
/-! ### the stack, its last ahead -/
def RC : List P2 → Prop
  | f :: g :: r => g.1 < f.1 ∧ (∀ h r', r = h :: r' → sl g f < sl h g) ∧ RC (g :: r)
  | _ => True
def BelA : List P2 → P2 → Prop
  | f :: g :: r, p => bel g f p ∧ BelA (g :: r) p
  | _, _ => True
theorem RC.tail {f : P2} {r : List P2} (h : RC (f :: r)) : RC r := by
  cases r with
  | nil => trivial
  | cons g r => exact h.2.2
theorem BelA.tail {f : P2} {r : List P2} {p : P2} (h : BelA (f :: r) p) : BelA r p := by
  cases r with
  | nil => trivial
  | cons g r => exact h.2
/-- below the first line and no more left than it: below all -/
theorem BelA_of {p : P2} : ∀ (f g : P2) (r : List P2), RC (f :: g :: r) → bel g f p → g.1 ≤ p.1 → BelA (f :: g :: r) p
  | f, g, [], h, b, l => ⟨b, trivial⟩
  | f, g, h :: r, c, b, l => by
    have c2 := c.2.2
    refine ⟨b, BelA_of g h r c2 (bel_right c2.1 c.1 (c.2.1 h r rfl) l b) ?_⟩
    have := c2.1
    grind
structure J (S : List P2) (one : P2) (f : P2) (r : List P2) : Prop where
  rc : RC (f :: r)
  lt : f.1 < one.1
  be : ∀ p ∈ S, BelA (f :: r) p
  ne : ∀ p ∈ S, f.1 ≤ p.1 → bel f one p
  lo : ∀ p ∈ S, (lastP f r).1 ≤ p.1
structure Inv (S : List P2) (f : P2) (r : List P2) : Prop where
  rc : RC (f :: r)
  be : ∀ p ∈ S, BelA (f :: r) p
  hi : ∀ p ∈ S, p.1 ≤ f.1 ∧ (p.1 = f.1 → p.2 ≤ f.2)
  lo : ∀ p ∈ S, (lastP f r).1 ≤ p.1
  sub : ∀ p ∈ f :: r, p ∈ S
theorem lt2_iff {p q : P2} : lt2 p q = true ↔ p.1 < q.1 ∨ (p.1 = q.1 ∧ p.2 < q.2) := by
  unfold lt2
  simp
theorem lastP_lt : ∀ (f : P2) (r : List P2), RC (f :: r) → (lastP f r).1 ≤ f.1
  | f, [], _ => by
    show f.1 ≤ f.1
    grind
  | f, g :: r, h => by
    have := lastP_lt g r h.2.2
    have := h.1
    show (lastP g r).1 ≤ f.1
    grind
theorem pop1_j {S : List P2} {one f : P2} {r : List P2} (h : Inv S f r) (hl : ∀ p ∈ S, lt2 p one = true) (h0 : (lastP f r).1 < one.1) : ∃ f' r', pop1 one (f :: r) = f' :: r' ∧ J S one f' r' ∧ (∀ p ∈ f' :: r', p ∈ S) ∧ lastP f' r' = lastP f r := by
  have hf := lt2_iff.mp (hl f (h.sub f (List.mem_cons_self ..)))
  by_cases q : f.1 = one.1
  · have q2 : f.2 < one.2 := by grind
    cases r with
    | nil => exact absurd h0 (by show ¬ f.1 < one.1; grind)
    | cons g r =>
      have hg := h.rc.1
      refine ⟨g, r, ?_, ⟨h.rc.2.2, by grind, fun p hp => (h.be p hp).2, fun p hp hx => ?_, h.lo⟩, fun p hp => h.sub p (List.mem_cons_of_mem _ hp), rfl⟩
      · rw [pop1, if_pos ⟨by grind, q⟩, pop1, if_neg (fun z => by grind)]
      · have hb := (h.be p hp).1
        have e1 := sl_mul hg
        have e2 := sl_mul (a := g) (b := one) (by grind)
        have hs : sl g f ≤ sl g one := by
          apply Classical.byContradiction
          intro w
          have := mul_pp (a := sl g f - sl g one) (b := f.1 - g.1) (by grind) (by grind)
          rw [← q] at e2
          grind
        unfold bel at *
        have := mul_nn (a := sl g one - sl g f) (b := p.1 - g.1) (by grind) (by grind)
        grind
  · refine ⟨f, r, ?_, ⟨h.rc, by grind, h.be, fun p hp hx => ?_, h.lo⟩, h.sub, rfl⟩
    · rw [pop1, if_neg (fun z => q z.2)]
    · have := h.hi p hp
      have e : p.1 = f.1 := by grind
      unfold bel
      rw [e]
      have := this.2 e
      grind
theorem pop2_j {S : List P2} {one : P2} (hl : ∀ p ∈ S, lt2 p one = true) : ∀ (r : List P2) (f : P2), J S one f r → (∀ p ∈ f :: r, p ∈ S) →
    ∃ f' r', pop2 one (f :: r) = f' :: r' ∧ J S one f' r' ∧ (∀ p ∈ f' :: r', p ∈ S) ∧ lastP f' r' = lastP f r ∧ (∀ g r'', r' = g :: r'' → sl f' one < sl g f')
  | [], f, h, hs => ⟨f, [], rfl, h, hs, rfl, fun _ _ z => nomatch z⟩
  | g :: r, f, h, hs => by
    have hg := h.rc.1
    have hf := h.lt
    rw [pop2]
    cases q : turnsUp g f one with
    | false => exact ⟨f, g :: r, rfl, h, hs, rfl, fun g' r'' z => by cases z; exact (turns_iff hg hf).mp q⟩
    | true =>
      have q2 : sl g f ≤ sl f one := by
        apply Classical.byContradiction
        intro w
        have := (turns_iff hg hf).mpr (by grind)
        rw [q] at this
        cases this
      refine pop2_j hl r g ⟨h.rc.2.2, by grind, fun p hp => (h.be p hp).2, fun p hp hx => ?_, h.lo⟩ (fun p hp => hs p (List.mem_cons_of_mem _ hp))
      have lp := lt2_iff.mp (hl p hp)
      exact bel_over hg hf q2 (by grind) hx (fun w => h.ne p hp w) (fun _ => (h.be p hp).1)
theorem push_inv {S : List P2} {one f : P2} {r : List P2} (h : Inv S f r) (hl : ∀ p ∈ S, lt2 p one = true) (h0 : (lastP f r).1 < one.1) : ∃ r', push (f :: r) one = one :: r' ∧ Inv (S ++ [one]) one r' ∧ lastP one r' = lastP f r := by
  obtain ⟨f1, r1, e1, j1, s1, l1⟩ := pop1_j h hl h0
  obtain ⟨f2, r2, e2, j2, s2, l2, t2⟩ := pop2_j hl r1 f1 j1 s1
  have ft := j2.lt
  have rc : RC (one :: f2 :: r2) := ⟨ft, fun g r' z => t2 g r' z, j2.rc⟩
  refine ⟨f2 :: r2, ?_, ⟨rc, fun p hp => ?_, fun p hp => ?_, fun p hp => ?_, fun p hp => ?_⟩, ?_⟩
  · unfold push
    rw [e1, e2]
  · rw [List.mem_append, List.mem_singleton] at hp
    rcases hp with hp | rfl
    · refine ⟨?_, j2.be p hp⟩
      rcases Rat.le_total (a := f2.1) (b := p.1) with q | q
      · exact j2.ne p hp q
      · cases r2 with
        | nil =>
          have := j2.lo p hp
          exact j2.ne p hp this
        | cons g r2 => exact bel_left j2.rc.1 ft (t2 g r2 rfl) q (j2.be p hp).1
    · refine BelA_of _ _ _ rc ?_ (by grind)
      have := sl_mul ft
      unfold bel
      grind
  · rw [List.mem_append, List.mem_singleton] at hp
    rcases hp with hp | rfl
    · have := lt2_iff.mp (hl p hp)
      grind
    · grind
  · rw [List.mem_append, List.mem_singleton] at hp
    show (lastP f2 r2).1 ≤ p.1
    rcases hp with hp | rfl
    · exact j2.lo p hp
    · have := lastP_lt f2 r2 j2.rc
      grind
  · rw [List.mem_append, List.mem_singleton]
    rw [List.mem_cons] at hp
    rcases hp with rfl | hp
    · exact .inr rfl
    · exact .inl (s2 p hp)
  · show lastP f2 r2 = lastP f r
    rw [l2, l1]
theorem fold_inv : ∀ (T S : List P2) (f : P2) (r : List P2), Inv S f r → (∀ p ∈ T, (lastP f r).1 < p.1) → (∀ p ∈ S, ∀ q ∈ T, lt2 p q = true) → T.Pairwise (fun p q => lt2 p q = true) →
    ∃ f' r', T.foldl push (f :: r) = f' :: r' ∧ Inv (S ++ T) f' r' ∧ lastP f' r' = lastP f r
  | [], S, f, r, h, _, _, _ => ⟨f, r, rfl, by rw [List.append_nil]; exact h, rfl⟩
  | one :: T, S, f, r, h, h0, h1, h2 => by
    rw [List.pairwise_cons] at h2
    obtain ⟨r1, e1, i1, l1⟩ := push_inv h (fun p hp => h1 p hp one (List.mem_cons_self ..)) (h0 one (List.mem_cons_self ..))
    obtain ⟨f2, r2, e2, i2, l2⟩ := fold_inv T (S ++ [one]) one r1 i1 (fun p hp => by rw [l1]; exact h0 p (List.mem_cons_of_mem _ hp)) (fun p hp q hq => by
      rw [List.mem_append, List.mem_singleton] at hp
      rcases hp with hp | rfl
      · exact h1 p hp q (List.mem_cons_of_mem _ hq)
      · exact h2.1 q hq) h2.2
    refine ⟨f2, r2, ?_, ?_, by rw [l2, l1]⟩
    · rw [List.foldl_cons, e1, e2]
    · rw [List.append_assoc] at i2
      exact i2
end Ev
/-! HullB: order, the first one, the outer edge as a whole. -/
namespace Ev
open PySem
theorem lt2_trans {p q r : P2} (h1 : lt2 p q = true) (h2 : lt2 q r = true) : lt2 p r = true := by
  rw [lt2_iff] at *
  grind
theorem lt2_tri {p q : P2} (h : p ≠ q) (h1 : lt2 p q = false) : lt2 q p = true := by
  have h2 : ¬ (p.1 < q.1 ∨ (p.1 = q.1 ∧ p.2 < q.2)) := fun z => by rw [lt2_iff.mpr z] at h1; cases h1
  rw [lt2_iff]
  have h3 : ¬ (p.1 = q.1 ∧ p.2 = q.2) := fun z => h (Prod.ext z.1 z.2)
  grind
abbrev SrtP (F : List P2) : Prop := F.Pairwise (fun p q => lt2 p q = true)
theorem insAt_mem {F : List P2} {k : Nat} {p q : P2} : q ∈ insAt F k p ↔ q = p ∨ q ∈ F := by
  unfold insAt
  have h : q ∈ F ↔ q ∈ F.take k ∨ q ∈ F.drop k := by
    rw [← List.mem_append, List.take_append_drop]
  rw [List.mem_append, List.mem_cons, h]
  grind
theorem insAt_srt {p : P2} : ∀ (F : List P2), SrtP F → p ∉ F → SrtP (insAt F (F.filter fun o => lt2 o p).length p)
  | [], _, _ => by simp [insAt]
  | f :: F, h, hn => by
    have h := List.pairwise_cons.mp h
    have ih := insAt_srt F h.2 (fun z => hn (List.mem_cons_of_mem _ z))
    cases q : lt2 f p with
    | true =>
      have e : (f :: F).filter (fun o => lt2 o p) = f :: F.filter fun o => lt2 o p := List.filter_cons_of_pos (by exact q)
      rw [e, List.length_cons]
      show SrtP (f :: insAt F _ p)
      refine List.pairwise_cons.mpr ⟨fun a ha => ?_, ih⟩
      rw [insAt_mem] at ha
      rcases ha with rfl | ha
      · exact q
      · exact h.1 a ha
    | false =>
      have hp : lt2 p f = true := lt2_tri (fun z => hn (by rw [z]; exact List.mem_cons_self ..)) q
      have e : (f :: F).filter (fun o => lt2 o p) = [] := by
        rw [List.filter_eq_nil_iff]
        intro a ha z
        rw [List.mem_cons] at ha
        have : lt2 a a = true := by
          rcases ha with rfl | ha
          · exact lt2_trans z hp
          · exact lt2_trans z (lt2_trans hp (h.1 a ha))
        rw [lt2_iff] at this
        grind
      rw [e]
      show SrtP (p :: f :: F)
      refine List.pairwise_cons.mpr ⟨fun a ha => ?_, List.pairwise_cons.mpr h⟩
      rw [List.mem_cons] at ha
      rcases ha with rfl | ha
      · exact hp
      · exact lt2_trans hp (h.1 a ha)
theorem insO_srt {F : List P2} {p : P2} (h : SrtP F) : SrtP (insO F p) ∧ ∀ q, q ∈ insO F p ↔ q = p ∨ q ∈ F := by
  unfold insO
  by_cases q : p ∈ F
  · rw [if_pos q]
    exact ⟨h, fun a => ⟨.inr, fun z => by rcases z with rfl | z; exact q; exact z⟩⟩
  · rw [if_neg q]
    exact ⟨insAt_srt F h q, fun a => insAt_mem⟩
theorem inOrd_srt : ∀ (G F : List P2), SrtP F → SrtP (G.foldl insO F) ∧ ∀ q, q ∈ G.foldl insO F ↔ q ∈ F ∨ q ∈ G
  | [], F, h => ⟨h, fun q => by simp⟩
  | p :: G, F, h => by
    obtain ⟨h1, h2⟩ := insO_srt (p := p) h
    obtain ⟨h3, h4⟩ := inOrd_srt G (insO F p) h1
    refine ⟨h3, fun q => ?_⟩
    rw [List.foldl_cons, h4, h2, List.mem_cons]
    grind
theorem most_ge : ∀ (xs : List Rat) (b : Rat), b ≤ xs.foldl maxR b ∧ ∀ x ∈ xs, x ≤ xs.foldl maxR b
  | [], b => ⟨by show b ≤ b; grind, fun _ z => nomatch z⟩
  | y :: xs, b => by
    obtain ⟨h1, h2⟩ := most_ge xs (maxR b y)
    have k1 : b ≤ maxR b y := by unfold maxR; grind
    have k2 : y ≤ maxR b y := by unfold maxR; grind
    rw [List.foldl_cons]
    refine ⟨by grind, fun x hx => ?_⟩
    rw [List.mem_cons] at hx
    rcases hx with rfl | hx
    · grind
    · exact h2 x hx
theorem most_le {xs : List Rat} {x : Rat} (h : x ∈ xs) : x ≤ most xs := by
  cases xs with
  | nil => cases h
  | cons y ys =>
    rw [List.mem_cons] at h
    obtain ⟨h1, h2⟩ := most_ge ys y
    rcases h with rfl | h
    · exact h1
    · exact h2 x h
theorem foldl_max : ∀ (js : List Nat) (j : Nat), (js.foldl max j = j ∨ js.foldl max j ∈ js) ∧ j ≤ js.foldl max j ∧ ∀ i ∈ js, i ≤ js.foldl max j
  | [], j => ⟨.inl rfl, Nat.le_refl _, fun _ z => nomatch z⟩
  | i :: js, j => by
    obtain ⟨h1, h2, h3⟩ := foldl_max js (max j i)
    rw [List.foldl_cons]
    refine ⟨?_, by omega, fun a ha => ?_⟩
    · rcases h1 with h1 | h1
      · rw [h1]
        rcases Nat.le_total i j with q | q
        · left; omega
        · right
          rw [Nat.max_eq_right q]
          exact List.mem_cons_self ..
      · exact .inr (List.mem_cons_of_mem _ h1)
    · rw [List.mem_cons] at ha
      rcases ha with rfl | ha
      · omega
      · exact h3 a ha
theorem spots_iff {best : Rat} {rows : List P2} {j : Nat} : j ∈ spots best rows ↔ ∃ p, rows[j]? = some p ∧ p.2 = best := by
  unfold spots
  rw [List.mem_map]
  constructor
  · rintro ⟨⟨p, i⟩, h, rfl⟩
    obtain ⟨h1, h2⟩ := List.mem_filter.mp h
    rw [List.mem_zipIdx_iff_getElem?] at h1
    exact ⟨p, h1, of_decide_eq_true h2⟩
  · rintro ⟨p, h1, h2⟩
    exact ⟨(p, j), List.mem_filter.mpr ⟨by rw [List.mem_zipIdx_iff_getElem?]; exact h1, decide_eq_true h2⟩, rfl⟩
theorem last_best {best : Rat} {rows : List P2} (h : ∃ p ∈ rows, p.2 = best) : ∃ U f T, rows = U ++ f :: T ∧ rows.drop (lastIx best rows) = f :: T ∧ f.2 = best ∧ ∀ p ∈ T, p.2 ≠ best := by
  have ne := spots_ne h
  obtain ⟨h1, _, h3⟩ := foldl_max (spots best rows) 0
  have hm : lastIx best rows ∈ spots best rows := by
    unfold lastIx
    rcases h1 with h1 | h1
    · cases q : spots best rows with
      | nil => exact absurd q ne
      | cons i is =>
        have := h3 i (by rw [q]; exact List.mem_cons_self ..)
        rw [h1] at this
        have : i = 0 := by omega
        rw [q] at h1
        rw [h1, this]
        exact List.mem_cons_self ..
    · exact h1
  have hx : ∀ i ∈ spots best rows, i ≤ lastIx best rows := h3
  generalize lastIx best rows = k at *
  obtain ⟨f, hf, e⟩ := spots_iff.mp hm
  have hlt : k < rows.length := by
    rcases Nat.lt_or_ge k rows.length with q | q
    · exact q
    · rw [List.getElem?_eq_none q] at hf
      cases hf
  have hd : rows.drop k = f :: rows.drop (k + 1) := by
    rw [List.drop_eq_getElem_cons hlt]
    rw [List.getElem?_eq_getElem hlt] at hf
    rw [Option.some.inj hf]
  refine ⟨rows.take k, f, rows.drop (k + 1), ?_, hd, e, fun p hp z => ?_⟩
  · rw [← hd, List.take_append_drop]
  · obtain ⟨i, hi, rfl⟩ := List.getElem_of_mem hp
    have : k + 1 + i ∈ spots best rows := spots_iff.mpr ⟨_, by
      rw [← List.getElem?_drop, List.getElem?_eq_getElem hi], z⟩
    have := hx _ this
    omega
/-! ### forward -/
def Cv : List P2 → Prop
  | p :: q :: r => p.1 < q.1 ∧ q.2 < p.2 ∧ (∀ s r', r = s :: r' → sl q s < sl p q) ∧ Cv (q :: r)
  | _ => True
def BelF : List P2 → P2 → Prop
  | p :: q :: r, g => bel p q g ∧ BelF (q :: r) g
  | _, _ => True
def YD : List P2 → Prop
  | f :: g :: r => f.2 < g.2 ∧ YD (g :: r)
  | _ => True
theorem rev_cv : ∀ (r : List P2) (f : P2) (acc : List P2), RC (f :: r) → YD (f :: r) → Cv (f :: acc) → (∀ s a', acc = s :: a' → ∀ g r', r = g :: r' → sl f s < sl g f) → Cv ((f :: r).reverse ++ acc)
  | [], f, acc, _, _, c, _ => c
  | g :: r, f, acc, h, y, c, j => by
    rw [List.reverse_cons, List.append_assoc]
    exact rev_cv r g (f :: acc) h.2.2 y.2 ⟨h.1, y.1, fun s r' z => j s r' z g r rfl, c⟩ fun s a' z h' r' z' => by
      cases z
      exact h.2.1 h' r' z'
theorem rev_bel {p : P2} : ∀ (r : List P2) (f : P2) (acc : List P2), BelA (f :: r) p → BelF (f :: acc) p → BelF ((f :: r).reverse ++ acc) p
  | [], f, acc, _, c => c
  | g :: r, f, acc, h, c => by
    rw [List.reverse_cons, List.append_assoc]
    exact rev_bel r g (f :: acc) h.2 ⟨h.1, c⟩
theorem lastP_snoc {f : P2} : ∀ (u : List P2) (x : P2), lastP x (u ++ [f]) = f
  | [], x => rfl
  | y :: u, x => lastP_snoc u y
theorem rev_ends (f : P2) (r : List P2) : ∃ r0, (f :: r).reverse = lastP f r :: r0 ∧ lastP (lastP f r) r0 = f := by
  obtain ⟨l, h⟩ := lastP_eq f r
  refine ⟨l.reverse, ?_, ?_⟩
  · rw [h, List.reverse_append]
    rfl
  · cases l with
    | nil =>
      rw [List.nil_append] at h
      injection h with h1 h2
      exact h1.symm
    | cons a l =>
      rw [List.cons_append] at h
      injection h with h1 h2
      rw [← h1, List.reverse_cons]
      exact lastP_snoc _ _
theorem sl_neg {a b : P2} (h : a.1 < b.1) (h2 : b.2 < a.2) : sl a b < 0 := by
  have := sl_mul h
  apply Classical.byContradiction
  intro q
  have := mul_nn (a := sl a b) (b := b.1 - a.1) (by grind) (by grind)
  grind
theorem BelF_mono {f g : P2} (h1 : g.1 ≤ f.1) (h2 : g.2 ≤ f.2) : ∀ (rows : List P2), Cv rows → BelF rows f → BelF rows g
  | [], _, _ => trivial
  | [_], _, _ => trivial
  | p :: q :: r, c, b => by
    refine ⟨?_, BelF_mono h1 h2 (q :: r) c.2.2.2 b.2⟩
    have := b.1
    have s := sl_neg c.1 c.2.1
    unfold bel at *
    have := mul_nn (a := - sl p q) (b := f.1 - g.1) (by grind) (by grind)
    grind
/-- slopes fall from below -/
theorem rc_yd {b : P2} : ∀ (r : List P2) (f : P2), RC (f :: r) → lastP f r = b → (∀ p ∈ f :: r, p.1 ≠ b.1 → p.2 < b.2) → YD (f :: r) ∧ ∀ g r', r = g :: r' → sl g f < 0
  | [], f, _, _, _ => ⟨trivial, fun _ _ z => nomatch z⟩
  | [g], f, h, hb, hy => by
    have e : g = b := hb
    have := hy f (List.mem_cons_self ..) (by have := h.1; grind)
    rw [← e] at this
    exact ⟨⟨this, trivial⟩, fun g' r' z => by cases z; exact sl_neg h.1 this⟩
  | g :: k :: r, f, h, hb, hy => by
    obtain ⟨h1, h2⟩ := rc_yd (k :: r) g h.2.2 hb (fun p hp => hy p (List.mem_cons_of_mem _ hp))
    have s1 := h2 k r rfl
    have s2 := h.2.1 k r rfl
    have e := sl_mul h.1
    have lt := h.1
    have s3 : sl g f < 0 := by grind
    refine ⟨⟨?_, h1⟩, fun g' r' z => by cases z; exact s3⟩
    have := mul_pp (a := - sl g f) (b := f.1 - g.1) (by grind) (by grind)
    grind
structure Hl (G : List P2) (p : P2) (r : List P2) : Prop where
  cv : Cv (p :: r)
  top : ∀ g ∈ G, g.2 ≤ p.2
  rgt : ∀ g ∈ G, g.1 ≤ (lastP p r).1
  bel : ∀ g ∈ G, BelF (p :: r) g
  sub : ∀ q ∈ p :: r, q ∈ G
theorem edge_hl {G : List P2} (hG : G ≠ []) : ∃ p r, edge (inOrd G) = p :: r ∧ Hl G p r := by
  obtain ⟨srt, mem⟩ := inOrd_srt G [] List.Pairwise.nil
  have rne : inOrd G ≠ [] := inOrd_ne _ _ (.inl hG)
  have mem : ∀ q, q ∈ inOrd G ↔ q ∈ G := fun q => by
    have := mem q
    show q ∈ G.foldl insO [] ↔ q ∈ G
    simpa using this
  have srt : SrtP (inOrd G) := srt
  generalize inOrd G = rows at *
  have hb := most_mem (xs := rows.map Prod.snd) (by simpa using rne)
  have hge : ∀ p ∈ rows, p.2 ≤ most (rows.map Prod.snd) := fun p hp => most_le (List.mem_map_of_mem hp)
  unfold edge
  generalize most (rows.map Prod.snd) = best at *
  obtain ⟨p0, hp0, e0⟩ := List.mem_map.mp hb
  obtain ⟨U, f, T, e1, e2, e3, e4⟩ := last_best ⟨p0, hp0, e0⟩
  rw [e2]
  rw [e1] at srt
  have fT : ∀ p ∈ f :: T, p ∈ rows := fun p hp => by rw [e1]; exact List.mem_append_right _ hp
  obtain ⟨sU, sT, sUT⟩ := List.pairwise_append.mp srt
  rw [List.pairwise_cons] at sT
  have hT : ∀ p ∈ T, f.1 < p.1 ∧ p.2 < f.2 := fun p hp => by
    have h1 := hge p (fT p (List.mem_cons_of_mem _ hp))
    have h2 := e4 p hp
    have h3 := lt2_iff.mp (sT.1 p hp)
    grind
  obtain ⟨f', r', h1, h2, h3⟩ := fold_inv T [f] f [] ⟨trivial, fun p hp => trivial, fun p hp => by rw [List.mem_singleton] at hp; subst hp; grind, fun p hp => by rw [List.mem_singleton] at hp; subst hp; show p.1 ≤ p.1; grind, fun p hp => hp⟩ (fun p hp => (hT p hp).1) (fun p hp q hq => by rw [List.mem_singleton] at hp; subst hp; exact sT.1 q hq) sT.2
  have h1' : (f :: T).foldl push [] = f' :: r' := h1
  rw [h1']
  have h3 : lastP f' r' = f := h3
  obtain ⟨r0, k1, k2⟩ := rev_ends f' r'
  rw [h3] at k1 k2
  have yd := (rc_yd r' f' h2.rc h3 fun p hp hx => by
    have := h2.sub p hp
    rw [List.singleton_append, List.mem_cons] at this
    rcases this with rfl | this
    · exact absurd rfl hx
    · exact (hT p this).2).1
  have cv : Cv (f :: r0) := by
    have := rev_cv r' f' [] h2.rc yd trivial (fun _ _ z => nomatch z)
    rw [List.append_nil, k1] at this
    exact this
  have bl : ∀ g ∈ f :: T, BelF (f :: r0) g := fun g hg => by
    have := rev_bel r' f' [] (h2.be g (by rw [List.singleton_append]; exact hg)) trivial
    rw [List.append_nil, k1] at this
    exact this
  have cut : ∀ g ∈ G, (g.1 ≤ f.1 ∧ g.2 ≤ f.2) ∨ g ∈ f :: T := fun g hg => by
    have h := (mem g).mpr hg
    have hy := hge g h
    rw [e1, List.mem_append] at h
    rcases h with h | h
    · have := lt2_iff.mp (sUT g h f (List.mem_cons_self ..))
      exact .inl (by grind)
    · exact .inr h
  have ff : f.1 ≤ f'.1 := by
    have := lastP_lt f' r' h2.rc
    rw [h3] at this
    exact this
  refine ⟨f, r0, k1, cv, fun g hg => ?_, fun g hg => ?_, fun g hg => ?_, fun q hq => ?_⟩
  · have := hge g ((mem g).mpr hg)
    grind
  · rw [k2]
    rcases cut g hg with h | h
    · grind
    · exact (h2.hi g (by rw [List.singleton_append]; exact h)).1
  · rcases cut g hg with h | h
    · exact BelF_mono h.1 h.2 _ cv (bl f (List.mem_cons_self ..))
    · exact bl g h
  · rw [← k1, List.mem_reverse] at hq
    have := h2.sub q hq
    rw [List.singleton_append] at this
    exact (mem q).mp (fT q this)
end Ev
/-! HullC: the greatest gain of the other side, what is in a lot, by the outer edge. -/
namespace Ev
open PySem
section
variable {G : List P2} {p : P2} {r : List P2} {t y v : Rat}
theorem seg_sl {a b : P2} (h : a.1 < b.1) : seg t a b = a.2 + sl a b * (t - a.1) := by
  unfold seg sl
  have : b.1 - a.1 ≠ 0 := by grind
  grind
theorem segs_att : ∀ (p : P2) (r : List P2), Cv (p :: r) → p.1 < t → t ≤ (lastP p r).1 → ∃ a b, segs t p r = some (seg t a b) ∧ a ∈ p :: r ∧ b ∈ p :: r ∧ a.1 < t ∧ t ≤ b.1 ∧ a.1 < b.1 ∧ b.2 < a.2 ∧ ∀ g, BelF (p :: r) g → bel a b g
  | p, [], _, h1, h2 => absurd h1 (by have : t ≤ p.1 := h2; grind)
  | p, q :: r, c, h1, h2 => by
    rw [segs]
    by_cases hq : t ≤ q.1
    · rw [if_pos hq]
      exact ⟨p, q, rfl, List.mem_cons_self .., List.mem_cons_of_mem _ (List.mem_cons_self ..), h1, hq, c.1, c.2.1, fun g h => h.1⟩
    · rw [if_neg hq]
      obtain ⟨a, b, e, ha, hb, k1, k2, k3, k4, k5⟩ := segs_att q r c.2.2.2 (by grind) h2
      exact ⟨a, b, e, List.mem_cons_of_mem _ ha, List.mem_cons_of_mem _ hb, k1, k2, k3, k4, fun g h => k5 g h.2⟩
theorem upX_cv : ∀ (p : P2) (r : List P2), Cv (p :: r) → upX p r
  | p, [], _ => trivial
  | p, q :: r, c => ⟨c.1, upX_cv q r c.2.2.2⟩
theorem last_ge : ∀ (p : P2) (r : List P2), Cv (p :: r) → ∀ q ∈ p :: r, q.1 ≤ (lastP p r).1 ∧ q.2 ≤ p.2 ∧ p.1 ≤ q.1 ∧ (lastP p r).2 ≤ q.2
  | p, [], _, q, h => by
    rw [List.mem_singleton] at h
    subst h
    show q.1 ≤ q.1 ∧ q.2 ≤ q.2 ∧ q.1 ≤ q.1 ∧ q.2 ≤ q.2
    grind
  | p, s :: r, c, q, h => by
    rw [List.mem_cons] at h
    have k := last_ge s r c.2.2.2
    have c1 := c.1
    have c2 := c.2.1
    show q.1 ≤ (lastP s r).1 ∧ q.2 ≤ p.2 ∧ p.1 ≤ q.1 ∧ (lastP s r).2 ≤ q.2
    rcases h with rfl | h
    · have := k s (List.mem_cons_self ..)
      grind
    · have := k q h
      grind
/-- what the outer edge bounds -/
structure Reg (p : P2) (r : List P2) (g : P2) : Prop where
  x : g.1 ≤ (lastP p r).1
  y : g.2 ≤ p.2
  b : BelF (p :: r) g
theorem BelF_mix {g h : P2} {w : Rat} (w0 : 0 ≤ w) (w1 : w ≤ 1) : ∀ (rows : List P2), BelF rows g → BelF rows h → BelF rows (mix g h w)
  | [], _, _ => trivial
  | [_], _, _ => trivial
  | p :: q :: r, b1, b2 => by
    refine ⟨?_, BelF_mix w0 w1 (q :: r) b1.2 b2.2⟩
    have k1 := b1.1
    have k2 := b2.1
    unfold bel mix at *
    have t1 := mul_nn (a := w) (b := p.2 + sl p q * (h.1 - p.1) - h.2) w0 (by grind)
    have t2 := mul_nn (a := 1 - w) (b := p.2 + sl p q * (g.1 - p.1) - g.2) (by grind) (by grind)
    show g.2 + w * (h.2 - g.2) ≤ p.2 + sl p q * (g.1 + w * (h.1 - g.1) - p.1)
    grind
theorem mix_le {a b c w : Rat} (w0 : 0 ≤ w) (w1 : w ≤ 1) (h1 : a ≤ c) (h2 : b ≤ c) : a + w * (b - a) ≤ c := by
  have t1 := mul_nn (a := w) (b := c - b) w0 (by grind)
  have t2 := mul_nn (a := 1 - w) (b := c - a) (by grind) (by grind)
  grind
theorem Reg.mix {g h : P2} {w : Rat} (w0 : 0 ≤ w) (w1 : w ≤ 1) (k1 : Reg p r g) (k2 : Reg p r h) : Reg p r (mix g h w) :=
  ⟨mix_le w0 w1 k1.x k2.x, mix_le w0 w1 k1.y k2.y, BelF_mix w0 w1 _ k1.b k2.b⟩
theorem Reg.mono {g h : P2} (c : Cv (p :: r)) (k : Reg p r g) (h1 : h.1 ≤ g.1) (h2 : h.2 ≤ g.2) : Reg p r h := by
  have := k.x
  have := k.y
  exact ⟨by grind, by grind, BelF_mono h1 h2 _ c k.b⟩
theorem Hl.reg (h : Hl G p r) {g : P2} (hg : g ∈ G) : Reg p r g := ⟨h.rgt g hg, h.top g hg, h.bel g hg⟩
/-- the other's most is reached by a corner, or between two -/
theorem oa_some (c : Cv (p :: r)) (h : t ≤ (lastP p r).1) : ∃ v, otherAt (p :: r) t = some v ∧ ((t ≤ p.1 ∧ v = p.2) ∨ ∃ a b, v = seg t a b ∧ a ∈ p :: r ∧ b ∈ p :: r ∧ a.1 < t ∧ t ≤ b.1 ∧ a.1 < b.1 ∧ b.2 < a.2 ∧ ∀ g, BelF (p :: r) g → bel a b g) := by
  rw [otherAt_cons, if_neg (by grind)]
  by_cases q : t ≤ p.1
  · rw [if_pos q]
    exact ⟨_, rfl, .inl ⟨q, rfl⟩⟩
  · rw [if_neg q]
    obtain ⟨a, b, e, k⟩ := segs_att p r c (by grind) h
    rw [e]
    exact ⟨_, rfl, .inr ⟨a, b, rfl, k⟩⟩
theorem seg_mix {a b : P2} (h : a.1 < b.1) : (t, seg t a b) = mix a b ((t - a.1) / (b.1 - a.1)) := by
  have h0 : b.1 - a.1 ≠ 0 := by grind
  unfold seg mix
  refine Prod.ext ?_ rfl
  show t = a.1 + (t - a.1) / (b.1 - a.1) * (b.1 - a.1)
  grind
theorem part_01 {a b : P2} (h1 : a.1 ≤ t) (h2 : t ≤ b.1) (h : a.1 < b.1) : 0 ≤ (t - a.1) / (b.1 - a.1) ∧ (t - a.1) / (b.1 - a.1) ≤ 1 := by
  have h0 : b.1 - a.1 ≠ 0 := by grind
  have e : (t - a.1) / (b.1 - a.1) * (b.1 - a.1) = t - a.1 := by grind
  generalize (t - a.1) / (b.1 - a.1) = w at *
  constructor
  · apply Classical.byContradiction
    intro q
    have := mul_pp (a := - w) (b := b.1 - a.1) (by grind) (by grind)
    grind
  · apply Classical.byContradiction
    intro q
    have := mul_pp (a := w - 1) (b := b.1 - a.1) (by grind) (by grind)
    grind
theorem reg_iff (h : Hl G p r) : Reg p r (t, y) ↔ ∃ v, otherAt (p :: r) t = some v ∧ y ≤ v := by
  constructor
  · intro k
    obtain ⟨v, e, q⟩ := oa_some (t := t) h.cv k.x
    refine ⟨v, e, ?_⟩
    rcases q with ⟨_, rfl⟩ | ⟨a, b, rfl, _, _, _, _, h1, _, h2⟩
    · exact k.y
    · have := h2 _ k.b
      rw [seg_sl h1]
      exact this
  · rintro ⟨v, e, q⟩
    have hx : t ≤ (lastP p r).1 := by
      rw [otherAt_cons] at e
      by_cases w : (lastP p r).1 < t
      · rw [if_pos w] at e
        cases e
      · grind
    obtain ⟨v', e', k⟩ := oa_some (t := t) h.cv hx
    rw [e] at e'
    cases e'
    have hr : Reg p r (t, v) := by
      rcases k with ⟨h1, rfl⟩ | ⟨a, b, rfl, ha, hb, k1, k2, h1, _, _⟩
      · exact (h.reg (h.sub p (List.mem_cons_self ..))).mono h.cv h1 (by show p.2 ≤ p.2; grind)
      · rw [seg_mix h1]
        obtain ⟨w0, w1⟩ := part_01 (a := a) (b := b) (t := t) (by grind) k2 h1
        exact (h.reg (h.sub a ha)).mix w0 w1 (h.reg (h.sub b hb))
    exact hr.mono h.cv (by show t ≤ t; grind) q
theorem oa_none (c : Cv (p :: r)) : otherAt (p :: r) t = none ↔ (lastP p r).1 < t := by
  constructor
  · intro e
    apply Classical.byContradiction
    intro q
    obtain ⟨v, e', _⟩ := oa_some (t := t) c (by grind)
    rw [e] at e'
    cases e'
  · intro q
    rw [otherAt_cons, if_pos q]
/-- a point that the edge bounds lies under a corner, or under two -/
theorem Reg.under (h : Hl G p r) {g : P2} (k : Reg p r g) : (∃ a ∈ p :: r, g.1 ≤ a.1 ∧ g.2 ≤ a.2) ∨ ∃ a b, a ∈ p :: r ∧ b ∈ p :: r ∧ a.1 < g.1 ∧ g.1 < b.1 ∧ g.2 ≤ seg g.1 a b := by
  obtain ⟨v, e, q⟩ := (reg_iff (t := g.1) (y := g.2) h).mp k
  obtain ⟨v', e', k'⟩ := oa_some (t := g.1) h.cv k.x
  rw [e] at e'
  cases e'
  rcases k' with ⟨h1, rfl⟩ | ⟨a, b, rfl, ha, hb, k1, k2, h1, _, _⟩
  · exact .inl ⟨p, List.mem_cons_self .., h1, q⟩
  · by_cases hb' : g.1 = b.1
    · refine .inl ⟨b, hb, by grind, ?_⟩
      have e2 : seg g.1 a b = b.2 := by
        rw [seg_sl h1, hb']
        have := sl_mul h1
        grind
      rw [e2] at q
      exact q
    · exact .inr ⟨a, b, ha, hb, k1, by grind, q⟩
/-- what lies over all of some points' sums bounds what they do -/
theorem seg_le {a b : P2} {m c : Rat} (h : a.1 < b.1) (h1 : a.1 ≤ t) (h2 : t ≤ b.1) (ha : a.2 ≤ m * a.1 + c) (hb : b.2 ≤ m * b.1 + c) : seg t a b ≤ m * t + c := by
  obtain ⟨w0, w1⟩ := part_01 h1 h2 h
  have e := seg_mix (t := t) h
  unfold mix at e
  have e1 := (Prod.mk.inj e).1
  have e2 := (Prod.mk.inj e).2
  generalize (t - a.1) / (b.1 - a.1) = w at *
  rw [e2]
  have t3 : m * t = m * (a.1 + w * (b.1 - a.1)) := congrArg (m * ·) e1
  rw [t3]
  clear e e1 e2 t3
  have t1 := mul_nn (a := w) (b := m * b.1 + c - b.2) w0 (by grind)
  have t2 := mul_nn (a := 1 - w) (b := m * a.1 + c - a.2) (by grind) (by grind)
  grind
end
end Ev
/-! HullD: lots and their outer edges. -/
namespace Ev
open PySem
section
variable {G cs : List P2} {p kp q : P2} {r : List P2} {t y v : Rat} {m : Nat}
theorem sub_add (c k : P2) : add2 (sub2 c k) k = c := by
  unfold add2 sub2
  refine Prod.ext ?_ ?_
  · show c.1 - k.1 + k.1 = c.1; grind
  · show c.2 - k.2 + k.2 = c.2; grind
theorem add_sub (c k : P2) : sub2 (add2 c k) k = c := by
  unfold add2 sub2
  refine Prod.ext ?_ ?_
  · show c.1 + k.1 - k.1 = c.1; grind
  · show c.2 + k.2 - k.2 = c.2; grind
theorem lot_hl (h : Lot m cs kp) : ∃ p r, outer cs kp = p :: r ∧ Hl (gns cs kp) p r := by
  refine edge_hl fun z => ?_
  have gl : (gns cs kp).length = cs.length := gns_len
  rw [z] at gl
  have := h.len
  simp at gl
  omega
theorem lot_up (h : Lot m cs kp) : UpX (outer cs kp) := by
  obtain ⟨p, r, e, hl⟩ := lot_hl h
  rw [e]
  exact upX_cv p r hl.cv
theorem isIn_iff {x : P2} (e : outer cs kp = p :: r) (h : Hl (gns cs kp) p r) : isIn cs kp x = true ↔ 0 ≤ x.1 - kp.1 ∧ 0 ≤ x.2 - kp.2 ∧ Reg p r (sub2 x kp) := by
  have k := reg_iff (t := x.1 - kp.1) (y := x.2 - kp.2) h
  unfold isIn
  rw [e]
  have k : Reg p r (sub2 x kp) ↔ ∃ v, otherAt (p :: r) (x.1 - kp.1) = some v ∧ x.2 - kp.2 ≤ v := k
  rw [k]
  cases hv : otherAt (p :: r) (x.1 - kp.1) with
  | none => simp
  | some w =>
    simp only [Option.some.injEq]
    simp
    grind
theorem Lot.all {c : P2} (h : Lot m cs kp) (hc : c ∈ cs) : kp.1 ≤ c.1 ∧ kp.2 ≤ c.2 := by
  have := h.b
  unfold isLotB at this
  simp only [Bool.and_eq_true, List.all_eq_true, decide_eq_true_eq] at this
  exact this.2.1 c hc
theorem Lot.any (h : Lot m cs kp) : (∃ c ∈ cs, kp.1 < c.1) ∧ ∃ c ∈ cs, kp.2 < c.2 := by
  have := h.b
  unfold isLotB at this
  simp only [Bool.and_eq_true, List.any_eq_true, decide_eq_true_eq] at this
  exact this.2.2
theorem gns_mem {c : P2} (hc : c ∈ cs) : sub2 c kp ∈ gns cs kp := List.mem_map_of_mem hc
theorem gns_nn (h : Lot m cs kp) {g : P2} (hg : g ∈ gns cs kp) : 0 ≤ g.1 ∧ 0 ≤ g.2 := by
  obtain ⟨c, hc, rfl⟩ := List.mem_map.mp hg
  have := h.all hc
  unfold sub2
  show 0 ≤ c.1 - kp.1 ∧ 0 ≤ c.2 - kp.2
  grind
/-- corners are in -/
theorem in_corner {c : P2} (h : Lot m cs kp) (hc : c ∈ cs) : isIn cs kp c = true := by
  obtain ⟨p, r, e, hl⟩ := lot_hl h
  rw [isIn_iff e hl]
  have := gns_nn h (gns_mem hc)
  exact ⟨this.1, this.2, hl.reg (gns_mem hc)⟩
theorem in_mix {a b : P2} {w : Rat} (h : Lot m cs kp) (w0 : 0 ≤ w) (w1 : w ≤ 1) (ha : isIn cs kp a = true) (hb : isIn cs kp b = true) : isIn cs kp (mix a b w) = true := by
  obtain ⟨p, r, e, hl⟩ := lot_hl h
  rw [isIn_iff e hl] at *
  have e2 : sub2 (mix a b w) kp = mix (sub2 a kp) (sub2 b kp) w := by
    unfold sub2 mix
    refine Prod.ext ?_ ?_
    · show a.1 + w * (b.1 - a.1) - kp.1 = a.1 - kp.1 + w * (b.1 - kp.1 - (a.1 - kp.1)); grind
    · show a.2 + w * (b.2 - a.2) - kp.2 = a.2 - kp.2 + w * (b.2 - kp.2 - (a.2 - kp.2)); grind
  rw [e2]
  refine ⟨?_, ?_, ha.2.2.mix w0 w1 hb.2.2⟩
  · show 0 ≤ a.1 + w * (b.1 - a.1) - kp.1
    have t1 := mul_nn (a := w) (b := b.1 - kp.1) w0 hb.1
    have t2 := mul_nn (a := 1 - w) (b := a.1 - kp.1) (by grind) ha.1
    grind
  · show 0 ≤ a.2 + w * (b.2 - a.2) - kp.2
    have t1 := mul_nn (a := w) (b := b.2 - kp.2) w0 hb.2.1
    have t2 := mul_nn (a := 1 - w) (b := a.2 - kp.2) (by grind) ha.2.1
    grind
theorem in_keep (h : Lot m cs kp) : isIn cs kp kp = true := by
  obtain ⟨p, r, e, hl⟩ := lot_hl h
  rw [isIn_iff e hl]
  obtain ⟨⟨c, hc, _⟩, _⟩ := h.any
  have := gns_nn h (gns_mem hc)
  refine ⟨by grind, by grind, (hl.reg (gns_mem hc)).mono hl.cv ?_ ?_⟩
  · show kp.1 - kp.1 ≤ _; grind
  · show kp.2 - kp.2 ≤ _; grind
/-! ### the outer edge of an outer edge -/
theorem Cv.app : ∀ (u : List P2) {w : List P2}, Cv (u ++ w) → Cv w
  | [], _, h => h
  | [a], w, h => by
    cases w with
    | nil => trivial
    | cons b w => exact h.2.2.2
  | a :: b :: u, w, h => Cv.app (b :: u) h.2.2.2
theorem cv_pair : ∀ (rows : List P2), Cv rows → rows.Pairwise (fun a b => a.1 < b.1 ∧ b.2 < a.2)
  | [], _ => List.Pairwise.nil
  | [a], _ => List.pairwise_singleton _ _
  | a :: b :: l, h => by
    have ih := cv_pair (b :: l) h.2.2.2
    refine List.pairwise_cons.mpr ⟨fun c hc => ?_, ih⟩
    have h1 := h.1
    have h2 := h.2.1
    rw [List.mem_cons] at hc
    rcases hc with rfl | hc
    · exact ⟨h1, h2⟩
    · have := (List.pairwise_cons.mp ih).1 c hc
      grind
theorem lt2_irr {a : P2} : lt2 a a = false := by
  cases q : lt2 a a with
  | false => rfl
  | true =>
    rw [lt2_iff] at q
    grind
theorem inOrd_id : ∀ (T F : List P2), SrtP (F ++ T) → T.foldl insO F = F ++ T
  | [], F, _ => by simp
  | a :: T, F, h => by
    have hF : ∀ b ∈ F, lt2 b a = true := fun b hb => (List.pairwise_append.mp h).2.2 b hb a (List.mem_cons_self ..)
    have hn : a ∉ F := fun z => by
      have := hF a z
      rw [lt2_irr] at this
      cases this
    have e : insO F a = F ++ [a] := by
      unfold insO
      rw [if_neg hn, List.filter_eq_self.mpr hF]
      unfold insAt
      simp
    rw [List.foldl_cons, e, inOrd_id T (F ++ [a]) (by rw [List.append_assoc]; exact h), List.append_assoc]
    rfl
theorem push_id {f a : P2} {l T : List P2} (h : Cv ((f :: l).reverse ++ a :: T)) : push (f :: l) a = a :: f :: l := by
  unfold push
  have hf : f.1 < a.1 := by
    rw [List.reverse_cons, List.append_assoc] at h
    exact (Cv.app _ h).1
  rw [pop1, if_neg (fun z => by grind)]
  cases l with
  | nil => rfl
  | cons g l =>
    rw [List.reverse_cons, List.reverse_cons, List.append_assoc, List.append_assoc] at h
    have h := Cv.app _ h
    have h : Cv (g :: f :: a :: T) := h
    rw [pop2, (turns_iff h.1 hf).mpr (h.2.2.1 a T rfl)]
    rfl
theorem fold_id : ∀ (T l : List P2) (f : P2), Cv ((f :: l).reverse ++ T) → T.foldl push (f :: l) = T.reverse ++ f :: l
  | [], l, f, _ => rfl
  | a :: T, l, f, h => by
    rw [List.foldl_cons, push_id h, fold_id T (f :: l) a (by rw [List.reverse_cons, List.append_assoc]; exact h), List.reverse_cons, List.append_assoc]
    rfl
theorem edge_id (c : Cv (p :: r)) : edge (inOrd (p :: r)) = p :: r := by
  have pw := cv_pair _ c
  have srt : SrtP (p :: r) := pw.imp fun {a b} h => lt2_iff.mpr (.inl h.1)
  have e1 : inOrd (p :: r) = p :: r := inOrd_id (p :: r) [] srt
  rw [e1]
  have pr := (List.pairwise_cons.mp pw).1
  have e2 : most ((p :: r).map Prod.snd) = p.2 := by
    have h1 : p.2 ≤ most ((p :: r).map Prod.snd) := most_le (List.mem_map_of_mem (List.mem_cons_self ..))
    obtain ⟨a, ha, e⟩ := List.mem_map.mp (most_mem (xs := (p :: r).map Prod.snd) (by simp))
    rw [List.mem_cons] at ha
    rcases ha with rfl | ha
    · exact e.symm
    · have := (pr a ha).2
      grind
  have e3 : lastIx p.2 (p :: r) = 0 := by
    obtain ⟨h1, _, _⟩ := foldl_max (spots p.2 (p :: r)) 0
    unfold lastIx
    rcases h1 with h1 | h1
    · exact h1
    · obtain ⟨a, ha, e⟩ := spots_iff.mp h1
      generalize (spots p.2 (p :: r)).foldl max 0 = j at *
      cases j with
      | zero => rfl
      | succ j =>
        rw [List.getElem?_cons_succ] at ha
        have := (pr a (List.mem_of_getElem? ha)).2
        grind
  unfold edge
  rw [e2, e3, List.drop_zero]
  show (r.foldl push [p]).reverse = p :: r
  rw [fold_id r [] p c, List.reverse_append, List.reverse_reverse]
  rfl
theorem gns_outerC : gns (outerC cs kp) kp = outer cs kp := by
  unfold gns outerC
  rw [List.map_map]
  have : (fun c => sub2 c kp) ∘ (fun g => add2 g kp) = id := funext fun g => add_sub g kp
  rw [this, List.map_id]
theorem outer_outerC (h : Lot m cs kp) : outer (outerC cs kp) kp = outer cs kp := by
  obtain ⟨p, r, e, hl⟩ := lot_hl h
  show edge (inOrd (gns (outerC cs kp) kp)) = _
  rw [gns_outerC, e]
  exact edge_id hl.cv
theorem outerC_sub (h : Lot m cs kp) : ∀ c ∈ outerC cs kp, c ∈ cs := fun c hc => by
  obtain ⟨p, r, e, hl⟩ := lot_hl h
  obtain ⟨g, hg, rfl⟩ := List.mem_map.mp hc
  rw [e] at hg
  obtain ⟨c', hc', rfl⟩ := List.mem_map.mp (hl.sub g hg)
  show add2 (sub2 c' kp) kp ∈ cs
  rw [sub_add]
  exact hc'
theorem lot_outer (h : Lot m cs kp) : Lot m (outerC cs kp) kp := by
  obtain ⟨p, r, e, hl⟩ := lot_hl h
  have sb := outerC_sub h
  refine ⟨fun c hc => h.c c (sb c hc), h.k, ?_, h.l⟩
  have ol := outer_len h
  have l1 : (outerC cs kp).length = (outer cs kp).length := List.length_map _
  have l2 : 1 ≤ (outer cs kp).length := by rw [e, List.length_cons]; omega
  obtain ⟨⟨c1, h1, k1⟩, ⟨c2, h2, k2⟩⟩ := h.any
  unfold isLotB lenB
  simp only [Bool.and_eq_true, decide_eq_true_eq, List.all_eq_true, List.any_eq_true]
  refine ⟨⟨by omega, by omega⟩, fun c hc => h.all (sb c hc), ⟨add2 (lastP p r) kp, List.mem_map_of_mem (by rw [e]; exact lastP_mem p r), ?_⟩, ⟨add2 p kp, List.mem_map_of_mem (by rw [e]; exact List.mem_cons_self ..), ?_⟩⟩
  · have : (sub2 c1 kp).1 ≤ (lastP p r).1 := hl.rgt _ (gns_mem h1)
    have : c1.1 - kp.1 ≤ (lastP p r).1 := this
    show kp.1 < (lastP p r).1 + kp.1
    grind
  · have : (sub2 c2 kp).2 ≤ p.2 := hl.top _ (gns_mem h2)
    have : c2.2 - kp.2 ≤ p.2 := this
    show kp.2 < p.2 + kp.2
    grind
theorem isIn_outer (h : Lot m cs kp) {x : P2} : isIn (outerC cs kp) kp x = isIn cs kp x := by
  unfold isIn
  rw [outer_outerC h]
theorem same_outer (h : Lot m cs kp) : within cs kp (outerC cs kp) kp = true ∧ within (outerC cs kp) kp cs kp = true := by
  unfold within
  simp only [Bool.and_eq_true, decide_eq_true_eq, List.all_eq_true]
  refine ⟨⟨trivial, fun c hc => ?_⟩, trivial, fun c hc => in_corner h (outerC_sub h c hc)⟩
  rw [isIn_outer h]
  exact in_corner h hc
theorem outerC_outerC (h : Lot m cs kp) : outerC (outerC cs kp) kp = outerC cs kp := by
  show (outer (outerC cs kp) kp).map _ = _
  rw [outer_outerC h]
  rfl
/-! ### each of the outer edge is needed -/
theorem right_bel : ∀ (l : List P2) (a b : P2), Cv (a :: b :: l) → ∀ q ∈ b :: l, bel a b q
  | [], a, b, h, q, hq => by
    rw [List.mem_singleton] at hq
    subst hq
    have := sl_mul h.1
    unfold bel
    grind
  | c :: l, a, b, h, q, hq => by
    rw [List.mem_cons] at hq
    rcases hq with rfl | hq
    · have := sl_mul h.1
      unfold bel
      grind
    · have ih := right_bel l b c h.2.2.2 q hq
      have h2 := (List.pairwise_cons.mp (cv_pair _ h.2.2.2)).1 q hq
      exact bel_right h.1 h.2.2.2.1 (h.2.2.1 c l rfl) (by grind) ih
theorem left_lt {g w : P2} {l : List P2} : ∀ (u : List P2), Cv (u ++ g :: w :: l) → ∀ a ∈ u, a.2 < g.2 + sl g w * (a.1 - g.1)
  | [], _, a, ha => nomatch ha
  | [b], h, a, ha => by
    rw [List.mem_singleton] at ha
    subst ha
    have h : Cv (a :: g :: w :: l) := h
    have h1 := h.1
    have h2 := h.2.2.1 w l rfl
    have e := sl_mul h1
    have := mul_pp (a := sl a g - sl g w) (b := g.1 - a.1) (by grind) (by grind)
    grind
  | b :: n :: u, h, a, ha => by
    rw [List.mem_cons] at ha
    have h : Cv (b :: n :: (u ++ g :: w :: l)) := h
    have ih := left_lt (n :: u) h.2.2.2
    rcases ha with rfl | ha
    · have h1 := h.1
      have e := sl_mul h1
      have k1 := ih n (List.mem_cons_self ..)
      have k2 := right_bel _ _ _ h g (by simp)
      have k3 := ((List.pairwise_cons.mp (cv_pair _ h.2.2.2)).1 g (by simp)).1
      rw [bel_b h1] at k2
      have k4 : sl g w < sl a n := by
        apply Classical.byContradiction
        intro q
        have := mul_nn (a := sl g w - sl a n) (b := g.1 - n.1) (by grind) (by grind)
        grind
      have := mul_pp (a := sl a n - sl g w) (b := n.1 - a.1) (by grind) (by grind)
      grind
    · exact ih a ha
theorem seg_lt {a b : P2} {m c : Rat} (h1 : a.1 < t) (h2 : t < b.1) (ha : a.2 < m * a.1 + c) (hb : b.2 ≤ m * b.1 + c) : seg t a b < m * t + c := by
  have h : a.1 < b.1 := by grind
  obtain ⟨w0, w1⟩ := part_01 (t := t) (a := a) (b := b) (by grind) (by grind) h
  have e := seg_mix (t := t) h
  unfold mix at e
  have e1 := (Prod.mk.inj e).1
  have e2 := (Prod.mk.inj e).2
  generalize (t - a.1) / (b.1 - a.1) = w at *
  have w2 : w < 1 := by
    apply Classical.byContradiction
    intro q
    have : w = 1 := by grind
    subst this
    grind
  rw [e2]
  have t3 : m * t = m * (a.1 + w * (b.1 - a.1)) := congrArg (m * ·) e1
  rw [t3]
  clear e e1 e2 t3
  have t1 := mul_nn (a := w) (b := m * b.1 + c - b.2) w0 (by grind)
  have t2 := mul_pp (a := 1 - w) (b := m * a.1 + c - a.2) (by grind) (by grind)
  grind
theorem needed {u v : List P2} {g p' : P2} {r' : List P2} (c : Cv (u ++ g :: v)) (h : Hl (u ++ v) p' r') : ¬ Reg p' r' g := by
  intro k
  have pw := cv_pair _ c
  obtain ⟨_, p2, p3⟩ := List.pairwise_append.mp pw
  have p2 := List.pairwise_cons.mp p2
  rcases k.under h with ⟨a, ha, h1, h2⟩ | ⟨a, b, ha, hb, h1, h2, h3⟩
  · have := h.sub a ha
    rw [List.mem_append] at this
    rcases this with z | z
    · have := p3 a z g (List.mem_cons_self ..)
      grind
    · have := p2.1 a z
      grind
  · have ua : a ∈ u := by
      have := h.sub a ha
      rw [List.mem_append] at this
      rcases this with z | z
      · exact z
      · have := p2.1 a z
        grind
    have vb : b ∈ v := by
      have := h.sub b hb
      rw [List.mem_append] at this
      rcases this with z | z
      · have := p3 b z g (List.mem_cons_self ..)
        grind
      · exact z
    cases v with
    | nil => cases vb
    | cons w l =>
      have k1 := left_lt u c a ua
      have k2 := right_bel _ _ _ (Cv.app _ c) b vb
      unfold bel at k2
      have := seg_lt (m := sl g w) (c := g.2 - sl g w * g.1) h1 h2 (by grind) (by grind)
      grind
end
end Ev
/-! HullE: one outer edge alone; sides exchanged. -/
namespace Ev
open PySem
section
variable {G : List P2} {p p' : P2} {r r' : List P2} {t y v : Rat}
theorem BelF.app {a : P2} : ∀ (u : List P2) {w : List P2}, BelF (u ++ w) a → BelF w a
  | [], _, h => h
  | [b], w, h => by
    cases w with
    | nil => trivial
    | cons c w => exact h.2
  | b :: c :: u, w, h => BelF.app (c :: u) h.2
theorem at_mem {g : P2} {l : List P2} (h : g ∈ l) : ∃ u v, l = u ++ g :: v := List.append_of_mem h
theorem last_app (g : P2) : ∀ (u : List P2) (p : P2) (r : List P2), p :: r = u ++ [g] → lastP p r = g
  | [], p, r, h => by
    rw [List.nil_append] at h
    cases h
    rfl
  | [a], p, r, h => by
    cases h
    rfl
  | a :: b :: u, p, r, h => by
    cases h
    exact last_app g (b :: u) b (u ++ [g]) rfl
theorem snoc_cases (u : List P2) : u = [] ∨ ∃ u' z, u = u' ++ [z] := by
  rcases List.eq_nil_or_concat u with h | ⟨u', z, h⟩
  · exact .inl h
  · exact .inr ⟨u', z, by rw [h, List.concat_eq_append]⟩
/-- none of the outer edge is passed by both sides -/
theorem pareto {g a : P2} (c : Cv (p :: r)) (hg : g ∈ p :: r) (ra : Reg p r a) (h1 : g.1 ≤ a.1) (h2 : g.2 ≤ a.2) : a = g := by
  obtain ⟨u, v, e⟩ := at_mem hg
  have ax := ra.x
  have ay := ra.y
  have ab := ra.b
  rw [e] at ab c
  have key : a.1 = g.1 ∧ a.2 = g.2 := by
    cases v with
    | cons w v =>
      have b := (BelF.app u ab).1
      have k := Cv.app u c
      have s := sl_neg k.1 k.2.1
      unfold bel at b
      have := mul_nn (a := - sl g w) (b := a.1 - g.1) (by grind) (by grind)
      have e2 : a.2 = g.2 := by grind
      refine ⟨?_, e2⟩
      apply Classical.byContradiction
      intro q
      have := mul_pp (a := - sl g w) (b := a.1 - g.1) (by grind) (by grind)
      grind
    | nil =>
      have l := last_app g u p r e
      rw [l] at ax
      have e1 : a.1 = g.1 := by grind
      refine ⟨e1, ?_⟩
      rcases snoc_cases u with rfl | ⟨u', z, rfl⟩
      · cases e
        grind
      · rw [List.append_assoc] at ab c
        have b := (BelF.app u' ab).1
        have k := Cv.app u' c
        have k1 := k.1
        rw [bel_b k1, e1] at b
        grind
  exact Prod.ext key.1 key.2
theorem vertex {g a b : P2} (c : Cv (p :: r)) (hg : g ∈ p :: r) (ra : Reg p r a) (rb : Reg p r b) (h1 : a.1 < g.1) (h2 : g.1 < b.1) : seg g.1 a b < g.2 := by
  obtain ⟨u, v, e⟩ := at_mem hg
  have ab := ra.b
  have bb := rb.b
  have ay := ra.y
  have bx := rb.x
  rw [e] at ab bb c
  cases v with
  | nil =>
    have l := last_app g u p r e
    rw [l] at bx
    grind
  | cons w v =>
    have k := Cv.app u c
    have s := sl_neg k.1 k.2.1
    have b2 := (BelF.app u bb).1
    unfold bel at b2
    have a2 : a.2 < g.2 + sl g w * (a.1 - g.1) := by
      rcases snoc_cases u with rfl | ⟨u', z, rfl⟩
      · cases e
        have := mul_pp (a := - sl p w) (b := p.1 - a.1) (by grind) (by grind)
        grind
      · rw [List.append_assoc] at ab c
        have a1 := (BelF.app u' ab).1
        have k' := Cv.app u' c
        rw [bel_b k'.1] at a1
        have k2 := k'.2.2.1 w v rfl
        have := mul_pp (a := sl z g - sl g w) (b := g.1 - a.1) (by grind) (by grind)
        grind
    have := seg_lt (m := sl g w) (c := g.2 - sl g w * g.1) h1 h2 (by grind) (by grind)
    grind
theorem hl_sub (h : Hl G p r) (h' : Hl G p' r') : ∀ g ∈ p :: r, g ∈ p' :: r' := fun g hg => by
  rcases (h'.reg (h.sub g hg)).under h' with ⟨a, ha, h1, h2⟩ | ⟨a, b, ha, hb, h1, h2, h3⟩
  · have := pareto h.cv hg (h.reg (h'.sub a ha)) h1 h2
    rw [← this]
    exact ha
  · have := vertex h.cv hg (h.reg (h'.sub a ha)) (h.reg (h'.sub b hb)) h1 h2
    grind
theorem sorted_eq : ∀ (l l' : List P2), l.Pairwise (fun a b => a.1 < b.1) → l'.Pairwise (fun a b => a.1 < b.1) → (∀ x, x ∈ l ↔ x ∈ l') → l = l'
  | [], [], _, _, _ => rfl
  | [], b :: l', _, _, h => by have := (h b).mpr (List.mem_cons_self ..); cases this
  | a :: l, [], _, _, h => by have := (h a).mp (List.mem_cons_self ..); cases this
  | a :: l, b :: l', h1, h2, h => by
    have p1 := List.pairwise_cons.mp h1
    have p2 := List.pairwise_cons.mp h2
    have e : a = b := by
      have m1 := (h a).mp (List.mem_cons_self ..)
      have m2 := (h b).mpr (List.mem_cons_self ..)
      rw [List.mem_cons] at m1 m2
      rcases m1 with m1 | m1
      · exact m1
      · rcases m2 with m2 | m2
        · exact m2.symm
        · have := p1.1 b m2
          have := p2.1 a m1
          grind
    subst e
    congr 1
    refine sorted_eq l l' p1.2 p2.2 fun x => ⟨fun hx => ?_, fun hx => ?_⟩
    · have := (h x).mp (List.mem_cons_of_mem _ hx)
      rw [List.mem_cons] at this
      rcases this with rfl | this
      · have := p1.1 x hx
        grind
      · exact this
    · have := (h x).mpr (List.mem_cons_of_mem _ hx)
      rw [List.mem_cons] at this
      rcases this with rfl | this
      · have := p2.1 x hx
        grind
      · exact this
theorem hl_uniq (h : Hl G p r) (h' : Hl G p' r') : p :: r = p' :: r' :=
  sorted_eq _ _ ((cv_pair _ h.cv).imp fun {a b} w => w.1) ((cv_pair _ h'.cv).imp fun {a b} w => w.1) fun x => ⟨hl_sub h h' x, hl_sub h' h x⟩
theorem edge_of (h : Hl G p r) : edge (inOrd G) = p :: r := by
  obtain ⟨p', r', e, h'⟩ := edge_hl (List.ne_nil_of_mem (h.sub p (List.mem_cons_self ..)))
  rw [e]
  exact hl_uniq h' h
/-! ### sides exchanged -/
def sw (p : P2) : P2 := (p.2, p.1)
theorem sl_sw {p q : P2} (h1 : p.1 < q.1) (h2 : q.2 < p.2) : sl (sw q) (sw p) * sl p q = 1 := by
  have e1 := sl_mul h1
  have e2 := sl_mul (a := sw q) (b := sw p) h2
  have e2 : sl (sw q) (sw p) * (p.2 - q.2) = p.1 - q.1 := e2
  have k : (sl (sw q) (sw p) * sl p q - 1) * (q.1 - p.1) = 0 := by grind
  rcases Rat.mul_eq_zero.mp k with z | z <;> grind
theorem inv_lt {x X z Z : Rat} (h1 : X * x = 1) (h2 : Z * z = 1) (hx : x < 0) (hz : z < x) : X < Z := by
  apply Classical.byContradiction
  intro q
  have Xn : X < 0 := by
    apply Classical.byContradiction
    intro w
    have := mul_nn (a := X) (b := - x) (by grind) (by grind)
    grind
  have t1 := mul_nn (a := X - Z) (b := - z) (by grind) (by grind)
  have t2 := mul_pp (a := - X) (b := x - z) (by grind) (by grind)
  grind
theorem rev_sw : ∀ (r : List P2) (p : P2) (acc : List P2), Cv (p :: r) → Cv (sw p :: acc) → (∀ s a', acc = s :: a' → ∀ q r', r = q :: r' → sl (sw p) s < sl (sw q) (sw p)) → Cv (((p :: r).map sw).reverse ++ acc)
  | [], p, acc, _, c, _ => c
  | q :: r, p, acc, h, c, j => by
    rw [List.map_cons, List.reverse_cons, List.append_assoc]
    refine rev_sw r q (sw p :: acc) h.2.2.2 ⟨h.2.1, h.1, fun s r' z => j s r' z q r rfl, c⟩ fun s a' z q' r' z' => ?_
    cases z
    cases z'
    have k := h.2.2.2
    exact inv_lt (sl_sw h.1 h.2.1) (sl_sw k.1 k.2.1) (sl_neg h.1 h.2.1) (h.2.2.1 q' r' rfl)
theorem bel_sw {p q g : P2} (h1 : p.1 < q.1) (h2 : q.2 < p.2) (h : bel p q g) : bel (sw q) (sw p) (sw g) := by
  have e := sl_sw h1 h2
  have s := sl_neg h1 h2
  rw [bel_b h1] at h
  show g.1 ≤ q.1 + sl (sw q) (sw p) * (g.2 - q.2)
  have n : sl (sw q) (sw p) < 0 := sl_neg (a := sw q) (b := sw p) h2 h1
  have t := mul_nn (a := - sl (sw q) (sw p)) (b := q.2 + sl p q * (g.1 - q.1) - g.2) (by grind) (by grind)
  have k : sl (sw q) (sw p) * (sl p q * (g.1 - q.1)) = g.1 - q.1 := by
    rw [← Rat.mul_assoc, e]
    grind
  grind
theorem rev_sw_bel {g : P2} : ∀ (r : List P2) (p : P2) (acc : List P2), Cv (p :: r) → BelF (p :: r) g → BelF (sw p :: acc) (sw g) → BelF (((p :: r).map sw).reverse ++ acc) (sw g)
  | [], p, acc, _, _, c => c
  | q :: r, p, acc, h, b, c => by
    rw [List.map_cons, List.reverse_cons, List.append_assoc]
    exact rev_sw_bel r q (sw p :: acc) h.2.2.2 b.2 ⟨bel_sw h.1 h.2.1 b.1, c⟩
def turnR (rows : List P2) : List P2 := rows.reverse.map fun p => (p.2, p.1)
theorem turnR_eq (rows : List P2) : turnR rows = (rows.map sw).reverse := by
  unfold turnR
  rw [List.map_reverse]
  rfl
theorem lastP_map (f : P2 → P2) : ∀ (r : List P2) (p : P2), lastP (f p) (r.map f) = f (lastP p r)
  | [], p => rfl
  | q :: r, p => lastP_map f r q
theorem turn_hl (h : Hl G p r) : ∃ r', turnR (p :: r) = sw (lastP p r) :: r' ∧ lastP (sw (lastP p r)) r' = sw p ∧ Hl (G.map sw) (sw (lastP p r)) r' := by
  obtain ⟨r0, e1, e2⟩ := rev_ends p r
  have e3 : turnR (p :: r) = sw (lastP p r) :: r0.map sw := by
    show (p :: r).reverse.map sw = _
    rw [e1]
    rfl
  have e4 : lastP (sw (lastP p r)) (r0.map sw) = sw p := by rw [lastP_map, e2]
  refine ⟨r0.map sw, e3, e4, ?_, fun g hg => ?_, fun g hg => ?_, fun g hg => ?_, fun q hq => ?_⟩
  · rw [← e3, turnR_eq]
    have := rev_sw r p [] h.cv trivial (fun _ _ z => nomatch z)
    rw [List.append_nil] at this
    exact this
  · obtain ⟨g, hg', rfl⟩ := List.mem_map.mp hg
    exact h.rgt g hg'
  · obtain ⟨g, hg', rfl⟩ := List.mem_map.mp hg
    rw [e4]
    exact h.top g hg'
  · obtain ⟨g, hg', rfl⟩ := List.mem_map.mp hg
    rw [← e3, turnR_eq]
    have := rev_sw_bel r p [] h.cv (h.bel g hg') trivial
    rw [List.append_nil] at this
    exact this
  · rw [← e3, turnR_eq, List.mem_reverse] at hq
    obtain ⟨g, hg, rfl⟩ := List.mem_map.mp hq
    exact List.mem_map_of_mem (h.sub g hg)
theorem edge_turn (h : Hl G p r) : edge (inOrd (G.map sw)) = turnR (p :: r) := by
  obtain ⟨r', e1, _, h'⟩ := turn_hl h
  rw [e1]
  exact edge_of h'
theorem sw_sw (p : P2) : sw (sw p) = p := rfl
theorem turnR_turnR (rows : List P2) : turnR (turnR rows) = rows := by
  rw [turnR_eq, turnR_eq, List.map_reverse, List.reverse_reverse, List.map_map]
  have : sw ∘ sw = id := rfl
  rw [this, List.map_id]
end
end Ev
/-! LotsD: drawn fractions, drawn lots. -/
namespace Ev
open PySem
abbrev dst (ns : List Int) (c : Int) : Sto := [drw (ns.map .int) c]
theorem tup2s {a b : ME} {env : Env} {s s1 s2 : Sto} {d e : PyData} (ha : a env s = .ok (.dat d) s1) (hb : b env s1 = .ok (.dat e) s2) : eTup (aCons a (aCons b aNil)) env s = .ok (.dat (.tuple [d, e])) s2 := by
  have h1 : aCons b aNil env s1 = .ok [.dat e] s2 := by
    unfold aCons
    rw [hb]
    rfl
  have h2 : aCons a (aCons b aNil) env s = .ok [.dat d, .dat e] s2 := by
    rw [aCons.eq_1 a, ha]
    simp only [Out.bind, h1]
  unfold eTup
  rw [h2]
  rfl
theorem next_any {ns : List Int} {c b : Int} {env : Env} {i : Nat} {a : ME} (he : env[i]? = some (some (.loc 0))) (ha : a env (dst ns c) = .ok (.dat (.int b)) (dst ns c)) (hc : 0 ≤ c) (hc2 : c < 1000000000) (hb : 0 < b) :
    ∃ v : Int, 0 ≤ v ∧ v < b ∧ eCall F__law_next (aCons (eVar i) (aCons a aNil)) env (dst ns c) = .ok (.dat (.int v)) (dst ns (c + 1)) := by
  obtain ⟨v, h0, h1, e⟩ := nx_ok ns c b hc hc2 hb []
  refine ⟨v, h0, h1, ?_⟩
  have h2 : aCons (eVar i) (aCons a aNil) env (dst ns c) = .ok [.loc 0, .dat (.int b)] (dst ns c) := by
    have h3 : aCons a aNil env (dst ns c) = .ok [.dat (.int b)] (dst ns c) := by
      unfold aCons
      rw [ha]
      rfl
    rw [aCons.eq_1 (eVar i)]
    unfold eVar
    rw [he]
    simp only [Out.bind, h3]
  unfold eCall
  rw [h2]
  exact e
theorem divInt_small {n d : Int} (h0 : 0 ≤ n) (h1 : n ≤ 31) (d0 : 1 ≤ d) (d1 : d ≤ 31) : Sz 5 (Rat.divInt n d) := divInt_sz (by omega) (by omega) (by omega)
theorem divInt_nn {n d : Int} (h0 : 0 ≤ n) (d0 : 1 ≤ d) : 0 ≤ Rat.divInt n d := Rat.divInt_nonneg (a := n) (b := d) h0 (by omega)
theorem lean_r {n d : Int} {env : Env} {a b : ME} {s s1 s2 : Sto} (ha : a env s = .ok (.dat (.int n)) s1) (hb : b env s1 = .ok (.dat (.int d)) s2) (h0 : 0 ≤ n) (h1 : n ≤ 31) (d0 : 1 ≤ d) (d1 : d ≤ 31) :
    eCall F_leanP (aCons a (aCons b aNil)) env s = .ok (.dat (frD (Rat.divInt n d))) s2 :=
  eCall2_dat ha hb ((lnP_bd (Nat.le_trans (show n.natAbs ≤ 31 by omega) (by decide)) (Nat.le_trans (show d.natAbs ≤ 31 by omega) (by decide)) (by omega) s2).trans (by rw [leanI_rat (by omega)]))
theorem part_fn (ns : List Int) (c t b : Int) (hc : 0 ≤ c) (hc2 : c < 1000000) (t0 : 0 < t) (t1 : t ≤ 31) (b0 : 0 < b) (b1 : b ≤ 30) : ∃ x : Rat, 0 ≤ x ∧ Sz 5 x ∧ F__law_part [.loc 0, .dat (.int t), .dat (.int b)] (dst ns c) = .ok (.dat (frD x)) (dst ns (c + 1 + 1)) := by
  obtain ⟨v1, a1, l1, e1⟩ := next_any (ns := ns) (c := c) (b := t) (env := [some (.loc 0), some (.dat (.int t)), some (.dat (.int b))]) (i := 0) (a := eVar 1) rfl rfl hc (by omega) t0
  obtain ⟨v2, a2, l2, e2⟩ := next_any (ns := ns) (c := c + 1) (b := b) (env := [some (.loc 0), some (.dat (.int t)), some (.dat (.int b))]) (i := 0) (a := eVar 2) rfl rfl (by omega) (by omega) b0
  refine ⟨Rat.divInt v1 (1 + v2), divInt_nn a1 (by omega), divInt_small a1 (by omega) (by omega) (by omega), ?_⟩
  have h := lean_r e1 (e2_dat (f := pAdd) (a := eCst (.int 1)) (d := .int 1) (r := .int (1 + v2)) rfl e2 rfl) a1 (by omega) (by omega) (by omega)
  have := fnS_dat (np := 3) (nn := 3) (m := B__law_part) (vs := [.loc 0, .dat (.int t), .dat (.int b)]) (s := dst ns c) rfl (sRet_ok h)
  exact this
theorem part_r {ns : List Int} {c t b : Int} {env : Env} {i : Nat} (he : env[i]? = some (some (.loc 0))) (hc : 0 ≤ c) (hc2 : c < 1000000) (t0 : 0 < t) (t1 : t ≤ 31) (b0 : 0 < b) (b1 : b ≤ 30) :
    ∃ x : Rat, 0 ≤ x ∧ Sz 5 x ∧ eCall F__law_part (aCons (eVar i) (aCons (eCst (.int t)) (aCons (eCst (.int b)) aNil))) env (dst ns c) = .ok (.dat (frD x)) (dst ns (c + 1 + 1)) := by
  obtain ⟨x, h1, h2, h3⟩ := part_fn ns c t b hc hc2 t0 t1 b0 b1
  refine ⟨x, h1, h2, ?_⟩
  have h4 : aCons (eVar i) (aCons (eCst (.int t)) (aCons (eCst (.int b)) aNil)) env (dst ns c) = .ok [.loc 0, .dat (.int t), .dat (.int b)] (dst ns c) := by
    unfold aCons eVar
    rw [he]
    rfl
  unfold eCall
  rw [h4]
  exact h3
theorem f21 : frD 2 = .tuple [.int 2, .int 1] := rfl
theorem f11 : frD 1 = .tuple [.int 1, .int 1] := rfl
def Blot : MS := sCons (sSet 5 (eTup (aCons (eCall F__law_part (aCons (eVar 0) (aCons (eCst (.int (10))) (aCons (eCst (.int (3))) (aNil))))) (aCons (eCall F__law_part (aCons (eVar 0) (aCons (eCst (.int (10))) (aCons (eCst (.int (3))) (aNil))))) (aNil))))) (sCons (sSet 6 (eIf (eCmp pEq (eVar 4) (eCst (.int (0)))) (eTup (aCons (eCst (.int (1))) (aCons (eCst (.int (1))) (aNil)))) (eTup (aCons (eCst (.int (0))) (aCons (eCst (.int (1))) (aNil)))))) (sSet 3 (e2 pAdd (eVar 3) (eTup (aCons (eTup (aCons (eCall P_plus (aCons (e2 pIx (eVar 2) (eCst (.int (0)))) (aCons (eCall P_plus (aCons (e2 pIx (eVar 5) (eCst (.int (0)))) (aCons (eVar 6) (aNil)))) (aNil)))) (aCons (eCall P_plus (aCons (e2 pIx (eVar 2) (eCst (.int (1)))) (aCons (eCall P_plus (aCons (e2 pIx (eVar 5) (eCst (.int (1)))) (aCons (eVar 6) (aNil)))) (aNil)))) (aNil)))) (aNil))))))
theorem tup1_ok {a : ME} {env : Env} {s s1 : Sto} {d : PyData} (ha : a env s = .ok (.dat d) s1) : eTup (aCons a aNil) env s = .ok (.dat (.tuple [d])) s1 := by
  have h1 : aCons a aNil env s = .ok [.dat d] s1 := by
    unfold aCons
    rw [ha]
    rfl
  unfold eTup
  rw [h1]
  rfl
theorem pAdd_tup {xs ys : List PyData} (h : xs.length + ys.length ≤ 1000) : pAdd (.tuple xs) (.tuple ys) = some (.tuple (xs ++ ys)) := by
  show (if xs.length + ys.length ≤ line then some (PyData.tuple (xs ++ ys)) else none) = _
  rw [if_pos (by unfold line; omega)]
theorem law_lot_g (ns : List Int) (c mo : Int) (hc : 0 ≤ c) (hc2 : c < 900000) (h0 : 0 < mo) (h1 : mo ≤ 6) : ∃ cs kp c', (∃ a l, cs = a :: l ∧ kp.1 < a.1 ∧ kp.2 < a.2) ∧ SzL 10 (gns cs kp) ∧ Lot 21 cs kp ∧ c ≤ c' ∧ c' ≤ c + 29 ∧ cs.length ≤ mo.toNat ∧ F__law_lot [.loc 0, .dat (.int mo)] (dst ns c) = .ok (.dat (lotD cs kp)) (dst ns c') := by
  obtain ⟨x1, n1, z1, e1⟩ := part_r (ns := ns) (c := c) (t := 9) (b := 3) (env := [some (.loc 0), some (.dat (.int mo)), none, none, none, none, none]) (i := 0) rfl hc (by omega) (by omega) (by omega) (by omega) (by omega)
  obtain ⟨x2, n2, z2, u2⟩ := part_r (ns := ns) (c := c + 1 + 1) (t := 9) (b := 3) (env := [some (.loc 0), some (.dat (.int mo)), none, none, none, none, none]) (i := 0) rfl (by omega) (by omega) (by omega) (by omega) (by omega) (by omega)
  have k : SzP 10 (x1 - 2, x2 - 2) := ⟨z1.sub (n := 4) szc, z2.sub (n := 4) szc⟩
  have w1 : eTup (aCons (eCall P_minus (aCons (eCall F__law_part (aCons (eVar 0) (aCons (eCst (.int (9))) (aCons (eCst (.int (3))) (aNil))))) (aCons (eTup (aCons (eCst (.int (2))) (aCons (eCst (.int (1))) (aNil)))) (aNil)))) (aCons (eCall P_minus (aCons (eCall F__law_part (aCons (eVar 0) (aCons (eCst (.int (9))) (aCons (eCst (.int (3))) (aNil))))) (aCons (eTup (aCons (eCst (.int (2))) (aCons (eCst (.int (1))) (aNil)))) (aNil)))) (aNil))) [some (.loc 0), some (.dat (.int mo)), none, none, none, none, none] (dst ns c) = .ok (.dat (pD (x1 - 2, x2 - 2))) (dst ns (c + 1 + 1 + 1 + 1)) :=
    tup2s (eCall2_dat (e := frD 2) e1 rfl (minus_r z1 (n := 4) szc (by omega) (by omega) _)) (eCall2_dat (e := frD 2) u2 rfl (minus_r z2 (n := 4) szc (by omega) (by omega) _))
  generalize (x1 - 2, x2 - 2) = kp at *
  obtain ⟨v3, a3, l3, e3⟩ := next_any (ns := ns) (c := c + 1 + 1 + 1 + 1) (b := mo) (env := [some (.loc 0), some (.dat (.int mo)), some (.dat (pD kp)), some (.dat (.tuple [])), none, none, none]) (i := 0) (a := eVar 1) rfl rfl (by omega) (by omega) h0
  have it : iRng1 (e2 pAdd (eCst (.int (1))) (eCall F__law_next (aCons (eVar 0) (aCons (eVar 1) (aNil))))) [some (.loc 0), some (.dat (.int mo)), some (.dat (pD kp)), some (.dat (.tuple [])), none, none, none] (dst ns (c + 1 + 1 + 1 + 1)) = .ok (.its (upFrom 0 (1 + v3).toNat)) (dst ns (c + 1 + 1 + 1 + 1 + 1)) := by
    have h := e2_dat (f := pAdd) (a := eCst (.int 1)) (d := .int 1) (r := .int (1 + v3)) rfl e3 rfl
    unfold iRng1
    rw [h]
    simp only [Out.bind]
    rw [decide_eq_true (show 1 + v3 < 16777216 by omega), decide_eq_true (show -16777216 < 1 + v3 by omega)]
    rfl
  obtain ⟨env2, s2, f1, cs, v4, v5, v6, c', rfl, rfl, q1, q2, q3, q4, q5, q6, q7⟩ := for_rel (body := Blot) (tg := .nm 4) (fun j env s => ∃ cs v4 v5 v6 c', env = [some (.loc 0), some (.dat (.int mo)), some (.dat (pD kp)), some (.dat (.tuple (cs.map pD))), v4, v5, v6] ∧ s = dst ns c' ∧ c ≤ c' ∧ c' ≤ c + 5 + 4 * (j : Int) ∧ cs.length = j ∧ SzL 21 cs ∧ (∀ a ∈ cs, kp.1 ≤ a.1 ∧ kp.2 ≤ a.2) ∧ (0 < j → ∃ a l, cs = a :: l ∧ kp.1 < a.1 ∧ kp.2 < a.2) ∧ ∀ a ∈ cs, SzP 10 (sub2 a kp)) it
    (fun j x env s hx ⟨cs, v4, v5, v6, c', he, hs, q1, q2, q3, q4, q5, q6, q7⟩ => by
      obtain ⟨rfl, hj⟩ := upTo_get _ _ _ _ hx
      subst he hs
      refine ⟨_, rfl, ?_⟩
      show ∃ env2 s2, Blot [some (.loc 0), some (.dat (.int mo)), some (.dat (pD kp)), some (.dat (.tuple (cs.map pD))), some (.dat (.int (0 + (j : Int)))), v5, v6] (dst ns c') = .ok (.nx env2) s2 ∧ _
      obtain ⟨g1, n1, z1, e1⟩ := part_r (ns := ns) (c := c') (t := 10) (b := 3) (env := [some (.loc 0), some (.dat (.int mo)), some (.dat (pD kp)), some (.dat (.tuple (cs.map pD))), some (.dat (.int (0 + (j : Int)))), v5, v6]) (i := 0) rfl (by omega) (by omega) (by omega) (by omega) (by omega) (by omega)
      obtain ⟨g2, n2, z2, u2⟩ := part_r (ns := ns) (c := c' + 1 + 1) (t := 10) (b := 3) (env := [some (.loc 0), some (.dat (.int mo)), some (.dat (pD kp)), some (.dat (.tuple (cs.map pD))), some (.dat (.int (0 + (j : Int)))), v5, v6]) (i := 0) rfl (by omega) (by omega) (by omega) (by omega) (by omega) (by omega)
      have more : ∃ mr : Rat, 0 ≤ mr ∧ Sz 4 mr ∧ (j = 0 → 0 < mr) ∧ ∀ v5 v6 t, eIf (eCmp pEq (eVar 4) (eCst (.int (0)))) (eTup (aCons (eCst (.int (1))) (aCons (eCst (.int (1))) (aNil)))) (eTup (aCons (eCst (.int (0))) (aCons (eCst (.int (1))) (aNil)))) [some (.loc 0), some (.dat (.int mo)), some (.dat (pD kp)), some (.dat (.tuple (cs.map pD))), some (.dat (.int (0 + (j : Int)))), v5, v6] t = .ok (.dat (frD mr)) t := by
        by_cases hz : j = 0
        · subst hz
          exact ⟨1, by decide +kernel, szc, fun _ => by decide +kernel, fun v5 v6 t => rfl⟩
        · refine ⟨0, by decide +kernel, szc, fun w => absurd w hz, fun v5 v6 t => eIf_f (eCmp_dat (d := .int (0 + (j : Int))) (e := .int 0) rfl rfl ?_) rfl⟩
          show some (PyData.eqv (.int (0 + (j : Int))) (.int 0)) = some false
          have : ((0 + (j : Int)) == 0) = false := by
            rw [beq_eq_false_iff_ne]
            omega
          simp [PyData.eqv, this]
          omega
      obtain ⟨mr, m0, mz, m1, me⟩ := more
      have ng1 : SzP 21 (kp.1 + (g1 + mr), kp.2 + (g2 + mr)) := ⟨(k.a.add (z1.add mz)).mono (by omega), (k.b.add (z2.add mz)).mono (by omega)⟩
      refine ⟨_, _, (sCons_nx (sSet_ok (tup2s e1 u2))).trans ((sCons_nx (sSet_ok (me _ _ _))).trans (sSet_ok (e2_dat (d := .tuple (cs.map pD)) (e := .tuple [pD (kp.1 + (g1 + mr), kp.2 + (g2 + mr))]) (r := .tuple ((cs ++ [(kp.1 + (g1 + mr), kp.2 + (g2 + mr))]).map pD)) rfl (tup1_ok (tup2 ?_ ?_)) ?_))), cs ++ [(kp.1 + (g1 + mr), kp.2 + (g2 + mr))], _, _, _, c' + 1 + 1 + 1 + 1, rfl, rfl, by omega, by omega, by rw [List.length_append, List.length_singleton, q3], ?_, ?_, (fun _ => ?_), ?_⟩
      · exact eCall2_dat (d := frD kp.1) rfl (eCall2_dat (d := frD g1) (e := frD mr) rfl rfl (plus_r z1 mz (by omega) (by omega) _)) (plus_r k.a (z1.add mz) (by omega) (by omega) _)
      · exact eCall2_dat (d := frD kp.2) rfl (eCall2_dat (d := frD g2) (e := frD mr) rfl rfl (plus_r z2 mz (by omega) (by omega) _)) (plus_r k.b (z2.add mz) (by omega) (by omega) _)
      · rw [pAdd_tup (by rw [List.length_map]; simp; omega), List.map_append]
        rfl
      · intro a ha
        rw [List.mem_append, List.mem_singleton] at ha
        rcases ha with ha | rfl
        · exact q4 a ha
        · exact ng1
      · intro a ha
        rw [List.mem_append, List.mem_singleton] at ha
        rcases ha with ha | rfl
        · exact q5 a ha
        · show kp.1 ≤ kp.1 + (g1 + mr) ∧ kp.2 ≤ kp.2 + (g2 + mr)
          clear e1 u2 me
          grind
      · rcases Nat.eq_zero_or_pos j with hz | hz
        · have := m1 hz
          rw [List.eq_nil_of_length_eq_zero (q3.trans hz)]
          refine ⟨_, [], rfl, ?_⟩
          show kp.1 < kp.1 + (g1 + mr) ∧ kp.2 < kp.2 + (g2 + mr)
          clear e1 u2 me
          grind
        · obtain ⟨a, l, rfl, h⟩ := q6 hz
          exact ⟨a, _, rfl, h⟩
      · intro a ha
        rw [List.mem_append, List.mem_singleton] at ha
        rcases ha with ha | rfl
        · exact q7 a ha
        · have e1' : kp.1 + (g1 + mr) - kp.1 = g1 + mr := by clear e1 u2 me; grind
          have e2' : kp.2 + (g2 + mr) - kp.2 = g2 + mr := by clear e1 u2 me; grind
          refine ⟨?_, ?_⟩
          · show Sz 10 (kp.1 + (g1 + mr) - kp.1)
            rw [e1']
            exact z1.add mz
          · show Sz 10 (kp.2 + (g2 + mr) - kp.2)
            rw [e2']
            exact z2.add mz)
    ⟨[], none, none, none, c + 1 + 1 + 1 + 1 + 1, rfl, rfl, by omega, by omega, rfl, (fun _ z => nomatch z), (fun _ z => nomatch z), (fun z => absurd z (Nat.lt_irrefl 0)), (fun _ z => nomatch z)⟩
  rw [upTo_len] at q2 q3 q6
  obtain ⟨a, l, el, ha1, ha2⟩ := q6 (by omega)
  have ha : a ∈ cs := by rw [el]; exact List.mem_cons_self ..
  refine ⟨cs, kp, c', ⟨a, l, el, ha1, ha2⟩, (fun g hg => by
    obtain ⟨d, hd, rfl⟩ := List.mem_map.mp hg
    exact q7 d hd), ⟨q4, k.mono (by omega), ?_, by omega⟩, by omega, by omega, by omega, ?_⟩
  · unfold isLotB lenB
    simp only [Bool.and_eq_true, decide_eq_true_eq, List.all_eq_true, List.any_eq_true]
    exact ⟨⟨by omega, by omega⟩, q5, ⟨a, ha, ha1⟩, ⟨a, ha, ha2⟩⟩
  · have := fnS_dat (np := 2) (nn := 7) (m := B__law_lot) (vs := [.loc 0, .dat (.int mo)]) (s := dst ns c) (r := lotD cs kp) rfl ((sCons_nx (sSet_ok w1)).trans ((sCons_nx (a := sSet 3 (eTup aNil)) rfl).trans ((sCons_nx f1).trans (sRet_ok (tup2 rfl rfl)))))
    exact this
theorem law_lot_r (ns : List Int) (c mo : Int) (hc : 0 ≤ c) (hc2 : c < 900000) (h0 : 0 < mo) (h1 : mo ≤ 6) : ∃ cs kp c', (∃ a l, cs = a :: l ∧ kp.1 < a.1 ∧ kp.2 < a.2) ∧ Lot 21 cs kp ∧ c ≤ c' ∧ c' ≤ c + 29 ∧ F__law_lot [.loc 0, .dat (.int mo)] (dst ns c) = .ok (.dat (lotD cs kp)) (dst ns c') := by
  obtain ⟨cs, kp, c', h1, _, h2, h3, h4, _, h5⟩ := law_lot_g ns c mo hc hc2 h0 h1
  exact ⟨cs, kp, c', h1, h2, h3, h4, h5⟩
end Ev
/-! LotsH: the greatest gain of the other side by all pairs of corners. -/
namespace Ev
open PySem
section
variable {m n k : Nat} {x y z t v f : Rat} {p q : P2} {cs G : List P2} {kp : P2} {s : Sto} {r : List P2}
def mx (o : Option Rat) (v : Rat) : Option Rat := some (match o with
  | none => v
  | some f => maxR f v)
/-- o is the greatest of what C holds -/
def Top (o : Option Rat) (C : Rat → Prop) : Prop := (∀ v, C v → ∃ f, o = some f ∧ v ≤ f) ∧ ∀ f, o = some f → C f
theorem Top.mx {o : Option Rat} {C : Rat → Prop} (h : Top o C) (v : Rat) : Top (mx o v) fun w => C w ∨ w = v := by
  cases o with
  | none =>
    refine ⟨fun w hw => ?_, fun f hf => ?_⟩
    · rcases hw with hw | rfl
      · obtain ⟨f, e, _⟩ := h.1 w hw
        cases e
      · exact ⟨w, rfl, by grind⟩
    · cases hf
      exact .inr rfl
  | some f =>
    refine ⟨fun w hw => ?_, fun g hg => ?_⟩
    · refine ⟨maxR f v, rfl, ?_⟩
      unfold maxR
      rcases hw with hw | rfl
      · obtain ⟨f', e, l⟩ := h.1 w hw
        cases e
        grind
      · grind
    · cases hg
      by_cases q : f < v
      · exact .inr (if_pos q)
      · refine .inl ?_
        show C (maxR f v)
        rw [show maxR f v = f from if_neg q]
        exact h.2 f rfl
theorem Top.congr {o : Option Rat} {C D : Rat → Prop} (h : Top o C) (e : ∀ v, C v ↔ D v) : Top o D := ⟨fun v hv => h.1 v ((e v).mpr hv), fun f hf => (e f).mp (h.2 f hf)⟩
theorem top_fold {α : Type} (P : α → Prop) [DecidablePred P] (F : α → Rat) : ∀ (xs : List α) (o : Option Rat) (C : Rat → Prop), Top o C → Top (xs.foldl (fun o x => if P x then mx o (F x) else o) o) fun v => C v ∨ ∃ x ∈ xs, P x ∧ v = F x
  | [], o, C, h => h.congr fun v => by simp
  | x :: xs, o, C, h => by
    rw [List.foldl_cons]
    by_cases q : P x
    · rw [if_pos q]
      refine (top_fold P F xs _ _ (h.mx (F x))).congr fun v => ?_
      simp only [List.mem_cons]
      grind
    · rw [if_neg q]
      refine (top_fold P F xs _ _ h).congr fun v => ?_
      simp only [List.mem_cons]
      grind
def hi2 (t : Rat) (G : List P2) (o : Option Rat) (a : P2) : Option Rat := G.foldl (fun o b => if a.1 < t ∧ t < b.1 then mx o (seg t a b) else o) o
def hi1 (t : Rat) (G : List P2) : Option Rat := G.foldl (fun o g => if ¬ g.1 < t then mx o g.2 else o) none
def high (t : Rat) (G : List P2) : Option Rat := G.foldl (hi2 t G) (hi1 t G)
theorem top_fold2 (t : Rat) (G : List P2) : ∀ (xs : List P2) (o : Option Rat) (C : Rat → Prop), Top o C → Top (xs.foldl (hi2 t G) o) fun v => C v ∨ ∃ a ∈ xs, ∃ b ∈ G, (a.1 < t ∧ t < b.1) ∧ v = seg t a b
  | [], o, C, h => h.congr fun v => by simp
  | a :: xs, o, C, h => by
    rw [List.foldl_cons]
    refine (top_fold2 t G xs _ _ (top_fold (fun b : P2 => a.1 < t ∧ t < b.1) (fun b => seg t a b) G o C h)).congr fun v => ?_
    simp only [List.mem_cons]
    grind
theorem high_top : Top (high t G) fun v => (∃ g ∈ G, ¬ g.1 < t ∧ v = g.2) ∨ ∃ a ∈ G, ∃ b ∈ G, (a.1 < t ∧ t < b.1) ∧ v = seg t a b := by
  have h0 : Top none (fun _ => False) := ⟨fun _ z => z.elim, fun _ z => nomatch z⟩
  refine (top_fold2 t G G _ _ (top_fold (fun g : P2 => ¬ g.1 < t) (fun g => g.2) G none _ h0)).congr fun v => ?_
  simp
/-- it is what the outer edge tells -/
theorem high_eq (h : Hl G p r) : high t G = otherAt (p :: r) t := by
  have T := high_top (t := t) (G := G)
  cases e : otherAt (p :: r) t with
  | none =>
    have hx := (oa_none h.cv).mp e
    cases q : high t G with
    | none => rfl
    | some f =>
      rcases T.2 f q with ⟨g, hg, h1, _⟩ | ⟨a, ha, b, hb, h1, _⟩
      · have := h.rgt g hg
        grind
      · have := h.rgt b hb
        grind
  | some v =>
    have rv : Reg p r (t, v) := (reg_iff h).mpr ⟨v, e, by grind⟩
    -- v is no more than the greatest
    have h1 : ∃ f, high t G = some f ∧ v ≤ f := by
      rcases rv.under h with ⟨a, ha, h1, h2⟩ | ⟨a, b, ha, hb, h1, h2, h3⟩
      · have h1 : t ≤ a.1 := h1
        have h2 : v ≤ a.2 := h2
        obtain ⟨f, e, l⟩ := T.1 a.2 (.inl ⟨a, h.sub a ha, by grind, rfl⟩)
        exact ⟨f, e, by grind⟩
      · have h1 : a.1 < t := h1
        have h2 : t < b.1 := h2
        have h3 : v ≤ seg t a b := h3
        obtain ⟨f, e, l⟩ := T.1 (seg t a b) (.inr ⟨a, h.sub a ha, b, h.sub b hb, ⟨h1, h2⟩, rfl⟩)
        exact ⟨f, e, by grind⟩
    obtain ⟨f, ef, l⟩ := h1
    have h2 : f ≤ v := by
      have rf : Reg p r (t, f) := by
        rcases T.2 f ef with ⟨g, hg, h1, rfl⟩ | ⟨a, ha, b, hb, ⟨h1, h2⟩, rfl⟩
        · exact (h.reg hg).mono h.cv (by show t ≤ g.1; grind) (by show g.2 ≤ g.2; grind)
        · have hl : a.1 < b.1 := by grind
          rw [seg_mix hl]
          obtain ⟨w0, w1⟩ := part_01 (a := a) (b := b) (t := t) (by grind) (by grind) hl
          exact (h.reg ha).mix w0 w1 (h.reg hb)
      obtain ⟨v', e', l'⟩ := (reg_iff h).mp rf
      rw [e] at e'
      cases e'
      exact l'
    rw [ef]
    congr 1
    grind
/-! ### what the def computes -/
theorem law_more_r (h1 : Sz m x) (h2 : Sz n y) (l1 : m ≤ 3540) (l2 : n ≤ 3540) : F__law_more [.dat (frD x), .dat (frD y)] s = .ok (.dat (frD (maxR x y))) s := greater_r h1 h2 l1 l2
def SzO (n : Nat) (o : Option Rat) : Prop := ∀ v, o = some v → Sz n v
theorem mx_sz {o : Option Rat} (h : SzO n o) (hv : Sz n v) : SzO n (mx o v) := fun w hw => by
  cases o with
  | none => cases hw; exact hv
  | some f => cases hw; exact maxR_sz (h f rfl) hv
theorem seg_sz' (ht : Sz n t) (h1 : SzP 401 p) (h2 : SzP 401 q) (h : p.1 < q.1) : Sz (n + 2410) (seg t p q) := seg_sz ht h1 h2 h
abbrev EH (G : List P2) (t : Rat) (o : Option Rat) (v3 v4 v5 : Option Vl) : Env := [some (.dat (.list (G.map pD))), some (.dat (frD t)), some (.dat (optD o)), v3, v4, v5]
theorem is_none {o : Option Rat} : pIs (optD o) .none = some (o.isNone) := by
  cases o with
  | none => rfl
  | some f => rfl
theorem hi1_run {v3 v4 v5 : Option Vl} (hG : SzL 401 G) (ht : Sz n t) (l : n ≤ 1000) : ∃ u3, sForX (eVar 0) (.nm 3) (sIf (eNot (eCall P_less (aCons (e2 pIx (eVar 3) (eCst (.int (0)))) (aCons (eVar 1) (aNil))))) (sSet 2 (eIf (eCmp pIs (eVar 2) (eCst .none)) (e2 pIx (eVar 3) (eCst (.int (1)))) (eCall F__law_more (aCons (eVar 2) (aCons (e2 pIx (eVar 3) (eCst (.int (1)))) (aNil)))))) (sNil)) (EH G t none v3 v4 v5) s = .ok (.nx (EH G t (hi1 t G) u3 v4 v5)) s ∧ SzO (n + 2410) (hi1 t G) := by
  obtain ⟨env2, s2, h1, ⟨u3, rfl⟩, rfl, so⟩ := forX_its (s := s) (s1 := s) (a := eVar 0) (tg := .nm 3) (env := EH G t none v3 v4 v5) (body := sIf (eNot (eCall P_less (aCons (e2 pIx (eVar 3) (eCst (.int (0)))) (aCons (eVar 1) (aNil))))) (sSet 2 (eIf (eCmp pIs (eVar 2) (eCst .none)) (e2 pIx (eVar 3) (eCst (.int (1)))) (eCall F__law_more (aCons (eVar 2) (aCons (e2 pIx (eVar 3) (eCst (.int (1)))) (aNil)))))) (sNil)) pD
    (fun (o : Option Rat) e t' => (∃ u3, e = EH G t o u3 v4 v5) ∧ t' = s ∧ SzO (n + 2410) o) (fun o g => if ¬ g.1 < t then mx o g.2 else o) G none rfl rfl
    (fun o g e t' hg ⟨⟨u3, he⟩, hs, so⟩ => by
      subst he hs
      have zg := hG g hg
      refine ⟨_, rfl, ?_⟩
      have c : eCall P_less (aCons (e2 pIx (eVar 3) (eCst (.int (0)))) (aCons (eVar 1) (aNil))) (EH G t o (some (.dat (pD g))) v4 v5) t' = .ok (.dat (.bool (decide (g.1 < t)))) t' := eCall2_dat (d := frD g.1) (e := frD t) rfl rfl (less_r zg.a ht (by omega) (by omega) t')
      by_cases q : g.1 < t
      · rw [decide_eq_true q] at c
        rw [if_neg (fun z => z q)]
        exact ⟨_, _, sIf_f (eNot_dat c), ⟨_, rfl⟩, rfl, so⟩
      · rw [decide_eq_false q] at c
        rw [if_pos q]
        refine ⟨_, _, (sIf_t (eNot_dat c)).trans (sSet_ok (v := .dat (optD (mx o g.2))) (s1 := t') ?_), ⟨_, rfl⟩, rfl, mx_sz so (zg.b.mono (by omega))⟩
        have ci : eCmp pIs (eVar 2) (eCst .none) (EH G t o (some (.dat (pD g))) v4 v5) t' = .ok (.dat (.bool o.isNone)) t' := eCmp_dat (d := optD o) (e := .none) rfl rfl is_none
        cases o with
        | none => exact eIf_t ci rfl
        | some f => exact eIf_f ci (eCall2_dat (d := frD f) (e := frD g.2) rfl rfl (law_more_r (so f rfl) zg.b (by omega) (by omega))))
    ⟨⟨_, rfl⟩, rfl, fun _ z => nomatch z⟩
  exact ⟨u3, h1, so⟩
def Bh2 : MS := sIf (eAnd (eCall P_less (aCons (e2 pIx (eVar 3) (eCst (.int (0)))) (aCons (eVar 1) (aNil)))) (eCall P_less (aCons (eVar 1) (aCons (e2 pIx (eVar 4) (eCst (.int (0)))) (aNil))))) (sCons (sSet 5 (eCall P_over (aCons (eCall P_minus (aCons (eVar 1) (aCons (e2 pIx (eVar 3) (eCst (.int (0)))) (aNil)))) (aCons (eCall P_minus (aCons (e2 pIx (eVar 4) (eCst (.int (0)))) (aCons (e2 pIx (eVar 3) (eCst (.int (0)))) (aNil)))) (aNil))))) (sSet 2 (eCall F__law_more (aCons (eVar 2) (aCons (eCall P_plus (aCons (e2 pIx (eVar 3) (eCst (.int (1)))) (aCons (eCall P_times (aCons (eVar 5) (aCons (eCall P_minus (aCons (e2 pIx (eVar 4) (eCst (.int (1)))) (aCons (e2 pIx (eVar 3) (eCst (.int (1)))) (aNil)))) (aNil)))) (aNil)))) (aNil)))))) (sNil)
theorem hi2_run {v4 v5 : Option Vl} {o : Option Rat} {a : P2} (hG : SzL 401 G) (ha : SzP 401 a) (ht : Sz n t) (l : n ≤ 1000) (so : SzO (n + 2410) o) (ho : (∃ b ∈ G, t < b.1) → o ≠ none) :
    ∃ u4 u5, sForX (eVar 0) (.nm 4) Bh2 (EH G t o (some (.dat (pD a))) v4 v5) s = .ok (.nx (EH G t (hi2 t G o a) (some (.dat (pD a))) u4 u5)) s ∧ SzO (n + 2410) (hi2 t G o a) ∧ ((∃ b ∈ G, t < b.1) → hi2 t G o a ≠ none) := by
  obtain ⟨env2, s2, h1, ⟨u4, u5, rfl⟩, rfl, so, ho⟩ := forX_its (s := s) (s1 := s) (a := eVar 0) (tg := .nm 4) (env := EH G t o (some (.dat (pD a))) v4 v5) (body := Bh2) pD
    (fun (o : Option Rat) e t' => (∃ u4 u5, e = EH G t o (some (.dat (pD a))) u4 u5) ∧ t' = s ∧ SzO (n + 2410) o ∧ ((∃ b ∈ G, t < b.1) → o ≠ none)) (fun o b => if a.1 < t ∧ t < b.1 then mx o (seg t a b) else o) G o rfl rfl
    (fun o g e t' hg ⟨⟨u4, u5, he⟩, hs, so, ho⟩ => by
      subst he hs
      have zg := hG g hg
      refine ⟨_, rfl, ?_⟩
      show ∃ env2 s2, Bh2 (EH G t o (some (.dat (pD a))) (some (.dat (pD g))) u5) t' = .ok (.nx env2) s2 ∧ _
      have c1 : eCall P_less (aCons (e2 pIx (eVar 3) (eCst (.int (0)))) (aCons (eVar 1) (aNil))) (EH G t o (some (.dat (pD a))) (some (.dat (pD g))) u5) t' = .ok (.dat (.bool (decide (a.1 < t)))) t' := eCall2_dat (d := frD a.1) (e := frD t) rfl rfl (less_r ha.a ht (by omega) (by omega) t')
      have c2 : eCall P_less (aCons (eVar 1) (aCons (e2 pIx (eVar 4) (eCst (.int (0)))) (aNil))) (EH G t o (some (.dat (pD a))) (some (.dat (pD g))) u5) t' = .ok (.dat (.bool (decide (t < g.1)))) t' := eCall2_dat (d := frD t) (e := frD g.1) rfl rfl (less_r ht zg.a (by omega) (by omega) t')
      by_cases q1 : a.1 < t
      · rw [decide_eq_true q1] at c1
        by_cases q2 : t < g.1
        · rw [decide_eq_true q2] at c2
          rw [if_pos ⟨q1, q2⟩]
          have hl : a.1 < g.1 := by clear c1 c2; grind
          have h0 : g.1 - a.1 ≠ 0 := by clear c1 c2; grind
          have sz := seg_sz ht ha zg hl
          have hn := ho ⟨g, hg, q2⟩
          cases o with
          | none => exact absurd rfl hn
          | some f =>
            refine ⟨_, _, (sIf_t (eAnd_t c1 c2)).trans ((sCons_nx (sSet_ok (eCall2_dat (eCall2_dat (d := frD t) (e := frD a.1) rfl rfl (minus_r ht ha.a (by omega) (by omega) t')) (eCall2_dat (d := frD g.1) (e := frD a.1) rfl rfl (minus_r zg.a ha.a (by omega) (by omega) t')) (over_r (ht.sub ha.a) (zg.a.sub ha.a) (by omega) (by omega) h0 t')))).trans (sSet_ok (eCall2_dat (d := frD f) (e := frD (seg t a g)) rfl ?_ (law_more_r (so f rfl) sz (by omega) (by omega))))), ⟨_, _, rfl⟩, rfl, mx_sz so sz, fun _ z => nomatch z⟩
            exact eCall2_dat (d := frD a.2) rfl (eCall2_dat (d := frD ((t - a.1) / (g.1 - a.1))) rfl (eCall2_dat (d := frD g.2) (e := frD a.2) rfl rfl (minus_r zg.b ha.b (by omega) (by omega) t')) (times_r ((ht.sub ha.a).div (zg.a.sub ha.a) h0) (zg.b.sub ha.b) (by omega) (by omega) t')) (plus_r ha.b (((ht.sub ha.a).div (zg.a.sub ha.a) h0).mul (zg.b.sub ha.b)) (by omega) (by omega) t')
        · rw [decide_eq_false q2] at c2
          rw [if_neg (fun z => q2 z.2)]
          exact ⟨_, _, sIf_f (eAnd_t c1 c2), ⟨_, _, rfl⟩, rfl, so, ho⟩
      · rw [decide_eq_false q1] at c1
        rw [if_neg (fun z => q1 z.1)]
        exact ⟨_, _, sIf_f (eAnd_f c1), ⟨_, _, rfl⟩, rfl, so, ho⟩)
    ⟨⟨_, _, rfl⟩, rfl, so, ho⟩
  exact ⟨u4, u5, h1, so, ho⟩
theorem law_high_r (hG : SzL 401 G) (ht : Sz n t) (l : n ≤ 1000) : F__law_high [.dat (.list (G.map pD)), .dat (frD t)] s = .ok (.dat (optD (high t G))) s ∧ SzO (n + 2410) (high t G) := by
  obtain ⟨w3, f1, so⟩ := hi1_run (s := s) (v3 := none) (v4 := none) (v5 := none) hG ht l
  have hn : (∃ b ∈ G, t < b.1) → hi1 t G ≠ none := fun ⟨b, hb, hx⟩ z => by
    have T := top_fold (fun g : P2 => ¬ g.1 < t) (fun g => g.2) G none (fun _ => False) ⟨fun _ z => z.elim, fun _ z => nomatch z⟩
    obtain ⟨f, e, _⟩ := T.1 b.2 (.inr ⟨b, hb, by grind, rfl⟩)
    have e : hi1 t G = some f := e
    rw [z] at e
    cases e
  obtain ⟨env2, s2, f2, ⟨u3, u4, u5, rfl⟩, rfl, so2, -⟩ := forX_its (s := s) (s1 := s) (a := eVar 0) (tg := .nm 3) (env := EH G t (hi1 t G) w3 none none) (body := sForX (eVar 0) (.nm 4) Bh2) pD
    (fun (o : Option Rat) e t' => (∃ u3 u4 u5, e = EH G t o u3 u4 u5) ∧ t' = s ∧ SzO (n + 2410) o ∧ ((∃ b ∈ G, t < b.1) → o ≠ none)) (hi2 t G) G (hi1 t G) rfl rfl
    (fun o a e t' ha ⟨⟨u3, u4, u5, he⟩, hs, so, ho⟩ => by
      subst he hs
      obtain ⟨w4, w5, k1, k2, k3⟩ := hi2_run (s := t') (v4 := u4) (v5 := u5) hG (hG a ha) ht l so ho
      exact ⟨_, rfl, _, _, k1, ⟨_, _, _, rfl⟩, rfl, k2, k3⟩)
    ⟨⟨_, _, _, rfl⟩, rfl, so, hn⟩
  refine ⟨fnS_dat0 rfl ?_, so2⟩
  refine (sCons_nx (a := sSet 2 (eCst .none)) rfl).trans ?_
  refine (sCons_nx f1).trans ?_
  refine (sCons_nx f2).trans ?_
  exact sRet_ok rfl
end
end Ev
/-! LotsC: small steps for the laws on lots. -/
namespace Ev
open PySem
theorem pNe_bool (b : Bool) : pNe (.bool b) (.bool b) = some false := by cases b <;> rfl
theorem pNe_lot (a : List P2) (k : P2) : pNe (lotD a k) (lotD a k) = some false := by
  have h : PyData.eqv (lotD a k) (lotD a k) = true := by
    unfold lotD
    simp [PyData.eqv, PyData.eqvAll, eqvAll_pts, eqv_pt]
  have hs : SeqAt.shaped (lotD a k) = true := by
    unfold SeqAt.shaped lotD
    have h := dep_pts a
    have h2 := dep_pt k
    have c : PyData.canLay0 (PyData.tuple [PyData.tuple (a.map pD), pD k]) = true := by
      rw [PyData.canLay0, PyData.canLayAll0, PyData.canLay0, lay_pts, PyData.canLayAll0, lay_pt, PyData.canLayAll0]
      rfl
    rw [c]
    rw [PyData.depth, PyData.depthAll, PyData.depth, PyData.depthAll, h2, PyData.depthAll]
    exact decide_eq_true (by omega)
  unfold pNe pEq
  rw [hs, h]
  rfl
theorem cut_take {ds : List PyData} {j : Nat} (h : j ≤ ds.length) : cutL ds none (some (j : Int)) = ds.take j := by
  unfold cutL
  rw [HT.sIx_nat, HT.sIx_none, Nat.min_eq_left h]
  simp
theorem Lot.mono {m n : Nat} {cs : List P2} {kp : P2} (h : Lot m cs kp) (l : m ≤ n) (l2 : n ≤ 200) : Lot n cs kp := ⟨fun c hc => (h.c c hc).mono l, h.k.mono l, h.b, l2⟩
theorem cut_take' {ds : List PyData} {j : Nat} : cutL ds none (some (j : Int)) = ds.take j := by
  unfold cutL
  rw [HT.sIx_nat, HT.sIx_none]
  rcases Nat.le_total j ds.length with h | h
  · rw [Nat.min_eq_left h]
    simp
  · rw [Nat.min_eq_right h]
    simp [List.take_of_length_le h]
theorem pNe_r (x : Rat) : pNe (frD x) (frD x) = some false := by
  unfold pNe
  rw [pEq_r, decide_eq_true rfl]
  rfl
theorem pNe_pt (p : P2) : pNe (pD p) (pD p) = some false := by
  rw [pNe_p, decide_eq_true rfl]
  rfl
theorem aCons_ok {a : ME} {r : MA} {env : Env} {s s1 s2 : Sto} {v : Vl} {vs : List Vl} (ha : a env s = .ok v s1) (hr : r env s1 = .ok vs s2) : aCons a r env s = .ok (v :: vs) s2 := by
  unfold aCons
  rw [ha]
  simp only [Out.bind, hr]
/-- with the first corner, and some others -/
theorem lot_some {m : Nat} {cs l : List P2} {kp a : P2} (h : Lot m cs kp) (ha : a ∈ cs) (h1 : kp.1 < a.1) (h2 : kp.2 < a.2) (hs : ∀ c ∈ l, c ∈ cs) (hl : l.length ≤ 5) : Lot m (a :: l) kp := by
  have hs' : ∀ c ∈ a :: l, c ∈ cs := fun c hc => by
    rw [List.mem_cons] at hc
    rcases hc with rfl | hc
    · exact ha
    · exact hs c hc
  refine ⟨fun c hc => h.c c (hs' c hc), h.k, ?_, h.l⟩
  unfold isLotB lenB
  simp only [Bool.and_eq_true, decide_eq_true_eq, List.all_eq_true, List.any_eq_true, List.length_cons]
  exact ⟨⟨by omega, by omega⟩, (fun c hc => h.all (hs' c hc)), ⟨a, List.mem_cons_self .., h1⟩, ⟨a, List.mem_cons_self .., h2⟩⟩
/-! ### sizes, closer -/
section
variable {m n g : Nat} {t : Rat} {p q kp : P2} {cs rows : List P2}
theorem seg_szg (ht : Sz n t) (h1 : SzP g p) (h2 : SzP g q) (h : p.1 < q.1) : Sz (n + 6 * g + 4) (seg t p q) := by
  have h0 : q.1 - p.1 ≠ 0 := by grind
  exact (h1.b.add (((ht.sub h1.a).div (h2.a.sub h1.a) h0).mul (h2.b.sub h1.b))).mono (by omega)
theorem segs_szg (ht : Sz n t) : ∀ (p : P2) (r : List P2), SzL g (p :: r) → upX p r → ∀ v, segs t p r = some v → Sz (n + 6 * g + 4) v
  | p, [], _, _, v, h => by cases h
  | p, q :: r, hs, hu, v, h => by
    rw [segs] at h
    split at h
    · cases h
      exact seg_szg ht (hs p (List.mem_cons_self ..)) (hs q (by simp)) hu.1
    · exact segs_szg ht q r (fun a ha => hs a (List.mem_cons_of_mem _ ha)) hu.2 v h
theorem otherAt_szg (hr : SzL g rows) (hu : UpX rows) (ht : Sz n t) : ∀ v, otherAt rows t = some v → Sz (n + 6 * g + 4) v := fun v h => by
  cases rows with
  | nil => exact hu.elim
  | cons p r =>
    rw [otherAt_cons] at h
    by_cases q1 : (lastP p r).1 < t
    · rw [if_pos q1] at h
      cases h
    · rw [if_neg q1] at h
      by_cases q2 : t ≤ p.1
      · rw [if_pos q2] at h
        cases h
        exact (hr p (List.mem_cons_self ..)).b.mono (by omega)
      · rw [if_neg q2] at h
        cases hw : segs t p r with
        | some w =>
          rw [hw] at h
          cases h
          exact segs_szg ht p r hr hu _ hw
        | none =>
          rw [hw] at h
          cases h
          exact (hr _ (lastP_mem p r)).b.mono (by omega)
theorem gns_szg (h : Lot m cs kp) : SzL (2 * m + 1) (gns cs kp) := fun p hp => by
  obtain ⟨c, hc, rfl⟩ := List.mem_map.mp hp
  exact (sub2_sz (h.c c hc) h.k).mono (by omega)
theorem outer_szg (h : Lot m cs kp) : SzL (2 * m + 1) (outer cs kp) := fun q hq => by
  obtain ⟨p, r, e, hl⟩ := lot_hl h
  rw [e] at hq
  exact gns_szg h q (hl.sub q hq)
end
end Ev
/-! LotsV: sides exchanged, the most for a side, full and sharp points, scaled lots: what the defs compute. -/
namespace Ev
open PySem
section
variable {m n k : Nat} {x y z t w b : Rat} {p q one : P2} {cs cs2 G R rows : List P2} {kp k2 : P2} {s : Sto}
theorem turnR_len : (turnR rows).length = rows.length := by
  unfold turnR
  rw [List.length_map, List.length_reverse]
theorem turnR_sz (h : SzL n rows) : SzL n (turnR rows) := fun q hq => by
  rw [turnR_eq, List.mem_reverse] at hq
  obtain ⟨g, hg, rfl⟩ := List.mem_map.mp hq
  exact ⟨(h g hg).b, (h g hg).a⟩
theorem turn_up (h : Lot m cs kp) : UpX (turnR (outer cs kp)) := by
  obtain ⟨p, r, e, hl⟩ := lot_hl h
  obtain ⟨r', e1, _, h'⟩ := turn_hl hl
  rw [e, e1]
  exact upX_cv _ _ h'.cv
theorem pEq_opt (y : Rat) (o : Option Rat) : pEq (frD y) (optD o) = some (decide (o = some y)) := by
  cases o with
  | none => rfl
  | some v =>
    show pEq (frD y) (frD v) = _
    rw [pEq_r]
    congr 1
    rw [decide_eq_decide]
    constructor
    · intro h; rw [h]
    · intro h; injection h with h; exact h.symm
theorem pEq_opts (o o2 : Option Rat) : pEq (optD o) (optD o2) = some (decide (o = o2)) := by
  cases o with
  | none => cases o2 <;> rfl
  | some v =>
    refine (pEq_opt v o2).trans ?_
    congr 1
    rw [decide_eq_decide]
    exact eq_comm
theorem pNe_opts (o : Option Rat) : pNe (optD o) (optD o) = some false := by
  unfold pNe
  rw [pEq_opts, decide_eq_true rfl]
  rfl

theorem turned_rows_r (hl : rows.length ≤ 1000) : F_turned_rows [.dat (.list (rows.map pD))] s = .ok (.dat (.list ((turnR rows).map pD))) s := by
  refine fnS_dat0 rfl (sRet_ok ?_)
  unfold turnR
  rw [List.map_map]
  exact lc_map pD _ rows.reverse (by
    show Out.bind (noX (okD (some (.list (rows.map pD).reverse)) s)) _ = _
    rw [← List.map_reverse]
    rfl) (by rw [List.length_reverse]; exact hl) fun p hp => ⟨_, rfl, tup2 rfl rfl⟩




















def isFull (cs : List P2) (kp x : P2) : Bool := isIn cs kp x && (decide (otherAt (outer cs kp) (x.1 - kp.1) = some (x.2 - kp.2)) || (match outer cs kp with
  | [] => false
  | p :: r => decide (x.1 - kp.1 = (lastP p r).1)))
def isSharp (cs : List P2) (kp x : P2) : Bool := isIn cs kp x && (decide (otherAt (outer cs kp) (x.1 - kp.1) = some (x.2 - kp.2)) && decide (otherAt (turnR (outer cs kp)) (x.2 - kp.2) = some (x.1 - kp.1)))

theorem is_full_r (h : Lot m cs kp) (hp : SzP n p) (l : n ≤ 700) : F_is_full [.dat (lotD cs kp), .dat (pD p)] s = .ok (.dat (.bool (isFull cs kp p))) s := by
  have l' := h.l
  have os := outer_sz h
  have hg := sub2_sz hp h.k
  refine fnS_dat0 rfl ?_
  have c := eCall2_dat (f := F_is_in) (a := eVar 0) (b := eVar 1) (env := [some (.dat (lotD cs kp)), some (.dat (pD p)), none, none]) (d := lotD cs kp) (e := pD p) rfl rfl (is_in_r (s := s) h (lot_up h) hp l)
  unfold isFull
  cases hi : isIn cs kp p with
  | false =>
    rw [hi] at c
    exact sif_do (eNot_dat c) rfl
  | true =>
    rw [hi] at c
    refine (sif_skip (eNot_dat c)).trans ?_
    refine (sCons_nx (sPar2_ok (eCall2_dat (d := lotD cs kp) (e := pD p) rfl rfl (gains_at_r h hp (by omega))) (eCall1_dat (d := lotD cs kp) rfl (outer_gains_r h)))).trans (sRet_ok ?_)
    have ht : Sz (n + m + 1) (p.1 - kp.1) := hg.a
    have w1 : eCmp pEq (e2 pIx (eVar 2) (eCst (.int (1)))) (eCall F_other_at (aCons (eVar 3) (aCons (e2 pIx (eVar 2) (eCst (.int (0)))) (aNil)))) [some (.dat (lotD cs kp)), some (.dat (pD p)), some (.dat (pD (sub2 p kp))), some (.dat (.list ((outer cs kp).map pD)))] s = .ok (.dat (.bool (decide (otherAt (outer cs kp) (p.1 - kp.1) = some (p.2 - kp.2))))) s := eCmp_dat (d := frD (p.2 - kp.2)) rfl (eCall2_dat (d := .list ((outer cs kp).map pD)) (e := frD (p.1 - kp.1)) rfl rfl (other_at_r os (lot_up h) ht (by omega))) (pEq_opt _ _)
    obtain ⟨p0, r0, eo, hl⟩ := lot_hl h
    have w2 : eCmp pEq (e2 pIx (eVar 2) (eCst (.int (0)))) (e2 pIx (e2 pIx (eVar 3) (e1 pNeg (eCst (.int (1))))) (eCst (.int (0)))) [some (.dat (lotD cs kp)), some (.dat (pD p)), some (.dat (pD (sub2 p kp))), some (.dat (.list ((outer cs kp).map pD)))] s = .ok (.dat (.bool (decide (p.1 - kp.1 = (lastP p0 r0).1)))) s := by
      rw [eo]
      exact eCmp_dat (d := frD (p.1 - kp.1)) (e := frD (lastP p0 r0).1) rfl (e2_dat (e2_dat (d := .list ((p0 :: r0).map pD)) (e := .int (-1)) rfl rfl ix_lastP) rfl rfl) (pEq_r _ _)
    rw [eo] at w1 w2 ⊢
    rw [Bool.true_and]
    cases hd : decide (otherAt (p0 :: r0) (p.1 - kp.1) = some (p.2 - kp.2)) with
    | true =>
      rw [hd] at w1
      exact eOr_t w1
    | false =>
      rw [hd] at w1
      exact eOr_f w1 w2




































theorem lot_sw (h : Lot m cs kp) : Lot m (cs.map sw) (sw kp) := by
  have ln := h.len
  obtain ⟨⟨c1, h1, k1⟩, ⟨c2, h2, k2⟩⟩ := h.any
  refine ⟨fun c hc => ?_, ⟨h.k.b, h.k.a⟩, ?_, h.l⟩
  · obtain ⟨c, hc, rfl⟩ := List.mem_map.mp hc
    rename_i hc'
    exact ⟨(h.c c (by assumption)).b, (h.c c (by assumption)).a⟩
  · unfold isLotB lenB
    simp only [Bool.and_eq_true, decide_eq_true_eq, List.all_eq_true, List.any_eq_true, List.length_map]
    refine ⟨ln, fun c hc => ?_, ⟨sw c2, List.mem_map_of_mem h2, k2⟩, ⟨sw c1, List.mem_map_of_mem h1, k1⟩⟩
    obtain ⟨c', hc', rfl⟩ := List.mem_map.mp hc
    have := h.all hc'
    exact ⟨this.2, this.1⟩
theorem gns_sw : gns (cs.map sw) (sw kp) = (gns cs kp).map sw := by
  unfold gns
  rw [List.map_map, List.map_map]
  rfl
theorem outer_sw (h : Lot m cs kp) : outer (cs.map sw) (sw kp) = turnR (outer cs kp) := by
  obtain ⟨p, r, e, hl⟩ := lot_hl h
  show edge (inOrd (gns (cs.map sw) (sw kp))) = _
  rw [gns_sw, e]
  exact edge_turn hl







def scP (sd : Bool) (b w : Rat) (p : P2) : P2 := if sd then (p.1, p.2 * b + w) else (p.1 * b + w, p.2)
theorem scP_sz {sd : Bool} (hp : SzP n p) (hb : Sz k b) (hw : Sz m w) : SzP (n + k + m + 1) (scP sd b w p) := by
  cases sd with
  | true => exact ⟨hp.a.mono (by omega), ((hp.b.mul hb).add hw).mono (by omega)⟩
  | false => exact ⟨((hp.a.mul hb).add hw).mono (by omega), hp.b.mono (by omega)⟩




































end
end Ev
/-! HullF: same lots, scaled lots, bests, by the outer edge. -/
namespace Ev
open PySem
section
variable {G G' cs cs2 rows : List P2} {p p' kp : P2} {r r' : List P2} {t y v b w : Rat} {m n : Nat}
theorem Hl.congr (h : Hl G p r) (e : ∀ x, x ∈ G ↔ x ∈ G') : Hl G' p r := ⟨h.cv, fun g hg => h.top g ((e g).mpr hg), fun g hg => h.rgt g ((e g).mpr hg), fun g hg => h.bel g ((e g).mpr hg), fun q hq => (e q).mp (h.sub q hq)⟩
theorem hl_sub2 (h : Hl G p r) (h' : Hl G' p' r') (k : ∀ g ∈ G, Reg p' r' g) (k' : ∀ g ∈ G', Reg p r g) : ∀ g ∈ p :: r, g ∈ p' :: r' := fun g hg => by
  rcases (k g (h.sub g hg)).under h' with ⟨a, ha, h1, h2⟩ | ⟨a, b, ha, hb, h1, h2, h3⟩
  · have := pareto h.cv hg (k' a (h'.sub a ha)) h1 h2
    rw [← this]
    exact ha
  · have := vertex h.cv hg (k' a (h'.sub a ha)) (k' b (h'.sub b hb)) h1 h2
    grind
theorem hl_same (h : Hl G p r) (h' : Hl G' p' r') (k : ∀ g ∈ G, Reg p' r' g) (k' : ∀ g ∈ G', Reg p r g) : p :: r = p' :: r' :=
  sorted_eq _ _ ((cv_pair _ h.cv).imp fun {a b} w => w.1) ((cv_pair _ h'.cv).imp fun {a b} w => w.1) fun x => ⟨hl_sub2 h h' k k' x, hl_sub2 h' h k' k x⟩
theorem same_iff (h : Lot m cs kp) (h2 : Lot n cs2 kp) : (within cs kp cs2 kp && within cs2 kp cs kp) = decide (outer cs kp = outer cs2 kp) := by
  obtain ⟨p, r, e, hl⟩ := lot_hl h
  obtain ⟨p', r', e', hl'⟩ := lot_hl h2
  by_cases q : outer cs kp = outer cs2 kp
  · rw [decide_eq_true q]
    have i : ∀ x, isIn cs kp x = isIn cs2 kp x := fun x => by
      unfold isIn
      rw [q]
    unfold within
    simp only [Bool.and_eq_true, decide_eq_true_eq, List.all_eq_true]
    exact ⟨⟨trivial, fun c hc => by rw [← i]; exact in_corner h hc⟩, trivial, fun c hc => by rw [i]; exact in_corner h2 hc⟩
  · rw [decide_eq_false q]
    cases hw : (within cs kp cs2 kp && within cs2 kp cs kp) with
    | false => rfl
    | true =>
      exfalso
      apply q
      unfold within at hw
      simp only [Bool.and_eq_true, decide_eq_true_eq, List.all_eq_true] at hw
      rw [e, e']
      refine hl_same hl hl' (fun g hg => ?_) (fun g hg => ?_)
      · obtain ⟨c, hc, rfl⟩ := List.mem_map.mp hg
        exact ((isIn_iff e' hl').mp (hw.1.2 c hc)).2.2
      · obtain ⟨c, hc, rfl⟩ := List.mem_map.mp hg
        exact ((isIn_iff e hl).mp (hw.2.2 c hc)).2.2
theorem bst_hl (h : Hl (gns cs kp) p r) : bst cs kp = ((lastP p r).1, p.2) := by
  unfold bst
  have ne : gns cs kp ≠ [] := List.ne_nil_of_mem (h.sub p (List.mem_cons_self ..))
  refine Prod.ext ?_ ?_
  · show most _ = (lastP p r).1
    have h1 : (lastP p r).1 ≤ most ((gns cs kp).map Prod.fst) := most_le (List.mem_map_of_mem (h.sub _ (lastP_mem p r)))
    obtain ⟨a, ha, e⟩ := List.mem_map.mp (most_mem (xs := (gns cs kp).map Prod.fst) (by simpa using ne))
    have := h.rgt a ha
    grind
  · show most _ = p.2
    have h1 : p.2 ≤ most ((gns cs kp).map Prod.snd) := most_le (List.mem_map_of_mem (h.sub p (List.mem_cons_self ..)))
    obtain ⟨a, ha, e⟩ := List.mem_map.mp (most_mem (xs := (gns cs kp).map Prod.snd) (by simpa using ne))
    have := h.top a ha
    grind
theorem bst_sw (h : Lot m cs kp) : bst (cs.map sw) (sw kp) = sw (bst cs kp) := by
  unfold bst
  rw [gns_sw, List.map_map, List.map_map]
  rfl
theorem reg_sw {g : P2} (h : Hl G p r) (k : Reg p r g) : ∃ r', turnR (p :: r) = sw (lastP p r) :: r' ∧ lastP (sw (lastP p r)) r' = sw p ∧ Hl (G.map sw) (sw (lastP p r)) r' ∧ Reg (sw (lastP p r)) r' (sw g) := by
  obtain ⟨r', e1, e2, h'⟩ := turn_hl h
  refine ⟨r', e1, e2, h', ?_, k.x, ?_⟩
  · rw [e2]
    exact k.y
  · rw [← e1, turnR_eq]
    have := rev_sw_bel r p [] h.cv k.b trivial
    rw [List.append_nil] at this
    exact this
/-- where a side can gain so much, the other gains nothing at the least -/
theorem oa_nn (h : Hl G p r) (hn : ∀ g ∈ G, 0 ≤ g.1 ∧ 0 ≤ g.2) (e : otherAt (p :: r) t = some v) : 0 ≤ v := by
  have hx : ¬ (lastP p r).1 < t := fun z => by
    rw [(oa_none h.cv).mpr z] at e
    cases e
  have k := h.reg (h.sub _ (lastP_mem p r))
  have k2 : Reg p r (t, 0) := k.mono h.cv (by show t ≤ _; grind) (by have := (hn _ (h.sub _ (lastP_mem p r))).2; exact this)
  obtain ⟨v', e', l⟩ := (reg_iff h).mp k2
  rw [e] at e'
  cases e'
  exact l
/-! ### scaled -/
def scG (sd : Bool) (b : Rat) (g : P2) : P2 := if sd then (g.1, g.2 * b) else (g.1 * b, g.2)
theorem sl_scG {sd : Bool} {a c : P2} (b0 : 0 < b) (h : a.1 < c.1) : (scG sd b a).1 < (scG sd b c).1 ∧ (sd = true → sl (scG sd b a) (scG sd b c) = sl a c * b) ∧ (sd = false → sl (scG sd b a) (scG sd b c) * b = sl a c) := by
  have e := sl_mul h
  cases sd with
  | true =>
    refine ⟨h, fun _ => ?_, fun z => nomatch z⟩
    have e2 := sl_mul (a := (a.1, a.2 * b)) (b := (c.1, c.2 * b)) h
    show sl (a.1, a.2 * b) (c.1, c.2 * b) = sl a c * b
    have e2 : sl (a.1, a.2 * b) (c.1, c.2 * b) * (c.1 - a.1) = c.2 * b - a.2 * b := e2
    have : (sl (a.1, a.2 * b) (c.1, c.2 * b) - sl a c * b) * (c.1 - a.1) = 0 := by grind
    rcases Rat.mul_eq_zero.mp this with z | z <;> grind
  | false =>
    have hl : a.1 * b < c.1 * b := by
      have := mul_pp (a := c.1 - a.1) (b := b) (by grind) b0
      grind
    refine ⟨hl, (fun z => nomatch z), fun _ => ?_⟩
    have e2 := sl_mul (a := (a.1 * b, a.2)) (b := (c.1 * b, c.2)) hl
    show sl (a.1 * b, a.2) (c.1 * b, c.2) * b = sl a c
    have e2 : sl (a.1 * b, a.2) (c.1 * b, c.2) * (c.1 * b - a.1 * b) = c.2 - a.2 := e2
    have : (sl (a.1 * b, a.2) (c.1 * b, c.2) * b - sl a c) * (c.1 - a.1) = 0 := by grind
    rcases Rat.mul_eq_zero.mp this with z | z <;> grind
theorem mul_lt {x y : Rat} (b0 : 0 < b) : x * b < y * b ↔ x < y := by
  constructor
  · intro h
    apply Classical.byContradiction
    intro q
    have := mul_nn (a := x - y) (b := b) (by grind) (by grind)
    grind
  · intro h
    have := mul_pp (a := y - x) (b := b) (by grind) b0
    grind
theorem scG_cv {sd : Bool} (b0 : 0 < b) : ∀ (rows : List P2), Cv rows → Cv (rows.map (scG sd b))
  | [], _ => trivial
  | [p], _ => trivial
  | p :: q :: r, h => by
    obtain ⟨k1, k2, k3⟩ := sl_scG (sd := sd) b0 h.1
    refine ⟨k1, ?_, fun s r' z => ?_, scG_cv b0 (q :: r) h.2.2.2⟩
    · have := h.2.1
      cases sd with
      | true => exact (mul_lt b0).mpr this
      | false => exact this
    · cases r with
      | nil => cases z
      | cons q2 r2 =>
        cases z
        have hs := h.2.2.1 q2 r2 rfl
        obtain ⟨j1, j2, j3⟩ := sl_scG (sd := sd) b0 h.2.2.2.1
        cases sd with
        | true =>
          rw [k2 rfl, j2 rfl]
          exact (mul_lt b0).mpr hs
        | false =>
          rw [← k3 rfl, ← j3 rfl] at hs
          exact (mul_lt b0).mp hs
theorem scG_bel {sd : Bool} {g : P2} (b0 : 0 < b) : ∀ (rows : List P2), Cv rows → BelF rows g → BelF (rows.map (scG sd b)) (scG sd b g)
  | [], _, _ => trivial
  | [p], _, _ => trivial
  | p :: q :: r, h, hb => by
    obtain ⟨k1, k2, k3⟩ := sl_scG (sd := sd) b0 h.1
    refine ⟨?_, scG_bel b0 (q :: r) h.2.2.2 hb.2⟩
    have h1 := hb.1
    unfold bel at *
    cases sd with
    | true =>
      rw [k2 rfl]
      show g.2 * b ≤ p.2 * b + sl p q * b * (g.1 - p.1)
      have := mul_nn (a := p.2 + sl p q * (g.1 - p.1) - g.2) (b := b) (by grind) (by grind)
      grind
    | false =>
      have k := k3 rfl
      show g.2 ≤ p.2 + sl (scG false b p) (scG false b q) * (g.1 * b - p.1 * b)
      rw [← k] at h1
      grind
theorem scG_hl {sd : Bool} (b0 : 0 < b) (h : Hl G p r) : Hl (G.map (scG sd b)) (scG sd b p) (r.map (scG sd b)) := by
  refine ⟨scG_cv b0 (p :: r) h.cv, fun g hg => ?_, fun g hg => ?_, fun g hg => ?_, fun q hq => ?_⟩
  · obtain ⟨g', hg', rfl⟩ := List.mem_map.mp hg
    have := h.top g' hg'
    cases sd with
    | true =>
      show g'.2 * b ≤ p.2 * b
      have := mul_nn (a := p.2 - g'.2) (b := b) (by grind) (by grind)
      grind
    | false => exact this
  · obtain ⟨g', hg', rfl⟩ := List.mem_map.mp hg
    have := h.rgt g' hg'
    rw [lastP_map]
    cases sd with
    | true => exact this
    | false =>
      show g'.1 * b ≤ (lastP p r).1 * b
      have := mul_nn (a := (lastP p r).1 - g'.1) (b := b) (by grind) (by grind)
      grind
  · obtain ⟨g', hg', rfl⟩ := List.mem_map.mp hg
    exact scG_bel b0 (p :: r) h.cv (h.bel g' hg')
  · obtain ⟨g', hg', rfl⟩ := List.mem_map.mp (show q ∈ (p :: r).map (scG sd b) from hq)
    exact List.mem_map_of_mem (h.sub g' hg')
theorem gns_scP {sd : Bool} : gns (cs.map (scP sd b w)) (scP sd b w kp) = (gns cs kp).map (scG sd b) := by
  unfold gns
  rw [List.map_map, List.map_map]
  refine List.map_congr_left fun c _ => ?_
  cases sd with
  | true =>
    refine Prod.ext rfl ?_
    show c.2 * b + w - (kp.2 * b + w) = (c.2 - kp.2) * b
    grind
  | false =>
    refine Prod.ext ?_ rfl
    show c.1 * b + w - (kp.1 * b + w) = (c.1 - kp.1) * b
    grind
theorem outer_scP {sd : Bool} (b0 : 0 < b) (h : Lot m cs kp) : outer (cs.map (scP sd b w)) (scP sd b w kp) = (outer cs kp).map (scG sd b) := by
  obtain ⟨p, r, e, hl⟩ := lot_hl h
  show edge (inOrd (gns (cs.map (scP sd b w)) (scP sd b w kp))) = _
  rw [gns_scP, e]
  exact edge_of (scG_hl b0 hl)
theorem lot_scP {sd : Bool} {k j : Nat} (b0 : 0 < b) (h : Lot m cs kp) (hb : Sz k b) (hw : Sz j w) (l : m + k + j + 1 ≤ 200) : Lot (m + k + j + 1) (cs.map (scP sd b w)) (scP sd b w kp) := by
  have ln := h.len
  obtain ⟨⟨c1, h1, k1⟩, ⟨c2, h2, k2⟩⟩ := h.any
  have le : ∀ {x y : Rat}, x ≤ y → x * b + w ≤ y * b + w := fun {x y} q => by
    have := mul_nn (a := y - x) (b := b) (by grind) (by grind)
    grind
  have lt : ∀ {x y : Rat}, x < y → x * b + w < y * b + w := fun {x y} q => by
    have := mul_pp (a := y - x) (b := b) (by grind) b0
    grind
  refine ⟨fun c hc => ?_, scP_sz h.k hb hw, ?_, l⟩
  · obtain ⟨c', hc', rfl⟩ := List.mem_map.mp hc
    exact scP_sz (h.c c' hc') hb hw
  · unfold isLotB lenB
    simp only [Bool.and_eq_true, decide_eq_true_eq, List.all_eq_true, List.any_eq_true, List.length_map]
    refine ⟨ln, fun c hc => ?_, ⟨scP sd b w c1, List.mem_map_of_mem h1, ?_⟩, ⟨scP sd b w c2, List.mem_map_of_mem h2, ?_⟩⟩
    · obtain ⟨c', hc', rfl⟩ := List.mem_map.mp hc
      have := h.all hc'
      cases sd with
      | true => exact ⟨this.1, le this.2⟩
      | false => exact ⟨le this.1, this.2⟩
    · cases sd with
      | true => exact k1
      | false => exact lt k1
    · cases sd with
      | true => exact lt k2
      | false => exact k2
theorem segs_scale : ∀ (p : P2) (r : List P2), upX p r → segs t (scG true b p) (r.map (scG true b)) = (segs t p r).map (· * b)
  | p, [], _ => rfl
  | p, q :: r, h => by
    rw [List.map_cons, segs, segs]
    have ih := segs_scale q r h.2
    by_cases hq : t ≤ q.1
    · rw [if_pos hq, if_pos (show t ≤ (scG true b q).1 from hq)]
      show some _ = some _
      congr 1
      show p.2 * b + (t - p.1) / (q.1 - p.1) * (q.2 * b - p.2 * b) = (p.2 + (t - p.1) / (q.1 - p.1) * (q.2 - p.2)) * b
      grind
    · rw [if_neg hq, if_neg (show ¬ t ≤ (scG true b q).1 from hq)]
      exact ih
theorem oa_scale (h : upX p r) : otherAt ((p :: r).map (scG true b)) t = (otherAt (p :: r) t).map (· * b) := by
  rw [List.map_cons, otherAt_cons, otherAt_cons, lastP_map]
  by_cases q1 : (lastP p r).1 < t
  · rw [if_pos q1, if_pos (show (scG true b (lastP p r)).1 < t from q1)]
    rfl
  · rw [if_neg q1, if_neg (show ¬ (scG true b (lastP p r)).1 < t from q1)]
    by_cases q2 : t ≤ p.1
    · rw [if_pos q2, if_pos (show t ≤ (scG true b p).1 from q2)]
      rfl
    · rw [if_neg q2, if_neg (show ¬ t ≤ (scG true b p).1 from q2), segs_scale p r h]
      cases segs t p r <;> rfl
theorem turnR_scale : turnR (rows.map (scG false b)) = (turnR rows).map (scG true b) := by
  rw [turnR_eq, turnR_eq, List.map_map, List.map_reverse, List.map_map]
  rfl
theorem scP_back {sd : Bool} {p : P2} (b0 : 0 < b) : scP sd (1 / b) (0 - w / b) (scP sd b w p) = p := by
  have hb : b ≠ 0 := by grind
  cases sd with
  | true =>
    refine Prod.ext rfl ?_
    show (p.2 * b + w) * (1 / b) + (0 - w / b) = p.2
    grind
  | false =>
    refine Prod.ext ?_ rfl
    show (p.1 * b + w) * (1 / b) + (0 - w / b) = p.1
    grind
end
end Ev
/-! LotsO: patience, offers: what the defs compute. -/
namespace Ev
open PySem
/-- a share: above 0, below 1, below at most 12 -/
structure Shr (q : Rat) : Prop where
  a : 0 < q
  b : q < 1
  d : q.den ≤ 12
theorem Shr.sz {q : Rat} (h : Shr q) : Sz 4 q := by
  have d := h.d
  have hb : q.num < q.den := by
    have := h.b
    rw [Rat.lt_iff] at this
    have e1 : (1 : Rat).num = 1 := rfl
    have e2 : (1 : Rat).den = 1 := rfl
    rw [e1, e2] at this
    omega
  have ha : 0 ≤ q.num := Rat.num_nonneg.mpr (by have := h.a; grind)
  exact ⟨by omega, by omega⟩
section
variable {m n k : Nat} {x y t u v : Rat} {p q : P2} {cs rows : List P2} {kp dl : P2} {s : Sto}

theorem is_share_r (h : Shr x) : F_is_share [.dat (frD x)] s = .ok (.dat (.bool true)) s := by
  have z := h.sz
  have c1 := less_r (m := 4) (x := 0) szc z (by omega) (by omega) s
  have c2 := less_r (n := 4) (y := 1) z szc (by omega) (by omega) s
  rw [decide_eq_true h.a] at c1
  rw [decide_eq_true h.b] at c2
  have c3 : pLe (.int (x.den : Int)) (.int 12) = some true := by
    show some (decide ((x.den : Int) ≤ 12)) = _
    rw [decide_eq_true (by have := h.d; omega)]
  exact fnS_dat0 rfl (sRet_ok (eAnd_t (eCall1_dat (d := frD x) rfl (isf_r z (by omega) s)) (eAnd_t (eCmp_dat (d := .int (x.den : Int)) (e := .int 12) rfl rfl c3) (eAnd_t (eCall2_dat (d := frD 0) (e := frD x) rfl rfl c1) (eCall2_dat (d := frD x) (e := frD 1) rfl rfl c2)))))

theorem is_patience_r (h1 : Shr dl.1) (h2 : Shr dl.2) : F_is_patience [.dat (pD dl)] s = .ok (.dat (.bool true)) s :=
  fnS_dat0 rfl (sRet_ok (eAnd_t (eCall2_dat rfl rfl (many_r _ _)) (eAnd_t (eCall1_dat (d := frD dl.1) rfl (is_share_r h1)) (eCall1_dat (d := frD dl.2) rfl (is_share_r h2)))))

theorem check_patience_r (h1 : Shr dl.1) (h2 : Shr dl.2) : F_check_patience [.dat (pD dl)] s = .ok (.dat .none) s := check_ok rfl (is_patience_r h1 h2)

/-- the other's most, where there is one -/
def oa (rows : List P2) (t : Rat) : Rat := (otherAt rows t).getD 0
theorem oa_ok {r : List P2} (c : Cv (p :: r)) (h : t ≤ (lastP p r).1) : otherAt (p :: r) t = some (oa (p :: r) t) := by
  obtain ⟨v, e, _⟩ := oa_some c h
  unfold oa
  rw [e]
  rfl
theorem oa_le {r : List P2} {G : List P2} (h : Hl G p r) (hx : t ≤ (lastP p r).1) : oa (p :: r) t ≤ p.2 := ((reg_iff h).mpr ⟨_, oa_ok h.cv hx, by grind⟩ : Reg p r (t, oa (p :: r) t)).y
theorem oa_nn' {r : List P2} {G : List P2} (h : Hl G p r) (hn : ∀ g ∈ G, 0 ≤ g.1 ∧ 0 ≤ g.2) (hx : t ≤ (lastP p r).1) : 0 ≤ oa (p :: r) t := oa_nn h hn (oa_ok h.cv hx)
/-- more for the one is no more for the other -/
theorem oa_anti {r : List P2} {G : List P2} (h : Hl G p r) (hx : u ≤ (lastP p r).1) (htu : t ≤ u) : oa (p :: r) u ≤ oa (p :: r) t := by
  have k : Reg p r (u, oa (p :: r) u) := (reg_iff h).mpr ⟨_, oa_ok h.cv hx, by grind⟩
  have k2 : Reg p r (t, oa (p :: r) u) := k.mono h.cv htu (by show oa (p :: r) u ≤ oa (p :: r) u; grind)
  obtain ⟨v, e, l⟩ := (reg_iff h).mp k2
  have e2 := oa_ok h.cv (t := t) (by grind)
  rw [e] at e2
  rw [← Option.some.inj e2]
  exact l
/-- a lot's bests and edges, as the offers want them -/
structure Edge (cs : List P2) (kp : P2) (X Y : Rat) : Prop where
  x : ∀ t, t ≤ X → otherAt (outer cs kp) t = some (oa (outer cs kp) t) ∧ 0 ≤ oa (outer cs kp) t ∧ oa (outer cs kp) t ≤ Y
  y : ∀ t, t ≤ Y → otherAt (turnR (outer cs kp)) t = some (oa (turnR (outer cs kp)) t) ∧ 0 ≤ oa (turnR (outer cs kp)) t ∧ oa (turnR (outer cs kp)) t ≤ X
  ax : ∀ t u, t ≤ u → u ≤ X → oa (outer cs kp) u ≤ oa (outer cs kp) t
  ay : ∀ t u, t ≤ u → u ≤ Y → oa (turnR (outer cs kp)) u ≤ oa (turnR (outer cs kp)) t
  X0 : 0 ≤ X
  Y0 : 0 ≤ Y
  b : bst cs kp = (X, Y)
  x0 : oa (outer cs kp) 0 = Y
  y0 : oa (turnR (outer cs kp)) 0 = X
  /-- back and forth -/
  xy : ∀ t, t ≤ Y → t ≤ oa (outer cs kp) (oa (turnR (outer cs kp)) t)
  yx : ∀ t, t ≤ X → t ≤ oa (turnR (outer cs kp)) (oa (outer cs kp) t)
theorem edge_ok (h : Lot m cs kp) : ∃ X Y, Edge cs kp X Y := by
  obtain ⟨p, r, e, hl⟩ := lot_hl h
  obtain ⟨r', e1, l1, h'⟩ := turn_hl hl
  have nn : ∀ g ∈ gns cs kp, 0 ≤ g.1 ∧ 0 ≤ g.2 := fun g hg => gns_nn h hg
  have nn' : ∀ g ∈ (gns cs kp).map sw, 0 ≤ g.1 ∧ 0 ≤ g.2 := fun g hg => by
    obtain ⟨g', hg', rfl⟩ := List.mem_map.mp hg
    exact ⟨(nn g' hg').2, (nn g' hg').1⟩
  have hx' : ∀ {t}, t ≤ p.2 → t ≤ (lastP (sw (lastP p r)) r').1 := fun {t} q => by rw [l1]; exact q
  have back : ∀ t, t ≤ p.2 → t ≤ oa (p :: r) (oa (sw (lastP p r) :: r') t) := fun t q => by
    have k : Reg (sw (lastP p r)) r' (t, oa (sw (lastP p r) :: r') t) := (reg_iff h').mpr ⟨_, oa_ok h'.cv (hx' q), by grind⟩
    obtain ⟨r2, f1, f2, h2, k2⟩ := reg_sw h' k
    have eq : sw (lastP (sw (lastP p r)) r') :: r2 = p :: r := by
      rw [← f1, ← e1, turnR_turnR]
    have eh := (List.cons.inj eq).1
    have et := (List.cons.inj eq).2
    rw [eh, et] at k2 h2
    obtain ⟨v, ev, l⟩ := (reg_iff h2).mp k2
    have := oa_ok hl.cv (t := oa (sw (lastP p r) :: r') t) (by
      have := oa_le h' (t := t) (hx' q)
      exact this)
    have ev : otherAt (p :: r) (oa (sw (lastP p r) :: r') t) = some v := ev
    rw [ev] at this
    rw [← Option.some.inj this]
    exact l
  have back2 : ∀ t, t ≤ (lastP p r).1 → t ≤ oa (sw (lastP p r) :: r') (oa (p :: r) t) := fun t q => by
    have k : Reg p r (t, oa (p :: r) t) := (reg_iff hl).mpr ⟨_, oa_ok hl.cv q, by grind⟩
    obtain ⟨r2, f1, f2, h2, k2⟩ := reg_sw hl k
    rw [e1] at f1
    have et := (List.cons.inj f1).2
    rw [← et] at k2 h2
    obtain ⟨v, ev, l⟩ := (reg_iff h2).mp k2
    have := oa_ok h'.cv (t := oa (p :: r) t) (hx' (oa_le hl q))
    have ev : otherAt (sw (lastP p r) :: r') (oa (p :: r) t) = some v := ev
    rw [ev] at this
    rw [← Option.some.inj this]
    exact l
  have pn := nn p (hl.sub p (List.mem_cons_self ..))
  have ln := nn _ (hl.sub _ (lastP_mem p r))
  have z0 : oa (p :: r) 0 = p.2 := by
    unfold oa
    rw [otherAt_cons, if_neg (by grind), if_pos pn.1]
    rfl
  have z1 : oa (sw (lastP p r) :: r') 0 = (lastP p r).1 := by
    unfold oa
    rw [otherAt_cons, if_neg (by rw [l1]; show ¬ p.2 < 0; grind), if_pos (show 0 ≤ (sw (lastP p r)).1 from ln.2)]
    rfl
  refine ⟨(lastP p r).1, p.2, ?_⟩
  constructor
  · rw [e]
    exact fun t q => ⟨oa_ok hl.cv q, oa_nn' hl nn q, oa_le hl q⟩
  · rw [e, e1]
    exact fun t q => ⟨oa_ok h'.cv (hx' q), oa_nn' h' nn' (hx' q), oa_le h' (hx' q)⟩
  · rw [e]
    exact fun t u a b => oa_anti hl b a
  · rw [e, e1]
    exact fun t u a b => oa_anti h' (hx' b) a
  · exact ln.1
  · exact pn.2
  · exact bst_hl hl
  · rw [e]
    exact z0
  · rw [e, e1]
    exact z1
  · rw [e, e1]
    exact back
  · rw [e, e1]
    exact back2
theorem rng_int {a : ME} {env : Env} {s1 : Sto} {i : Int} (h : a env s = .ok (.dat (.int i)) s1) (h0 : 0 ≤ i) (l : i ≤ 1000) : iRng1 a env s = .ok (.its (upFrom 0 i.toNat)) s1 := by
  unfold iRng1
  rw [h]
  simp only [Out.bind]
  rw [decide_eq_true (show i < 16777216 by omega), decide_eq_true (show -16777216 < i by omega)]
  rfl
theorem rng_nat {a : ME} {env : Env} {s1 : Sto} {n : Nat} (h : a env s = .ok (.dat (.int (n : Int))) s1) (l : n ≤ 1000) : iRng1 a env s = .ok (.its (upFrom 0 n)) s1 := by
  have := rng_int h (by omega) (by omega)
  rw [Int.toNat_natCast] at this
  exact this
/-! ### offers -/
variable {X Y w : Rat} {many : Nat}
theorem outer10 (h : Lot m cs kp) (g : SzL 10 (gns cs kp)) : SzL 10 (outer cs kp) := fun q hq => by
  obtain ⟨p, r, e, hl⟩ := lot_hl h
  rw [e] at hq
  exact g q (hl.sub q hq)
theorem oa_sz (h : Lot m cs kp) (g : SzL 10 (gns cs kp)) (E : Edge cs kp X Y) (hw : Sz n w) (l : w ≤ X) : Sz (n + 64) (oa (outer cs kp) w) := otherAt_szg (outer10 h g) (lot_up h) hw _ (E.x w l).1
theorem oa_szt (h : Lot m cs kp) (g : SzL 10 (gns cs kp)) (E : Edge cs kp X Y) (hw : Sz n w) (l : w ≤ Y) : Sz (n + 64) (oa (turnR (outer cs kp)) w) := otherAt_szg (turnR_sz (outer10 h g)) (turn_up h) hw _ (E.y w l).1
/-- what side 0 offers where side 1 waits for so much -/
def ofF (rows : List P2) (w : Rat) : P2 := (oa (turnR rows) w, oa rows (oa (turnR rows) w))
def ofS (rows : List P2) (w : Rat) : P2 := (oa (turnR rows) (oa rows w), oa rows w)

theorem first_offer_r (h : Lot m cs kp) (g : SzL 10 (gns cs kp)) (E : Edge cs kp X Y) (hw : Sz n w) (l : w ≤ Y) (ln : n ≤ 900) : F_first_offer [.dat (.list ((outer cs kp).map pD)), .dat (frD w)] s = .ok (.dat (pD (ofF (outer cs kp) w))) s := by
  have os := outer_sz h
  have ol := outer_len h
  have e1 := other_at_r (s := s) (turnR_sz os) (turn_up h) hw (by omega)
  rw [(E.y w l).1] at e1
  have z1 := oa_szt h g E hw l
  have e2 := other_at_r (s := s) os (lot_up h) z1 (by omega)
  rw [(E.x _ (E.y w l).2.2).1] at e2
  refine fnS_dat0 rfl ?_
  refine (sCons_nx (sSet_ok (eCall2_dat (d := .list ((turnR (outer cs kp)).map pD)) (e := frD w) (eCall1_dat (d := .list ((outer cs kp).map pD)) rfl (turned_rows_r (by omega))) rfl e1))).trans (sRet_ok (tup2 rfl ?_))
  exact eCall2_dat (d := .list ((outer cs kp).map pD)) (e := frD (oa (turnR (outer cs kp)) w)) rfl rfl e2

theorem second_offer_r (h : Lot m cs kp) (g : SzL 10 (gns cs kp)) (E : Edge cs kp X Y) (hw : Sz n w) (l : w ≤ X) (ln : n ≤ 900) : F_second_offer [.dat (.list ((outer cs kp).map pD)), .dat (frD w)] s = .ok (.dat (pD (ofS (outer cs kp) w))) s := by
  have os := outer_sz h
  have ol := outer_len h
  have e1 := other_at_r (s := s) os (lot_up h) hw (by omega)
  rw [(E.x w l).1] at e1
  have z1 := oa_sz h g E hw l
  have e2 := other_at_r (s := s) (turnR_sz os) (turn_up h) z1 (by omega)
  rw [(E.y _ (E.x w l).2.2).1] at e2
  refine fnS_dat0 rfl ?_
  refine (sCons_nx (sSet_ok (eCall2_dat (d := .list ((outer cs kp).map pD)) (e := frD w) rfl rfl e1))).trans (sRet_ok (tup2 ?_ rfl))
  exact eCall2_dat (d := .list ((turnR (outer cs kp)).map pD)) (e := frD (oa (outer cs kp) w)) (eCall1_dat (d := .list ((outer cs kp).map pD)) rfl (turned_rows_r (by omega))) rfl e2

/-- what each side has by its own offer, with so many left -/
def ofst (rows : List P2) (dl : P2) : Nat → P2
  | 0 => (0, 0)
  | k + 1 => (oa (turnR rows) (dl.2 * (ofst rows dl k).2), oa rows (dl.1 * (ofst rows dl k).1))
theorem share_le {q X : Rat} (hq : Shr q) (h0 : 0 ≤ x) (h1 : x ≤ X) : q * x ≤ X ∧ 0 ≤ q * x ∧ q * x ≤ x := by
  have a := hq.a
  have b := hq.b
  have t1 := mul_nn (a := 1 - q) (b := x) (by grind) h0
  have t2 := mul_nn (a := q) (b := x) (by grind) h0
  grind
theorem ofst_ok (E : Edge cs kp X Y) (h1 : Shr dl.1) (h2 : Shr dl.2) : ∀ k, 0 ≤ (ofst (outer cs kp) dl k).1 ∧ (ofst (outer cs kp) dl k).1 ≤ X ∧ 0 ≤ (ofst (outer cs kp) dl k).2 ∧ (ofst (outer cs kp) dl k).2 ≤ Y
  | 0 => ⟨by show (0 : Rat) ≤ 0; grind, E.X0, by show (0 : Rat) ≤ 0; grind, E.Y0⟩
  | k + 1 => by
    obtain ⟨a, b, c, d⟩ := ofst_ok E h1 h2 k
    have u := E.y _ (share_le h2 c d).1
    have v := E.x _ (share_le h1 a b).1
    exact ⟨u.2.1, u.2.2, v.2.1, v.2.2⟩
theorem ofst_sz (h : Lot m cs kp) (g : SzL 10 (gns cs kp)) (E : Edge cs kp X Y) (h1 : Shr dl.1) (h2 : Shr dl.2) : ∀ k, SzP (4 + 68 * k) (ofst (outer cs kp) dl k)
  | 0 => ⟨show Sz 4 (0 : Rat) from szc, show Sz 4 (0 : Rat) from szc⟩
  | k + 1 => by
    obtain ⟨a, b, c, d⟩ := ofst_ok E h1 h2 k
    have ih := ofst_sz h g E h1 h2 k
    exact ⟨(oa_szt h g E (h2.sz.mul ih.b) (share_le h2 c d).1).mono (by omega), (oa_sz h g E (h1.sz.mul ih.a) (share_le h1 a b).1).mono (by omega)⟩
/-- the two gains offered with k + 1 left -/
def ofA (rows : List P2) (dl : P2) (k : Nat) : P2 := ofF rows (dl.2 * (ofst rows dl k).2)
def ofB (rows : List P2) (dl : P2) (k : Nat) : P2 := ofS rows (dl.1 * (ofst rows dl k).1)
theorem ofA_sz (h : Lot m cs kp) (g : SzL 10 (gns cs kp)) (E : Edge cs kp X Y) (h1 : Shr dl.1) (h2 : Shr dl.2) (k : Nat) : SzP (136 + 68 * k) (ofA (outer cs kp) dl k) ∧ SzP (136 + 68 * k) (ofB (outer cs kp) dl k) := by
  obtain ⟨a, b, c, d⟩ := ofst_ok E h1 h2 k
  obtain ⟨a', b', c', d'⟩ := ofst_ok E h1 h2 (k + 1)
  have z := ofst_sz h g E h1 h2 (k + 1)
  have u := oa_sz h g E z.a b'
  have v := oa_szt h g E z.b d'
  exact ⟨⟨z.a.mono (by omega), u.mono (by omega)⟩, ⟨v.mono (by omega), z.b.mono (by omega)⟩⟩
def ofD (rows : List P2) (kp dl : P2) (k : Nat) : PyData := .tuple [pD (add2 (ofA rows dl k) kp), pD (add2 (ofB rows dl k) kp)]

theorem is_from_r {i lo hi : Int} : F_is_from [.dat (.int i), .dat (.int lo), .dat (.int hi)] s = .ok (.dat (.bool (decide (lo ≤ i) && decide (i ≤ hi)))) s := by
  refine fnS_dat0 rfl (sRet_ok (eAnd_t (eCall1_dat (d := .int i) rfl (fnS_dat0 rfl rfl)) ?_))
  by_cases h1 : lo ≤ i
  · by_cases h2 : i ≤ hi
    · simp [eChain, eVar, Out.bind, deref, pLe, okB, noX, h1, h2]
    · simp [eChain, eVar, Out.bind, deref, pLe, okB, noX, h1, h2]
  · simp [eChain, eVar, Out.bind, deref, pLe, okB, noX, h1]
theorem from_row {env : Env} {i lo : Int} (q1 : eVar 2 env s = .ok (.dat (.int i)) s) (h1 : lo ≤ i) (h2 : i ≤ 12) : eCall F_is_from (aCons (eVar 2) (aCons (eCst (.int lo)) (aCons (eCst G_MOST_OFFERS) (aNil)))) env s = .ok (.dat (.bool true)) s := by
  have k := is_from_r (s := s) (i := i) (lo := lo) (hi := 12)
  rw [decide_eq_true h1, decide_eq_true h2] at k
  exact eCall3_dat (e := .int lo) (g := .int 12) q1 rfl rfl k
theorem offers_left_r {mn : Nat} (h : Lot m cs kp) (g : SzL 10 (gns cs kp)) (E : Edge cs kp X Y) (h1 : Shr dl.1) (h2 : Shr dl.2) (m1 : 1 ≤ mn) (m2 : mn ≤ 12) : F_offers_left [.dat (lotD cs kp), .dat (pD dl), .dat (.int (mn : Int))] s = .ok (.dat (.tuple ((List.range mn).map (ofD (outer cs kp) kp dl)))) s := by
  have l' := h.l
  have c := from_row (env := [some (.dat (lotD cs kp)), some (.dat (pD dl)), some (.dat (.int (mn : Int))), none, none, none, none, none, none]) (s := s) (lo := 1) rfl (show (1 : Int) ≤ mn by omega) (show (mn : Int) ≤ 12 by omega)
  have hpar : sPar [3, 4, 5] (aCons (eCall F_outer_gains (aCons (eVar 0) (aNil))) (aNew (eLst (aNil)) (aCons (eTup (aCons (eCst G_NOUGHT) (aCons (eCst G_NOUGHT) (aNil)))) (aNil)))) [some (.dat (lotD cs kp)), some (.dat (pD dl)), some (.dat (.int (mn : Int))), none, none, none, none, none, none] s = .ok (.nx [some (.dat (lotD cs kp)), some (.dat (pD dl)), some (.dat (.int (mn : Int))), some (.dat (.list ((outer cs kp).map pD))), some (.loc s.length), some (.dat (pD (0, 0))), none, none, none]) (s ++ [.lst []]) := by
    have e1 : eCall F_outer_gains (aCons (eVar 0) (aNil)) [some (.dat (lotD cs kp)), some (.dat (pD dl)), some (.dat (.int (mn : Int))), none, none, none, none, none, none] s = .ok (.dat (.list ((outer cs kp).map pD))) s := eCall1_dat (d := lotD cs kp) rfl (outer_gains_r h)
    unfold sPar
    rw [aCons.eq_1 (eCall F_outer_gains (aCons (eVar 0) (aNil))), e1]
    rfl
  have it : iRng1 (eVar 2) [some (.dat (lotD cs kp)), some (.dat (pD dl)), some (.dat (.int (mn : Int))), some (.dat (.list ((outer cs kp).map pD))), some (.loc s.length), some (.dat (pD (0, 0))), none, none, none] (s ++ [.lst []]) = .ok (.its (upFrom 0 mn)) (s ++ [.lst []]) := rng_nat rfl (by omega)
  obtain ⟨env2, s2, f1, v6, v7, v8, rfl, rfl⟩ := for_rel (tg := .nm 6) (body := sCons (sPar [7, 8] (aCons (eCall F_first_offer (aCons (eVar 3) (aCons (eCall P_times (aCons (e2 pIx (eVar 1) (eCst (.int (1)))) (aCons (e2 pIx (eVar 5) (eCst (.int (1)))) (aNil)))) (aNil)))) (aCons (eCall F_second_offer (aCons (eVar 3) (aCons (eCall P_times (aCons (e2 pIx (eVar 1) (eCst (.int (0)))) (aCons (e2 pIx (eVar 5) (eCst (.int (0)))) (aNil)))) (aNil)))) (aNil)))) (sCons (sExp (eApp (eVar 4) (eTup (aCons (eCall F_point_at (aCons (eVar 0) (aCons (eVar 7) (aNil)))) (aCons (eCall F_point_at (aCons (eVar 0) (aCons (eVar 8) (aNil)))) (aNil)))))) (sSet 5 (eTup (aCons (e2 pIx (eVar 7) (eCst (.int (0)))) (aCons (e2 pIx (eVar 8) (eCst (.int (1)))) (aNil)))))))
    (fun j env t => ∃ v6 v7 v8, env = [some (.dat (lotD cs kp)), some (.dat (pD dl)), some (.dat (.int (mn : Int))), some (.dat (.list ((outer cs kp).map pD))), some (.loc s.length), some (.dat (pD (ofst (outer cs kp) dl j))), v6, v7, v8] ∧ t = s ++ [.lst ((List.range j).map (ofD (outer cs kp) kp dl))]) it
    (fun j x env t hx ⟨v6, v7, v8, he, ht⟩ => by
      subst he ht
      obtain ⟨rfl, hj⟩ := upTo_get _ _ _ _ hx
      refine ⟨_, rfl, ?_⟩
      obtain ⟨a, b, c', d⟩ := ofst_ok E h1 h2 j
      have z := ofst_sz h g E h1 h2 j
      obtain ⟨za, zb⟩ := ofA_sz h g E h1 h2 j
      refine ⟨_, _, (sCons_nx (sPar2_ok (eCall2_dat (d := .list ((outer cs kp).map pD)) (e := frD (dl.2 * (ofst (outer cs kp) dl j).2)) rfl (eCall2_dat (d := frD dl.2) (e := frD (ofst (outer cs kp) dl j).2) rfl rfl (times_r h2.sz z.b (by omega) (by omega) _)) (first_offer_r h g E (h2.sz.mul z.b) (share_le h2 c' d).1 (by omega))) (eCall2_dat (d := .list ((outer cs kp).map pD)) (e := frD (dl.1 * (ofst (outer cs kp) dl j).1)) rfl (eCall2_dat (d := frD dl.1) (e := frD (ofst (outer cs kp) dl j).1) rfl rfl (times_r h1.sz z.a (by omega) (by omega) _)) (second_offer_r h g E (h1.sz.mul z.a) (share_le h1 a b).1 (by omega))))).trans ((sCons_nx (sExp_nx (eApp_ok (t := s) (ds := (List.range j).map (ofD (outer cs kp) kp dl)) (d := ofD (outer cs kp) kp dl j) rfl (tup2 (eCall2_dat (d := lotD cs kp) (e := pD (ofA (outer cs kp) dl j)) rfl rfl (point_at_r h za (by omega))) (eCall2_dat (d := lotD cs kp) (e := pD (ofB (outer cs kp) dl j)) rfl rfl (point_at_r h zb (by omega)))) (by rw [List.length_map, List.length_range]; omega)))).trans (sSet_ok (v := .dat (pD (ofst (outer cs kp) dl (j + 1)))) (tup2 rfl rfl))), _, _, _, rfl, ?_⟩
      rw [List.range_succ, List.map_append]
      rfl)
    ⟨_, _, _, rfl, rfl⟩
  rw [upTo_len] at f1
  have last : eBlt bTuple (aCons (eVar 4) aNil) [some (.dat (lotD cs kp)), some (.dat (pD dl)), some (.dat (.int (mn : Int))), some (.dat (.list ((outer cs kp).map pD))), some (.loc s.length), some (.dat (pD (ofst (outer cs kp) dl mn))), v6, v7, v8] (s ++ [.lst ((List.range mn).map (ofD (outer cs kp) kp dl))]) = .ok (.dat (.tuple ((List.range mn).map (ofD (outer cs kp) kp dl)))) (s ++ [.lst ((List.range mn).map (ofD (outer cs kp) kp dl))]) := by
    have e1 : deref (s ++ [.lst ((List.range mn).map (ofD (outer cs kp) kp dl))]) (.loc s.length) = some (.list ((List.range mn).map (ofD (outer cs kp) kp dl))) := by
      unfold deref
      simp only [at_last]
    show noX (match eBlt.derefs _ [Vl.loc s.length] with
      | some ds => okD (bTuple ds) _
      | none => .bad) = _
    unfold eBlt.derefs
    rw [e1]
    rfl
  have r := fnS_dat (np := 3) (nn := 9) (m := B_offers_left) (vs := [.dat (lotD cs kp), .dat (pD dl), .dat (.int (mn : Int))]) (s := s) rfl ((chk_row (check_lot_r h) rfl).trans ((sCons_nx (sExp_nx (eCall1_dat (d := pD dl) rfl (check_patience_r h1 h2)))).trans ((sif_skip (eNot_dat c)).trans ((sCons_nx hpar).trans ((sCons_nx f1).trans (sRet_ok last))))))
  rw [List.take_left'] at r
  · exact r
  · rfl
end
end Ev
/-! LotsP: offers: what they bear. -/
namespace Ev
open PySem
section
variable {m n k : Nat} {x y t u v w X Y : Rat} {p q : P2} {cs rows : List P2} {kp dl : P2} {s : Sto}
/-- where a side has the most that the other's gain lets it, it is on the edge or the best -/
theorem edge_full {r : List P2} {G : List P2} (h : Hl G p r) (hy : y ≤ p.2) (y0 : 0 ≤ y) (hn : ∀ g ∈ G, 0 ≤ g.1 ∧ 0 ≤ g.2)
    (hx : x ≤ (lastP p r).1) (ry : Reg p r (x, y)) (mx : ∀ x', Reg p r (x', y) → x' ≤ x) : otherAt (p :: r) x = some y ∨ x = (lastP p r).1 := by
  have e := oa_ok h.cv hx
  have k : Reg p r (x, oa (p :: r) x) := (reg_iff h).mpr ⟨_, e, by grind⟩
  obtain ⟨v', ev, l⟩ := (reg_iff h).mp ry
  rw [e] at ev
  have ev := Option.some.inj ev
  by_cases q : oa (p :: r) x = y
  · left
    rw [e, q]
  · right
    apply Classical.byContradiction
    intro hne
    have kl := h.reg (h.sub _ (lastP_mem p r))
    have hlt : x < (lastP p r).1 := by clear ev e; grind
    have hv : y < oa (p :: r) x := by clear e; grind
    rcases Rat.le_total (a := y) (b := (lastP p r).2) with z | z
    · have := mx (lastP p r).1 (kl.mono h.cv (by show (lastP p r).1 ≤ (lastP p r).1; grind) z)
      grind
    · have d0 : oa (p :: r) x - (lastP p r).2 ≠ 0 := by clear e ev; grind
      have wd : (oa (p :: r) x - y) / (oa (p :: r) x - (lastP p r).2) * (oa (p :: r) x - (lastP p r).2) = oa (p :: r) x - y := by clear e ev; grind
      have dp : 0 < oa (p :: r) x - (lastP p r).2 := by clear e ev wd; grind
      generalize (oa (p :: r) x - y) / (oa (p :: r) x - (lastP p r).2) = w at *
      generalize oa (p :: r) x = v at *
      have w0 : 0 < w := by
        apply Classical.byContradiction
        intro q
        have := mul_nn (a := - w) (b := v - (lastP p r).2) (by clear e ev; grind) (by clear e ev; grind)
        clear e ev
        grind
      have w1 : w ≤ 1 := by
        apply Classical.byContradiction
        intro q
        have := mul_pp (a := w - 1) (b := v - (lastP p r).2) (by clear e ev; grind) dp
        clear e ev
        grind
      have km := k.mix (w := w) (by clear e ev; grind) w1 kl
      have e2 : mix (x, v) (lastP p r) w = (x + w * ((lastP p r).1 - x), y) := by
        unfold mix
        refine Prod.ext rfl ?_
        show v + w * ((lastP p r).2 - v) = y
        clear e ev
        grind
      rw [e2] at km
      have := mx _ km
      have := mul_pp (a := w) (b := (lastP p r).1 - x) w0 (by clear e ev; grind)
      clear e ev
      grind
/-- offers with more left lie between those with less -/
theorem between (E : Edge cs kp X Y) (h1 : Shr dl.1) (h2 : Shr dl.2) : ∀ k, (((ofst (outer cs kp) dl (k + 2)).1 ≤ (ofst (outer cs kp) dl (k + 3)).1 ∧ (ofst (outer cs kp) dl (k + 3)).1 ≤ (ofst (outer cs kp) dl (k + 1)).1 ∧ (ofst (outer cs kp) dl (k + 2)).2 ≤ (ofst (outer cs kp) dl (k + 3)).2 ∧ (ofst (outer cs kp) dl (k + 3)).2 ≤ (ofst (outer cs kp) dl (k + 1)).2) ∨
    ((ofst (outer cs kp) dl (k + 1)).1 ≤ (ofst (outer cs kp) dl (k + 3)).1 ∧ (ofst (outer cs kp) dl (k + 3)).1 ≤ (ofst (outer cs kp) dl (k + 2)).1 ∧ (ofst (outer cs kp) dl (k + 1)).2 ≤ (ofst (outer cs kp) dl (k + 3)).2 ∧ (ofst (outer cs kp) dl (k + 3)).2 ≤ (ofst (outer cs kp) dl (k + 2)).2)) := by
  have ok := ofst_ok E h1 h2
  have dx : ∀ i j, (ofst (outer cs kp) dl i).2 ≤ (ofst (outer cs kp) dl j).2 → (ofst (outer cs kp) dl (j + 1)).1 ≤ (ofst (outer cs kp) dl (i + 1)).1 := fun i j q => by
    refine E.ay _ _ ?_ (share_le h2 (ok j).2.2.1 (ok j).2.2.2).1
    have := h2.a
    have := mul_nn (a := dl.2) (b := (ofst (outer cs kp) dl j).2 - (ofst (outer cs kp) dl i).2) (by grind) (by grind)
    grind
  have dy : ∀ i j, (ofst (outer cs kp) dl i).1 ≤ (ofst (outer cs kp) dl j).1 → (ofst (outer cs kp) dl (j + 1)).2 ≤ (ofst (outer cs kp) dl (i + 1)).2 := fun i j q => by
    refine E.ax _ _ ?_ (share_le h1 (ok j).1 (ok j).2.1).1
    have := h1.a
    have := mul_nn (a := dl.1) (b := (ofst (outer cs kp) dl j).1 - (ofst (outer cs kp) dl i).1) (by grind) (by grind)
    grind
  intro k
  induction k with
  | zero =>
    have a1 := dx 0 1 (ok 1).2.2.1
    have a2 := dy 0 1 (ok 1).1
    have b1 := dx 0 2 (ok 2).2.2.1
    have b2 := dy 0 2 (ok 2).1
    have c1 := dx 2 1 a2
    have c2 := dy 2 1 a1
    exact .inl ⟨c1, b1, c2, b2⟩
  | succ k ih =>
    rcases ih with ⟨a, b, c, d⟩ | ⟨a, b, c, d⟩
    · exact .inr ⟨dx _ _ d, dx _ _ c, dy _ _ b, dy _ _ a⟩
    · exact .inl ⟨dx _ _ d, dx _ _ c, dy _ _ b, dy _ _ a⟩
end
end Ev
/-! LotsQ: drawn patience, the law's own offers, how far the last steps are apart. -/
namespace Ev
open PySem
section
variable {m n k : Nat} {x y t u v w X Y : Rat} {p q : P2} {cs rows : List P2} {kp dl : P2} {s : Sto} {ns : List Int} {c : Int}
theorem divInt_den {a b : Int} (ha : 0 < a) (hb : a < b) (h : b ≤ 12) : Shr (Rat.divInt a b) := by
  have b0 : 0 < b := by omega
  obtain ⟨pp, qq, e, f, g, hp, hq⟩ := leanI_spec a b (by omega)
  rw [leanI_rat (by omega)] at e
  have q1 : (Rat.divInt a b).den ≤ 12 := by
    unfold frD fr at e
    injection e with e
    injection e with e1 e2
    injection e2 with e2 _
    injection e2 with e2
    omega
  have ne : Rat.divInt a b ≠ 0 := fun z => by
    have z' : Rat.divInt a b = Rat.divInt 0 1 := z.trans (by decide +kernel)
    rw [Rat.divInt_eq_divInt_iff (by omega) (by omega)] at z'
    omega
  have nn := divInt_nn (n := a) (d := b) (by omega) (by omega)
  have e1 : Rat.divInt a b + Rat.divInt (b - a) b = 1 := by
    rw [Rat.divInt_add_divInt _ _ (by omega) (by omega)]
    have : (1 : Rat) = Rat.divInt 1 1 := by decide +kernel
    rw [this, Rat.divInt_eq_divInt_iff (by exact Int.mul_ne_zero (by omega) (by omega)) (by omega)]
    grind
  have ne2 : Rat.divInt (b - a) b ≠ 0 := fun z => by
    have z' : Rat.divInt (b - a) b = Rat.divInt 0 1 := z.trans (by decide +kernel)
    rw [Rat.divInt_eq_divInt_iff (by omega) (by omega)] at z'
    omega
  have nn2 := divInt_nn (n := b - a) (d := b) (by omega) (by omega)
  clear e
  exact ⟨by grind, by grind, q1⟩

def Bpat : MS := sCons (sSet 3 (e2 pAdd (eCst (.int (2))) (eCall F__law_next (aCons (eVar 0) (aCons (eCst (.int (11))) (aNil)))))) (sSet 1 (e2 pAdd (eVar 1) (eTup (aCons (eCall F_leanP (aCons (e2 pAdd (eCst (.int (1))) (eCall F__law_next (aCons (eVar 0) (aCons (e2 pSub (eVar 3) (eCst (.int (1)))) (aNil))))) (aCons (eVar 3) (aNil)))) (aNil)))))
theorem pat1 (ds : List PyData) (l : ds.length ≤ 10) (v2 v3 : Option Vl) (hc : 0 ≤ c) (hc2 : c < 900000) : ∃ (q : Rat) (w3 : Option Vl), Shr q ∧ Bpat [some (.loc 0), some (.dat (.tuple ds)), v2, v3] (dst ns c) = .ok (.nx [some (.loc 0), some (.dat (.tuple (ds ++ [frD q]))), v2, w3]) (dst ns (c + 1 + 1)) := by
  obtain ⟨a, a0, a1, e1⟩ := next_any (ns := ns) (c := c) (b := 11) (env := [some (.loc 0), some (.dat (.tuple ds)), v2, v3]) (i := 0) (a := eCst (.int 11)) rfl rfl hc (by omega) (by omega)
  obtain ⟨b, b0, b1, u2⟩ := next_any (ns := ns) (c := c + 1) (b := 2 + a - 1) (env := [some (.loc 0), some (.dat (.tuple ds)), v2, some (.dat (.int (2 + a)))]) (i := 0) (a := e2 pSub (eVar 3) (eCst (.int (1)))) rfl rfl (by omega) (by omega) (by omega)
  refine ⟨Rat.divInt (1 + b) (2 + a), some (.dat (.int (2 + a))), divInt_den (by omega) (by omega) (by omega), ?_⟩
  have f := lean_r (b := eVar 3) (e2_dat (f := pAdd) (a := eCst (.int 1)) (d := .int 1) (r := .int (1 + b)) rfl u2 rfl) rfl (by omega) (by omega) (by omega) (by omega)
  exact (sCons_nx (sSet_ok (e2_dat (f := pAdd) (a := eCst (.int 2)) (d := .int 2) (r := .int (2 + a)) rfl e1 rfl))).trans (sSet_ok (e2_dat (d := .tuple ds) rfl (tup1_ok f) (pAdd_tup (by simp; omega))))
theorem law_patience_r (hc : 0 ≤ c) (hc2 : c < 800000) : ∃ dl : P2, Shr dl.1 ∧ Shr dl.2 ∧ F__law_patience [.loc 0] (dst ns c) = .ok (.dat (pD dl)) (dst ns (c + 1 + 1 + 1 + 1)) := by
  obtain ⟨q1, w3, h1, f1⟩ := pat1 (ns := ns) [] (by simp) (some (.dat (.int 0))) none hc (by omega)
  obtain ⟨q2, u3, h2, f2⟩ := pat1 (ns := ns) [frD q1] (by simp) (some (.dat (.int 1))) w3 (show 0 ≤ c + 1 + 1 by omega) (by omega)
  refine ⟨(q1, q2), h1, h2, ?_⟩
  have fo : sForX (eTup (aCons (eCst (.int (0))) (aCons (eCst (.int (1))) (aNil)))) (.nm 2) Bpat [some (.loc 0), some (.dat (.tuple [])), none, none] (dst ns c) = .ok (.nx [some (.loc 0), some (.dat (.tuple [frD q1, frD q2])), some (.dat (.int 1)), u3]) (dst ns (c + 1 + 1 + 1 + 1)) := by
    have g1 : forGo Bpat (.nm 2) [.int 0, .int 1] [some (.loc 0), some (.dat (.tuple [])), none, none] (dst ns c) = .ok (.nx [some (.loc 0), some (.dat (.tuple [frD q1, frD q2])), some (.dat (.int 1)), u3]) (dst ns (c + 1 + 1 + 1 + 1)) := by
      show Out.bind (Bpat [some (.loc 0), some (.dat (.tuple [])), some (.dat (.int 0)), none] (dst ns c)) _ = _
      rw [f1]
      show Out.bind (Bpat [some (.loc 0), some (.dat (.tuple [frD q1])), some (.dat (.int 1)), w3] (dst ns (c + 1 + 1))) _ = _
      rw [f2]
      rfl
    show noX (forGo Bpat (.nm 2) [.int 0, .int 1] _ _) = _
    rw [g1]
    rfl
  have := fnS_dat (np := 1) (nn := 4) (m := B__law_patience) (vs := [.loc 0]) (s := dst ns c) rfl ((sCons_nx (a := sSet 1 (eTup aNil)) rfl).trans ((sCons_nx fo).trans (sRet_ok rfl)))
  exact this

/-- by the gains, or by the gains turned -/
theorem law_offer_r {G : List P2} {p' : P2} {r r' : List P2} (h : Hl G p r) (h' : Hl (G.map sw) p' r') (g : SzL 10 G) (hl : G.length ≤ 1000) (hw : Sz n w) (ln : n ≤ 900) (e1 : otherAt (p' :: r') w = some x) (e2 : otherAt (p :: r) x = some y) :
    F__law_offer [.dat (.list (G.map pD)), .dat (frD w)] s = .ok (.dat (pD (x, y))) s := by
  have g' : SzL 10 (G.map sw) := fun q hq => by
    obtain ⟨a, ha, rfl⟩ := List.mem_map.mp hq
    exact ⟨(g a ha).b, (g a ha).a⟩
  have G401 : SzL 401 G := fun q hq => (g q hq).mono (by omega)
  have G401' : SzL 401 (G.map sw) := fun q hq => (g' q hq).mono (by omega)
  have zx : Sz (n + 64) x := otherAt_szg (rows := p' :: r') (fun q hq => g' q (h'.sub q hq)) (upX_cv _ _ h'.cv) hw _ e1
  have q1 := (law_high_r (s := s) G401' hw (by omega)).1
  rw [high_eq h', e1] at q1
  have q2 := (law_high_r (s := s) G401 zx (by omega)).1
  rw [high_eq h, e2] at q2
  refine fnS_dat0 rfl ?_
  refine (sCons_nx (sSet_ok (v := .dat (.list ((G.map sw).map pD))) (s1 := s) ?_)).trans ((sCons_nx (sSet_ok (eCall2_dat (d := .list ((G.map sw).map pD)) (e := frD w) rfl rfl q1))).trans (sRet_ok (tup2 rfl (eCall2_dat (d := .list (G.map pD)) (e := frD x) rfl rfl q2))))
  rw [List.map_map]
  exact lc_map pD _ G rfl hl fun a ha => ⟨_, rfl, tup2 rfl rfl⟩

theorem ix_lastT {d : PyData} {ds : List PyData} : pIx (.tuple (ds ++ [d])) (.int (-1)) = some d := ix_last (ds := ds)
theorem ix_last2T {d e : PyData} {ds : List PyData} : pIx (.tuple (ds ++ [e, d])) (.int (-2)) = some e := ix_last2 (ds := ds)
theorem range_last (f : Nat → PyData) (j : Nat) : (List.range (j + 2)).map f = (List.range (j + 1)).map f ++ [f (j + 1)] := by
  rw [List.range_succ, List.map_append]
  rfl
theorem range_last2 (f : Nat → PyData) (j : Nat) : (List.range (j + 2)).map f = (List.range j).map f ++ [f j, f (j + 1)] := by
  rw [List.range_succ, List.range_succ, List.map_append, List.map_append, List.append_assoc]
  rfl
def absR (a b : Rat) : Rat := if b < a then a - b else b - a

theorem step_apart_r {j : Nat} (h : Lot m cs kp) (g : SzL 10 (gns cs kp)) (E : Edge cs kp X Y) (h1 : Shr dl.1) (h2 : Shr dl.2) (m2 : j + 2 ≤ 12) :
    F_step_apart [.dat (lotD cs kp), .dat (pD dl), .dat (.int ((j + 2 : Nat) : Int))] s = .ok (.dat (frD (absR (add2 (ofA (outer cs kp) dl (j + 1)) kp).1 (add2 (ofA (outer cs kp) dl j) kp).1))) s := by
  have l' := h.l
  have z1 := (add2_sz (ofA_sz h g E h1 h2 (j + 1)).1 h.k).a
  have z2 := (add2_sz (ofA_sz h g E h1 h2 j).1 h.k).a
  refine fnS_dat0 rfl ((chk_row (check_lot_r h) rfl).trans ((sCons_nx (sExp_nx (eCall1_dat (d := pD dl) rfl (check_patience_r h1 h2)))).trans ((sif_skip (eNot_dat (from_row (lo := 2) rfl (show (2 : Int) ≤ ((j + 2 : Nat) : Int) by omega) (show ((j + 2 : Nat) : Int) ≤ 12 by omega)))).trans ?_)))
  refine (sCons_nx (sSet_ok (eCall3_dat (d := lotD cs kp) (e := pD dl) (g := .int ((j + 2 : Nat) : Int)) rfl rfl rfl (offers_left_r h g E h1 h2 (by omega) m2)))).trans ?_
  have i1 : pIx (.tuple ((List.range (j + 2)).map (ofD (outer cs kp) kp dl))) (.int (-1)) = some (ofD (outer cs kp) kp dl (j + 1)) := by
    rw [range_last]
    exact ix_lastT
  have i2 : pIx (.tuple ((List.range (j + 2)).map (ofD (outer cs kp) kp dl))) (.int (-2)) = some (ofD (outer cs kp) kp dl j) := by
    rw [range_last2]
    exact ix_last2T
  refine (sCons_nx (sPar2_ok (v := .dat (frD (add2 (ofA (outer cs kp) dl (j + 1)) kp).1)) (w := .dat (frD (add2 (ofA (outer cs kp) dl j) kp).1)) (e2_dat (e2_dat (e2_dat (d := .tuple ((List.range (j + 2)).map (ofD (outer cs kp) kp dl))) (e := .int (-1)) rfl rfl i1) rfl rfl) rfl rfl) (e2_dat (e2_dat (e2_dat (d := .tuple ((List.range (j + 2)).map (ofD (outer cs kp) kp dl))) (e := .int (-2)) rfl rfl i2) rfl rfl) rfl rfl))).trans (sRet_ok ?_)
  generalize (add2 (ofA (outer cs kp) dl (j + 1)) kp).1 = A at *
  generalize (add2 (ofA (outer cs kp) dl j) kp).1 = B at *
  have cl := eCall2_dat (f := P_less) (a := eVar 5) (b := eVar 4) (env := ([some (.dat (lotD cs kp)), some (.dat (pD dl)), some (.dat (.int ((j + 2 : Nat) : Int))), some (.dat (.tuple ((List.range (j + 2)).map (ofD (outer cs kp) kp dl)))), some (.dat (frD A)), some (.dat (frD B))] : Env)) (s := s) (d := frD B) (e := frD A) rfl rfl (less_r z2 z1 (by omega) (by omega) s)
  unfold absR
  by_cases q : B < A
  · rw [decide_eq_true q] at cl
    rw [if_pos q]
    exact eIf_t cl (eCall2_dat (d := frD A) (e := frD B) rfl rfl (minus_r z1 z2 (by omega) (by omega) s))
  · rw [decide_eq_false q] at cl
    rw [if_neg q]
    exact eIf_f cl (eCall2_dat (d := frD B) (e := frD A) rfl rfl (minus_r z2 z1 (by omega) (by omega) s))

end
end Ev
namespace Ev
open PySem
end Ev
namespace Ev
open PySem
abbrev E19 (sc v2 v3 v4 v5 v6 v7 v8 v9 v10 v11 v12 v13 v14 v15 v16 v17 v18 v19 v20 v21 : Option Vl) : Env := [sc, some (.loc 0), v2, v3, v4, v5, v6, v7, v8, v9, v10, v11, v12, v13, v14, v15, v16, v17, v18, v19, v20, v21]
theorem ofD_lay (rows : List P2) (kp dl : P2) : ∀ (js : List Nat), PyData.canLayAll0 (js.map (ofD rows kp dl)) = true ∧ PyData.depthAll (js.map (ofD rows kp dl)) ≤ 3
  | [] => ⟨rfl, by simp [PyData.depthAll]⟩
  | j :: js => by
    obtain ⟨h1, h2⟩ := ofD_lay rows kp dl js
    refine ⟨?_, ?_⟩
    · rw [List.map_cons, PyData.canLayAll0, h1]
      rfl
    · rw [List.map_cons, PyData.depthAll]
      have : (ofD rows kp dl j).depth = 3 := rfl
      omega
theorem pEq_ofD (rows : List P2) (kp dl : P2) (js : List Nat) : pEq (.tuple (js.map (ofD rows kp dl))) (.tuple (js.map (ofD rows kp dl))) = some true := by
  obtain ⟨h1, h2⟩ := ofD_lay rows kp dl js
  have lay : PyData.canLay0 (.tuple (js.map (ofD rows kp dl))) = true := by rw [PyData.canLay0]; exact h1
  have hs : SeqAt.shaped (.tuple (js.map (ofD rows kp dl))) = true := by
    unfold SeqAt.shaped
    rw [lay, PyData.depth]
    exact decide_eq_true (by omega)
  unfold pEq
  rw [hs, SeqAt.eqv_refl _ lay]
  rfl
structure Al (cs : List P2) (kp dl : P2) (X Y : Rat) (mn : Nat) : Prop where
  h : Lot 21 cs kp
  g : SzL 10 (gns cs kp)
  E : Edge cs kp X Y
  h1 : Shr dl.1
  h2 : Shr dl.2
  m1 : 1 ≤ mn
  m2 : mn ≤ 6
  l5 : cs.length ≤ 5
section
variable {sc v5 v6 v7 v9 v10 v11 v12 v13 v14 v15 v16 v17 v18 v19 v20 v21 : Option Vl} {cs l : List P2} {kp a dl : P2} {s : Sto} {c : Int} {ns : List Int} {X Y : Rat} {mn : Nat}
abbrev Ek (cs : List P2) (kp dl : P2) (mn : Nat) (sc v7 v9 v10 v11 v12 v13 v14 v15 v16 v17 v18 v19 v20 v21 : Option Vl) : Env := E19 sc (some (.dat (lotD cs kp))) (some (.dat (pD dl))) (some (.dat (.int (mn : Int)))) (some (.dat (.list ((gns cs kp).map pD)))) (some (.dat (.list (((gns cs kp).map sw).map pD)))) v7 (some (.dat (.tuple ((List.range mn).map (ofD (outer cs kp) kp dl))))) v9 v10 v11 v12 v13 v14 v15 v16 v17 v18 v19 v20 v21
theorem r12 (A : Al cs kp dl X Y mn) (e : cs = a :: l) : R_law_12 (Ek cs kp dl mn sc v7 v9 v10 v11 v12 v13 v14 v15 v16 v17 v18 v19 v20 v21) s = .ok (.rt (.dat (.bool true))) s := by
  have h := A.h
  have am : a ∈ cs := by rw [e]; exact List.mem_cons_self ..
  have mem : ∀ c, c ∈ cs ++ [a] ↔ c ∈ cs := fun c => by
    rw [List.mem_append, List.mem_singleton]
    exact ⟨fun z => by rcases z with z | rfl; exact z; exact am, .inl⟩
  have L : Lot 21 (cs ++ [a]) kp := by
    obtain ⟨⟨c1, k1, q1⟩, ⟨c2, k2, q2⟩⟩ := h.any
    refine ⟨fun c hc => h.c c ((mem c).mp hc), h.k, ?_, by omega⟩
    unfold isLotB lenB
    simp only [Bool.and_eq_true, decide_eq_true_eq, List.all_eq_true, List.any_eq_true, List.length_append, List.length_singleton]
    have := A.l5
    exact ⟨⟨by omega, by omega⟩, (fun c hc => h.all ((mem c).mp hc)), ⟨c1, (mem c1).mpr k1, q1⟩, ⟨c2, (mem c2).mpr k2, q2⟩⟩
  have gm : ∀ x, x ∈ gns cs kp ↔ x ∈ gns (cs ++ [a]) kp := fun x => by
    unfold gns
    simp only [List.mem_map]
    exact ⟨fun ⟨c, hc, e⟩ => ⟨c, (mem c).mpr hc, e⟩, fun ⟨c, hc, e⟩ => ⟨c, (mem c).mp hc, e⟩⟩
  have eo : outer (cs ++ [a]) kp = outer cs kp := by
    obtain ⟨p, r, e, hl⟩ := lot_hl h
    rw [e]
    exact edge_of (hl.congr gm)
  have g' : SzL 10 (gns (cs ++ [a]) kp) := fun x hx => A.g x ((gm x).mpr hx)
  obtain ⟨X', Y', E'⟩ := edge_ok L
  have f := offers_left_r (s := s) L g' E' A.h1 A.h2 A.m1 (by have := A.m2; omega)
  rw [eo] at f
  unfold R_law_12
  refine sRet_ok (eCmp_dat (eCall3_dat (d := lotD (cs ++ [a]) kp) (e := pD dl) (g := .int (mn : Int)) ?_ rfl rfl f) (e := .tuple ((List.range mn).map (ofD (outer cs kp) kp dl))) rfl (pEq_ofD _ _ _ _))
  have c1 : eCmp pLt (eBlt bLen (aCons (e2 pIx (eVar 2) (eCst (.int (0)))) (aNil))) (eCst (.int (6))) (Ek cs kp dl mn sc v7 v9 v10 v11 v12 v13 v14 v15 v16 v17 v18 v19 v20 v21) s = .ok (.dat (.bool true)) s := by
    refine eCmp_dat (s2 := s) (d := .int (cs.length : Nat)) (e := .int 6) (eBlt1_dat (s1 := s) (d := .tuple (cs.map pD)) rfl (by show some (PyData.int ((cs.map pD).length : Nat)) = _; rw [List.length_map])) rfl ?_
    show some (decide ((cs.length : Int) < 6)) = _
    rw [decide_eq_true (by have := A.l5; omega)]
  refine eIf_t c1 (tup2 (d := .tuple ((cs ++ [a]).map pD)) (e := pD kp) (e2_dat (s1 := s) (d := .tuple (cs.map pD)) (e := .tuple [pD a]) rfl ?_ ?_) rfl)
  · show noX (okD (some (.tuple (cutL (cs.map pD) none (some ((1 : Nat) : Int))))) s) = _
    rw [cut_take', e]
    rfl
  · rw [pAdd_tup (by rw [List.length_map]; simp; have := A.l5; omega), List.map_append]
    rfl
theorem r11 (A : Al cs kp dl X Y mn) (e : cs = a :: l) : ∃ t, R_law_11 (Ek cs kp dl mn sc v7 v9 v10 v11 v12 v13 v14 v15 v16 v17 v18 v19 v20 v21) s = .ok (.rt (.dat (.bool true))) t := by
  refine ⟨s, ?_⟩
  unfold R_law_11
  have c0 : eCmp pGt (eVar 4) (eCst (.int (1))) (Ek cs kp dl mn sc v7 v9 v10 v11 v12 v13 v14 v15 v16 v17 v18 v19 v20 v21) s = .ok (.dat (.bool (decide ((1 : Int) < (mn : Int))))) s := eCmp_dat (d := .int (mn : Int)) (e := .int 1) rfl rfl rfl
  by_cases q : 1 < mn
  · rw [decide_eq_true (by omega)] at c0
    obtain ⟨j, rfl⟩ : ∃ j, mn = j + 2 := ⟨mn - 2, by omega⟩
    have h := A.h
    have m2 := A.m2
    have z1 := (add2_sz (ofA_sz h A.g A.E A.h1 A.h2 (j + 1)).1 h.k).a
    have z2 := (add2_sz (ofA_sz h A.g A.E A.h1 A.h2 j).1 h.k).a
    have sa := step_apart_r (s := s) h A.g A.E A.h1 A.h2 (show j + 2 ≤ 12 by omega)
    have i1 : pIx (.tuple ((List.range (j + 2)).map (ofD (outer cs kp) kp dl))) (.int (-1)) = some (ofD (outer cs kp) kp dl (j + 1)) := by
      rw [range_last]
      exact ix_lastT
    have i2 : pIx (.tuple ((List.range (j + 2)).map (ofD (outer cs kp) kp dl))) (.int (-2)) = some (ofD (outer cs kp) kp dl j) := by
      rw [range_last2]
      exact ix_last2T
    have x1 : e2 pIx (e2 pIx (e2 pIx (eVar 8) (e1 pNeg (eCst (.int (1))))) (eCst (.int (0)))) (eCst (.int (0))) (Ek cs kp dl (j + 2) sc v7 v9 v10 v11 v12 v13 v14 v15 v16 v17 v18 v19 v20 v21) s = .ok (.dat (frD (add2 (ofA (outer cs kp) dl (j + 1)) kp).1)) s := e2_dat (e2_dat (e2_dat (d := .tuple ((List.range (j + 2)).map (ofD (outer cs kp) kp dl))) (e := .int (-1)) rfl rfl i1) rfl rfl) rfl rfl
    have x2 : e2 pIx (e2 pIx (e2 pIx (eVar 8) (e1 pNeg (eCst (.int (2))))) (eCst (.int (0)))) (eCst (.int (0))) (Ek cs kp dl (j + 2) sc v7 v9 v10 v11 v12 v13 v14 v15 v16 v17 v18 v19 v20 v21) s = .ok (.dat (frD (add2 (ofA (outer cs kp) dl j) kp).1)) s := e2_dat (e2_dat (e2_dat (d := .tuple ((List.range (j + 2)).map (ofD (outer cs kp) kp dl))) (e := .int (-2)) rfl rfl i2) rfl rfl) rfl rfl
    generalize (add2 (ofA (outer cs kp) dl (j + 1)) kp).1 = P at *
    generalize (add2 (ofA (outer cs kp) dl j) kp).1 = Q at *
    have zd := z1.sub z2
    have cg : ∀ {v21'}, v21' = some (Vl.dat (frD (P - Q))) → eIf (eCmp pGe (e2 pIx (eVar 21) (eCst (.int (0)))) (eCst (.int (0)))) (eVar 21) (eCall P_minus (aCons (eTup (aCons (eCst (.int (0))) (aCons (eCst (.int (1))) (aNil)))) (aCons (eVar 21) (aNil)))) (Ek cs kp dl (j + 2) sc v7 v9 v10 v11 v12 v13 v14 v15 v16 v17 v18 v19 v20 v21') s = .ok (.dat (frD (absR P Q))) s := by
      intro v21' hv
      subst hv
      have cn : pGe (.int (P - Q).num) (.int 0) = some (decide (0 ≤ P - Q)) := by
        show some (decide ((0 : Int) ≤ (P - Q).num)) = _
        congr 1
        rw [decide_eq_decide]
        exact Rat.num_nonneg
      have c1 := eCmp_dat (f := pGe) (a := e2 pIx (eVar 21) (eCst (.int (0)))) (b := eCst (.int 0)) (env := Ek cs kp dl (j + 2) sc v7 v9 v10 v11 v12 v13 v14 v15 v16 v17 v18 v19 v20 (some (Vl.dat (frD (P - Q))))) (s := s) (s1 := s) (s2 := s) (d := .int (P - Q).num) (e := .int 0) rfl rfl cn
      unfold absR
      by_cases q1 : 0 ≤ P - Q
      · rw [decide_eq_true q1] at c1
        refine eIf_t c1 ?_
        by_cases q2 : Q < P
        · rw [if_pos q2]
          rfl
        · rw [if_neg q2, show Q - P = P - Q by clear x1 x2 c1 sa cn; grind]
          rfl
      · rw [decide_eq_false q1] at c1
        rw [if_neg (show ¬ Q < P by clear x1 x2 c1 sa cn; grind)]
        refine eIf_f c1 ((eCall2_dat (d := frD 0) (e := frD (P - Q)) rfl rfl (minus_r (m := 4) szc zd (by omega) (by omega) s)).trans ?_)
        rw [show 0 - (P - Q) = Q - P by clear x1 x2 c1 sa cn; grind]
    refine (sCons_nx ((sIf_t c0).trans ((sCons_nx (sSet_ok (eCall2_dat x1 x2 (minus_r z1 z2 (by omega) (by omega) s)))).trans ((sIf_f (eCmp_dat (eCall3_dat (d := lotD cs kp) (e := pD dl) (g := .int ((j + 2 : Nat) : Int)) rfl rfl rfl sa) (cg rfl) (pNe_r _))).trans rfl)))).trans (r12 A e)
  · rw [decide_eq_false (by omega)] at c0
    exact (sif_skip c0).trans (r12 A e)
/-! ### between -/
theorem row_at {i : Nat} (hi : i < mn) : pIx (.tuple ((List.range mn).map (ofD (outer cs kp) kp dl))) (.int (i : Int)) = some (ofD (outer cs kp) kp dl i) := ix_natT (by rw [List.getElem?_map, List.getElem?_range hi]; rfl)
theorem gain_at {i : Nat} (A : Al cs kp dl X Y mn) (hi : i < mn) : F_gains_at [.dat (lotD cs kp), .dat (pD (add2 (ofA (outer cs kp) dl i) kp))] s = .ok (.dat (pD (ofA (outer cs kp) dl i))) s ∧ F_gains_at [.dat (lotD cs kp), .dat (pD (add2 (ofB (outer cs kp) dl i) kp))] s = .ok (.dat (pD (ofB (outer cs kp) dl i))) s := by
  have z := ofA_sz A.h A.g A.E A.h1 A.h2 i
  have m2 := A.m2
  have g1 := gains_at_r (s := s) A.h (add2_sz z.1 A.h.k) (by omega)
  have g2 := gains_at_r (s := s) A.h (add2_sz z.2 A.h.k) (by omega)
  rw [add_sub] at g1 g2
  exact ⟨g1, g2⟩
theorem b10 {i : Nat} (A : Al cs kp dl X Y mn) (hi : i + 2 < mn) : ∃ w13 w14 w17 w18 w19, L_law_10_0 (Ek cs kp dl mn sc v7 v9 v10 v11 v12 v13 v14 v15 (some (.dat (.int (2 + (i : Int))))) v17 v18 v19 v20 v21) s = .ok (.nx (Ek cs kp dl mn sc v7 v9 v10 v11 v12 w13 w14 v15 (some (.dat (.int (2 + (i : Int))))) w17 w18 w19 v20 v21)) s := by
  have m2 := A.m2
  have x : ∀ k, (ofA (outer cs kp) dl k).1 = (ofst (outer cs kp) dl (k + 1)).1 := fun _ => rfl
  have zs := fun k => (ofst_sz A.h A.g A.E A.h1 A.h2 k).a
  have z1 := zs (i + 1)
  have z2 := zs (i + 2)
  have z3 := zs (i + 3)
  have bt := between A.E A.h1 A.h2 i
  have el : ∀ (j : Nat) (v16 v20 : Option Vl), j < mn → v20 = some (Vl.dat (.int (j : Int))) → e2 pIx (eCall F_gains_at (aCons (eVar 2) (aCons (e2 pIx (e2 pIx (eVar 8) (eVar 20)) (eCst (.int (0)))) (aNil)))) (eCst (.int (0))) (Ek cs kp dl mn sc v7 v9 v10 v11 v12 v13 v14 v15 v16 v17 v18 v19 v20 v21) s = .ok (.dat (frD (ofst (outer cs kp) dl (j + 1)).1)) s := by
    intro j v16 v20 hj hv
    subst hv
    exact e2_dat (eCall2_dat (d := lotD cs kp) (e := pD (add2 (ofA (outer cs kp) dl j) kp)) rfl (e2_dat (e2_dat (d := .tuple ((List.range mn).map (ofD (outer cs kp) kp dl))) (e := .int (j : Int)) rfl rfl (row_at hj)) rfl rfl) (gain_at A hj).1) rfl rfl
  have l3 : eLc (iSeq (eTup (aCons (e2 pSub (eVar 16) (eCst (.int (2)))) (aCons (e2 pSub (eVar 16) (eCst (.int (1)))) (aCons (eVar 16) (aNil)))))) (.nm 20) [20] (tYes) (e2 pIx (eCall F_gains_at (aCons (eVar 2) (aCons (e2 pIx (e2 pIx (eVar 8) (eVar 20)) (eCst (.int (0)))) (aNil)))) (eCst (.int (0)))) (Ek cs kp dl mn sc v7 v9 v10 v11 v12 v13 v14 v15 (some (.dat (.int (2 + (i : Int))))) v17 v18 v19 v20 v21) s = .ok (.dat (.list ([i, i + 1, i + 2].map fun j => frD (ofst (outer cs kp) dl (j + 1)).1))) s := by
    refine lc_map (fun j : Nat => PyData.int (j : Int)) _ [i, i + 1, i + 2] ?_ (by simp) fun j hj => ⟨_, rfl, el j _ _ ?_ rfl⟩
    · show Out.ok (Src.its [.int (2 + (i : Int) - 2), .int (2 + (i : Int) - 1), .int (2 + (i : Int))]) s = Out.ok (Src.its [.int (i : Int), .int ((i + 1 : Nat) : Int), .int ((i + 2 : Nat) : Int)]) s
      rw [show 2 + (i : Int) - 2 = (i : Int) by omega, show 2 + (i : Int) - 1 = ((i + 1 : Nat) : Int) by omega, show 2 + (i : Int) = ((i + 2 : Nat) : Int) by omega]
    · simp only [List.mem_cons, List.mem_nil_iff, or_false] at hj
      omega
  simp only [List.map_cons, List.map_nil] at l3
  generalize (ofst (outer cs kp) dl (i + 1)).1 = P at *
  generalize (ofst (outer cs kp) dl (i + 1 + 1)).1 = Q at *
  generalize (ofst (outer cs kp) dl (i + 2 + 1)).1 = R at *
  have pq : (Q ≤ R ∧ R ≤ P) ∨ (P ≤ R ∧ R ≤ Q) := by
    rcases bt with ⟨a, b, _, _⟩ | ⟨a, b, _, _⟩
    · exact .inl ⟨a, b⟩
    · exact .inr ⟨a, b⟩
  have u1 : sUnp (.tup [.nm 13, .nm 14, .nm 17]) (eLc (iSeq (eTup (aCons (e2 pSub (eVar 16) (eCst (.int (2)))) (aCons (e2 pSub (eVar 16) (eCst (.int (1)))) (aCons (eVar 16) (aNil)))))) (.nm 20) [20] (tYes) (e2 pIx (eCall F_gains_at (aCons (eVar 2) (aCons (e2 pIx (e2 pIx (eVar 8) (eVar 20)) (eCst (.int (0)))) (aNil)))) (eCst (.int (0))))) (Ek cs kp dl mn sc v7 v9 v10 v11 v12 v13 v14 v15 (some (.dat (.int (2 + (i : Int))))) v17 v18 v19 v20 v21) s = .ok (.nx (Ek cs kp dl mn sc v7 v9 v10 v11 v12 (some (.dat (frD P))) (some (.dat (frD Q))) v15 (some (.dat (.int (2 + (i : Int))))) (some (.dat (frD R))) v18 v19 v20 v21)) s := by
    unfold sUnp
    rw [l3]
    rfl
  unfold L_law_10_0
  have c := eCall2_dat (f := P_less) (a := eVar 13) (b := eVar 14) (env := Ek cs kp dl mn sc v7 v9 v10 v11 v12 (some (.dat (frD P))) (some (.dat (frD Q))) v15 (some (.dat (.int (2 + (i : Int))))) (some (.dat (frD R))) v18 v19 v20 v21) (s := s) (d := frD P) (e := frD Q) rfl rfl (less_r z1 z2 (by omega) (by omega) s)
  have u2 : ∃ lo hi : Rat, lo ≤ R ∧ R ≤ hi ∧ Sz 600 lo ∧ Sz 600 hi ∧ eIf (eCall P_less (aCons (eVar 13) (aCons (eVar 14) (aNil)))) (eTup (aCons (eVar 13) (aCons (eVar 14) (aNil)))) (eTup (aCons (eVar 14) (aCons (eVar 13) (aNil)))) (Ek cs kp dl mn sc v7 v9 v10 v11 v12 (some (.dat (frD P))) (some (.dat (frD Q))) v15 (some (.dat (.int (2 + (i : Int))))) (some (.dat (frD R))) v18 v19 v20 v21) s = .ok (.dat (pD (lo, hi))) s := by
    by_cases q : P < Q
    · rw [decide_eq_true q] at c
      exact ⟨P, Q, by clear c l3 u1 el; grind, by clear c l3 u1 el; grind, z1.mono (by omega), z2.mono (by omega), eIf_t c (tup2 rfl rfl)⟩
    · rw [decide_eq_false q] at c
      exact ⟨Q, P, by clear c l3 u1 el; grind, by clear c l3 u1 el; grind, z2.mono (by omega), z1.mono (by omega), eIf_f c (tup2 rfl rfl)⟩
  obtain ⟨lo, hi, k1, k2, s1, s2, f⟩ := u2
  refine ⟨some (.dat (frD P)), some (.dat (frD Q)), some (.dat (frD R)), some (.dat (frD lo)), some (.dat (frD hi)), ?_⟩
  refine (sCons_nx u1).trans ?_
  unfold L_law_10_1
  refine (sCons_nx (e' := Ek cs kp dl mn sc v7 v9 v10 v11 v12 (some (.dat (frD P))) (some (.dat (frD Q))) v15 (some (.dat (.int (2 + (i : Int))))) (some (.dat (frD R))) (some (.dat (frD lo))) (some (.dat (frD hi))) v20 v21) (s' := s) ?_).trans ?_
  · unfold sUnp
    rw [f]
    rfl
  · unfold L_law_10_2
    have d1 := less_r z3 s1 (by omega) (by omega) s
    have d2 := less_r s2 z3 (by omega) (by omega) s
    rw [decide_eq_false (by clear c l3 u1 el d1 d2 f; grind)] at d1
    rw [decide_eq_false (by clear c l3 u1 el d1 d2 f; grind)] at d2
    exact (sIf_f (eOr_f (s1 := s) (eCall2_dat (d := frD R) (e := frD lo) rfl rfl d1) (eCall2_dat (d := frD hi) (e := frD R) rfl rfl d2))).trans rfl
end
section
variable {sc v5 v6 v7 v9 v10 v11 v12 v13 v14 v15 v16 v17 v18 v19 v20 v21 : Option Vl} {cs l : List P2} {kp a dl : P2} {s : Sto} {c : Int} {ns : List Int} {X Y : Rat} {mn : Nat}
theorem rng2 {a b : ME} {env : Env} {i j : Int} (ha : a env s = .ok (.dat (.int i)) s) (hb : b env s = .ok (.dat (.int j)) s) (i0 : 0 ≤ i) (i1 : i ≤ 1000) (j0 : 0 ≤ j) (j1 : j ≤ 1000) : iRng2 a b env s = .ok (.its (upFrom i (j - i).toNat)) s := by
  unfold iRng2
  rw [ha]
  simp only [Out.bind]
  rw [hb]
  simp only [Out.bind]
  rw [decide_eq_true (show j < 16777216 by omega), decide_eq_true (show -16777216 < j by omega), decide_eq_true (show i < 16777216 by omega), decide_eq_true (show -16777216 < i by omega)]
  rfl
theorem r10 (A : Al cs kp dl X Y mn) (e : cs = a :: l) : ∃ t, R_law_10 (Ek cs kp dl mn sc v7 v9 v10 v11 v12 v13 v14 v15 v16 v17 v18 v19 v20 v21) s = .ok (.rt (.dat (.bool true))) t := by
  have m1 := A.m1
  have m2 := A.m2
  obtain ⟨env2, s2, f1, w13, w14, w16, w17, w18, w19, rfl, rfl⟩ := for_rel (s := s) (s1 := s) (it := iRng2 (eCst (.int (2))) (eVar 4)) (tg := .nm 16) (body := L_law_10_0) (xs := upFrom 2 ((mn : Int) - 2).toNat) (env := Ek cs kp dl mn sc v7 v9 v10 v11 v12 v13 v14 v15 v16 v17 v18 v19 v20 v21)
    (fun j env t => ∃ w13 w14 w16 w17 w18 w19, env = Ek cs kp dl mn sc v7 v9 v10 v11 v12 w13 w14 v15 w16 w17 w18 w19 v20 v21 ∧ t = s) (rng2 rfl rfl (by omega) (by omega) (by omega) (by omega))
    (fun i x env t hx ⟨w13, w14, w16, w17, w18, w19, he, ht⟩ => by
      subst he ht
      obtain ⟨rfl, hi⟩ := upTo_get _ _ _ _ hx
      refine ⟨_, rfl, ?_⟩
      obtain ⟨u13, u14, u17, u18, u19, f⟩ := b10 (sc := sc) (v7 := v7) (v9 := v9) (v10 := v10) (v11 := v11) (v12 := v12) (v13 := w13) (v14 := w14) (v15 := v15) (v17 := w17) (v18 := w18) (v19 := w19) (v20 := v20) (v21 := v21) (s := t) (i := i) A (by omega)
      exact ⟨_, _, f, _, _, _, _, _, _, rfl, rfl⟩)
    ⟨_, _, _, _, _, _, rfl, rfl⟩
  obtain ⟨t, r⟩ := r11 (sc := sc) (v7 := v7) (v9 := v9) (v10 := v10) (v11 := v11) (v12 := v12) (v13 := w13) (v14 := w14) (v15 := v15) (v16 := w16) (v17 := w17) (v18 := w18) (v19 := w19) (v20 := v20) (v21 := v21) (s := s2) A e
  refine ⟨t, ?_⟩
  unfold R_law_10
  exact (sCons_nx f1).trans r
theorem r8 (A : Al cs kp dl X Y mn) (e : cs = a :: l) : ∃ t, R_law_8 (Ek cs kp dl mn sc v7 v9 v10 v11 v12 v13 v14 v15 v16 v17 v18 v19 v20 v21) s = .ok (.rt (.dat (.bool true))) t := by
  obtain ⟨t, r⟩ := r10 (sc := sc) (v7 := v7) (v9 := v9) (v10 := v10) (v11 := v11) (v12 := v12) (v13 := v13) (v14 := v14) (v15 := some (.dat (pD (bst cs kp)))) (v16 := v16) (v17 := v17) (v18 := v18) (v19 := v19) (v20 := v20) (v21 := v21) (s := s) A e
  refine ⟨t, ?_⟩
  have m1 := A.m1
  unfold R_law_8
  refine (sCons_nx (sSet_ok (eCall1_dat (d := lotD cs kp) rfl (bests_of_r A.h)))).trans ?_
  unfold R_law_9
  have x1 : (ofA (outer cs kp) dl 0).1 = X := by
    show oa (turnR (outer cs kp)) (dl.2 * 0) = X
    rw [show dl.2 * 0 = 0 by grind]
    exact A.E.y0
  have x2 : (ofB (outer cs kp) dl 0).2 = Y := by
    show oa (outer cs kp) (dl.1 * 0) = Y
    rw [show dl.1 * 0 = 0 by grind]
    exact A.E.x0
  have rw0 := row_at (cs := cs) (kp := kp) (dl := dl) (mn := mn) (i := 0) m1
  have g0 := gain_at (s := s) A (i := 0) m1
  refine (sif_skip (eOr_f (s1 := s) (eCmp_dat (s1 := s) (s2 := s) (d := frD X) (e := frD X) ?_ ?_ (pNe_r _)) (eCmp_dat (s1 := s) (s2 := s) (d := frD Y) (e := frD Y) ?_ ?_ (pNe_r _)))).trans r
  · refine (e2_dat (r := frD (ofA (outer cs kp) dl 0).1) (eCall2_dat (d := lotD cs kp) (e := pD (add2 (ofA (outer cs kp) dl 0) kp)) rfl (e2_dat (e2_dat (d := .tuple ((List.range mn).map (ofD (outer cs kp) kp dl))) (e := .int ((0 : Nat) : Int)) rfl rfl rw0) rfl rfl) g0.1) (e := .int 0) rfl rfl).trans (by rw [x1])
  · show Out.ok (Vl.dat (frD (bst cs kp).1)) s = _
    rw [A.E.b]
  · refine (e2_dat (r := frD (ofB (outer cs kp) dl 0).2) (eCall2_dat (d := lotD cs kp) (e := pD (add2 (ofB (outer cs kp) dl 0) kp)) rfl (e2_dat (e2_dat (d := .tuple ((List.range mn).map (ofD (outer cs kp) kp dl))) (e := .int ((0 : Nat) : Int)) rfl rfl rw0) rfl rfl) g0.2) (e := .int 1) rfl rfl).trans (by rw [x2])
  · show Out.ok (Vl.dat (frD (bst cs kp).2)) s = _
    rw [A.E.b]
/-- what is offered is full -/
theorem full_core {x y : Rat} (h : Lot 21 cs kp) (E : Edge cs kp X Y) (x0 : 0 ≤ x) (x1 : x ≤ X) (y0 : 0 ≤ y) (y1 : y ≤ Y) : isFull cs kp (add2 (x, oa (outer cs kp) x) kp) = true ∧ isFull cs kp (add2 (oa (turnR (outer cs kp)) y, y) kp) = true := by
  obtain ⟨p, r, eo, hl⟩ := lot_hl h
  have be := bst_hl hl
  rw [E.b] at be
  have bX : X = (lastP p r).1 := congrArg Prod.fst be
  have bY : Y = p.2 := congrArg Prod.snd be
  have key : ∀ g : P2, 0 ≤ g.1 → 0 ≤ g.2 → Reg p r g → (otherAt (p :: r) g.1 = some g.2 ∨ g.1 = (lastP p r).1) → isFull cs kp (add2 g kp) = true := fun g a b k d => by
    have e1 : (add2 g kp).1 - kp.1 = g.1 := congrArg Prod.fst (add_sub g kp)
    have e2 : (add2 g kp).2 - kp.2 = g.2 := congrArg Prod.snd (add_sub g kp)
    have in1 : isIn cs kp (add2 g kp) = true := by
      rw [isIn_iff eo hl, add_sub, e1, e2]
      exact ⟨a, b, k⟩
    unfold isFull
    rw [in1, e1, e2, eo]
    rcases d with d | d
    · rw [d, decide_eq_true rfl]
      rfl
    · show (true && (_ || decide (g.1 = (lastP p r).1))) = true
      rw [decide_eq_true d, Bool.or_true]
      rfl
  have ex := E.x x x1
  have ey := E.y y y1
  have ex1 : otherAt (p :: r) x = some (oa (outer cs kp) x) := by
    rw [← eo]
    exact ex.1
  have xx := E.x _ ey.2.2
  have xx1 : otherAt (p :: r) (oa (turnR (outer cs kp)) y) = some (oa (outer cs kp) (oa (turnR (outer cs kp)) y)) := by
    rw [← eo]
    exact xx.1
  have regi : Reg p r (oa (turnR (outer cs kp)) y, y) := (reg_iff hl).mpr ⟨_, xx1, E.xy y y1⟩
  refine ⟨key (x, oa (outer cs kp) x) x0 ex.2.1 ((reg_iff hl).mpr ⟨_, ex1, Rat.le_refl⟩) (.inl ex1), key (oa (turnR (outer cs kp)) y, y) ey.2.1 y0 regi ?_⟩
  refine edge_full hl (by rw [← bY]; exact y1) y0 (fun g hg => gns_nn h hg) (by rw [← bX]; exact ey.2.2) regi fun x' k => ?_
  obtain ⟨v, ev, lv⟩ := (reg_iff hl).mp k
  have kx : x' ≤ X := by rw [bX]; exact k.x
  have g1 : otherAt (p :: r) x' = some (oa (outer cs kp) x') := by
    rw [← eo]
    exact (E.x x' kx).1
  rw [ev] at g1
  have g1 := Option.some.inj g1
  rw [g1] at lv
  exact Rat.le_trans (E.yx x' kx) (E.ay y _ lv (E.x x' kx).2.2)
theorem off_full {i : Nat} (A : Al cs kp dl X Y mn) : isFull cs kp (add2 (ofA (outer cs kp) dl i) kp) = true ∧ isFull cs kp (add2 (ofB (outer cs kp) dl i) kp) = true := by
  obtain ⟨x0, x1, y0, y1⟩ := ofst_ok A.E A.h1 A.h2 (i + 1)
  exact full_core A.h A.E x0 x1 y0 y1
theorem b7 {i : Nat} (A : Al cs kp dl X Y mn) (hi : i < mn) : ∃ w9 w11 w12 w13 w14, w9 = some (Vl.dat (pD (ofst (outer cs kp) dl (i + 1)))) ∧ L_law_7_0 (Ek cs kp dl mn sc (some (.dat (pD (add2 (ofA (outer cs kp) dl i) kp)))) (some (.dat (pD (ofst (outer cs kp) dl i)))) (some (.dat (pD (add2 (ofB (outer cs kp) dl i) kp)))) v11 v12 v13 v14 v15 v16 v17 v18 v19 v20 v21) s = .ok (.nx (Ek cs kp dl mn sc (some (.dat (pD (add2 (ofA (outer cs kp) dl i) kp)))) w9 (some (.dat (pD (add2 (ofB (outer cs kp) dl i) kp)))) w11 w12 w13 w14 v15 v16 v17 v18 v19 v20 v21)) s := by
  have m2 := A.m2
  have E := A.E
  obtain ⟨x0, x1, y0, y1⟩ := ofst_ok E A.h1 A.h2 i
  have z := ofst_sz A.h A.g E A.h1 A.h2 i
  have ab := ofA_sz A.h A.g E A.h1 A.h2 i
  have ga := gain_at (s := s) A hi
  have w1 := share_le A.h2 y0 y1
  have w2 := share_le A.h1 x0 x1
  have zw1 : Sz 440 (dl.2 * (ofst (outer cs kp) dl i).2) := (A.h2.sz.mul z.b).mono (by omega)
  have zw2 : Sz 440 (dl.1 * (ofst (outer cs kp) dl i).1) := (A.h1.sz.mul z.a).mono (by omega)
  obtain ⟨p, r, eo, hl⟩ := lot_hl A.h
  obtain ⟨r', e1, _, h'⟩ := turn_hl hl
  have gl : (gns cs kp).length ≤ 1000 := by rw [gns_len]; have := A.l5; omega
  have Ey := E.y _ w1.1
  have Ex := E.x _ w2.1
  have Exx := E.x _ Ey.2.2
  have Eyy := E.y _ Ex.2.2
  have o1 : F__law_offer [.dat (.list ((gns cs kp).map pD)), .dat (frD (dl.2 * (ofst (outer cs kp) dl i).2))] s = .ok (.dat (pD (ofA (outer cs kp) dl i))) s := by
    refine law_offer_r hl h' A.g gl zw1 (by omega) ?_ ?_
    · have := Ey.1
      rw [← e1, ← eo]
      exact this
    · have := Exx.1
      rw [← eo]
      exact this
  have g2 : SzL 10 ((gns cs kp).map sw) := fun q hq => by
    obtain ⟨d, hd, rfl⟩ := List.mem_map.mp hq
    exact ⟨(A.g d hd).b, (A.g d hd).a⟩
  have ss : ((gns cs kp).map sw).map sw = gns cs kp := by
    rw [List.map_map]
    have : sw ∘ sw = id := rfl
    rw [this, List.map_id]
  have o2 : F__law_offer [.dat (.list (((gns cs kp).map sw).map pD)), .dat (frD (dl.1 * (ofst (outer cs kp) dl i).1))] s = .ok (.dat (pD (sw (ofB (outer cs kp) dl i)))) s := by
    refine law_offer_r (p := sw (lastP p r)) (r := r') (p' := p) (r' := r) h' (by rw [ss]; exact hl) g2 (by rw [List.length_map]; exact gl) zw2 (by omega) ?_ ?_
    · have := Ex.1
      rw [← eo]
      exact this
    · have := Eyy.1
      rw [← e1, ← eo]
      exact this
  have fu := off_full (i := i) A
  have f1 := is_full_r (s := s) A.h (add2_sz ab.1 A.h.k) (by omega)
  have f2 := is_full_r (s := s) A.h (add2_sz ab.2 A.h.k) (by omega)
  rw [fu.1] at f1
  rw [fu.2] at f2
  have k1 := less_r ab.1.b zw1 (by omega) (by omega) s
  have k2 := less_r ab.2.a zw2 (by omega) (by omega) s
  have q1 : dl.2 * (ofst (outer cs kp) dl i).2 ≤ (ofA (outer cs kp) dl i).2 := E.xy _ w1.1
  have q2 : dl.1 * (ofst (outer cs kp) dl i).1 ≤ (ofB (outer cs kp) dl i).1 := E.yx _ w2.1
  rw [decide_eq_false (by clear k1 k2 f1 f2 o1 o2 ga; grind)] at k1
  rw [decide_eq_false (by clear k1 k2 f1 f2 o1 o2 ga; grind)] at k2
  have t1 : ∀ {e : Env}, e[3]? = some (some (.dat (pD dl))) → e[9]? = some (some (.dat (pD (ofst (outer cs kp) dl i)))) → eCall P_times (aCons (e2 pIx (eVar 3) (eCst (.int (1)))) (aCons (e2 pIx (eVar 9) (eCst (.int (1)))) (aNil))) e s = .ok (.dat (frD (dl.2 * (ofst (outer cs kp) dl i).2))) s := fun {e} h3 h9 => eCall2_dat (d := frD dl.2) (e := frD (ofst (outer cs kp) dl i).2) (e2_dat (d := pD dl) (s1 := s) (by unfold eVar; rw [h3]) rfl rfl) (e2_dat (d := pD (ofst (outer cs kp) dl i)) (s1 := s) (by unfold eVar; rw [h9]) rfl rfl) (times_r A.h2.sz z.b (by omega) (by omega) s)
  have t2 : ∀ {e : Env}, e[3]? = some (some (.dat (pD dl))) → e[9]? = some (some (.dat (pD (ofst (outer cs kp) dl i)))) → eCall P_times (aCons (e2 pIx (eVar 3) (eCst (.int (0)))) (aCons (e2 pIx (eVar 9) (eCst (.int (0)))) (aNil))) e s = .ok (.dat (frD (dl.1 * (ofst (outer cs kp) dl i).1))) s := fun {e} h3 h9 => eCall2_dat (d := frD dl.1) (e := frD (ofst (outer cs kp) dl i).1) (e2_dat (d := pD dl) (s1 := s) (by unfold eVar; rw [h3]) rfl rfl) (e2_dat (d := pD (ofst (outer cs kp) dl i)) (s1 := s) (by unfold eVar; rw [h9]) rfl rfl) (times_r A.h1.sz z.a (by omega) (by omega) s)
  refine ⟨_, some (.dat (pD (ofA (outer cs kp) dl i))), some (.dat (pD (ofB (outer cs kp) dl i))), some (.dat (pD (ofA (outer cs kp) dl i))), some (.dat (pD (sw (ofB (outer cs kp) dl i)))), rfl, ?_⟩
  unfold L_law_7_0
  refine (sCons_nx (sPar2_ok (eCall2_dat (d := lotD cs kp) (e := pD (add2 (ofA (outer cs kp) dl i) kp)) rfl rfl ga.1) (eCall2_dat (d := lotD cs kp) (e := pD (add2 (ofB (outer cs kp) dl i) kp)) rfl rfl ga.2))).trans ?_
  unfold L_law_7_1
  refine (sCons_nx (sPar2_ok (eCall2_dat (d := .list ((gns cs kp).map pD)) rfl (t1 rfl rfl) o1) (eCall2_dat (d := .list (((gns cs kp).map sw).map pD)) rfl (t2 rfl rfl) o2))).trans ?_
  unfold L_law_7_2
  refine (sif_skip (eOr_f (s1 := s) (eCmp_dat (d := pD (ofA (outer cs kp) dl i)) (e := pD (ofA (outer cs kp) dl i)) rfl rfl (pNe_pt _)) (eOr_f (s1 := s) (eCmp_dat (d := pD (ofB (outer cs kp) dl i)) (e := pD (ofB (outer cs kp) dl i)) rfl (tup2 rfl rfl) (pNe_pt _)) (eOr_f (s1 := s) (eNot_dat (eCall2_dat (d := lotD cs kp) (e := pD (add2 (ofA (outer cs kp) dl i) kp)) rfl rfl f1)) (eOr_f (s1 := s) (eNot_dat (eCall2_dat (d := lotD cs kp) (e := pD (add2 (ofB (outer cs kp) dl i) kp)) rfl rfl f2)) (eOr_f (s1 := s) (eCall2_dat (d := frD (ofA (outer cs kp) dl i).2) rfl (t1 rfl rfl) k1) (eCall2_dat (d := frD (ofB (outer cs kp) dl i).1) rfl (t2 rfl rfl) k2))))))).trans ?_
  unfold L_law_7_3
  exact sSet_ok (tup2 rfl rfl)
theorem r5 (A : Al cs kp dl X Y mn) (e : cs = a :: l) : ∃ t, R_law_5 (Ek cs kp dl mn sc v7 v9 v10 v11 v12 v13 v14 v15 v16 v17 v18 v19 v20 v21) s = .ok (.rt (.dat (.bool true))) t := by
  have m1 := A.m1
  have m2 := A.m2
  obtain ⟨env2, s2, f1, w7, w10, w11, w12, w13, w14, rfl, rfl⟩ := forX_rel (s := s) (s1 := s) (a := eVar 8) (tg := .tup [.nm 7, .nm 10]) (body := L_law_7_0) (d := .tuple ((List.range mn).map (ofD (outer cs kp) kp dl))) (xs := (List.range mn).map (ofD (outer cs kp) kp dl)) (env := Ek cs kp dl mn sc v7 (some (.dat (pD (ofst (outer cs kp) dl 0)))) v10 v11 v12 v13 v14 v15 v16 v17 v18 v19 v20 v21)
    (fun j env t => ∃ w7 w10 w11 w12 w13 w14, env = Ek cs kp dl mn sc w7 (some (.dat (pD (ofst (outer cs kp) dl j)))) w10 w11 w12 w13 w14 v15 v16 v17 v18 v19 v20 v21 ∧ t = s) rfl rfl
    (fun i x env t hx ⟨w7, w10, w11, w12, w13, w14, he, ht⟩ => by
      subst he ht
      have hi : i < mn := by
        rcases Nat.lt_or_ge i mn with q | q
        · exact q
        · rw [List.getElem?_eq_none (by rw [List.length_map, List.length_range]; exact q)] at hx
          cases hx
      rw [List.getElem?_map, List.getElem?_range hi] at hx
      cases hx
      obtain ⟨u9, u11, u12, u13, u14, hu, f⟩ := b7 (sc := sc) (v11 := w11) (v12 := w12) (v13 := w13) (v14 := w14) (v15 := v15) (v16 := v16) (v17 := v17) (v18 := v18) (v19 := v19) (v20 := v20) (v21 := v21) (s := t) (i := i) A hi
      subst hu
      exact ⟨_, rfl, _, _, f, _, _, _, _, _, _, rfl, rfl⟩)
    ⟨_, _, _, _, _, _, rfl, rfl⟩
  obtain ⟨t, r⟩ := r8 (sc := sc) (v7 := w7) (v9 := some (.dat (pD (ofst (outer cs kp) dl ((List.range mn).map (ofD (outer cs kp) kp dl)).length)))) (v10 := w10) (v11 := w11) (v12 := w12) (v13 := w13) (v14 := w14) (v15 := v15) (v16 := v16) (v17 := v17) (v18 := v18) (v19 := v19) (v20 := v20) (v21 := v21) (s := s2) A e
  refine ⟨t, ?_⟩
  have o1 := offers_left_r (s := s2) A.h A.g A.E A.h1 A.h2 (mn := 1) (by omega) (by omega)
  unfold R_law_5
  refine (sif_skip (eOr_f (s1 := s2) (eNot_dat (eCall1_dat (d := pD dl) rfl (is_patience_r A.h1 A.h2))) (eOr_f (s1 := s2) (eCmp_dat (s2 := s2) (d := .int (mn : Int)) (e := .int (mn : Int)) (eBlt1_dat (d := .tuple ((List.range mn).map (ofD (outer cs kp) kp dl))) rfl (by show some (PyData.int (((List.range mn).map (ofD (outer cs kp) kp dl)).length : Nat)) = _; rw [List.length_map, List.length_range])) rfl ?_) (eCmp_dat (s1 := s2) (s2 := s2) (d := .tuple ((List.range 1).map (ofD (outer cs kp) kp dl))) ?_ (eCall3_dat (d := lotD cs kp) (e := pD dl) (g := .int 1) rfl rfl rfl o1) ?_)))).trans ?_
  · show (some (PyData.eqv (.int _) (.int _))).map not = _
    simp [PyData.eqv]
  · show noX (okD (some (.tuple (cutL ((List.range mn).map (ofD (outer cs kp) kp dl)) none (some ((1 : Nat) : Int))))) s2) = _
    rw [cut_take', ← List.map_take, List.take_range, Nat.min_eq_left m1]
    rfl
  · unfold pNe
    rw [pEq_ofD]
    rfl
  · unfold R_law_6
    refine (sCons_nx (sSet_ok (v := .dat (pD (ofst (outer cs kp) dl 0))) rfl)).trans ?_
    unfold R_law_7
    exact (sCons_nx f1).trans r
end
theorem law_true (ns : List Int) (hl : ns.length ≤ 63) : ∃ s', F_law [.scr (ns.map .int)] [] = .ok (.dat (.bool true)) s' := by
  refine isT_fn rfl ?_
  obtain ⟨ms, h0⟩ := draw_ok ns (List.replicate 21 none)
  obtain ⟨cs, kp, c1, ⟨a, l, el, ha1, ha2⟩, g, h, k1, k2, l5, e0⟩ := law_lot_g ms 0 5 (by omega) (by omega) (by omega) (by omega)
  obtain ⟨dl, h1, h2, e1⟩ := law_patience_r (ns := ms) (c := c1) (by omega) (by omega)
  obtain ⟨v, v0, v1, e2⟩ := next_any (ns := ms) (c := c1 + 1 + 1 + 1 + 1) (b := 6) (env := E19 (some (.scr (ns.map .int))) none none none none none none none none none none none none none none none none none none none none) (i := 1) (a := eCst (.int 6)) rfl rfl (by omega) (by omega) (by omega)
  obtain ⟨mn, em⟩ : ∃ mn : Nat, 1 + v = mn := ⟨(1 + v).toNat, by omega⟩
  obtain ⟨X, Y, E⟩ := edge_ok h
  have A : Al cs kp dl X Y mn := ⟨h, g, E, h1, h2, by omega, by omega, by omega⟩
  have ln := h.len
  have gl : (gns cs kp).length = cs.length := gns_len
  obtain ⟨t, r⟩ := r5 (sc := some (.scr (ns.map .int))) (v7 := none) (v9 := none) (v10 := none) (v11 := none) (v12 := none) (v13 := none) (v14 := none) (v15 := none) (v16 := none) (v17 := none) (v18 := none) (v19 := none) (v20 := none) (v21 := none) (s := dst ms (c1 + 1 + 1 + 1 + 1 + 1)) A el
  show isT (R_law_0 (some (.scr (ns.map .int)) :: List.replicate 21 none) []) = true
  unfold R_law_0
  rw [sCons_nx (h0 1)]
  have e1' : eCall F__law_patience (aCons (eVar 1) (aNil)) (E19 (some (.scr (ns.map .int))) none none none none none none none none none none none none none none none none none none none none) (dst ms c1) = .ok (.dat (pD dl)) (dst ms (c1 + 1 + 1 + 1 + 1)) := e1
  have e0' : eCall F__law_lot (aCons (eVar 1) (aCons (eCst (.int (5))) (aNil))) (E19 (some (.scr (ns.map .int))) none none none none none none none none none none none none none none none none none none none none) (dst ms 0) = .ok (.dat (lotD cs kp)) (dst ms c1) := e0
  have fin : R_law_1 (E19 (some (.scr (ns.map .int))) none none none none none none none none none none none none none none none none none none none none) (dst ms 0) = .ok (.rt (.dat (.bool true))) t := by
    unfold R_law_1
    refine (sCons_nx (sPar3_ok e0' e1' (e2_dat (f := pAdd) (a := eCst (.int 1)) (d := .int 1) (r := .int (mn : Int)) rfl e2 (by rw [← em]; rfl)))).trans ?_
    unfold R_law_2
    refine (sCons_nx (sSet_ok (eCall1_dat (d := lotD cs kp) rfl (corner_gains_r (m := 21) h.c h.k (by omega) (by omega))))).trans ?_
    unfold R_law_3
    refine (sCons_nx (sSet_ok (v := .dat (.list (((gns cs kp).map sw).map pD))) (s1 := dst ms (c1 + 1 + 1 + 1 + 1 + 1)) ?_)).trans ?_
    · rw [List.map_map]
      exact lc_map pD _ (gns cs kp) rfl (by omega) fun x hx => ⟨_, rfl, tup2 rfl rfl⟩
    unfold R_law_4
    exact (sCons_nx (sSet_ok (eCall3_dat (d := lotD cs kp) (e := pD dl) (g := .int (mn : Int)) rfl rfl rfl (offers_left_r h g E h1 h2 A.m1 (by have := A.m2; omega))))).trans r
  have fin' : R_law_1 ((some (.scr (ns.map PyData.int)) :: List.replicate 21 none).set 1 (some (.loc 0))) [drw (ms.map .int) 0] = _ := fin
  rw [fin']
  rfl
end Ev
namespace Ev
open PySem PySem.Spec PyProof.Rows L2
abbrev rTop (i : Nat) : Stmt := PySem.Challenge.pw_whatagreed_k19_whole_offers.main.body.getD i (.Pass ⟨0, 0, 0, 0⟩)
def lDs : DT := []
def T_is_whole : Tab := ⟨[], [], N_is_whole, [], ["isinstance", "int", "bool"], [], lDs⟩
def d_is_whole : He.DefD := ⟨("is_whole", none), "is_whole", "is_whole", defArgs (rTop 5), defBody (rTop 5), defScope (rTop 5), [], []⟩
def T_is_from : Tab := ⟨[("is_whole", F_is_whole)], [], N_is_from, [], [], [], lDs⟩
def d_is_from : He.DefD := ⟨("is_from", none), "is_from", "is_from", defArgs (rTop 6), defBody (rTop 6), defScope (rTop 6), [], []⟩
def T_is_many : Tab := ⟨[], [], N_is_many, [], ["isinstance", "tuple", "len"], [], lDs⟩
def d_is_many : He.DefD := ⟨("is_many", none), "is_many", "is_many", defArgs (rTop 7), defBody (rTop 7), defScope (rTop 7), [], []⟩
def T_lean : Tab := ⟨[], [], N_lean, [], ["abs"], [], lDs⟩
def d_lean : He.DefD := ⟨("lean", none), "lean", "lean", defArgs (rTop 8), defBody (rTop 8), defScope (rTop 8), [], []⟩
def T_is_fraction : Tab := ⟨[("lean", F_leanP), ("is_many", F_is_many), ("is_whole", F_is_whole)], [], N_is_fraction, [], [], [], lDs⟩
def d_is_fraction : He.DefD := ⟨("is_fraction", none), "is_fraction", "is_fraction", defArgs (rTop 9), defBody (rTop 9), defScope (rTop 9), [], []⟩
def T_plus : Tab := ⟨[("lean", F_leanP)], [], N_plus, [], [], [], lDs⟩
def d_plus : He.DefD := ⟨("plus", none), "plus", "plus", defArgs (rTop 10), defBody (rTop 10), defScope (rTop 10), [], []⟩
def T_minus : Tab := ⟨[("lean", F_leanP)], [], N_minus, [], [], [], lDs⟩
def d_minus : He.DefD := ⟨("minus", none), "minus", "minus", defArgs (rTop 11), defBody (rTop 11), defScope (rTop 11), [], []⟩
def T_times : Tab := ⟨[("lean", F_leanP)], [], N_times, [], [], [], lDs⟩
def d_times : He.DefD := ⟨("times", none), "times", "times", defArgs (rTop 12), defBody (rTop 12), defScope (rTop 12), [], []⟩
def T_over : Tab := ⟨[("lean", F_leanP)], [], N_over, [], [], [], lDs⟩
def d_over : He.DefD := ⟨("over", none), "over", "over", defArgs (rTop 13), defBody (rTop 13), defScope (rTop 13), [], []⟩
def T_less : Tab := ⟨[], [], N_less, [], [], [], lDs⟩
def d_less : He.DefD := ⟨("less", none), "less", "less", defArgs (rTop 14), defBody (rTop 14), defScope (rTop 14), [], []⟩
def T_no_more : Tab := ⟨[], [], N_no_more, [], [], [], lDs⟩
def d_no_more : He.DefD := ⟨("no_more", none), "no_more", "no_more", defArgs (rTop 15), defBody (rTop 15), defScope (rTop 15), [], []⟩
def T_greater : Tab := ⟨[("less", P_less)], [], N_greater, [], [], [], lDs⟩
def d_greater : He.DefD := ⟨("greater", none), "greater", "greater", defArgs (rTop 16), defBody (rTop 16), defScope (rTop 16), [], []⟩
def T_most_of : Tab := ⟨[("greater", F_greater)], [], N_most_of, [], [], [], lDs⟩
def d_most_of : He.DefD := ⟨("most_of", none), "most_of", "most_of", defArgs (rTop 17), defBody (rTop 17), defScope (rTop 17), [], []⟩
def T_is_point : Tab := ⟨[("is_many", F_is_many), ("is_fraction", P_is_fraction)], [], N_is_point, [], [], [], lDs⟩
def d_is_point : He.DefD := ⟨("is_point", none), "is_point", "is_point", defArgs (rTop 20), defBody (rTop 20), defScope (rTop 20), [], []⟩
def T_is_lot : Tab := ⟨[("is_many", F_is_many), ("is_point", F_is_point), ("no_more", P_no_more), ("less", P_less)], [("MOST_CORNERS", G_MOST_CORNERS)], N_is_lot, [], ["all", "isinstance", "tuple", "any", "len"], [], lDs⟩
def d_is_lot : He.DefD := ⟨("is_lot", none), "is_lot", "is_lot", defArgs (rTop 21), defBody (rTop 21), defScope (rTop 21), [], []⟩
def T_check_lot : Tab := ⟨[("is_lot", F_is_lot)], [], N_check_lot, [], [], [], lDs⟩
def d_check_lot : He.DefD := ⟨("check_lot", none), "check_lot", "check_lot", defArgs (rTop 22), defBody (rTop 22), defScope (rTop 22), [], []⟩
def T_check_point : Tab := ⟨[("is_point", F_is_point)], [], N_check_point, [], [], [], lDs⟩
def d_check_point : He.DefD := ⟨("check_point", none), "check_point", "check_point", defArgs (rTop 23), defBody (rTop 23), defScope (rTop 23), [], []⟩
def T_gains_at : Tab := ⟨[("check_lot", F_check_lot), ("check_point", F_check_point), ("minus", P_minus)], [], N_gains_at, [], [], [], lDs⟩
def d_gains_at : He.DefD := ⟨("gains_at", none), "gains_at", "gains_at", defArgs (rTop 24), defBody (rTop 24), defScope (rTop 24), [], []⟩
def T_point_at : Tab := ⟨[("check_lot", F_check_lot), ("check_point", F_check_point), ("plus", P_plus)], [], N_point_at, [], [], [], lDs⟩
def d_point_at : He.DefD := ⟨("point_at", none), "point_at", "point_at", defArgs (rTop 25), defBody (rTop 25), defScope (rTop 25), [], []⟩
def T_corner_gains : Tab := ⟨[("minus", P_minus)], [], N_corner_gains, [], [], [], lDs⟩
def d_corner_gains : He.DefD := ⟨("corner_gains", none), "corner_gains", "corner_gains", defArgs (rTop 26), defBody (rTop 26), defScope (rTop 26), [], []⟩
def T_bests_of : Tab := ⟨[("check_lot", F_check_lot), ("corner_gains", F_corner_gains), ("most_of", F_most_of)], [], N_bests_of, [], [], [], lDs⟩
def d_bests_of : He.DefD := ⟨("bests_of", none), "bests_of", "bests_of", defArgs (rTop 27), defBody (rTop 27), defScope (rTop 27), [], []⟩
def T_is_left_of : Tab := ⟨[("less", P_less)], [], N_is_left_of, [], [], [], lDs⟩
def d_is_left_of : He.DefD := ⟨("is_left_of", none), "is_left_of", "is_left_of", defArgs (rTop 28), defBody (rTop 28), defScope (rTop 28), [], []⟩
def T_in_order : Tab := ⟨[("is_left_of", F_is_left_of)], [], N_in_order, ["found"], ["len"], [], lDs⟩
def d_in_order : He.DefD := ⟨("in_order", none), "in_order", "in_order", defArgs (rTop 29), defBody (rTop 29), defScope (rTop 29), [], []⟩
def T_turns_up : Tab := ⟨[("no_more", P_no_more), ("minus", P_minus), ("times", P_times)], [], N_turns_up, [], [], [], lDs⟩
def d_turns_up : He.DefD := ⟨("turns_up", none), "turns_up", "turns_up", defArgs (rTop 30), defBody (rTop 30), defScope (rTop 30), [], []⟩
def T_outer_gains : Tab := ⟨[("in_order", F_in_order), ("most_of", F_most_of), ("corner_gains", F_corner_gains), ("no_more", P_no_more), ("turns_up", F_turns_up)], [], N_outer_gains, ["found"], ["max", "enumerate", "len"], [], lDs⟩
def d_outer_gains : He.DefD := ⟨("outer_gains", none), "outer_gains", "outer_gains", defArgs (rTop 31), defBody (rTop 31), defScope (rTop 31), [], []⟩
def T_other_at : Tab := ⟨[("less", P_less), ("no_more", P_no_more), ("over", P_over), ("plus", P_plus), ("minus", P_minus), ("times", P_times)], [], N_other_at, [], ["zip"], [], lDs⟩
def d_other_at : He.DefD := ⟨("other_at", none), "other_at", "other_at", defArgs (rTop 32), defBody (rTop 32), defScope (rTop 32), [], []⟩
def T_turned_rows : Tab := ⟨[], [], N_turned_rows, [], [], [], lDs⟩
def d_turned_rows : He.DefD := ⟨("turned_rows", none), "turned_rows", "turned_rows", defArgs (rTop 33), defBody (rTop 33), defScope (rTop 33), [], []⟩
def T_is_in : Tab := ⟨[("gains_at", F_gains_at), ("other_at", F_other_at), ("less", P_less), ("outer_gains", F_outer_gains), ("no_more", P_no_more)], [("NOUGHT", G_NOUGHT)], N_is_in, [], [], [], lDs⟩
def d_is_in : He.DefD := ⟨("is_in", none), "is_in", "is_in", defArgs (rTop 34), defBody (rTop 34), defScope (rTop 34), [], []⟩
def T_is_full : Tab := ⟨[("is_in", F_is_in), ("gains_at", F_gains_at), ("outer_gains", F_outer_gains), ("other_at", F_other_at)], [], N_is_full, [], [], [], lDs⟩
def d_is_full : He.DefD := ⟨("is_full", none), "is_full", "is_full", defArgs (rTop 35), defBody (rTop 35), defScope (rTop 35), [], []⟩
def T_is_share : Tab := ⟨[("is_fraction", P_is_fraction), ("less", P_less)], [("NOUGHT", G_NOUGHT), ("MOST_BELOW", G_MOST_BELOW)], N_is_share, [], [], [], lDs⟩
def d_is_share : He.DefD := ⟨("is_share", none), "is_share", "is_share", defArgs (rTop 39), defBody (rTop 39), defScope (rTop 39), [], []⟩
def T_is_patience : Tab := ⟨[("is_many", F_is_many), ("is_share", F_is_share)], [], N_is_patience, [], [], [], lDs⟩
def d_is_patience : He.DefD := ⟨("is_patience", none), "is_patience", "is_patience", defArgs (rTop 40), defBody (rTop 40), defScope (rTop 40), [], []⟩
def T_check_patience : Tab := ⟨[("is_patience", F_is_patience)], [], N_check_patience, [], [], [], lDs⟩
def d_check_patience : He.DefD := ⟨("check_patience", none), "check_patience", "check_patience", defArgs (rTop 41), defBody (rTop 41), defScope (rTop 41), [], []⟩
def T_first_offer : Tab := ⟨[("other_at", F_other_at), ("turned_rows", F_turned_rows)], [], N_first_offer, [], [], [], lDs⟩
def d_first_offer : He.DefD := ⟨("first_offer", none), "first_offer", "first_offer", defArgs (rTop 42), defBody (rTop 42), defScope (rTop 42), [], []⟩
def T_second_offer : Tab := ⟨[("other_at", F_other_at), ("turned_rows", F_turned_rows)], [], N_second_offer, [], [], [], lDs⟩
def d_second_offer : He.DefD := ⟨("second_offer", none), "second_offer", "second_offer", defArgs (rTop 43), defBody (rTop 43), defScope (rTop 43), [], []⟩
def T_offers_left : Tab := ⟨[("check_lot", F_check_lot), ("check_patience", F_check_patience), ("is_from", F_is_from), ("outer_gains", F_outer_gains), ("first_offer", F_first_offer), ("second_offer", F_second_offer), ("times", P_times), ("point_at", F_point_at)], [("NOUGHT", G_NOUGHT), ("MOST_OFFERS", G_MOST_OFFERS)], N_offers_left, ["found"], ["range", "tuple"], [], lDs⟩
def d_offers_left : He.DefD := ⟨("offers_left", none), "offers_left", "offers_left", defArgs (rTop 44), defBody (rTop 44), defScope (rTop 44), [], []⟩
def T_step_apart : Tab := ⟨[("check_lot", F_check_lot), ("check_patience", F_check_patience), ("offers_left", F_offers_left), ("is_from", F_is_from), ("less", P_less), ("minus", P_minus)], [("MOST_OFFERS", G_MOST_OFFERS)], N_step_apart, [], [], [], lDs⟩
def d_step_apart : He.DefD := ⟨("step_apart", none), "step_apart", "step_apart", defArgs (rTop 45), defBody (rTop 45), defScope (rTop 45), [], []⟩
def T__law_cell_at : Tab := ⟨[], [], N__law_cell_at, [], ["len"], [], lDs⟩
def d__law_cell_at : He.DefD := ⟨("_law_cell_at", none), "_law_cell_at", "_law_cell_at", defArgs (rTop 47), defBody (rTop 47), defScope (rTop 47), [], []⟩
def T__law_draw : Tab := ⟨[], [], N__law_draw, [], ["int"], [], lDs⟩
def d__law_draw : He.DefD := ⟨("_law_draw", none), "_law_draw", "_law_draw", defArgs (rTop 48), defBody (rTop 48), defScope (rTop 48), [], []⟩
def T__law_number : Tab := ⟨[("_law_draw", F__law_draw)], [], N__law_number, [], ["range", "int"], [], lDs⟩
def d__law_number : He.DefD := ⟨("_law_number", none), "_law_number", "_law_number", defArgs (rTop 49), defBody (rTop 49), defScope (rTop 49), [], []⟩
def T__law_next : Tab := ⟨[("_law_number", F__law_number), ("_law_cell_at", F__law_cell_at)], [], N__law_next, ["draw"], ["int"], [], lDs⟩
def d__law_next : He.DefD := ⟨("_law_next", none), "_law_next", "_law_next", defArgs (rTop 50), defBody (rTop 50), defScope (rTop 50), [], []⟩
def T__law_part : Tab := ⟨[("lean", F_leanP), ("_law_next", F__law_next)], [], N__law_part, [], [], [], lDs⟩
def d__law_part : He.DefD := ⟨("_law_part", none), "_law_part", "_law_part", defArgs (rTop 51), defBody (rTop 51), defScope (rTop 51), [], []⟩
def T__law_lot : Tab := ⟨[("minus", P_minus), ("_law_part", F__law_part), ("_law_next", F__law_next), ("plus", P_plus)], [], N__law_lot, [], ["range"], [], lDs⟩
def d__law_lot : He.DefD := ⟨("_law_lot", none), "_law_lot", "_law_lot", defArgs (rTop 52), defBody (rTop 52), defScope (rTop 52), [], []⟩
def T__law_gains : Tab := ⟨[("minus", P_minus)], [], N__law_gains, [], [], [], lDs⟩
def d__law_gains : He.DefD := ⟨("_law_gains", none), "_law_gains", "_law_gains", defArgs (rTop 53), defBody (rTop 53), defScope (rTop 53), [], []⟩
def T__law_more : Tab := ⟨[("less", P_less)], [], N__law_more, [], [], [], lDs⟩
def d__law_more : He.DefD := ⟨("_law_more", none), "_law_more", "_law_more", defArgs (rTop 54), defBody (rTop 54), defScope (rTop 54), [], []⟩
def T__law_high : Tab := ⟨[("less", P_less), ("_law_more", F__law_more), ("over", P_over), ("minus", P_minus), ("plus", P_plus), ("times", P_times)], [], N__law_high, [], [], [], lDs⟩
def d__law_high : He.DefD := ⟨("_law_high", none), "_law_high", "_law_high", defArgs (rTop 55), defBody (rTop 55), defScope (rTop 55), [], []⟩
def T__law_patience : Tab := ⟨[("_law_next", F__law_next), ("lean", F_leanP)], [], N__law_patience, [], [], [], lDs⟩
def d__law_patience : He.DefD := ⟨("_law_patience", none), "_law_patience", "_law_patience", defArgs (rTop 56), defBody (rTop 56), defScope (rTop 56), [], []⟩
def T__law_offer : Tab := ⟨[("_law_high", F__law_high)], [], N__law_offer, [], [], [], lDs⟩
def d__law_offer : He.DefD := ⟨("_law_offer", none), "_law_offer", "_law_offer", defArgs (rTop 57), defBody (rTop 57), defScope (rTop 57), [], []⟩
def T_law : Tab := ⟨[("_law_gains", F__law_gains), ("offers_left", F_offers_left), ("bests_of", F_bests_of), ("_law_lot", F__law_lot), ("_law_patience", F__law_patience), ("minus", P_minus), ("_law_next", F__law_next), ("is_patience", F_is_patience), ("gains_at", F_gains_at), ("_law_offer", F__law_offer), ("less", P_less), ("step_apart", F_step_apart), ("times", P_times), ("is_full", F_is_full)], [], N_law, ["draw"], ["range", "len"], [], lDs⟩
def d_law : He.DefD := ⟨("law", none), "law", "law", defArgs (rTop 58), defBody (rTop 58), defScope (rTop 58), [], []⟩
def lBv : BI := none
def lFn : List He.DefD := [d_is_whole, d_is_from, d_is_many, d_lean, d_is_fraction, d_plus, d_minus, d_times, d_over, d_less, d_no_more, d_greater, d_most_of, d_is_point, d_is_lot, d_check_lot, d_check_point, d_gains_at, d_point_at, d_corner_gains, d_bests_of, d_is_left_of, d_in_order, d_turns_up, d_outer_gains, d_other_at, d_turned_rows, d_is_in, d_is_full, d_is_share, d_is_patience, d_check_patience, d_first_offer, d_second_offer, d_offers_left, d_step_apart, d__law_cell_at, d__law_draw, d__law_number, d__law_next, d__law_part, d__law_lot, d__law_gains, d__law_more, d__law_high, d__law_patience, d__law_offer, d_law]
def lFa : List He.Fa := [.glo "is_whole", .glo "is_from", .glo "is_many", .glo "lean", .glo "is_fraction", .glo "plus", .glo "minus", .glo "times", .glo "over", .glo "less", .glo "no_more", .glo "greater", .glo "most_of", .glo "is_point", .glo "is_lot", .glo "check_lot", .glo "check_point", .glo "gains_at", .glo "point_at", .glo "corner_gains", .glo "bests_of", .glo "is_left_of", .glo "in_order", .glo "turns_up", .glo "outer_gains", .glo "other_at", .glo "turned_rows", .glo "is_in", .glo "is_full", .glo "is_share", .glo "is_patience", .glo "check_patience", .glo "first_offer", .glo "second_offer", .glo "offers_left", .glo "step_apart", .glo "_law_cell_at", .glo "_law_draw", .glo "_law_number", .glo "_law_next", .glo "_law_part", .glo "_law_lot", .glo "_law_gains", .glo "_law_more", .glo "_law_high", .glo "_law_patience", .glo "_law_offer", .glo "law", .free "isinstance", .free "int", .free "bool", .free "tuple", .free "len", .free "abs", .free "all", .free "any", .free "max", .free "enumerate", .free "zip", .free "range"]
def lCs : CT := [("MOST_CORNERS", G_MOST_CORNERS), ("NOUGHT", G_NOUGHT), ("MOST_BELOW", G_MOST_BELOW), ("MOST_OFFERS", G_MOST_OFFERS)]
def lMk : List Str := []
section
variable {Pg : Program} {w : World} {K : PySem.W.Frag} {mg : Str → Option Value} {base h : Heap}
theorem m_is_whole : cmpSs (cmpS T_is_whole (defScope (rTop 5)) 40) (defBody (rTop 5)) = some B_is_whole := by kernel_rfl
theorem g_is_whole (c : Hd lFa lFn lCs lDs w K mg h) : GoodF Pg w K mg base "is_whole" F_is_whole 1 := by
  obtain ⟨fd, F⟩ := c.c.def_ 0 (d := d_is_whole) rfl
  exact def_ok (T := T_is_whole) (ps := ["thing"]) (np := 1) (nn := 1) F rfl (c.glo 0 rfl) (fun _ _ _ _ _ _ us hl => match us, hl with | [_], _ => rfl) ⟨rfl, rfl, rfl, by decide +kernel, rfl, by decide +kernel, by decide +kernel⟩ (by decide +kernel) rfl rfl m_is_whole (.nil) (.nil) c.dx (c.free (bl := ["isinstance", "int", "bool"]) (by decide +kernel)) (fun z => absurd rfl z)
theorem m_is_from : cmpSs (cmpS T_is_from (defScope (rTop 6)) 40) (defBody (rTop 6)) = some B_is_from := by kernel_rfl
theorem g_is_from (c : Hd lFa lFn lCs lDs w K mg h) : GoodF Pg w K mg base "is_from" F_is_from 2 := by
  obtain ⟨fd, F⟩ := c.c.def_ 1 (d := d_is_from) rfl
  exact def_ok (T := T_is_from) (ps := ["thing", "least", "most"]) (np := 3) (nn := 3) F rfl (c.glo 1 rfl) (fun _ _ _ _ _ _ us hl => match us, hl with | [_, _, _], _ => rfl) ⟨rfl, rfl, rfl, by decide +kernel, rfl, by decide +kernel, by decide +kernel⟩ (by decide +kernel) rfl rfl m_is_from (.cons ((g_is_whole c).mono rfl) (.nil)) (.nil) c.dx (c.free (bl := []) (by decide +kernel)) (fun z => absurd rfl z)
theorem m_is_many : cmpSs (cmpS T_is_many (defScope (rTop 7)) 40) (defBody (rTop 7)) = some B_is_many := by kernel_rfl
theorem g_is_many (c : Hd lFa lFn lCs lDs w K mg h) : GoodF Pg w K mg base "is_many" F_is_many 1 := by
  obtain ⟨fd, F⟩ := c.c.def_ 2 (d := d_is_many) rfl
  exact def_ok (T := T_is_many) (ps := ["thing", "many"]) (np := 2) (nn := 2) F rfl (c.glo 2 rfl) (fun _ _ _ _ _ _ us hl => match us, hl with | [_, _], _ => rfl) ⟨rfl, rfl, rfl, by decide +kernel, rfl, by decide +kernel, by decide +kernel⟩ (by decide +kernel) rfl rfl m_is_many (.nil) (.nil) c.dx (c.free (bl := ["isinstance", "tuple", "len"]) (by decide +kernel)) (fun z => absurd rfl z)
theorem m_lean : cmpSs (cmpS T_lean (defScope (rTop 8)) 40) (defBody (rTop 8)) = some B_lean := by kernel_rfl
theorem g_lean (c : Hd lFa lFn lCs lDs w K mg h) : GoodF Pg w K mg base "lean" F_lean 1 := by
  obtain ⟨fd, F⟩ := c.c.def_ 3 (d := d_lean) rfl
  exact def_ok (T := T_lean) (ps := ["top", "below"]) (np := 2) (nn := 4) F rfl (c.glo 3 rfl) (fun _ _ _ _ _ _ us hl => match us, hl with | [_, _], _ => rfl) ⟨rfl, rfl, rfl, by decide +kernel, rfl, by decide +kernel, by decide +kernel⟩ (by decide +kernel) rfl rfl m_lean (.nil) (.nil) c.dx (c.free (bl := ["abs"]) (by decide +kernel)) (fun z => absurd rfl z)
theorem p_lean (c : Hd lFa lFn lCs lDs w K mg h) : GoodF Pg w K mg base "lean" F_leanP 1 := (g_lean c).imp le_lean
theorem m_is_fraction : cmpSs (cmpS T_is_fraction (defScope (rTop 9)) 40) (defBody (rTop 9)) = some B_is_fraction := by kernel_rfl
theorem g_is_fraction (c : Hd lFa lFn lCs lDs w K mg h) : GoodF Pg w K mg base "is_fraction" F_is_fraction 2 := by
  obtain ⟨fd, F⟩ := c.c.def_ 4 (d := d_is_fraction) rfl
  exact def_ok (T := T_is_fraction) (ps := ["thing"]) (np := 1) (nn := 1) F rfl (c.glo 4 rfl) (fun _ _ _ _ _ _ us hl => match us, hl with | [_], _ => rfl) ⟨rfl, rfl, rfl, by decide +kernel, rfl, by decide +kernel, by decide +kernel⟩ (by decide +kernel) rfl rfl m_is_fraction (.cons ((p_lean c).mono rfl) (.cons ((g_is_many c).mono rfl) (.cons ((g_is_whole c).mono rfl) (.nil)))) (.nil) c.dx (c.free (bl := []) (by decide +kernel)) (fun z => absurd rfl z)
theorem p_is_fraction (c : Hd lFa lFn lCs lDs w K mg h) : GoodF Pg w K mg base "is_fraction" P_is_fraction 2 := (g_is_fraction c).imp le_is_fraction
theorem m_plus : cmpSs (cmpS T_plus (defScope (rTop 10)) 40) (defBody (rTop 10)) = some B_plus := by kernel_rfl
theorem g_plus (c : Hd lFa lFn lCs lDs w K mg h) : GoodF Pg w K mg base "plus" F_plus 2 := by
  obtain ⟨fd, F⟩ := c.c.def_ 5 (d := d_plus) rfl
  exact def_ok (T := T_plus) (ps := ["one", "other"]) (np := 2) (nn := 2) F rfl (c.glo 5 rfl) (fun _ _ _ _ _ _ us hl => match us, hl with | [_, _], _ => rfl) ⟨rfl, rfl, rfl, by decide +kernel, rfl, by decide +kernel, by decide +kernel⟩ (by decide +kernel) rfl rfl m_plus (.cons ((p_lean c).mono rfl) (.nil)) (.nil) c.dx (c.free (bl := []) (by decide +kernel)) (fun z => absurd rfl z)
theorem p_plus (c : Hd lFa lFn lCs lDs w K mg h) : GoodF Pg w K mg base "plus" P_plus 2 := (g_plus c).imp le_plus
theorem m_minus : cmpSs (cmpS T_minus (defScope (rTop 11)) 40) (defBody (rTop 11)) = some B_minus := by kernel_rfl
theorem g_minus (c : Hd lFa lFn lCs lDs w K mg h) : GoodF Pg w K mg base "minus" F_minus 2 := by
  obtain ⟨fd, F⟩ := c.c.def_ 6 (d := d_minus) rfl
  exact def_ok (T := T_minus) (ps := ["one", "other"]) (np := 2) (nn := 2) F rfl (c.glo 6 rfl) (fun _ _ _ _ _ _ us hl => match us, hl with | [_, _], _ => rfl) ⟨rfl, rfl, rfl, by decide +kernel, rfl, by decide +kernel, by decide +kernel⟩ (by decide +kernel) rfl rfl m_minus (.cons ((p_lean c).mono rfl) (.nil)) (.nil) c.dx (c.free (bl := []) (by decide +kernel)) (fun z => absurd rfl z)
theorem p_minus (c : Hd lFa lFn lCs lDs w K mg h) : GoodF Pg w K mg base "minus" P_minus 2 := (g_minus c).imp le_minus
theorem m_times : cmpSs (cmpS T_times (defScope (rTop 12)) 40) (defBody (rTop 12)) = some B_times := by kernel_rfl
theorem g_times (c : Hd lFa lFn lCs lDs w K mg h) : GoodF Pg w K mg base "times" F_times 2 := by
  obtain ⟨fd, F⟩ := c.c.def_ 7 (d := d_times) rfl
  exact def_ok (T := T_times) (ps := ["one", "other"]) (np := 2) (nn := 2) F rfl (c.glo 7 rfl) (fun _ _ _ _ _ _ us hl => match us, hl with | [_, _], _ => rfl) ⟨rfl, rfl, rfl, by decide +kernel, rfl, by decide +kernel, by decide +kernel⟩ (by decide +kernel) rfl rfl m_times (.cons ((p_lean c).mono rfl) (.nil)) (.nil) c.dx (c.free (bl := []) (by decide +kernel)) (fun z => absurd rfl z)
theorem p_times (c : Hd lFa lFn lCs lDs w K mg h) : GoodF Pg w K mg base "times" P_times 2 := (g_times c).imp le_times
theorem m_over : cmpSs (cmpS T_over (defScope (rTop 13)) 40) (defBody (rTop 13)) = some B_over := by kernel_rfl
theorem g_over (c : Hd lFa lFn lCs lDs w K mg h) : GoodF Pg w K mg base "over" F_over 2 := by
  obtain ⟨fd, F⟩ := c.c.def_ 8 (d := d_over) rfl
  exact def_ok (T := T_over) (ps := ["one", "other"]) (np := 2) (nn := 2) F rfl (c.glo 8 rfl) (fun _ _ _ _ _ _ us hl => match us, hl with | [_, _], _ => rfl) ⟨rfl, rfl, rfl, by decide +kernel, rfl, by decide +kernel, by decide +kernel⟩ (by decide +kernel) rfl rfl m_over (.cons ((p_lean c).mono rfl) (.nil)) (.nil) c.dx (c.free (bl := []) (by decide +kernel)) (fun z => absurd rfl z)
theorem p_over (c : Hd lFa lFn lCs lDs w K mg h) : GoodF Pg w K mg base "over" P_over 2 := (g_over c).imp le_over
theorem m_less : cmpSs (cmpS T_less (defScope (rTop 14)) 40) (defBody (rTop 14)) = some B_less := by kernel_rfl
theorem g_less (c : Hd lFa lFn lCs lDs w K mg h) : GoodF Pg w K mg base "less" F_less 1 := by
  obtain ⟨fd, F⟩ := c.c.def_ 9 (d := d_less) rfl
  exact def_ok (T := T_less) (ps := ["one", "other"]) (np := 2) (nn := 2) F rfl (c.glo 9 rfl) (fun _ _ _ _ _ _ us hl => match us, hl with | [_, _], _ => rfl) ⟨rfl, rfl, rfl, by decide +kernel, rfl, by decide +kernel, by decide +kernel⟩ (by decide +kernel) rfl rfl m_less (.nil) (.nil) c.dx (c.free (bl := []) (by decide +kernel)) (fun z => absurd rfl z)
theorem p_less (c : Hd lFa lFn lCs lDs w K mg h) : GoodF Pg w K mg base "less" P_less 1 := (g_less c).imp le_less
theorem m_no_more : cmpSs (cmpS T_no_more (defScope (rTop 15)) 40) (defBody (rTop 15)) = some B_no_more := by kernel_rfl
theorem g_no_more (c : Hd lFa lFn lCs lDs w K mg h) : GoodF Pg w K mg base "no_more" F_no_more 1 := by
  obtain ⟨fd, F⟩ := c.c.def_ 10 (d := d_no_more) rfl
  exact def_ok (T := T_no_more) (ps := ["one", "other"]) (np := 2) (nn := 2) F rfl (c.glo 10 rfl) (fun _ _ _ _ _ _ us hl => match us, hl with | [_, _], _ => rfl) ⟨rfl, rfl, rfl, by decide +kernel, rfl, by decide +kernel, by decide +kernel⟩ (by decide +kernel) rfl rfl m_no_more (.nil) (.nil) c.dx (c.free (bl := []) (by decide +kernel)) (fun z => absurd rfl z)
theorem p_no_more (c : Hd lFa lFn lCs lDs w K mg h) : GoodF Pg w K mg base "no_more" P_no_more 1 := (g_no_more c).imp le_no_more
theorem m_greater : cmpSs (cmpS T_greater (defScope (rTop 16)) 40) (defBody (rTop 16)) = some B_greater := by kernel_rfl
theorem g_greater (c : Hd lFa lFn lCs lDs w K mg h) : GoodF Pg w K mg base "greater" F_greater 2 := by
  obtain ⟨fd, F⟩ := c.c.def_ 11 (d := d_greater) rfl
  exact def_ok (T := T_greater) (ps := ["one", "other"]) (np := 2) (nn := 2) F rfl (c.glo 11 rfl) (fun _ _ _ _ _ _ us hl => match us, hl with | [_, _], _ => rfl) ⟨rfl, rfl, rfl, by decide +kernel, rfl, by decide +kernel, by decide +kernel⟩ (by decide +kernel) rfl rfl m_greater (.cons ((p_less c).mono rfl) (.nil)) (.nil) c.dx (c.free (bl := []) (by decide +kernel)) (fun z => absurd rfl z)
theorem m_most_of : cmpSs (cmpS T_most_of (defScope (rTop 17)) 40) (defBody (rTop 17)) = some B_most_of := by kernel_rfl
theorem g_most_of (c : Hd lFa lFn lCs lDs w K mg h) : GoodF Pg w K mg base "most_of" F_most_of 3 := by
  obtain ⟨fd, F⟩ := c.c.def_ 12 (d := d_most_of) rfl
  exact def_ok (T := T_most_of) (ps := ["things"]) (np := 1) (nn := 3) F rfl (c.glo 12 rfl) (fun _ _ _ _ _ _ us hl => match us, hl with | [_], _ => rfl) ⟨rfl, rfl, rfl, by decide +kernel, rfl, by decide +kernel, by decide +kernel⟩ (by decide +kernel) rfl rfl m_most_of (.cons ((g_greater c).mono rfl) (.nil)) (.nil) c.dx (c.free (bl := []) (by decide +kernel)) (fun z => absurd rfl z)
theorem m_is_point : cmpSs (cmpS T_is_point (defScope (rTop 20)) 40) (defBody (rTop 20)) = some B_is_point := by kernel_rfl
theorem g_is_point (c : Hd lFa lFn lCs lDs w K mg h) : GoodF Pg w K mg base "is_point" F_is_point 3 := by
  obtain ⟨fd, F⟩ := c.c.def_ 13 (d := d_is_point) rfl
  exact def_ok (T := T_is_point) (ps := ["thing"]) (np := 1) (nn := 1) F rfl (c.glo 13 rfl) (fun _ _ _ _ _ _ us hl => match us, hl with | [_], _ => rfl) ⟨rfl, rfl, rfl, by decide +kernel, rfl, by decide +kernel, by decide +kernel⟩ (by decide +kernel) rfl rfl m_is_point (.cons ((g_is_many c).mono rfl) (.cons ((p_is_fraction c).mono rfl) (.nil))) (.nil) c.dx (c.free (bl := []) (by decide +kernel)) (fun z => absurd rfl z)
theorem m_is_lot : cmpSs (cmpS T_is_lot (defScope (rTop 21)) 40) (defBody (rTop 21)) = some B_is_lot := by kernel_rfl
theorem g_is_lot (c : Hd lFa lFn lCs lDs w K mg h) : GoodF Pg w K mg base "is_lot" F_is_lot 4 := by
  obtain ⟨fd, F⟩ := c.c.def_ 14 (d := d_is_lot) rfl
  exact def_ok (T := T_is_lot) (ps := ["thing"]) (np := 1) (nn := 4) F rfl (c.glo 14 rfl) (fun _ _ _ _ _ _ us hl => match us, hl with | [_], _ => rfl) ⟨rfl, rfl, rfl, by decide +kernel, rfl, by decide +kernel, by decide +kernel⟩ (by decide +kernel) rfl rfl m_is_lot (.cons ((g_is_many c).mono rfl) (.cons ((g_is_point c).mono rfl) (.cons ((p_no_more c).mono rfl) (.cons ((p_less c).mono rfl) (.nil))))) (.cons (c.cs.get (t := lCs) (x := "MOST_CORNERS") (by kernel_rfl)) (.nil)) c.dx (c.free (bl := ["all", "isinstance", "tuple", "any", "len"]) (by decide +kernel)) (fun z => absurd rfl z)
theorem m_check_lot : cmpSs (cmpS T_check_lot (defScope (rTop 22)) 40) (defBody (rTop 22)) = some B_check_lot := by kernel_rfl
theorem g_check_lot (c : Hd lFa lFn lCs lDs w K mg h) : GoodF Pg w K mg base "check_lot" F_check_lot 5 := by
  obtain ⟨fd, F⟩ := c.c.def_ 15 (d := d_check_lot) rfl
  exact def_ok (T := T_check_lot) (ps := ["lot"]) (np := 1) (nn := 1) F rfl (c.glo 15 rfl) (fun _ _ _ _ _ _ us hl => match us, hl with | [_], _ => rfl) ⟨rfl, rfl, rfl, by decide +kernel, rfl, by decide +kernel, by decide +kernel⟩ (by decide +kernel) rfl rfl m_check_lot (.cons ((g_is_lot c).mono rfl) (.nil)) (.nil) c.dx (c.free (bl := []) (by decide +kernel)) (fun z => absurd rfl z)
theorem m_check_point : cmpSs (cmpS T_check_point (defScope (rTop 23)) 40) (defBody (rTop 23)) = some B_check_point := by kernel_rfl
theorem g_check_point (c : Hd lFa lFn lCs lDs w K mg h) : GoodF Pg w K mg base "check_point" F_check_point 4 := by
  obtain ⟨fd, F⟩ := c.c.def_ 16 (d := d_check_point) rfl
  exact def_ok (T := T_check_point) (ps := ["point"]) (np := 1) (nn := 1) F rfl (c.glo 16 rfl) (fun _ _ _ _ _ _ us hl => match us, hl with | [_], _ => rfl) ⟨rfl, rfl, rfl, by decide +kernel, rfl, by decide +kernel, by decide +kernel⟩ (by decide +kernel) rfl rfl m_check_point (.cons ((g_is_point c).mono rfl) (.nil)) (.nil) c.dx (c.free (bl := []) (by decide +kernel)) (fun z => absurd rfl z)
theorem m_gains_at : cmpSs (cmpS T_gains_at (defScope (rTop 24)) 40) (defBody (rTop 24)) = some B_gains_at := by kernel_rfl
theorem g_gains_at (c : Hd lFa lFn lCs lDs w K mg h) : GoodF Pg w K mg base "gains_at" F_gains_at 6 := by
  obtain ⟨fd, F⟩ := c.c.def_ 17 (d := d_gains_at) rfl
  exact def_ok (T := T_gains_at) (ps := ["lot", "point"]) (np := 2) (nn := 2) F rfl (c.glo 17 rfl) (fun _ _ _ _ _ _ us hl => match us, hl with | [_, _], _ => rfl) ⟨rfl, rfl, rfl, by decide +kernel, rfl, by decide +kernel, by decide +kernel⟩ (by decide +kernel) rfl rfl m_gains_at (.cons ((g_check_lot c).mono rfl) (.cons ((g_check_point c).mono rfl) (.cons ((p_minus c).mono rfl) (.nil)))) (.nil) c.dx (c.free (bl := []) (by decide +kernel)) (fun z => absurd rfl z)
theorem m_point_at : cmpSs (cmpS T_point_at (defScope (rTop 25)) 40) (defBody (rTop 25)) = some B_point_at := by kernel_rfl
theorem g_point_at (c : Hd lFa lFn lCs lDs w K mg h) : GoodF Pg w K mg base "point_at" F_point_at 6 := by
  obtain ⟨fd, F⟩ := c.c.def_ 18 (d := d_point_at) rfl
  exact def_ok (T := T_point_at) (ps := ["lot", "gains"]) (np := 2) (nn := 2) F rfl (c.glo 18 rfl) (fun _ _ _ _ _ _ us hl => match us, hl with | [_, _], _ => rfl) ⟨rfl, rfl, rfl, by decide +kernel, rfl, by decide +kernel, by decide +kernel⟩ (by decide +kernel) rfl rfl m_point_at (.cons ((g_check_lot c).mono rfl) (.cons ((g_check_point c).mono rfl) (.cons ((p_plus c).mono rfl) (.nil)))) (.nil) c.dx (c.free (bl := []) (by decide +kernel)) (fun z => absurd rfl z)
theorem m_corner_gains : cmpSs (cmpS T_corner_gains (defScope (rTop 26)) 40) (defBody (rTop 26)) = some B_corner_gains := by kernel_rfl
theorem g_corner_gains (c : Hd lFa lFn lCs lDs w K mg h) : GoodF Pg w K mg base "corner_gains" F_corner_gains 3 := by
  obtain ⟨fd, F⟩ := c.c.def_ 19 (d := d_corner_gains) rfl
  exact def_ok (T := T_corner_gains) (ps := ["lot"]) (np := 1) (nn := 2) F rfl (c.glo 19 rfl) (fun _ _ _ _ _ _ us hl => match us, hl with | [_], _ => rfl) ⟨rfl, rfl, rfl, by decide +kernel, rfl, by decide +kernel, by decide +kernel⟩ (by decide +kernel) rfl rfl m_corner_gains (.cons ((p_minus c).mono rfl) (.nil)) (.nil) c.dx (c.free (bl := []) (by decide +kernel)) (fun z => absurd rfl z)
theorem m_bests_of : cmpSs (cmpS T_bests_of (defScope (rTop 27)) 40) (defBody (rTop 27)) = some B_bests_of := by kernel_rfl
theorem g_bests_of (c : Hd lFa lFn lCs lDs w K mg h) : GoodF Pg w K mg base "bests_of" F_bests_of 6 := by
  obtain ⟨fd, F⟩ := c.c.def_ 20 (d := d_bests_of) rfl
  exact def_ok (T := T_bests_of) (ps := ["lot"]) (np := 1) (nn := 3) F rfl (c.glo 20 rfl) (fun _ _ _ _ _ _ us hl => match us, hl with | [_], _ => rfl) ⟨rfl, rfl, rfl, by decide +kernel, rfl, by decide +kernel, by decide +kernel⟩ (by decide +kernel) rfl rfl m_bests_of (.cons ((g_check_lot c).mono rfl) (.cons ((g_corner_gains c).mono rfl) (.cons ((g_most_of c).mono rfl) (.nil)))) (.nil) c.dx (c.free (bl := []) (by decide +kernel)) (fun z => absurd rfl z)
theorem m_is_left_of : cmpSs (cmpS T_is_left_of (defScope (rTop 28)) 40) (defBody (rTop 28)) = some B_is_left_of := by kernel_rfl
theorem g_is_left_of (c : Hd lFa lFn lCs lDs w K mg h) : GoodF Pg w K mg base "is_left_of" F_is_left_of 2 := by
  obtain ⟨fd, F⟩ := c.c.def_ 21 (d := d_is_left_of) rfl
  exact def_ok (T := T_is_left_of) (ps := ["one", "other"]) (np := 2) (nn := 2) F rfl (c.glo 21 rfl) (fun _ _ _ _ _ _ us hl => match us, hl with | [_, _], _ => rfl) ⟨rfl, rfl, rfl, by decide +kernel, rfl, by decide +kernel, by decide +kernel⟩ (by decide +kernel) rfl rfl m_is_left_of (.cons ((p_less c).mono rfl) (.nil)) (.nil) c.dx (c.free (bl := []) (by decide +kernel)) (fun z => absurd rfl z)
theorem m_in_order : cmpSs (cmpS T_in_order (defScope (rTop 29)) 40) (defBody (rTop 29)) = some B_in_order := by kernel_rfl
theorem g_in_order (c : Hd lFa lFn lCs lDs w K mg h) : GoodF Pg w K mg base "in_order" F_in_order 3 := by
  obtain ⟨fd, F⟩ := c.c.def_ 22 (d := d_in_order) rfl
  exact def_ok (T := T_in_order) (ps := ["points"]) (np := 1) (nn := 5) F rfl (c.glo 22 rfl) (fun _ _ _ _ _ _ us hl => match us, hl with | [_], _ => rfl) ⟨rfl, rfl, rfl, by decide +kernel, rfl, by decide +kernel, by decide +kernel⟩ (by decide +kernel) rfl rfl m_in_order (.cons ((g_is_left_of c).mono rfl) (.nil)) (.nil) c.dx (c.free (bl := ["len"]) (by decide +kernel)) (fun z => absurd rfl z)
theorem m_turns_up : cmpSs (cmpS T_turns_up (defScope (rTop 30)) 40) (defBody (rTop 30)) = some B_turns_up := by kernel_rfl
theorem g_turns_up (c : Hd lFa lFn lCs lDs w K mg h) : GoodF Pg w K mg base "turns_up" F_turns_up 3 := by
  obtain ⟨fd, F⟩ := c.c.def_ 23 (d := d_turns_up) rfl
  exact def_ok (T := T_turns_up) (ps := ["one", "middle", "last"]) (np := 3) (nn := 5) F rfl (c.glo 23 rfl) (fun _ _ _ _ _ _ us hl => match us, hl with | [_, _, _], _ => rfl) ⟨rfl, rfl, rfl, by decide +kernel, rfl, by decide +kernel, by decide +kernel⟩ (by decide +kernel) rfl rfl m_turns_up (.cons ((p_no_more c).mono rfl) (.cons ((p_minus c).mono rfl) (.cons ((p_times c).mono rfl) (.nil)))) (.nil) c.dx (c.free (bl := []) (by decide +kernel)) (fun z => absurd rfl z)
theorem m_outer_gains : cmpSs (cmpS T_outer_gains (defScope (rTop 31)) 40) (defBody (rTop 31)) = some B_outer_gains := by kernel_rfl
theorem g_outer_gains (c : Hd lFa lFn lCs lDs w K mg h) : GoodF Pg w K mg base "outer_gains" F_outer_gains 4 := by
  obtain ⟨fd, F⟩ := c.c.def_ 24 (d := d_outer_gains) rfl
  exact def_ok (T := T_outer_gains) (ps := ["lot"]) (np := 1) (nn := 7) F rfl (c.glo 24 rfl) (fun _ _ _ _ _ _ us hl => match us, hl with | [_], _ => rfl) ⟨rfl, rfl, rfl, by decide +kernel, rfl, by decide +kernel, by decide +kernel⟩ (by decide +kernel) rfl rfl m_outer_gains (.cons ((g_in_order c).mono rfl) (.cons ((g_most_of c).mono rfl) (.cons ((g_corner_gains c).mono rfl) (.cons ((p_no_more c).mono rfl) (.cons ((g_turns_up c).mono rfl) (.nil)))))) (.nil) c.dx (c.free (bl := ["max", "enumerate", "len"]) (by decide +kernel)) (fun z => absurd rfl z)
theorem m_other_at : cmpSs (cmpS T_other_at (defScope (rTop 32)) 40) (defBody (rTop 32)) = some B_other_at := by kernel_rfl
theorem g_other_at (c : Hd lFa lFn lCs lDs w K mg h) : GoodF Pg w K mg base "other_at" F_other_at 3 := by
  obtain ⟨fd, F⟩ := c.c.def_ 25 (d := d_other_at) rfl
  exact def_ok (T := T_other_at) (ps := ["rows", "gain"]) (np := 2) (nn := 5) F rfl (c.glo 25 rfl) (fun _ _ _ _ _ _ us hl => match us, hl with | [_, _], _ => rfl) ⟨rfl, rfl, rfl, by decide +kernel, rfl, by decide +kernel, by decide +kernel⟩ (by decide +kernel) rfl rfl m_other_at (.cons ((p_less c).mono rfl) (.cons ((p_no_more c).mono rfl) (.cons ((p_over c).mono rfl) (.cons ((p_plus c).mono rfl) (.cons ((p_minus c).mono rfl) (.cons ((p_times c).mono rfl) (.nil))))))) (.nil) c.dx (c.free (bl := ["zip"]) (by decide +kernel)) (fun z => absurd rfl z)
theorem m_turned_rows : cmpSs (cmpS T_turned_rows (defScope (rTop 33)) 40) (defBody (rTop 33)) = some B_turned_rows := by kernel_rfl
theorem g_turned_rows (c : Hd lFa lFn lCs lDs w K mg h) : GoodF Pg w K mg base "turned_rows" F_turned_rows 1 := by
  obtain ⟨fd, F⟩ := c.c.def_ 26 (d := d_turned_rows) rfl
  exact def_ok (T := T_turned_rows) (ps := ["rows"]) (np := 1) (nn := 2) F rfl (c.glo 26 rfl) (fun _ _ _ _ _ _ us hl => match us, hl with | [_], _ => rfl) ⟨rfl, rfl, rfl, by decide +kernel, rfl, by decide +kernel, by decide +kernel⟩ (by decide +kernel) rfl rfl m_turned_rows (.nil) (.nil) c.dx (c.free (bl := []) (by decide +kernel)) (fun z => absurd rfl z)
theorem m_is_in : cmpSs (cmpS T_is_in (defScope (rTop 34)) 40) (defBody (rTop 34)) = some B_is_in := by kernel_rfl
theorem g_is_in (c : Hd lFa lFn lCs lDs w K mg h) : GoodF Pg w K mg base "is_in" F_is_in 7 := by
  obtain ⟨fd, F⟩ := c.c.def_ 27 (d := d_is_in) rfl
  exact def_ok (T := T_is_in) (ps := ["lot", "point"]) (np := 2) (nn := 4) F rfl (c.glo 27 rfl) (fun _ _ _ _ _ _ us hl => match us, hl with | [_, _], _ => rfl) ⟨rfl, rfl, rfl, by decide +kernel, rfl, by decide +kernel, by decide +kernel⟩ (by decide +kernel) rfl rfl m_is_in (.cons ((g_gains_at c).mono rfl) (.cons ((g_other_at c).mono rfl) (.cons ((p_less c).mono rfl) (.cons ((g_outer_gains c).mono rfl) (.cons ((p_no_more c).mono rfl) (.nil)))))) (.cons (c.cs.get (t := lCs) (x := "NOUGHT") (by kernel_rfl)) (.nil)) c.dx (c.free (bl := []) (by decide +kernel)) (fun z => absurd rfl z)
theorem m_is_full : cmpSs (cmpS T_is_full (defScope (rTop 35)) 40) (defBody (rTop 35)) = some B_is_full := by kernel_rfl
theorem g_is_full (c : Hd lFa lFn lCs lDs w K mg h) : GoodF Pg w K mg base "is_full" F_is_full 8 := by
  obtain ⟨fd, F⟩ := c.c.def_ 28 (d := d_is_full) rfl
  exact def_ok (T := T_is_full) (ps := ["lot", "point"]) (np := 2) (nn := 4) F rfl (c.glo 28 rfl) (fun _ _ _ _ _ _ us hl => match us, hl with | [_, _], _ => rfl) ⟨rfl, rfl, rfl, by decide +kernel, rfl, by decide +kernel, by decide +kernel⟩ (by decide +kernel) rfl rfl m_is_full (.cons ((g_is_in c).mono rfl) (.cons ((g_gains_at c).mono rfl) (.cons ((g_outer_gains c).mono rfl) (.cons ((g_other_at c).mono rfl) (.nil))))) (.nil) c.dx (c.free (bl := []) (by decide +kernel)) (fun z => absurd rfl z)
theorem m_is_share : cmpSs (cmpS T_is_share (defScope (rTop 39)) 40) (defBody (rTop 39)) = some B_is_share := by kernel_rfl
theorem g_is_share (c : Hd lFa lFn lCs lDs w K mg h) : GoodF Pg w K mg base "is_share" F_is_share 3 := by
  obtain ⟨fd, F⟩ := c.c.def_ 29 (d := d_is_share) rfl
  exact def_ok (T := T_is_share) (ps := ["thing"]) (np := 1) (nn := 1) F rfl (c.glo 29 rfl) (fun _ _ _ _ _ _ us hl => match us, hl with | [_], _ => rfl) ⟨rfl, rfl, rfl, by decide +kernel, rfl, by decide +kernel, by decide +kernel⟩ (by decide +kernel) rfl rfl m_is_share (.cons ((p_is_fraction c).mono rfl) (.cons ((p_less c).mono rfl) (.nil))) (.cons (c.cs.get (t := lCs) (x := "NOUGHT") (by kernel_rfl)) (.cons (c.cs.get (t := lCs) (x := "MOST_BELOW") (by kernel_rfl)) (.nil))) c.dx (c.free (bl := []) (by decide +kernel)) (fun z => absurd rfl z)
theorem m_is_patience : cmpSs (cmpS T_is_patience (defScope (rTop 40)) 40) (defBody (rTop 40)) = some B_is_patience := by kernel_rfl
theorem g_is_patience (c : Hd lFa lFn lCs lDs w K mg h) : GoodF Pg w K mg base "is_patience" F_is_patience 4 := by
  obtain ⟨fd, F⟩ := c.c.def_ 30 (d := d_is_patience) rfl
  exact def_ok (T := T_is_patience) (ps := ["thing"]) (np := 1) (nn := 1) F rfl (c.glo 30 rfl) (fun _ _ _ _ _ _ us hl => match us, hl with | [_], _ => rfl) ⟨rfl, rfl, rfl, by decide +kernel, rfl, by decide +kernel, by decide +kernel⟩ (by decide +kernel) rfl rfl m_is_patience (.cons ((g_is_many c).mono rfl) (.cons ((g_is_share c).mono rfl) (.nil))) (.nil) c.dx (c.free (bl := []) (by decide +kernel)) (fun z => absurd rfl z)
theorem m_check_patience : cmpSs (cmpS T_check_patience (defScope (rTop 41)) 40) (defBody (rTop 41)) = some B_check_patience := by kernel_rfl
theorem g_check_patience (c : Hd lFa lFn lCs lDs w K mg h) : GoodF Pg w K mg base "check_patience" F_check_patience 5 := by
  obtain ⟨fd, F⟩ := c.c.def_ 31 (d := d_check_patience) rfl
  exact def_ok (T := T_check_patience) (ps := ["patience"]) (np := 1) (nn := 1) F rfl (c.glo 31 rfl) (fun _ _ _ _ _ _ us hl => match us, hl with | [_], _ => rfl) ⟨rfl, rfl, rfl, by decide +kernel, rfl, by decide +kernel, by decide +kernel⟩ (by decide +kernel) rfl rfl m_check_patience (.cons ((g_is_patience c).mono rfl) (.nil)) (.nil) c.dx (c.free (bl := []) (by decide +kernel)) (fun z => absurd rfl z)
theorem m_first_offer : cmpSs (cmpS T_first_offer (defScope (rTop 42)) 40) (defBody (rTop 42)) = some B_first_offer := by kernel_rfl
theorem g_first_offer (c : Hd lFa lFn lCs lDs w K mg h) : GoodF Pg w K mg base "first_offer" F_first_offer 4 := by
  obtain ⟨fd, F⟩ := c.c.def_ 32 (d := d_first_offer) rfl
  exact def_ok (T := T_first_offer) (ps := ["rows", "waits"]) (np := 2) (nn := 3) F rfl (c.glo 32 rfl) (fun _ _ _ _ _ _ us hl => match us, hl with | [_, _], _ => rfl) ⟨rfl, rfl, rfl, by decide +kernel, rfl, by decide +kernel, by decide +kernel⟩ (by decide +kernel) rfl rfl m_first_offer (.cons ((g_other_at c).mono rfl) (.cons ((g_turned_rows c).mono rfl) (.nil))) (.nil) c.dx (c.free (bl := []) (by decide +kernel)) (fun z => absurd rfl z)
theorem m_second_offer : cmpSs (cmpS T_second_offer (defScope (rTop 43)) 40) (defBody (rTop 43)) = some B_second_offer := by kernel_rfl
theorem g_second_offer (c : Hd lFa lFn lCs lDs w K mg h) : GoodF Pg w K mg base "second_offer" F_second_offer 4 := by
  obtain ⟨fd, F⟩ := c.c.def_ 33 (d := d_second_offer) rfl
  exact def_ok (T := T_second_offer) (ps := ["rows", "waits"]) (np := 2) (nn := 3) F rfl (c.glo 33 rfl) (fun _ _ _ _ _ _ us hl => match us, hl with | [_, _], _ => rfl) ⟨rfl, rfl, rfl, by decide +kernel, rfl, by decide +kernel, by decide +kernel⟩ (by decide +kernel) rfl rfl m_second_offer (.cons ((g_other_at c).mono rfl) (.cons ((g_turned_rows c).mono rfl) (.nil))) (.nil) c.dx (c.free (bl := []) (by decide +kernel)) (fun z => absurd rfl z)
theorem m_offers_left : cmpSs (cmpS T_offers_left (defScope (rTop 44)) 40) (defBody (rTop 44)) = some B_offers_left := by kernel_rfl
theorem g_offers_left (c : Hd lFa lFn lCs lDs w K mg h) : GoodF Pg w K mg base "offers_left" F_offers_left 7 := by
  obtain ⟨fd, F⟩ := c.c.def_ 34 (d := d_offers_left) rfl
  exact def_ok (T := T_offers_left) (ps := ["lot", "patience", "many"]) (np := 3) (nn := 9) F rfl (c.glo 34 rfl) (fun _ _ _ _ _ _ us hl => match us, hl with | [_, _, _], _ => rfl) ⟨rfl, rfl, rfl, by decide +kernel, rfl, by decide +kernel, by decide +kernel⟩ (by decide +kernel) rfl rfl m_offers_left (.cons ((g_check_lot c).mono rfl) (.cons ((g_check_patience c).mono rfl) (.cons ((g_is_from c).mono rfl) (.cons ((g_outer_gains c).mono rfl) (.cons ((g_first_offer c).mono rfl) (.cons ((g_second_offer c).mono rfl) (.cons ((p_times c).mono rfl) (.cons ((g_point_at c).mono rfl) (.nil))))))))) (.cons (c.cs.get (t := lCs) (x := "NOUGHT") (by kernel_rfl)) (.cons (c.cs.get (t := lCs) (x := "MOST_OFFERS") (by kernel_rfl)) (.nil))) c.dx (c.free (bl := ["range", "tuple"]) (by decide +kernel)) (fun z => absurd rfl z)
theorem m_step_apart : cmpSs (cmpS T_step_apart (defScope (rTop 45)) 40) (defBody (rTop 45)) = some B_step_apart := by kernel_rfl
theorem g_step_apart (c : Hd lFa lFn lCs lDs w K mg h) : GoodF Pg w K mg base "step_apart" F_step_apart 8 := by
  obtain ⟨fd, F⟩ := c.c.def_ 35 (d := d_step_apart) rfl
  exact def_ok (T := T_step_apart) (ps := ["lot", "patience", "many"]) (np := 3) (nn := 6) F rfl (c.glo 35 rfl) (fun _ _ _ _ _ _ us hl => match us, hl with | [_, _, _], _ => rfl) ⟨rfl, rfl, rfl, by decide +kernel, rfl, by decide +kernel, by decide +kernel⟩ (by decide +kernel) rfl rfl m_step_apart (.cons ((g_check_lot c).mono rfl) (.cons ((g_check_patience c).mono rfl) (.cons ((g_offers_left c).mono rfl) (.cons ((g_is_from c).mono rfl) (.cons ((p_less c).mono rfl) (.cons ((p_minus c).mono rfl) (.nil))))))) (.cons (c.cs.get (t := lCs) (x := "MOST_OFFERS") (by kernel_rfl)) (.nil)) c.dx (c.free (bl := []) (by decide +kernel)) (fun z => absurd rfl z)
theorem m__law_cell_at : cmpSs (cmpS T__law_cell_at (defScope (rTop 47)) 40) (defBody (rTop 47)) = some B__law_cell_at := by kernel_rfl
theorem g__law_cell_at (c : Hd lFa lFn lCs lDs w K mg h) : GoodF Pg w K mg base "_law_cell_at" F__law_cell_at 1 := by
  obtain ⟨fd, F⟩ := c.c.def_ 36 (d := d__law_cell_at) rfl
  exact def_ok (T := T__law_cell_at) (ps := ["script", "k"]) (np := 2) (nn := 2) F rfl (c.glo 36 rfl) (fun _ _ _ _ _ _ us hl => match us, hl with | [_, _], _ => rfl) ⟨rfl, rfl, rfl, by decide +kernel, rfl, by decide +kernel, by decide +kernel⟩ (by decide +kernel) rfl rfl m__law_cell_at (.nil) (.nil) c.dx (c.free (bl := ["len"]) (by decide +kernel)) (fun z => absurd rfl z)
theorem m__law_draw : cmpSs (cmpS T__law_draw (defScope (rTop 48)) 40) (defBody (rTop 48)) = some B__law_draw := by kernel_rfl
theorem g__law_draw (c : Hd lFa lFn lCs lDs w K mg h) : GoodF Pg w K mg base "_law_draw" F__law_draw 1 := by
  obtain ⟨fd, F⟩ := c.c.def_ 37 (d := d__law_draw) rfl
  exact def_ok (T := T__law_draw) (ps := ["cell", "k", "bound"]) (np := 3) (nn := 4) F rfl (c.glo 37 rfl) (fun _ _ _ _ _ _ us hl => match us, hl with | [_, _, _], _ => rfl) ⟨rfl, rfl, rfl, by decide +kernel, rfl, by decide +kernel, by decide +kernel⟩ (by decide +kernel) rfl rfl m__law_draw (.nil) (.nil) c.dx (c.free (bl := ["int"]) (by decide +kernel)) (fun z => absurd rfl z)
theorem m__law_number : cmpSs (cmpS T__law_number (defScope (rTop 49)) 40) (defBody (rTop 49)) = some B__law_number := by kernel_rfl
theorem g__law_number (c : Hd lFa lFn lCs lDs w K mg h) : GoodF Pg w K mg base "_law_number" F__law_number 2 := by
  obtain ⟨fd, F⟩ := c.c.def_ 38 (d := d__law_number) rfl
  exact def_ok (T := T__law_number) (ps := ["cell", "k", "bound"]) (np := 3) (nn := 7) F rfl (c.glo 38 rfl) (fun _ _ _ _ _ _ us hl => match us, hl with | [_, _, _], _ => rfl) ⟨rfl, rfl, rfl, by decide +kernel, rfl, by decide +kernel, by decide +kernel⟩ (by decide +kernel) rfl rfl m__law_number (.cons ((g__law_draw c).mono rfl) (.nil)) (.nil) c.dx (c.free (bl := ["range", "int"]) (by decide +kernel)) (fun z => absurd rfl z)
theorem m__law_next : cmpSs (cmpS T__law_next (defScope (rTop 50)) 40) (defBody (rTop 50)) = some B__law_next := by kernel_rfl
theorem g__law_next (c : Hd lFa lFn lCs lDs w K mg h) : GoodF Pg w K mg base "_law_next" F__law_next 3 := by
  obtain ⟨fd, F⟩ := c.c.def_ 39 (d := d__law_next) rfl
  exact def_ok (T := T__law_next) (ps := ["draw", "bound"]) (np := 2) (nn := 4) F rfl (c.glo 39 rfl) (fun _ _ _ _ _ _ us hl => match us, hl with | [_, _], _ => rfl) ⟨rfl, rfl, rfl, by decide +kernel, rfl, by decide +kernel, by decide +kernel⟩ (by decide +kernel) rfl rfl m__law_next (.cons ((g__law_number c).mono rfl) (.cons ((g__law_cell_at c).mono rfl) (.nil))) (.nil) c.dx (c.free (bl := ["int"]) (by decide +kernel)) (fun z => absurd rfl z)
theorem m__law_part : cmpSs (cmpS T__law_part (defScope (rTop 51)) 40) (defBody (rTop 51)) = some B__law_part := by kernel_rfl
theorem g__law_part (c : Hd lFa lFn lCs lDs w K mg h) : GoodF Pg w K mg base "_law_part" F__law_part 4 := by
  obtain ⟨fd, F⟩ := c.c.def_ 40 (d := d__law_part) rfl
  exact def_ok (T := T__law_part) (ps := ["draw", "top", "below"]) (np := 3) (nn := 3) F rfl (c.glo 40 rfl) (fun _ _ _ _ _ _ us hl => match us, hl with | [_, _, _], _ => rfl) ⟨rfl, rfl, rfl, by decide +kernel, rfl, by decide +kernel, by decide +kernel⟩ (by decide +kernel) rfl rfl m__law_part (.cons ((p_lean c).mono rfl) (.cons ((g__law_next c).mono rfl) (.nil))) (.nil) c.dx (c.free (bl := []) (by decide +kernel)) (fun z => absurd rfl z)
theorem m__law_lot : cmpSs (cmpS T__law_lot (defScope (rTop 52)) 40) (defBody (rTop 52)) = some B__law_lot := by kernel_rfl
theorem g__law_lot (c : Hd lFa lFn lCs lDs w K mg h) : GoodF Pg w K mg base "_law_lot" F__law_lot 5 := by
  obtain ⟨fd, F⟩ := c.c.def_ 41 (d := d__law_lot) rfl
  exact def_ok (T := T__law_lot) (ps := ["draw", "most"]) (np := 2) (nn := 7) F rfl (c.glo 41 rfl) (fun _ _ _ _ _ _ us hl => match us, hl with | [_, _], _ => rfl) ⟨rfl, rfl, rfl, by decide +kernel, rfl, by decide +kernel, by decide +kernel⟩ (by decide +kernel) rfl rfl m__law_lot (.cons ((p_minus c).mono rfl) (.cons ((g__law_part c).mono rfl) (.cons ((g__law_next c).mono rfl) (.cons ((p_plus c).mono rfl) (.nil))))) (.nil) c.dx (c.free (bl := ["range"]) (by decide +kernel)) (fun z => absurd rfl z)
theorem m__law_gains : cmpSs (cmpS T__law_gains (defScope (rTop 53)) 40) (defBody (rTop 53)) = some B__law_gains := by kernel_rfl
theorem g__law_gains (c : Hd lFa lFn lCs lDs w K mg h) : GoodF Pg w K mg base "_law_gains" F__law_gains 3 := by
  obtain ⟨fd, F⟩ := c.c.def_ 42 (d := d__law_gains) rfl
  exact def_ok (T := T__law_gains) (ps := ["lot"]) (np := 1) (nn := 2) F rfl (c.glo 42 rfl) (fun _ _ _ _ _ _ us hl => match us, hl with | [_], _ => rfl) ⟨rfl, rfl, rfl, by decide +kernel, rfl, by decide +kernel, by decide +kernel⟩ (by decide +kernel) rfl rfl m__law_gains (.cons ((p_minus c).mono rfl) (.nil)) (.nil) c.dx (c.free (bl := []) (by decide +kernel)) (fun z => absurd rfl z)
theorem m__law_more : cmpSs (cmpS T__law_more (defScope (rTop 54)) 40) (defBody (rTop 54)) = some B__law_more := by kernel_rfl
theorem g__law_more (c : Hd lFa lFn lCs lDs w K mg h) : GoodF Pg w K mg base "_law_more" F__law_more 2 := by
  obtain ⟨fd, F⟩ := c.c.def_ 43 (d := d__law_more) rfl
  exact def_ok (T := T__law_more) (ps := ["one", "other"]) (np := 2) (nn := 2) F rfl (c.glo 43 rfl) (fun _ _ _ _ _ _ us hl => match us, hl with | [_, _], _ => rfl) ⟨rfl, rfl, rfl, by decide +kernel, rfl, by decide +kernel, by decide +kernel⟩ (by decide +kernel) rfl rfl m__law_more (.cons ((p_less c).mono rfl) (.nil)) (.nil) c.dx (c.free (bl := []) (by decide +kernel)) (fun z => absurd rfl z)
theorem m__law_high : cmpSs (cmpS T__law_high (defScope (rTop 55)) 40) (defBody (rTop 55)) = some B__law_high := by kernel_rfl
theorem g__law_high (c : Hd lFa lFn lCs lDs w K mg h) : GoodF Pg w K mg base "_law_high" F__law_high 3 := by
  obtain ⟨fd, F⟩ := c.c.def_ 44 (d := d__law_high) rfl
  exact def_ok (T := T__law_high) (ps := ["gains", "here"]) (np := 2) (nn := 6) F rfl (c.glo 44 rfl) (fun _ _ _ _ _ _ us hl => match us, hl with | [_, _], _ => rfl) ⟨rfl, rfl, rfl, by decide +kernel, rfl, by decide +kernel, by decide +kernel⟩ (by decide +kernel) rfl rfl m__law_high (.cons ((p_less c).mono rfl) (.cons ((g__law_more c).mono rfl) (.cons ((p_over c).mono rfl) (.cons ((p_minus c).mono rfl) (.cons ((p_plus c).mono rfl) (.cons ((p_times c).mono rfl) (.nil))))))) (.nil) c.dx (c.free (bl := []) (by decide +kernel)) (fun z => absurd rfl z)
theorem m__law_patience : cmpSs (cmpS T__law_patience (defScope (rTop 56)) 40) (defBody (rTop 56)) = some B__law_patience := by kernel_rfl
theorem g__law_patience (c : Hd lFa lFn lCs lDs w K mg h) : GoodF Pg w K mg base "_law_patience" F__law_patience 4 := by
  obtain ⟨fd, F⟩ := c.c.def_ 45 (d := d__law_patience) rfl
  exact def_ok (T := T__law_patience) (ps := ["draw"]) (np := 1) (nn := 4) F rfl (c.glo 45 rfl) (fun _ _ _ _ _ _ us hl => match us, hl with | [_], _ => rfl) ⟨rfl, rfl, rfl, by decide +kernel, rfl, by decide +kernel, by decide +kernel⟩ (by decide +kernel) rfl rfl m__law_patience (.cons ((g__law_next c).mono rfl) (.cons ((p_lean c).mono rfl) (.nil))) (.nil) c.dx (c.free (bl := []) (by decide +kernel)) (fun z => absurd rfl z)
theorem m__law_offer : cmpSs (cmpS T__law_offer (defScope (rTop 57)) 40) (defBody (rTop 57)) = some B__law_offer := by kernel_rfl
theorem g__law_offer (c : Hd lFa lFn lCs lDs w K mg h) : GoodF Pg w K mg base "_law_offer" F__law_offer 4 := by
  obtain ⟨fd, F⟩ := c.c.def_ 46 (d := d__law_offer) rfl
  exact def_ok (T := T__law_offer) (ps := ["gains", "waits"]) (np := 2) (nn := 5) F rfl (c.glo 46 rfl) (fun _ _ _ _ _ _ us hl => match us, hl with | [_, _], _ => rfl) ⟨rfl, rfl, rfl, by decide +kernel, rfl, by decide +kernel, by decide +kernel⟩ (by decide +kernel) rfl rfl m__law_offer (.cons ((g__law_high c).mono rfl) (.nil)) (.nil) c.dx (c.free (bl := []) (by decide +kernel)) (fun z => absurd rfl z)
theorem m_law : cmpSs (cmpS T_law (defScope (rTop 58)) 40) (defBody (rTop 58)) = some B_law := by kernel_rfl
theorem g_law {fd : FuncData} (F : FunD K "law" "law" (defArgs (rTop 58)) (defBody (rTop 58)) (defScope (rTop 58)) [] [] (He.ga K "law") fd) (c : Hd lFa lFn lCs lDs w K mg h) : FnG true Pg w K mg base CX0 9 (He.ga K "law") fd ["script"] (spOf K F_law) :=
  def_fn (T := T_law) (ps := ["script"]) (np := 1) (nn := 22) F ⟨rfl, rfl, rfl, by decide +kernel, rfl, by decide +kernel, by decide +kernel⟩ (by decide +kernel) rfl rfl m_law (.cons ((g__law_gains c).mono rfl).weak (.cons ((g_offers_left c).mono rfl).weak (.cons ((g_bests_of c).mono rfl).weak (.cons ((g__law_lot c).mono rfl).weak (.cons ((g__law_patience c).mono rfl).weak (.cons ((p_minus c).mono rfl).weak (.cons ((g__law_next c).mono rfl).weak (.cons ((g_is_patience c).mono rfl).weak (.cons ((g_gains_at c).mono rfl).weak (.cons ((g__law_offer c).mono rfl).weak (.cons ((p_less c).mono rfl).weak (.cons ((g_step_apart c).mono rfl).weak (.cons ((p_times c).mono rfl).weak (.cons ((g_is_full c).mono rfl).weak (.nil))))))))))))))) (.nil) c.dx (c.free (bl := ["range", "len"]) (by decide +kernel)) (fun z => absurd rfl z)
end
def lL0 : List Str := ["AgreeError", "BadThing", "NOUGHT", "is_whole", "is_from", "is_many", "lean", "is_fraction", "plus", "minus", "times", "over", "less", "no_more", "greater", "most_of", "MOST_CORNERS", "is_point", "is_lot", "check_lot", "check_point", "gains_at", "point_at", "corner_gains", "bests_of"]
def lL1 : List Str := ["is_left_of", "in_order", "turns_up", "outer_gains", "other_at", "turned_rows", "is_in", "is_full", "MOST_OFFERS", "MOST_BELOW", "is_share", "is_patience", "check_patience", "first_offer", "second_offer", "offers_left", "step_apart", "_law_cell_at", "_law_draw", "_law_number", "_law_next", "_law_part", "_law_lot", "_law_gains", "_law_more"]
def lL2 : List Str := ["_law_high", "_law_patience", "_law_offer"]
def lLoose : List Str := lL0 ++ lL1 ++ lL2
abbrev lR : PySem.W.OpenRow := PySem.W.OpenLaw.row PySem.Challenge.rw_whatagreed_k19_whole_offers
abbrev lPg : Program := PySem.Challenge.rw_whatagreed_k19_whole_offers.prog
abbrev lHk : PySem.W.Hook := hookC lPg 4 lFa lFn lCs lMk lBv lDs
def lOb (s : PySem.W.SharedT) : AlE := obsC lPg 4 lFa lFn lCs lMk lDs (HandSHeadRun.getT s)
theorem lOb_eq (s : PySem.W.SharedT) : lOb s = lHk.obs s.abs := obsC_eq (HandSHeadRun.getT_eq s)
theorem lRun (w : World) : HandSHeadRun.RunEq lR (PySem.W.view lR.prog [58]) lHk lOb 4000 lLoose w := by
  intro os
  kernel_rfl
end Ev
open PySem PySem.W PySem.Calls PyProof.Rows
theorem PySem.Challenge.cw_whatagreed_k19_whole_offers_holds : PySem.Challenge.rw_whatagreed_k19_whole_offers.Holds := by
  w_on; o_law
  refine HandSHeadRun.head_any (r := Ev.lR) (q := view Ev.lR.prog [58]) (H := Ev.lHk) (ob := Ev.lOb) (M := 4000) (loose := Ev.lLoose) (d := HandSHeadRun.topDef Ev.lR.prog 58) (kwd := []) Ev.lOb_eq
    (by kernel_rfl) (fun s => by kernel_rfl) Ev.lRun (by kernel_rfl) (by kernel_rfl) (by kernel_rfl) (by rfl) (by first | assumption | decide +kernel) (by decide +kernel) ⟨rfl, rfl, rfl, rfl, rfl, by decide +kernel⟩ ?hw ?hc
  case hw => w_witness2
  case hc =>
    refine Ev.walk_goT (l := PySem.Challenge.rw_whatagreed_k19_whole_offers) (n := 63) (k := 9) (x := "script") (CX := fun _ => L2.CX0) rfl (by decide) (by kernel_rfl) ⟨rfl, by decide, by decide⟩ ?F (fun _ _ _ _ _ z => z)
    intro w mg fa h Y G hmg0
    obtain ⟨K, S⟩ := Y
    have hmg : mg ("law" : PySem.Str) = some (.ref fa) := by
      have e : (HandSHeadRun.topDef Ev.lR.prog 58).name = ("law" : PySem.Str) := by kernel_rfl
      rw [← e]
      exact hmg0
    obtain ⟨fd, F⟩ := S.c.def_ 47 (d := Ev.d_law) rfl
    have e := hmg.symm.trans (He.glo_ok S.X G (S.c.fact 47 (f := .glo "law") rfl))
    cases e
    have b := L2.FunD.bindsA (ps := ["script"]) F fun _ _ _ _ _ _ us hl => match us, hl with | [_], _ => rfl
    exact ⟨K, fd, (Ev.codesOf K).map (fun q => (q.1, q.2.1)), Ev.spOf K Ev.F_law, S.X, S.t.ts1, S.t.ts2, S.t.ts3, fun s v => b s [v] rfl, fun H a ns hl tH hS on => Ev.law_sp tH hS on (Ev.law_true ns hl),
      fun base _ _ tbs => Ev.g_law F ⟨S.X, G, S.c, Ev.cstB_ok S.X G S.cb, Ev.dic_ok S.X G S.db S.dw⟩⟩
