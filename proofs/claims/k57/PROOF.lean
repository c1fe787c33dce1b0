import PyProof.Rows.All
import Wide.All
import OpenK.AllK
import Wide.FinOn
import HandS.ForMost
import HandS.IsInst
import HandS.Style
import HandS.Zip
import HandS.TupAny
import HandS.TupMul
import HandS.Deep
import HandS.Wide
import HandS.Star
import HandS.More
import HandS.Defaults
import HandS.Head0
import HandS.Head1
import HandS.Head2
import HandS.HeadEnd
import HandS.HeadHook1
import HandS.HeadHook2
import HandS.Ends
import PySem.Challenge.RW_whatagreed_k57_whole_claims
set_option Elab.async false
set_option linter.all false
set_option maxRecDepth 100000
set_option maxHeartbeats 0
/-! EvSem: a pure reading of a fragment of Python over plain data: combinators. -/
namespace Ev
open PySem

inductive MO where
  | lst (xs : List PyData)
abbrev Sto := List MO
inductive Vl where
  | dat (d : PyData)
  | loc (n : Nat)
  /-- the script: a list that is only cut -/
  | scr (ds : List PyData)
abbrev Env := List (Option Vl)
structure Xn where
  cls : Nat
  arg : PyData
inductive Out (α : Type) where
  | ok (a : α) (s : Sto)
  | exn (x : Xn) (s : Sto)
  | bad
def Out.bind {α β : Type} (o : Out α) (f : α → Sto → Out β) : Out β :=
  match o with
  | .ok a s => f a s
  | .exn x s => .exn x s
  | .bad => .bad
/-- an exception is not read -/
def noX {α : Type} (o : Out α) : Out α :=
  match o with
  | .ok a s => .ok a s
  | _ => .bad
theorem noX_ok {α : Type} {o : Out α} {a : α} {s : Sto} (h : noX o = .ok a s) : o = .ok a s := by
  cases o with
  | ok b t => exact h
  | exn x t => cases h
  | bad => cases h
theorem noX_no {α : Type} {o : Out α} {x : Xn} {s : Sto} (h : noX o = .exn x s) : False := by
  cases o <;> cases h
abbrev ME := Env → Sto → Out Vl
abbrev MA := Env → Sto → Out (List Vl)
abbrev MT := Env → Sto → Out Bool
abbrev FnS := List Vl → Sto → Out Vl
inductive SR where
  | nx (e : Env)
  | rt (v : Vl)
abbrev MS := Env → Sto → Out SR

/-! ### by data -/
def line : Nat := 16777216
def pAdd : PyData → PyData → Option PyData
  | .int i, .int j => some (.int (i + j))
  | .str x, .str y => if x.length + y.length ≤ line then some (.str (x ++ y)) else none
  | .tuple xs, .tuple ys => if xs.length + ys.length ≤ line then some (.tuple (xs ++ ys)) else none
  | .list xs, .list ys => if xs.length + ys.length ≤ line then some (.list (xs ++ ys)) else none
  | _, _ => none
def pSub : PyData → PyData → Option PyData
  | .int i, .int j => some (.int (i - j))
  | _, _ => none
def mulOk (i j : Int) : Bool := Nat.blt (i.natAbs.log2 + j.natAbs.log2) 1000000
def pMul : PyData → PyData → Option PyData
  | .int i, .int j => if mulOk i j then some (.int (i * j)) else none
  | .list xs, .int k => if Nat.ble (xs.length * k.toNat) line && Nat.ble k.natAbs line then some (.list (List.replicate k.toNat xs).flatten) else none
  | .tuple xs, .int k => if Nat.blt 0 xs.length && decide (2 ≤ k) && decide (k ≤ 1000) && Nat.ble xs.length 1000 then some (.tuple (List.replicate k.toNat xs).flatten) else none
  | _, _ => none
def divOk (j : Int) : Bool := decide (0 < j) && Nat.blt j.natAbs.log2 9000
def pDiv : PyData → PyData → Option PyData
  | .int i, .int j => if divOk j then some (.int (i / j)) else none
  | _, _ => none
def pMod : PyData → PyData → Option PyData
  | .int i, .int j => if decide (0 < j) then some (.int (i % j)) else none
  | _, _ => none
def pPow : PyData → PyData → Option PyData
  | .int i, .int j => if decide (0 ≤ j) && decide (j ≤ 1000) && Nat.blt i.natAbs 18446744073709551616 then some (.int (i ^ j.toNat)) else none
  | _, _ => none
def pOp : Operator → Option (PyData → PyData → Option PyData)
  | .Add => some pAdd
  | .Sub => some pSub
  | .Mult => some pMul
  | .FloorDiv => some pDiv
  | .Mod => some pMod
  | .Pow => some pPow
  | _ => none
def isNone : PyData → Bool
  | .none => true
  | _ => false
def pEq (d e : PyData) : Option Bool := if SeqAt.shaped d && SeqAt.shaped e then some (PyData.eqv d e) else none
def pNe (d e : PyData) : Option Bool := (pEq d e).map not
def pLt : PyData → PyData → Option Bool
  | .int i, .int j => some (decide (i < j))
  | .str x, .str y => some (decide (x.cps.toList < y.cps.toList))
  | _, _ => none
def pLe : PyData → PyData → Option Bool
  | .int i, .int j => some (decide (i ≤ j))
  | _, _ => none
def pGt : PyData → PyData → Option Bool
  | .int i, .int j => some (decide (j < i))
  | _, _ => none
def pGe : PyData → PyData → Option Bool
  | .int i, .int j => some (decide (j ≤ i))
  | _, _ => none
def pIs : PyData → PyData → Option Bool
  | d, .none => some (isNone d)
  | .bool a, .bool b => some (a == b)
  | _, _ => none
def pIsNot (d e : PyData) : Option Bool := (pIs d e).map not
def anyEqv (d : PyData) : List PyData → Bool
  | [] => false
  | z :: zs => PyData.eqv z d || anyEqv d zs
def pIn (d : PyData) : PyData → Option Bool
  | .list zs => if SeqAt.shaped d && SeqAt.shaped (.list zs) then some (anyEqv d zs) else none
  | .tuple zs => if SeqAt.shaped d && SeqAt.shaped (.tuple zs) then some (anyEqv d zs) else none
  | _ => none
def pNotIn (d e : PyData) : Option Bool := (pIn d e).map not
def pCmp : CmpOp → PyData → PyData → Option Bool
  | .Eq => pEq
  | .NotEq => pNe
  | .Lt => pLt
  | .LtE => pLe
  | .Gt => pGt
  | .GtE => pGe
  | .Is => pIs
  | .IsNot => pIsNot
  | .In => pIn
  | .NotIn => pNotIn
def pIx : PyData → PyData → Option PyData
  | .list xs, .int i => (L2.ixN xs.length i).bind fun j => xs[j]?
  | .tuple xs, .int i => (L2.ixN xs.length i).bind fun j => xs[j]?
  | _, _ => none
def cutL (xs : List PyData) (lo hi : Option Int) : List PyData := (xs.drop (HT.sIx xs.length 0 lo)).take (HT.sIx xs.length xs.length hi - HT.sIx xs.length 0 lo)
def pSl : PyData → Option Int → Option Int → Option PyData
  | .list xs, lo, hi => some (.list (cutL xs lo hi))
  | .tuple xs, lo, hi => some (.tuple (cutL xs lo hi))
  | _, _, _ => none
def pRev : PyData → Option PyData
  | .list xs => some (.list xs.reverse)
  | _ => none
def pLen : PyData → Option Nat
  | .list xs => some xs.length
  | .tuple xs => some xs.length
  | .str x => if x.length ≤ line then some x.length else none
  | _ => none

/-! ### values -/
def deref (s : Sto) : Vl → Option PyData
  | .dat d => some d
  | .scr _ => none
  | .loc n => match s[n]? with
    | some (.lst xs) => some (.list xs)
    | none => none
def ofO {α : Type} (o : Option α) (s : Sto) : Out α :=
  match o with
  | some a => .ok a s
  | none => .bad
def okD (o : Option PyData) (s : Sto) : Out Vl :=
  match o with
  | some d => .ok (.dat d) s
  | none => .bad
def okB (o : Option Bool) (s : Sto) : Out Vl :=
  match o with
  | some b => .ok (.dat (.bool b)) s
  | none => .bad

/-! ### expressions -/
def eVar (i : Nat) : ME := fun env s => match env[i]? with
  | some (some v) => .ok v s
  | _ => .bad
def eCst (d : PyData) : ME := fun _ s => .ok (.dat d) s
def e1 (f : PyData → Option PyData) (a : ME) : ME := fun env s => noX ((a env s).bind fun x s => match deref s x with
  | some d => okD (f d) s
  | none => .bad)
def e2 (f : PyData → PyData → Option PyData) (a b : ME) : ME := fun env s => (a env s).bind fun x s => (b env s).bind fun y s => match deref s x, deref s y with
  | some d, some e => okD (f d e) s
  | _, _ => .bad
def eCmp (f : PyData → PyData → Option Bool) (a b : ME) : ME := fun env s => (a env s).bind fun x s => (b env s).bind fun y s => match deref s x, deref s y with
  | some d, some e => okB (f d e) s
  | _, _ => .bad
/-- a bool's value -/
def tOf (a : ME) : MT := fun env s => (a env s).bind fun x s => match x with
  | .dat (.bool b) => .ok b s
  | _ => .bad
def eAnd (a b : ME) : ME := fun env s => (tOf a env s).bind fun c s => match c with
  | true => b env s
  | false => .ok (.dat (.bool false)) s
def eOr (a b : ME) : ME := fun env s => (tOf a env s).bind fun c s => match c with
  | true => .ok (.dat (.bool true)) s
  | false => b env s
def eNot (a : ME) : ME := fun env s => (tOf a env s).bind fun c s => .ok (.dat (.bool (!c))) s
def eIf (c a b : ME) : ME := fun env s => (tOf c env s).bind fun c s => match c with
  | true => a env s
  | false => b env s
def eChain (f g : PyData → PyData → Option Bool) (a b c : ME) : ME := fun env s => noX ((a env s).bind fun x s => (b env s).bind fun y s => match deref s x, deref s y with
  | some d, some e => match f d e with
    | some true => (c env s).bind fun z s => match deref s y, deref s z with
      | some e, some h => okB (g e h) s
      | _, _ => .bad
    | some false => .ok (.dat (.bool false)) s
    | none => .bad
  | _, _ => .bad)
def aNil : MA := fun _ s => .ok [] s
def aCons (a : ME) (r : MA) : MA := fun env s => (a env s).bind fun x s => (r env s).bind fun xs s => .ok (x :: xs) s
def dats : List Vl → Option (List PyData)
  | [] => some []
  | .dat d :: r => match dats r with
    | some ds => some (d :: ds)
    | none => none
  | _ :: _ => none
def eTup (a : MA) : ME := fun env s => (a env s).bind fun xs s => match dats xs with
  | some ds => if Nat.ble ds.length line then .ok (.dat (.tuple ds)) s else .bad
  | none => .bad
def eLst (a : MA) : ME := fun env s => noX ((a env s).bind fun xs s => match dats xs with
  | some ds => if Nat.ble ds.length line then .ok (.dat (.list ds)) s else .bad
  | none => .bad)
/-- *e ahead of more -/
def aStar (a : ME) (r : MA) : MA := fun env s => noX ((a env s).bind fun x s => match x with
  | .dat (.list ds) => (r env s).bind fun xs s => .ok (ds.map .dat ++ xs) s
  | .dat (.tuple ds) => (r env s).bind fun xs s => .ok (ds.map .dat ++ xs) s
  | _ => .bad)
def eCall (f : FnS) (a : MA) : ME := fun env s => (a env s).bind fun xs s => f xs s
/-- a built-in, by its arguments' data -/
def eBlt (f : List PyData → Option PyData) (a : MA) : ME := fun env s => noX ((a env s).bind fun xs s => match derefs s xs with
  | some ds => okD (f ds) s
  | none => .bad)
where
  derefs (s : Sto) : List Vl → Option (List PyData)
  | [] => some []
  | v :: r => match deref s v, derefs s r with
    | some d, some ds => some (d :: ds)
    | _, _ => none
abbrev MO' := Env → Sto → Out (Option Int)
def oNone : MO' := fun _ s => .ok none s
def oSome (a : ME) : MO' := fun env s => (a env s).bind fun x s => match x with
  | .dat (.int i) => .ok (some i) s
  | _ => .bad
def eSl (a : ME) (lo hi : MO') : ME := fun env s => noX ((a env s).bind fun x s => (lo env s).bind fun l s => (hi env s).bind fun h s => match x with
  | .scr ds => okD (pSl (.list ds) l h) s
  | v => match deref s v with
    | some d => okD (pSl d l h) s
    | none => .bad)
/-! ### what is walked -/
inductive TG where
  | nm (i : Nat)
  | tup (ts : List TG)
mutual
def TG.put : TG → PyData → Env → Option Env
  | .nm i, d, env => some (env.set i (some (.dat d)))
  | .tup ts, .tuple ds, env => TG.puts ts ds env
  | .tup _, _, _ => none
def TG.puts : List TG → List PyData → Env → Option Env
  | [], [], env => some env
  | t :: ts, d :: ds, env => match t.put d env with
    | some env => TG.puts ts ds env
    | none => none
  | _, _, _ => none
end
inductive Src where
  | its (xs : List PyData)
  | at_ (n : Nat)
abbrev MI := Env → Sto → Out Src
def iSeq (a : ME) : MI := fun env s => (a env s).bind fun x s => match x with
  | .dat (.list xs) => .ok (.its xs) s
  | .dat (.tuple xs) => .ok (.its xs) s
  | .loc n => .ok (.at_ n) s
  | _ => .bad
def upFrom (lo : Int) : Nat → List PyData
  | 0 => []
  | n + 1 => .int lo :: upFrom (lo + 1) n
def iRng1 (a : ME) : MI := fun env s => (a env s).bind fun x s => match x with
  | .dat (.int j) => if decide (j < 16777216) && decide (-16777216 < j) then .ok (.its (upFrom 0 j.toNat)) s else .bad
  | _ => .bad
def iRng2 (a b : ME) : MI := fun env s => (a env s).bind fun x s => (b env s).bind fun y s => match x, y with
  | .dat (.int i), .dat (.int j) => if decide (j < 16777216) && decide (-16777216 < j) && decide (i < 16777216) && decide (-16777216 < i) then .ok (.its (upFrom i (j - i).toNat)) s else .bad
  | _, _ => .bad
def zips : List PyData → List PyData → List PyData
  | x :: xs, y :: ys => .tuple [x, y] :: zips xs ys
  | _, _ => []
def iZip (a b : ME) : MI := fun env s => (a env s).bind fun x s => (b env s).bind fun y s => match x, y with
  | .dat (.list xs), .dat (.list ys) => .ok (.its (zips xs ys)) s
  | .dat (.tuple xs), .dat (.tuple ys) => .ok (.its (zips xs ys)) s
  | _, _ => .bad
def enums (i : Int) : List PyData → List PyData
  | [] => []
  | x :: xs => .tuple [.int i, x] :: enums (i + 1) xs
def iEnum (a : ME) : MI := fun env s => (a env s).bind fun x s => match x with
  | .dat (.list xs) => .ok (.its (enums 0 xs)) s
  | _ => .bad

/-! ### comprehensions -/
def lcGo (f : PyData → Sto → Out (List PyData)) : List PyData → Sto → Out (List PyData)
  | [], s => .ok [] s
  | x :: xs, s => (f x s).bind fun ys s => (lcGo f xs s).bind fun r s => .ok (ys ++ r) s
def lcAt (f : PyData → Sto → Out (List PyData)) (n : Nat) : Nat → Nat → Sto → Out (List PyData)
  | 0, _, _ => .bad
  | k + 1, i, s => match s[n]? with
    | some (.lst xs) => match xs[i]? with
      | some x => (f x s).bind fun ys s => (lcAt f n k (i + 1) s).bind fun r s => .ok (ys ++ r) s
      | none => .ok [] s
    | none => .bad
def lcRun (f : PyData → Sto → Out (List PyData)) : Src → Sto → Out (List PyData)
  | .its xs, s => lcGo f xs s
  | .at_ n, s => match s[n]? with
    | some (.lst xs) => lcAt f n (xs.length + 1) 0 s
    | none => .bad
def wipeE (env : Env) : List Nat → Env
  | [] => env
  | v :: vs => (wipeE env vs).set v none
def tYes : MT := fun _ s => .ok true s
/-- a block's turn: the target stored, the test, then g -/
def turn (tg : TG) (own : List Nat) (c : MT) (g : Env → Sto → Out (List PyData)) (env : Env) (x : PyData) (s : Sto) : Out (List PyData) :=
  match tg.put x (wipeE env own) with
  | some env' => (c env' s).bind fun b s => match b with
    | true => g env' s
    | false => .ok [] s
  | none => .bad
def one (e : ME) (env : Env) (s : Sto) : Out (List PyData) := (e env s).bind fun v s => match v with
  | .dat d => .ok [d] s
  | _ => .bad
def inner (it : MI) (tg : TG) (own : List Nat) (c : MT) (e : ME) (env : Env) (s : Sto) : Out (List PyData) :=
  (it env s).bind fun src s => lcRun (turn tg own c (one e) env) src s
def okL (xs : List PyData) (s : Sto) : Out Vl := if Nat.ble xs.length line then .ok (.dat (.list xs)) s else .bad
def eLc (it : MI) (tg : TG) (own : List Nat) (c : MT) (e : ME) : ME := fun env s => noX ((it env s).bind fun src s => (lcRun (turn tg own c (one e) env) src s).bind okL)
def eLc2 (it : MI) (tg : TG) (own : List Nat) (c : MT) (it1 : MI) (tg1 : TG) (own1 : List Nat) (c1 : MT) (e : ME) : ME := fun env s =>noX ((it env s).bind fun src s => (lcRun (turn tg own c (inner it1 tg1 own1 c1 e) env) src s).bind okL)
/-! ### statements -/
def sNil : MS := fun env s => .ok (.nx env) s
def sCons (a b : MS) : MS := fun env s => (a env s).bind fun r s => match r with
  | .nx env => b env s
  | .rt v => .ok (.rt v) s
def sSet (i : Nat) (e : ME) : MS := fun env s => (e env s).bind fun v s => .ok (.nx (env.set i (some v))) s
/-- name = a new list that is changed later -/
def sNew (i : Nat) (e : ME) : MS := fun env s => noX ((e env s).bind fun v s => match v with
  | .dat (.list xs) => .ok (.nx (env.set i (some (.loc s.length)))) (s ++ [.lst xs])
  | _ => .bad)
def setsE : List Nat → List Vl → Env → Option Env
  | [], [], env => some env
  | i :: is, v :: vs, env => setsE is vs (env.set i (some v))
  | _, _, _ => none
def sPar (is : List Nat) (a : MA) : MS := fun env s => noX ((a env s).bind fun vs s => match setsE is vs env with
  | some env => .ok (.nx env) s
  | none => .bad)
def sUnp (tg : TG) (e : ME) : MS := fun env s => noX ((e env s).bind fun v s => match v with
  | .dat d => match tg.put d env with
    | some env => .ok (.nx env) s
    | none => .bad
  | _ => .bad)
def putAt (s : Sto) (o : Vl) (i : PyData) (v : PyData) : Option Sto :=
  match o, i with
  | .loc n, .int k => match s[n]? with
    | some (.lst xs) => match L2.ixN xs.length k with
      | some j => some (s.set n (.lst (xs.set j v)))
      | none => none
    | none => none
  | _, _ => none
/-- o[i] = e -/
def sSub (o i e : ME) : MS := fun env s => noX ((e env s).bind fun v s => (o env s).bind fun ov s => (i env s).bind fun iv s => match v, iv with
  | .dat d, .dat k => match putAt s ov k d with
    | some s => .ok (.nx env) s
    | none => .bad
  | _, _ => .bad)
def sIf (c : ME) (a b : MS) : MS := fun env s => (tOf c env s).bind fun c s => match c with
  | true => a env s
  | false => b env s
def forGo (body : MS) (tg : TG) : List PyData → MS
  | [], env, s => .ok (.nx env) s
  | x :: xs, env, s => match tg.put x env with
    | some env => (body env s).bind fun r s => match r with
      | .nx env => forGo body tg xs env s
      | .rt v => .ok (.rt v) s
    | none => .bad
def forAt (body : MS) (tg : TG) (n : Nat) : Nat → Nat → MS
  | 0, _, _, _ => .bad
  | k + 1, i, env, s => match s[n]? with
    | some (.lst xs) => match xs[i]? with
      | some x => match tg.put x env with
        | some env => (body env s).bind fun r s => match r with
          | .nx env => forAt body tg n k (i + 1) env s
          | .rt v => .ok (.rt v) s
        | none => .bad
      | none => .ok (.nx env) s
    | none => .bad
def sFor (it : MI) (tg : TG) (body : MS) : MS := fun env s => noX ((it env s).bind fun src s => match src with
  | .its xs => forGo body tg xs env s
  | .at_ n => match s[n]? with
    | some (.lst xs) => forAt body tg n (xs.length + 1) 0 env s
    | none => .bad)
def whGo (c : ME) (body : MS) : Nat → MS
  | 0, _, _ => .bad
  | k + 1, env, s => (tOf c env s).bind fun b s => match b with
    | true => (body env s).bind fun r s => match r with
      | .nx env => whGo c body k env s
      | .rt v => .ok (.rt v) s
    | false => .ok (.nx env) s
def sWh (c : ME) (body : MS) : MS := fun env s => noX (whGo c body 4096 env s)
def sRet (e : ME) : MS := fun env s => (e env s).bind fun v s => .ok (.rt v) s
def sRetN : MS := fun _ s => .ok (.rt (.dat .none)) s
def sPass : MS := sNil
def sExp (e : ME) : MS := fun env s => (e env s).bind fun _ s => .ok (.nx env) s
/-- raise BadThing(e) -/
def sRaise (e : ME) : MS := fun env s => (e env s).bind fun v s => match v with
  | .dat d => .exn ⟨0, d⟩ s
  | _ => .bad
/-- a statement that the runs never come to -/
def sBad : MS := fun _ _ => .bad

/-! ### methods of lists that change them -/
def eApp (o a : ME) : ME := fun env s => noX ((o env s).bind fun ov s => (a env s).bind fun v s => match ov, v with
  | .loc n, .dat d => match s[n]? with
    | some (.lst xs) => if Nat.blt xs.length line then .ok (.dat .none) (s.set n (.lst (xs ++ [d]))) else .bad
    | none => .bad
  | _, _ => .bad)
def ePop (o : ME) : ME := fun env s => noX ((o env s).bind fun ov s => match ov with
  | .loc n => match s[n]? with
    | some (.lst xs) => match xs[xs.length - 1]? with
      | some d => .ok (.dat d) (s.set n (.lst xs.dropLast))
      | none => .bad
    | none => .bad
  | _ => .bad)
def insL (xs : List PyData) (k : Nat) (d : PyData) : List PyData := xs.take k ++ d :: xs.drop k
def eIns (o i a : ME) : ME := fun env s => noX ((o env s).bind fun ov s => (i env s).bind fun iv s => (a env s).bind fun v s => match ov, iv, v with
  | .loc n, .dat (.int k), .dat d => match s[n]? with
    | some (.lst xs) => if decide (0 ≤ k) && decide (k ≤ xs.length) && Nat.blt xs.length line then .ok (.dat .none) (s.set n (.lst (insL xs k.toNat d))) else .bad
    | none => .bad
  | _, _, _ => .bad)
/-! ### a def -/
/-- a fresh list that is handed back is read only from then on -/
def freeze (base : Nat) (v : Vl) (s : Sto) : Out Vl :=
  match v with
  | .dat d => .ok (.dat d) (s.take base)
  | .loc n => if Nat.blt n base then .ok (.loc n) (s.take base) else match s[n]? with
    | some (.lst xs) => .ok (.dat (.list xs)) (s.take base)
    | none => .bad
  | .scr _ => .bad
def fnS (np nn : Nat) (body : MS) : FnS := fun vs s => if vs.length == np then
    match body (vs.map some ++ List.replicate (nn - np) none) s with
    | .ok (.nx _) s' => .ok (.dat .none) (s'.take s.length)
    | .ok (.rt v) s' => freeze s.length v s'
    | .exn x s' => .exn x (s'.take s.length)
    | .bad => .bad
  else .bad

/-! ### built-ins by data -/
def allB : List PyData → Option Bool
  | [] => some true
  | .bool b :: r => match allB r with
    | some c => some (b && c)
    | none => none
  | _ => none
def anyB : List PyData → Option Bool
  | [] => some false
  | .bool b :: r => match anyB r with
    | some c => some (b || c)
    | none => none
  | _ => none
def bAll : List PyData → Option PyData
  | [.list xs] => (allB xs).map .bool
  | _ => none
def bAny : List PyData → Option PyData
  | [.list xs] => (anyB xs).map .bool
  | _ => none
def bLen : List PyData → Option PyData
  | [d] => (pLen d).map fun n => .int n
  | _ => none
def bAbs : List PyData → Option PyData
  | [.int i] => some (.int (if i < 0 then -i else i))
  | _ => none
def bInt : List PyData → Option PyData
  | [.int i] => some (.int i)
  | _ => none
def bTuple : List PyData → Option PyData
  | [.list xs] => some (.tuple xs)
  | [.tuple xs] => some (.tuple xs)
  | _ => none
def bList : List PyData → Option PyData
  | [.list xs] => some (.list xs)
  | [.tuple xs] => some (.list xs)
  | _ => none
def intsOf : List PyData → Option (List Int)
  | [] => some []
  | .int i :: r => match intsOf r with
    | some is => some (i :: is)
    | none => none
  | _ => none
def maxI : Int → List Int → Int
  | m, [] => m
  | m, i :: is => maxI (if m < i then i else m) is
def minI : Int → List Int → Int
  | m, [] => m
  | m, i :: is => minI (if i < m then i else m) is
def bMax : List PyData → Option PyData
  | [.list (.int i :: r)] => (intsOf r).map fun is => .int (maxI i is)
  | _ => none
def bMin : List PyData → Option PyData
  | [.list (.int i :: r)] => (intsOf r).map fun is => .int (minI i is)
  | _ => none
def sumI : List Int → Int
  | [] => 0
  | i :: is => i + sumI is
def bSum : List PyData → Option PyData
  | [.list xs] => (intsOf xs).map fun is => .int (sumI is)
  | _ => none
inductive Ty where
  | int | bool | str | tuple | list | dict
def isTy : Ty → PyData → Bool
  | .int, .int _ => true
  | .int, .bool _ => true
  | .bool, .bool _ => true
  | .str, .str _ => true
  | .tuple, .tuple _ => true
  | .list, .list _ => true
  | .dict, .dict _ => true
  | _, _ => false
def eIsi (t : Ty) (a : ME) : ME := fun env s => noX ((a env s).bind fun x s => match deref s x with
  | some d => .ok (.dat (.bool (isTy t d))) s
  | none => .bad)
end Ev
namespace Ev
open PySem
def eBad : ME := fun _ _ => .bad
def aBad : MA := fun _ _ => .bad
def pNeg : PyData → Option PyData
  | .int i => some (.int (-i))
  | _ => none
/-- lean(top, below): a fraction without common divisors -/
def leanI (a b : Int) : PyData := .tuple [.int ((if b < 0 then -a else a) / (Nat.gcd a.natAbs b.natAbs : Nat)), .int ((b.natAbs : Nat) / (Nat.gcd a.natAbs b.natAbs : Nat))]
def F_leanP : FnS := fun vs s => match vs with
  | [.dat (.int a), .dat (.int b)] => if decide (b ≠ 0) && Nat.blt a.natAbs.log2 2000 && Nat.blt b.natAbs.log2 2000 then .ok (.dat (leanI a b)) s else .bad
  | _ => .bad
def isTr : Out Vl → Bool
  | .ok (.dat (.bool true)) _ => true
  | _ => false
end Ev
/-! EvPure: what defs compute, in plain Lean. -/
namespace Ev
open PySem
theorem fnS_dat {np nn : Nat} {m : MS} {vs : List Vl} {s s' : Sto} {r : PyData} (hl : (vs.length == np) = true) (h : m (vs.map some ++ List.replicate (nn - np) none) s = .ok (.rt (.dat r)) s') : fnS np nn m vs s = .ok (.dat r) (s'.take s.length) := by
  unfold fnS
  rw [if_pos hl, h]
  rfl
theorem fnS_dat0 {np nn : Nat} {m : MS} {vs : List Vl} {s : Sto} {r : PyData} (hl : (vs.length == np) = true) (h : m (vs.map some ++ List.replicate (nn - np) none) s = .ok (.rt (.dat r)) s) : fnS np nn m vs s = .ok (.dat r) s := by
  rw [fnS_dat hl h, List.take_length]
theorem fnS_nx {np nn : Nat} {m : MS} {vs : List Vl} {s s' : Sto} {e : Env} (hl : (vs.length == np) = true) (h : m (vs.map some ++ List.replicate (nn - np) none) s = .ok (.nx e) s') : fnS np nn m vs s = .ok (.dat .none) (s'.take s.length) := by
  unfold fnS
  rw [if_pos hl, h]
theorem sCons_nx {a b : MS} {env e' : Env} {s s' : Sto} (h : a env s = .ok (.nx e') s') : sCons a b env s = b e' s' := by
  unfold sCons
  rw [h]
  rfl
theorem sCons_rt {a b : MS} {env : Env} {s s' : Sto} {v : Vl} (h : a env s = .ok (.rt v) s') : sCons a b env s = .ok (.rt v) s' := by
  unfold sCons
  rw [h]
  rfl
theorem mulOk_small {i j : Int} {m n : Nat} (hi : i.natAbs.log2 ≤ m) (hj : j.natAbs.log2 ≤ n) (h : m + n < 1000000) : mulOk i j = true := by
  unfold mulOk
  apply Nat.ble_eq_true_of_le
  show _ + 1 ≤ _
  omega
theorem log2_le_of_le {a b : Nat} (h : a ≤ b) : a.log2 ≤ b.log2 := by
  rcases Nat.eq_zero_or_pos a with rfl | ha
  · rw [Nat.log2_zero]; exact Nat.zero_le _
  · exact (Nat.le_log2 (by omega)).mpr (Nat.le_trans (Nat.log2_self_le (by omega)) h)
theorem sRet_ok {a : ME} {env : Env} {s s1 : Sto} {v : Vl} (h : a env s = .ok v s1) : sRet a env s = .ok (.rt v) s1 := by
  unfold sRet
  rw [h]
  rfl
theorem sSet_ok {i : Nat} {a : ME} {env : Env} {s s1 : Sto} {v : Vl} (h : a env s = .ok v s1) : sSet i a env s = .ok (.nx (env.set i (some v))) s1 := by
  unfold sSet
  rw [h]
  rfl
theorem sIf_t {c : ME} {a b : MS} {env : Env} {s s1 : Sto} (h : c env s = .ok (.dat (.bool true)) s1) : sIf c a b env s = a env s1 := by
  unfold sIf tOf
  rw [h]
  rfl
theorem sIf_f {c : ME} {a b : MS} {env : Env} {s s1 : Sto} (h : c env s = .ok (.dat (.bool false)) s1) : sIf c a b env s = b env s1 := by
  unfold sIf tOf
  rw [h]
  rfl
theorem e2_dat {f : PyData → PyData → Option PyData} {a b : ME} {env : Env} {s s1 s2 : Sto} {d e r : PyData} (ha : a env s = .ok (.dat d) s1) (hb : b env s1 = .ok (.dat e) s2) (hf : f d e = some r) : e2 f a b env s = .ok (.dat r) s2 := by
  unfold e2
  rw [ha]
  simp only [Out.bind]
  rw [hb]
  simp only [deref, hf, okD]
theorem e1_dat {f : PyData → Option PyData} {a : ME} {env : Env} {s s1 : Sto} {d r : PyData} (ha : a env s = .ok (.dat d) s1) (hf : f d = some r) : e1 f a env s = .ok (.dat r) s1 := by
  unfold e1
  rw [ha]
  simp only [Out.bind, deref, hf, okD, noX]
theorem eCmp_dat {f : PyData → PyData → Option Bool} {a b : ME} {env : Env} {s s1 s2 : Sto} {d e : PyData} {r : Bool} (ha : a env s = .ok (.dat d) s1) (hb : b env s1 = .ok (.dat e) s2) (hf : f d e = some r) : eCmp f a b env s = .ok (.dat (.bool r)) s2 := by
  unfold eCmp
  rw [ha]
  simp only [Out.bind]
  rw [hb]
  simp only [deref, hf, okB]
theorem eBlt1_dat {f : List PyData → Option PyData} {a : ME} {env : Env} {s s1 : Sto} {d r : PyData} (ha : a env s = .ok (.dat d) s1) (hf : f [d] = some r) : eBlt f (aCons a aNil) env s = .ok (.dat r) s1 := by
  unfold eBlt aCons
  rw [ha]
  simp only [Out.bind, aNil, eBlt.derefs, deref, hf, okD, noX]
theorem eOr_t {a b : ME} {env : Env} {s s1 : Sto} (h : a env s = .ok (.dat (.bool true)) s1) : eOr a b env s = .ok (.dat (.bool true)) s1 := by
  unfold eOr tOf
  rw [h]
  rfl
theorem eOr_f {a b : ME} {env : Env} {s s1 : Sto} {o : Out Vl} (h : a env s = .ok (.dat (.bool false)) s1) (hb : b env s1 = o) : eOr a b env s = o := by
  unfold eOr tOf
  rw [h]
  exact hb
theorem eAnd_f {a b : ME} {env : Env} {s s1 : Sto} (h : a env s = .ok (.dat (.bool false)) s1) : eAnd a b env s = .ok (.dat (.bool false)) s1 := by
  unfold eAnd tOf
  rw [h]
  rfl
theorem eAnd_t {a b : ME} {env : Env} {s s1 : Sto} {o : Out Vl} (h : a env s = .ok (.dat (.bool true)) s1) (hb : b env s1 = o) : eAnd a b env s = o := by
  unfold eAnd tOf
  rw [h]
  exact hb
theorem eNot_dat {a : ME} {env : Env} {s s1 : Sto} {b : Bool} (h : a env s = .ok (.dat (.bool b)) s1) : eNot a env s = .ok (.dat (.bool (!b))) s1 := by
  unfold eNot tOf
  rw [h]
  rfl
theorem eIf_t {c a b : ME} {env : Env} {s s1 : Sto} {o : Out Vl} (h : c env s = .ok (.dat (.bool true)) s1) (ha : a env s1 = o) : eIf c a b env s = o := by
  unfold eIf tOf
  rw [h]
  exact ha
theorem eIf_f {c a b : ME} {env : Env} {s s1 : Sto} {o : Out Vl} (h : c env s = .ok (.dat (.bool false)) s1) (hb : b env s1 = o) : eIf c a b env s = o := by
  unfold eIf tOf
  rw [h]
  exact hb
theorem eCall2_dat {f : FnS} {a b : ME} {env : Env} {s s1 s2 : Sto} {d e : PyData} {o : Out Vl} (ha : a env s = .ok (.dat d) s1) (hb : b env s1 = .ok (.dat e) s2) (hf : f [.dat d, .dat e] s2 = o) : eCall f (aCons a (aCons b aNil)) env s = o := by
  have h1 : aCons b aNil env s1 = .ok [.dat e] s2 := by
    unfold aCons
    rw [hb]
    rfl
  have h2 : aCons a (aCons b aNil) env s = .ok [.dat d, .dat e] s2 := by
    rw [aCons.eq_1 a, ha]
    simp only [Out.bind, h1]
  unfold eCall
  rw [h2]
  exact hf
theorem eCall1_dat {f : FnS} {a : ME} {env : Env} {s s1 : Sto} {d : PyData} {o : Out Vl} (ha : a env s = .ok (.dat d) s1) (hf : f [.dat d] s1 = o) : eCall f (aCons a aNil) env s = o := by
  unfold eCall aCons
  rw [ha]
  simp only [Out.bind, aNil, hf]
theorem bindA {α β : Type} {o : Out α} {f : α → Sto → Out β} {a : α} {s : Sto} {q : Out β} (h : o = .ok a s) (hf : f a s = q) : o.bind f = q := by
  rw [h]
  exact hf
end Ev
/-! EvPrim: short forms of hot defs. -/
namespace Ev
open PySem
def big : Nat := 2 ^ 600
def sm4 (a b c d : Int) : Bool := Nat.ble (a.natAbs + b.natAbs + c.natAbs + d.natAbs) big
def P_less : FnS := fun vs s => match vs with
  | [.dat (.tuple [.int a, .int b]), .dat (.tuple [.int c, .int d])] => if sm4 a b c d then .ok (.dat (.bool (decide (a * d < c * b)))) s else .bad
  | _ => .bad
def P_no_more : FnS := fun vs s => match vs with
  | [.dat (.tuple [.int a, .int b]), .dat (.tuple [.int c, .int d])] => if sm4 a b c d then .ok (.dat (.bool (decide (a * d ≤ c * b)))) s else .bad
  | _ => .bad
def arOk (t u : Int) : Bool := decide (u ≠ 0) && Nat.blt t.natAbs.log2 2000 && Nat.blt u.natAbs.log2 2000
def P_plus : FnS := fun vs s => match vs with
  | [.dat (.tuple [.int a, .int b]), .dat (.tuple [.int c, .int d])] => if sm4 a b c d && arOk (a * d + c * b) (b * d) then .ok (.dat (leanI (a * d + c * b) (b * d))) s else .bad
  | _ => .bad
def P_minus : FnS := fun vs s => match vs with
  | [.dat (.tuple [.int a, .int b]), .dat (.tuple [.int c, .int d])] => if sm4 a b c d && arOk (a * d - c * b) (b * d) then .ok (.dat (leanI (a * d - c * b) (b * d))) s else .bad
  | _ => .bad
def P_times : FnS := fun vs s => match vs with
  | [.dat (.tuple [.int a, .int b]), .dat (.tuple [.int c, .int d])] => if sm4 a b c d && arOk (a * c) (b * d) then .ok (.dat (leanI (a * c) (b * d))) s else .bad
  | _ => .bad
def P_over : FnS := fun vs s => match vs with
  | [.dat (.tuple [.int a, .int b]), .dat (.tuple [.int c, .int d])] => if sm4 a b c d && arOk (a * d) (b * c) then .ok (.dat (leanI (a * d) (b * c))) s else .bad
  | _ => .bad
def I_is_whole : FnS := fnS 1 1 (sRet (eAnd (eIsi .int (eVar 0)) (eNot (eIsi .bool (eVar 0)))))
def I_is_many : FnS := fnS 2 2 (sRet (eAnd (eIsi .tuple (eVar 0)) (eCmp pEq (eBlt bLen (aCons (eVar 0) (aNil))) (eVar 1))))
def I_is_fraction : FnS := fnS 1 1 (sCons (sIf (eOr (eNot (eCall I_is_many (aCons (eVar 0) (aCons (eCst (.int (2))) (aNil))))) (eOr (eNot (eCall I_is_whole (aCons (e2 pIx (eVar 0) (eCst (.int (0)))) (aNil)))) (eOr (eNot (eCall I_is_whole (aCons (e2 pIx (eVar 0) (eCst (.int (1)))) (aNil)))) (eCmp pLt (e2 pIx (eVar 0) (eCst (.int (1)))) (eCst (.int (1))))))) (sRet (eCst (.bool false))) (sNil)) (sRet (eCmp pEq (eCall F_leanP (aCons (e2 pIx (eVar 0) (eCst (.int (0)))) (aCons (e2 pIx (eVar 0) (eCst (.int (1)))) (aNil)))) (eVar 0))))
def P_is_fraction : FnS := fun vs s => match vs with
  | [.dat (.tuple [.int a, .int b])] => if decide (b < 1) then .ok (.dat (.bool false)) s else if Nat.blt a.natAbs.log2 2000 && Nat.blt b.natAbs.log2 2000 then .ok (.dat (.bool (Nat.beq (Nat.gcd a.natAbs b.natAbs) 1))) s else .bad
  | _ => I_is_fraction vs s
end Ev
/-! EvRep: how values lie in the abstract heap; readings of the combinators. -/
namespace Ev
open PySem PySem.Spec PyProof.Rows L2

abbrev AP' := Addr → Prop
mutual
inductive Rp (K : PySem.W.Frag) (H : Hp) (P : AP') : V → PyData → Prop
  | non : Rp K H P .non .none
  | bl (b : Bool) : Rp K H P (.bl b) (.bool b)
  | int (i : Int) : Rp K H P (.int i) (.int i)
  | str (x : Str) : Rp K H P (.str x) (.str x)
  | lst {a : Addr} {xs : List V} {ds : List PyData} : H a = some (.lst xs) → ¬ P a → RpAll K H P xs ds → Rp K H P (.ref a) (.list ds)
  | tup {a : Addr} {xs : List V} {ds : List PyData} : SqT K H a xs → RpAll K H P xs ds → Rp K H P (.ref a) (.tuple ds)
inductive RpAll (K : PySem.W.Frag) (H : Hp) (P : AP') : List V → List PyData → Prop
  | nil : RpAll K H P [] []
  | cons {v : V} {vs : List V} {d : PyData} {ds : List PyData} : Rp K H P v d → RpAll K H P vs ds → RpAll K H P (v :: vs) (d :: ds)
end
/-- all is kept but the lists at P -/
def ExtP (P : AP') (H H' : Hp) : Prop := ∀ b o, H b = some o → (¬ P b ∨ ∀ xs, o ≠ .lst xs) → H' b = some o
theorem ExtP.refl (P : AP') (H : Hp) : ExtP P H H := fun _ _ h _ => h
theorem ExtP.trans {P : AP'} {H H1 H2 : Hp} (a : ExtP P H H1) (b : ExtP P H1 H2) : ExtP P H H2 := fun c o h n => b c o (a c o h n) n
theorem ExtP.mono {P P' : AP'} {H H1 : Hp} (a : ExtP P H H1) (h : ∀ x, P x → P' x) : ExtP P' H H1 := fun c o e n => a c o e (n.imp (fun z y => z (h _ y)) id)
theorem ExtP.same {P : AP'} {H H1 : Hp} (a : Same H H1) : ExtP P H H1 := fun c o e _ => a c o e
/-- .. where what is new may be among P' -/
theorem ExtP.fresh {P P' : AP'} {H H1 : Hp} (a : ExtP P' H H1) (h : ∀ x, P' x → P x ∨ H x = none) : ExtP P H H1 := fun c o e n => a c o e (by
  rcases n with n | n
  · left
    intro z
    rcases h c z with y | y
    · exact n y
    · rw [e] at y; cases y
  · exact .inr n)
section
variable {K : PySem.W.Frag} {H H' : Hp} {P P' : AP'}
theorem SqT.ext {a : Addr} {xs : List V} (e : ExtP P H H') (h : SqT K H a xs) : SqT K H' a xs := by
  rcases h with h | h
  · rcases h with h | ⟨o, h⟩
    · exact .inl (.inl (e _ _ h (.inr fun _ z => nomatch z)))
    · exact .inl (.inr ⟨o, e _ _ h (.inr fun _ z => nomatch z)⟩)
  · exact .inr h
mutual
theorem Rp.ext (e : ExtP P H H') : ∀ (d : PyData) (v : V), Rp K H P v d → Rp K H' P v d
  | .none, _, h => by cases h; exact .non
  | .bool _, _, h => by cases h; exact .bl _
  | .int _, _, h => by cases h; exact .int _
  | .str _, _, h => by cases h; exact .str _
  | .list ds, _, h => by
    cases h with
    | lst h1 h2 h3 => exact .lst (e _ _ h1 (.inl h2)) h2 (RpAll.ext e ds _ h3)
  | .tuple ds, _, h => by
    cases h with
    | tup h1 h3 => exact .tup (SqT.ext e h1) (RpAll.ext e ds _ h3)
  | .dict _, _, h => by cases h
theorem RpAll.ext (e : ExtP P H H') : ∀ (ds : List PyData) (vs : List V), RpAll K H P vs ds → RpAll K H' P vs ds
  | [], _, h => by cases h; exact .nil
  | d :: ds, _, h => by
    cases h with
    | cons h1 h2 => exact .cons (Rp.ext e d _ h1) (RpAll.ext e ds _ h2)
end
mutual
/-- another P -/
theorem Rp.toP (q : ∀ x, P' x → P x ∨ H x = none) : ∀ (d : PyData) (v : V), Rp K H P v d → Rp K H P' v d
  | .none, _, h => by cases h; exact .non
  | .bool _, _, h => by cases h; exact .bl _
  | .int _, _, h => by cases h; exact .int _
  | .str _, _, h => by cases h; exact .str _
  | .list ds, _, h => by
    cases h with
    | lst h1 h2 h3 => exact .lst h1 (fun z => (q _ z).elim h2 (fun y => by rw [h1] at y; cases y)) (RpAll.toP q ds _ h3)
  | .tuple ds, _, h => by
    cases h with
    | tup h1 h3 => exact .tup h1 (RpAll.toP q ds _ h3)
  | .dict _, _, h => by cases h
theorem RpAll.toP (q : ∀ x, P' x → P x ∨ H x = none) : ∀ (ds : List PyData) (vs : List V), RpAll K H P vs ds → RpAll K H P' vs ds
  | [], _, h => by cases h; exact .nil
  | d :: ds, _, h => by
    cases h with
    | cons h1 h2 => exact .cons (Rp.toP q d _ h1) (RpAll.toP q ds _ h2)
end
mutual
theorem Rp.dp : ∀ (d : PyData) (v : V), Rp K H P v d → Dp K H v d
  | .none, _, h => by cases h; exact .non
  | .bool _, _, h => by cases h; exact .bl _
  | .int _, _, h => by cases h; exact .int _
  | .str _, _, h => by cases h; exact .str _
  | .list ds, _, h => by
    cases h with
    | lst h1 h2 h3 => exact .lst (SqL.of h1) (RpAll.dp ds _ h3)
  | .tuple ds, _, h => by
    cases h with
    | tup h1 h3 => exact .tup h1 (RpAll.dp ds _ h3)
  | .dict _, _, h => by cases h
theorem RpAll.dp : ∀ (ds : List PyData) (vs : List V), RpAll K H P vs ds → DpAll K H vs ds
  | [], _, h => by cases h; exact .nil
  | d :: ds, _, h => by
    cases h with
    | cons h1 h2 => exact .cons (Rp.dp d _ h1) (RpAll.dp ds _ h2)
end
theorem RpAll.length : ∀ {vs : List V} {ds : List PyData}, RpAll K H P vs ds → vs.length = ds.length
  | _, _, .nil => rfl
  | _, _, .cons _ h => by rw [List.length_cons, List.length_cons, RpAll.length h]
theorem RpAll.get : ∀ {vs : List V} {ds : List PyData} {i : Nat} {d : PyData}, RpAll K H P vs ds → ds[i]? = some d → ∃ v, vs[i]? = some v ∧ Rp K H P v d
  | _, _, _, _, .nil, e => by simp at e
  | _, _, 0, _, .cons r _, e => by simp at e; subst e; exact ⟨_, rfl, r⟩
  | _, _, i + 1, _, .cons _ t, e => by
    obtain ⟨u, h1, h2⟩ := RpAll.get (i := i) t (by simpa using e)
    exact ⟨u, by simpa using h1, h2⟩
theorem RpAll.getV : ∀ {vs : List V} {ds : List PyData} {i : Nat} {v : V}, RpAll K H P vs ds → vs[i]? = some v → ∃ d, ds[i]? = some d ∧ Rp K H P v d
  | _, _, _, _, .nil, e => by simp at e
  | _, _, 0, _, .cons r _, e => by simp at e; subst e; exact ⟨_, rfl, r⟩
  | _, _, i + 1, _, .cons _ t, e => by
    obtain ⟨u, h1, h2⟩ := RpAll.getV (i := i) t (by simpa using e)
    exact ⟨u, by simpa using h1, h2⟩
theorem RpAll.append : ∀ {vs ws : List V} {ds es : List PyData}, RpAll K H P vs ds → RpAll K H P ws es → RpAll K H P (vs ++ ws) (ds ++ es)
  | _, _, _, _, .nil, s => s
  | _, _, _, _, .cons r t, s => .cons r (RpAll.append t s)
theorem RpAll.take : ∀ {vs : List V} {ds : List PyData} (n : Nat), RpAll K H P vs ds → RpAll K H P (vs.take n) (ds.take n)
  | _, _, 0, _ => .nil
  | _, _, _ + 1, .nil => .nil
  | _, _, n + 1, .cons r t => .cons r (RpAll.take n t)
theorem RpAll.drop : ∀ {vs : List V} {ds : List PyData} (n : Nat), RpAll K H P vs ds → RpAll K H P (vs.drop n) (ds.drop n)
  | _, _, 0, r => r
  | _, _, _ + 1, .nil => .nil
  | _, _, n + 1, .cons _ t => RpAll.drop n t
theorem RpAll.reverse {vs : List V} {ds : List PyData} (h : RpAll K H P vs ds) : RpAll K H P vs.reverse ds.reverse := by
  cases h with
  | nil => exact .nil
  | cons r t =>
    rw [List.reverse_cons, List.reverse_cons]
    exact (RpAll.reverse t).append (.cons r .nil)
termination_by ds.length
theorem RpAll.rep {vs : List V} {ds : List PyData} (h : RpAll K H P vs ds) : ∀ k : Nat, RpAll K H P (List.replicate k vs).flatten (List.replicate k ds).flatten
  | 0 => .nil
  | k + 1 => by
    rw [List.replicate_succ, List.replicate_succ, List.flatten_cons, List.flatten_cons]
    exact h.append (RpAll.rep h k)
theorem RpAll.set {v : V} {d : PyData} (r : Rp K H P v d) : ∀ {vs : List V} {ds : List PyData} (i : Nat), RpAll K H P vs ds → RpAll K H P (vs.set i v) (ds.set i d)
  | _, _, _, .nil => .nil
  | _, _, 0, .cons _ t => .cons r t
  | _, _, i + 1, .cons q t => .cons q (RpAll.set r i t)
theorem RpAll.dropLast {vs : List V} {ds : List PyData} (h : RpAll K H P vs ds) : RpAll K H P vs.dropLast ds.dropLast := by
  rw [List.dropLast_eq_take, List.dropLast_eq_take, h.length]
  exact h.take _
end

/-- a value -/
inductive RV (K : PySem.W.Frag) (H : Hp) (P : AP') (ι : List Addr) : V → Vl → Prop
  | dat {v : V} {d : PyData} : Rp K H P v d → RV K H P ι v (.dat d)
  | loc {a : Addr} {n : Nat} : ι[n]? = some a → RV K H P ι (.ref a) (.loc n)
  | scr {a : Addr} {xs : List V} {ds : List PyData} : ((∃ o, H a = some (.frz o (.lst xs))) ∨ ∀ H', SqL K H' a xs) → RpAll K H P xs ds → RV K H P ι (.ref a) (.scr ds)
/-- the slots -/
structure RE (K : PySem.W.Frag) (H : Hp) (P : AP') (ι : List Addr) (σ : L2.St) (env : Env) : Prop where
  len : σ.length = env.length
  at_ : ∀ (i : Nat) (v : Vl), env[i]? = some (some v) → ∃ u, σ[i]? = some (some u) ∧ RV K H P ι u v
/-- the lists that are changed -/
structure RS (K : PySem.W.Frag) (H : Hp) (P : AP') (ι : List Addr) (st : Sto) : Prop where
  len : ι.length = st.length
  nd : ι.Nodup
  pin : ∀ a ∈ ι, P a
  pthere : ∀ a, P a → H a ≠ none
  at_ : ∀ (n : Nat) (a : Addr), ι[n]? = some a → ∃ (ds : List PyData) (xs : List V), st[n]? = some (MO.lst ds) ∧ H a = some (.lst xs) ∧ RpAll K H P xs ds
abbrev Ext (ι : List Addr) (H H' : Hp) : Prop := ExtP (· ∈ ι) H H'
section
variable {K : PySem.W.Frag} {H H' : Hp} {P P' : AP'} {ι ι' : List Addr} {st : Sto} {σ : L2.St} {env : Env}
theorem RV.ext {v : V} {u : Vl} (e : ExtP P H H') (h : RV K H P ι v u) : RV K H' P ι v u := by
  cases h with
  | dat r => exact .dat (r.ext e)
  | loc q => exact .loc q
  | scr q r => exact .scr (q.imp (fun ⟨o, z⟩ => ⟨o, e _ _ z (.inr fun _ z => nomatch z)⟩) id) (r.ext e)
theorem RE.ext (e : ExtP P H H') (h : RE K H P ι σ env) : RE K H' P ι σ env := ⟨h.len, fun i v q => let ⟨u, h1, h2⟩ := h.at_ i v q; ⟨u, h1, h2.ext e⟩⟩
theorem RS.extP (r : RS K H P ι st) (e : Ext ι H H') : ExtP P H H' := e.mono r.pin
theorem RS.same (r : RS K H P ι st) (e : Same H H') : RS K H' P ι st := ⟨r.len, r.nd, r.pin, fun a p z => r.pthere a p (by
    cases q : H a with
    | none => rfl
    | some o => rw [e a o q] at z; cases z), fun n a q => let ⟨ds, xs, h1, h2, h3⟩ := r.at_ n a q; ⟨ds, xs, h1, e a _ h2, h3.ext (.same e)⟩⟩
theorem RS.lt {n : Nat} {a : Addr} (r : RS K H P ι st) (h : ι[n]? = some a) : H a ≠ none := by
  obtain ⟨_, _, _, h2, _⟩ := r.at_ n a h
  rw [h2]; exact fun z => nomatch z
/-- what reads as data -/
inductive RD (K : PySem.W.Frag) (H : Hp) (P : AP') : V → PyData → Prop
  | dat {v : V} {d : PyData} : Rp K H P v d → RD K H P v d
  | loc {a : Addr} {xs : List V} {ds : List PyData} : H a = some (.lst xs) → RpAll K H P xs ds → RD K H P (.ref a) (.list ds)
theorem RD.dp {v : V} {d : PyData} (h : RD K H P v d) : Dp K H v d := by
  cases h with
  | dat r => exact r.dp
  | loc h r => exact .lst (SqL.of h) r.dp
theorem RV.rd {v : V} {u : Vl} {d : PyData} (h : RV K H P ι v u) (r : RS K H P ι st) (e : deref st u = some d) : RD K H P v d := by
  cases h with
  | dat q => cases e; exact .dat q
  | loc q =>
    obtain ⟨ds, xs, h1, h2, h3⟩ := r.at_ _ _ q
    simp only [deref, h1] at e
    cases e
    exact .loc h2 h3
  | scr _ _ => cases e
theorem RD.lst {v : V} {ds : List PyData} (h : RD K H P v (.list ds)) : ∃ a xs, v = .ref a ∧ H a = some (.lst xs) ∧ RpAll K H P xs ds := by
  cases h with
  | dat r => cases r with | lst h1 h2 h3 => exact ⟨_, _, rfl, h1, h3⟩
  | loc h r => exact ⟨_, _, rfl, h, r⟩
theorem RD.tup {v : V} {ds : List PyData} (h : RD K H P v (.tuple ds)) : ∃ a xs, v = .ref a ∧ SqT K H a xs ∧ RpAll K H P xs ds := by
  cases h with
  | dat r => cases r with | tup h1 h3 => exact ⟨_, _, rfl, h1, h3⟩
theorem RD.int {v : V} {i : Int} (h : RD K H P v (.int i)) : v = .int i := by
  cases h with
  | dat r => cases r; rfl
theorem RD.str {v : V} {x : Str} (h : RD K H P v (.str x)) : v = .str x := by
  cases h with
  | dat r => cases r; rfl
theorem RD.bool {v : V} {b : Bool} (h : RD K H P v (.bool b)) : v = .bl b := by
  cases h with
  | dat r => cases r; rfl
theorem RD.non {v : V} (h : RD K H P v .none) : v = .non := by
  cases h with
  | dat r => cases r; rfl
theorem same_upd {H : Hp} {p : Addr} {o : HO} (h : H p = none) : Same H (upd H p o) := fun b x e => by
  rw [upd_ne (ne_of_none e h)]
  exact e
theorem RE.set {u : V} {v : Vl} (h : RE K H P ι σ env) (i : Nat) (r : RV K H P ι u v) : RE K H P ι (σ.set i (some u)) (env.set i (some v)) := by
  refine ⟨by rw [List.length_set, List.length_set]; exact h.len, fun j w e => ?_⟩
  by_cases q : i = j
  · subst q
    by_cases l : i < env.length
    · rw [List.getElem?_set_self l] at e
      cases e
      exact ⟨u, by rw [List.getElem?_set_self (by rw [h.len]; exact l)], r⟩
    · rw [List.getElem?_eq_none (by rw [List.length_set]; omega)] at e
      cases e
  · rw [List.getElem?_set_ne q] at e
    obtain ⟨w', h1, h2⟩ := h.at_ j w e
    exact ⟨w', by rw [List.getElem?_set_ne q]; exact h1, h2⟩
theorem wipeE_length (env : Env) : ∀ vs : List Nat, (wipeE env vs).length = env.length
  | [] => rfl
  | v :: vs => by unfold wipeE; rw [List.length_set, wipeE_length env vs]
theorem RE.wipe (h : RE K H P ι σ env) : ∀ vs : List Nat, RE K H P ι (L2.wipe σ vs) (wipeE env vs)
  | [] => h
  | v :: vs => by
    have ih := RE.wipe h vs
    unfold L2.wipe wipeE
    refine ⟨by rw [List.length_set, List.length_set]; exact ih.len, fun j w e => ?_⟩
    by_cases q : v = j
    · subst q
      by_cases l : v < (wipeE env vs).length
      · rw [List.getElem?_set_self l] at e; cases e
      · rw [List.getElem?_eq_none (by rw [List.length_set]; omega)] at e; cases e
    · rw [List.getElem?_set_ne q] at e
      obtain ⟨w', h1, h2⟩ := ih.at_ j w e
      exact ⟨w', by rw [List.getElem?_set_ne q]; exact h1, h2⟩
end

section
variable {K : PySem.W.Frag} {H H1 H' : Hp} {P P' : AP'} {ι : List Addr} {s st : Sto} {σ : L2.St} {env : Env} {D : Addr}
theorem RV.toP {v : V} {u : Vl} (q : ∀ x, P' x → P x ∨ H x = none) (h : RV K H P ι v u) : RV K H P' ι v u := by
  cases h with
  | dat r => exact .dat (r.toP q _ _)
  | loc r => exact .loc r
  | scr r r2 => exact .scr r (r2.toP q _ _)
theorem RE.toP (q : ∀ x, P' x → P x ∨ H x = none) (h : RE K H P ι σ env) : RE K H P' ι σ env := ⟨h.len, fun i v e => let ⟨u, h1, h2⟩ := h.at_ i v e; ⟨u, h1, h2.toP q⟩⟩
abbrev Pl (P : AP') (D : Addr) : AP' := fun x => P x ∨ x = D
theorem RS.add (r : RS K H P ι s) {o : HO} (hD : H D = none) : RS K (L2.upd H D o) (Pl P D) ι s := by
  have sm := same_upd (o := o) hD
  have r2 := r.same sm
  refine ⟨r.len, r.nd, fun a h => .inl (r.pin a h), fun a h => ?_, fun n a h => ?_⟩
  · rcases h with h | h
    · exact r2.pthere a h
    · rw [h, upd_same]; exact fun z => nomatch z
  · obtain ⟨ds, xs, h1, h2, h3⟩ := r.at_ n a h
    exact ⟨ds, xs, h1, sm a _ h2, (h3.toP (fun x hx => Or.imp id (fun z => by rw [z]; exact hD) hx) _ _).ext (.same sm) _ _⟩
theorem RS.less (r : RS K H (Pl P D) ι s) (h : ∀ a ∈ ι, P a) : RS K H P ι s :=
  ⟨r.len, r.nd, h, fun a z => r.pthere a (.inl z), fun n a e => let ⟨ds, xs, h1, h2, h3⟩ := r.at_ n a e; ⟨ds, xs, h1, h2, h3.toP (fun x hx => .inl (.inl hx)) _ _⟩⟩
end
/-! ### readings -/
/-- the state that a piece finds -/
structure At (K : PySem.W.Frag) (H : Hp) (P : AP') (ι : List Addr) (σ : L2.St) (env : Env) (st : Sto) : Prop where
  e : RE K H P ι σ env
  s : RS K H P ι st
def rdE (K : PySem.W.Frag) (m : ME) : TE := fun σ H Q => ∃ ι P env st, At K H P ι σ env st ∧ ∃ v st', m env st = .ok v st' ∧
  ∀ u H', Ext ι H H' → RS K H' P ι st' → RV K H' P ι u v → Q u H'
def rdA (K : PySem.W.Frag) (m : MA) : TA := fun σ H Q => ∃ ι P env st, At K H P ι σ env st ∧ ∃ vs st', m env st = .ok vs st' ∧
  ∀ us H', Ext ι H H' → RS K H' P ι st' → Paired (RV K H' P ι) us vs → Q us H'
def rdT (K : PySem.W.Frag) (m : MT) : TT := fun σ H Q => ∃ ι P env st, At K H P ι σ env st ∧ ∃ b st', m env st = .ok b st' ∧
  ∀ H', Ext ι H H' → RS K H' P ι st' → Q b H'
section
variable {X : Cx}
theorem PE.mono {e : Expr} {t t' : TE} (h : PE X e t) (q : ∀ σ H Q, t' σ H Q → t σ H Q) : PE X e t' := ⟨fun pins s σ H Q I w => h.run pins s σ H Q I (q _ _ _ w)⟩
theorem PT.mono {e : Expr} {t t' : TT} (h : PT X e t) (q : ∀ σ H Q, t' σ H Q → t σ H Q) : PT X e t' := ⟨fun pins s σ H Q I w => h.run pins s σ H Q I (q _ _ _ w)⟩
theorem PW.mono {e : Expr} {t t' : TT} (h : PW X e t) (q : ∀ σ H Q, t' σ H Q → t σ H Q) : PW X e t' := ⟨fun wh pins s σ H Q I w => h.run wh pins s σ H Q I (q _ _ _ w)⟩
theorem PA.mono {e : List Expr} {t t' : TA} (h : PA X e t) (q : ∀ σ H Q, t' σ H Q → t σ H Q) : PA X e t' := ⟨fun pos pins s σ H Q I w => h.run pos pins s σ H Q I (q _ _ _ w)⟩
theorem PS.mono {e : Stmt} {t t' : TS} (h : PS X e t) (q : ∀ D σ H, t' D σ H → t D σ H) : PS X e t' := ⟨fun pins s σ H D I w => h.run pins s σ H D I (q _ _ _ w)⟩
theorem PSs.mono {e : List Stmt} {t t' : TS} (h : PSs X e t) (q : ∀ D σ H, t' D σ H → t D σ H) : PSs X e t' := ⟨fun pins s σ H D I w => h.run pins s σ H D I (q _ _ _ w)⟩
theorem PG.mono {e : Expr} {t t' : L2.TG} (h : PG X e t) (q : ∀ v σ H Q, t' v σ H Q → t v σ H Q) : PG X e t' := ⟨fun pins s σ H v u Q I r w => h.run pins s σ H v u Q I r (q _ _ _ _ w)⟩
theorem PI.mono {tg e : Expr} {t t' : TI} (h : PI X tg e t) (q : ∀ σ H R, t' σ H R → t σ H R) : PI X tg e t' := ⟨fun pins s σ H R I w => h.run pins s σ H R I (q _ _ _ w)⟩
end
/-- two in a row -/
theorem At.next {K : PySem.W.Frag} {H H' : Hp} {P : AP'} {ι : List Addr} {σ : L2.St} {env : Env} {st st' : Sto} (a : At K H P ι σ env st) (e : Ext ι H H') (r : RS K H' P ι st') : At K H' P ι σ env st' := ⟨a.e.ext (a.s.extP e), r⟩
theorem bind_ok {α β : Type} {o : Out α} {f : α → Sto → Out β} {b : β} {s : Sto} (h : o.bind f = .ok b s) : ∃ a s1, o = .ok a s1 ∧ f a s1 = .ok b s := by
  cases o with
  | ok a s1 => exact ⟨a, s1, rfl, h⟩
  | exn x s1 => cases h
  | bad => cases h
end Ev
/-! EvExp: rules of expressions over the combinators. -/
namespace Ev
open PySem PySem.Spec PyProof.Rows L2

theorem line_eq : line = sizeLine := by rw [sizeLine_eq]; rfl
/-! ### operations by data -/
def rOp (K : PySem.W.Frag) (f : PyData → PyData → Option PyData) : R2 := fun x y H Q => ∃ P d e r, (∀ a, P a → H a ≠ none) ∧ RD K H P x d ∧ RD K H P y e ∧ f d e = some r ∧ ∀ u H', Same H H' → Rp K H' P u r → Q u H'
def rCm (K : PySem.W.Frag) (f : PyData → PyData → Option Bool) : R2 := fun x y H Q => ∃ P d e r, RD K H P x d ∧ RD K H P y e ∧ f d e = some r ∧ Q (.bl r) H
def rUn (K : PySem.W.Frag) (f : PyData → Option PyData) : V → Hp → VK → Prop := fun x H Q => ∃ P d r, (∀ a, P a → H a ≠ none) ∧ RD K H P x d ∧ f d = some r ∧ ∀ u H', Same H H' → Rp K H' P u r → Q u H'
section
variable {K : PySem.W.Frag} {H : Hp} {P : AP'} {Q : VK}
theorem put_lst {xs : List V} {ds : List PyData} (hp : ∀ a, P a → H a ≠ none) (r : RpAll K H P xs ds) (q : ∀ u H', Same H H' → Rp K H' P u (.list ds) → Q u H') : ∀ p, H p = none → Q (.ref p) (upd H p (.lst xs)) := fun p hn =>
  q _ _ (same_upd hn) (.lst upd_same (fun z => hp p z hn) (r.ext (.same (same_upd hn))))
theorem put_tup {xs : List V} {ds : List PyData} (r : RpAll K H P xs ds) (q : ∀ u H', Same H H' → Rp K H' P u (.tuple ds) → Q u H') : ∀ p, H p = none → Q (.ref p) (upd H p (.tup xs)) := fun p hn =>
  q _ _ (same_upd hn) (.tup (SqT.of upd_same) (r.ext (.same (same_upd hn))))
theorem RD.rpT {v : V} {ds : List PyData} (h : RD K H P v (.tuple ds)) : Rp K H P v (.tuple ds) := by
  cases h with
  | dat r => exact r
end
section
variable {X : Cx}
theorem of_if {α : Type} {c : Bool} {a : α} {r : α} (h : (if c = true then some a else none) = some r) : c = true ∧ a = r := by
  cases c with
  | true => exact ⟨rfl, Option.some.inj h⟩
  | false => cases h
theorem op_pAdd : OpR X (binaryOp .Add) (rOp X.K pAdd) := by
  intro pins s σ H x y v u Q I rx ry h
  obtain ⟨P, d, e, r, hp, hd, he, hf, q⟩ := h
  unfold pAdd at hf
  split at hf
  · cases hf; cases hd.int; cases he.int
    exact op_add pins s σ H _ _ v u Q I rx ry ⟨_, _, rfl, rfl, q _ _ (Same.refl H) (.int _)⟩
  · split at hf
    · rename_i hl
      cases hf; cases hd.str; cases he.str
      exact op_add_str pins s σ H _ _ v u Q I rx ry ⟨_, _, rfl, rfl, by rw [← line_eq]; exact hl, q _ _ (Same.refl H) (.str _)⟩
    · cases hf
  · split at hf
    · rename_i hl
      cases hf
      obtain ⟨a, xs, rfl, ha, hr⟩ := hd.tup
      obtain ⟨b, ys, rfl, hb, hs⟩ := he.tup
      have l1 := hr.length
      have l2 := hs.length
      refine op_catA pins s σ H _ _ v u Q I rx ry ⟨a, b, xs, ys, rfl, rfl, ha, hb, by rw [l1, l2, ← line_eq]; exact hl, fun e => ?_, fun n e => ?_, fun _ _ => ?_⟩
      · subst e; cases hr
        exact q _ _ (Same.refl H) he.rpT
      · subst e; cases hs
        rw [List.append_nil] at q
        exact q _ _ (Same.refl H) hd.rpT
      · exact put_tup (hr.append hs) q
    · cases hf
  · split at hf
    · rename_i hl
      cases hf
      obtain ⟨a, xs, rfl, ha, hr⟩ := hd.lst
      obtain ⟨b, ys, rfl, hb, hs⟩ := he.lst
      exact op_cat pins s σ H _ _ v u Q I rx ry ⟨a, b, xs, ys, rfl, rfl, ha, hb, by rw [hr.length, hs.length, ← line_eq]; exact hl, put_lst hp (hr.append hs) q⟩
    · cases hf
  · cases hf
theorem op_pSub : OpR X (binaryOp .Sub) (rOp X.K pSub) := by
  intro pins s σ H x y v u Q I rx ry h
  obtain ⟨P, d, e, r, hp, hd, he, hf, q⟩ := h
  unfold pSub at hf
  split at hf
  · cases hf; cases hd.int; cases he.int
    exact op_sub pins s σ H _ _ v u Q I rx ry ⟨_, _, rfl, rfl, q _ _ (Same.refl H) (.int _)⟩
  · cases hf
theorem op_pMul : OpR X (binaryOp .Mult) (rOp X.K pMul) := by
  intro pins s σ H x y v u Q I rx ry h
  obtain ⟨P, d, e, r, hp, hd, he, hf, q⟩ := h
  unfold pMul at hf
  split at hf
  · obtain ⟨c, rfl⟩ := of_if hf
    cases hd.int; cases he.int
    refine op_mulW pins s σ H _ _ v u Q I rx ry ⟨_, _, rfl, rfl, ?_, q _ _ (Same.refl H) (.int _)⟩
    exact Nat.le_of_ble_eq_true c
  · obtain ⟨c, rfl⟩ := of_if hf
    rw [Bool.and_eq_true] at c
    obtain ⟨c1, c2⟩ := c
    have c1 := Nat.le_of_ble_eq_true c1
    have c2 := Nat.le_of_ble_eq_true c2
    obtain ⟨a, xs, rfl, ha, hr⟩ := hd.lst
    cases he.int
    have hl : line = 16777216 := rfl
    exact op_rep pins s σ H _ _ v u Q I rx ry ⟨a, _, xs, rfl, rfl, ha, by omega, by omega, by rw [hr.length, ← line_eq]; exact c1, put_lst hp (hr.rep _) q⟩
  · obtain ⟨c, rfl⟩ := of_if hf
    simp only [Bool.and_eq_true, decide_eq_true_eq] at c
    obtain ⟨⟨⟨c1, c2⟩, c3⟩, c4⟩ := c
    have c1 := Nat.le_of_ble_eq_true c1
    have c4 := Nat.le_of_ble_eq_true c4
    obtain ⟨a, xs, rfl, ha, hr⟩ := hd.tup
    cases he.int
    have hl := hr.length
    exact op_repT pins s σ H _ _ v u Q I rx ry ⟨a, _, xs, rfl, rfl, ha, fun z => by subst z; cases hr; simp at c1, c2, c3, by omega, put_tup (hr.rep _) q⟩
  · cases hf
theorem op_pDiv : OpR X (binaryOp .FloorDiv) (rOp X.K pDiv) := by
  intro pins s σ H x y v u Q I rx ry h
  obtain ⟨P, d, e, r, hp, hd, he, hf, q⟩ := h
  unfold pDiv at hf
  split at hf
  · obtain ⟨c, rfl⟩ := of_if hf
    unfold divOk at c
    simp only [Bool.and_eq_true, decide_eq_true_eq] at c
    cases hd.int; cases he.int
    exact op_fdivW pins s σ H _ _ v u Q I rx ry ⟨_, _, rfl, rfl, ⟨c.1, Nat.le_of_ble_eq_true c.2⟩, q _ _ (Same.refl H) (.int _)⟩
  · cases hf
theorem op_pMod : OpR X (binaryOp .Mod) (rOp X.K pMod) := by
  intro pins s σ H x y v u Q I rx ry h
  obtain ⟨P, d, e, r, hp, hd, he, hf, q⟩ := h
  unfold pMod at hf
  split at hf
  · obtain ⟨c, rfl⟩ := of_if hf
    cases hd.int; cases he.int
    exact op_mod pins s σ H _ _ v u Q I rx ry ⟨_, _, rfl, rfl, of_decide_eq_true c, q _ _ (Same.refl H) (.int _)⟩
  · cases hf
theorem op_pPow : OpR X (binaryOp .Pow) (rOp X.K pPow) := by
  intro pins s σ H x y v u Q I rx ry h
  obtain ⟨P, d, e, r, hp, hd, he, hf, q⟩ := h
  unfold pPow at hf
  split at hf
  · obtain ⟨c, rfl⟩ := of_if hf
    simp only [Bool.and_eq_true, decide_eq_true_eq] at c
    obtain ⟨⟨c1, c2⟩, c3⟩ := c
    have c3 := Nat.le_of_ble_eq_true c3
    cases hd.int; cases he.int
    exact op_pow pins s σ H _ _ v u Q I rx ry ⟨_, _, rfl, rfl, ⟨c1, by omega, by omega⟩, q _ _ (Same.refl H) (.int _)⟩
  · cases hf
theorem op_of {op : Operator} {f : PyData → PyData → Option PyData} (h : pOp op = some f) : OpR X (binaryOp op) (rOp X.K f) := by
  cases op <;> first | cases h
  · exact op_pAdd
  · exact op_pSub
  · exact op_pMul
  · exact op_pMod
  · exact op_pPow
  · exact op_pDiv
theorem anyEqv_any (d : PyData) : ∀ zs : List PyData, anyEqv d zs = zs.any fun z => PyData.eqv z d
  | [] => rfl
  | z :: zs => by unfold anyEqv; rw [anyEqv_any d zs, List.any_cons]
theorem cm_eq (hu : X.A.units + 64 < cLine) : OpR X (compareOp .Eq) (rCm X.K pEq) := by
  intro pins s σ H x y v u Q I rx ry h
  obtain ⟨P, d, e, r, hd, he, hf, q⟩ := h
  obtain ⟨c, rfl⟩ := of_if hf
  rw [Bool.and_eq_true] at c
  exact op_eqD hu pins s σ H x y v u Q I rx ry ⟨d, e, hd.dp, he.dp, c.1, c.2, q⟩
theorem cm_ne (hu : X.A.units + 64 < cLine) : OpR X (compareOp .NotEq) (rCm X.K pNe) := by
  intro pins s σ H x y v u Q I rx ry h
  obtain ⟨P, d, e, r, hd, he, hf, q⟩ := h
  unfold pNe at hf
  obtain ⟨b, hb, rfl⟩ := Option.map_eq_some_iff.mp hf
  obtain ⟨c, rfl⟩ := of_if hb
  rw [Bool.and_eq_true] at c
  exact op_neD hu pins s σ H x y v u Q I rx ry ⟨d, e, hd.dp, he.dp, c.1, c.2, q⟩
theorem cm_lt : OpR X (compareOp .Lt) (rCm X.K pLt) := by
  intro pins s σ H x y v u Q I rx ry h
  obtain ⟨P, d, e, r, hd, he, hf, q⟩ := h
  unfold pLt at hf
  split at hf
  · cases hf; cases hd.int; cases he.int
    exact op_lt pins s σ H _ _ v u Q I rx ry ⟨_, _, rfl, rfl, q⟩
  · cases hf; cases hd.str; cases he.str
    exact op_lt_str pins s σ H _ _ v u Q I rx ry ⟨_, _, rfl, rfl, q⟩
  · cases hf
theorem cm_le : OpR X (compareOp .LtE) (rCm X.K pLe) := by
  intro pins s σ H x y v u Q I rx ry h
  obtain ⟨P, d, e, r, hd, he, hf, q⟩ := h
  unfold pLe at hf
  split at hf
  · cases hf; cases hd.int; cases he.int
    exact op_le pins s σ H _ _ v u Q I rx ry ⟨_, _, rfl, rfl, q⟩
  · cases hf
theorem cm_gt : OpR X (compareOp .Gt) (rCm X.K pGt) := by
  intro pins s σ H x y v u Q I rx ry h
  obtain ⟨P, d, e, r, hd, he, hf, q⟩ := h
  unfold pGt at hf
  split at hf
  · cases hf; cases hd.int; cases he.int
    exact op_gt pins s σ H _ _ v u Q I rx ry ⟨_, _, rfl, rfl, q⟩
  · cases hf
theorem cm_ge : OpR X (compareOp .GtE) (rCm X.K pGe) := by
  intro pins s σ H x y v u Q I rx ry h
  obtain ⟨P, d, e, r, hd, he, hf, q⟩ := h
  unfold pGe at hf
  split at hf
  · cases hf; cases hd.int; cases he.int
    exact op_ge pins s σ H _ _ v u Q I rx ry ⟨_, _, rfl, rfl, q⟩
  · cases hf
theorem RD.none_iff {K : PySem.W.Frag} {H : Hp} {P : AP'} {v : V} {d : PyData} (h : RD K H P v d) : decide (v = V.non) = isNone d := by
  cases h with
  | dat r => cases r <;> rfl
  | loc h r => rfl
theorem cm_is : OpR X (compareOp .Is) (rCm X.K pIs) := by
  intro pins s σ H x y v u Q I rx ry h
  obtain ⟨P, d, e, r, hd, he, hf, q⟩ := h
  unfold pIs at hf
  split at hf
  · cases hf
    cases he.non
    exact op_isN pins s σ H _ _ v u Q I rx ry ⟨rfl, by rw [hd.none_iff]; exact q⟩
  · cases hf
    cases hd.bool; cases he.bool
    rename_i a b
    refine op_isBl pins s σ H _ _ v u Q I rx ry ⟨a, b, rfl, rfl, ?_⟩
    have e : decide (a = b) = (a == b) := by cases a <;> cases b <;> rfl
    rw [e]; exact q
  · cases hf
theorem cm_isNot : OpR X (compareOp .IsNot) (rCm X.K pIsNot) := by
  intro pins s σ H x y v u Q I rx ry h
  obtain ⟨P, d, e, r, hd, he, hf, q⟩ := h
  unfold pIsNot at hf
  obtain ⟨b, hb, rfl⟩ := Option.map_eq_some_iff.mp hf
  unfold pIs at hb
  split at hb
  · cases hb
    cases he.non
    exact op_notN pins s σ H _ _ v u Q I rx ry ⟨rfl, by rw [hd.none_iff]; exact q⟩
  · cases hb
    cases hd.bool; cases he.bool
    rename_i a b
    refine op_notBl pins s σ H _ _ v u Q I rx ry ⟨a, b, rfl, rfl, ?_⟩
    have e : decide (a = b) = (a == b) := by cases a <;> cases b <;> rfl
    rw [e]; exact q
  · cases hb
/-- in, not in a tuple of data -/
theorem in_tup {neg : Bool} {pins : List (Addr × Obj)} {s : Shared} {σ : L2.St} {H : Hp} {x y : V} {v u : Value} {Q : VK} {d : PyData} {zs : List PyData} (hu : X.A.units + 65 < cLine) (I : Inv X pins σ H s) (rx : RelV x v) (ry : RelV y u)
    (hd : Dp X.K H x d) (he : Dp X.K H y (.tuple zs)) (c1 : SeqAt.shaped d = true) (c2 : SeqAt.shaped (.tuple zs) = true) (q : Q (.bl (if neg then !zs.any (fun z => PyData.eqv z d) else zs.any fun z => PyData.eqv z d)) H) :
    wpAny (model X.prog X.w) X.A (compareOp (if neg then .NotIn else .In) v u) (EP X pins σ Q) X.xe s := by
  obtain ⟨ks, m1⟩ := Dp.reads I d x v hd rx
  obtain ⟨ls, m2⟩ := Dp.reads I (.tuple zs) y u he ry
  have hroom := room_in_shaped c1 hu (xs := zs)
  cases neg with
  | false => exact SeqAt.in_tuple_reads m2 m1 (SeqAt.canLay_of_shaped c2) (SeqAt.canLay_of_shaped c1) hroom ⟨.bl _, H, I, rfl, q⟩
  | true => exact SeqAt.notIn_tuple_reads m2 m1 (SeqAt.canLay_of_shaped c2) (SeqAt.canLay_of_shaped c1) hroom ⟨.bl _, H, I, rfl, q⟩
theorem cm_in (hu : X.A.units + 65 < cLine) : OpR X (compareOp .In) (rCm X.K pIn) := by
  intro pins s σ H x y v u Q I rx ry h
  obtain ⟨P, d, e, r, hd, he, hf, q⟩ := h
  unfold pIn at hf
  split at hf
  · obtain ⟨c, rfl⟩ := of_if hf
    rw [Bool.and_eq_true] at c
    rw [anyEqv_any] at q
    exact op_inD hu pins s σ H x y v u Q I rx ry ⟨d, _, hd.dp, he.dp, c.1, c.2, q⟩
  · obtain ⟨c, rfl⟩ := of_if hf
    rw [Bool.and_eq_true] at c
    rw [anyEqv_any] at q
    exact in_tup (neg := false) hu I rx ry hd.dp he.dp c.1 c.2 q
  · cases hf
theorem cm_notIn (hu : X.A.units + 65 < cLine) : OpR X (compareOp .NotIn) (rCm X.K pNotIn) := by
  intro pins s σ H x y v u Q I rx ry h
  obtain ⟨P, d, e, r, hd, he, hf, q⟩ := h
  unfold pNotIn at hf
  obtain ⟨b, hb, rfl⟩ := Option.map_eq_some_iff.mp hf
  unfold pIn at hb
  split at hb
  · obtain ⟨c, rfl⟩ := of_if hb
    rw [Bool.and_eq_true] at c
    rw [anyEqv_any] at q
    exact op_notInD hu pins s σ H x y v u Q I rx ry ⟨d, _, hd.dp, he.dp, c.1, c.2, q⟩
  · obtain ⟨c, rfl⟩ := of_if hb
    rw [Bool.and_eq_true] at c
    rw [anyEqv_any] at q
    exact in_tup (neg := true) hu I rx ry hd.dp he.dp c.1 c.2 q
  · cases hb
theorem cm_of (hu : X.A.units + 65 < cLine) (op : CmpOp) : OpR X (compareOp op) (rCm X.K (pCmp op)) := by
  cases op
  · exact cm_eq (by omega)
  · exact cm_ne (by omega)
  · exact cm_lt
  · exact cm_le
  · exact cm_gt
  · exact cm_ge
  · exact cm_is
  · exact cm_isNot
  · exact cm_in hu
  · exact cm_notIn hu
end

/-! ### the combinators -/
section
variable {X : Cx} {a b c : Expr} {rest : List Expr} {ma mb mc : ME} {pos : Pos}
theorem okD_ok {o : Option PyData} {s s' : Sto} {v : Vl} (h : okD o s = .ok v s') : ∃ d, o = some d ∧ v = .dat d ∧ s' = s := by
  cases o with
  | none => cases h
  | some d => cases h; exact ⟨d, rfl, rfl, rfl⟩
theorem okB_ok {o : Option Bool} {s s' : Sto} {v : Vl} (h : okB o s = .ok v s') : ∃ d, o = some d ∧ v = .dat (.bool d) ∧ s' = s := by
  cases o with
  | none => cases h
  | some d => cases h; exact ⟨d, rfl, rfl, rfl⟩
theorem xp_cst {e : Expr} {v : V} {d : PyData} (h : PE X e (tC v)) (r : ∀ H P, Rp X.K H P v d) : PE X e (rdE X.K (eCst d)) :=
  PE.mono h fun σ H Q ⟨ι, P, env, st, A, w, st', e, q⟩ => by
    cases e
    exact q _ _ (ExtP.refl _ _) A.s (.dat (r _ _))
theorem xp_var {i : Nat} {e : Expr} (h : PE X e (tVar i)) : PE X e (rdE X.K (eVar i)) :=
  PE.mono h fun σ H Q ⟨ι, P, env, st, A, w, st', e, q⟩ => by
    unfold eVar at e
    split at e
    · rename_i v hv
      cases e
      obtain ⟨u, h1, h2⟩ := A.e.at_ i _ hv
      exact ⟨u, h1, q _ _ (ExtP.refl _ _) A.s h2⟩
    · cases e
/-- a step behind an expression -/
theorem rdE.bind {K : PySem.W.Frag} {ι : List Addr} {P : AP'} {env : Env} {st st1 : Sto} {σ : L2.St} {H : Hp} {Q : VK} {m : ME} {v : Vl} (A : At K H P ι σ env st) (e : m env st = .ok v st1)
    (h : ∀ u H', Ext ι H H' → At K H' P ι σ env st1 → RV K H' P ι u v → Q u H') : rdE K m σ H Q :=
  ⟨ι, P, env, st, A, v, st1, e, fun u H' x r w => h u H' x (A.next x r) w⟩
theorem xp_e2 {op : Operator} {f : PyData → PyData → Option PyData} (ho : OpR X (binaryOp op) (rOp X.K f)) (ha : PE X a (rdE X.K ma)) (hb : PE X b (rdE X.K mb)) : PE X (.BinOp a op b pos) (rdE X.K (e2 f ma mb)) :=
  PE.mono (pe_op ho ha hb) fun σ H Q ⟨ι, P, env, st, A, w, st', e, q⟩ => by
    obtain ⟨x, s1, h1, e⟩ := bind_ok e
    obtain ⟨y, s2, h2, e⟩ := bind_ok e
    split at e
    · rename_i d g hd hg
      obtain ⟨r, hr, rfl, rfl⟩ := okD_ok e
      refine rdE.bind A h1 fun u H1 x1 A1 r1 => rdE.bind A1 h2 fun t H2 x2 A2 r2 => ?_
      exact ⟨P, d, g, r, A2.s.pthere, (r1.ext (A1.s.extP x2)).rd A2.s hd, r2.rd A2.s hg, hr, fun z H3 sm rp => q z H3 ((x1.trans x2).trans (.same sm)) (A2.s.same sm) (.dat rp)⟩
    · cases e
theorem xp_cmp {op : CmpOp} {f : PyData → PyData → Option Bool} (ho : OpR X (compareOp op) (rCm X.K f)) (ha : PE X a (rdE X.K ma)) (hb : PE X b (rdE X.K mb)) (hm : behindInMarks op b = false) : PE X (.Compare a [op] [b] pos) (rdE X.K (eCmp f ma mb)) :=
  PE.mono (pe_cmpR ho ha hb hm) fun σ H Q ⟨ι, P, env, st, A, w, st', e, q⟩ => by
    obtain ⟨x, s1, h1, e⟩ := bind_ok e
    obtain ⟨y, s2, h2, e⟩ := bind_ok e
    split at e
    · rename_i d g hd hg
      obtain ⟨r, hr, rfl, rfl⟩ := okB_ok e
      refine rdE.bind A h1 fun u H1 x1 A1 r1 => rdE.bind A1 h2 fun t H2 x2 A2 r2 => ?_
      exact ⟨P, d, g, r, (r1.ext (A1.s.extP x2)).rd A2.s hd, r2.rd A2.s hg, hr, q _ _ (x1.trans x2) A2.s (.dat (.bl r))⟩
    · cases e
/-- as a test -/
theorem xt_cmp {op : CmpOp} {f : PyData → PyData → Option Bool} (ho : OpR X (compareOp op) (rCm X.K f)) (ha : PE X a (rdE X.K ma)) (hb : PE X b (rdE X.K mb)) (hm : behindInMarks op b = false) : PT X (.Compare a [op] [b] pos) (rdT X.K (tOf (eCmp f ma mb))) :=
  PT.mono (pt_cmpR ho ha hb hm) fun σ H Q ⟨ι, P, env, st, A, w, st', e, q⟩ => by
    obtain ⟨z, s0, e, e0⟩ := bind_ok e
    obtain ⟨x, s1, h1, e⟩ := bind_ok e
    obtain ⟨y, s2, h2, e⟩ := bind_ok e
    split at e
    · rename_i d g hd hg
      obtain ⟨r, hr, rfl, rfl⟩ := okB_ok e
      cases e0
      refine rdE.bind A h1 fun u H1 x1 A1 r1 => rdE.bind A1 h2 fun t H2 x2 A2 r2 => ?_
      exact ⟨P, d, g, _, (r1.ext (A1.s.extP x2)).rd A2.s hd, r2.rd A2.s hg, hr, _, rfl, q _ (x1.trans x2) A2.s⟩
    · cases e
theorem tOf_ok {m : ME} {env : Env} {s s' : Sto} {b : Bool} (h : tOf m env s = .ok b s') : m env s = .ok (.dat (.bool b)) s' := by
  obtain ⟨x, s1, h1, e⟩ := bind_ok h
  split at e
  · cases e; exact h1
  · cases e
theorem RV.bool {K : PySem.W.Frag} {H : Hp} {P : AP'} {ι : List Addr} {v : V} {b : Bool} (h : RV K H P ι v (.dat (.bool b))) : v = .bl b := by
  cases h with
  | dat r => cases r; rfl
/-- a plain expression as a test -/
theorem xt_plain {e : Expr} (h : PE X e (rdE X.K ma)) (he : ∀ whole, isTrue e X.env whole = (do let v ← whole; standAt e.pos; holding [v] (truthy v))) : PT X e (rdT X.K (tOf ma)) :=
  PT.mono (pt_val h he) fun σ H Q ⟨ι, P, env, st, A, w, st', e, q⟩ => by
    refine rdE.bind A (tOf_ok e) fun u H1 x1 A1 r1 => ⟨w, r1.bool, q _ x1 A1.s⟩
theorem xp_and (ha : PE X a (rdE X.K ma)) (hb : PE X (.BoolOp .And (b :: rest) pos) (rdE X.K mb)) : PE X (.BoolOp .And (a :: b :: rest) pos) (rdE X.K (eAnd ma mb)) :=
  PE.mono (pe_and ha hb) fun σ H Q ⟨ι, P, env, st, A, w, st', e, q⟩ => by
    obtain ⟨k, s1, h1, e⟩ := bind_ok e
    refine rdE.bind A (tOf_ok h1) fun u H1 x1 A1 r1 => ⟨k, r1.bool, ?_⟩
    cases k with
    | true => exact rdE.bind A1 e fun t H2 x2 A2 r2 => q t H2 (x1.trans x2) A2.s r2
    | false =>
      cases e
      exact q _ _ x1 A1.s (.dat (.bl false))
theorem xp_or (ha : PE X a (rdE X.K ma)) (hb : PE X (.BoolOp .Or (b :: rest) pos) (rdE X.K mb)) : PE X (.BoolOp .Or (a :: b :: rest) pos) (rdE X.K (eOr ma mb)) :=
  PE.mono (pe_or ha hb) fun σ H Q ⟨ι, P, env, st, A, w, st', e, q⟩ => by
    obtain ⟨k, s1, h1, e⟩ := bind_ok e
    refine rdE.bind A (tOf_ok h1) fun u H1 x1 A1 r1 => ⟨k, r1.bool, ?_⟩
    cases k with
    | false => exact rdE.bind A1 e fun t H2 x2 A2 r2 => q t H2 (x1.trans x2) A2.s r2
    | true =>
      cases e
      exact q _ _ x1 A1.s (.dat (.bl true))
theorem xp_not (ha : PE X a (rdE X.K ma)) : PE X (.UnaryOp .Not a pos) (rdE X.K (eNot ma)) :=
  PE.mono (pe_not ha) fun σ H Q ⟨ι, P, env, st, A, w, st', e, q⟩ => by
    obtain ⟨k, s1, h1, e⟩ := bind_ok e
    cases e
    exact rdE.bind A (tOf_ok h1) fun u H1 x1 A1 r1 => ⟨k, r1.bool, q _ _ x1 A1.s (.dat (.bl _))⟩
theorem rdT.bind {K : PySem.W.Frag} {ι : List Addr} {P : AP'} {env : Env} {st st1 : Sto} {σ : L2.St} {H : Hp} {Q : Bool → Hp → Prop} {m : MT} {v : Bool} (A : At K H P ι σ env st) (e : m env st = .ok v st1)
    (h : ∀ H', Ext ι H H' → At K H' P ι σ env st1 → Q v H') : rdT K m σ H Q :=
  ⟨ι, P, env, st, A, v, st1, e, fun H' x r => h H' x (A.next x r)⟩
theorem xt_not (ha : PT X a (rdT X.K (tOf ma))) : PT X (.UnaryOp .Not a pos) (rdT X.K (tOf (eNot ma))) :=
  PT.mono (pt_not ha) fun σ H Q ⟨ι, P, env, st, A, w, st', e, q⟩ => by
    obtain ⟨k, s1, h1, e⟩ := bind_ok (tOf_ok e)
    cases e
    exact rdT.bind A h1 fun H1 x1 A1 => q _ x1 A1.s
theorem xw_one {op : BoolOp} (ha : PT X a (rdT X.K (tOf ma))) : PW X (.BoolOp op [a] pos) (rdT X.K (tOf ma)) := by
  cases op
  · exact pw_and1 ha
  · exact pw_or1 ha
theorem xw_and (ha : PT X a (rdT X.K (tOf ma))) (hb : PW X (.BoolOp .And (b :: rest) pos) (rdT X.K (tOf mb))) : PW X (.BoolOp .And (a :: b :: rest) pos) (rdT X.K (tOf (eAnd ma mb))) :=
  PW.mono (pw_and ha hb) fun σ H Q ⟨ι, P, env, st, A, w, st', e, q⟩ => by
    obtain ⟨k, s1, h1, e⟩ := bind_ok (tOf_ok e)
    refine rdT.bind A h1 fun H1 x1 A1 => ?_
    cases k with
    | true =>
      rw [if_pos rfl]
      refine rdT.bind (st1 := st') (v := w) A1 ?_ fun H2 x2 A2 => q H2 (x1.trans x2) A2.s
      show (mb env s1).bind _ = _
      have e' : mb env s1 = .ok (.dat (.bool w)) st' := e
      rw [e']; rfl
    | false =>
      cases e
      exact q _ x1 A1.s
theorem xw_or (ha : PT X a (rdT X.K (tOf ma))) (hb : PW X (.BoolOp .Or (b :: rest) pos) (rdT X.K (tOf mb))) : PW X (.BoolOp .Or (a :: b :: rest) pos) (rdT X.K (tOf (eOr ma mb))) :=
  PW.mono (pw_or ha hb) fun σ H Q ⟨ι, P, env, st, A, w, st', e, q⟩ => by
    obtain ⟨k, s1, h1, e⟩ := bind_ok (tOf_ok e)
    refine rdT.bind A h1 fun H1 x1 A1 => ?_
    cases k with
    | false =>
      rw [if_neg Bool.false_ne_true]
      refine rdT.bind (st1 := st') (v := w) A1 ?_ fun H2 x2 A2 => q H2 (x1.trans x2) A2.s
      show (mb env s1).bind _ = _
      have e' : mb env s1 = .ok (.dat (.bool w)) st' := e
      rw [e']; rfl
    | true =>
      cases e
      exact q _ x1 A1.s
theorem xp_ife {c : Expr} (hc : PT X c (rdT X.K (tOf mc))) (ha : PE X a (rdE X.K ma)) (hb : PE X b (rdE X.K mb)) : PE X (.IfExp c a b pos) (rdE X.K (eIf mc ma mb)) :=
  PE.mono (pe_ifExp hc ha hb) fun σ H Q ⟨ι, P, env, st, A, w, st', e, q⟩ => by
    obtain ⟨k, s1, h1, e⟩ := bind_ok e
    refine rdT.bind A h1 fun H1 x1 A1 => ?_
    cases k with
    | true => exact rdE.bind A1 e fun t H2 x2 A2 r2 => q t H2 (x1.trans x2) A2.s r2
    | false => exact rdE.bind A1 e fun t H2 x2 A2 r2 => q t H2 (x1.trans x2) A2.s r2
theorem xp_neg (ha : PE X a (rdE X.K ma)) : PE X (.UnaryOp .USub a pos) (rdE X.K (e1 pNeg ma)) :=
  PE.mono (pe_un un_neg ha) fun σ H Q ⟨ι, P, env, st, A, w, st', e, q⟩ => by
    obtain ⟨x, s1, h1, e⟩ := bind_ok (noX_ok e)
    split at e
    · rename_i d hd
      obtain ⟨r, hr, rfl, rfl⟩ := okD_ok e
      refine rdE.bind A h1 fun u H1 x1 A1 r1 => ?_
      unfold pNeg at hr
      split at hr
      · cases hr
        cases (r1.rd A1.s hd).int
        exact ⟨_, rfl, q _ _ x1 A1.s (.dat (.int _))⟩
      · cases hr
    · cases e
end
end Ev
/-! EvSeq: rules of displays, calls, subscripts, built-ins over the combinators. -/
namespace Ev
open PySem PySem.Spec PyProof.Rows L2

/-! ### argument lists -/
def noStar : Expr → Bool
  | .Starred _ _ => false
  | _ => true
theorem star_cons {e : Expr} {es : List Expr} {env : PySem.Env} (h : noStar e = true) : starEach (e :: es) env = (false, eval e env) :: starEach es env := by
  cases e <;> first | rfl | cases h
theorem star_none {env : PySem.Env} {pos : Pos} : ∀ {es : List Expr}, es.all noStar = true → (backTo pos (starEach es env)).any (·.1) = false
  | [], _ => rfl
  | e :: es, h => by
    rw [List.all_cons, Bool.and_eq_true] at h
    rw [star_cons h.1]
    show (false || (backTo pos (starEach es env)).any (·.1)) = false
    rw [star_none h.2]; rfl
section
variable {K : PySem.W.Frag} {H H' : Hp} {P : AP'} {ι : List Addr}
theorem pairedRV_ext (e : ExtP P H H') : ∀ {us : List V} {vs : List Vl}, Paired (RV K H P ι) us vs → Paired (RV K H' P ι) us vs
  | _, _, .nil => .nil
  | _, _, .cons r t => .cons (r.ext e) (pairedRV_ext e t)
theorem dats_rp : ∀ {us : List V} {vs : List Vl} {ds : List PyData}, Paired (RV K H P ι) us vs → dats vs = some ds → RpAll K H P us ds
  | _, _, _, .nil, e => by cases e; exact .nil
  | _, _, _, .cons r t, e => by
    cases r with
    | dat q =>
      unfold dats at e
      split at e
      · rename_i ds' h
        cases e
        exact .cons q (dats_rp t h)
      · cases e
    | loc q => cases e
    | scr q _ => cases e
theorem derefs_rd {st : Sto} (r : RS K H P ι st) : ∀ {us : List V} {vs : List Vl} {ds : List PyData}, Paired (RV K H P ι) us vs → eBlt.derefs st vs = some ds → Paired (RD K H P) us ds
  | _, _, _, .nil, e => by cases e; exact .nil
  | _, _, _, .cons q t, e => by
    unfold eBlt.derefs at e
    split at e
    · rename_i d ds' h1 h2
      cases e
      exact .cons (q.rd r h1) (derefs_rd r t h2)
    · cases e
theorem paired_append {α β : Type} {R : α → β → Prop} : ∀ {a : List α} {b : List β} {c : List α} {d : List β}, Paired R a b → Paired R c d → Paired R (a ++ c) (b ++ d)
  | _, _, _, _, .nil, s => s
  | _, _, _, _, .cons r t, s => .cons r (paired_append t s)
theorem rp_vals : ∀ {us : List V} {ds : List PyData}, RpAll K H P us ds → Paired (RV K H P ι) us (ds.map .dat)
  | _, _, .nil => .nil
  | _, _, .cons r t => .cons (.dat r) (rp_vals t)
end
section
variable {X : Cx} {a b c e : Expr} {es : List Expr} {ma mb mc : ME} {m : MA} {pos p : Pos}
theorem rdA.bind {K : PySem.W.Frag} {ι : List Addr} {P : AP'} {env : Env} {st st1 : Sto} {σ : L2.St} {H : Hp} {Q : List V → Hp → Prop} {m : MA} {v : List Vl} (A : At K H P ι σ env st) (e : m env st = .ok v st1)
    (h : ∀ u H', Ext ι H H' → At K H' P ι σ env st1 → Paired (RV K H' P ι) u v → Q u H') : rdA K m σ H Q :=
  ⟨ι, P, env, st, A, v, st1, e, fun u H' x r w => h u H' x (A.next x r) w⟩
theorem xa_nil : PA X [] (rdA X.K aNil) :=
  PA.mono pa_nil fun σ H Q ⟨ι, P, env, st, A, w, st', e, q⟩ => by
    cases e
    exact q _ _ (ExtP.refl _ _) A.s .nil
theorem xa_cons (ha : PE X a (rdE X.K ma)) (hr : PA X es (rdA X.K m)) (hs : noStar a = true) : PA X (a :: es) (rdA X.K (aCons ma m)) :=
  PA.mono (pa_cons ha hr (star_cons hs)) fun σ H Q ⟨ι, P, env, st, A, w, st', e, q⟩ => by
    obtain ⟨x, s1, h1, e⟩ := bind_ok e
    obtain ⟨y, s2, h2, e⟩ := bind_ok e
    cases e
    refine rdE.bind A h1 fun u H1 x1 A1 r1 => rdA.bind A1 h2 fun t H2 x2 A2 r2 => ?_
    exact q _ _ (x1.trans x2) A2.s (.cons (r1.ext (A1.s.extP x2)) r2)
theorem xa_star (ha : PE X a (rdE X.K ma)) (hr : PA X es (rdA X.K m)) : PA X (.Starred a p :: es) (rdA X.K (aStar ma m)) :=
  PA.mono (StX.pa_star ha hr) fun σ H Q ⟨ι, P, env, st, A, w, st', e, q⟩ => by
    obtain ⟨x, s1, h1, e⟩ := bind_ok (noX_ok e)
    split at e
    · obtain ⟨y, s2, h2, e⟩ := bind_ok e
      cases e
      refine rdE.bind A h1 fun u H1 x1 A1 r1 => ?_
      cases r1 with
      | dat r1 =>
        cases r1 with
        | lst g1 g2 g3 =>
          refine ⟨_, _, rfl, .inr (SqL.of g1), rdA.bind A1 h2 fun t H2 x2 A2 r2 => ?_⟩
          exact q _ _ (x1.trans x2) A2.s (paired_append (rp_vals (g3.ext (A1.s.extP x2))) r2)
    · obtain ⟨y, s2, h2, e⟩ := bind_ok e
      cases e
      refine rdE.bind A h1 fun u H1 x1 A1 r1 => ?_
      cases r1 with
      | dat r1 =>
        cases r1 with
        | tup g1 g3 =>
          refine ⟨_, _, rfl, .inl g1, rdA.bind A1 h2 fun t H2 x2 A2 r2 => ?_⟩
          exact q _ _ (x1.trans x2) A2.s (paired_append (rp_vals (g3.ext (A1.s.extP x2))) r2)
    · cases e
end

/-! ### displays -/
/-- a new list: its place is told -/
def rdF (K : PySem.W.Frag) (m : ME) : TE := fun σ H Q => ∃ ι P env st, At K H P ι σ env st ∧ ∃ ds st', m env st = .ok (.dat (.list ds)) st' ∧
  ∀ a H' xs, H a = none → Ext ι H H' → RS K H' (Pl P a) ι st' → H' a = some (.lst xs) → RpAll K H' (Pl P a) xs ds → Q (.ref a) H'
theorem rdF_of {K : PySem.W.Frag} {m : ME} (hm : ∀ env st v st', m env st = .ok v st' → ∃ ds, v = .dat (.list ds)) {σ : L2.St} {H : Hp} {Q : VK} (h : rdE K m σ H Q) : rdF K m σ H Q := by
  obtain ⟨ι, P, env, st, A, v, st', e, q⟩ := h
  obtain ⟨ds, rfl⟩ := hm _ _ _ _ e
  exact ⟨ι, P, env, st, A, ds, st', e, fun a H' xs hn x r h1 h2 => q _ _ x (r.less A.s.pin) (.dat (.lst h1 (fun z => A.s.pthere a z hn) (h2.toP (P' := P) (fun y hy => .inl (.inl hy)) _ _)))⟩
section
variable {X : Cx} {a b c e : Expr} {es : List Expr} {ma mb mc : ME} {m : MA} {pos p : Pos}
theorem of_ifOk {α : Type} {c : Bool} {a r : α} {s s' : Sto} (h : (if c = true then Out.ok a s else .bad) = .ok r s') : c = true ∧ r = a ∧ s' = s := by
  cases c with
  | true => cases h; exact ⟨rfl, rfl, rfl⟩
  | false => cases h
theorem le_line {n : Nat} (h : Nat.ble n line = true) : n ≤ sizeLine := by rw [← line_eq]; exact Nat.le_of_ble_eq_true h
theorem xp_tup {k : Nat} (h : PA X es (rdA X.K m)) : PE X (.Tuple es k pos) (rdE X.K (eTup m)) :=
  PE.mono (pe_tup h) fun σ H Q ⟨ι, P, env, st, A, w, st', e, q⟩ => by
    obtain ⟨xs, s1, h1, e⟩ := bind_ok e
    split at e
    · rename_i ds hd
      obtain ⟨c, rfl, rfl⟩ := of_ifOk e
      refine rdA.bind A h1 fun u H1 x1 A1 r1 => ?_
      have r := dats_rp r1 hd
      exact ⟨by rw [r.length]; exact le_line c, put_tup r fun z H2 sm rp => q z H2 (x1.trans (.same sm)) (A1.s.same sm) (.dat rp)⟩
    · cases e
theorem none_back {K : PySem.W.Frag} {H H' : Hp} {P : AP'} {ι : List Addr} {st : Sto} (r : RS K H P ι st) (x : Ext ι H H') {p : Addr} (h : H' p = none) (h2 : ∀ a, P a → H' a ≠ none) : H p = none := by
  cases z : H p with
  | none => rfl
  | some o =>
    by_cases y : p ∈ ι
    · exact absurd h (h2 p (r.pin p y))
    · rw [x p o z (.inl y)] at h; cases h
theorem xf_lst (h : PA X es (rdA X.K m)) : PE X (.List es pos) (rdF X.K (eLst m)) :=
  PE.mono (pe_lst h) fun σ H Q ⟨ι, P, env, st, A, ds, st', e, q⟩ => by
    obtain ⟨xs, s1, h1, e⟩ := bind_ok (noX_ok e)
    split at e
    · rename_i ds' hd
      obtain ⟨c, hc, rfl⟩ := of_ifOk e
      cases hc
      refine rdA.bind A h1 fun u H1 x1 A1 r1 => ?_
      have r := dats_rp r1 hd
      refine ⟨by rw [r.length]; exact le_line c, fun p hp => ?_⟩
      have hn : H p = none := none_back A.s x1 hp A1.s.pthere
      refine q p _ _ hn (x1.trans (.same (same_upd hp))) (A1.s.add hp) upd_same ?_
      exact (r.toP (fun y hy => hy.elim .inl fun z => .inr (by rw [z]; exact hp)) _ _).ext (.same (same_upd hp)) _ _
    · cases e
theorem eLst_lst {m : MA} : ∀ env st v st', eLst m env st = .ok v st' → ∃ ds, v = .dat (.list ds) := fun env st v st' e => by
  obtain ⟨xs, s1, h1, e⟩ := bind_ok (noX_ok e)
  split at e
  · obtain ⟨_, rfl, _⟩ := of_ifOk e
    exact ⟨_, rfl⟩
  · cases e
theorem xp_lst (h : PA X es (rdA X.K m)) : PE X (.List es pos) (rdE X.K (eLst m)) := PE.mono (xf_lst h) fun _ _ _ => rdF_of eLst_lst

/-! ### subscripts -/
theorem ix_get {xs : List PyData} {i : Int} {d : PyData} (h : ((ixN xs.length i).bind fun j => xs[j]?) = some d) : atI xs i = some d := h
theorem atI_rp {K : PySem.W.Frag} {H : Hp} {P : AP'} {vs : List V} {ds : List PyData} {i : Int} {d : PyData} (r : RpAll K H P vs ds) (h : atI ds i = some d) : ∃ v, atI vs i = some v ∧ Rp K H P v d := by
  unfold atI at h ⊢
  rw [r.length]
  cases q : ixN ds.length i with
  | none => rw [q] at h; cases h
  | some j =>
    rw [q] at h
    exact r.get h
theorem ix_of : IxR X (rOp X.K pIx) := by
  intro val slc pins s σ H x y v u Q I rx ry h pl
  obtain ⟨P, d, e, r, hp, hd, he, hf, q⟩ := h
  unfold pIx at hf
  split at hf
  · cases he.int
    obtain ⟨a, xs, rfl, ha, hr⟩ := hd.lst
    obtain ⟨z, hz, rz⟩ := atI_rp hr (ix_get hf)
    exact ix_list val slc pins s σ H _ _ v u Q I rx ry ⟨a, xs, _, z, rfl, rfl, SqL.of ha, hz, q _ _ (Same.refl H) rz⟩ pl
  · cases he.int
    obtain ⟨a, xs, rfl, ha, hr⟩ := hd.tup
    obtain ⟨z, hz, rz⟩ := atI_rp hr (ix_get hf)
    exact ix_tup val slc pins s σ H _ _ v u Q I rx ry ⟨a, xs, _, z, rfl, rfl, ha, hz, q _ _ (Same.refl H) rz⟩ pl
  · cases hf
def plainIx : Expr → Bool
  | .Slice _ _ _ _ => false
  | _ => true
theorem plainIx_ok {b : Expr} (h : plainIx b = true) : PlainIx b := fun o i => by
  cases b <;> first | rfl | cases h
theorem xp_ix (ha : PE X a (rdE X.K ma)) (hb : PE X b (rdE X.K mb)) (hs : plainIx b = true) : PE X (.Subscript a b pos) (rdE X.K (e2 pIx ma mb)) :=
  PE.mono (pe_ix ix_of ha hb (plainIx_ok hs)) fun σ H Q ⟨ι, P, env, st, A, w, st', e, q⟩ => by
    obtain ⟨x, s1, h1, e⟩ := bind_ok e
    obtain ⟨y, s2, h2, e⟩ := bind_ok e
    split at e
    · rename_i d g hd hg
      obtain ⟨r, hr, rfl, rfl⟩ := okD_ok e
      refine rdE.bind A h1 fun u H1 x1 A1 r1 => rdE.bind A1 h2 fun t H2 x2 A2 r2 => ?_
      exact ⟨P, d, g, r, A2.s.pthere, (r1.ext (A1.s.extP x2)).rd A2.s hd, r2.rd A2.s hg, hr, fun z H3 sm rp => q z H3 ((x1.trans x2).trans (.same sm)) (A2.s.same sm) (.dat rp)⟩
    · cases e
theorem cut_rp {K : PySem.W.Frag} {H : Hp} {P : AP'} {vs : List V} {ds : List PyData} (r : RpAll K H P vs ds) (lo hi : Option Int) : RpAll K H P (cutV vs lo hi) (cutL ds lo hi) := by
  unfold cutV cutL
  rw [r.length]
  exact (r.drop _).take _
def rSl (K : PySem.W.Frag) : V → Option Int → Option Int → Hp → VK → Prop := fun x lo hi H Q => ∃ P d r, (∀ a, P a → H a ≠ none) ∧ (RD K H P x d ∨ ∃ a xs ds, x = .ref a ∧ SqL K H a xs ∧ RpAll K H P xs ds ∧ d = .list ds) ∧ pSl d lo hi = some r ∧ ∀ u H', Same H H' → Rp K H' P u r → Q u H'
theorem sl_of : SlR X (rSl X.K) := by
  intro pins s σ H x v vl vu lo hi sl Q I rx hs pl pu h
  obtain ⟨P, d, r, hp, hd, hf, q⟩ := h
  unfold pSl at hf
  split at hf
  · cases hf
    rename_i zs
    have key : ∃ a xs, x = .ref a ∧ SqL X.K H a xs ∧ RpAll X.K H P xs zs := by
      rcases hd with hd | ⟨a, xs, ds, rfl, h1, h2, h3⟩
      · obtain ⟨a, xs, rfl, ha, hr⟩ := hd.lst
        exact ⟨a, xs, rfl, SqL.of ha, hr⟩
      · cases h3
        exact ⟨a, xs, rfl, h1, h2⟩
    obtain ⟨a, xs, rfl, ha, hr⟩ := key
    exact sl_list pins s σ H _ v vl vu lo hi sl Q I rx hs pl pu ⟨a, xs, rfl, ha, put_lst hp (cut_rp hr lo hi) q⟩
  · cases hf
    rcases hd with hd | ⟨_, _, _, _, _, _, h3⟩
    · obtain ⟨a, xs, rfl, ha, hr⟩ := hd.tup
      refine sl_tupA pins s σ H _ v vl vu lo hi sl Q I rx hs pl pu ⟨a, xs, rfl, ha, fun ⟨w1, w2⟩ => ?_, fun _ => put_tup (cut_rp hr lo hi) q⟩
      have hl := hr.length
      refine q _ _ (Same.refl H) ?_
      rw [show cutL _ lo hi = _ from by
        unfold cutL
        rw [← hl, w1, w2, hl, List.drop_zero, Nat.sub_zero, List.take_length]]
      exact hd.rpT
    · cases h3
  · cases hf
def rdO (K : PySem.W.Frag) (m : MO') : TO := fun σ H Q => ∃ ι P env st, At K H P ι σ env st ∧ ∃ o st', m env st = .ok o st' ∧ ∀ H', Ext ι H H' → RS K H' P ι st' → Q o H'
theorem PO.mono {e : Option Expr} {t t' : TO} (h : PO X e t) (q : ∀ σ H Q, t' σ H Q → t σ H Q) : PO X e t' := ⟨fun pins s σ H Q I w => h.run pins s σ H Q I (q _ _ _ w)⟩
theorem rdO.bind {K : PySem.W.Frag} {ι : List Addr} {P : AP'} {env : Env} {st st1 : Sto} {σ : L2.St} {H : Hp} {Q : Option Int → Hp → Prop} {m : MO'} {v : Option Int} (A : At K H P ι σ env st) (e : m env st = .ok v st1)
    (h : ∀ H', Ext ι H H' → At K H' P ι σ env st1 → Q v H') : rdO K m σ H Q :=
  ⟨ι, P, env, st, A, v, st1, e, fun H' x r => h H' x (A.next x r)⟩
theorem xo_none : PO X none (rdO X.K oNone) :=
  PO.mono po_none fun σ H Q ⟨ι, P, env, st, A, w, st', e, q⟩ => by
    cases e
    exact q _ (ExtP.refl _ _) A.s
theorem xo_some (ha : PE X a (rdE X.K ma)) : PO X (some a) (rdO X.K (oSome ma)) :=
  PO.mono (po_some ha) fun σ H Q ⟨ι, P, env, st, A, w, st', e, q⟩ => by
    obtain ⟨x, s1, h1, e⟩ := bind_ok e
    split at e
    · cases e
      refine rdE.bind A h1 fun u H1 x1 A1 r1 => ?_
      cases r1 with
      | dat r1 =>
        cases r1
        exact ⟨_, rfl, q _ x1 A1.s⟩
    · cases e
theorem xp_sl {lo hi : Option Expr} {ml mh : MO'} {p2 : Pos} (ha : PE X a (rdE X.K ma)) (hl : PO X lo (rdO X.K ml)) (hh : PO X hi (rdO X.K mh)) : PE X (.Subscript a (.Slice lo hi none p2) pos) (rdE X.K (eSl ma ml mh)) :=
  PE.mono (pe_slice sl_of ha hl hh) fun σ H Q ⟨ι, P, env, st, A, w, st', e, q⟩ => by
    obtain ⟨x, s1, h1, e⟩ := bind_ok (noX_ok e)
    obtain ⟨l, s2, h2, e⟩ := bind_ok e
    obtain ⟨h, s3, h3, e⟩ := bind_ok e
    refine rdE.bind A h1 fun u H1 x1 A1 r1 => rdO.bind A1 h2 fun H2 x2 A2 => rdO.bind A2 h3 fun H3 x3 A3 => ?_
    have r3 := (r1.ext (A1.s.extP x2)).ext (A2.s.extP x3)
    split at e
    · obtain ⟨r, hr, rfl, rfl⟩ := okD_ok e
      cases r3 with
      | scr g1 g2 => exact ⟨P, _, r, A3.s.pthere, .inr ⟨_, _, _, rfl, g1.elim (fun ⟨o, z⟩ => .inl (.inr ⟨o, z⟩)) (fun z => z _), g2, rfl⟩, hr, fun z H4 sm rp => q z H4 (((x1.trans x2).trans x3).trans (.same sm)) (A3.s.same sm) (.dat rp)⟩
    · split at e
      · rename_i d hd
        obtain ⟨r, hr, rfl, rfl⟩ := okD_ok e
        exact ⟨P, d, r, A3.s.pthere, .inl (r3.rd A3.s hd), hr, fun z H4 sm rp => q z H4 (((x1.trans x2).trans x3).trans (.same sm)) (A3.s.same sm) (.dat rp)⟩
      · cases e
theorem xp_rev {k : Nat} {p1 p2 p3 : Pos} (ha : PE X a (rdE X.K ma)) : PE X (.Subscript a (.Slice none none (some (.UnaryOp .USub (.Constant (.int 1) k p1) p2)) p3) pos) (rdE X.K (e1 pRev ma)) :=
  PE.mono (pe_revL ha) fun σ H Q ⟨ι, P, env, st, A, w, st', e, q⟩ => by
    obtain ⟨x, s1, h1, e⟩ := bind_ok (noX_ok e)
    split at e
    · rename_i d hd
      obtain ⟨r, hr, rfl, rfl⟩ := okD_ok e
      refine rdE.bind A h1 fun u H1 x1 A1 r1 => ?_
      unfold pRev at hr
      split at hr
      · cases hr
        obtain ⟨b, xs, rfl, hb, hr⟩ := (r1.rd A1.s hd).lst
        exact ⟨b, xs, rfl, SqL.of hb, put_lst A1.s.pthere hr.reverse fun z H2 sm rp => q z H2 (x1.trans (.same sm)) (A1.s.same sm) (.dat rp)⟩
      · cases hr
    · cases e
theorem xp_chain {op op' : CmpOp} {f g : PyData → PyData → Option Bool} (ho : OpR X (compareOp op) (rCm X.K f)) (ho' : OpR X (compareOp op') (rCm X.K g)) (ha : PE X a (rdE X.K ma)) (hb : PE X b (rdE X.K mb)) (hc : PE X c (rdE X.K mc))
    (hm : lastMarks [op, op'] [b, c] = false) : PE X (.Compare a [op, op'] [b, c] pos) (rdE X.K (eChain f g ma mb mc)) :=
  PE.mono (pe_chain ho ho' ha hb hc hm) fun σ H Q ⟨ι, P, env, st, A, w, st', e, q⟩ => by
    obtain ⟨x, s1, h1, e⟩ := bind_ok (noX_ok e)
    obtain ⟨y, s2, h2, e⟩ := bind_ok e
    refine rdE.bind A h1 fun u H1 x1 A1 r1 => rdE.bind A1 h2 fun t H2 x2 A2 r2 => ?_
    split at e
    · rename_i d d' hd hd'
      split at e
      · rename_i hf
        obtain ⟨z, s3, h3, e⟩ := bind_ok e
        refine ⟨P, d, d', true, (r1.ext (A1.s.extP x2)).rd A2.s hd, r2.rd A2.s hd', hf, true, rfl, ?_⟩
        rw [if_pos rfl]
        refine rdE.bind A2 h3 fun o H3 x3 A3 r3 => ?_
        split at e
        · rename_i g1 g2 hg1 hg2
          obtain ⟨r, hr, rfl, rfl⟩ := okB_ok e
          exact ⟨P, g1, g2, r, (r2.ext (A2.s.extP x3)).rd A3.s hg1, r3.rd A3.s hg2, hr, q _ _ ((x1.trans x2).trans x3) A3.s (.dat (.bl r))⟩
        · cases e
      · rename_i hf
        cases e
        refine ⟨P, d, d', false, (r1.ext (A1.s.extP x2)).rd A2.s hd, r2.rd A2.s hd', hf, false, rfl, ?_⟩
        rw [if_neg Bool.false_ne_true]
        exact q _ _ (x1.trans x2) A2.s (.dat (.bl false))
      · cases e
    · cases e
theorem PT.of_chain {op op' : CmpOp} {f g : PyData → PyData → Option Bool} (ho : OpR X (compareOp op) (rCm X.K f)) (ho' : OpR X (compareOp op') (rCm X.K g)) (ha : PE X a (rdE X.K ma)) (hb : PE X b (rdE X.K mb)) (hc : PE X c (rdE X.K mc))
    (hm : lastMarks [op, op'] [b, c] = false) : PT X (.Compare a [op, op'] [b, c] pos) (rdT X.K (tOf (eChain f g ma mb mc))) :=
  PT.mono (pt_chain ho ho' ha hb hc hm) fun σ H Q ⟨ι, P, env, st, A, w, st', e, q⟩ => by
    have e := tOf_ok e
    obtain ⟨x, s1, h1, e⟩ := bind_ok (noX_ok e)
    obtain ⟨y, s2, h2, e⟩ := bind_ok e
    refine rdE.bind A h1 fun u H1 x1 A1 r1 => rdE.bind A1 h2 fun t H2 x2 A2 r2 => ?_
    split at e
    · rename_i d d' hd hd'
      split at e
      · rename_i hf
        obtain ⟨z, s3, h3, e⟩ := bind_ok e
        refine ⟨P, d, d', true, (r1.ext (A1.s.extP x2)).rd A2.s hd, r2.rd A2.s hd', hf, true, rfl, ?_⟩
        rw [if_pos rfl]
        refine rdE.bind A2 h3 fun o H3 x3 A3 r3 => ?_
        split at e
        · rename_i g1 g2 hg1 hg2
          obtain ⟨r, hr, hw, rfl⟩ := okB_ok e
          cases hw
          exact ⟨P, g1, g2, w, (r2.ext (A2.s.extP x3)).rd A3.s hg1, r3.rd A3.s hg2, hr, w, rfl, q _ ((x1.trans x2).trans x3) A3.s⟩
        · cases e
      · rename_i hf
        cases e
        refine ⟨P, d, d', false, (r1.ext (A1.s.extP x2)).rd A2.s hd, r2.rd A2.s hd', hf, false, rfl, ?_⟩
        rw [if_neg Bool.false_ne_true]
        exact ⟨false, rfl, q _ (x1.trans x2) A2.s⟩
      · cases e
    · cases e
end
end Ev
/-! EvBlt: built-ins, list methods, calls of defs over the combinators. -/
namespace Ev
open PySem PySem.Spec PyProof.Rows L2

def rBl (K : PySem.W.Frag) (f : List PyData → Option PyData) : List V → Hp → VK → Prop := fun vs H Q => ∃ P ds r, (∀ a, P a → H a ≠ none) ∧ Paired (RD K H P) vs ds ∧ f ds = some r ∧ ∀ u H', Same H H' → Rp K H' P u r → Q u H'
section
variable {K : PySem.W.Frag} {H : Hp} {P : AP'}
theorem rd1 {vs : List V} {d : PyData} (h : Paired (RD K H P) vs [d]) : ∃ v, vs = [v] ∧ RD K H P v d := by
  cases h with
  | cons r t => cases t; exact ⟨_, rfl, r⟩
theorem rp_bools : ∀ {ds : List PyData} {vs : List V} {b : Bool}, RpAll K H P vs ds → allB ds = some b → ∃ bs : List Bool, vs = bs.map V.bl ∧ bs.all id = b
  | [], _, _, .nil, e => by cases e; exact ⟨[], rfl, rfl⟩
  | d :: ds, _, b, .cons r t, e => by
    unfold allB at e
    split at e
    · rename_i hz; cases hz
    · rename_i c r' hd
      cases hd
      split at e
      · rename_i c' h
        cases e
        obtain ⟨bs, rfl, hb⟩ := rp_bools t h
        cases r
        exact ⟨c :: bs, rfl, by rw [List.all_cons, hb]; rfl⟩
      · cases e
    · cases e
theorem rp_boolsA : ∀ {ds : List PyData} {vs : List V} {b : Bool}, RpAll K H P vs ds → anyB ds = some b → ∃ bs : List Bool, vs = bs.map V.bl ∧ bs.any id = b
  | [], _, _, .nil, e => by cases e; exact ⟨[], rfl, rfl⟩
  | d :: ds, _, b, .cons r t, e => by
    unfold anyB at e
    split at e
    · rename_i hz; cases hz
    · rename_i c r' hd
      cases hd
      split at e
      · rename_i c' h
        cases e
        obtain ⟨bs, rfl, hb⟩ := rp_boolsA t h
        cases r
        exact ⟨c :: bs, rfl, by rw [List.any_cons, hb]; rfl⟩
      · cases e
    · cases e
theorem rp_ints : ∀ {ds : List PyData} {vs : List V} {is : List Int}, RpAll K H P vs ds → intsOf ds = some is → vs = is.map V.int
  | [], _, _, .nil, e => by cases e; rfl
  | d :: ds, _, _, .cons r t, e => by
    unfold intsOf at e
    split at e
    · rename_i hz; cases hz
    · rename_i c r' hd
      cases hd
      split at e
      · rename_i c' h
        cases e
        rw [rp_ints t h]
        cases r
        rfl
      · cases e
    · cases e
theorem maxI_mem : ∀ (is : List Int) (m : Int), (maxI m is = m ∨ maxI m is ∈ is) ∧ m ≤ maxI m is ∧ ∀ y ∈ is, y ≤ maxI m is
  | [], m => ⟨.inl rfl, Int.le_refl _, fun y h => by cases h⟩
  | i :: is, m => by
    unfold maxI
    obtain ⟨h1, h2, h3⟩ := maxI_mem is (if m < i then i else m)
    by_cases c : m < i
    · simp only [if_pos c] at h1 h2 h3 ⊢
      refine ⟨.inr ?_, by omega, fun y hy => ?_⟩
      · rcases h1 with h1 | h1
        · rw [h1]; exact List.mem_cons_self
        · exact List.mem_cons_of_mem _ h1
      · rcases List.mem_cons.mp hy with e | hy
        · rw [e]; exact h2
        · exact h3 y hy
    · simp only [if_neg c] at h1 h2 h3 ⊢
      refine ⟨h1.imp id (List.mem_cons_of_mem _), h2, fun y hy => ?_⟩
      rcases List.mem_cons.mp hy with e | hy
      · rw [e]; omega
      · exact h3 y hy
theorem minI_mem : ∀ (is : List Int) (m : Int), (minI m is = m ∨ minI m is ∈ is) ∧ minI m is ≤ m ∧ ∀ y ∈ is, minI m is ≤ y
  | [], m => ⟨.inl rfl, Int.le_refl _, fun y h => by cases h⟩
  | i :: is, m => by
    unfold minI
    obtain ⟨h1, h2, h3⟩ := minI_mem is (if i < m then i else m)
    by_cases c : i < m
    · simp only [if_pos c] at h1 h2 h3 ⊢
      refine ⟨.inr ?_, by omega, fun y hy => ?_⟩
      · rcases h1 with h1 | h1
        · rw [h1]; exact List.mem_cons_self
        · exact List.mem_cons_of_mem _ h1
      · rcases List.mem_cons.mp hy with e | hy
        · rw [e]; exact h2
        · exact h3 y hy
    · simp only [if_neg c] at h1 h2 h3 ⊢
      refine ⟨h1.imp id (List.mem_cons_of_mem _), h2, fun y hy => ?_⟩
      rcases List.mem_cons.mp hy with e | hy
      · rw [e]; omega
      · exact h3 y hy
theorem sumI_sum : ∀ is : List Int, sumI is = is.sum
  | [] => rfl
  | i :: is => by unfold sumI; rw [sumI_sum is, List.sum_cons]
end
section
variable {X : Cx}
theorem bl_len : CallR X (.builtin "len") (rBl X.K bLen) := by
  intro pins s σ H vs us Q I rv h
  obtain ⟨P, ds, r, hp, hd, hf, q⟩ := h
  unfold bLen at hf
  split at hf
  · obtain ⟨v, rfl, h1⟩ := rd1 hd
    obtain ⟨n, hn, rfl⟩ := Option.map_eq_some_iff.mp hf
    have q' := q _ _ (Same.refl H) (.int _)
    unfold pLen at hn
    split at hn
    · cases hn
      obtain ⟨a, xs, rfl, ha, hr⟩ := h1.lst
      exact call_len pins s σ H _ us Q I rv ⟨_, _, rfl, .inl ⟨xs, SqL.of ha, hr.length.symm⟩, q'⟩
    · cases hn
      obtain ⟨a, xs, rfl, ha, hr⟩ := h1.tup
      exact call_len pins s σ H _ us Q I rv ⟨_, _, rfl, .inr ⟨xs, ha, hr.length.symm⟩, q'⟩
    · split at hn
      · rename_i hl
        cases hn
        cases h1.str
        exact call_len pins s σ H _ us Q I rv ⟨_, _, rfl, ⟨by rw [← line_eq]; exact hl, rfl⟩, q'⟩
      · cases hn
    · cases hn
  · cases hf
theorem bl_all (hc : X.calm = true) : CallR X (.builtin "all") (rBl X.K bAll) := by
  intro pins s σ H vs us Q I rv h
  obtain ⟨P, ds, r, hp, hd, hf, q⟩ := h
  unfold bAll at hf
  split at hf
  · obtain ⟨v, rfl, h1⟩ := rd1 hd
    obtain ⟨n, hn, rfl⟩ := Option.map_eq_some_iff.mp hf
    obtain ⟨a, xs, rfl, ha, hr⟩ := h1.lst
    obtain ⟨bs, rfl, hb⟩ := rp_bools hr hn
    exact cr_all hc pins s σ H _ us Q I rv ⟨a, bs, rfl, SqL.of ha, by rw [hb]; exact q _ _ (Same.refl H) (.bl _)⟩
  · cases hf
theorem bl_any (hc : X.calm = true) : CallR X (.builtin "any") (rBl X.K bAny) := by
  intro pins s σ H vs us Q I rv h
  obtain ⟨P, ds, r, hp, hd, hf, q⟩ := h
  unfold bAny at hf
  split at hf
  · obtain ⟨v, rfl, h1⟩ := rd1 hd
    obtain ⟨n, hn, rfl⟩ := Option.map_eq_some_iff.mp hf
    obtain ⟨a, xs, rfl, ha, hr⟩ := h1.lst
    obtain ⟨bs, rfl, hb⟩ := rp_boolsA hr hn
    exact cr_any hc pins s σ H _ us Q I rv ⟨a, bs, rfl, SqL.of ha, by rw [hb]; exact q _ _ (Same.refl H) (.bl _)⟩
  · cases hf
theorem bl_abs : CallR X (.builtin "abs") (rBl X.K bAbs) := by
  intro pins s σ H vs us Q I rv h
  obtain ⟨P, ds, r, hp, hd, hf, q⟩ := h
  unfold bAbs at hf
  split at hf
  · cases hf
    obtain ⟨v, rfl, h1⟩ := rd1 hd
    cases h1.int
    exact call_abs pins s σ H _ us Q I rv ⟨_, rfl, q _ _ (Same.refl H) (.int _)⟩
  · cases hf
theorem bl_int : CallR X (.type "int") (rBl X.K bInt) := by
  intro pins s σ H vs us Q I rv h
  obtain ⟨P, ds, r, hp, hd, hf, q⟩ := h
  unfold bInt at hf
  split at hf
  · cases hf
    obtain ⟨v, rfl, h1⟩ := rd1 hd
    cases h1.int
    exact call_int1 pins s σ H _ us Q I rv (.inl ⟨_, rfl, q _ _ (Same.refl H) (.int _)⟩)
  · cases hf
theorem bl_tuple : CallR X (.type "tuple") (rBl X.K bTuple) := by
  intro pins s σ H vs us Q I rv h
  obtain ⟨P, ds, r, hp, hd, hf, q⟩ := h
  unfold bTuple at hf
  split at hf
  · cases hf
    obtain ⟨v, rfl, h1⟩ := rd1 hd
    obtain ⟨a, xs, rfl, ha, hr⟩ := h1.lst
    exact call_tuple_of pins s σ H _ us Q I rv ⟨a, xs, rfl, .inl ⟨SqL.of ha, put_tup hr q⟩⟩
  · cases hf
    obtain ⟨v, rfl, h1⟩ := rd1 hd
    obtain ⟨a, xs, rfl, ha, hr⟩ := h1.tup
    exact call_tuple_of pins s σ H _ us Q I rv ⟨a, xs, rfl, .inr ⟨ha, q _ _ (Same.refl H) h1.rpT⟩⟩
  · cases hf
theorem bl_list : CallR X (.type "list") (rBl X.K bList) := by
  intro pins s σ H vs us Q I rv h
  obtain ⟨P, ds, r, hp, hd, hf, q⟩ := h
  unfold bList at hf
  split at hf
  · cases hf
    obtain ⟨v, rfl, h1⟩ := rd1 hd
    obtain ⟨a, xs, rfl, ha, hr⟩ := h1.lst
    exact call_list_of pins s σ H _ us Q I rv ⟨a, xs, rfl, .inl (SqL.of ha), put_lst hp hr q⟩
  · cases hf
    obtain ⟨v, rfl, h1⟩ := rd1 hd
    obtain ⟨a, xs, rfl, ha, hr⟩ := h1.tup
    exact call_list_of pins s σ H _ us Q I rv ⟨a, xs, rfl, .inr ha, put_lst hp hr q⟩
  · cases hf
theorem bl_max (hc : X.calm = true) : CallR X (.builtin "max") (rBl X.K bMax) := by
  intro pins s σ H vs us Q I rv h
  obtain ⟨P, ds, r, hp, hd, hf, q⟩ := h
  unfold bMax at hf
  split at hf
  · obtain ⟨v, rfl, h1⟩ := rd1 hd
    obtain ⟨is, hn, rfl⟩ := Option.map_eq_some_iff.mp hf
    rename_i i rr
    obtain ⟨a, xs, rfl, ha, hr⟩ := h1.lst
    have hn' : intsOf (.int i :: rr) = some (i :: is) := by unfold intsOf; rw [hn]
    have e := rp_ints hr hn'
    subst e
    obtain ⟨g1, g2, g3⟩ := maxI_mem is i
    refine cr_max hc pins s σ H _ us Q I rv ⟨a, i :: is, rfl, SqL.of ha, Nat.succ_pos _, fun m hm hle => ?_⟩
    have hq : m = maxI i is := by
      have a1 : maxI i is ≤ m := by
        rcases g1 with g | g
        · rw [g]; exact hle i List.mem_cons_self
        · exact hle _ (List.mem_cons_of_mem _ g)
      have a2 : m ≤ maxI i is := by
        rcases List.mem_cons.mp hm with e | hm
        · rw [e]; exact g2
        · exact g3 m hm
      omega
    rw [hq]
    exact q _ _ (Same.refl H) (.int _)
  · cases hf
theorem bl_min (hc : X.calm = true) : CallR X (.builtin "min") (rBl X.K bMin) := by
  intro pins s σ H vs us Q I rv h
  obtain ⟨P, ds, r, hp, hd, hf, q⟩ := h
  unfold bMin at hf
  split at hf
  · obtain ⟨v, rfl, h1⟩ := rd1 hd
    obtain ⟨is, hn, rfl⟩ := Option.map_eq_some_iff.mp hf
    rename_i i rr
    obtain ⟨a, xs, rfl, ha, hr⟩ := h1.lst
    have hn' : intsOf (.int i :: rr) = some (i :: is) := by unfold intsOf; rw [hn]
    have e := rp_ints hr hn'
    subst e
    obtain ⟨g1, g2, g3⟩ := minI_mem is i
    refine cr_min hc pins s σ H _ us Q I rv ⟨a, i :: is, rfl, SqL.of ha, Nat.succ_pos _, fun m hm hle => ?_⟩
    have hq : m = minI i is := by
      have a1 : m ≤ minI i is := by
        rcases g1 with g | g
        · rw [g]; exact hle i List.mem_cons_self
        · exact hle _ (List.mem_cons_of_mem _ g)
      have a2 : minI i is ≤ m := by
        rcases List.mem_cons.mp hm with e | hm
        · rw [e]; exact g2
        · exact g3 m hm
      omega
    rw [hq]
    exact q _ _ (Same.refl H) (.int _)
  · cases hf
theorem bl_sum (hc : X.calm = true) : CallR X (.builtin "sum") (rBl X.K bSum) := by
  intro pins s σ H vs us Q I rv h
  obtain ⟨P, ds, r, hp, hd, hf, q⟩ := h
  unfold bSum at hf
  split at hf
  · obtain ⟨v, rfl, h1⟩ := rd1 hd
    obtain ⟨is, hn, rfl⟩ := Option.map_eq_some_iff.mp hf
    obtain ⟨a, xs, rfl, ha, hr⟩ := h1.lst
    have e := rp_ints hr hn
    subst e
    rw [sumI_sum] at q
    exact cr_sum hc pins s σ H _ us Q I rv ⟨a, is, rfl, SqL.of ha, q _ _ (Same.refl H) (.int _)⟩
  · cases hf

/-! ### calls of built-ins -/
variable {a b c e : Expr} {es : List Expr} {ma mb mc : ME} {m : MA} {pos p : Pos} {x : Str} {id : String} {f : List PyData → Option PyData}
theorem blt_read {t : TA} {K : PySem.W.Frag} {σ : L2.St} {H : Hp} {Q : VK} (h : rdE K (eBlt f m) σ H Q) : tCB (rBl K f) (rdA K m) σ H Q := by
  obtain ⟨ι, P, env, st, A, w, st', e, q⟩ := h
  obtain ⟨xs, s1, h1, e⟩ := bind_ok (noX_ok e)
  refine rdA.bind A h1 fun u H1 x1 A1 r1 => ?_
  split at e
  · rename_i ds hd
    obtain ⟨r, hr, rfl, rfl⟩ := okD_ok e
    exact ⟨P, ds, r, A1.s.pthere, derefs_rd A1.s r1 hd, hr, fun z H2 sm rp => q z H2 (x1.trans (.same sm)) (A1.s.same sm) (.dat rp)⟩
  · cases e
def blt2 (x : Str) : Bool := decide (x ≠ "__name__") && decide ((x == ("__debug__" : Str)) = false)
theorem xp_blt (hc : CallR X (.builtin id) (rBl X.K f)) (hg : Gl X x) (hm : X.mg x = none) (hv : bootBuiltins x = some (.builtin id)) (ha : PA X (e :: es) (rdA X.K m)) (hs : (e :: es).all noStar = true) (hx : blt2 x = true) :
    PE X (.Call (.Name x p) (e :: es) [] pos) (rdE X.K (eBlt f m)) := by
  unfold blt2 at hx
  simp only [Bool.and_eq_true, decide_eq_true_eq] at hx
  rw [List.all_cons, Bool.and_eq_true] at hs
  exact PE.mono (pe_callB hc hg hm hv ha hx.1 hx.2 (star_cons hs.1) (star_none hs.2)) fun σ H Q h => blt_read (t := rdA X.K m) h
theorem xp_bltT {T : String} (hc : CallR X (.type T) (rBl X.K f)) (hg : Gl X x) (hm : X.mg x = none) (hv : bootBuiltins x = some (.type T)) (ha : PA X (e :: es) (rdA X.K m)) (hs : (e :: es).all noStar = true) (hx : blt2 x = true) :
    PE X (.Call (.Name x p) (e :: es) [] pos) (rdE X.K (eBlt f m)) := by
  unfold blt2 at hx
  simp only [Bool.and_eq_true, decide_eq_true_eq] at hx
  rw [List.all_cons, Bool.and_eq_true] at hs
  exact PE.mono (pe_callTy hc hg hm hv ha hx.1 hx.2 (star_cons hs.1) (star_none hs.2)) fun σ H Q h => blt_read (t := rdA X.K m) h

/-! ### isinstance -/
def Ty.nm : Ty → String
  | .int => "int"
  | .bool => "bool"
  | .str => "str"
  | .tuple => "tuple"
  | .list => "list"
  | .dict => "dict"
def tyN : PyData → String
  | .none => "NoneType"
  | .bool _ => "bool"
  | .int _ => "int"
  | .str _ => "str"
  | .list _ => "list"
  | .tuple _ => "tuple"
  | .dict _ => "dict"
theorem kit_all : ∀ (t : Ty) (d : PyData), kitB (tyN d) t.nm = some (isTy t d) := by
  intro t d
  cases t <;> cases d <;> (dsimp only [tyN, Ty.nm, isTy]; decide +kernel)
theorem RD.ty {K : PySem.W.Frag} {H : Hp} {P : AP'} {v : V} {d : PyData} (h : RD K H P v d) : TyX K H v (.type (tyN d)) := by
  cases h with
  | loc g r => exact .base (.lst g)
  | dat r =>
    cases r with
    | non => exact .base .non
    | bl _ => exact .base (.bl _)
    | int _ => exact .base (.int _)
    | str _ => exact .base (.str _)
    | lst g _ _ => exact .base (.lst g)
    | tup g _ =>
      rcases g with (g | ⟨o, g⟩) | ⟨o, its, n, g, c, _⟩
      · exact .base (.tup g)
      · exact .fTuple g
      · exact .kTuple g c
theorem boot_isi : bootBuiltins "isinstance" = some (.builtin "isinstance") := by decide +kernel
theorem xp_isi {t : Ty} {y : Str} {p2 : Pos} (hg : Gl X "isinstance") (hm : X.mg "isinstance" = none) (hg2 : Gl X y) (hm2 : X.mg y = none) (hv2 : bootBuiltins y = some (.type t.nm)) (hy : blt2 y = true) (ha : PE X a (rdE X.K ma)) (hs : noStar a = true) :
    PE X (.Call (.Name "isinstance" p) [a, .Name y p2] [] pos) (rdE X.K (eIsi t ma)) := by
  unfold blt2 at hy
  simp only [Bool.and_eq_true, decide_eq_true_eq] at hy
  have hn : PE X (.Name y p2) (tC (.ty t.nm)) := pe_bltn hg2 hm2 hv2 rfl hy.1 hy.2
  refine PE.mono (pe_callB call_isi hg hm boot_isi (pa_cons ha (pa_cons hn pa_nil (star_cons rfl)) (star_cons hs)) (by decide) (by decide) (star_cons hs) rfl) fun σ H Q ⟨ι, P, env, st, A, w, st', e, q⟩ => ?_
  obtain ⟨x, s1, h1, e⟩ := bind_ok (noX_ok e)
  split at e
  · rename_i d hd
    cases e
    refine rdE.bind A h1 fun u H1 x1 A1 r1 => ?_
    exact ⟨u, .ty t.nm, _, _, isTy t d, rfl, .ty _, (r1.rd A1.s hd).ty, kit_ty (kit_all t d), q _ _ x1 A1.s (.dat (.bl _))⟩
  · cases e

/-! ### a def -/
/-- a def's promise: it gives what F gives -/
def spOf (K : PySem.W.Frag) (F : FnS) : Sp := fun vs H Q _ => ∃ ι P xs st, RS K H P ι st ∧ Paired (RV K H P ι) vs xs ∧ ∃ v st', F xs st = .ok v st' ∧ ∀ u H', Ext ι H H' → RS K H' P ι st' → RV K H' P ι u v → Q u H'
theorem paired_len {α β : Type} {R : α → β → Prop} : ∀ {a : List α} {b : List β}, Paired R a b → a.length = b.length
  | _, _, .nil => rfl
  | _, _, .cons _ t => by rw [List.length_cons, List.length_cons, paired_len t]
variable {F : FnS} {k : Nat} {g : Addr} {fd : FuncData} {ps : List Str} {CX : CXT}
theorem xp_call (G : FnOk X.prog X.w X.K X.mg X.base CX k g fd ps (spOf X.K F)) (hr : Room k X.A) (hg : Gl X x) (hm : X.mg x = some (.ref g)) (hk : PySem.W.keepIn X.K (.ref g) = true) (hb : Binds X.K fd ps []) (hx : Passes CX X E0)
    (ha : PA X (e :: es) (rdA X.K m)) (hs : (e :: es).all noStar = true) (hd : (x == ("__debug__" : Str)) = false) : PE X (.Call (.Name x p) (e :: es) [] pos) (rdE X.K (eCall F m)) := by
  rw [List.all_cons, Bool.and_eq_true] at hs
  refine PE.mono (pe_call G hr hg hm hk hb .nil hx ha hd (star_cons hs.1) (star_none hs.2)) fun σ H Q ⟨ι, P, env, st, A, w, st', e, q⟩ => ?_
  obtain ⟨xs, s1, h1, e⟩ := bind_ok e
  refine rdA.bind A h1 fun u H1 x1 A1 r1 => ?_
  rw [List.append_nil]
  exact ⟨ι, P, xs, s1, A1.s, r1, w, st', e, fun z H2 x2 r2 rv => q z H2 (x1.trans x2) r2 rv⟩
theorem xp_call0 (G : FnOk X.prog X.w X.K X.mg X.base CX k g fd ps (spOf X.K F)) (hr : Room k X.A) (hg : Gl X x) (hm : X.mg x = some (.ref g)) (hk : PySem.W.keepIn X.K (.ref g) = true) (hb : Binds X.K fd ps []) (hx : Passes CX X E0)
    (hd : (x == ("__debug__" : Str)) = false) : PE X (.Call (.Name x p) [] [] pos) (rdE X.K (eCall F aNil)) := by
  refine PE.mono (pe_call0 G hr hg hm hk hb .nil hx hd) fun σ H Q ⟨ι, P, env, st, A, w, st', e, q⟩ => ?_
  exact ⟨ι, P, [], st, A.s, .nil, w, st', e, q⟩

/-! ### methods of a list that change it -/
theorem getElem?_set_of {α : Type} {l : List α} {n m : Nat} {v w : α} (h : l[n]? = some w) : (l.set n v)[m]? = if n = m then some v else l[m]? := by
  by_cases q : n = m
  · subst q
    rw [if_pos rfl, List.getElem?_set_self (List.getElem?_eq_some_iff.mp h).1]
  · rw [if_neg q, List.getElem?_set_ne q]
/-- a list at a place is changed -/
theorem RS.upd {K : PySem.W.Frag} {H : Hp} {P : AP'} {ι : List Addr} {st : Sto} (r : RS K H P ι st) {n : Nat} {l : Addr} {ds ds' : List PyData} {xs' : List V} (hl : ι[n]? = some l) (hs : st[n]? = some (.lst ds)) (hr : RpAll K H P xs' ds') :
    Ext ι H (upd H l (.lst xs')) ∧ RS K (upd H l (.lst xs')) P ι (st.set n (.lst ds')) := by
  have hmem : l ∈ ι := List.mem_of_getElem? hl
  obtain ⟨_, xs, _, h2, _⟩ := r.at_ n l hl
  have hx : Ext ι H (L2.upd H l (.lst xs')) := fun b o e q => by
    by_cases z : b = l
    · subst z
      rcases q with q | q
      · exact absurd hmem q
      · rw [h2] at e; cases e; exact absurd rfl (q xs)
    · rw [upd_ne z]; exact e
  have hP := r.extP hx
  refine ⟨hx, by rw [List.length_set]; exact r.len, r.nd, r.pin, fun a p z => ?_, fun m a e => ?_⟩
  · by_cases y : a = l
    · subst y; rw [upd_same] at z; cases z
    · rw [upd_ne y] at z; exact r.pthere a p z
  · rw [getElem?_set_of hs]
    by_cases y : n = m
    · subst y
      rw [hl] at e; cases e
      exact ⟨ds', xs', by rw [if_pos rfl], upd_same, hr.ext hP⟩
    · rw [if_neg y]
      obtain ⟨es, ys, g1, g2, g3⟩ := r.at_ m a e
      refine ⟨es, ys, g1, ?_, g3.ext hP⟩
      have ne : a ≠ l := fun z => by
        subst z
        exact y ((List.getElem?_inj (List.getElem?_eq_some_iff.mp hl).1 r.nd).mp (hl.trans e.symm))
      rw [upd_ne ne]; exact g2
end
end Ev
/-! EvLoop: list methods, what is walked, comprehensions over the combinators. -/
namespace Ev
open PySem PySem.Spec PyProof.Rows L2

section
variable {X : Cx} {a b c e : Expr} {es : List Expr} {ma mb mc : ME} {m : MA} {pos p p1 apos : Pos} {x : Str}
theorem RV.loc' {K : PySem.W.Frag} {H : Hp} {P : AP'} {ι : List Addr} {v : V} {n : Nat} (h : RV K H P ι v (.loc n)) : ∃ l, v = .ref l ∧ ι[n]? = some l := by
  cases h with
  | loc q => exact ⟨_, rfl, q⟩
theorem RV.dat' {K : PySem.W.Frag} {H : Hp} {P : AP'} {ι : List Addr} {v : V} {d : PyData} (h : RV K H P ι v (.dat d)) : Rp K H P v d := by
  cases h with
  | dat q => exact q
theorem RV.lty {K : PySem.W.Frag} {H : Hp} {P : AP'} {ι : List Addr} {st : Sto} {l : Addr} {n : Nat} (r : RS K H P ι st) (h : ι[n]? = some l) : tyV K "list" (.ref l) H := by
  obtain ⟨ds, xs, h1, h2, h3⟩ := r.at_ n l h
  exact .inl ⟨rfl, xs, SqL.of h2⟩
theorem xp_app (ho : PE X (.Name x p1) (rdE X.K ma)) (ha : PE X b (rdE X.K mb)) (hs : noStar b = true) (hline : (apos.endLine == pos.line) = true) :
    PE X (.Call (.Attribute (.Name x p1) "append" apos) [b] [] pos) (rdE X.K (eApp ma mb)) := by
  have hst := star_cons (es := []) (env := X.env) hs
  refine PE.mono (pe_bm PySem.F.plainAttrs_list PySem.F.slot_list_append PySem.F.type_list_append mt_append ho (pa_cons ha pa_nil hst) rfl (by rw [hst]; rfl) hline hst rfl) fun σ H Q ⟨ι, P, env, st, A, w, st', e, q⟩ => ?_
  obtain ⟨ov, s1, h1, e⟩ := bind_ok (noX_ok e)
  obtain ⟨v, s2, h2, e⟩ := bind_ok e
  split at e
  · split at e
    · rename_i ds hds
      obtain ⟨c, rfl, rfl⟩ := of_ifOk e
      refine rdE.bind A h1 fun u H1 x1 A1 r1 => ?_
      obtain ⟨l, rfl, hl⟩ := r1.loc'
      refine ⟨RV.lty A1.s hl, rdE.bind A1 h2 fun t H2 x2 A2 r2 => ?_⟩
      obtain ⟨ds', xs, g1, g2, g3⟩ := A2.s.at_ _ l hl
      rw [hds] at g1; cases g1
      obtain ⟨y1, y2⟩ := A2.s.upd hl hds (g3.append (.cons r2.dat' .nil))
      exact ⟨l, xs, t, rfl, rfl, g2, by rw [g3.length, ← line_eq]; exact Nat.le_of_ble_eq_true c, q _ _ ((x1.trans x2).trans y1) y2 (.dat .non)⟩
    · cases e
  · cases e
theorem xp_pop (ho : PE X (.Name x p1) (rdE X.K ma)) (hline : (apos.endLine == pos.line) = true) : PE X (.Call (.Attribute (.Name x p1) "pop" apos) [] [] pos) (rdE X.K (ePop ma)) := by
  refine PE.mono (pe_bm0 PySem.F.plainAttrs_list PySem.F.slot_list_pop PySem.F.type_list_pop mt_pop ho rfl hline) fun σ H Q ⟨ι, P, env, st, A, w, st', e, q⟩ => ?_
  obtain ⟨ov, s1, h1, e⟩ := bind_ok (noX_ok e)
  split at e
  · split at e
    · rename_i ds hds
      split at e
      · rename_i d hd
        cases e
        refine rdE.bind A h1 fun u H1 x1 A1 r1 => ?_
        obtain ⟨l, rfl, hl⟩ := r1.loc'
        obtain ⟨ds', xs, g1, g2, g3⟩ := A1.s.at_ _ l hl
        rw [hds] at g1; cases g1
        obtain ⟨v, hv, rv⟩ := g3.get hd
        obtain ⟨y1, y2⟩ := A1.s.upd hl hds g3.dropLast
        exact ⟨RV.lty A1.s hl, l, xs, v, rfl, rfl, g2, by rw [g3.length]; exact hv, q _ _ (x1.trans y1) y2 (.dat (rv.ext (A1.s.extP y1)))⟩
      · cases e
    · cases e
  · cases e
theorem ins_rp {K : PySem.W.Frag} {H : Hp} {P : AP'} {xs : List V} {ds : List PyData} {o : V} {d : PyData} (r : RpAll K H P xs ds) (q : Rp K H P o d) (k : Nat) : RpAll K H P (xs.take k ++ [o] ++ xs.drop k) (insL ds k d) := by
  unfold insL
  rw [List.append_assoc]
  exact (r.take _).append (.cons q (r.drop _))
theorem xp_ins (ho : PE X (.Name x p1) (rdE X.K ma)) (hb : PE X b (rdE X.K mb)) (hc : PE X c (rdE X.K mc)) (hs : noStar b = true) (hs2 : noStar c = true) (hline : (apos.endLine == pos.line) = true) :
    PE X (.Call (.Attribute (.Name x p1) "insert" apos) [b, c] [] pos) (rdE X.K (eIns ma mb mc)) := by
  have hst2 := star_cons (es := []) (env := X.env) hs2
  have hst := star_cons (es := [c]) (env := X.env) hs
  refine PE.mono (pe_bm PySem.F.plainAttrs_list PySem.F.slot_list_insert PySem.F.type_list_insert mt_insert ho (pa_cons hb (pa_cons hc pa_nil hst2) hst) rfl (by rw [hst, hst2]; rfl) hline hst (by rw [hst2]; rfl)) fun σ H Q ⟨ι, P, env, st, A, w, st', e, q⟩ => ?_
  obtain ⟨ov, s1, h1, e⟩ := bind_ok (noX_ok e)
  obtain ⟨iv, s2, h2, e⟩ := bind_ok e
  obtain ⟨v, s3, h3, e⟩ := bind_ok e
  split at e
  · split at e
    · rename_i ds hds
      obtain ⟨c, rfl, rfl⟩ := of_ifOk e
      simp only [Bool.and_eq_true, decide_eq_true_eq] at c
      obtain ⟨⟨c1, c2⟩, c3⟩ := c
      have c3 := Nat.le_of_ble_eq_true c3
      refine rdE.bind A h1 fun u H1 x1 A1 r1 => ?_
      obtain ⟨l, rfl, hl⟩ := r1.loc'
      refine ⟨RV.lty A1.s hl, rdE.bind A1 h2 fun t H2 x2 A2 r2 => rdE.bind A2 h3 fun o H3 x3 A3 r3 => ?_⟩
      obtain ⟨ds', xs, g1, g2, g3⟩ := A3.s.at_ _ l hl
      rw [hds] at g1; cases g1
      cases r2.dat'
      obtain ⟨y1, y2⟩ := A3.s.upd hl hds (ins_rp g3 r3.dat' _)
      have hll : line = 16777216 := rfl
      exact ⟨l, xs, _, o, rfl, rfl, g2, by rw [g3.length, ← line_eq]; exact c3, c1, by omega, q _ _ (((x1.trans x2).trans x3).trans y1) y2 (.dat .non)⟩
    · cases e
  · cases e
end

/-! ### what is walked -/
/-- the turns of J yield the data xs, as they lay at H -/
def Walks (K : PySem.W.Frag) (P : AP') (J : It) (xs : List PyData) (H : Hp) : Prop :=
  ∀ (P' : AP') (H' : Hp), (∀ a, P' a → P a ∨ H a = none) → ExtP P' H H' → ∀ i : Nat, (i < xs.length → J.go i H') ∧ (xs.length ≤ i → J.stop i H') ∧
    ∀ d x H'', xs[i]? = some d → J.yld i H' x H'' → Same H' H'' ∧ Rp K H'' P' x d
/-- the item at a turn; none: the end -/
def nxt : Src → Nat → Sto → Option (Option PyData)
  | .its xs, i, _ => some xs[i]?
  | .at_ n, i, s => match s[n]? with
    | some (.lst xs) => some xs[i]?
    | none => none
def WalkG (K : PySem.W.Frag) (P : AP') (ι : List Addr) (J : It) (src : Src) (H : Hp) : Prop :=
  ∀ (P' : AP') (ι' : List Addr) (st' : Sto) (H' : Hp), ι <+: ι' → (∀ a, P' a → P a ∨ H a = none) → ExtP P' H H' → RS K H' P' ι' st' → ∀ i : Nat,
    (nxt src i st' = some none → J.stop i H') ∧ ∀ d, nxt src i st' = some (some d) → J.go i H' ∧ ∀ x H'', J.yld i H' x H'' → Same H' H'' ∧ Rp K H'' P' x d
def rdI (K : PySem.W.Frag) (m : MI) : TI := fun σ H R => ∃ ι P env st, At K H P ι σ env st ∧ ∃ src st', m env st = .ok src st' ∧
  ∀ J H', Ext ι H H' → RS K H' P ι st' → WalkG K P ι J src H' → R J H'
theorem Walks.g {K : PySem.W.Frag} {P : AP'} {ι : List Addr} {J : It} {xs : List PyData} {H : Hp} (w : Walks K P J xs H) : WalkG K P ι J (.its xs) H := by
  intro P' ι' st' H' _ hP hx _ i
  obtain ⟨w1, w2, w3⟩ := w P' H' hP hx i
  refine ⟨fun e => w2 ?_, fun d e => ⟨w1 ?_, fun x H'' => w3 d x H'' (Option.some.inj e)⟩⟩
  · exact List.getElem?_eq_none_iff.mp (Option.some.inj e)
  · exact (List.getElem?_eq_some_iff.mp (Option.some.inj e)).1
theorem walk_at {K : PySem.W.Frag} {P : AP'} {ι : List Addr} {n : Nat} {a : Addr} {H : Hp} (h : ι[n]? = some a) : WalkG K P ι (Itl K a) (.at_ n) H := by
  intro P' ι' st' H' hι hP hx r i
  have h' : ι'[n]? = some a := by
    obtain ⟨t, rfl⟩ := hι
    rw [List.getElem?_append_left (List.getElem?_eq_some_iff.mp h).1]; exact h
  obtain ⟨ds, xs, g1, g2, g3⟩ := r.at_ n a h'
  simp only [nxt, g1]
  refine ⟨fun e => ⟨xs, SqL.of g2, ?_⟩, fun d e => ?_⟩
  · rw [g3.length]; exact List.getElem?_eq_none_iff.mp (Option.some.inj e)
  · obtain ⟨v, hv, rv⟩ := g3.get (Option.some.inj e)
    refine ⟨⟨xs, v, SqL.of g2, hv⟩, fun x H'' ⟨e1, e2⟩ => ?_⟩
    subst e1
    cases (e2 xs (SqL.of g2)).symm.trans hv
    exact ⟨Same.refl _, rv⟩
section
variable {K : PySem.W.Frag} {H : Hp} {P : AP'}
theorem walk_list {a : Addr} {xs : List V} {ds : List PyData} (h : H a = some (.lst xs)) (n : ¬ P a) (r : RpAll K H P xs ds) : Walks K P (Itl K a) ds H := by
  intro P' H' hP hx i
  have r' : RpAll K H' P' xs ds := (r.toP hP _ _).ext hx _ _
  have n' : ¬ P' a := fun z => (hP a z).elim n fun y => by rw [h] at y; cases y
  have h' : H' a = some (.lst xs) := hx a _ h (.inl n')
  refine ⟨fun hi => ?_, fun hi => ⟨xs, SqL.of h', by rw [r.length]; exact hi⟩, fun d x H'' hd hy => ?_⟩
  · obtain ⟨v, hv, _⟩ := r'.get (List.getElem?_eq_getElem hi)
    exact ⟨xs, v, SqL.of h', hv⟩
  · obtain ⟨rfl, hy⟩ := hy
    obtain ⟨v, hv, rv⟩ := r'.get hd
    have e := (hy xs (SqL.of h')).symm.trans hv
    cases e
    exact ⟨Same.refl _, rv⟩
theorem walk_tup {a : Addr} {xs : List V} {ds : List PyData} (h : SqT K H a xs) (r : RpAll K H P xs ds) : Walks K P (Itt K a) ds H := by
  intro P' H' hP hx i
  have r' : RpAll K H' P' xs ds := (r.toP hP _ _).ext hx _ _
  have h' : SqT K H' a xs := SqT.ext hx h
  refine ⟨fun hi => ?_, fun hi => ⟨xs, h', by rw [r.length]; exact hi⟩, fun d x H'' hd hy => ?_⟩
  · obtain ⟨v, hv, _⟩ := r'.get (List.getElem?_eq_getElem hi)
    exact ⟨xs, v, h', hv⟩
  · obtain ⟨rfl, hy⟩ := hy
    obtain ⟨v, hv, rv⟩ := r'.get hd
    have e := (hy xs h').symm.trans hv
    cases e
    exact ⟨Same.refl _, rv⟩
theorem upFrom_length : ∀ (n : Nat) (lo : Int), (upFrom lo n).length = n
  | 0, _ => rfl
  | n + 1, lo => by unfold upFrom; rw [List.length_cons, upFrom_length n]
theorem upFrom_get : ∀ (n : Nat) (lo : Int) (i : Nat) (d : PyData), (upFrom lo n)[i]? = some d → d = .int (lo + i)
  | 0, _, _, _, h => by simp [upFrom] at h
  | n + 1, lo, 0, d, h => by
    simp [upFrom] at h
    rw [← h]; simp
  | n + 1, lo, i + 1, d, h => by
    have h2 : (upFrom (lo + 1) n)[i]? = some d := by simpa [upFrom] using h
    rw [upFrom_get n (lo + 1) i d h2]
    congr 1
    omega
theorem walk_range {lo : Int} {n : Nat} : Walks K P (Itr lo n) (upFrom lo n) H := by
  intro P' H' hP hx i
  rw [upFrom_length]
  refine ⟨fun hi => hi, fun hi => hi, fun d x H'' hd hy => ?_⟩
  obtain ⟨rfl, rfl⟩ := hy
  rw [upFrom_get _ _ _ _ hd]
  exact ⟨Same.refl _, .int _⟩
theorem zips_get : ∀ {xs ys : List PyData} {i : Nat} {d : PyData}, (zips xs ys)[i]? = some d → ∃ x y, xs[i]? = some x ∧ ys[i]? = some y ∧ d = .tuple [x, y]
  | [], _, _, _, h => by simp [zips] at h
  | _ :: _, [], _, _, h => by simp [zips] at h
  | x :: xs, y :: ys, 0, d, h => by
    simp [zips] at h
    exact ⟨x, y, rfl, rfl, h.symm⟩
  | x :: xs, y :: ys, i + 1, d, h => by
    have h2 : (zips xs ys)[i]? = some d := by simpa [zips] using h
    obtain ⟨u, v, h3, h4, h5⟩ := zips_get h2
    exact ⟨u, v, by simpa using h3, by simpa using h4, h5⟩
theorem zips_length : ∀ {xs ys : List PyData}, (zips xs ys).length = min xs.length ys.length
  | [], _ => by simp [zips]
  | _ :: _, [] => by simp [zips]
  | x :: xs, y :: ys => by
    have := @zips_length xs ys
    simp only [zips, List.length_cons]
    omega
theorem walk_zipL {a b : Addr} {xs ys : List V} {ds es : List PyData} (h : H a = some (.lst xs)) (n : ¬ P a) (r : RpAll K H P xs ds) (h2 : H b = some (.lst ys)) (n2 : ¬ P b) (r2 : RpAll K H P ys es) : Walks K P (Itz K a b) (zips ds es) H := by
  intro P' H' hP hx i
  have q1 : RpAll K H' P' xs ds := (r.toP hP _ _).ext hx _ _
  have q2 : RpAll K H' P' ys es := (r2.toP hP _ _).ext hx _ _
  have n' : ¬ P' a := fun z => (hP a z).elim n fun y => by rw [h] at y; cases y
  have n2' : ¬ P' b := fun z => (hP b z).elim n2 fun y => by rw [h2] at y; cases y
  have h' : H' a = some (.lst xs) := hx a _ h (.inl n')
  have h2' : H' b = some (.lst ys) := hx b _ h2 (.inl n2')
  rw [zips_length]
  refine ⟨fun hi => ?_, fun hi => ⟨xs, ys, SqL.of h', SqL.of h2', by rw [r.length, r2.length]; omega⟩, fun d x H'' hd hy => ?_⟩
  · obtain ⟨v, hv, _⟩ := q1.get (List.getElem?_eq_getElem (show i < ds.length by omega))
    obtain ⟨u, hu, _⟩ := q2.get (List.getElem?_eq_getElem (show i < es.length by omega))
    exact ⟨xs, ys, v, u, SqL.of h', SqL.of h2', hv, hu⟩
  · obtain ⟨T, v, u, rfl, hT, rfl, f1, f2⟩ := hy
    obtain ⟨d1, d2, e1, e2, rfl⟩ := zips_get hd
    obtain ⟨v', hv, rv⟩ := q1.get e1
    obtain ⟨u', hu, ru⟩ := q2.get e2
    cases (f1 xs (SqL.of h')).symm.trans hv
    cases (f2 ys (SqL.of h2')).symm.trans hu
    have sm := same_upd (o := .tup [v, u]) hT
    exact ⟨sm, .tup (SqT.of upd_same) (.cons (rv.ext (.same sm)) (.cons (ru.ext (.same sm)) .nil))⟩
theorem walk_zipT {a b : Addr} {xs ys : List V} {ds es : List PyData} (h : SqT K H a xs) (r : RpAll K H P xs ds) (h2 : SqT K H b ys) (r2 : RpAll K H P ys es) : Walks K P (RZ.ItzT K a b) (zips ds es) H := by
  intro P' H' hP hx i
  have q1 : RpAll K H' P' xs ds := (r.toP hP _ _).ext hx _ _
  have q2 : RpAll K H' P' ys es := (r2.toP hP _ _).ext hx _ _
  have h' : SqT K H' a xs := SqT.ext hx h
  have h2' : SqT K H' b ys := SqT.ext hx h2
  rw [zips_length]
  refine ⟨fun hi => ?_, fun hi => ⟨xs, ys, h', h2', by rw [r.length, r2.length]; omega⟩, fun d x H'' hd hy => ?_⟩
  · obtain ⟨v, hv, _⟩ := q1.get (List.getElem?_eq_getElem (show i < ds.length by omega))
    obtain ⟨u, hu, _⟩ := q2.get (List.getElem?_eq_getElem (show i < es.length by omega))
    exact ⟨xs, ys, v, u, h', h2', hv, hu⟩
  · obtain ⟨T, v, u, rfl, hT, rfl, f1, f2⟩ := hy
    obtain ⟨d1, d2, e1, e2, rfl⟩ := zips_get hd
    obtain ⟨v', hv, rv⟩ := q1.get e1
    obtain ⟨u', hu, ru⟩ := q2.get e2
    cases (f1 xs h').symm.trans hv
    cases (f2 ys h2').symm.trans hu
    have sm := same_upd (o := .tup [v, u]) hT
    exact ⟨sm, .tup (SqT.of upd_same) (.cons (rv.ext (.same sm)) (.cons (ru.ext (.same sm)) .nil))⟩
theorem enums_get : ∀ {xs : List PyData} {k : Int} {i : Nat} {d : PyData}, (enums k xs)[i]? = some d → ∃ x, xs[i]? = some x ∧ d = .tuple [.int (k + i), x]
  | [], _, _, _, h => by simp [enums] at h
  | x :: xs, k, 0, d, h => by
    simp [enums] at h
    exact ⟨x, rfl, by rw [← h]; simp⟩
  | x :: xs, k, i + 1, d, h => by
    have h2 : (enums (k + 1) xs)[i]? = some d := by simpa [enums] using h
    obtain ⟨u, h3, h5⟩ := enums_get h2
    refine ⟨u, by simpa using h3, ?_⟩
    rw [h5]
    have e : k + 1 + (i : Int) = k + ((i + 1 : Nat) : Int) := by omega
    rw [e]
theorem enums_length : ∀ {xs : List PyData} {k : Int}, (enums k xs).length = xs.length
  | [], _ => rfl
  | x :: xs, k => by unfold enums; rw [List.length_cons, enums_length, List.length_cons]
theorem walk_enum {a : Addr} {xs : List V} {ds : List PyData} (h : H a = some (.lst xs)) (n : ¬ P a) (r : RpAll K H P xs ds) : Walks K P (Ite K a) (enums 0 ds) H := by
  intro P' H' hP hx i
  have r' : RpAll K H' P' xs ds := (r.toP hP _ _).ext hx _ _
  have n' : ¬ P' a := fun z => (hP a z).elim n fun y => by rw [h] at y; cases y
  have h' : H' a = some (.lst xs) := hx a _ h (.inl n')
  rw [enums_length]
  refine ⟨fun hi => ?_, fun hi => ⟨xs, SqL.of h', by rw [r.length]; exact hi⟩, fun d x H'' hd hy => ?_⟩
  · obtain ⟨v, hv, _⟩ := r'.get (List.getElem?_eq_getElem hi)
    exact ⟨xs, v, SqL.of h', hv⟩
  · obtain ⟨T, v, rfl, hT, rfl, f1⟩ := hy
    obtain ⟨d1, e1, rfl⟩ := enums_get hd
    obtain ⟨v', hv, rv⟩ := r'.get e1
    cases (f1 xs (SqL.of h')).symm.trans hv
    have sm := same_upd (o := .tup [.int (i : Nat), v]) hT
    have e0 : (0 : Int) + (i : Nat) = ((i : Nat) : Int) := by omega
    rw [e0]
    exact ⟨sm, .tup (SqT.of upd_same) (.cons (.int _) (.cons (rv.ext (.same sm)) .nil))⟩
end
/-- a list or a tuple -/
def iSq (K : PySem.W.Frag) (tl : TE) : TI := fun σ H R => tl σ H fun x H1 => ∃ a, x = .ref a ∧ (((∃ xs, SqL K H1 a xs) ∧ R (Itl K a) H1) ∨ ((∃ xs, SqT K H1 a xs) ∧ R (Itt K a) H1))
section
variable {X : Cx} {tg a b c e : Expr} {es : List Expr} {ma mb mc : ME} {m : MA} {pos p p1 apos tpos : Pos} {x : Str} {elts : List Expr} {kk : Nat}
theorem pi_sq {l : Expr} {tl : TE} (hl : PE X l tl) : PI X tg l (iSq X.K tl) := by
  refine ⟨fun pins s σ H R I h => thn (hl.run pins s σ H _ I h) fun v s1 ⟨x, H1, I1, r1, q1⟩ => ?_⟩
  obtain ⟨b, rfl, q1⟩ := q1
  cases r1
  have frs : ∀ y ∈ [s1.heap.objs.size], FpOk X pins H1 y := fun y hy => by
    rw [List.mem_singleton.mp hy]
    exact I1.fpOk (Nat.le_refl _) (I1.hok.fresh (Nat.le_refl _))
  rcases q1 with ⟨⟨xs, hq⟩, q⟩ | ⟨⟨xs, hq⟩, q⟩
  · obtain ⟨its, rv, pl, _⟩ := I1.list hq
    exact wpAny_pyIter_list pl.isList ⟨s1.heap.objs.size, [s1.heap.objs.size], _, _, H1, rfl, I1.kept (t' := s1.toks) (fun _ _ z => Heap.get?_push_of_some _ z), turn_list b _, ⟨_, Heap.get?_push_size _ rfl, rfl, rfl⟩, frs, q⟩
  · obtain ⟨its, rv, pl, _⟩ := I1.tuple hq
    exact wpAny_pyIter_tuple (show s1.heap.IsTuple b its.toArray from pl) ⟨s1.heap.objs.size, [s1.heap.objs.size], _, _, H1, rfl, I1.kept (t' := s1.toks) (fun _ _ z => Heap.get?_push_of_some _ z), turn_tuple b _, ⟨_, Heap.get?_push_size _ rfl, rfl, rfl⟩, frs, q⟩
theorem xi_seq (ha : PE X a (rdE X.K ma)) : PI X tg a (rdI X.K (iSeq ma)) :=
  PI.mono (pi_sq ha) fun σ H R ⟨ι, P, env, st, A, src, st', e, q⟩ => by
    obtain ⟨v, s1, h1, e⟩ := bind_ok e
    refine rdE.bind A h1 fun u H1 x1 A1 r1 => ?_
    split at e
    · cases e
      cases r1.dat' with
      | lst g1 g2 g3 => exact ⟨_, rfl, .inl ⟨⟨_, SqL.of g1⟩, q _ _ x1 A1.s (walk_list g1 g2 g3).g⟩⟩
    · cases e
      cases r1.dat' with
      | tup g1 g3 => exact ⟨_, rfl, .inr ⟨⟨_, g1⟩, q _ _ x1 A1.s (walk_tup g1 g3).g⟩⟩
    · cases e
      obtain ⟨l, rfl, hl⟩ := r1.loc'
      obtain ⟨ds, xs, h1, h2, h3⟩ := A1.s.at_ _ l hl
      exact ⟨l, rfl, .inl ⟨⟨xs, SqL.of h2⟩, q _ _ x1 A1.s (walk_at hl)⟩⟩
    · cases e
theorem xi_rng1 (hg : Gl X "range") (hm : X.mg "range" = none) (ha : PE X a (rdE X.K ma)) (hs : noStar a = true) : PI X tg (.Call (.Name "range" p) [a] [] pos) (rdI X.K (iRng1 ma)) :=
  PI.mono (pi_range1 hg hm (pa_cons ha pa_nil (star_cons hs)) (star_cons hs)) fun σ H R ⟨ι, P, env, st, A, src, st', e, q⟩ => by
    obtain ⟨v, s1, h1, e⟩ := bind_ok e
    refine rdE.bind A h1 fun u H1 x1 A1 r1 => ?_
    split at e
    · obtain ⟨c, rfl, rfl⟩ := of_ifOk e
      simp only [Bool.and_eq_true, decide_eq_true_eq] at c
      cases r1.dat'
      exact ⟨_, rfl, by omega, by omega, q _ _ x1 A1.s (Walks.g walk_range)⟩
    · cases e
theorem xi_rng2 (hg : Gl X "range") (hm : X.mg "range" = none) (ha : PE X a (rdE X.K ma)) (hb : PE X b (rdE X.K mb)) (hs : noStar a = true) (hs2 : noStar b = true) : PI X tg (.Call (.Name "range" p) [a, b] [] pos) (rdI X.K (iRng2 ma mb)) := by
  have t2 := star_cons (es := []) (env := X.env) hs2
  have t1 := star_cons (es := [b]) (env := X.env) hs
  refine PI.mono (pi_range2 hg hm (pa_cons ha (pa_cons hb pa_nil t2) t1) (by rw [t1, t2]; rfl) t2) fun σ H R ⟨ι, P, env, st, A, src, st', e, q⟩ => ?_
  obtain ⟨v, s1, h1, e⟩ := bind_ok e
  obtain ⟨w, s2, h2, e⟩ := bind_ok e
  refine rdE.bind A h1 fun u H1 x1 A1 r1 => rdE.bind A1 h2 fun t H2 x2 A2 r2 => ?_
  split at e
  · obtain ⟨c, rfl, rfl⟩ := of_ifOk e
    simp only [Bool.and_eq_true, decide_eq_true_eq] at c
    cases r1.dat'
    cases r2.dat'
    exact ⟨_, _, rfl, ⟨by omega, by omega, by omega, by omega⟩, q _ _ (x1.trans x2) A2.s (Walks.g walk_range)⟩
  · cases e
theorem xi_zip (hg : Gl X "zip") (hm : X.mg "zip" = none) (ha : PE X a (rdE X.K ma)) (hb : PE X b (rdE X.K mb)) (hs : noStar a = true) (hs2 : noStar b = true) : PI X (.Tuple elts kk tpos) (.Call (.Name "zip" p) [a, b] [] pos) (rdI X.K (iZip ma mb)) := by
  have t2 := star_cons (es := []) (env := X.env) hs2
  have t1 := star_cons (es := [b]) (env := X.env) hs
  refine PI.mono (RZ.pi_zipA hg hm (pa_cons ha (pa_cons hb pa_nil t2) t1) t1 (by rw [t2]; rfl)) fun σ H R ⟨ι, P, env, st, A, src, st', e, q⟩ => ?_
  obtain ⟨v, s1, h1, e⟩ := bind_ok e
  obtain ⟨w, s2, h2, e⟩ := bind_ok e
  refine rdE.bind A h1 fun u H1 x1 A1 r1 => rdE.bind A1 h2 fun t H2 x2 A2 r2 => ?_
  have r1 := r1.ext (A1.s.extP x2)
  split at e
  · cases e
    cases r1.dat' with
    | lst g1 g2 g3 =>
      cases r2.dat' with
      | lst k1 k2 k3 => exact ⟨_, _, _, _, rfl, .inl ⟨SqL.of g1, SqL.of k1, q _ _ (x1.trans x2) A2.s (walk_zipL g1 g2 g3 k1 k2 k3).g⟩⟩
  · cases e
    cases r1.dat' with
    | tup g1 g3 =>
      cases r2.dat' with
      | tup k1 k3 => exact ⟨_, _, _, _, rfl, .inr ⟨g1, k1, q _ _ (x1.trans x2) A2.s (walk_zipT g1 g3 k1 k3).g⟩⟩
  · cases e
theorem xi_enum (hg : Gl X "enumerate") (hm : X.mg "enumerate" = none) (ha : PE X a (rdE X.K ma)) (hs : noStar a = true) : PI X (.Tuple elts kk tpos) (.Call (.Name "enumerate" p) [a] [] pos) (rdI X.K (iEnum ma)) :=
  PI.mono (pi_enum hg hm (pa_cons ha pa_nil (star_cons hs)) (star_cons hs)) fun σ H R ⟨ι, P, env, st, A, src, st', e, q⟩ => by
    obtain ⟨v, s1, h1, e⟩ := bind_ok e
    refine rdE.bind A h1 fun u H1 x1 A1 r1 => ?_
    split at e
    · cases e
      cases r1.dat' with
      | lst g1 g2 g3 => exact ⟨_, _, rfl, SqL.of g1, q _ _ x1 A1.s (walk_enum g1 g2 g3).g⟩
    · cases e
end

/-! ### targets -/
mutual
def TG.slots : TG → List Nat
  | .nm i => [i]
  | .tup ts => TG.slotsL ts
def TG.slotsL : List TG → List Nat
  | [] => []
  | t :: ts => t.slots ++ TG.slotsL ts
end
/-- but the slots of is -/
def But (is : List Nat) (σ σ' : L2.St) : Prop := σ'.length = σ.length ∧ ∀ i, i ∉ is → σ'[i]? = σ[i]?
theorem But.refl (is : List Nat) (σ : L2.St) : But is σ σ := ⟨rfl, fun _ _ => rfl⟩
theorem But.trans {is js : List Nat} {σ σ1 σ2 : L2.St} (a : But is σ σ1) (b : But js σ1 σ2) : But (is ++ js) σ σ2 :=
  ⟨b.1.trans a.1, fun i h => (b.2 i fun z => h (List.mem_append_right _ z)).trans (a.2 i fun z => h (List.mem_append_left _ z))⟩
def rdG (K : PySem.W.Frag) (t : TG) : L2.TG := fun v σ H Q => ∃ ι P env st d env', At K H P ι σ env st ∧ Rp K H P v d ∧ t.put d env = some env' ∧ ∀ σ', RE K H P ι σ' env' → But t.slots σ σ' → Q σ' H
def rdGs (K : PySem.W.Frag) (ts : List TG) : L2.TGs := fun vs σ H Q => ∃ ι P env st ds env', At K H P ι σ env st ∧ RpAll K H P vs ds ∧ TG.puts ts ds env = some env' ∧ ∀ σ', RE K H P ι σ' env' → But (TG.slotsL ts) σ σ' → Q σ' H
theorem PGs.mono {X : Cx} {e : List Expr} {t t' : L2.TGs} (h : PGs X e t) (q : ∀ v σ H Q, t' v σ H Q → t v σ H Q) : PGs X e t' := ⟨fun pins s σ H v u Q I r w => h.run pins s σ H v u Q I r (q _ _ _ _ w)⟩
section
variable {X : Cx} {e : Expr} {es : List Expr} {t : TG} {ts : List TG} {pos : Pos}
theorem xg_nm {i : Nat} {x : Str} (h : PG X (.Name x pos) (gName i)) : PG X (.Name x pos) (rdG X.K (.nm i)) :=
  PG.mono h fun v σ H Q ⟨ι, P, env, st, d, env', A, r, e, q⟩ => by
    unfold TG.put at e
    cases e
    refine q _ (A.e.set i (.dat r)) ⟨List.length_set, fun j hj => ?_⟩
    unfold TG.slots at hj
    rw [List.getElem?_set_ne (fun z => hj (by rw [z]; exact List.mem_singleton_self _))]
theorem xgs_nil : PGs X [] (rdGs X.K []) :=
  PGs.mono pgs_nil fun v σ H Q ⟨ι, P, env, st, ds, env', A, r, e, q⟩ => by
    cases r with
    | nil =>
      unfold TG.puts at e
      cases e
      exact ⟨rfl, q _ A.e (But.refl _ _)⟩
    | cons _ _ =>
      unfold TG.puts at e
      cases e
theorem each_cons {env : PySem.Env} (h : noStar e = true) : (assignEach (e :: es) env).map (·.2) = assign e env :: (assignEach es env).map (·.2) := by
  cases e <;> first | rfl | cases h
theorem each_len {env : PySem.Env} : ∀ {es : List Expr}, (assignEach es env).length = es.length
  | [] => rfl
  | e :: es => by
    have ih := @each_len env es
    cases e <;> (show (assignEach es env).length + 1 = es.length + 1; rw [ih])
theorem each_star {env : PySem.Env} : ∀ {es : List Expr}, es.all noStar = true → (assignEach es env).findIdx? (·.1) = none
  | [], _ => rfl
  | e :: es, h => by
    rw [List.all_cons, Bool.and_eq_true] at h
    have ih := @each_star env es h.2
    have key : assignEach (e :: es) env = (false, assign e env) :: assignEach es env := by
      have h1 := h.1
      cases e <;> first | rfl | cases h1
    rw [key, List.findIdx?_cons, ih]
    rfl
theorem xgs_cons (h1 : PG X e (rdG X.K t)) (h2 : PGs X es (rdGs X.K ts)) (hs : noStar e = true) : PGs X (e :: es) (rdGs X.K (t :: ts)) :=
  PGs.mono (pgs_cons h1 h2 (each_cons hs)) fun v σ H Q ⟨ι, P, env, st, ds, env', A, r, e, q⟩ => by
    cases r with
    | nil =>
      unfold TG.puts at e
      cases e
    | cons r1 r2 =>
      unfold TG.puts at e
      split at e
      · rename_i env1 he1
        refine ⟨_, _, rfl, ι, P, env, st, _, env1, A, r1, he1, fun σ1 R1 B1 => ?_⟩
        refine ⟨ι, P, env1, st, _, env', ⟨R1, A.s⟩, r2, e, fun σ2 R2 B2 => q σ2 R2 ?_⟩
        unfold TG.slotsL
        exact B1.trans B2
      · cases e
theorem puts_len : ∀ {ts : List TG} {ds : List PyData} {env env' : Env}, TG.puts ts ds env = some env' → ts.length = ds.length
  | [], [], _, _, _ => rfl
  | [], _ :: _, _, _, e => by unfold TG.puts at e; cases e
  | _ :: _, [], _, _, e => by unfold TG.puts at e; cases e
  | t :: ts, d :: ds, env, env', e => by
    unfold TG.puts at e
    split at e
    · rw [List.length_cons, List.length_cons, puts_len e]
    · cases e
theorem xg_tup {k : Nat} (hc : X.calm = true) (h : PGs X es (rdGs X.K ts)) (hl : es.length = ts.length) (hs : es.all noStar = true) : PG X (.Tuple es k pos) (rdG X.K (.tup ts)) :=
  PG.mono (pg_tup (n := es.length) hc h each_len (each_star hs)) fun v σ H Q ⟨ι, P, env, st, d, env', A, r, e, q⟩ => by
    unfold TG.put at e
    split at e
    · rename_i heq
      cases heq
    · rename_i ts' ds heq
      cases heq
      cases r with
      | tup g1 g3 =>
        exact ⟨_, _, rfl, g1, by rw [g3.length, hl, puts_len e], ι, P, _, st, _, _, A, g3, e, fun σ' R B => q σ' R (by unfold TG.slots; exact B)⟩
    · cases e
end
end Ev
/-! EvComp: list comprehensions over the combinators. -/
namespace Ev
open PySem PySem.Spec PyProof.Rows L2

def lcIt (nx : Nat → Sto → Option (Option PyData)) (f : PyData → Sto → Out (List PyData)) : Nat → Nat → Sto → Out (List PyData)
  | 0, _, _ => .bad
  | k + 1, i, s => match nx i s with
    | some (some x) => (f x s).bind fun ys s => (lcIt nx f k (i + 1) s).bind fun r s => .ok (ys ++ r) s
    | some none => .ok [] s
    | none => .bad
theorem lcGo_it {f : PyData → Sto → Out (List PyData)} {xs : List PyData} : ∀ (n i : Nat) (s : Sto) (r : List PyData) (s' : Sto), i + n = xs.length → lcGo f (xs.drop i) s = .ok r s' → lcIt (nxt (.its xs)) f (n + 1) i s = .ok r s'
  | 0, i, s, r, s', hi, h => by
    rw [List.drop_eq_nil_of_le (by omega)] at h
    unfold lcIt
    simp only [nxt, List.getElem?_eq_none (show xs.length ≤ i by omega)]
    exact h
  | n + 1, i, s, r, s', hi, h => by
    have hlt : i < xs.length := by omega
    rw [List.drop_eq_getElem_cons hlt] at h
    unfold lcGo at h
    obtain ⟨ys, s1, h1, h⟩ := bind_ok h
    obtain ⟨zs, s2, h2, h⟩ := bind_ok h
    unfold lcIt
    simp only [nxt, List.getElem?_eq_getElem hlt, h1, Out.bind]
    rw [lcGo_it n (i + 1) s1 zs s2 (by omega) h2]
    exact h
theorem lcAt_it {f : PyData → Sto → Out (List PyData)} {n : Nat} : ∀ (k i : Nat) (s : Sto) (r : List PyData) (s' : Sto), lcAt f n k i s = .ok r s' → lcIt (nxt (.at_ n)) f k i s = .ok r s'
  | 0, i, s, r, s', h => by unfold lcAt at h; cases h
  | k + 1, i, s, r, s', h => by
    unfold lcAt at h
    unfold lcIt
    split at h
    · rename_i xs hs
      simp only [nxt, hs]
      split at h
      · rename_i x hx
        simp only [hx]
        obtain ⟨ys, s1, h1, h⟩ := bind_ok h
        obtain ⟨zs, s2, h2, h⟩ := bind_ok h
        simp only [h1, Out.bind]
        rw [lcAt_it k (i + 1) s1 zs s2 h2]
        exact h
      · rename_i hx
        simp only [hx]
        exact h
    · cases h
theorem lcRun_it {f : PyData → Sto → Out (List PyData)} {src : Src} {s s' : Sto} {r : List PyData} (h : lcRun f src s = .ok r s') : ∃ k, lcIt (nxt src) f k 0 s = .ok r s' := by
  cases src with
  | its xs => exact ⟨xs.length + 1, lcGo_it xs.length 0 s r s' (by omega) h⟩
  | at_ n =>
    unfold lcRun at h
    split at h
    · rename_i hq; cases hq
    · rename_i hq
      cases hq
      split at h
      · exact ⟨_, lcAt_it _ _ _ _ _ h⟩
      · cases h

section
variable {K : PySem.W.Frag} {H H1 H' : Hp} {P P' : AP'} {ι : List Addr} {s st : Sto} {σ : L2.St} {env : Env} {D : Addr}
/-- the list at D grows -/
structure Acc (K : PySem.W.Frag) (P : AP') (ι : List Addr) (D : Addr) (H1 H : Hp) (s : Sto) (rs : List PyData) : Prop where
  a : ∃ acc, H D = some (.lst acc) ∧ RpAll K H P acc rs
  s : RS K H P ι s
  x : ExtP (fun x => x ∈ ι ∨ x = D) H1 H
theorem RS.out (r : RS K H P ι s) (hD : D ∉ ι) (hP : P D) {xs ys : List V} (h : H D = some (.lst xs)) : RS K (L2.upd H D (.lst ys)) P ι s := by
  have hx : ExtP P H (L2.upd H D (.lst ys)) := fun b o e q => by
    by_cases z : b = D
    · subst z
      rcases q with q | q
      · exact absurd hP q
      · rw [h] at e; cases e; exact absurd rfl (q xs)
    · rw [upd_ne z]; exact e
  refine ⟨r.len, r.nd, r.pin, fun a p z => ?_, fun n a e => ?_⟩
  · by_cases y : a = D
    · subst y; rw [upd_same] at z; cases z
    · rw [upd_ne y] at z; exact r.pthere a p z
  · obtain ⟨es, zs, g1, g2, g3⟩ := r.at_ n a e
    exact ⟨es, zs, g1, by rw [upd_ne (fun z => hD (by rw [← z]; exact List.mem_of_getElem? e))]; exact g2, g3.ext hx _ _⟩
/-- one more item -/
theorem Acc.app {rs : List PyData} {y : V} {d : PyData} (a : Acc K P ι D H1 H s rs) (hD : D ∉ ι) (hP : P D) (r : Rp K H P y d) (hl : rs.length < line) : ∃ acc, H D = some (.lst acc) ∧ acc.length < sizeLine ∧ Acc K P ι D H1 (L2.upd H D (.lst (acc ++ [y]))) s (rs ++ [d]) := by
  obtain ⟨acc, h1, h2⟩ := a.a
  have hx : ExtP P H (L2.upd H D (.lst (acc ++ [y]))) := fun b o e q => by
    by_cases z : b = D
    · subst z
      rcases q with q | q
      · exact absurd hP q
      · rw [h1] at e; cases e; exact absurd rfl (q acc)
    · rw [upd_ne z]; exact e
  refine ⟨acc, h1, by rw [h2.length, ← line_eq]; exact hl, ⟨_, upd_same, (h2.append (.cons r .nil)).ext hx _ _⟩, a.s.out hD hP h1, fun b o e q => ?_⟩
  have q1 := a.x b o e q
  by_cases z : b = D
  · subst z
    rcases q with q | q
    · exact absurd (.inr rfl) q
    · rw [h1] at q1; cases q1; exact absurd rfl (q acc)
  · rw [upd_ne z]; exact q1
/-- a step that keeps what is not at ι -/
theorem Acc.step {rs : List PyData} {H2 : Hp} {s2 : Sto} (a : Acc K P ι D H1 H s rs) (hD : D ∉ ι) (hP : P D) (x : Ext ι H H2) (r : RS K H2 P ι s2) : Acc K P ι D H1 H2 s2 rs := by
  obtain ⟨acc, h1, h2⟩ := a.a
  exact ⟨⟨acc, x D _ h1 (.inl hD), h2.ext (a.s.extP x) _ _⟩, r, a.x.trans (x.mono fun _ z => .inl z)⟩
theorem wipe_same : ∀ {vs : List Nat} {σ σ' : L2.St}, But vs σ σ' → L2.wipe σ' vs = L2.wipe σ vs := by
  intro vs σ σ' b
  have get : ∀ (vs : List Nat) (σ : L2.St) (i : Nat), (L2.wipe σ vs)[i]? = if i ∈ vs ∧ i < σ.length then some none else σ[i]? := by
    intro vs
    induction vs with
    | nil => intro σ i; unfold L2.wipe; simp
    | cons v vs ih =>
      intro σ i
      unfold L2.wipe
      by_cases hv : v = i
      · subst hv
        by_cases hl : v < σ.length
        · rw [List.getElem?_set_self (by rw [L2.wipe_length]; exact hl), if_pos ⟨List.mem_cons_self, hl⟩]
        · rw [List.getElem?_eq_none (by rw [List.length_set, L2.wipe_length]; omega), if_neg (fun z => hl z.2), List.getElem?_eq_none (by omega)]
      · rw [List.getElem?_set_ne hv, ih]
        have e : (i ∈ vs ∧ i < σ.length) ↔ (i ∈ v :: vs ∧ i < σ.length) := by
          rw [List.mem_cons]
          exact ⟨fun z => ⟨.inr z.1, z.2⟩, fun z => ⟨z.1.resolve_left (fun y => hv y.symm), z.2⟩⟩
        by_cases h : i ∈ vs ∧ i < σ.length
        · rw [if_pos h, if_pos (e.mp h)]
        · rw [if_neg h, if_neg (fun z => h (e.mpr z))]
  apply List.ext_getElem?
  intro i
  rw [get, get, b.1]
  by_cases h : i ∈ vs ∧ i < σ.length
  · rw [if_pos h, if_pos h]
  · rw [if_neg h, if_neg h]
    by_cases h1 : i ∈ vs
    · rw [List.getElem?_eq_none (by rw [b.1]; exact Nat.le_of_not_lt fun z => h ⟨h1, z⟩), List.getElem?_eq_none (Nat.le_of_not_lt fun z => h ⟨h1, z⟩)]
    · exact b.2 i h1
theorem wipe_wipe {vs : List Nat} {σ : L2.St} : L2.wipe (L2.wipe σ vs) vs = L2.wipe σ vs := by
  have get : ∀ (vs : List Nat) (σ : L2.St) (i : Nat), i ∉ vs → (L2.wipe σ vs)[i]? = σ[i]? := by
    intro vs
    induction vs with
    | nil => intro σ i _; rfl
    | cons v vs ih =>
      intro σ i hi
      unfold L2.wipe
      rw [List.getElem?_set_ne (fun z => hi (by rw [z]; exact List.mem_cons_self)), ih σ i fun z => hi (List.mem_cons_of_mem _ z)]
  exact wipe_same ⟨L2.wipe_length _ _, fun i hi => get vs σ i hi⟩
theorem But.mono {is js : List Nat} {σ σ' : L2.St} (b : But is σ σ') (h : ∀ i ∈ is, i ∈ js) : But js σ σ' := ⟨b.1, fun i hi => b.2 i fun z => hi (h i z)⟩
end

/-- the outer loop of a comprehension, its block's end by bd -/
theorem lc_outer {K : PySem.W.Frag} {tg : TG} {own vs : List Nat} {c : MT} {g : Env → Sto → Out (List PyData)} {bd : Addr → L2.St → Hp → (Hp → Prop) → Prop}
    {ι : List Addr} {P : AP'} {env : Env} {σ : L2.St} {H0 H1 : Hp} {s1 s2 : Sto} {src : Src} {r : List PyData} {J : It} {Qd : Hp → Prop} {D : Addr}
    (hb : ∀ (σ2 : L2.St) (env' : Env) (s s' : Sto) (ys rs : List PyData) (H : Hp) (Nx : Hp → Prop), RE K H (Pl P D) ι σ2 env' → Acc K (Pl P D) ι D H1 H s rs → g env' s = .ok ys s' → (rs ++ ys).length ≤ line →
      (∀ H', Acc K (Pl P D) ι D H1 H' s' (rs ++ ys) → Nx H') → bd D σ2 H Nx)
    (hsl : ∀ i ∈ tg.slots, i ∈ own) (e0 : RE K H1 P ι σ env) (hr1 : RS K H1 P ι s1) (w : WalkG K P ι J src H1) (hD : H1 D = none) (hrun : lcRun (turn tg own c g env) src s1 = .ok r s2) (hlen : r.length ≤ line)
    (hd : ∀ H, Acc K (Pl P D) ι D H1 H s2 r → Qd H) :
    ∃ W : Nat → Nat → Hp → Prop, (∃ m, W 0 m (upd H1 D (.lst []))) ∧ ∀ i m H, W i m H →
      (J.stop i H ∧ Qd H) ∨ (J.go i H ∧ ∃ Nx : Hp → Prop, (∀ H', Nx H' → ∃ m', m' < m ∧ W (i + 1) m' H') ∧ ∀ x H', J.yld i H x H' → rdG K tg x (L2.wipe σ own) H' fun σ2 H2 => L2.wipe σ2 own = L2.wipe σ own ∧ rdT K c σ2 H2 fun b H3 =>
        if b = true then bd D σ2 H3 Nx else Nx H3) := by
  obtain ⟨k0, hk0⟩ := lcRun_it hrun
  have hDι : D ∉ ι := fun z => hr1.pthere D (hr1.pin D z) hD
  have sm := same_upd (o := .lst []) hD
  refine ⟨fun i m H => ∃ s rs rest, Acc K (Pl P D) ι D H1 H s rs ∧ lcIt (nxt src) (turn tg own c g env) m i s = .ok rest s2 ∧ rs ++ rest = r, ⟨k0, s1, [], r, ⟨⟨[], upd_same, .nil⟩, hr1.add hD, fun b o e _ => sm b o e⟩, hk0, rfl⟩, ?_⟩
  rintro i m H ⟨s, rs, rest, A, hit, hrest⟩
  cases m with
  | zero => unfold lcIt at hit; cases hit
  | succ m =>
    unfold lcIt at hit
    have hfresh : ∀ a, Pl P D a → P a ∨ H1 a = none := fun a z => z.imp id fun y => by rw [y]; exact hD
    have hxP : ExtP (Pl P D) H1 H := A.x.mono fun a z => z.imp (fun y => hr1.pin a y) id
    obtain ⟨w1, w2⟩ := w (Pl P D) ι s H (List.prefix_refl _) hfresh hxP A.s i
    split at hit
    · rename_i d hn
      obtain ⟨w3, w4⟩ := w2 d hn
      obtain ⟨ys, s3, hf, hit⟩ := bind_ok hit
      obtain ⟨zs, s4, hi2, hit⟩ := bind_ok hit
      cases hit
      refine .inr ⟨w3, fun H' => ∃ m', m' < m + 1 ∧ ∃ s rs rest, Acc K (Pl P D) ι D H1 H' s rs ∧ lcIt (nxt src) (turn tg own c g env) m' (i + 1) s = .ok rest s2 ∧ rs ++ rest = r, fun H' z => z, fun x H2 hy => ?_⟩
      obtain ⟨sm2, rx⟩ := w4 x H2 hy
      have A2 : Acc K (Pl P D) ι D H1 H2 s rs := A.step hDι (.inr rfl) (.same sm2) (A.s.same sm2)
      have E2 : RE K H2 (Pl P D) ι (L2.wipe σ own) (wipeE env own) := (((e0.toP hfresh).ext hxP).ext (.same sm2)).wipe own
      unfold turn at hf
      split at hf
      · rename_i env' hput
        refine ⟨ι, Pl P D, _, s, d, env', ⟨E2, A2.s⟩, rx, hput, fun σ2 R2 B2 => ⟨?_, ?_⟩⟩
        · rw [wipe_same (B2.mono hsl), wipe_wipe]
        · obtain ⟨b, s5, hc, hf⟩ := bind_ok hf
          refine ⟨ι, Pl P D, env', s, ⟨R2, A2.s⟩, b, s5, hc, fun H3 x3 r3 => ?_⟩
          have A3 := A2.step hDι (.inr rfl) x3 r3
          cases b with
          | true =>
            refine iteT ?_
            refine hb σ2 env' s5 s3 ys rs H3 _ (R2.ext (A2.s.extP x3)) A3 hf ?_ fun H' A' => ⟨m, Nat.lt_succ_self _, s3, rs ++ ys, zs, A', hi2, by rw [List.append_assoc]; exact hrest⟩
            rw [← hrest] at hlen
            simp only [List.length_append] at hlen ⊢
            omega
          | false =>
            cases hf
            refine iteF ?_
            exact ⟨m, Nat.lt_succ_self _, _, rs, zs, A3, hi2, hrest⟩
      · cases hf
    · rename_i hn
      cases hit
      rw [List.append_nil] at hrest
      subst hrest
      exact .inl ⟨w1 hn, hd H A⟩
    · cases hit
theorem okL_ok {xs : List PyData} {s s' : Sto} {v : Vl} (h : okL xs s = .ok v s') : xs.length ≤ line ∧ v = .dat (.list xs) ∧ s' = s := by
  obtain ⟨c, h1, h2⟩ := of_ifOk h
  exact ⟨Nat.le_of_ble_eq_true c, h1, h2⟩
theorem Acc.end_ {K : PySem.W.Frag} {P : AP'} {ι : List Addr} {D : Addr} {H0 H1 H : Hp} {s : Sto} {r : List PyData} (A : Acc K (Pl P D) ι D H1 H s r) (x : Ext ι H0 H1) (hD : H1 D = none) : Ext ι H0 H := fun b o e q => by
  have h1 := x b o e q
  refine A.x b o h1 (q.imp (fun y z => z.elim y fun w => ?_) id)
  rw [w, hD] at h1; cases h1
theorem lc_read {K : PySem.W.Frag} {it : MI} {tg : TG} {own : List Nat} {c : MT} {e : ME} (hsl : ∀ i ∈ tg.slots, i ∈ own) {σ : L2.St} {H : Hp} {Q : VK} (h : rdF K (eLc it tg own c e) σ H Q) : tLc (rdI K it) (rdG K tg) (rdT K c) (rdE K e) own σ H Q := by
  obtain ⟨ι, P, env, st, A, ds, st', he, q⟩ := h
  obtain ⟨src, s1, h1, he⟩ := bind_ok (noX_ok he)
  obtain ⟨r, s2, h2, he⟩ := bind_ok he
  obtain ⟨hl, hv, rfl⟩ := okL_ok he
  cases hv
  refine ⟨ι, P, env, st, A, src, s1, h1, fun J H1 x1 r1 w D hD => ?_⟩
  have A1 := A.next x1 r1
  have hDι : D ∉ ι := fun z => r1.pthere D (r1.pin D z) hD
  refine lc_outer (vs := own) (bd := fun D σ2 H3 Nx => rdE K e σ2 H3 fun y H4 => ∃ acc, H4 D = some (.lst acc) ∧ acc.length < sizeLine ∧ Nx (upd H4 D (.lst (acc ++ [y])))) (H0 := H) (fun σ2 env' s s' ys rs H3 Nx R2 A3 hg hlen hN => ?_) hsl A1.e r1 w hD h2 hl fun H2 A2 => ?_
  · obtain ⟨v, s6, h6, hg⟩ := bind_ok hg
    split at hg
    · cases hg
      refine ⟨ι, _, env', s, ⟨R2, A3.s⟩, _, _, h6, fun y H4 x4 r4 rv => ?_⟩
      have A4 := A3.step hDι (.inr rfl) x4 r4
      obtain ⟨acc, g1, g2, g3⟩ := A4.app hDι (.inr rfl) rv.dat' (by
        simp only [List.length_append, List.length_cons, List.length_nil] at hlen; omega)
      exact ⟨acc, g1, g2, hN _ g3⟩
    · cases hg
  · obtain ⟨acc, g1, g2⟩ := A2.a
    exact q D H2 acc (none_back A.s x1 hD r1.pthere) (A2.end_ x1 hD) A2.s g1 g2
theorem inner_read {K : PySem.W.Frag} {tg : TG} {own : List Nat} {c : MT} {e : ME} {ι : List Addr} {P : AP'} {env : Env} {σ : L2.St} {H0 H1 : Hp} {s1 s2 : Sto} {src : Src} {rs r : List PyData} {J : It} {Nx : Hp → Prop} {D : Addr}
    (hsl : ∀ i ∈ tg.slots, i ∈ own) (e0 : RE K H1 P ι σ env) (hDι : D ∉ ι) (hP : P D) (A0 : Acc K P ι D H0 H1 s1 rs) (w : WalkG K P ι J src H1) (hrun : lcRun (turn tg own c (one e) env) src s1 = .ok r s2) (hlen : (rs ++ r).length ≤ line)
    (hd : ∀ H, Acc K P ι D H0 H s2 (rs ++ r) → Nx H) :
    ∃ W1 : Nat → Nat → Hp → Prop, (∃ m, W1 0 m H1) ∧ ∀ j k H, W1 j k H →
      (J.stop j H ∧ Nx H) ∨ (J.go j H ∧ ∃ Nx1 : Hp → Prop, (∀ H', Nx1 H' → ∃ k', k' < k ∧ W1 (j + 1) k' H') ∧ ∀ x H', J.yld j H x H' → rdG K tg x (L2.wipe σ own) H' fun σ3 H5 => L2.wipe σ3 own = L2.wipe σ own ∧ rdT K c σ3 H5 fun b H6 =>
        if b = true then rdE K e σ3 H6 fun y H7 => ∃ acc, H7 D = some (.lst acc) ∧ acc.length < sizeLine ∧ Nx1 (upd H7 D (.lst (acc ++ [y]))) else Nx1 H6) := by
  obtain ⟨k0, hk0⟩ := lcRun_it hrun
  refine ⟨fun j m H => ∃ s rs' rest, Acc K P ι D H1 H s (rs ++ rs') ∧ lcIt (nxt src) (turn tg own c (one e) env) m j s = .ok rest s2 ∧ rs' ++ rest = r, ⟨k0, s1, [], r, ⟨by rw [List.append_nil]; exact A0.a, A0.s, ExtP.refl _ _⟩, hk0, rfl⟩, ?_⟩
  rintro j m H ⟨s, rs', rest, A, hit, hrest⟩
  cases m with
  | zero => unfold lcIt at hit; cases hit
  | succ m =>
    unfold lcIt at hit
    have hxP : ExtP P H1 H := A.x.mono fun a z => z.elim (fun y => A0.s.pin a y) fun y => by rw [y]; exact hP
    obtain ⟨w1, w2⟩ := w P ι s H (List.prefix_refl _) (fun a z => .inl z) hxP A.s j
    split at hit
    · rename_i d hn
      obtain ⟨w3, w4⟩ := w2 d hn
      obtain ⟨ys, s3, hf, hit⟩ := bind_ok hit
      obtain ⟨zs, s4, hi2, hit⟩ := bind_ok hit
      cases hit
      refine .inr ⟨w3, fun H' => ∃ m', m' < m + 1 ∧ ∃ s rs' rest, Acc K P ι D H1 H' s (rs ++ rs') ∧ lcIt (nxt src) (turn tg own c (one e) env) m' (j + 1) s = .ok rest s2 ∧ rs' ++ rest = r, fun H' z => z, fun x H2 hy => ?_⟩
      obtain ⟨sm2, rx⟩ := w4 x H2 hy
      have A2 : Acc K P ι D H1 H2 s (rs ++ rs') := A.step hDι hP (.same sm2) (A.s.same sm2)
      have E2 : RE K H2 P ι (L2.wipe σ own) (wipeE env own) := ((e0.ext hxP).ext (.same sm2)).wipe own
      unfold turn at hf
      split at hf
      · rename_i env' hput
        refine ⟨ι, P, _, s, d, env', ⟨E2, A2.s⟩, rx, hput, fun σ2 R2 B2 => ⟨?_, ?_⟩⟩
        · rw [wipe_same (B2.mono hsl), wipe_wipe]
        · obtain ⟨b, s5, hc, hf⟩ := bind_ok hf
          refine ⟨ι, P, env', s, ⟨R2, A2.s⟩, b, s5, hc, fun H3 x3 r3 => ?_⟩
          have A3 := A2.step hDι hP x3 r3
          cases b with
          | true =>
            refine iteT ?_
            obtain ⟨v, s6, h6, hf⟩ := bind_ok hf
            split at hf
            · cases hf
              refine ⟨ι, P, env', s5, ⟨R2.ext (A2.s.extP x3), A3.s⟩, _, _, h6, fun y H4 x4 r4 rv => ?_⟩
              have A4 := A3.step hDι hP x4 r4
              rw [← hrest] at hlen
              obtain ⟨acc, g1, g2, g3⟩ := A4.app hDι hP rv.dat' (by
                simp only [List.length_append, List.length_cons, List.length_nil] at hlen ⊢; omega)
              rw [List.append_assoc] at g3
              exact ⟨acc, g1, g2, m, Nat.lt_succ_self _, _, _, zs, g3, hi2, by rw [List.append_assoc]; exact hrest⟩
            · cases hf
          | false =>
            cases hf
            refine iteF ?_
            exact ⟨m, Nat.lt_succ_self _, _, rs', zs, A3, hi2, hrest⟩
      · cases hf
    · rename_i hn
      cases hit
      rw [List.append_nil] at hrest
      subst hrest
      exact .inl ⟨w1 hn, hd H ⟨A.a, A.s, A0.x.trans A.x⟩⟩
    · cases hit
theorem lc2_read {K : PySem.W.Frag} {it it1 : MI} {tg tg1 : TG} {own own1 : List Nat} {c c1 : MT} {e : ME} (hsl : ∀ i ∈ tg.slots, i ∈ own) (hsl1 : ∀ i ∈ tg1.slots, i ∈ own1) {σ : L2.St} {H : Hp} {Q : VK} (h : rdF K (eLc2 it tg own c it1 tg1 own1 c1 e) σ H Q) :
    tLc2 (rdI K it) (rdG K tg) (rdT K c) (rdI K it1) (rdG K tg1) (rdT K c1) (rdE K e) own own1 σ H Q := by
  obtain ⟨ι, P, env, st, A, ds, st', he, q⟩ := h
  obtain ⟨src, s1, h1, he⟩ := bind_ok (noX_ok he)
  obtain ⟨r, s2, h2, he⟩ := bind_ok he
  obtain ⟨hl, hv, rfl⟩ := okL_ok he
  cases hv
  refine ⟨ι, P, env, st, A, src, s1, h1, fun J H1 x1 r1 w D hD => ?_⟩
  have A1 := A.next x1 r1
  have hDι : D ∉ ι := fun z => r1.pthere D (r1.pin D z) hD
  refine lc_outer (vs := own) (bd := fun D σ2 H3 Nx => rdI K it1 σ2 H3 fun J1 H4 => ∃ W1 : Nat → Nat → Hp → Prop, (∃ m, W1 0 m H4) ∧ ∀ j k H, W1 j k H →
      (J1.stop j H ∧ Nx H) ∨ (J1.go j H ∧ ∃ Nx1 : Hp → Prop, (∀ H', Nx1 H' → ∃ k', k' < k ∧ W1 (j + 1) k' H') ∧ ∀ x H', J1.yld j H x H' → rdG K tg1 x (L2.wipe σ2 own1) H' fun σ3 H5 => L2.wipe σ3 own1 = L2.wipe σ2 own1 ∧ rdT K c1 σ3 H5 fun b H6 =>
        if b = true then rdE K e σ3 H6 fun y H7 => ∃ acc, H7 D = some (.lst acc) ∧ acc.length < sizeLine ∧ Nx1 (upd H7 D (.lst (acc ++ [y]))) else Nx1 H6)) (H0 := H) (fun σ2 env' s s' ys rs H3 Nx R2 A3 hg hlen hN => ?_) hsl A1.e r1 w hD h2 hl fun H2 A2 => ?_
  · obtain ⟨src1, s6, h6, hg⟩ := bind_ok hg
    refine ⟨ι, _, env', s, ⟨R2, A3.s⟩, src1, s6, h6, fun J1 H4 x4 r4 w4 => ?_⟩
    have A4 := A3.step hDι (.inr rfl) x4 r4
    exact inner_read hsl1 (R2.ext (A3.s.extP x4)) hDι (.inr rfl) A4 w4 hg hlen hN
  · obtain ⟨acc, g1, g2⟩ := A2.a
    exact q D H2 acc (none_back A.s x1 hD r1.pthere) (A2.end_ x1 hD) A2.s g1 g2
end Ev
/-! EvStm: statements, defs over the combinators. -/
namespace Ev
open PySem PySem.Spec PyProof.Rows L2

/-- from H to H', where new lists may come in -/
structure Gr (ι : List Addr) (P : AP') (H : Hp) (ι' : List Addr) (P' : AP') (H' : Hp) : Prop where
  pre : ι <+: ι'
  inc : ∀ a, P a → P' a
  new : ∀ a, P' a → P a ∨ H a = none
  nw : ∀ a ∈ ι', a ∈ ι ∨ H a = none
  x : Ext ι H H'
theorem Gr.of {ι : List Addr} {P : AP'} {H H' : Hp} (x : Ext ι H H') : Gr ι P H ι P H' := ⟨List.prefix_refl _, fun _ h => h, fun _ h => .inl h, fun _ h => .inl h, x⟩
section
variable {K : PySem.W.Frag} {ι ι1 ι2 : List Addr} {P P1 P2 : AP'} {H H1 H2 : Hp} {st st1 : Sto} {σ : L2.St} {env : Env}
theorem Gr.trans (a : Gr ι P H ι1 P1 H1) (b : Gr ι1 P1 H1 ι2 P2 H2) (h : ∀ x ∈ ι, H1 x ≠ none) : Gr ι P H ι2 P2 H2 := by
  have back : ∀ x, H1 x = none → H x = none := fun x e => by
    cases z : H x with
    | none => rfl
    | some o =>
      by_cases y : x ∈ ι
      · exact absurd e (h x y)
      · rw [a.x x o z (.inl y)] at e; cases e
  refine ⟨a.pre.trans b.pre, fun x y => b.inc x (a.inc x y), fun x y => ?_, fun x y => ?_, fun c o e q => ?_⟩
  · rcases b.new x y with z | z
    · exact a.new x z
    · exact .inr (back x z)
  · rcases b.nw x y with z | z
    · exact a.nw x z
    · exact .inr (back x z)
  · refine b.x c o (a.x c o e q) ?_
    rcases q with q | q
    · left
      intro z
      rcases a.nw c z with y | y
      · exact q y
      · rw [e] at y; cases y
    · exact .inr q
theorem RS.there (r : RS K H P ι st) (h : ι1 <+: ι) : ∀ x ∈ ι1, H x ≠ none := fun x hx => r.pthere x (r.pin x (h.subset hx))
def rdS (K : PySem.W.Frag) (m : MS) : TS := fun D σ H => ∃ ι P env st, At K H P ι σ env st ∧ ∃ r st', m env st = .ok r st' ∧ match r with
  | .nx env' => ∀ σ' H' ι' P', Gr ι P H ι' P' H' → At K H' P' ι' σ' env' st' → D.nx σ' H'
  | .rt v => ∀ u H' ι' P', Gr ι P H ι' P' H' → RS K H' P' ι' st' → RV K H' P' ι' u v → D.rt u H'
end
section
variable {X : Cx} {a b c e : Expr} {es : List Expr} {s0 s1 : Stmt} {ss : List Stmt} {ma mb mc : ME} {m m2 : MS} {mA : MA} {pos p p1 apos tpos : Pos} {x : Str}
theorem xs_nil : PSs X [] (rdS X.K sNil) :=
  PSs.mono pss_nil fun D σ H ⟨ι, P, env, st, A, r, st', e, q⟩ => by
    cases e
    exact q σ H ι P (Gr.of (ExtP.refl _ _)) A
theorem xs_one (h : PS X s0 (rdS X.K m)) : PSs X [s0] (rdS X.K m) := pss_one h
theorem xs_cons (h : PS X s0 (rdS X.K m)) (h2 : PSs X ss (rdS X.K m2)) : PSs X (s0 :: ss) (rdS X.K (sCons m m2)) :=
  PSs.mono (pss_cons h h2) fun D σ H ⟨ι, P, env, st, A, r, st', e, q⟩ => by
    obtain ⟨r1, st1, h1, e⟩ := bind_ok e
    refine ⟨ι, P, env, st, A, r1, st1, h1, ?_⟩
    cases r1 with
    | rt v =>
      cases e
      exact q
    | nx env1 =>
      intro σ1 H1 ι1 P1 g1 A1
      refine ⟨ι1, P1, env1, st1, A1, r, st', e, ?_⟩
      have hh := A1.s.there g1.pre
      cases r with
      | nx env' => exact fun σ' H' ι' P' g A' => q σ' H' ι' P' (g1.trans g hh) A'
      | rt v => exact fun u H' ι' P' g r2 rv => q u H' ι' P' (g1.trans g hh) r2 rv
theorem xs_pass : PS X (.Pass pos) (rdS X.K sNil) :=
  PS.mono ps_pass fun D σ H ⟨ι, P, env, st, A, r, st', e, q⟩ => by
    cases e
    exact q σ H ι P (Gr.of (ExtP.refl _ _)) A
theorem xs_bad : PS X s0 (rdS X.K sBad) :=
  PS.mono (ps_never) fun D σ H ⟨ι, P, env, st, A, r, st', e, q⟩ => by cases e
theorem xs_ret (ha : PE X a (rdE X.K ma)) : PS X (.Return (some a) pos) (rdS X.K (sRet ma)) :=
  PS.mono (ps_ret ha) fun D σ H ⟨ι, P, env, st, A, r, st', e, q⟩ => by
    obtain ⟨v, s1, h1, e⟩ := bind_ok e
    cases e
    exact rdE.bind A h1 fun u H1 x1 A1 r1 => q u H1 ι P (Gr.of x1) A1.s r1
theorem xs_retN : PS X (.Return none pos) (rdS X.K sRetN) :=
  PS.mono ps_retN fun D σ H ⟨ι, P, env, st, A, r, st', e, q⟩ => by
    cases e
    exact q _ H ι P (Gr.of (ExtP.refl _ _)) A.s (.dat .non)
theorem xs_if {t1 t2 : List Stmt} (hc : PT X c (rdT X.K (tOf mc))) (h1 : PSs X t1 (rdS X.K m)) (h2 : PSs X t2 (rdS X.K m2)) : PS X (.If c t1 t2 pos) (rdS X.K (sIf mc m m2)) :=
  PS.mono (ps_if hc h1 h2) fun D σ H ⟨ι, P, env, st, A, r, st', e, q⟩ => by
    obtain ⟨k, s1, g1, e⟩ := bind_ok e
    refine rdT.bind A g1 fun H1 x1 A1 => ?_
    have go : ∀ mm : MS, mm env s1 = .ok r st' → rdS X.K mm D σ H1 := fun mm em => by
      refine ⟨ι, P, env, s1, A1, r, st', em, ?_⟩
      have hh := A1.s.there (List.prefix_refl ι)
      cases r with
      | nx env' => exact fun σ' H' ι' P' g A' => q σ' H' ι' P' ((Gr.of x1).trans g hh) A'
      | rt v => exact fun u H' ι' P' g r2 rv => q u H' ι' P' ((Gr.of x1).trans g hh) r2 rv
    cases k with
    | true => exact iteT (go _ e)
    | false => exact iteF (go _ e)
theorem xs_exp (ha : PE X a (rdE X.K ma)) (hs : swapsWith a none pos.line X.env = pure false) : PS X (.Expr a pos) (rdS X.K (sExp ma)) :=
  PS.mono (ps_expr ha hs) fun D σ H ⟨ι, P, env, st, A, r, st', e, q⟩ => by
    obtain ⟨v, s1, h1, e⟩ := bind_ok e
    cases e
    exact rdE.bind A h1 fun u H1 x1 A1 r1 => q σ H1 ι P (Gr.of x1) A1
/-- name = e -/
theorem xs_set {i : Nat} (h : PS X s0 (tAsg (rdE X.K ma) (gName i))) : PS X s0 (rdS X.K (sSet i ma)) :=
  PS.mono h fun D σ H ⟨ι, P, env, st, A, r, st', e, q⟩ => by
    obtain ⟨v, s1, h1, e⟩ := bind_ok e
    cases e
    exact rdE.bind A h1 fun u H1 x1 A1 r1 => q _ H1 ι P (Gr.of x1) ⟨A1.e.set i r1, A1.s⟩
theorem prefix_get {α : Type} {l l' : List α} (h : l <+: l') {n : Nat} {v : α} (e : l[n]? = some v) : l'[n]? = some v := by
  obtain ⟨t, rfl⟩ := h
  rw [List.getElem?_append_left (List.getElem?_eq_some_iff.mp e).1]; exact e
theorem RE.grow {K : PySem.W.Frag} {H : Hp} {P : AP'} {ι ι' : List Addr} {σ : L2.St} {env : Env} (h : RE K H P ι σ env) (p : ι <+: ι') : RE K H P ι' σ env := ⟨h.len, fun i v e => by
  obtain ⟨u, h1, h2⟩ := h.at_ i v e
  refine ⟨u, h1, ?_⟩
  cases h2 with
  | dat r => exact .dat r
  | loc r => exact .loc (prefix_get p r)
  | scr r r2 => exact .scr r r2⟩
/-- name = a new list, changed later -/
theorem xs_new {i : Nat} (h : PS X s0 (tAsg (rdF X.K ma) (gName i))) : PS X s0 (rdS X.K (sNew i ma)) :=
  PS.mono h fun D σ H ⟨ι, P, env, st, A, r, st', e, q⟩ => by
    obtain ⟨v, s1, h1, e⟩ := bind_ok (noX_ok e)
    split at e
    · rename_i ds
      cases e
      refine ⟨ι, P, env, st, A, ds, s1, h1, fun a H1 xs hn x1 r1 ha hr => ?_⟩
      have hni : a ∉ ι := fun z => A.s.pthere a (A.s.pin a z) hn
      have hxP : ExtP (Pl P a) H H1 := x1.mono fun y z => .inl (A.s.pin y z)
      refine q _ H1 (ι ++ [a]) (Pl P a) ⟨List.prefix_append _ _, fun y z => .inl z, fun y z => z.imp id fun w => by rw [w]; exact hn, fun y z => ?_, x1⟩ ⟨?_, ?_⟩
      · rcases List.mem_append.mp z with w | w
        · exact .inl w
        · rw [List.mem_singleton.mp w]; exact .inr hn
      · refine RE.set (((A.e.toP (P' := Pl P a) fun y z => z.imp id fun w => by rw [w]; exact hn).ext hxP).grow (List.prefix_append _ _)) i (.loc ?_)
        rw [← r1.len, List.getElem?_append_right (Nat.le_refl _), Nat.sub_self]; rfl
      · refine ⟨by rw [List.length_append, List.length_append, r1.len]; rfl, ?_, fun y z => ?_, r1.pthere, fun n y z => ?_⟩
        · refine List.nodup_append.mpr ⟨r1.nd, List.nodup_cons.mpr ⟨List.not_mem_nil, List.nodup_nil⟩, fun y hy w hw => ?_⟩
          rw [List.mem_singleton.mp hw]
          exact fun z => hni (by rw [← z]; exact hy)
        · rcases List.mem_append.mp z with w | w
          · exact r1.pin y w
          · exact .inr (List.mem_singleton.mp w)
        · by_cases hl : n < ι.length
          · rw [List.getElem?_append_left hl] at z
            obtain ⟨es, ys, g1, g2, g3⟩ := r1.at_ n y z
            exact ⟨es, ys, by rw [List.getElem?_append_left (by rw [← r1.len]; exact hl)]; exact g1, g2, g3⟩
          · have hl2 : n = ι.length := by
              have := (List.getElem?_eq_some_iff.mp z).1
              rw [List.length_append] at this
              simp only [List.length_cons, List.length_nil] at this
              omega
            subst hl2
            rw [List.getElem?_append_right (Nat.le_refl _), Nat.sub_self] at z
            cases z
            exact ⟨ds, xs, by rw [r1.len, List.getElem?_append_right (Nat.le_refl _), Nat.sub_self]; rfl, ha, hr⟩
    · cases e
/-- targets = e -/
theorem xs_unp {tg : TG} {t : Expr} (ha : PE X a (rdE X.K ma)) (hg : PG X t (rdG X.K tg)) (hs : swapsWithSole [t] a pos.line X.env = pure false) (hw : swappedStores [t] a X.env = pure none) (hn : noStar t = true) : PS X (.Assign [t] a pos) (rdS X.K (sUnp tg ma)) :=
  PS.mono (ps_asg ha hg hs hw (each_cons hn)) fun D σ H ⟨ι, P, env, st, A, r, st', e, q⟩ => by
    obtain ⟨v, s1, h1, e⟩ := bind_ok (noX_ok e)
    refine rdE.bind A h1 fun u H1 x1 A1 r1 => ?_
    split at e
    · split at e
      · rename_i env' hp
        cases e
        exact ⟨ι, P, env, _, _, env', A1, r1.dat', hp, fun σ' R B => q σ' H1 ι P (Gr.of x1) ⟨R, A1.s⟩⟩
      · cases e
    · cases e
/-- o[i] = e -/
theorem xs_sub (ha : PE X a (rdE X.K ma)) (ho : PE X b (rdE X.K mb)) (hi : PE X c (rdE X.K mc)) (hs : swapsWithSole [.Subscript b c p] a pos.line X.env = pure false) (hw : swappedStores [.Subscript b c p] a X.env = pure none)
    (hx : ∀ v, assign (.Subscript b c p) X.env v = (do
      let ov ← holding [v] (eval b X.env)
      let iv ← holding [v, ov] (eval c X.env)
      standAt p
      holding [v, ov, iv] (setItem ov iv v)
      release [v, ov, iv] [])) : PS X (.Assign [.Subscript b c p] a pos) (rdS X.K (sSub mb mc ma)) :=
  PS.mono (ps_asg ha (pg_sub ho hi set_list hx) hs hw (each_cons rfl)) fun D σ H ⟨ι, P, env, st, A, r, st', e, q⟩ => by
    obtain ⟨v, s1, h1, e⟩ := bind_ok (noX_ok e)
    obtain ⟨ov, s2, h2, e⟩ := bind_ok e
    obtain ⟨iv, s3, h3, e⟩ := bind_ok e
    refine rdE.bind A h1 fun u H1 x1 A1 r1 => rdE.bind A1 h2 fun w H2 x2 A2 r2 => rdE.bind A2 h3 fun z H3 x3 A3 r3 => ?_
    have r1' := (r1.ext (A1.s.extP x2)).ext (A2.s.extP x3)
    have r2' := r2.ext (A2.s.extP x3)
    split at e
    · split at e
      · rename_i s4 hput
        cases e
        unfold putAt at hput
        split at hput
        · split at hput
          · rename_i ds hds
            split at hput
            · rename_i j hj
              cases hput
              obtain ⟨l, rfl, hl⟩ := r2'.loc'
              cases r3.dat'
              obtain ⟨ds', xs, g1, g2, g3⟩ := A3.s.at_ _ l hl
              rw [hds] at g1; cases g1
              obtain ⟨y1, y2⟩ := A3.s.upd hl hds (RpAll.set r1'.dat' j g3)
              have hx := ((x1.trans x2).trans x3).trans y1
              exact ⟨l, xs, _, j, rfl, rfl, g2, by rw [g3.length]; exact hj, q σ _ ι P (Gr.of hx) ⟨A3.e.ext (A3.s.extP y1), y2⟩⟩
            · cases hput
          · cases hput
        · cases hput
      · cases e
    · cases e
/-- many at once -/
theorem setsE_re {K : PySem.W.Frag} {H : Hp} {P : AP'} {ι : List Addr} : ∀ {is : List Nat} {us : List V} {vs : List Vl} {σ : L2.St} {env env' : Env}, Paired (RV K H P ι) us vs → setsE is vs env = some env' → RE K H P ι σ env →
    us.length = is.length ∧ RE K H P ι ((is.zip us).foldl (fun σ q => σ.set q.1 (some q.2)) σ) env'
  | [], _, _, _, _, _, .nil, e, r => by unfold setsE at e; cases e; exact ⟨rfl, r⟩
  | [], _, _, _, _, _, .cons _ _, e, r => by unfold setsE at e; cases e
  | _ :: _, _, _, _, _, _, .nil, e, r => by unfold setsE at e; cases e
  | i :: is, _, _, _, _, _, .cons q t, e, r => by
    unfold setsE at e
    obtain ⟨h1, h2⟩ := setsE_re t e (r.set i q)
    exact ⟨by rw [List.length_cons, List.length_cons, h1], h2⟩
/-- a, b, .. = x, y, .. by any road -/
theorem xs_par {is : List Nat} {ts : TS} (h : PS X s0 ts) (hq : ∀ D σ H, (rdA X.K mA σ H fun vs H1 => vs.length = is.length ∧ D.nx ((is.zip vs).foldl (fun σ q => σ.set q.1 (some q.2)) σ) H1) → ts D σ H) : PS X s0 (rdS X.K (sPar is mA)) :=
  PS.mono h fun D σ H ⟨ι, P, env, st, A, r, st', e, q⟩ => by
    obtain ⟨v, s1, h1, e⟩ := bind_ok (noX_ok e)
    refine hq D σ H (rdA.bind A h1 fun u H1 x1 A1 r1 => ?_)
    split at e
    · rename_i env' hs
      cases e
      obtain ⟨g1, g2⟩ := setsE_re r1 hs A1.e
      exact ⟨g1, q _ H1 ι P (Gr.of x1) ⟨g2, A1.s⟩⟩
    · cases e
end

/-! ### loops -/
def forIt (nx : Nat → Sto → Option (Option PyData)) (tg : TG) (body : MS) : Nat → Nat → MS
  | 0, _, _, _ => .bad
  | k + 1, i, env, s => match nx i s with
    | some (some x) => match tg.put x env with
      | some env => (body env s).bind fun r s => match r with
        | .nx env => forIt nx tg body k (i + 1) env s
        | .rt v => .ok (.rt v) s
      | none => .bad
    | some none => .ok (.nx env) s
    | none => .bad
theorem forGo_it {tg : TG} {body : MS} {xs : List PyData} : ∀ (n i : Nat) (env : Env) (s : Sto) (r : SR) (s' : Sto), i + n = xs.length → forGo body tg (xs.drop i) env s = .ok r s' → forIt (nxt (.its xs)) tg body (n + 1) i env s = .ok r s'
  | 0, i, env, s, r, s', hi, h => by
    rw [List.drop_eq_nil_of_le (by omega)] at h
    unfold forIt
    simp only [nxt, List.getElem?_eq_none (show xs.length ≤ i by omega)]
    exact h
  | n + 1, i, env, s, r, s', hi, h => by
    have hlt : i < xs.length := by omega
    rw [List.drop_eq_getElem_cons hlt] at h
    unfold forGo at h
    unfold forIt
    simp only [nxt, List.getElem?_eq_getElem hlt]
    split at h
    · rename_i env1 hp
      try simp only [hp]
      obtain ⟨r1, s1, h1, h⟩ := bind_ok h
      simp only [h1, Out.bind]
      cases r1 with
      | nx env2 => exact forGo_it n (i + 1) env2 s1 r s' (by omega) h
      | rt v => exact h
    · cases h
theorem forAt_it {tg : TG} {body : MS} {n : Nat} : ∀ (k i : Nat) (env : Env) (s : Sto) (r : SR) (s' : Sto), forAt body tg n k i env s = .ok r s' → forIt (nxt (.at_ n)) tg body k i env s = .ok r s'
  | 0, i, env, s, r, s', h => by unfold forAt at h; cases h
  | k + 1, i, env, s, r, s', h => by
    unfold forAt at h
    unfold forIt
    split at h
    · rename_i xs hs
      simp only [nxt, hs]
      split at h
      · rename_i x hx
        simp only [hx]
        split at h
        · rename_i env1 hp
          try simp only [hp]
          obtain ⟨r1, s1, h1, h⟩ := bind_ok h
          simp only [h1, Out.bind]
          cases r1 with
          | nx env2 => exact forAt_it k (i + 1) env2 s1 r s' h
          | rt v => exact h
        · cases h
      · rename_i hx
        simp only [hx]
        exact h
    · cases h
section
variable {X : Cx} {tg c : Expr} {iter : Expr} {body : List Stmt} {t : TG} {mi : MI} {m : MS} {mc : ME} {pos : Pos}
theorem WalkG.next {K : PySem.W.Frag} {P P1 : AP'} {ι ι1 : List Addr} {J : It} {src : Src} {H H1 : Hp} (w : WalkG K P ι J src H) (g : Gr ι P H ι1 P1 H1) (hp : ∀ a ∈ ι, P a) (hh : ∀ x ∈ ι, H1 x ≠ none) : WalkG K P1 ι1 J src H1 := fun P' ι' st' H' p f x r => by
  have back : ∀ x, H1 x = none → H x = none := fun x e => by
    cases z : H x with
    | none => rfl
    | some o =>
      by_cases y : x ∈ ι
      · exact absurd e (hh x y)
      · rw [g.x x o z (.inl y)] at e; cases e
  refine w P' ι' st' H' (g.pre.trans p) (fun a h => ?_) (fun b o e q => ?_) r
  · rcases f a h with z | z
    · exact g.new a z
    · exact .inr (back a z)
  · exact x b o (g.x b o e (q.imp (fun y z => y (r.pin b ((g.pre.trans p).subset z))) id)) q
theorem xs_for (hp : PassesOwn (model X.prog X.w) X.A X.env X.xe) (hc : X.calm = true) (hi : PI X tg iter (rdI X.K mi)) (hg : PG X tg (rdG X.K t)) (hb : PSs X body (rdS X.K m)) (hs : ∀ x, foldedSetIterable iter X.env x = pure x) : PS X (.For tg iter body [] pos) (rdS X.K (sFor mi t m)) :=
  PS.mono (ps_for hp hc hi hg hb hs) fun D σ H ⟨ι, P, env, st, A, r, st', e, q⟩ => by
    obtain ⟨src, s1, h1, e⟩ := bind_ok (noX_ok e)
    have hrun : ∃ k, forIt (nxt src) t m k 0 env s1 = .ok r st' := by
      split at e
      · exact ⟨_, forGo_it _ 0 env s1 r st' (Nat.zero_add _) e⟩
      · split at e
        · exact ⟨_, forAt_it _ _ _ _ _ _ e⟩
        · cases e
    obtain ⟨k0, hk0⟩ := hrun
    refine ⟨ι, P, env, st, A, src, s1, h1, fun J H1 x1 r1 w => ?_⟩
    have A1 := A.next x1 r1
    refine ⟨fun i k σ' H' => ∃ ι' P' env' s', Gr ι P H ι' P' H' ∧ At X.K H' P' ι' σ' env' s' ∧ WalkG X.K P' ι' J src H' ∧ forIt (nxt src) t m k i env' s' = .ok r st', ⟨k0, ι, P, env, s1, Gr.of x1, A1, w, hk0⟩, ?_⟩
    rintro i k σ' H' ⟨ι', P', env', s', g, A', w', hit⟩
    cases k with
    | zero => unfold forIt at hit; cases hit
    | succ k =>
      unfold forIt at hit
      obtain ⟨w1, w2⟩ := w' P' ι' s' H' (List.prefix_refl _) (fun a h => .inl h) (ExtP.refl _ _) A'.s i
      split at hit
      · rename_i d hn
        obtain ⟨w3, w4⟩ := w2 d hn
        split at hit
        · rename_i env2 hput
          obtain ⟨r2, s2, h2, hit⟩ := bind_ok hit
          refine .inr ⟨w3, fun σ3 H3 => ∃ k', k' < k + 1 ∧ ∃ ι' P' env' s', Gr ι P H ι' P' H3 ∧ At X.K H3 P' ι' σ3 env' s' ∧ WalkG X.K P' ι' J src H3 ∧ forIt (nxt src) t m k' (i + 1) env' s' = .ok r st', fun σ3 H3 z => z, fun x H2 hy => ?_⟩
          obtain ⟨sm, rx⟩ := w4 x H2 hy
          refine ⟨ι', P', env', s', d, env2, ⟨A'.e.ext (.same sm), A'.s.same sm⟩, rx, hput, fun σ2 R2 _ => ?_⟩
          refine ⟨ι', P', env2, s', ⟨R2, A'.s.same sm⟩, r2, s2, h2, ?_⟩
          have g3 : Gr ι P H ι' P' H2 := g.trans (Gr.of (.same sm)) (A'.s.there g.pre)
          have h2' := (A'.s.same sm).there g.pre
          have w5 : WalkG X.K P' ι' J src H2 := w'.next (Gr.of (.same sm)) A'.s.pin ((A'.s.same sm).there (List.prefix_refl _))
          cases r2 with
          | nx env3 => exact fun σ3 H3 ι3 P3 g4 A3 => ⟨k, Nat.lt_succ_self _, ι3, P3, env3, s2, g3.trans g4 h2', A3, w5.next g4 A'.s.pin (A3.s.there g4.pre), hit⟩
          | rt v =>
            cases hit
            exact fun u H3 ι3 P3 g4 r4 rv => q u H3 ι3 P3 (g3.trans g4 h2') r4 rv
        · cases hit
      · rename_i hn
        cases hit
        exact .inl ⟨w1 hn, q σ' H' ι' P' g A'⟩
      · cases hit
theorem xs_wh (hp : PassesOwn (model X.prog X.w) X.A X.env X.xe) (hc : PT X c (rdT X.K (tOf mc))) (hb : PSs X body (rdS X.K m)) : PS X (.While c body [] pos) (rdS X.K (sWh mc m)) :=
  PS.mono (ps_while hp hc hb) fun D σ H ⟨ι, P, env, st, A, r, st', e, q⟩ => by
    refine ⟨fun k σ' H' => ∃ ι' P' env' s', Gr ι P H ι' P' H' ∧ At X.K H' P' ι' σ' env' s' ∧ whGo mc m k env' s' = .ok r st', ⟨4096, ι, P, env, st, Gr.of (ExtP.refl _ _), A, noX_ok e⟩, ?_⟩
    rintro k σ' H' ⟨ι', P', env', s', g, A', hit⟩
    cases k with
    | zero => unfold whGo at hit; cases hit
    | succ k =>
      unfold whGo at hit
      obtain ⟨b, s1, h1, hit⟩ := bind_ok hit
      refine rdT.bind A' h1 fun H1 x1 A1 => ?_
      have g1 : Gr ι P H ι' P' H1 := g.trans (Gr.of x1) (A'.s.there g.pre)
      cases b with
      | true =>
        obtain ⟨r2, s2, h2, hit⟩ := bind_ok hit
        refine iteT ⟨fun σ3 H3 => ∃ k', k' < k + 1 ∧ ∃ ι' P' env' s', Gr ι P H ι' P' H3 ∧ At X.K H3 P' ι' σ3 env' s' ∧ whGo mc m k' env' s' = .ok r st', fun σ3 H3 z => z, ι', P', env', s1, A1, r2, s2, h2, ?_⟩
        have hh := A1.s.there g.pre
        cases r2 with
        | nx env3 => exact fun σ3 H3 ι3 P3 g4 A3 => ⟨k, Nat.lt_succ_self _, ι3, P3, env3, s2, g1.trans g4 hh, A3, hit⟩
        | rt v =>
          cases hit
          exact fun u H3 ι3 P3 g4 r4 rv => q u H3 ι3 P3 (g1.trans g4 hh) r4 rv
      | false =>
        cases hit
        exact iteF (q σ' H1 ι' P' g1 A1)
end

/-! ### a def -/
section
variable {K : PySem.W.Frag} {ι ι' : List Addr} {P P' : AP'} {H H' : Hp} {st st' : Sto}
theorem RS.pop (r : RS K H' P' ι' st') (p : ι <+: ι') (hP : ∀ a, P a → P' a) (hp : ∀ a ∈ ι, P a) : RS K H' P ι (st'.take ι.length) := by
  have hlen : ι.length ≤ ι'.length := p.length_le
  refine ⟨?_, r.nd.sublist p.sublist, hp, fun a z => r.pthere a (hP a z), fun n a e => ?_⟩
  · rw [List.length_take, ← r.len]; omega
  · obtain ⟨ds, xs, h1, h2, h3⟩ := r.at_ n a (prefix_get p e)
    refine ⟨ds, xs, ?_, h2, h3.toP (fun x hx => .inl (hP x hx)) _ _⟩
    rw [List.getElem?_take_of_lt (List.getElem?_eq_some_iff.mp e).1]; exact h1
theorem start_re {np nn : Nat} {N : List Str} {vs : List V} {xs : List Vl} (h : Paired (RV K H P ι) vs xs) (hl : vs.length = np) (hN : N.length = nn) : RE K H P ι (L2.start N vs) (xs.map some ++ List.replicate (nn - np) none) := by
  have hx := paired_len h
  refine ⟨?_, fun i v e => ?_⟩
  · unfold L2.start
    rw [List.length_append, List.length_append, List.length_map, List.length_map, List.length_replicate, List.length_replicate, hN, hl, ← hx, hl]
  · by_cases hi : i < xs.length
    · rw [List.getElem?_append_left (by rw [List.length_map]; exact hi), List.getElem?_map] at e
      have key : ∀ {vs : List V} {xs : List Vl} {i : Nat} {x : Vl}, Paired (RV K H P ι) vs xs → xs[i]? = some x → ∃ v, vs[i]? = some v ∧ RV K H P ι v x := by
        intro vs xs i x h
        induction h generalizing i with
        | nil => intro e; simp at e
        | cons r t ih =>
          intro e
          cases i with
          | zero => simp at e; subst e; exact ⟨_, rfl, r⟩
          | succ i => exact (ih (by simpa using e)).imp fun v z => ⟨by simpa using z.1, z.2⟩
      cases hq : xs[i]? with
      | none => rw [hq] at e; cases e
      | some x =>
        rw [hq] at e
        cases e
        obtain ⟨w, h1, h2⟩ := key h hq
        refine ⟨w, ?_, h2⟩
        unfold L2.start
        rw [List.getElem?_append_left (by rw [List.length_map, hx]; exact hi), List.getElem?_map, h1]; rfl
    · rw [List.getElem?_append_right (by rw [List.length_map]; omega), List.getElem?_replicate] at e
      split at e <;> cases e
theorem fn_read {np nn : Nat} {N : List Str} {m : MS} {vs : List V} {Q : VK} {E : XK} (hN : N.length = nn) (h : spOf K (fnS np nn m) vs H Q E) : rdS K m { nx := fun _ H' => Q .non H', rt := Q } (L2.start N vs) H := by
  obtain ⟨ι, P, xs, st, r, hv, v, st', e, q⟩ := h
  unfold fnS at e
  split at e
  · rename_i hl
    have hl := beq_iff_eq.mp hl
    have R := start_re (N := N) (nn := nn) hv ((paired_len hv).trans hl) hN
    have fin : ∀ {ι' : List Addr} {P' : AP'} {H' : Hp} {s1 : Sto}, Gr ι P H ι' P' H' → RS K H' P' ι' s1 → RS K H' P ι (s1.take st.length) := fun g r2 => by
      rw [← r.len]; exact r2.pop g.pre g.inc r.pin
    split at e
    · rename_i env1 s1 hm
      cases e
      exact ⟨ι, P, _, st, ⟨R, r⟩, _, _, hm, fun σ' H' ι' P' g A' => q _ H' g.x (fin g A'.s) (.dat .non)⟩
    · rename_i v1 s1 hm
      refine ⟨ι, P, _, st, ⟨R, r⟩, _, _, hm, fun u H' ι' P' g r2 rv => ?_⟩
      unfold freeze at e
      split at e
      · cases e
        exact q u H' g.x (fin g r2) (.dat (rv.dat'.toP (fun x hx => .inl (g.inc x hx)) _ _))
      · rename_i n
        obtain ⟨l, rfl, hl2⟩ := rv.loc'
        split at e
        · rename_i hlt
          cases e
          refine q _ H' g.x (fin g r2) (.loc ?_)
          have hlt := Nat.le_of_ble_eq_true hlt
          have hn : n < ι.length := by rw [r.len]; exact hlt
          have h3 := prefix_get g.pre (List.getElem?_eq_getElem hn)
          rw [h3] at hl2
          cases hl2
          exact List.getElem?_eq_getElem hn
        · rename_i hlt
          split at e
          · rename_i ds hds
            cases e
            obtain ⟨ds', ys, g1, g2, g3⟩ := r2.at_ n l hl2
            rw [hds] at g1; cases g1
            refine q _ H' g.x (fin g r2) (.dat (.lst g2 (fun z => ?_) (g3.toP (fun x hx => .inl (g.inc x hx)) _ _)))
            rcases g.nw l (List.mem_of_getElem? hl2) with y | y
            · obtain ⟨j, hj, hje⟩ := List.mem_iff_getElem.mp y
              have h3 := prefix_get g.pre (List.getElem?_eq_getElem hj)
              rw [hje] at h3
              have e1 : j = n := (List.getElem?_inj (List.getElem?_eq_some_iff.mp h3).1 r2.nd).mp (h3.trans hl2.symm)
              apply hlt
              apply Nat.ble_eq_true_of_le
              rw [← e1, ← r.len]
              exact hj
            · exact r.pthere l z y
          · cases e
      · cases e
    · cases e
    · cases e
  · cases e
theorem fn_len {np nn : Nat} {m : MS} {vs : List V} {Q : VK} {E : XK} (h : spOf K (fnS np nn m) vs H Q E) : vs.length = np := by
  obtain ⟨ι, P, xs, st, r, hv, v, st', e, q⟩ := h
  unfold fnS at e
  split at e
  · rename_i hl
    exact (paired_len hv).trans (beq_iff_eq.mp hl)
  · cases e
end
/-- a def keeps what its body gives -/
theorem fn_ok {Pg : Program} {w : World} {K : PySem.W.Frag} {mg : Str → Option Value} {base : Heap} {CX : CXT} {qn qual : Str} {params : Arguments} {body : List Stmt} {scope : Scope} {f : Addr} {fd : FuncData} {N ps : List Str} {k np nn : Nat} {m : MS}
    (F : FunD K qn qual params body scope [] [] f fd) (S : FnScope N ps scope) (hN : N.length = nn) (hp : ps.length = np)
    (h : ∀ (cdv : Value) (A : Around) (outer : List PySem.Env) (s : Shared) (H : Hp) (E : XK), Room k (A.deeper (envOfC qual scope s.heap.objs.size f cdv)) → PSs (cxOf CX Pg w K mg base N qual scope f cdv A outer s H E).nox body (rdS K m)) :
    FnOk Pg w K mg base CX (k + 1) f fd ps (spOf K (fnS np nn m)) :=
  F.ok S (fun vs H Q E z => (fn_len z).trans hp.symm) fun cdv A outer s H vs Q E hr z => ⟨_, (h cdv A outer s H E hr).nox, fn_read hN z⟩
end Ev
/-! EvCmp: from the syntax to the combinators. -/
namespace Ev
open PySem PySem.Spec PyProof.Rows L2

/-! ### names -/
def ixOf (x : Str) : List Str → Nat → Option Nat
  | [], _ => none
  | y :: ys, n => if x = y then some n else ixOf x ys (n + 1)
theorem ixOf_get {x : Str} : ∀ {ys : List Str} {n i : Nat}, ixOf x ys n = some i → n ≤ i ∧ ys[i - n]? = some x
  | [], _, _, h => by unfold ixOf at h; cases h
  | y :: ys, n, i, h => by
    unfold ixOf at h
    split at h
    · rename_i e
      cases h
      rw [Nat.sub_self]
      exact ⟨Nat.le_refl _, by rw [e]; rfl⟩
    · obtain ⟨h1, h2⟩ := ixOf_get h
      refine ⟨by omega, ?_⟩
      rw [show i - n = (i - (n + 1)) + 1 by omega]
      exact h2
theorem ixOf_zero {x : Str} {ys : List Str} {i : Nat} (h : ixOf x ys 0 = some i) : ys[i]? = some x := (ixOf_get h).2
abbrev FT := List (Str × FnS)
abbrev CT := List (Str × PyData)
structure Tab where
  fs : FT
  cs : CT
  N : List Str
  mu : List Str
  bl : List Str
structure Cok (T : Tab) (sc : Scope) (fnb : Str → Bool) (X : Cx) : Prop where
  hN : X.N = T.N
  nd : T.N.Nodup
  nm : ∀ x ∈ T.N, (x == ("__debug__" : Str)) = false ∧ (x == ("__classdict__" : Str)) = false
  hsc : X.env.scope = sc
  kind : sc.kind = .function
  calm : X.calm = true
  fn : ∀ x, fnb x = true → X.fn x = true
  un : X.A.units + 65 < cLine
  calls : ∀ x F, T.fs.lookup x = some F → (x == ("__debug__" : Str)) = false ∧ ∃ (k : Nat) (g : Addr) (fd : FuncData) (ps : List Str) (CX : CXT), FnOk X.prog X.w X.K X.mg X.base CX k g fd ps (spOf X.K F) ∧ Room k X.A ∧ X.mg x = some (.ref g) ∧ PySem.W.keepIn X.K (.ref g) = true ∧ Binds X.K fd ps [] ∧ ∀ o H s e s', CX o H s E0 e s' → False
  consts : ∀ x d, T.cs.lookup x = some d → (x == ("__debug__" : Str)) = false ∧ ∃ u v, X.mg x = some u ∧ RelV v u ∧ ∀ H P, Rp X.K H P v d
  free : ∀ x ∈ T.bl, X.mg x = none
/-! ### the function -/
def locB (sc : Scope) (fnb : Str → Bool) (x : Str) : Bool := match sc.names.lookup x with
  | some .local => true
  | some .cell => fnb x
  | _ => false
def cmpTG (T : Tab) (sc : Scope) (fnb : Str → Bool) : Nat → Expr → Option TG
  | 0, _ => none
  | n + 1, .Name x _ => if locB sc fnb x then (ixOf x T.N 0).map .nm else none
  | n + 1, .Tuple es _ _ => (go n es).map .tup
  | _, _ => none
where
  go (n : Nat) : List Expr → Option (List TG)
  | [] => some []
  | e :: es => match noStar e, cmpTG T sc fnb n e, go n es with
    | true, some t, some ts => some (t :: ts)
    | _, _, _ => none
/-- the names of a target, with their slots -/
def ownOf (T : Tab) : Nat → Expr → List (Str × Nat)
  | 0, _ => []
  | n + 1, .Name x _ => match ixOf x T.N 0 with
    | some i => [(x, i)]
    | none => []
  | n + 1, .Tuple es _ _ => es.flatMap (ownOf T n)
  | _, _ => []
def cmpA (f : Expr → Option ME) : List Expr → Option MA
  | [] => some aNil
  | .Starred e _ :: r => match f e, cmpA f r with
    | some a, some m => some (aStar a m)
    | _, _ => none
  | e :: r => match f e, cmpA f r with
    | some a, some m => some (aCons a m)
    | _, _ => none
def glB (sc : Scope) (x : Str) : Bool := match sc.names.lookup x with
  | some .globalImplicit => true
  | _ => false
def isTup : Expr → Bool
  | .Tuple _ _ _ => true
  | _ => false
def notSet : Expr → Bool
  | .Set _ _ _ => false
  | _ => true
inductive Ik where
  | rng | zip | enm | no
def ikOf (x : Str) : Ik := if x = "range" then .rng else if x = "zip" then .zip else if x = "enumerate" then .enm else .no
def blB (T : Tab) (sc : Scope) (x : Str) : Bool := glB sc x && decide (x ∈ T.bl)
def cmpI (T : Tab) (f : Expr → Option ME) (sc : Scope) (tup : Bool) (e : Expr) : Option MI :=
  match e with
  | .Call (.Name x _) as [] _ => match ikOf x, blB T sc x, as with
    | .rng, true, [a] => if noStar a then (f a).map iRng1 else none
    | .rng, true, [a, b] => if noStar a && noStar b then match f a, f b with
      | some A, some B => some (iRng2 A B)
      | _, _ => none
      else none
    | .zip, true, [a, b] => if tup && noStar a && noStar b then match f a, f b with
      | some A, some B => some (iZip A B)
      | _, _ => none
      else none
    | .enm, true, [a] => if tup && noStar a then (f a).map iEnum else none
    | .no, _, _ => (f e).map iSeq
    | _, _, _ => none
  | e => if notSet e then (f e).map iSeq else none
def cmpB (f : Expr → Option ME) (op : BoolOp) : List Expr → Option ME
  | [] => none
  | [a] => f a
  | a :: b :: r => match f a, cmpB f op (b :: r) with
    | some A, some B => some (match op with
      | .And => eAnd A B
      | .Or => eOr A B)
    | _, _ => none
def cmpO (f : Expr → Option ME) : Option Expr → Option MO'
  | none => some oNone
  | some e => (f e).map oSome
inductive Bk where
  | len | all | any | abs | int | tuple | list | max | min | sum
def bkOf (x : Str) : Option Bk :=
  if x = "len" then some .len else if x = "all" then some .all else if x = "any" then some .any else if x = "tuple" then some .tuple else if x = "list" then some .list
  else if x = "max" then some .max else if x = "min" then some .min else if x = "sum" then some .sum else if x = "abs" then some .abs else if x = "int" then some .int else none
def Bk.f : Bk → List PyData → Option PyData
  | .len => bLen
  | .all => bAll
  | .any => bAny
  | .abs => bAbs
  | .int => bInt
  | .tuple => bTuple
  | .list => bList
  | .max => bMax
  | .min => bMin
  | .sum => bSum
def tyOf (x : Str) : Option Ty :=
  if x = "int" then some .int else if x = "tuple" then some .tuple else if x = "bool" then some .bool else if x = "str" then some .str else if x = "list" then some .list else if x = "dict" then some .dict else none
inductive Mk where
  | app | pop | ins
def mkOf (x : Str) : Option Mk := if x = "append" then some .app else if x = "pop" then some .pop else if x = "insert" then some .ins else none
def cmpE (T : Tab) : Nat → Scope → (Str → Bool) → Expr → Option ME
  | 0, _, _, _ => none
  | n + 1, sc, fnb, e => match e with
    | .Constant (.int i) _ _ => some (eCst (.int i))
    | .Constant (.bool b) _ _ => some (eCst (.bool b))
    | .Constant .none _ _ => some (eCst .none)
    | .Constant (.str x) _ _ => some (eCst (.str x))
    | .Name x _ => match sc.names.lookup x with
      | some .globalImplicit => (T.cs.lookup x).map eCst
      | some .local => (ixOf x T.N 0).map eVar
      | some .cell => (ixOf x T.N 0).map eVar
      | some .free => (ixOf x T.N 0).map eVar
      | _ => none
    | .BinOp a op b _ => match pOp op, cmpE T n sc fnb a, cmpE T n sc fnb b with
      | some f, some A, some B => some (e2 f A B)
      | _, _, _ => none
    | .UnaryOp .USub a _ => (cmpE T n sc fnb a).map (e1 pNeg)
    | .UnaryOp .Not a _ => (cmpE T n sc fnb a).map eNot
    | .BoolOp op es _ => cmpB (cmpE T n sc fnb) op es
    | .Compare a [op] [b] _ => if behindInMarks op b then none else match cmpE T n sc fnb a, cmpE T n sc fnb b with
      | some A, some B => some (eCmp (pCmp op) A B)
      | _, _ => none
    | .Compare a [op, op'] [b, c] _ => if lastMarks [op, op'] [b, c] then none else match cmpE T n sc fnb a, cmpE T n sc fnb b, cmpE T n sc fnb c with
      | some A, some B, some C => some (eChain (pCmp op) (pCmp op') A B C)
      | _, _, _ => none
    | .IfExp c a b _ => match cmpE T n sc fnb c, cmpE T n sc fnb a, cmpE T n sc fnb b with
      | some C, some A, some B => some (eIf C A B)
      | _, _, _ => none
    | .Tuple es _ _ => (cmpA (cmpE T n sc fnb) es).map eTup
    | .List es _ => (cmpA (cmpE T n sc fnb) es).map eLst
    | .Subscript a (.Slice lo hi none _) _ => match cmpE T n sc fnb a, cmpO (cmpE T n sc fnb) lo, cmpO (cmpE T n sc fnb) hi with
      | some A, some L, some U => some (eSl A L U)
      | _, _, _ => none
    | .Subscript a (.Slice none none (some (.UnaryOp .USub (.Constant (.int 1) _ _) _)) _) _ => (cmpE T n sc fnb a).map (e1 pRev)
    | .Subscript a b _ => if plainIx b then match cmpE T n sc fnb a, cmpE T n sc fnb b with
      | some A, some B => some (e2 pIx A B)
      | _, _ => none
      else none
    | .Call (.Name x _) as [] _ => if glB sc x && as.all noStar then match T.fs.lookup x with
      | some F => (cmpA (cmpE T n sc fnb) as).map (eCall F)
      | none => if decide (x ∈ T.bl) then match bkOf x, as with
        | some k, a :: r => (cmpA (cmpE T n sc fnb) (a :: r)).map (eBlt k.f)
        | some _, [] => none
        | none, _ => if x = "isinstance" then match as with
          | [a, .Name y _] => if blB T sc y then match tyOf y, cmpE T n sc fnb a with
            | some t, some A => some (eIsi t A)
            | _, _ => none
            else none
          | _ => none
          else none
        else none
      else none
    | .Call (.Attribute (.Name x p1) m apos) as [] pos => if apos.endLine == pos.line && as.all noStar then match mkOf m, cmpE T n sc fnb (.Name x p1), as with
      | some .app, some O, [a] => (cmpE T n sc fnb a).map (eApp O)
      | some .pop, some O, [] => some (ePop O)
      | some .ins, some O, [a, b] => match cmpE T n sc fnb a, cmpE T n sc fnb b with
        | some A, some B => some (eIns O A B)
        | _, _ => none
      | _, _, _ => none
      else none
    | .ListComp elt [⟨tg, iter, ifs, 0⟩] scope _ =>
      if blkC T.N sc scope (ownOf T 8 tg) && notSet iter then
        match cmpI T (cmpE T n sc fnb) sc (isTup tg) iter, cmpTG T (relS scope sc) (fun x => scope.names.lookup x == some .cell) 8 tg, cmpC (cmpE T n (relS scope sc) (fun x => scope.names.lookup x == some .cell)) ifs, cmpE T n (relS scope sc) (fun x => scope.names.lookup x == some .cell) elt with
        | some it, some t, some c, some e => if t.slots.all fun i => decide (i ∈ (ownOf T 8 tg).map (·.2)) then some (eLc it t ((ownOf T 8 tg).map (·.2)) c e) else none
        | _, _, _, _ => none
      else none
    | .ListComp elt [⟨tg, iter, ifs, 0⟩, ⟨tg1, iter1, ifs1, 0⟩] scope _ =>
      if blkC T.N sc scope (ownOf T 8 tg ++ ownOf T 8 tg1) && notSet iter && notSet iter1 then
        match cmpI T (cmpE T n sc fnb) sc (isTup tg) iter, cmpTG T (relS scope sc) (fun x => scope.names.lookup x == some .cell) 8 tg, cmpC (cmpE T n (relS scope sc) (fun x => scope.names.lookup x == some .cell)) ifs, cmpE T n (relS scope sc) (fun x => scope.names.lookup x == some .cell) elt,
          cmpI T (cmpE T n (relS scope sc) (fun x => scope.names.lookup x == some .cell)) (relS scope sc) (isTup tg1) iter1, cmpTG T (relS scope sc) (fun x => scope.names.lookup x == some .cell) 8 tg1, cmpC (cmpE T n (relS scope sc) (fun x => scope.names.lookup x == some .cell)) ifs1 with
        | some it, some t, some c, some e, some it1, some t1, some c1 =>
          if (t.slots.all fun i => decide (i ∈ (ownOf T 8 tg ++ ownOf T 8 tg1).map (·.2))) && (t1.slots.all fun i => decide (i ∈ (ownOf T 8 tg1).map (·.2))) then
            some (eLc2 it t ((ownOf T 8 tg ++ ownOf T 8 tg1).map (·.2)) c it1 t1 ((ownOf T 8 tg1).map (·.2)) c1 e) else none
        | _, _, _, _, _, _, _ => none
      else none
    | _ => none
where
  cmpC (f : Expr → Option ME) : List Expr → Option MT
  | [] => some tYes
  | [c] => (f c).map tOf
  | _ => none

/-! ### it is right -/
section
variable {T : Tab} {sc : Scope} {fnb : Str → Bool} {X : Cx}
theorem glB_ok {x : Str} (h : glB sc x = true) (e : X.env.scope = sc) : Gl X x := by
  unfold glB at h
  split at h
  · show X.env.scope.names.lookup x = _
    rw [e]; assumption
  · cases h
theorem blB_ok {x : Str} (ok : Cok T sc fnb X) (h : blB T sc x = true) : Gl X x ∧ X.mg x = none := by
  unfold blB at h
  rw [Bool.and_eq_true] at h
  exact ⟨glB_ok h.1 ok.hsc, ok.free x (of_decide_eq_true h.2)⟩
theorem Cok.blk (ok : Cok T sc fnb X) {scope : Scope} {own : List (Str × Nat)} (h : blkC T.N sc scope own = true) (s : Shared) (H : Hp) (C : Addr) (cl : List (Str × Addr)) (fp : List Addr) :
    Cok T (relS scope sc) (fun x => scope.names.lookup x == some .cell) (X.blk s H scope (compEnvC scope cl C X.env) fp) where
  hN := ok.hN
  nd := ok.nd
  nm := ok.nm
  hsc := by rw [← ok.hsc]; rfl
  kind := (blkOk_by h).kind
  calm := ok.calm
  fn := fun x hx => hx
  un := ok.un
  calls := ok.calls
  consts := ok.consts
  free := ok.free
theorem pv_ok (ok : Cok T sc fnb X) {x : Str} {i : Nat} {pos : Pos} (h : ixOf x T.N 0 = some i) (v : Vis sc x) : PE X (.Name x pos) (rdE X.K (eVar i)) := by
  have hi := ixOf_zero h
  have hm := List.mem_of_getElem? hi
  exact xp_var (pe_var (by rw [ok.hN]; exact hi) (by rw [ok.hsc]; exact v) (ok.nm x hm).1 (ok.nm x hm).2)
theorem cmpTG_ok : ∀ (n : Nat) (X : Cx) (sc : Scope) (fnb : Str → Bool) (ok : Cok T sc fnb X) (e : Expr) (t : TG), cmpTG T sc fnb n e = some t → PG X e (rdG X.K t)
  | 0, X, sc, fnb, ok, e, t, h => by unfold cmpTG at h; cases h
  | n + 1, X, sc, fnb, ok, e, t, h => by
    have go : ∀ (es : List Expr) (ts : List TG), cmpTG.go T sc fnb n es = some ts → PGs X es (rdGs X.K ts) ∧ es.length = ts.length ∧ es.all noStar = true := by
      intro es
      induction es with
      | nil => intro ts h; unfold cmpTG.go at h; cases h; exact ⟨xgs_nil, rfl, rfl⟩
      | cons e es ih =>
        intro ts h
        unfold cmpTG.go at h
        split at h
        · rename_i h1 h2 h3
          cases h
          obtain ⟨i1, i2, i3⟩ := ih _ h3
          exact ⟨xgs_cons (cmpTG_ok n X sc fnb ok e _ h2) i1 h1, by rw [List.length_cons, List.length_cons, i2], by rw [List.all_cons, h1, i3]; rfl⟩
        · cases h
    unfold cmpTG at h
    split at h
    · rename_i heq; cases heq
    · rename_i x p heq
      cases heq
      split at h
      · rename_i hl
        obtain ⟨i, hi, rfl⟩ := Option.map_eq_some_iff.mp h
        have hi := ixOf_zero hi
        have hloc : Loc X.env.scope x ∧ (X.fn x = true ∨ X.env.scope.names.lookup x = some .local) := by
          rw [ok.hsc]
          unfold locB at hl
          split at hl
          · rename_i z; exact ⟨.inl z, .inr z⟩
          · rename_i z; exact ⟨.inr z, .inl (ok.fn x hl)⟩
          · cases hl
        exact xg_nm (pg_name (by rw [ok.hN]; exact ok.nd) (by rw [ok.hN]; exact hi) hloc.1 hloc.2)
      · cases h
    · rename_i heq
      cases heq
      obtain ⟨ts, hts, rfl⟩ := Option.map_eq_some_iff.mp h
      obtain ⟨i1, i2, i3⟩ := go _ _ hts
      exact xg_tup ok.calm i1 i2 i3
    · cases h
theorem cmpA_ok {f : Expr → Option ME} (hf : ∀ e m, f e = some m → PE X e (rdE X.K m)) : ∀ (es : List Expr) (m : MA), cmpA f es = some m → PA X es (rdA X.K m)
  | [], m, h => by unfold cmpA at h; cases h; exact xa_nil
  | e :: es, m, h => by
    unfold cmpA at h
    split at h
    · rename_i heq; cases heq
    · rename_i heq
      cases heq
      split at h
      · rename_i h1 h2
        cases h
        exact xa_star (hf _ _ h1) (cmpA_ok hf _ _ h2)
      · cases h
    · rename_i hne heq
      cases heq
      split at h
      · rename_i h1 h2
        cases h
        refine xa_cons (hf _ _ h1) (cmpA_ok hf _ _ h2) ?_
        cases e <;> first | rfl | exact absurd rfl (hne _ _)
      · cases h
theorem notSet_ok {e : Expr} (h : notSet e = true) (env : PySem.Env) (x : Value) : foldedSetIterable e env x = pure x := by
  cases e <;> first | rfl | cases h
theorem cmpI_ok {f : Expr → Option ME} (ok : Cok T sc fnb X) (hf : ∀ e m, f e = some m → PE X e (rdE X.K m)) {tg e : Expr} {tup : Bool} {m : MI} (ht : tup = true → isTup tg = true) (h : cmpI T f sc tup e = some m) : PI X tg e (rdI X.K m) := by
  unfold cmpI at h
  split at h
  · rename_i x p as pos
    split at h
    · rename_i a hk hb
      unfold ikOf at hk
      split at hk
      · rename_i hx
        subst hx
        obtain ⟨g1, g2⟩ := blB_ok ok hb
        split at h
        · rename_i hs
          obtain ⟨A, hA, rfl⟩ := Option.map_eq_some_iff.mp h
          exact xi_rng1 g1 g2 (hf _ _ hA) hs
        · cases h
      · split at hk
        · cases hk
        · split at hk <;> cases hk
    · rename_i a b hk hb
      unfold ikOf at hk
      split at hk
      · rename_i hx
        subst hx
        obtain ⟨g1, g2⟩ := blB_ok ok hb
        split at h
        · rename_i hs
          rw [Bool.and_eq_true] at hs
          split at h
          · rename_i A B hA hB
            cases h
            exact xi_rng2 g1 g2 (hf _ _ hA) (hf _ _ hB) hs.1 hs.2
          · cases h
        · cases h
      · split at hk
        · cases hk
        · split at hk <;> cases hk
    · rename_i a b hk hb
      unfold ikOf at hk
      split at hk
      · cases hk
      · split at hk
        · rename_i hx
          subst hx
          obtain ⟨g1, g2⟩ := blB_ok ok hb
          split at h
          · rename_i hs
            simp only [Bool.and_eq_true] at hs
            obtain ⟨⟨s0, s1⟩, s2⟩ := hs
            have htt := ht s0
            split at h
            · rename_i A B hA hB
              cases h
              cases tg <;> first | exact xi_zip g1 g2 (hf _ _ hA) (hf _ _ hB) s1 s2 | cases htt
            · cases h
          · cases h
        · split at hk <;> cases hk
    · rename_i a hk hb
      unfold ikOf at hk
      split at hk
      · cases hk
      · split at hk
        · cases hk
        · split at hk
          · rename_i hx
            subst hx
            obtain ⟨g1, g2⟩ := blB_ok ok hb
            split at h
            · rename_i hs
              rw [Bool.and_eq_true] at hs
              have htt := ht hs.1
              obtain ⟨A, hA, rfl⟩ := Option.map_eq_some_iff.mp h
              cases tg <;> first | exact xi_enum g1 g2 (hf _ _ hA) hs.2 | cases htt
            · cases h
          · cases hk
    · obtain ⟨A, hA, rfl⟩ := Option.map_eq_some_iff.mp h
      exact xi_seq (hf _ _ hA)
    · cases h
  · split at h
    · obtain ⟨A, hA, rfl⟩ := Option.map_eq_some_iff.mp h
      exact xi_seq (hf _ _ hA)
    · cases h
theorem cmpB_ok {f : Expr → Option ME} {op : BoolOp} {pos : Pos} (hf : ∀ e m, f e = some m → PE X e (rdE X.K m) ∧ PT X e (rdT X.K (tOf m))) : ∀ (es : List Expr) (m : ME), cmpB f op es = some m → PE X (.BoolOp op es pos) (rdE X.K m) ∧ PW X (.BoolOp op es pos) (rdT X.K (tOf m))
  | [], m, h => by unfold cmpB at h; cases h
  | [a], m, h => by
    unfold cmpB at h
    obtain ⟨h1, h2⟩ := hf _ _ h
    exact ⟨pe_one h1, xw_one h2⟩
  | a :: b :: r, m, h => by
    unfold cmpB at h
    split at h
    · rename_i A B hA hB
      obtain ⟨h1, h2⟩ := hf _ _ hA
      obtain ⟨h3, h4⟩ := cmpB_ok hf (b :: r) _ hB
      cases op with
      | And => cases h; exact ⟨xp_and h1 h3, xw_and h2 h4⟩
      | Or => cases h; exact ⟨xp_or h1 h3, xw_or h2 h4⟩
    · cases h
theorem cmpO_ok {f : Expr → Option ME} (hf : ∀ e m, f e = some m → PE X e (rdE X.K m)) {o : Option Expr} {m : MO'} (h : cmpO f o = some m) : PO X o (rdO X.K m) := by
  cases o with
  | none => cases h; exact xo_none
  | some e =>
    obtain ⟨A, hA, rfl⟩ := Option.map_eq_some_iff.mp h
    exact xo_some (hf _ _ hA)
theorem PTs.mono {ifs : List Expr} {t t' : TT} (h : PTs X ifs t) (q : ∀ σ H Q, t' σ H Q → t σ H Q) : PTs X ifs t' := ⟨fun pins s σ H Q I w => h.run pins s σ H Q I (q _ _ _ w)⟩
theorem cmpC_ok {f : Expr → Option ME} (hf : ∀ e m, f e = some m → PT X e (rdT X.K (tOf m))) {ifs : List Expr} {m : MT} (h : cmpE.cmpC f ifs = some m) : PTs X ifs (rdT X.K m) := by
  unfold cmpE.cmpC at h
  split at h
  · cases h
    exact PTs.mono pts_nil fun σ H Q ⟨ι, P, env, st, A, b, st', e, q⟩ => by
      cases e
      exact q H (ExtP.refl _ _) A.s
  · obtain ⟨A, hA, rfl⟩ := Option.map_eq_some_iff.mp h
    exact pts_one (hf _ _ hA)
  · cases h
theorem bk_ok (ok : Cok T sc fnb X) {x : Str} {k : Bk} {e : Expr} {es : List Expr} {m : MA} {p pos : Pos} (hk : bkOf x = some k) (hg : Gl X x) (hm : X.mg x = none) (ha : PA X (e :: es) (rdA X.K m)) (hs : (e :: es).all noStar = true) :
    PE X (.Call (.Name x p) (e :: es) [] pos) (rdE X.K (eBlt k.f m)) := by
  unfold bkOf at hk
  repeat' split at hk
  all_goals first | (cases hk; done) | (rename_i hx; subst hx; cases hk)
  · exact xp_blt bl_len hg hm PySem.boot_len ha hs (by decide)
  · exact xp_blt (bl_all ok.calm) hg hm (by decide +kernel) ha hs (by decide)
  · exact xp_blt (bl_any ok.calm) hg hm (by decide +kernel) ha hs (by decide)
  · exact xp_bltT bl_tuple hg hm (by decide +kernel) ha hs (by decide)
  · exact xp_bltT bl_list hg hm (by decide +kernel) ha hs (by decide)
  · exact xp_blt (bl_max ok.calm) hg hm (by decide +kernel) ha hs (by decide)
  · exact xp_blt (bl_min ok.calm) hg hm (by decide +kernel) ha hs (by decide)
  · exact xp_blt (bl_sum ok.calm) hg hm (by decide +kernel) ha hs (by decide)
  · exact xp_blt bl_abs hg hm (by decide +kernel) ha hs (by decide)
  · exact xp_bltT bl_int hg hm (by decide +kernel) ha hs (by decide)
theorem ty_ok {y : Str} {t : Ty} (h : tyOf y = some t) : bootBuiltins y = some (.type t.nm) ∧ blt2 y = true := by
  unfold tyOf at h
  repeat' split at h
  all_goals first | (cases h; done) | (rename_i hx; subst hx; cases h; exact ⟨by decide +kernel, by decide⟩)
theorem plainT {e : Expr} {m : ME} (h : PE X e (rdE X.K m)) (he : ∀ whole, isTrue e X.env whole = (do let v ← whole; standAt e.pos; holding [v] (truthy v))) : PE X e (rdE X.K m) ∧ PT X e (rdT X.K (tOf m)) := ⟨h, xt_plain h he⟩
theorem eLc_lst {it : MI} {tg : TG} {own : List Nat} {c : MT} {e : ME} : ∀ env st v st', eLc it tg own c e env st = .ok v st' → ∃ ds, v = .dat (.list ds) := fun env st v st' h => by
  obtain ⟨src, s1, h1, h⟩ := bind_ok (noX_ok h)
  obtain ⟨r, s2, h2, h⟩ := bind_ok h
  exact ⟨r, (okL_ok h).2.1⟩
theorem eLc2_lst {it it1 : MI} {tg tg1 : TG} {own own1 : List Nat} {c c1 : MT} {e : ME} : ∀ env st v st', eLc2 it tg own c it1 tg1 own1 c1 e env st = .ok v st' → ∃ ds, v = .dat (.list ds) := fun env st v st' h => by
  obtain ⟨src, s1, h1, h⟩ := bind_ok (noX_ok h)
  obtain ⟨r, s2, h2, h⟩ := bind_ok h
  exact ⟨r, (okL_ok h).2.1⟩
/-- a comprehension's parts -/
structure Lc1 (X : Cx) (tg iter elt : Expr) (ifs : List Expr) (scope : Scope) (own : List (Str × Nat)) (it : MI) (t : TG) (c : MT) (e : ME) : Prop where
  ok : BlkOk X.N X.env.scope scope own
  nd : X.N.Nodup
  calm : X.calm = true
  i : PI X tg iter (rdI X.K it)
  s : ∀ x, foldedSetIterable iter X.env x = pure x
  g : ∀ (s : Shared) (H : Hp) (C : Addr) (cl : List (Str × Addr)) (fp : List Addr), PG (X.blk s H scope (compEnvC scope cl C X.env) fp) tg (rdG X.K t)
  q : ∀ (s : Shared) (H : Hp) (C : Addr) (cl : List (Str × Addr)) (fp : List Addr), PTs (X.blk s H scope (compEnvC scope cl C X.env) fp) ifs (rdT X.K c)
  y : ∀ (s : Shared) (H : Hp) (C : Addr) (cl : List (Str × Addr)) (fp : List Addr), PE (X.blk s H scope (compEnvC scope cl C X.env) fp) elt (rdE X.K e)
  sl : ∀ i ∈ t.slots, i ∈ own.map (·.2)
theorem Lc1.pe {tg iter elt : Expr} {ifs : List Expr} {scope : Scope} {own : List (Str × Nat)} {it : MI} {t : TG} {c : MT} {e : ME} {pos : Pos} (L : Lc1 X tg iter elt ifs scope own it t c e) : PE X (.ListComp elt [⟨tg, iter, ifs, 0⟩] scope pos) (rdF X.K (eLc it t (own.map (·.2)) c e)) :=
  PE.mono (pe_lc L.calm L.nd L.i L.ok L.g L.q L.y L.s) fun _ _ _ => lc_read L.sl
structure Lc2 (X : Cx) (tg1 iter1 : Expr) (ifs1 : List Expr) (scope : Scope) (own own1 : List (Str × Nat)) (it1 : MI) (t1 : TG) (c1 : MT) : Prop where
  i : ∀ (s : Shared) (H : Hp) (C : Addr) (cl : List (Str × Addr)) (fp : List Addr), PI (X.blk s H scope (compEnvC scope cl C X.env) fp) tg1 iter1 (rdI X.K it1)
  s : ∀ env x, foldedSetIterable iter1 env x = pure x
  g : ∀ (s : Shared) (H : Hp) (C : Addr) (cl : List (Str × Addr)) (fp : List Addr), PG (X.blk s H scope (compEnvC scope cl C X.env) fp) tg1 (rdG X.K t1)
  q : ∀ (s : Shared) (H : Hp) (C : Addr) (cl : List (Str × Addr)) (fp : List Addr), PTs (X.blk s H scope (compEnvC scope cl C X.env) fp) ifs1 (rdT X.K c1)
  sl : ∀ i ∈ t1.slots, i ∈ own1.map (·.2)
  sub : ∀ i ∈ own1.map (·.2), i ∈ own.map (·.2)
theorem Lc2.pe {tg iter elt tg1 iter1 : Expr} {ifs ifs1 : List Expr} {scope : Scope} {own own1 : List (Str × Nat)} {it it1 : MI} {t t1 : TG} {c c1 : MT} {e : ME} {pos : Pos} (L : Lc1 X tg iter elt ifs scope own it t c e) (M : Lc2 X tg1 iter1 ifs1 scope own own1 it1 t1 c1) :
    PE X (.ListComp elt [⟨tg, iter, ifs, 0⟩, ⟨tg1, iter1, ifs1, 0⟩] scope pos) (rdF X.K (eLc2 it t (own.map (·.2)) c it1 t1 (own1.map (·.2)) c1 e)) :=
  PE.mono (pe_lc2 (vs1 := own1.map (·.2)) L.calm L.nd L.i L.ok M.sub L.g L.q M.i M.g M.q L.y L.s M.s) fun _ _ _ => lc2_read L.sl M.sl
theorem xt_ife {a b c : Expr} {ma mb mc : ME} {pos : Pos} (hc : PT X c (rdT X.K (tOf mc))) (ha : PT X a (rdT X.K (tOf ma))) (hb : PT X b (rdT X.K (tOf mb))) : PT X (.IfExp c a b pos) (rdT X.K (tOf (eIf mc ma mb))) := by
  refine ⟨fun pins s σ H Q I ⟨ι, P, env, st, A, w, st', e, q⟩ => ?_⟩
  obtain ⟨k, s1, h1, e⟩ := bind_ok (tOf_ok e)
  have hq : rdT X.K (tOf mc) σ H fun c H1 => if c = true then rdT X.K (tOf ma) σ H1 Q else rdT X.K (tOf mb) σ H1 Q := by
    refine rdT.bind A h1 fun H1 x1 A1 => ?_
    cases k with
    | true =>
      refine iteT (rdT.bind (st1 := st') (v := w) A1 ?_ fun H2 x2 A2 => q H2 (x1.trans x2) A2.s)
      have e' : ma env s1 = .ok (.dat (.bool w)) st' := e
      show (ma env s1).bind _ = _
      rw [e']; rfl
    | false =>
      refine iteF (rdT.bind (st1 := st') (v := w) A1 ?_ fun H2 x2 A2 => q H2 (x1.trans x2) A2.s)
      have e' : mb env s1 = .ok (.dat (.bool w)) st' := e
      show (mb env s1).bind _ = _
      rw [e']; rfl
  refine isTrue_IfExp (thn (hc.run pins s σ H _ I hq) fun d s2 ⟨H1, I1, q1⟩ => ?_)
  cases d with
  | true => exact ha.run pins s2 σ H1 Q I1 q1
  | false => exact hb.run pins s2 σ H1 Q I1 q1
theorem cmpE_ok (T : Tab) : ∀ (n : Nat) (X : Cx) (sc : Scope) (fnb : Str → Bool) (ok : Cok T sc fnb X) (e : Expr) (m : ME), cmpE T n sc fnb e = some m → PE X e (rdE X.K m) ∧ PT X e (rdT X.K (tOf m))
  | 0, X, sc, fnb, ok, e, m, h => by unfold cmpE at h; cases h
  | n + 1, X, sc, fnb, ok, e, m, h => by
    have ih : ∀ e m, cmpE T n sc fnb e = some m → PE X e (rdE X.K m) ∧ PT X e (rdT X.K (tOf m)) := fun e m => cmpE_ok T n X sc fnb ok e m
    have ihE : ∀ e m, cmpE T n sc fnb e = some m → PE X e (rdE X.K m) := fun e m z => (ih e m z).1
    have hu := ok.un
    unfold cmpE at h
    split at h
    · cases h; exact plainT (xp_cst pe_int fun _ _ => .int _) fun _ => rfl
    · cases h; exact plainT (xp_cst pe_bl fun _ _ => .bl _) fun _ => rfl
    · cases h; exact plainT (xp_cst pe_non fun _ _ => .non) fun _ => rfl
    · cases h; exact plainT (xp_cst pe_str fun _ _ => .str _) fun _ => rfl
    · rename_i x p
      split at h
      · rename_i hl
        obtain ⟨d, hd, rfl⟩ := Option.map_eq_some_iff.mp h
        obtain ⟨h1, u, v, h2, h3, h4⟩ := ok.consts x d hd
        exact plainT (xp_cst (pe_glob (by show X.env.scope.names.lookup x = _; rw [ok.hsc]; exact hl) h2 h3 h1) h4) fun _ => rfl
      · rename_i hl
        obtain ⟨i, hi, rfl⟩ := Option.map_eq_some_iff.mp h
        exact plainT (pv_ok ok hi (.inl hl)) fun _ => rfl
      · rename_i hl
        obtain ⟨i, hi, rfl⟩ := Option.map_eq_some_iff.mp h
        exact plainT (pv_ok ok hi (.inr (.inl hl))) fun _ => rfl
      · rename_i hl
        obtain ⟨i, hi, rfl⟩ := Option.map_eq_some_iff.mp h
        exact plainT (pv_ok ok hi (.inr (.inr hl))) fun _ => rfl
      · cases h
    · split at h
      · rename_i hf hA hB
        cases h
        exact plainT (xp_e2 (op_of hf) (ihE _ _ hA) (ihE _ _ hB)) fun _ => rfl
      · cases h
    · obtain ⟨A, hA, rfl⟩ := Option.map_eq_some_iff.mp h
      exact plainT (xp_neg (ihE _ _ hA)) fun _ => rfl
    · obtain ⟨A, hA, rfl⟩ := Option.map_eq_some_iff.mp h
      exact ⟨xp_not (ihE _ _ hA), xt_not (ih _ _ hA).2⟩
    · obtain ⟨h1, h2⟩ := cmpB_ok ih _ _ h
      exact ⟨h1, h2.pt⟩
    · split at h
      · cases h
      · rename_i hb
        split at h
        · rename_i hA hB
          cases h
          have hb' := Bool.eq_false_iff.mpr hb
          exact ⟨xp_cmp (cm_of hu _) (ihE _ _ hA) (ihE _ _ hB) hb', xt_cmp (cm_of hu _) (ihE _ _ hA) (ihE _ _ hB) hb'⟩
        · cases h
    · split at h
      · cases h
      · rename_i hb
        split at h
        · rename_i hA hB hC
          cases h
          have hb' := Bool.eq_false_iff.mpr hb
          exact ⟨xp_chain (cm_of hu _) (cm_of hu _) (ihE _ _ hA) (ihE _ _ hB) (ihE _ _ hC) hb', PT.of_chain (cm_of hu _) (cm_of hu _) (ihE _ _ hA) (ihE _ _ hB) (ihE _ _ hC) hb'⟩
        · cases h
    · split at h
      · rename_i hC hA hB
        cases h
        exact ⟨xp_ife (ih _ _ hC).2 (ihE _ _ hA) (ihE _ _ hB), xt_ife (ih _ _ hC).2 (ih _ _ hA).2 (ih _ _ hB).2⟩
      · cases h
    · obtain ⟨A, hA, rfl⟩ := Option.map_eq_some_iff.mp h
      exact plainT (xp_tup (cmpA_ok ihE _ _ hA)) fun _ => rfl
    · obtain ⟨A, hA, rfl⟩ := Option.map_eq_some_iff.mp h
      exact plainT (xp_lst (cmpA_ok ihE _ _ hA)) fun _ => rfl
    · split at h
      · rename_i hA hL hU
        cases h
        exact plainT (xp_sl (ihE _ _ hA) (cmpO_ok ihE hL) (cmpO_ok ihE hU)) fun _ => rfl
      · cases h
    · obtain ⟨A, hA, rfl⟩ := Option.map_eq_some_iff.mp h
      exact plainT (xp_rev (ihE _ _ hA)) fun _ => rfl
    · split at h
      · rename_i hp
        split at h
        · rename_i hA hB
          cases h
          exact plainT (xp_ix (ihE _ _ hA) (ihE _ _ hB) hp) fun _ => rfl
        · cases h
      · cases h
    · rename_i x p as pos
      split at h
      · rename_i hb
        rw [Bool.and_eq_true] at hb
        have hg := glB_ok hb.1 ok.hsc
        split at h
        · rename_i F hF
          obtain ⟨A, hA, rfl⟩ := Option.map_eq_some_iff.mp h
          obtain ⟨hd, k, g, fd, ps, CX, G, hr, hm, hk, hbi, hx⟩ := ok.calls x F hF
          have pass : Passes CX X E0 := fun _ _ _ _ _ _ _ z => (hx _ _ _ _ _ z).elim
          cases as with
          | nil =>
            unfold cmpA at hA
            cases hA
            exact plainT (xp_call0 G hr hg hm hk hbi pass hd) fun _ => rfl
          | cons e es => exact plainT (xp_call G hr hg hm hk hbi pass (cmpA_ok ihE _ _ hA) hb.2 hd) fun _ => rfl
        · split at h
          · rename_i hbl
            have hm := ok.free x (of_decide_eq_true hbl)
            split at h
            · rename_i k a r hk
              obtain ⟨A, hA, rfl⟩ := Option.map_eq_some_iff.mp h
              exact plainT (bk_ok ok hk hg hm (cmpA_ok ihE _ _ hA) hb.2) fun _ => rfl
            · cases h
            · split at h
              · rename_i hx
                subst hx
                split at h
                · rename_i a y p2
                  split at h
                  · rename_i hy
                    obtain ⟨g1, g2⟩ := blB_ok ok hy
                    split at h
                    · rename_i t A ht hA
                      cases h
                      obtain ⟨t1, t2⟩ := ty_ok ht
                      have hs := hb.2
                      rw [List.all_cons, Bool.and_eq_true] at hs
                      exact plainT (xp_isi hg hm g1 g2 t1 t2 (ihE _ _ hA) hs.1) fun _ => rfl
                    · cases h
                  · cases h
                · cases h
              · cases h
          · cases h
      · cases h
    · rename_i x p1 mm apos as pos
      split at h
      · rename_i hb
        rw [Bool.and_eq_true] at hb
        split at h
        · rename_i O a hk hO
          obtain ⟨A, hA, rfl⟩ := Option.map_eq_some_iff.mp h
          unfold mkOf at hk
          repeat' split at hk
          all_goals first | (cases hk; done) | skip
          rename_i hx; subst hx
          have hs := hb.2
          rw [List.all_cons, Bool.and_eq_true] at hs
          exact plainT (xp_app (ihE _ _ hO) (ihE _ _ hA) hs.1 hb.1) fun _ => rfl
        · rename_i O hk hO
          cases h
          unfold mkOf at hk
          repeat' split at hk
          all_goals first | (cases hk; done) | skip
          rename_i hx; subst hx
          exact plainT (xp_pop (ihE _ _ hO) hb.1) fun _ => rfl
        · rename_i O a b hk hO
          split at h
          · rename_i A B hA hB
            cases h
            unfold mkOf at hk
            repeat' split at hk
            all_goals first | (cases hk; done) | skip
            rename_i hx; subst hx
            have hs := hb.2
            simp only [List.all_cons, Bool.and_eq_true] at hs
            exact plainT (xp_ins (ihE _ _ hO) (ihE _ _ hA) (ihE _ _ hB) hs.1 hs.2.1 hb.1) fun _ => rfl
          · cases h
        · cases h
      · cases h
    · rename_i elt tg iter ifs scope pos
      split at h
      · rename_i hb
        rw [Bool.and_eq_true] at hb
        have ihB : ∀ (s : Shared) (H : Hp) (C : Addr) (cl : List (Str × Addr)) (fp : List Addr), ∀ e m, cmpE T n (relS scope sc) (fun x => scope.names.lookup x == some .cell) e = some m → PE (X.blk s H scope (compEnvC scope cl C X.env) fp) e (rdE X.K m) ∧ PT (X.blk s H scope (compEnvC scope cl C X.env) fp) e (rdT X.K (tOf m)) :=
          fun s H C cl fp e m => cmpE_ok T n _ _ _ (ok.blk hb.1 s H C cl fp) e m
        split at h
        · rename_i it t c e hi ht hc he
          split at h
          · rename_i hsl
            cases h
            have L : Lc1 X tg iter elt ifs scope (ownOf T 8 tg) it t c e := ⟨by rw [ok.hN, ok.hsc]; exact blkOk_by hb.1, by rw [ok.hN]; exact ok.nd, ok.calm, cmpI_ok ok ihE (fun z => z) hi, notSet_ok hb.2 _,
              fun s H C cl fp => cmpTG_ok 8 _ _ _ (ok.blk hb.1 s H C cl fp) _ _ ht, fun s H C cl fp => cmpC_ok (fun e m z => (ihB s H C cl fp e m z).2) hc, fun s H C cl fp => (ihB s H C cl fp _ _ he).1,
              fun i hi => of_decide_eq_true (List.all_eq_true.mp hsl i hi)⟩
            exact plainT (PE.mono L.pe fun _ _ _ => rdF_of eLc_lst) fun _ => rfl
          · cases h
        · cases h
      · cases h
    · rename_i elt tg iter ifs tg1 iter1 ifs1 scope pos
      split at h
      · rename_i hb
        simp only [Bool.and_eq_true] at hb
        obtain ⟨⟨hb1, hb2⟩, hb3⟩ := hb
        have ihB : ∀ (s : Shared) (H : Hp) (C : Addr) (cl : List (Str × Addr)) (fp : List Addr), ∀ e m, cmpE T n (relS scope sc) (fun x => scope.names.lookup x == some .cell) e = some m → PE (X.blk s H scope (compEnvC scope cl C X.env) fp) e (rdE X.K m) ∧ PT (X.blk s H scope (compEnvC scope cl C X.env) fp) e (rdT X.K (tOf m)) :=
          fun s H C cl fp e m => cmpE_ok T n _ _ _ (ok.blk hb1 s H C cl fp) e m
        split at h
        · rename_i it t c e it1 t1 c1 hi ht hc he hi1 ht1 hc1
          split at h
          · rename_i hsl
            rw [Bool.and_eq_true] at hsl
            cases h
            have L : Lc1 X tg iter elt ifs scope (ownOf T 8 tg ++ ownOf T 8 tg1) it t c e := ⟨by rw [ok.hN, ok.hsc]; exact blkOk_by hb1, by rw [ok.hN]; exact ok.nd, ok.calm, cmpI_ok ok ihE (fun z => z) hi, notSet_ok hb2 _,
              fun s H C cl fp => cmpTG_ok 8 _ _ _ (ok.blk hb1 s H C cl fp) _ _ ht, fun s H C cl fp => cmpC_ok (fun e m z => (ihB s H C cl fp e m z).2) hc, fun s H C cl fp => (ihB s H C cl fp _ _ he).1,
              fun i hi => of_decide_eq_true (List.all_eq_true.mp hsl.1 i hi)⟩
            have M : Lc2 X tg1 iter1 ifs1 scope (ownOf T 8 tg ++ ownOf T 8 tg1) (ownOf T 8 tg1) it1 t1 c1 := ⟨fun s H C cl fp => cmpI_ok (ok.blk hb1 s H C cl fp) (fun e m z => (ihB s H C cl fp e m z).1) (fun z => z) hi1, notSet_ok hb3,
              fun s H C cl fp => cmpTG_ok 8 _ _ _ (ok.blk hb1 s H C cl fp) _ _ ht1, fun s H C cl fp => cmpC_ok (fun e m z => (ihB s H C cl fp e m z).2) hc1,
              fun i hi => of_decide_eq_true (List.all_eq_true.mp hsl.2 i hi), fun i hi => by rw [List.map_append]; exact List.mem_append_right _ hi⟩
            exact plainT (PE.mono (Lc2.pe L M) fun _ _ _ => rdF_of eLc2_lst) fun _ => rfl
          · cases h
        · cases h
      · cases h
    · cases h
end
end Ev
namespace Ev
open PySem PySem.Spec PyProof.Rows L2
def isStar : Expr → Bool
  | .Starred _ _ => true
  | _ => false
def swNames (ts : List Expr) (sc : Scope) : List Str := ts.filterMap fun e => match e with
  | .Name id pos => if sc.names.lookup id == some .local && pos.line == (ts.head?.map (·.pos.line)).getD 0 then some id else none
  | _ => none
/-- whether the stores go from the right -/
def swB (ts es : List Expr) (sc : Scope) : Bool :=
  (ts.length == 2 || ts.length == 3) && es.length == ts.length && !(es.any isStar) && (swNames ts sc).length == ts.length && (swNames ts sc).eraseDups.length == (swNames ts sc).length && !(es.all (foldedForSure 8))
theorem sw_eq {ts es : List Expr} {sc : Scope} {env : PySem.Env} {k k2 : Nat} {p p2 : Pos} (hs : env.scope = sc) (hk : sc.kind = .function) (h : (swB ts es sc && es.all (constantsAlone 8)) = false) :
    swappedStores [.Tuple ts k p] (.Tuple es k2 p2) env = pure (if swB ts es sc then some (swNames ts sc) else none) := by
  have hb : env.blockKind = .function := by unfold Env.blockKind; rw [hs, hk]; rfl
  subst hs
  unfold swappedStores
  simp only [hb]
  simp only [bne_self_eq_false, Bool.or_false]
  change (if (!(ts.length == 2 || ts.length == 3) || es.length != ts.length) = true then pure none else if (es.any isStar) = true then pure none
    else if ((swNames ts env.scope).length != ts.length || (swNames ts env.scope).eraseDups.length != (swNames ts env.scope).length) = true then pure none
    else if (es.all (foldedForSure 8)) = true then pure none else if (es.all (constantsAlone 8)) = true then _ else pure (some (swNames ts env.scope))) = _
  unfold swB at h ⊢
  by_cases h1 : (!(ts.length == 2 || ts.length == 3) || es.length != ts.length) = true
  · rw [if_pos h1]
    have e : ((ts.length == 2 || ts.length == 3) && es.length == ts.length) = false := by
      cases a : (ts.length == 2 || ts.length == 3) <;> cases b : (es.length == ts.length) <;> simp_all [bne]
    rw [e]; rfl
  · rw [if_neg h1]
    by_cases h2 : (es.any isStar) = true
    · rw [if_pos h2, h2]
      simp
    · rw [if_neg h2]
      by_cases h3 : ((swNames ts env.scope).length != ts.length || (swNames ts env.scope).eraseDups.length != (swNames ts env.scope).length) = true
      · rw [if_pos h3]
        have e : ((swNames ts env.scope).length == ts.length && (swNames ts env.scope).eraseDups.length == (swNames ts env.scope).length) = false := by
          cases a : ((swNames ts env.scope).length == ts.length) <;> cases b : ((swNames ts env.scope).eraseDups.length == (swNames ts env.scope).length) <;> simp_all [bne]
        have : ((ts.length == 2 || ts.length == 3) && es.length == ts.length && !(es.any isStar) && (swNames ts env.scope).length == ts.length && (swNames ts env.scope).eraseDups.length == (swNames ts env.scope).length && !(es.all (foldedForSure 8))) = false := by
          rw [Bool.and_assoc _ ((swNames ts env.scope).length == ts.length), e]
          simp
        rw [this]; rfl
      · rw [if_neg h3]
        by_cases h4 : (es.all (foldedForSure 8)) = true
        · rw [if_pos h4, h4]
          simp
        · rw [if_neg h4]
          have q1 : ((ts.length == 2 || ts.length == 3) && es.length == ts.length) = true := by
            cases a : (ts.length == 2 || ts.length == 3) <;> cases b : (es.length == ts.length) <;> simp_all [bne]
          have q3 : ((swNames ts env.scope).length == ts.length && (swNames ts env.scope).eraseDups.length == (swNames ts env.scope).length) = true := by
            cases a : ((swNames ts env.scope).length == ts.length) <;> cases b : ((swNames ts env.scope).eraseDups.length == (swNames ts env.scope).length) <;> simp_all [bne]
          have q : ((ts.length == 2 || ts.length == 3) && es.length == ts.length && !(es.any isStar) && (swNames ts env.scope).length == ts.length && (swNames ts env.scope).eraseDups.length == (swNames ts env.scope).length && !(es.all (foldedForSure 8))) = true := by
            rw [Bool.and_assoc _ ((swNames ts env.scope).length == ts.length), q3, q1, Bool.eq_false_iff.mpr h2, Bool.eq_false_iff.mpr h4]; rfl
          rw [q] at h ⊢
          rw [Bool.true_and] at h
          rw [h, if_neg Bool.false_ne_true, if_pos rfl]
end Ev
/-! EvCmpS: statements and defs from the syntax. -/
namespace Ev
open PySem PySem.Spec PyProof.Rows L2

def nameIx (T : Tab) (sc : Scope) : List Expr → Option (List Nat)
  | [] => some []
  | .Name x _ :: r => if locB sc (fun _ => true) x then match ixOf x T.N 0, nameIx T sc r with
    | some i, some is => some (i :: is)
    | _, _ => none
    else none
  | _ :: _ => none
def isComp : Expr → Bool
  | .ListComp _ _ _ _ => true
  | .SetComp _ _ _ _ => true
  | .DictComp _ _ _ _ _ => true
  | _ => false
def isTupV : Expr → Bool
  | .Tuple _ _ _ => true
  | _ => false
/-- name = [.. for ..]: stored within the comprehension's frame -/
def swC (sc scope : Scope) (x : Str) (p vp : Pos) : Bool := (match sc.names.lookup x with
  | some .local => true
  | _ => false) && p.line == vp.line && !(scope.names.any fun (n, k) => n == x && (k == .local || k == .cell))
def isNewL : Expr → Bool
  | .List _ _ => true
  | .ListComp _ _ _ _ => true
  | _ => false
def fnT : Str → Bool := fun _ => true
def cmpSs (f : Stmt → Option MS) : List Stmt → Option MS
  | [] => some sNil
  | [s] => f s
  | s :: r => match f s, cmpSs f r with
    | some a, some b => some (sCons a b)
    | _, _ => none
def cmpS (T : Tab) (sc : Scope) : Nat → Stmt → Option MS
  | 0, _ => none
  | n + 1, st => match st with
    | .Return (some e) _ => (cmpE T 60 sc fnT e).map sRet
    | .Return none _ => some sRetN
    | .Pass _ => some sNil
    | .Raise (some (.Call (.Name "BadThing" _) [a] [] _)) none _ => if glB sc "BadThing" then (cmpE T 60 sc fnT a).map sRaise else none
    | .Raise _ _ _ => some sBad
    | .Expr e _ => if isComp e then none else (cmpE T 60 sc fnT e).map sExp
    | .If c a b _ => match cmpE T 60 sc fnT c, cmpSs (cmpS T sc n) a, cmpSs (cmpS T sc n) b with
      | some C, some A, some B => some (sIf C A B)
      | _, _, _ => none
    | .While c b [] _ => match cmpE T 60 sc fnT c, cmpSs (cmpS T sc n) b with
      | some C, some B => some (sWh C B)
      | _, _ => none
    | .For tg it b [] _ => if notSet it then match cmpI T (cmpE T 60 sc fnT) sc (isTup tg) it, cmpTG T sc fnT 8 tg, cmpSs (cmpS T sc n) b with
      | some I, some t, some B => some (sFor I t B)
      | _, _, _ => none
      else none
    | .Assign [.Name x p] v _ => match ixOf x T.N 0 with
      | some i => if locB sc fnT x then
          if decide (x ∈ T.mu) && isNewL v then (cmpE T 60 sc fnT v).map (sNew i)
          else (cmpE T 60 sc fnT v).map (sSet i)
        else none
      | none => none
    | .Assign [.Tuple ts _ _] (.Tuple es _ _) _ => match nameIx T sc ts with
      | some is => if es.length == ts.length && es.all noStar && decide is.Nodup && Nat.ble is.length 1000 && ts.all noStar && !(swB ts es sc && es.all (constantsAlone 8)) then (cmpA (cmpE T 60 sc fnT) es).map (sPar is) else none
      | none => none
    | .Assign [.Tuple ts k p] v _ => if isComp v || isTupV v then none else match cmpTG T sc fnT 8 (.Tuple ts k p), cmpE T 60 sc fnT v with
      | some t, some A => some (sUnp t A)
      | _, _ => none
    | .Assign [.Subscript o i _] v _ => if isComp v || !plainIx i then none else match cmpE T 60 sc fnT o, cmpE T 60 sc fnT i, cmpE T 60 sc fnT v with
      | some O, some I, some A => some (sSub O I A)
      | _, _, _ => none
    | _ => none

section
variable {T : Tab} {sc : Scope} {X : Cx}
theorem cmpE_pe (ok : Cok T sc fnT X) {e : Expr} {m : ME} (h : cmpE T 60 sc fnT e = some m) : PE X e (rdE X.K m) := (cmpE_ok T 60 X sc fnT ok e m h).1
theorem cmpE_pt (ok : Cok T sc fnT X) {e : Expr} {m : ME} (h : cmpE T 60 sc fnT e = some m) : PT X e (rdT X.K (tOf m)) := (cmpE_ok T 60 X sc fnT ok e m h).2
theorem cmpSs_ok {f : Stmt → Option MS} (hf : ∀ e m, f e = some m → PS X e (rdS X.K m)) : ∀ (ss : List Stmt) (m : MS), cmpSs f ss = some m → PSs X ss (rdS X.K m)
  | [], m, h => by unfold cmpSs at h; cases h; exact xs_nil
  | [s], m, h => by unfold cmpSs at h; exact xs_one (hf _ _ h)
  | s :: t :: r, m, h => by
    unfold cmpSs at h
    split at h
    · rename_i h1 h2
      cases h
      exact xs_cons (hf _ _ h1) (cmpSs_ok hf _ _ h2)
    · cases h
theorem comp_no {e : Expr} (h : isComp e = false) (t : Option Expr) (n : Nat) (env : PySem.Env) : swapsWith e t n env = pure false := by
  cases e <;> first | rfl | cases h
theorem loc_ok (ok : Cok T sc fnT X) {x : Str} (hl : locB sc fnT x = true) : Loc X.env.scope x ∧ (X.fn x = true ∨ X.env.scope.names.lookup x = some .local) := by
  rw [ok.hsc]
  unfold locB at hl
  split at hl
  · rename_i z; exact ⟨.inl z, .inr z⟩
  · rename_i z; exact ⟨.inr z, .inl (ok.fn x rfl)⟩
  · cases hl
/-- name = a value that is no comprehension -/
theorem asg_plain (ok : Cok T sc fnT X) {x : Str} {i : Nat} {v : Expr} {t : TE} {p pos : Pos} (hi : ixOf x T.N 0 = some i) (hl : locB sc fnT x = true) (hv : isComp v = false) (h : PE X v t) : PS X (.Assign [.Name x p] v pos) (tAsg t (gName i)) := by
  obtain ⟨h1, h2⟩ := loc_ok ok hl
  exact ps_set (by rw [ok.hN]; exact ok.nd) (by rw [ok.hN]; exact ixOf_zero hi) h1 h (comp_no hv _ _ _) h2
theorem swC_no (ok : Cok T sc fnT X) {elt : Expr} {gens : List Comprehension} {scope : Scope} {x : Str} {p vp : Pos} (n : Nat) (h : swC sc scope x p vp = false) : swapsWith (.ListComp elt gens scope vp) (some (.Name x p)) n X.env = pure false := by
  have hb : X.env.blockKind = .function := by unfold Env.blockKind; rw [ok.hsc, ok.kind]; rfl
  unfold swapsWith
  simp only [hb]
  have hk : X.env.kindOf x = sc.names.lookup x := by unfold Env.kindOf; rw [ok.hsc]
  unfold swC at h
  simp only [hk, Expr.pos]
  show pure (((ScopeKind.function == ScopeKind.function) && (sc.names.lookup x == some NameKind.local) && p.line == vp.line) && !(scope.names.any fun y => match y with | (n, k) => n == x && (k == NameKind.local || k == NameKind.cell))) = pure false
  have e : (sc.names.lookup x == some NameKind.local) = (match sc.names.lookup x with
    | some .local => true
    | _ => false) := by
    cases sc.names.lookup x with
    | none => rfl
    | some k => cases k <;> rfl
  rw [e]
  congr 1
theorem swC_yes (ok : Cok T sc fnT X) {elt : Expr} {gens : List Comprehension} {scope : Scope} {x : Str} {p vp : Pos} (n : Nat) (h : swC sc scope x p vp = true) : X.env.scope.names.lookup x = some .local ∧ swapsWith (.ListComp elt gens scope vp) (some (.Name x p)) n X.env = pure true := by
  unfold swC at h
  simp only [Bool.and_eq_true, Bool.not_eq_true'] at h
  obtain ⟨⟨h1, h2⟩, h3⟩ := h
  have hl : X.env.scope.names.lookup x = some .local := by
    rw [ok.hsc]
    split at h1
    · assumption
    · cases h1
  exact ⟨hl, sw_true (by rw [ok.hsc]; exact ok.kind) hl h2 h3⟩
/-- the parts of a comprehension -/
theorem parts1 (ok : Cok T sc fnT X) {elt tg iter : Expr} {ifs : List Expr} {scope : Scope} {vp : Pos} {m : ME} {n : Nat} (h : cmpE T (n + 1) sc fnT (.ListComp elt [⟨tg, iter, ifs, 0⟩] scope vp) = some m) :
    ∃ own it t c e, Lc1 X tg iter elt ifs scope own it t c e ∧ m = eLc it t (own.map (·.2)) c e := by
  unfold cmpE at h
  split at h <;> rename_i heq <;> first | (cases heq; done) | skip
  · cases heq
    split at h
    · rename_i hb
      rw [Bool.and_eq_true] at hb
      have ihB : ∀ (s : Shared) (H : Hp) (C : Addr) (cl : List (Str × Addr)) (fp : List Addr), ∀ e m, cmpE T n (relS scope sc) (fun x => scope.names.lookup x == some .cell) e = some m → PE (X.blk s H scope (compEnvC scope cl C X.env) fp) e (rdE X.K m) ∧ PT (X.blk s H scope (compEnvC scope cl C X.env) fp) e (rdT X.K (tOf m)) :=
        fun s H C cl fp e m => cmpE_ok T n _ _ _ (ok.blk hb.1 s H C cl fp) e m
      split at h
      · rename_i it t c e hi ht hc he
        split at h
        · rename_i hsl
          cases h
          exact ⟨_, it, t, c, e, ⟨by rw [ok.hN, ok.hsc]; exact blkOk_by hb.1, by rw [ok.hN]; exact ok.nd, ok.calm, cmpI_ok ok (fun e m z => (cmpE_ok T n X sc fnT ok e m z).1) (fun z => z) hi, notSet_ok hb.2 _,
            fun s H C cl fp => cmpTG_ok 8 _ _ _ (ok.blk hb.1 s H C cl fp) _ _ ht, fun s H C cl fp => cmpC_ok (fun e m z => (ihB s H C cl fp e m z).2) hc, fun s H C cl fp => (ihB s H C cl fp _ _ he).1,
            fun i hi => of_decide_eq_true (List.all_eq_true.mp hsl i hi)⟩, rfl⟩
        · cases h
      · cases h
    · cases h
  · cases h
theorem parts2 (ok : Cok T sc fnT X) {elt tg iter tg1 iter1 : Expr} {ifs ifs1 : List Expr} {scope : Scope} {vp : Pos} {m : ME} {n : Nat} (h : cmpE T (n + 1) sc fnT (.ListComp elt [⟨tg, iter, ifs, 0⟩, ⟨tg1, iter1, ifs1, 0⟩] scope vp) = some m) :
    ∃ own own1 it t c e it1 t1 c1, Lc1 X tg iter elt ifs scope own it t c e ∧ Lc2 X tg1 iter1 ifs1 scope own own1 it1 t1 c1 ∧ m = eLc2 it t (own.map (·.2)) c it1 t1 (own1.map (·.2)) c1 e := by
  unfold cmpE at h
  split at h <;> rename_i heq <;> first | (cases heq; done) | skip
  · cases heq
    split at h
    · rename_i hb
      simp only [Bool.and_eq_true] at hb
      obtain ⟨⟨hb1, hb2⟩, hb3⟩ := hb
      have ihB : ∀ (s : Shared) (H : Hp) (C : Addr) (cl : List (Str × Addr)) (fp : List Addr), ∀ e m, cmpE T n (relS scope sc) (fun x => scope.names.lookup x == some .cell) e = some m → PE (X.blk s H scope (compEnvC scope cl C X.env) fp) e (rdE X.K m) ∧ PT (X.blk s H scope (compEnvC scope cl C X.env) fp) e (rdT X.K (tOf m)) :=
        fun s H C cl fp e m => cmpE_ok T n _ _ _ (ok.blk hb1 s H C cl fp) e m
      split at h
      · rename_i it t c e it1 t1 c1 hi ht hc he hi1 ht1 hc1
        split at h
        · rename_i hsl
          rw [Bool.and_eq_true] at hsl
          cases h
          refine ⟨_, _, it, t, c, e, it1, t1, c1, ⟨by rw [ok.hN, ok.hsc]; exact blkOk_by hb1, by rw [ok.hN]; exact ok.nd, ok.calm, cmpI_ok ok (fun e m z => (cmpE_ok T n X sc fnT ok e m z).1) (fun z => z) hi, notSet_ok hb2 _,
            fun s H C cl fp => cmpTG_ok 8 _ _ _ (ok.blk hb1 s H C cl fp) _ _ ht, fun s H C cl fp => cmpC_ok (fun e m z => (ihB s H C cl fp e m z).2) hc, fun s H C cl fp => (ihB s H C cl fp _ _ he).1,
            fun i hi => of_decide_eq_true (List.all_eq_true.mp hsl.1 i hi)⟩,
            ⟨fun s H C cl fp => cmpI_ok (ok.blk hb1 s H C cl fp) (fun e m z => (ihB s H C cl fp e m z).1) (fun z => z) hi1, notSet_ok hb3,
            fun s H C cl fp => cmpTG_ok 8 _ _ _ (ok.blk hb1 s H C cl fp) _ _ ht1, fun s H C cl fp => cmpC_ok (fun e m z => (ihB s H C cl fp e m z).2) hc1,
            fun i hi => of_decide_eq_true (List.all_eq_true.mp hsl.2 i hi), fun i hi => by rw [List.map_append]; exact List.mem_append_right _ hi⟩, rfl⟩
        · cases h
      · cases h
    · cases h
  · cases h
/-- name = a list display or comprehension: the list is new -/
theorem asg_new (ok : Cok T sc fnT X) {x : Str} {i : Nat} {v : Expr} {m : ME} {p pos : Pos} (hi : ixOf x T.N 0 = some i) (hl : locB sc fnT x = true) (hv : isNewL v = true) (h : cmpE T 60 sc fnT v = some m) : PS X (.Assign [.Name x p] v pos) (tAsg (rdF X.K m) (gName i)) := by
  obtain ⟨l1, l2⟩ := loc_ok ok hl
  have hN : X.N.Nodup := by rw [ok.hN]; exact ok.nd
  have hx : X.N[i]? = some x := by rw [ok.hN]; exact ixOf_zero hi
  unfold isNewL at hv
  split at hv
  · unfold cmpE at h
    dsimp only at h
    obtain ⟨A, hA, rfl⟩ := Option.map_eq_some_iff.mp h
    exact asg_plain ok hi hl rfl (xf_lst (cmpA_ok (fun e m z => (cmpE_ok T 59 X sc fnT ok e m z).1) _ _ hA))
  · rename_i elt gens scope vp
    have shape : (∃ tg iter ifs, gens = [⟨tg, iter, ifs, 0⟩]) ∨ ∃ tg iter ifs tg1 iter1 ifs1, gens = [⟨tg, iter, ifs, 0⟩, ⟨tg1, iter1, ifs1, 0⟩] := by
      unfold cmpE at h
      split at h <;> rename_i heq <;> first | (cases heq; done) | skip
      · cases heq; exact .inl ⟨_, _, _, rfl⟩
      · cases heq; exact .inr ⟨_, _, _, _, _, _, rfl⟩
      · cases h
    rcases shape with ⟨tg, iter, ifs, rfl⟩ | ⟨tg, iter, ifs, tg1, iter1, ifs1, rfl⟩
    · obtain ⟨own, it, t, c, e, L, rfl⟩ := parts1 ok h
      cases hs : swC sc scope x p vp with
      | true =>
        obtain ⟨y1, y2⟩ := swC_yes (elt := elt) (gens := [⟨tg, iter, ifs, 0⟩]) ok pos.line hs
        exact PS.mono (ps_setLc L.calm L.nd hx y1 y2 L.i L.ok L.g L.q L.y L.s) fun D σ H z => lc_read L.sl z
      | false => exact ps_set hN hx l1 L.pe (swC_no ok pos.line hs) l2
    · obtain ⟨own, own1, it, t, c, e, it1, t1, c1, L, M, rfl⟩ := parts2 ok h
      cases hs : swC sc scope x p vp with
      | true =>
        obtain ⟨y1, y2⟩ := swC_yes (elt := elt) (gens := [⟨tg, iter, ifs, 0⟩, ⟨tg1, iter1, ifs1, 0⟩]) ok pos.line hs
        exact PS.mono (ps_setLc2 (vs1 := List.map (fun y : Str × Nat => y.2) own1) L.calm L.nd hx y1 y2 L.i L.ok M.sub L.g L.q M.i M.g M.q L.y L.s M.s) fun D σ H z => lc2_read L.sl M.sl z
      | false => exact ps_set hN hx l1 (Lc2.pe L M) (swC_no ok pos.line hs) l2
  · cases hv
theorem cmp_list {v : Expr} {m : ME} {n : Nat} {fnb : Str → Bool} (hv : isNewL v = true) (h : cmpE T n sc fnb v = some m) : ∀ env st r st', m env st = .ok r st' → ∃ ds, r = .dat (.list ds) := by
  cases n with
  | zero => unfold cmpE at h; cases h
  | succ n =>
    unfold isNewL at hv
    split at hv
    · unfold cmpE at h
      dsimp only at h
      obtain ⟨A, hA, rfl⟩ := Option.map_eq_some_iff.mp h
      exact eLst_lst
    · unfold cmpE at h
      split at h <;> rename_i heq <;> first | (cases heq; done) | skip
      · split at h
        · split at h
          · split at h
            · cases h; exact eLc_lst
            · cases h
          · cases h
        · cases h
      · split at h
        · split at h
          · split at h
            · cases h; exact eLc2_lst
            · cases h
          · cases h
        · cases h
      · cases h
    · cases hv
/-! ### many names at once -/
def gNs : List Nat → L2.TGs
  | [] => gNil
  | i :: is => gCons (gName i) (gNs is)
theorem nameIx_gs (ok : Cok T sc fnT X) : ∀ {ts : List Expr} {is : List Nat}, nameIx T sc ts = some is → PGs X ts (gNs is) ∧ ts.length = is.length
  | [], is, h => by unfold nameIx at h; cases h; exact ⟨pgs_nil, rfl⟩
  | e :: es, is, h => by
    unfold nameIx at h
    split at h
    · rename_i heq; cases heq
    · rename_i x p r heq
      cases heq
      split at h
      · rename_i hl
        split at h
        · rename_i i js hi hj
          cases h
          obtain ⟨l1, l2⟩ := loc_ok ok hl
          obtain ⟨h1, h2⟩ := nameIx_gs ok hj
          exact ⟨pgs_cons (pg_name (by rw [ok.hN]; exact ok.nd) (by rw [ok.hN]; exact ixOf_zero hi) l1 l2) h1 (each_cons rfl), by rw [List.length_cons, List.length_cons, h2]⟩
        · cases h
      · cases h
    · cases h
theorem gNs_put : ∀ {is : List Nat} {us : List V} {σ : L2.St} {H : Hp} {Q : L2.St → Hp → Prop}, us.length = is.length → Q ((is.zip us).foldl (fun σ q => σ.set q.1 (some q.2)) σ) H → gNs is us σ H Q
  | [], [], _, _, _, _, q => ⟨rfl, q⟩
  | [], _ :: _, _, _, _, h, _ => by simp at h
  | _ :: _, [], _, _, _, h, _ => by simp at h
  | i :: is, u :: us, _, _, _, h, q => ⟨u, us, rfl, gNs_put (by simpa using h) q⟩
theorem rdA_mono {K : PySem.W.Frag} {m : MA} {σ : L2.St} {H : Hp} {Q Q' : List V → Hp → Prop} (h : rdA K m σ H Q) (q : ∀ vs H, Q vs H → Q' vs H) : rdA K m σ H Q' := by
  obtain ⟨ι, P, env, st, A, vs, st', e, z⟩ := h
  exact ⟨ι, P, env, st, A, vs, st', e, fun us H' x r w => q _ _ (z us H' x r w)⟩
theorem xs_par2 {s0 : Stmt} {is : List Nat} {ts : TS} {mA : MA} (h : PS X s0 ts) (hq : ∀ D σ H, (rdA X.K mA σ H fun vs H1 => vs.length = is.length ∧ ∀ H2, Same H1 H2 → D.nx ((is.zip vs).foldl (fun σ q => σ.set q.1 (some q.2)) σ) H2) → ts D σ H) : PS X s0 (rdS X.K (sPar is mA)) :=
  PS.mono h fun D σ H ⟨ι, P, env, st, A, r, st', e, q⟩ => by
    obtain ⟨v, s1, h1, e⟩ := bind_ok (noX_ok e)
    refine hq D σ H (rdA.bind A h1 fun u H1 x1 A1 r1 => ?_)
    split at e
    · rename_i env' hs
      cases e
      obtain ⟨g1, g2⟩ := setsE_re r1 hs A1.e
      exact ⟨g1, fun H2 sm => q _ H2 ι P (Gr.of (x1.trans (.same sm))) ⟨g2.ext (.same sm), A1.s.same sm⟩⟩
    · cases e
theorem xs_tup (ok : Cok T sc fnT X) {ts es : List Expr} {is : List Nat} {mA : MA} {k k2 : Nat} {p p2 pos : Pos} (hn : nameIx T sc ts = some is) (hl : es.length = ts.length) (hb : Nat.ble is.length 1000 = true) (hts : ts.all noStar = true) (ha : PA X es (rdA X.K mA))
    (hw : swappedStores [.Tuple ts k p] (.Tuple es k2 p2) X.env = pure none) : PS X (.Assign [.Tuple ts k p] (.Tuple es k2 p2) pos) (rdS X.K (sPar is mA)) := by
  obtain ⟨h1, h2⟩ := nameIx_gs ok hn
  have hb := Nat.le_of_ble_eq_true hb
  refine xs_par2 (ps_asg (pe_tup ha) (pg_tup (n := is.length) ok.calm h1 (by rw [each_len, h2]) (each_star hts)) rfl hw (each_cons rfl)) fun D σ H h => ?_
  refine rdA_mono h fun vs H1 ⟨l, q⟩ => ⟨by rw [l, sizeLine_eq]; omega, fun p hp => ?_⟩
  exact ⟨p, vs, rfl, SqT.of upd_same, l, gNs_put l (q _ (same_upd hp))⟩
def swG (sc : Scope) (o : Nat) (e : Expr) : Option Str := match e with
  | .Name id pos => if sc.names.lookup id == some .local && pos.line == o then some id else none
  | _ => none
theorem swNames_eq (ts : List Expr) (sc : Scope) : swNames ts sc = ts.filterMap (swG sc ((ts.head?.map (·.pos.line)).getD 0)) := rfl
structure Nm (T : Tab) (sc : Scope) (e : Expr) (x : Str) (i : Nat) : Prop where
  e : ∃ p, e = .Name x p
  i : ixOf x T.N 0 = some i
  l : sc.names.lookup x = some .local
theorem swn_cons {o : Nat} {e : Expr} {r : List Expr} {is : List Nat} (hn : nameIx T sc (e :: r) = some is) (h : ((e :: r).filterMap (swG sc o)).length = (e :: r).length) :
    ∃ x i js, Nm T sc e x i ∧ is = i :: js ∧ nameIx T sc r = some js ∧ (r.filterMap (swG sc o)).length = r.length ∧ (e :: r).filterMap (swG sc o) = x :: r.filterMap (swG sc o) := by
  unfold nameIx at hn
  split at hn
  · rename_i heq; cases heq
  · rename_i x p r heq
    cases heq
    split at hn
    · split at hn
      · rename_i i js hi hj
        cases hn
        have hle := List.length_filterMap_le (swG sc o) r
        rw [List.filterMap_cons] at h ⊢
        split at h
        · rw [List.length_cons] at h; omega
        · rename_i b hb
          unfold swG at hb
          dsimp only at hb
          split at hb
          · rename_i w
            rw [Bool.and_eq_true] at w
            cases hb
            exact ⟨x, i, js, ⟨⟨p, rfl⟩, hi, by simpa using w.1⟩, rfl, hj, by simpa using h, rfl⟩
          · cases hb
      · cases hn
    · cases hn
  · cases hn
theorem xs_tuple (ok : Cok T sc fnT X) {ts es : List Expr} {is : List Nat} {mA : MA} {k k2 : Nat} {p p2 pos : Pos} (hn : nameIx T sc ts = some is) (hl : es.length = ts.length) (hd : is.Nodup) (hb : Nat.ble is.length 1000 = true) (hts : ts.all noStar = true) (ha : PA X es (rdA X.K mA))
    (hc : (swB ts es sc && es.all (constantsAlone 8)) = false) : PS X (.Assign [.Tuple ts k p] (.Tuple es k2 p2) pos) (rdS X.K (sPar is mA)) := by
  have hsw := sw_eq (k := k) (k2 := k2) (p := p) (p2 := p2) ok.hsc ok.kind hc
  cases hq : swB ts es sc with
  | false =>
    rw [hq] at hsw
    exact xs_tup ok hn hl hb hts ha hsw
  | true =>
    rw [hq, if_pos rfl] at hsw
    unfold swB at hq
    simp only [Bool.and_eq_true, Bool.or_eq_true, beq_iff_eq] at hq
    obtain ⟨⟨⟨⟨⟨h23, _⟩, _⟩, hnl⟩, _⟩, _⟩ := hq
    rw [swNames_eq] at hnl hsw
    have hN : X.N.Nodup := by rw [ok.hN]; exact ok.nd
    rcases h23 with h2 | h3
    · match ts, es, h2, hn, hnl, hsw, hl, ha with
      | [e1, e2], [a, b], _, hn, hnl, hsw, hl, ha =>
        generalize ((List.head? [e1, e2]).map (·.pos.line)).getD 0 = o at hnl hsw
        obtain ⟨x, i, js, N1, rfl, hn, hnl, f1⟩ := swn_cons hn hnl
        obtain ⟨y, j, ks, N2, rfl, hn, hnl, f2⟩ := swn_cons hn hnl
        unfold nameIx at hn
        cases hn
        obtain ⟨⟨px, rfl⟩, i1, l1⟩ := N1
        obtain ⟨⟨py, rfl⟩, i2, l2⟩ := N2
        rw [f1, f2, List.filterMap_nil] at hsw
        have hij : i ≠ j := fun z => (List.nodup_cons.mp hd).1 (by rw [z]; exact List.mem_cons_self)
        refine xs_par2 (ps_par ok.calm hN (by rw [ok.hN]; exact ixOf_zero i1) (by rw [ok.hN]; exact ixOf_zero i2) hij (by rw [ok.hsc]; exact l1) (by rw [ok.hsc]; exact l2) ha hsw rfl) fun D σ H h => ?_
        refine rdA_mono h fun vs H1 ⟨l, q⟩ => ?_
        match vs, l, q with
        | [v, w], _, q => exact ⟨v, w, rfl, q _ (Same.refl _)⟩
    · match ts, es, h3, hn, hnl, hsw, hl, ha with
      | [e1, e2, e3], [a, b, c], _, hn, hnl, hsw, hl, ha =>
        generalize ((List.head? [e1, e2, e3]).map (·.pos.line)).getD 0 = o at hnl hsw
        obtain ⟨x, i, js, N1, rfl, hn, hnl, f1⟩ := swn_cons hn hnl
        obtain ⟨y, j, ks, N2, rfl, hn, hnl, f2⟩ := swn_cons hn hnl
        obtain ⟨z, m, ms, N3, rfl, hn, hnl, f3⟩ := swn_cons hn hnl
        unfold nameIx at hn
        cases hn
        obtain ⟨⟨px, rfl⟩, i1, l1⟩ := N1
        obtain ⟨⟨py, rfl⟩, i2, l2⟩ := N2
        obtain ⟨⟨pz, rfl⟩, i3, l3⟩ := N3
        rw [f1, f2, f3, List.filterMap_nil] at hsw
        have hd2 := List.nodup_cons.mp hd
        have hij : i ≠ j := fun z => hd2.1 (by rw [z]; exact List.mem_cons_self)
        have him : i ≠ m := fun z => hd2.1 (by rw [z]; exact List.mem_cons_of_mem _ List.mem_cons_self)
        have hjm : j ≠ m := fun z => (List.nodup_cons.mp hd2.2).1 (by rw [z]; exact List.mem_cons_self)
        refine xs_par2 (ps_par3 ok.calm hN (by rw [ok.hN]; exact ixOf_zero i1) (by rw [ok.hN]; exact ixOf_zero i2) (by rw [ok.hN]; exact ixOf_zero i3) hij him hjm (by rw [ok.hsc]; exact l1) (by rw [ok.hsc]; exact l2) (by rw [ok.hsc]; exact l3) ha hsw rfl) fun D σ H h => ?_
        refine rdA_mono h fun vs H1 ⟨l, q⟩ => ?_
        match vs, l, q with
        | [v, w, u], _, q => exact ⟨v, w, u, rfl, q _ (Same.refl _)⟩
theorem cmp_noC {v : Expr} {n : Nat} {fnb : Str → Bool} {m : ME} (h : cmpE T n sc fnb v = some m) (hv : isNewL v = false) : isComp v = false := by
  cases n with
  | zero => unfold cmpE at h; cases h
  | succ n =>
    cases hc : isComp v with
    | false => rfl
    | true =>
      unfold isComp at hc
      split at hc
      · cases hv
      · unfold cmpE at h
        split at h <;> rename_i heq <;> first | (cases heq; done) | (cases h; done)
      · unfold cmpE at h
        split at h <;> rename_i heq <;> first | (cases heq; done) | (cases h; done)
      · cases hc
theorem asg_sub {b c : Expr} {p : Pos} {env : PySem.Env} (h : plainIx c = true) : ∀ v, assign (.Subscript b c p) env v = (do
      let ov ← holding [v] (eval b env)
      let iv ← holding [v, ov] (eval c env)
      standAt p
      holding [v, ov, iv] (setItem ov iv v)
      release [v, ov, iv] []) := fun v => by
  cases c <;> first | rfl | cases h
theorem swo_no {t v : Expr} (ht : (match t with
    | .Name _ _ => true
    | _ => false) = false) (n : Nat) (env : PySem.Env) (hv : isComp v = false) : swapsWithSole [t] v n env = pure false := comp_no hv _ _ _
theorem swt_no {t v : Expr} {env : PySem.Env} (h : isTupV v = false) : swappedStores [t] v env = pure none := by
  cases v <;> first | (cases t <;> rfl) | cases h
theorem sub_no {o i v : Expr} {p : Pos} {env : PySem.Env} : swappedStores [.Subscript o i p] v env = pure none := by
  cases v <;> rfl
theorem xs_raise0 {s0 : Stmt} {ma : ME} : PS X s0 (rdS X.K (sRaise ma)) :=
  PS.mono (ps_never) fun D σ H ⟨ι, P, env, st, A, r, st', e, q⟩ => by
    obtain ⟨v, s1, h1, e⟩ := bind_ok e
    split at e <;> cases e
theorem cmpS_ok (ok : Cok T sc fnT X) (hp : PassesOwn (model X.prog X.w) X.A X.env X.xe) : ∀ (n : Nat) (st : Stmt) (m : MS), cmpS T sc n st = some m → PS X st (rdS X.K m)
  | 0, st, m, h => by unfold cmpS at h; cases h
  | n + 1, st, m, h => by
    have ih := cmpS_ok ok hp n
    unfold cmpS at h
    split at h
    · obtain ⟨A, hA, rfl⟩ := Option.map_eq_some_iff.mp h
      exact xs_ret (cmpE_pe ok hA)
    · cases h; exact xs_retN
    · cases h; exact xs_pass
    · split at h
      · obtain ⟨A, hA, rfl⟩ := Option.map_eq_some_iff.mp h
        exact xs_raise0
      · cases h
    · cases h; exact xs_bad
    · split at h
      · cases h
      · rename_i hc
        obtain ⟨A, hA, rfl⟩ := Option.map_eq_some_iff.mp h
        exact xs_exp (cmpE_pe ok hA) (comp_no (Bool.eq_false_iff.mpr hc) _ _ _)
    · split at h
      · rename_i hC hA hB
        cases h
        exact xs_if (cmpE_pt ok hC) (cmpSs_ok ih _ _ hA) (cmpSs_ok ih _ _ hB)
      · cases h
    · split at h
      · rename_i hC hB
        cases h
        exact xs_wh hp (cmpE_pt ok hC) (cmpSs_ok ih _ _ hB)
      · cases h
    · split at h
      · rename_i hs
        split at h
        · rename_i hi ht hB
          cases h
          exact xs_for hp ok.calm (cmpI_ok ok (fun e m z => cmpE_pe ok z) (fun z => z) hi) (cmpTG_ok 8 _ _ _ ok _ _ ht) (cmpSs_ok ih _ _ hB) (notSet_ok hs _)
        · cases h
      · cases h
    · rename_i x p v pos
      split at h
      · rename_i i hi
        split at h
        · rename_i hl
          split at h
          · rename_i hm
            rw [Bool.and_eq_true] at hm
            obtain ⟨A, hA, rfl⟩ := Option.map_eq_some_iff.mp h
            exact xs_new (asg_new ok hi hl hm.2 hA)
          · obtain ⟨A, hA, rfl⟩ := Option.map_eq_some_iff.mp h
            cases hv : isNewL v with
            | true => exact xs_set (PS.mono (asg_new ok hi hl hv hA) fun D σ H z => rdF_of (cmp_list hv hA) z)
            | false =>
              exact xs_set (asg_plain ok hi hl (cmp_noC hA hv) (cmpE_pe ok hA))
        · cases h
      · cases h
    · split at h
      · rename_i is hn
        split at h
        · rename_i hb
          simp only [Bool.and_eq_true, Bool.not_eq_true', beq_iff_eq, decide_eq_true_eq] at hb
          obtain ⟨⟨⟨⟨⟨h1, h2⟩, h3⟩, h4⟩, h5⟩, h6⟩ := hb
          obtain ⟨A, hA, rfl⟩ := Option.map_eq_some_iff.mp h
          exact xs_tuple ok hn h1 h3 h4 h5 (cmpA_ok (fun e m z => cmpE_pe ok z) _ _ hA) h6
        · cases h
      · cases h
    · split at h
      · cases h
      · rename_i hc
        have hc := Bool.eq_false_iff.mpr hc
        rw [Bool.or_eq_false_iff] at hc
        split at h
        · rename_i ht hA
          cases h
          exact xs_unp (cmpE_pe ok hA) (cmpTG_ok 8 _ _ _ ok _ _ ht) (swo_no rfl _ _ hc.1) (swt_no hc.2) rfl
        · cases h
    · split at h
      · cases h
      · rename_i hc
        have hc := Bool.eq_false_iff.mpr hc
        rw [Bool.or_eq_false_iff] at hc
        split at h
        · rename_i hO hI hA
          cases h
          refine xs_sub (cmpE_pe ok hA) (cmpE_pe ok hO) (cmpE_pe ok hI) (swo_no rfl _ _ hc.1) sub_no (asg_sub ?_)
          simpa using hc.2
        · cases h
    · cases h
end
end Ev
/-! EvEnd: defs by their combinators; the head. -/
namespace Ev
open PySem PySem.Spec PyProof.Rows L2

/-- the name x stands for a def that does what F says -/
def GoodF (Pg : Program) (w : World) (K : PySem.W.Frag) (mg : Str → Option Value) (base : Heap) (x : Str) (F : FnS) (k : Nat) : Prop :=
  (x == ("__debug__" : Str)) = false ∧ ∃ (g : Addr) (fd : FuncData) (ps : List Str), FnOk Pg w K mg base CX0 k g fd ps (spOf K F) ∧ mg x = some (.ref g) ∧ PySem.W.keepIn K (.ref g) = true ∧ Binds K fd ps []
section
variable {Pg : Program} {w : World} {K : PySem.W.Frag} {mg : Str → Option Value} {base : Heap}
theorem GoodF.mono {x : Str} {F : FnS} {j k : Nat} (h : GoodF Pg w K mg base x F j) (l : Nat.ble j k = true) : GoodF Pg w K mg base x F k :=
  let ⟨n, g, fd, ps, a, b, c, d⟩ := h
  ⟨n, g, fd, ps, a.mono (Nat.le_of_ble_eq_true l), b, c, d⟩
/-- a prim that answers as F does where it answers -/
def Le (P F : FnS) : Prop := ∀ vs s v s', P vs s = .ok v s' → F vs s = .ok v s'
theorem GoodF.imp {x : Str} {F P : FnS} {k : Nat} (h : GoodF Pg w K mg base x F k) (l : Le P F) : GoodF Pg w K mg base x P k :=
  let ⟨n, g, fd, ps, a, b, c, d⟩ := h
  ⟨n, g, fd, ps, a.imp fun _ _ _ _ ⟨ι, Q, xs, st, r, hv, v, st', e, q⟩ => ⟨ι, Q, xs, st, r, hv, v, st', l _ _ _ _ e, q⟩, b, c, d⟩
inductive AllG (Pg : Program) (w : World) (K : PySem.W.Frag) (mg : Str → Option Value) (base : Heap) (k : Nat) : FT → Prop
  | nil : AllG Pg w K mg base k []
  | cons {x : Str} {F : FnS} {r : FT} : GoodF Pg w K mg base x F k → AllG Pg w K mg base k r → AllG Pg w K mg base k ((x, F) :: r)
theorem AllG.get {k : Nat} {x : Str} {F : FnS} : ∀ {t : FT}, AllG Pg w K mg base k t → t.lookup x = some F → GoodF Pg w K mg base x F k
  | _, .nil, e => by cases e
  | (y, G) :: r, .cons h t, e => by
    have e2 : (match x == y with | true => some G | false => r.lookup x) = some F := e
    cases q : (x == y) with
    | true =>
      rw [q] at e2
      have e3 : G = F := Option.some.inj e2
      rw [beq_iff_eq.mp q, ← e3]
      exact h
    | false =>
      rw [q] at e2
      exact t.get e2
/-- constants -/
def CstOk (K : PySem.W.Frag) (mg : Str → Option Value) (x : Str) (d : PyData) : Prop := (x == ("__debug__" : Str)) = false ∧ ∃ u v, mg x = some u ∧ RelV v u ∧ ∀ H P, Rp K H P v d
mutual
def datB (K : PySem.W.Frag) : PyData → Value → Bool
  | .none, .none => true
  | .bool b, .bool c => b == c
  | .int i, .int j _ => decide (i = j)
  | .str x, .str y _ => decide (x = y)
  | .tuple ds, .ref a => (match K.lookup a with
    | some ⟨.type c, _, .seq its _, _⟩ => decide (c = "tuple") && (decide (its.size ≤ sizeLine) && datA K ds its.toList)
    | _ => false)
  | _, _ => false
def datA (K : PySem.W.Frag) : List PyData → List Value → Bool
  | [], [] => true
  | d :: ds, u :: us => datB K d u && datA K ds us
  | _, _ => false
end
mutual
theorem datB_ok : ∀ (d : PyData) (u : Value), datB K d u = true → ∃ v, RelV v u ∧ ∀ H P, Rp K H P v d
  | .none, u, h => by
    cases u <;> first | exact ⟨.non, rfl, fun _ _ => .non⟩ | (simp [datB] at h; done)
  | .bool b, u, h => by
    cases u <;> first | (simp [datB] at h; subst h; exact ⟨.bl _, rfl, fun _ _ => .bl _⟩) | (simp [datB] at h; done)
  | .int i, u, h => by
    cases u <;> first | (simp [datB] at h; subst h; exact ⟨.int _, ⟨_, rfl⟩, fun _ _ => .int _⟩) | (simp [datB] at h; done)
  | .str i, u, h => by
    cases u <;> first | (simp [datB] at h; subst h; exact ⟨.str _, ⟨_, rfl⟩, fun _ _ => .str _⟩) | (simp [datB] at h; done)
  | .tuple ds, u, h => by
    cases u with
    | ref a =>
      unfold datB at h
      cases q : K.lookup a with
      | none => rw [q] at h; cases h
      | some o =>
        obtain ⟨oc, od, dt, osl⟩ := o
        rw [q] at h
        cases oc with
        | type c =>
          cases dt with
          | seq its n =>
            obtain ⟨h1, h2⟩ := He.ba (show (decide (c = "tuple") && (decide (its.size ≤ sizeLine) && datA K ds its.toList)) = true from h)
            obtain ⟨h3, h4⟩ := He.ba h2
            obtain ⟨vs, r, rp⟩ := datA_ok ds _ h4
            exact ⟨.ref a, rfl, fun H P => .tup (.inr ⟨_, its, n, q, congrArg Value.type (of_decide_eq_true h1), rfl, of_decide_eq_true h3, r⟩) (rp H P)⟩
          | _ => cases h
        | _ => cases dt <;> cases h
    | _ => simp [datB] at h
  | .list _, u, h => by cases u <;> simp [datB] at h
  | .dict _, u, h => by cases u <;> simp [datB] at h
theorem datA_ok : ∀ (ds : List PyData) (us : List Value), datA K ds us = true → ∃ vs, Vals vs us ∧ ∀ H P, RpAll K H P vs ds
  | [], [], _ => ⟨[], .nil, fun _ _ => .nil⟩
  | [], _ :: _, h => by simp [datA] at h
  | _ :: _, [], h => by simp [datA] at h
  | d :: ds, u :: us, h => by
    unfold datA at h
    obtain ⟨h1, h2⟩ := He.ba h
    obtain ⟨v, r, rp⟩ := datB_ok d u h1
    obtain ⟨vs, rs, rps⟩ := datA_ok ds us h2
    exact ⟨v :: vs, .cons r rs, fun H P => .cons (rp H P) (rps H P)⟩
end
def cstB (K : PySem.W.Frag) (cs : CT) : Bool := cs.all fun p => !(p.1 == ("__debug__" : Str)) && (match PySem.W.nsIn K mainGlobals p.1 with
  | some (some u) => datB K p.2 u
  | _ => false)
inductive AllC (K : PySem.W.Frag) (mg : Str → Option Value) : CT → Prop
  | nil : AllC K mg []
  | cons {x : Str} {d : PyData} {r : CT} : CstOk K mg x d → AllC K mg r → AllC K mg ((x, d) :: r)
theorem AllC.get {x : Str} {d : PyData} : ∀ {t : CT}, AllC K mg t → t.lookup x = some d → CstOk K mg x d
  | _, .nil, e => by cases e
  | (y, G) :: r, .cons h t, e => by
    have e2 : (match x == y with | true => some G | false => r.lookup x) = some d := e
    cases q : (x == y) with
    | true =>
      rw [q] at e2
      have e3 : G = d := Option.some.inj e2
      rw [beq_iff_eq.mp q, ← e3]
      exact h
    | false =>
      rw [q] at e2
      exact t.get e2
theorem cstB_ok {h : Heap} (X : K.In h) (G : h.Ns mainGlobals mg) : ∀ {cs : CT}, cstB K cs = true → AllC K mg cs
  | [], _ => .nil
  | (x, d) :: r, c => by
    unfold cstB at c
    rw [List.all_cons] at c
    obtain ⟨c1, c2⟩ := He.ba c
    obtain ⟨c3, c4⟩ := He.ba c1
    refine .cons ⟨by simpa using c3, ?_⟩ (cstB_ok X G (cs := r) c2)
    have c5 : (match PySem.W.nsIn K mainGlobals x with
      | some (some u) => datB K d u
      | _ => false) = true := c4
    cases q : PySem.W.nsIn K mainGlobals x with
    | none => rw [q] at c5; cases c5
    | some o =>
      rw [q] at c5
      cases o with
      | none => cases c5
      | some u =>
        obtain ⟨v, r1, r2⟩ := datB_ok d u c5
        exact ⟨u, v, PySem.W.mg_of X G q, r1, r2⟩
def nmsOk (N : List Str) : Bool := N.all fun x => !(x == ("__debug__" : Str)) && !(x == ("__classdict__" : Str))
theorem nmsOk_ok {N : List Str} (h : nmsOk N = true) : ∀ x ∈ N, (x == ("__debug__" : Str)) = false ∧ (x == ("__classdict__" : Str)) = false := fun x hx => by
  have h2 := List.all_eq_true.mp h x hx
  obtain ⟨h3, h4⟩ := He.ba h2
  exact ⟨by simpa using h3, by simpa using h4⟩
/-- a def -/
theorem def_fn {x : Str} {params : Arguments} {body : List Stmt} {sc : Scope} {T : Tab} {ps : List Str} {k np nn : Nat} {m : MS} {f : Addr} {fd : FuncData}
    (F : FunD K x x params body sc [] [] f fd)
    (S : FnScope T.N ps sc) (hn : nmsOk T.N = true) (hN : T.N.length = nn) (hp : ps.length = np)
    (hm : cmpSs (cmpS T sc 40) body = some m) (hf : AllG Pg w K mg base k T.fs) (hc : AllC K mg T.cs) (hbl : ∀ y ∈ T.bl, mg y = none) : FnOk Pg w K mg base CX0 (k + 1) f fd ps (spOf K (fnS np nn m)) := by
  refine fn_ok F S hN hp fun cdv A outer s H E hr => ?_
  have ok : Cok T sc fnT (cxOf CX0 Pg w K mg base T.N x sc f cdv A outer s H E).nox := {
    hN := rfl
    nd := S.nd
    nm := nmsOk_ok hn
    hsc := rfl
    kind := S.kind
    calm := rfl
    fn := fun _ _ => rfl
    un := by have := hr.un; show (A.deeper _).units + 65 < cLine; omega
    calls := fun y G e => by
      obtain ⟨n, g, fd', ps', a, b, c, d⟩ := hf.get e
      exact ⟨n, k, g, fd', ps', CX0, a, hr, b, c, d, fun _ _ _ _ _ z => z⟩
    consts := fun y d e => hc.get e
    free := hbl }
  exact cmpSs_ok (fun st m hst => cmpS_ok ok (PassesOwn.never (M := model Pg w)) 40 st m hst) _ _ hm
theorem def_ok {x : Str} {params : Arguments} {body : List Stmt} {sc : Scope} {T : Tab} {ps : List Str} {k np nn : Nat} {m : MS} {f : Addr} {fd : FuncData}
    (F : FunD K x x params body sc [] [] f fd) (hd : (x == ("__debug__" : Str)) = false) (gl : mg x = some (.ref f))
    (hb : ∀ (kV doc pm : Value) (an : Option Addr) (cdv ct : Value) (us : List Value), us.length = ps.length → bindArgs (PySem.W.fnOf x x params body sc .none kV doc pm an cdv ct) ⟨us, []⟩ = pure (ps.zip us))
    (S : FnScope T.N ps sc) (hn : nmsOk T.N = true) (hN : T.N.length = nn) (hp : ps.length = np)
    (hm : cmpSs (cmpS T sc 40) body = some m) (hf : AllG Pg w K mg base k T.fs) (hc : AllC K mg T.cs) (hbl : ∀ y ∈ T.bl, mg y = none) : GoodF Pg w K mg base x (fnS np nn m) (k + 1) :=
  ⟨hd, f, fd, ps, def_fn F S hn hN hp hm hf hc hbl, gl, F.kp, F.bindsN hb⟩
/-- of a def that is said to do nothing -/
theorem def_bad {x : Str} {params : Arguments} {body : List Stmt} {sc : Scope} {N ps : List Str} {k : Nat} {f : Addr} {fd : FuncData}
    (F : FunD K x x params body sc [] [] f fd) (hd : (x == ("__debug__" : Str)) = false) (gl : mg x = some (.ref f))
    (hb : ∀ (kV doc pm : Value) (an : Option Addr) (cdv ct : Value) (us : List Value), us.length = ps.length → bindArgs (PySem.W.fnOf x x params body sc .none kV doc pm an cdv ct) ⟨us, []⟩ = pure (ps.zip us))
    (S : FnScope N ps sc) : GoodF Pg w K mg base x (fun _ _ => .bad) (k + 1) := by
  have no : ∀ {vs H Q E}, spOf K (fun _ _ => .bad) vs H Q E → False := fun ⟨ι, P, xs, st, r, hv, v, st', e, q⟩ => by cases e
  exact ⟨hd, f, fd, ps, F.ok S (fun vs H Q E z => (no z).elim) (fun cdv A outer s H vs Q E hr z => (no z).elim), gl, F.kp, F.bindsN hb⟩
end
/-! ### the head -/
abbrev AlE : Type := He.AlD × Bool
def obsC (n : Nat) (fa : List He.Fa) (fn : List He.DefD) (cs : CT) (g : Addr → Option Obj) : AlE := (He.obsDG n fa fn g, cstB (He.frG g (He.asD g n)) cs)
def hookC (n : Nat) (fa : List He.Fa) (fn : List He.DefD) (cs : CT) : PySem.W.Hook where
  α := AlE
  obs := fun s => obsC n fa fn cs s.heap.get?
  val := fun _ => (He.valD fn, true)
  says := fun _ h => ∃ K : PySem.W.Frag, K.In h ∧ He.SaysD fa fn K ∧ cstB K cs = true
  of := fun _ _ e => ⟨_, He.frG_in, congrArg (fun z : AlE => z.1) e, congrArg (fun z : AlE => z.2) e⟩
  keeps := fun _ _ _ ⟨K, hK, c⟩ k => ⟨K, PySem.W.Frag.In.keeps hK k, c⟩
theorem obsC_eq {n : Nat} {fa : List He.Fa} {fn : List He.DefD} {cs : CT} {g : Addr → Option Obj} {s : Shared} (h : ∀ a, g a = s.heap.get? a) : obsC n fa fn cs g = (hookC n fa fn cs).obs s := by
  have e : g = s.heap.get? := funext h
  rw [e] <;> rfl
/-- what a law's defs lean on -/
structure Hd (fa : List He.Fa) (fn : List He.DefD) (cs : CT) (K : PySem.W.Frag) (mg : Str → Option Value) (h : Heap) : Prop where
  X : K.In h
  G : h.Ns mainGlobals mg
  c : He.SaysD fa fn K
  cs : AllC K mg cs
section
variable {fa : List He.Fa} {fn : List He.DefD} {cs : CT} {K : PySem.W.Frag} {mg : Str → Option Value} {h : Heap}
theorem Hd.glo (c : Hd fa fn cs K mg h) (i : Nat) {x : Str} (e : fa[i]? = some (.glo x)) : mg x = some (.ref (He.ga K x)) := He.glo_ok c.X c.G (c.c.fact i e)
def isFree (x : Str) : He.Fa → Bool
  | .free y => decide (y = x)
  | _ => false
theorem Hd.free (c : Hd fa fn cs K mg h) {bl : List Str} (e : (bl.all fun x => fa.any (isFree x)) = true) : ∀ y ∈ bl, mg y = none := fun y hy => by
  have h1 := List.all_eq_true.mp e y hy
  obtain ⟨f, hf, hm⟩ := List.any_eq_true.mp h1
  cases f with
  | free z =>
    have hm : z = y := of_decide_eq_true hm
    subst hm
    obtain ⟨i, hi, e⟩ := List.mem_iff_getElem.mp hf
    exact He.free_ok c.X c.G (c.c.fact i (f := .free z) (by rw [List.getElem?_eq_getElem hi, e]))
  | _ => cases hm
end
theorem law_rp {K : PySem.W.Frag} {H : Hp} {P : AP'} : ∀ ns : List Int, RpAll K H P (ns.map V.int) (ns.map PyData.int)
  | [] => .nil
  | n :: ns => .cons (.int n) (law_rp ns)
/-- the law's promise at the top -/
theorem law_sp {K : PySem.W.Frag} {F : FnS} {H : Hp} {a : Addr} {ns : List Int} (ho : Only H) (hS : SqL K H a (ns.map V.int)) (h : ∃ s', F [.scr (ns.map .int)] [] = .ok (.dat (.bool true)) s') :
    spOf K F [.ref a] H (fun v _ => v = .bl true) fun _ _ _ => False := by
  obtain ⟨s', h⟩ := h
  refine ⟨[], fun _ => False, [.scr (ns.map .int)], [], ⟨rfl, List.nodup_nil, fun a z => (List.not_mem_nil z).elim, fun a z => z.elim, fun n a z => by simp at z⟩, .cons (.scr ?_ (law_rp ns)) .nil, _, _, h, fun u H' _ _ r => ?_⟩
  · rcases hS with (hS | ⟨o, hS⟩) | hS
    · rcases ho a with q | ⟨o, xs, q⟩
      · rw [hS] at q; cases q
      · rw [hS] at q; cases q
    · exact .inl ⟨o, hS⟩
    · exact .inr fun H' => .inr hS
  · cases r with
    | dat r => cases r; rfl
end Ev
namespace Ev
open PySem
def G_NOUGHT : PyData := (.tuple [(.int (0)), (.int (1))])
def G_CLAIM_RULES : PyData := (.tuple [(.str "alike"), (.str "losses"), (.str "parts"), (.str "halves"), (.str "first"), (.str "second"), (.str "steps"), (.str "back")])
def B_is_whole : MS := sRet (eAnd (eIsi .int (eVar 0)) (eNot (eIsi .bool (eVar 0))))
def F_is_whole : FnS := fnS 1 1 B_is_whole
def B_is_many : MS := sRet (eAnd (eIsi .tuple (eVar 0)) (eCmp pEq (eBlt bLen (aCons (eVar 0) (aNil))) (eVar 1)))
def F_is_many : FnS := fnS 2 2 B_is_many
def B_lean : MS := sCons (sIf (eCmp pLt (eVar 1) (eCst (.int (0)))) (sPar [0, 1] (aCons (e1 pNeg (eVar 0)) (aCons (e1 pNeg (eVar 1)) (aNil)))) (sNil)) (sCons (sPar [2, 3] (aCons (eBlt bAbs (aCons (eVar 0) (aNil))) (aCons (eVar 1) (aNil)))) (sCons (sWh (eCmp pGt (eVar 3) (eCst (.int (0)))) (sPar [2, 3] (aCons (eVar 3) (aCons (e2 pSub (eVar 2) (e2 pMul (eVar 3) (e2 pDiv (eVar 2) (eVar 3)))) (aNil))))) (sRet (eTup (aCons (e2 pDiv (eVar 0) (eVar 2)) (aCons (e2 pDiv (eVar 1) (eVar 2)) (aNil)))))))
def F_lean : FnS := fnS 2 4 B_lean
def B_is_fraction : MS := sCons (sIf (eOr (eNot (eCall F_is_many (aCons (eVar 0) (aCons (eCst (.int (2))) (aNil))))) (eOr (eNot (eCall F_is_whole (aCons (e2 pIx (eVar 0) (eCst (.int (0)))) (aNil)))) (eOr (eNot (eCall F_is_whole (aCons (e2 pIx (eVar 0) (eCst (.int (1)))) (aNil)))) (eCmp pLt (e2 pIx (eVar 0) (eCst (.int (1)))) (eCst (.int (1))))))) (sRet (eCst (.bool false))) (sNil)) (sRet (eCmp pEq (eCall F_leanP (aCons (e2 pIx (eVar 0) (eCst (.int (0)))) (aCons (e2 pIx (eVar 0) (eCst (.int (1)))) (aNil)))) (eVar 0)))
def F_is_fraction : FnS := fnS 1 1 B_is_fraction
def B_plus : MS := sRet (eCall F_leanP (aCons (e2 pAdd (e2 pMul (e2 pIx (eVar 0) (eCst (.int (0)))) (e2 pIx (eVar 1) (eCst (.int (1))))) (e2 pMul (e2 pIx (eVar 1) (eCst (.int (0)))) (e2 pIx (eVar 0) (eCst (.int (1)))))) (aCons (e2 pMul (e2 pIx (eVar 0) (eCst (.int (1)))) (e2 pIx (eVar 1) (eCst (.int (1))))) (aNil))))
def F_plus : FnS := fnS 2 2 B_plus
def B_minus : MS := sRet (eCall F_leanP (aCons (e2 pSub (e2 pMul (e2 pIx (eVar 0) (eCst (.int (0)))) (e2 pIx (eVar 1) (eCst (.int (1))))) (e2 pMul (e2 pIx (eVar 1) (eCst (.int (0)))) (e2 pIx (eVar 0) (eCst (.int (1)))))) (aCons (e2 pMul (e2 pIx (eVar 0) (eCst (.int (1)))) (e2 pIx (eVar 1) (eCst (.int (1))))) (aNil))))
def F_minus : FnS := fnS 2 2 B_minus
def B_times : MS := sRet (eCall F_leanP (aCons (e2 pMul (e2 pIx (eVar 0) (eCst (.int (0)))) (e2 pIx (eVar 1) (eCst (.int (0))))) (aCons (e2 pMul (e2 pIx (eVar 0) (eCst (.int (1)))) (e2 pIx (eVar 1) (eCst (.int (1))))) (aNil))))
def F_times : FnS := fnS 2 2 B_times
def B_over : MS := sRet (eCall F_leanP (aCons (e2 pMul (e2 pIx (eVar 0) (eCst (.int (0)))) (e2 pIx (eVar 1) (eCst (.int (1))))) (aCons (e2 pMul (e2 pIx (eVar 0) (eCst (.int (1)))) (e2 pIx (eVar 1) (eCst (.int (0))))) (aNil))))
def F_over : FnS := fnS 2 2 B_over
def B_less : MS := sRet (eCmp pLt (e2 pMul (e2 pIx (eVar 0) (eCst (.int (0)))) (e2 pIx (eVar 1) (eCst (.int (1))))) (e2 pMul (e2 pIx (eVar 1) (eCst (.int (0)))) (e2 pIx (eVar 0) (eCst (.int (1))))))
def F_less : FnS := fnS 2 2 B_less
def B_no_more : MS := sRet (eCmp pLe (e2 pMul (e2 pIx (eVar 0) (eCst (.int (0)))) (e2 pIx (eVar 1) (eCst (.int (1))))) (e2 pMul (e2 pIx (eVar 1) (eCst (.int (0)))) (e2 pIx (eVar 0) (eCst (.int (1))))))
def F_no_more : FnS := fnS 2 2 B_no_more
def B_lesser : MS := sRet (eIf (eCall P_less (aCons (eVar 1) (aCons (eVar 0) (aNil)))) (eVar 1) (eVar 0))
def F_lesser : FnS := fnS 2 2 B_lesser
def B_greater : MS := sRet (eIf (eCall P_less (aCons (eVar 0) (aCons (eVar 1) (aNil)))) (eVar 1) (eVar 0))
def F_greater : FnS := fnS 2 2 B_greater
def B_is_point : MS := sRet (eAnd (eCall F_is_many (aCons (eVar 0) (aCons (eCst (.int (2))) (aNil)))) (eAnd (eCall P_is_fraction (aCons (e2 pIx (eVar 0) (eCst (.int (0)))) (aNil))) (eCall P_is_fraction (aCons (e2 pIx (eVar 0) (eCst (.int (1)))) (aNil)))))
def F_is_point : FnS := fnS 1 1 B_is_point
def B_is_problem : MS := sCons (sIf (eOr (eNot (eCall F_is_many (aCons (eVar 0) (aCons (eCst (.int (2))) (aNil))))) (eOr (eNot (eCall P_is_fraction (aCons (e2 pIx (eVar 0) (eCst (.int (0)))) (aNil)))) (eNot (eCall F_is_point (aCons (e2 pIx (eVar 0) (eCst (.int (1)))) (aNil)))))) (sRet (eCst (.bool false))) (sNil)) (sCons (sIf (eNot (eBlt bAll (aCons (eLc (iSeq (eTup (aCons (e2 pIx (eVar 0) (eCst (.int (0)))) (aStar (e2 pIx (eVar 0) (eCst (.int (1)))) (aNil))))) (.nm 1) [1] (tYes) (eCall P_no_more (aCons (eCst G_NOUGHT) (aCons (eVar 1) (aNil))))) (aNil)))) (sRet (eCst (.bool false))) (sNil)) (sRet (eCall P_no_more (aCons (e2 pIx (eVar 0) (eCst (.int (0)))) (aCons (eCall P_plus (aCons (e2 pIx (e2 pIx (eVar 0) (eCst (.int (1)))) (eCst (.int (0)))) (aCons (e2 pIx (e2 pIx (eVar 0) (eCst (.int (1)))) (eCst (.int (1)))) (aNil)))) (aNil))))))
def F_is_problem : FnS := fnS 1 2 B_is_problem
def B_check_problem : MS := sIf (eNot (eCall F_is_problem (aCons (eVar 0) (aNil)))) (sRaise (eVar 0)) (sNil)
def F_check_problem : FnS := fnS 1 1 B_check_problem
def B_check_claim_rule : MS := sIf (eOr (eNot (eIsi .str (eVar 0))) (eCmp pNotIn (eVar 0) (eCst G_CLAIM_RULES))) (sRaise (eVar 0)) (sNil)
def F_check_claim_rule : FnS := fnS 1 1 B_check_claim_rule
def B_is_awards : MS := sCons (sExp (eCall F_check_problem (aCons (eVar 0) (aNil)))) (sCons (sIf (eNot (eCall F_is_point (aCons (eVar 1) (aNil)))) (sRet (eCst (.bool false))) (sNil)) (sCons (sIf (eNot (eBlt bAll (aCons (eLc (iZip (eVar 1) (e2 pIx (eVar 0) (eCst (.int (1))))) (.tup [.nm 2, .nm 3]) [2, 3] (tYes) (eAnd (eCall P_no_more (aCons (eCst G_NOUGHT) (aCons (eVar 2) (aNil)))) (eCall P_no_more (aCons (eVar 2) (aCons (eVar 3) (aNil)))))) (aNil)))) (sRet (eCst (.bool false))) (sNil)) (sRet (eCmp pEq (eCall P_plus (aCons (e2 pIx (eVar 1) (eCst (.int (0)))) (aCons (e2 pIx (eVar 1) (eCst (.int (1)))) (aNil)))) (e2 pIx (eVar 0) (eCst (.int (0))))))))
def F_is_awards : FnS := fnS 2 4 B_is_awards
def B_check_awards : MS := sIf (eNot (eCall F_is_awards (aCons (eVar 0) (aCons (eVar 1) (aNil))))) (sRaise (eVar 1)) (sNil)
def F_check_awards : FnS := fnS 2 2 B_check_awards
def B_cut_problem : MS := sCons (sExp (eCall F_check_problem (aCons (eVar 0) (aNil)))) (sRet (eTup (aCons (e2 pIx (eVar 0) (eCst (.int (0)))) (aCons (eBlt bTuple (aCons (eLc (iSeq (e2 pIx (eVar 0) (eCst (.int (1))))) (.nm 1) [1] (tYes) (eCall F_lesser (aCons (eVar 1) (aCons (e2 pIx (eVar 0) (eCst (.int (0)))) (aNil))))) (aNil))) (aNil)))))
def F_cut_problem : FnS := fnS 1 2 B_cut_problem
def B_turned_problem : MS := sCons (sExp (eCall F_check_problem (aCons (eVar 0) (aNil)))) (sRet (eTup (aCons (eCall P_minus (aCons (eCall P_plus (aCons (e2 pIx (e2 pIx (eVar 0) (eCst (.int (1)))) (eCst (.int (0)))) (aCons (e2 pIx (e2 pIx (eVar 0) (eCst (.int (1)))) (eCst (.int (1)))) (aNil)))) (aCons (e2 pIx (eVar 0) (eCst (.int (0)))) (aNil)))) (aCons (e2 pIx (eVar 0) (eCst (.int (1)))) (aNil)))))
def F_turned_problem : FnS := fnS 1 1 B_turned_problem
def B_rights_of : MS := sCons (sExp (eCall F_check_problem (aCons (eVar 0) (aNil)))) (sRet (eBlt bTuple (aCons (eLc (iSeq (eTup (aCons (eCst (.int (0))) (aCons (eCst (.int (1))) (aNil))))) (.nm 1) [1] (tYes) (eCall F_greater (aCons (eCst G_NOUGHT) (aCons (eCall P_minus (aCons (e2 pIx (eVar 0) (eCst (.int (0)))) (aCons (e2 pIx (e2 pIx (eVar 0) (eCst (.int (1)))) (e2 pSub (eCst (.int (1))) (eVar 1))) (aNil)))) (aNil))))) (aNil))))
def F_rights_of : FnS := fnS 1 2 B_rights_of
def B_rest_problem : MS := sCons (sSet 1 (eCall F_rights_of (aCons (eVar 0) (aNil)))) (sCons (sSet 2 (eCall P_minus (aCons (e2 pIx (eVar 0) (eCst (.int (0)))) (aCons (eCall P_plus (aCons (e2 pIx (eVar 1) (eCst (.int (0)))) (aCons (e2 pIx (eVar 1) (eCst (.int (1)))) (aNil)))) (aNil))))) (sRet (eTup (aCons (eVar 2) (aCons (eBlt bTuple (aCons (eLc (iZip (e2 pIx (eVar 0) (eCst (.int (1)))) (eVar 1)) (.tup [.nm 3, .nm 4]) [3, 4] (tYes) (eCall P_minus (aCons (eVar 3) (aCons (eVar 4) (aNil))))) (aNil))) (aNil))))))
def F_rest_problem : FnS := fnS 1 5 B_rest_problem
def B_problem_after : MS := sCons (sExp (eCall F_check_problem (aCons (eVar 0) (aNil)))) (sCons (sIf (eOr (eNot (eCall P_is_fraction (aCons (eVar 1) (aNil)))) (eOr (eCall P_less (aCons (eVar 1) (aCons (eCst G_NOUGHT) (aNil)))) (eCall P_less (aCons (e2 pIx (eVar 0) (eCst (.int (0)))) (aCons (eVar 1) (aNil)))))) (sRaise (eVar 1)) (sNil)) (sCons (sExp (eCall F_check_awards (aCons (eTup (aCons (eVar 1) (aCons (e2 pIx (eVar 0) (eCst (.int (1)))) (aNil)))) (aCons (eVar 2) (aNil))))) (sRet (eTup (aCons (eCall P_minus (aCons (e2 pIx (eVar 0) (eCst (.int (0)))) (aCons (eVar 1) (aNil)))) (aCons (eBlt bTuple (aCons (eLc (iZip (e2 pIx (eVar 0) (eCst (.int (1)))) (eVar 2)) (.tup [.nm 3, .nm 4]) [3, 4] (tYes) (eCall P_minus (aCons (eVar 3) (aCons (eVar 4) (aNil))))) (aNil))) (aNil)))))))
def F_problem_after : FnS := fnS 3 5 B_problem_after
def B_in_turn : MS := sRet (eIf (eCmp pEq (eVar 0) (eCst (.int (0)))) (eTup (aCons (eVar 1) (aCons (eVar 2) (aNil)))) (eTup (aCons (eVar 2) (aCons (eVar 1) (aNil)))))
def F_in_turn : FnS := fnS 3 3 B_in_turn
def B_power_below : MS := sCons (sIf (eCmp pEq (eVar 0) (eCst G_NOUGHT)) (sRet (eCst G_NOUGHT)) (sNil)) (sCons (sSet 1 (eTup (aCons (eCst (.int (1))) (aCons (eCst (.int (1))) (aNil))))) (sCons (sWh (eCall P_less (aCons (eVar 0) (aCons (eVar 1) (aNil)))) (sSet 1 (eCall P_times (aCons (eVar 1) (aCons (eTup (aCons (eCst (.int (1))) (aCons (eCst (.int (2))) (aNil)))) (aNil)))))) (sCons (sWh (eCall P_no_more (aCons (eCall P_times (aCons (eVar 1) (aCons (eTup (aCons (eCst (.int (2))) (aCons (eCst (.int (1))) (aNil)))) (aNil)))) (aCons (eVar 0) (aNil)))) (sSet 1 (eCall P_times (aCons (eVar 1) (aCons (eTup (aCons (eCst (.int (2))) (aCons (eCst (.int (1))) (aNil)))) (aNil)))))) (sRet (eVar 1)))))
def F_power_below : FnS := fnS 1 2 B_power_below
def F_awards_by__0 : FnS := fun _ _ => .bad
def B_awards_by__1 : MS := sCons (sUnp (.tup [.nm 2, .nm 3]) (eVar 1)) (sCons (sIf (eCmp pIn (eVar 0) (eTup (aCons (eCst (.str "losses")) (aCons (eCst (.str "back")) (aNil))))) (sCons (sSet 4 (eCall F_awards_by__0 (aCons (eIf (eCmp pEq (eVar 0) (eCst (.str "losses"))) (eCst (.str "alike")) (eCst (.str "steps"))) (aCons (eCall F_turned_problem (aCons (eVar 1) (aNil))) (aNil))))) (sRet (eTup (aCons (eCall P_minus (aCons (e2 pIx (eVar 3) (eCst (.int (0)))) (aCons (e2 pIx (eVar 4) (eCst (.int (0)))) (aNil)))) (aCons (eCall P_minus (aCons (e2 pIx (eVar 3) (eCst (.int (1)))) (aCons (e2 pIx (eVar 4) (eCst (.int (1)))) (aNil)))) (aNil)))))) (sNil)) (sCons (sIf (eCmp pIn (eVar 0) (eTup (aCons (eCst (.str "first")) (aCons (eCst (.str "second")) (aNil))))) (sCons (sSet 5 (eIf (eCmp pEq (eVar 0) (eCst (.str "first"))) (eCst (.int (0))) (eCst (.int (1))))) (sCons (sSet 6 (eCall F_lesser (aCons (e2 pIx (eVar 3) (eVar 5)) (aCons (eVar 2) (aNil))))) (sRet (eCall F_in_turn (aCons (eVar 5) (aCons (eVar 6) (aCons (eCall P_minus (aCons (eVar 2) (aCons (eVar 6) (aNil)))) (aNil)))))))) (sNil)) (sCons (sIf (eCmp pEq (eVar 0) (eCst (.str "parts"))) (sCons (sSet 7 (eCall P_plus (aCons (e2 pIx (eVar 3) (eCst (.int (0)))) (aCons (e2 pIx (eVar 3) (eCst (.int (1)))) (aNil))))) (sCons (sSet 6 (eIf (eCmp pNe (eVar 7) (eCst G_NOUGHT)) (eCall P_over (aCons (eCall P_times (aCons (eVar 2) (aCons (e2 pIx (eVar 3) (eCst (.int (0)))) (aNil)))) (aCons (eVar 7) (aNil)))) (eCst G_NOUGHT))) (sRet (eTup (aCons (eVar 6) (aCons (eCall P_minus (aCons (eVar 2) (aCons (eVar 6) (aNil)))) (aNil))))))) (sNil)) (sCons (sIf (eCmp pEq (eVar 0) (eCst (.str "halves"))) (sCons (sSet 8 (eCall F_rights_of (aCons (eVar 1) (aNil)))) (sCons (sSet 9 (eCall P_times (aCons (eCall P_minus (aCons (eVar 2) (aCons (eCall P_plus (aCons (e2 pIx (eVar 8) (eCst (.int (0)))) (aCons (e2 pIx (eVar 8) (eCst (.int (1)))) (aNil)))) (aNil)))) (aCons (eTup (aCons (eCst (.int (1))) (aCons (eCst (.int (2))) (aNil)))) (aNil))))) (sRet (eTup (aCons (eCall P_plus (aCons (e2 pIx (eVar 8) (eCst (.int (0)))) (aCons (eVar 9) (aNil)))) (aCons (eCall P_plus (aCons (e2 pIx (eVar 8) (eCst (.int (1)))) (aCons (eVar 9) (aNil)))) (aNil))))))) (sNil)) (sCons (sSet 10 (eIf (eCall P_less (aCons (e2 pIx (eVar 3) (eCst (.int (1)))) (aCons (e2 pIx (eVar 3) (eCst (.int (0)))) (aNil)))) (eCst (.int (1))) (eCst (.int (0))))) (sCons (sPar [9, 6] (aCons (eCall P_times (aCons (eVar 2) (aCons (eTup (aCons (eCst (.int (1))) (aCons (eCst (.int (2))) (aNil)))) (aNil)))) (aCons (e2 pIx (eVar 3) (eVar 10)) (aNil)))) (sCons (sIf (eOr (eCmp pEq (eVar 0) (eCst (.str "alike"))) (eCmp pEq (e2 pIx (eVar 3) (eCst (.int (0)))) (e2 pIx (eVar 3) (eCst (.int (1)))))) (sCons (sSet 11 (eCall F_lesser (aCons (eVar 9) (aCons (eVar 6) (aNil))))) (sRet (eCall F_in_turn (aCons (eVar 10) (aCons (eVar 11) (aCons (eCall P_minus (aCons (eVar 2) (aCons (eVar 11) (aNil)))) (aNil))))))) (sNil)) (sCons (sSet 11 (eCall F_lesser (aCons (eVar 9) (aCons (eCall F_power_below (aCons (eVar 6) (aNil))) (aNil))))) (sCons (sSet 12 (eCall F_lesser (aCons (eCall P_minus (aCons (eVar 2) (aCons (eVar 11) (aNil)))) (aCons (e2 pIx (eVar 3) (e2 pSub (eCst (.int (1))) (eVar 10))) (aNil))))) (sRet (eCall F_in_turn (aCons (eVar 10) (aCons (eCall P_minus (aCons (eVar 2) (aCons (eVar 12) (aNil)))) (aCons (eVar 12) (aNil)))))))))))))))
def F_awards_by__1 : FnS := fnS 2 13 B_awards_by__1
def B_awards_by__2 : MS := sCons (sUnp (.tup [.nm 2, .nm 3]) (eVar 1)) (sCons (sIf (eCmp pIn (eVar 0) (eTup (aCons (eCst (.str "losses")) (aCons (eCst (.str "back")) (aNil))))) (sCons (sSet 4 (eCall F_awards_by__1 (aCons (eIf (eCmp pEq (eVar 0) (eCst (.str "losses"))) (eCst (.str "alike")) (eCst (.str "steps"))) (aCons (eCall F_turned_problem (aCons (eVar 1) (aNil))) (aNil))))) (sRet (eTup (aCons (eCall P_minus (aCons (e2 pIx (eVar 3) (eCst (.int (0)))) (aCons (e2 pIx (eVar 4) (eCst (.int (0)))) (aNil)))) (aCons (eCall P_minus (aCons (e2 pIx (eVar 3) (eCst (.int (1)))) (aCons (e2 pIx (eVar 4) (eCst (.int (1)))) (aNil)))) (aNil)))))) (sNil)) (sCons (sIf (eCmp pIn (eVar 0) (eTup (aCons (eCst (.str "first")) (aCons (eCst (.str "second")) (aNil))))) (sCons (sSet 5 (eIf (eCmp pEq (eVar 0) (eCst (.str "first"))) (eCst (.int (0))) (eCst (.int (1))))) (sCons (sSet 6 (eCall F_lesser (aCons (e2 pIx (eVar 3) (eVar 5)) (aCons (eVar 2) (aNil))))) (sRet (eCall F_in_turn (aCons (eVar 5) (aCons (eVar 6) (aCons (eCall P_minus (aCons (eVar 2) (aCons (eVar 6) (aNil)))) (aNil)))))))) (sNil)) (sCons (sIf (eCmp pEq (eVar 0) (eCst (.str "parts"))) (sCons (sSet 7 (eCall P_plus (aCons (e2 pIx (eVar 3) (eCst (.int (0)))) (aCons (e2 pIx (eVar 3) (eCst (.int (1)))) (aNil))))) (sCons (sSet 6 (eIf (eCmp pNe (eVar 7) (eCst G_NOUGHT)) (eCall P_over (aCons (eCall P_times (aCons (eVar 2) (aCons (e2 pIx (eVar 3) (eCst (.int (0)))) (aNil)))) (aCons (eVar 7) (aNil)))) (eCst G_NOUGHT))) (sRet (eTup (aCons (eVar 6) (aCons (eCall P_minus (aCons (eVar 2) (aCons (eVar 6) (aNil)))) (aNil))))))) (sNil)) (sCons (sIf (eCmp pEq (eVar 0) (eCst (.str "halves"))) (sCons (sSet 8 (eCall F_rights_of (aCons (eVar 1) (aNil)))) (sCons (sSet 9 (eCall P_times (aCons (eCall P_minus (aCons (eVar 2) (aCons (eCall P_plus (aCons (e2 pIx (eVar 8) (eCst (.int (0)))) (aCons (e2 pIx (eVar 8) (eCst (.int (1)))) (aNil)))) (aNil)))) (aCons (eTup (aCons (eCst (.int (1))) (aCons (eCst (.int (2))) (aNil)))) (aNil))))) (sRet (eTup (aCons (eCall P_plus (aCons (e2 pIx (eVar 8) (eCst (.int (0)))) (aCons (eVar 9) (aNil)))) (aCons (eCall P_plus (aCons (e2 pIx (eVar 8) (eCst (.int (1)))) (aCons (eVar 9) (aNil)))) (aNil))))))) (sNil)) (sCons (sSet 10 (eIf (eCall P_less (aCons (e2 pIx (eVar 3) (eCst (.int (1)))) (aCons (e2 pIx (eVar 3) (eCst (.int (0)))) (aNil)))) (eCst (.int (1))) (eCst (.int (0))))) (sCons (sPar [9, 6] (aCons (eCall P_times (aCons (eVar 2) (aCons (eTup (aCons (eCst (.int (1))) (aCons (eCst (.int (2))) (aNil)))) (aNil)))) (aCons (e2 pIx (eVar 3) (eVar 10)) (aNil)))) (sCons (sIf (eOr (eCmp pEq (eVar 0) (eCst (.str "alike"))) (eCmp pEq (e2 pIx (eVar 3) (eCst (.int (0)))) (e2 pIx (eVar 3) (eCst (.int (1)))))) (sCons (sSet 11 (eCall F_lesser (aCons (eVar 9) (aCons (eVar 6) (aNil))))) (sRet (eCall F_in_turn (aCons (eVar 10) (aCons (eVar 11) (aCons (eCall P_minus (aCons (eVar 2) (aCons (eVar 11) (aNil)))) (aNil))))))) (sNil)) (sCons (sSet 11 (eCall F_lesser (aCons (eVar 9) (aCons (eCall F_power_below (aCons (eVar 6) (aNil))) (aNil))))) (sCons (sSet 12 (eCall F_lesser (aCons (eCall P_minus (aCons (eVar 2) (aCons (eVar 11) (aNil)))) (aCons (e2 pIx (eVar 3) (e2 pSub (eCst (.int (1))) (eVar 10))) (aNil))))) (sRet (eCall F_in_turn (aCons (eVar 10) (aCons (eCall P_minus (aCons (eVar 2) (aCons (eVar 12) (aNil)))) (aCons (eVar 12) (aNil)))))))))))))))
def F_awards_by__2 : FnS := fnS 2 13 B_awards_by__2
def B_awards_by : MS := sCons (sUnp (.tup [.nm 2, .nm 3]) (eVar 1)) (sCons (sIf (eCmp pIn (eVar 0) (eTup (aCons (eCst (.str "losses")) (aCons (eCst (.str "back")) (aNil))))) (sCons (sSet 4 (eCall F_awards_by__2 (aCons (eIf (eCmp pEq (eVar 0) (eCst (.str "losses"))) (eCst (.str "alike")) (eCst (.str "steps"))) (aCons (eCall F_turned_problem (aCons (eVar 1) (aNil))) (aNil))))) (sRet (eTup (aCons (eCall P_minus (aCons (e2 pIx (eVar 3) (eCst (.int (0)))) (aCons (e2 pIx (eVar 4) (eCst (.int (0)))) (aNil)))) (aCons (eCall P_minus (aCons (e2 pIx (eVar 3) (eCst (.int (1)))) (aCons (e2 pIx (eVar 4) (eCst (.int (1)))) (aNil)))) (aNil)))))) (sNil)) (sCons (sIf (eCmp pIn (eVar 0) (eTup (aCons (eCst (.str "first")) (aCons (eCst (.str "second")) (aNil))))) (sCons (sSet 5 (eIf (eCmp pEq (eVar 0) (eCst (.str "first"))) (eCst (.int (0))) (eCst (.int (1))))) (sCons (sSet 6 (eCall F_lesser (aCons (e2 pIx (eVar 3) (eVar 5)) (aCons (eVar 2) (aNil))))) (sRet (eCall F_in_turn (aCons (eVar 5) (aCons (eVar 6) (aCons (eCall P_minus (aCons (eVar 2) (aCons (eVar 6) (aNil)))) (aNil)))))))) (sNil)) (sCons (sIf (eCmp pEq (eVar 0) (eCst (.str "parts"))) (sCons (sSet 7 (eCall P_plus (aCons (e2 pIx (eVar 3) (eCst (.int (0)))) (aCons (e2 pIx (eVar 3) (eCst (.int (1)))) (aNil))))) (sCons (sSet 6 (eIf (eCmp pNe (eVar 7) (eCst G_NOUGHT)) (eCall P_over (aCons (eCall P_times (aCons (eVar 2) (aCons (e2 pIx (eVar 3) (eCst (.int (0)))) (aNil)))) (aCons (eVar 7) (aNil)))) (eCst G_NOUGHT))) (sRet (eTup (aCons (eVar 6) (aCons (eCall P_minus (aCons (eVar 2) (aCons (eVar 6) (aNil)))) (aNil))))))) (sNil)) (sCons (sIf (eCmp pEq (eVar 0) (eCst (.str "halves"))) (sCons (sSet 8 (eCall F_rights_of (aCons (eVar 1) (aNil)))) (sCons (sSet 9 (eCall P_times (aCons (eCall P_minus (aCons (eVar 2) (aCons (eCall P_plus (aCons (e2 pIx (eVar 8) (eCst (.int (0)))) (aCons (e2 pIx (eVar 8) (eCst (.int (1)))) (aNil)))) (aNil)))) (aCons (eTup (aCons (eCst (.int (1))) (aCons (eCst (.int (2))) (aNil)))) (aNil))))) (sRet (eTup (aCons (eCall P_plus (aCons (e2 pIx (eVar 8) (eCst (.int (0)))) (aCons (eVar 9) (aNil)))) (aCons (eCall P_plus (aCons (e2 pIx (eVar 8) (eCst (.int (1)))) (aCons (eVar 9) (aNil)))) (aNil))))))) (sNil)) (sCons (sSet 10 (eIf (eCall P_less (aCons (e2 pIx (eVar 3) (eCst (.int (1)))) (aCons (e2 pIx (eVar 3) (eCst (.int (0)))) (aNil)))) (eCst (.int (1))) (eCst (.int (0))))) (sCons (sPar [9, 6] (aCons (eCall P_times (aCons (eVar 2) (aCons (eTup (aCons (eCst (.int (1))) (aCons (eCst (.int (2))) (aNil)))) (aNil)))) (aCons (e2 pIx (eVar 3) (eVar 10)) (aNil)))) (sCons (sIf (eOr (eCmp pEq (eVar 0) (eCst (.str "alike"))) (eCmp pEq (e2 pIx (eVar 3) (eCst (.int (0)))) (e2 pIx (eVar 3) (eCst (.int (1)))))) (sCons (sSet 11 (eCall F_lesser (aCons (eVar 9) (aCons (eVar 6) (aNil))))) (sRet (eCall F_in_turn (aCons (eVar 10) (aCons (eVar 11) (aCons (eCall P_minus (aCons (eVar 2) (aCons (eVar 11) (aNil)))) (aNil))))))) (sNil)) (sCons (sSet 11 (eCall F_lesser (aCons (eVar 9) (aCons (eCall F_power_below (aCons (eVar 6) (aNil))) (aNil))))) (sCons (sSet 12 (eCall F_lesser (aCons (eCall P_minus (aCons (eVar 2) (aCons (eVar 11) (aNil)))) (aCons (e2 pIx (eVar 3) (e2 pSub (eCst (.int (1))) (eVar 10))) (aNil))))) (sRet (eCall F_in_turn (aCons (eVar 10) (aCons (eCall P_minus (aCons (eVar 2) (aCons (eVar 12) (aNil)))) (aCons (eVar 12) (aNil)))))))))))))))
def F_awards_by : FnS := fnS 2 13 B_awards_by
def B_awards_of : MS := sCons (sExp (eCall F_check_claim_rule (aCons (eVar 0) (aNil)))) (sCons (sExp (eCall F_check_problem (aCons (eVar 1) (aNil)))) (sRet (eCall F_awards_by (aCons (eVar 0) (aCons (eVar 1) (aNil))))))
def F_awards_of : FnS := fnS 2 2 B_awards_of
def B__law_cell_at : MS := sCons (sIf (eCmp pLt (eVar 1) (eBlt bLen (aCons (eVar 0) (aNil)))) (sRet (e2 pIx (eVar 0) (eVar 1))) (sNil)) (sRet (eCst (.int (0))))
def F__law_cell_at : FnS := fnS 2 2 B__law_cell_at
def B__law_draw : MS := sCons (sSet 3 (eTup (aCons (eCst (.int (1000003))) (aCons (eCst (.int (1000033))) (aCons (eCst (.int (1000037))) (aCons (eCst (.int (1000039))) (aCons (eCst (.int (1000081))) (aCons (eCst (.int (1000099))) (aCons (eCst (.int (1000117))) (aCons (eCst (.int (1000121))) (aCons (eCst (.int (1000133))) (aCons (eCst (.int (1000151))) (aCons (eCst (.int (1000159))) (aCons (eCst (.int (1000171))) (aCons (eCst (.int (1000183))) (aCons (eCst (.int (1000187))) (aCons (eCst (.int (1000193))) (aCons (eCst (.int (1000199))) (aNil))))))))))))))))))) (sRet (e2 pMod (e2 pMod (eBlt bInt (aCons (e2 pAdd (e2 pMul (eVar 0) (eCst (.int (48271)))) (e2 pMul (eVar 1) (eCst (.int (69621))))) (aNil))) (e2 pIx (eVar 3) (e2 pMod (eBlt bInt (aCons (eVar 1) (aNil))) (eCst (.int (16)))))) (eVar 2)))
def F__law_draw : FnS := fnS 3 4 B__law_draw
def B__law_number : MS := sCons (sSet 3 (eCst (.int (1)))) (sCons (sFor (iRng1 (e2 pMod (eBlt bInt (aCons (eVar 1) (aNil))) (eCst (.int (24))))) (.nm 4) (sSet 3 (e2 pMul (eVar 3) (eCst (.int (1009)))))) (sCons (sSet 5 (e2 pDiv (e2 pSub (eVar 0) (e2 pPow (eCst (.int (10))) (eCst (.int (18))))) (eVar 3))) (sCons (sIf (eCmp pGt (eVar 5) (eCst (.int (0)))) (sRet (e2 pMod (e2 pMod (eBlt bInt (aCons (eVar 5) (aNil))) (eCst (.int (1009)))) (eVar 2))) (sNil)) (sCons (sSet 6 (e2 pMod (eBlt bInt (aCons (eVar 0) (aNil))) (eCst (.int (1000003))))) (sRet (e2 pMod (eCall F__law_draw (aCons (e2 pMul (e2 pAdd (eVar 6) (e2 pMul (eCst (.int (977))) (eVar 1))) (e2 pAdd (e2 pAdd (eVar 6) (e2 pMul (eCst (.int (31))) (eVar 1))) (eCst (.int (5))))) (aCons (e2 pAdd (e2 pMod (eBlt bInt (aCons (eVar 1) (aNil))) (eCst (.int (9)))) (eCst (.int (1)))) (aCons (eCst (.int (999983))) (aNil))))) (eVar 2)))))))
def F__law_number : FnS := fnS 3 7 B__law_number
def B__law_next : MS := sCons (sSub (eVar 0) (eCst (.int (2))) (e2 pAdd (e2 pIx (eVar 0) (eCst (.int (2)))) (eCst (.int (1))))) (sCons (sSet 2 (e2 pDiv (e2 pIx (eVar 0) (eCst (.int (2)))) (eCst (.int (12))))) (sCons (sSet 3 (e2 pAdd (eCall F__law_cell_at (aCons (e2 pIx (eVar 0) (eCst (.int (0)))) (aCons (e2 pAdd (e2 pIx (eVar 0) (eCst (.int (1)))) (eVar 2)) (aNil)))) (e2 pMul (eCst (.int (31))) (eVar 2)))) (sRet (eCall F__law_number (aCons (eVar 3) (aCons (e2 pAdd (e2 pMod (eBlt bInt (aCons (e2 pIx (eVar 0) (eCst (.int (2)))) (aNil))) (eCst (.int (12)))) (eCst (.int (1)))) (aCons (eVar 1) (aNil))))))))
def F__law_next : FnS := fnS 2 4 B__law_next
def B__law_problem : MS := sCons (sSet 1 (eTup (aCons (eCall F_leanP (aCons (eCall F__law_next (aCons (eVar 0) (aCons (eCst (.int (13))) (aNil)))) (aCons (e2 pAdd (eCst (.int (1))) (eCall F__law_next (aCons (eVar 0) (aCons (eCst (.int (3))) (aNil))))) (aNil)))) (aCons (eCall F_leanP (aCons (e2 pAdd (eCst (.int (1))) (eCall F__law_next (aCons (eVar 0) (aCons (eCst (.int (12))) (aNil))))) (aCons (e2 pAdd (eCst (.int (1))) (eCall F__law_next (aCons (eVar 0) (aCons (eCst (.int (2))) (aNil))))) (aNil)))) (aNil))))) (sCons (sIf (eCmp pEq (eCall F__law_next (aCons (eVar 0) (aCons (eCst (.int (5))) (aNil)))) (eCst (.int (0)))) (sSet 1 (eTup (aCons (e2 pIx (eVar 1) (eCst (.int (1)))) (aCons (e2 pIx (eVar 1) (eCst (.int (1)))) (aNil))))) (sNil)) (sCons (sSet 2 (eCall F_leanP (aCons (eCall F__law_next (aCons (eVar 0) (aCons (eCst (.int (13))) (aNil)))) (aCons (eCst (.int (12))) (aNil))))) (sRet (eTup (aCons (eCall P_times (aCons (eVar 2) (aCons (eCall P_plus (aCons (e2 pIx (eVar 1) (eCst (.int (0)))) (aCons (e2 pIx (eVar 1) (eCst (.int (1)))) (aNil)))) (aNil)))) (aCons (eVar 1) (aNil)))))))
def F__law_problem : FnS := fnS 1 3 B__law_problem
def B__law_least : MS := sRet (eIf (eCall P_less (aCons (eVar 1) (aCons (eVar 0) (aNil)))) (eVar 1) (eVar 0))
def F__law_least : FnS := fnS 2 2 B__law_least
def B__law_most : MS := sRet (eIf (eCall P_less (aCons (eVar 0) (aCons (eVar 1) (aNil)))) (eVar 1) (eVar 0))
def F__law_most : FnS := fnS 2 2 B__law_most
def B__law_two : MS := sCons (sPar [1, 2] (aCons (eCst (.int (1))) (aCons (eCst (.int (1))) (aNil)))) (sCons (sWh (eCmp pGe (e2 pIx (eVar 0) (eCst (.int (0)))) (e2 pMul (e2 pMul (eCst (.int (2))) (eVar 1)) (e2 pIx (eVar 0) (eCst (.int (1)))))) (sSet 1 (e2 pMul (eCst (.int (2))) (eVar 1)))) (sCons (sWh (eCmp pLt (e2 pMul (e2 pIx (eVar 0) (eCst (.int (0)))) (eVar 2)) (e2 pIx (eVar 0) (eCst (.int (1))))) (sSet 2 (e2 pMul (eCst (.int (2))) (eVar 2)))) (sRet (eIf (eCmp pEq (eVar 2) (eCst (.int (1)))) (eTup (aCons (eVar 1) (aCons (eVar 2) (aNil)))) (eTup (aCons (eCst (.int (1))) (aCons (eVar 2) (aNil))))))))
def F__law_two : FnS := fnS 1 3 B__law_two
def B__law_steps : MS := sCons (sUnp (.tup [.nm 1, .nm 2]) (eVar 0)) (sCons (sSet 3 (eCall P_times (aCons (eVar 1) (aCons (eTup (aCons (eCst (.int (1))) (aCons (eCst (.int (2))) (aNil)))) (aNil))))) (sCons (sIf (eCmp pEq (e2 pIx (eVar 2) (eCst (.int (0)))) (e2 pIx (eVar 2) (eCst (.int (1))))) (sRet (eTup (aCons (eVar 3) (aCons (eVar 3) (aNil))))) (sNil)) (sCons (sPar [4, 5] (aCons (eCall F__law_least (aCons (e2 pIx (eVar 2) (eCst (.int (0)))) (aCons (e2 pIx (eVar 2) (eCst (.int (1)))) (aNil)))) (aCons (eCall F__law_most (aCons (e2 pIx (eVar 2) (eCst (.int (0)))) (aCons (e2 pIx (eVar 2) (eCst (.int (1)))) (aNil)))) (aNil)))) (sCons (sSet 6 (eIf (eCmp pEq (eVar 4) (eTup (aCons (eCst (.int (0))) (aCons (eCst (.int (1))) (aNil))))) (eTup (aCons (eCst (.int (0))) (aCons (eCst (.int (1))) (aNil)))) (eCall F__law_two (aCons (eVar 4) (aNil))))) (sCons (sPar [7, 8] (aCons (eCall F__law_least (aCons (eVar 3) (aCons (eVar 6) (aNil)))) (aCons (eCall F__law_least (aCons (eVar 3) (aCons (eVar 6) (aNil)))) (aNil)))) (sCons (sSet 8 (eCall F__law_least (aCons (eVar 5) (aCons (eCall P_plus (aCons (eVar 8) (aCons (eCall P_minus (aCons (eVar 1) (aCons (eCall P_plus (aCons (eVar 7) (aCons (eVar 8) (aNil)))) (aNil)))) (aNil)))) (aNil))))) (sCons (sSet 7 (eCall P_minus (aCons (eVar 1) (aCons (eVar 8) (aNil))))) (sRet (eIf (eCmp pEq (e2 pIx (eVar 2) (eCst (.int (0)))) (eVar 4)) (eTup (aCons (eVar 7) (aCons (eVar 8) (aNil)))) (eTup (aCons (eVar 8) (aCons (eVar 7) (aNil)))))))))))))
def F__law_steps : FnS := fnS 1 9 B__law_steps
def B__law_alike : MS := sCons (sUnp (.tup [.nm 1, .nm 2]) (eVar 0)) (sCons (sSet 3 (eCall P_times (aCons (eVar 1) (aCons (eTup (aCons (eCst (.int (1))) (aCons (eCst (.int (2))) (aNil)))) (aNil))))) (sCons (sIf (eCall P_less (aCons (e2 pIx (eVar 2) (eCst (.int (0)))) (aCons (eVar 3) (aNil)))) (sRet (eTup (aCons (e2 pIx (eVar 2) (eCst (.int (0)))) (aCons (eCall P_minus (aCons (eVar 1) (aCons (e2 pIx (eVar 2) (eCst (.int (0)))) (aNil)))) (aNil))))) (sNil)) (sCons (sIf (eCall P_less (aCons (e2 pIx (eVar 2) (eCst (.int (1)))) (aCons (eVar 3) (aNil)))) (sRet (eTup (aCons (eCall P_minus (aCons (eVar 1) (aCons (e2 pIx (eVar 2) (eCst (.int (1)))) (aNil)))) (aCons (e2 pIx (eVar 2) (eCst (.int (1)))) (aNil))))) (sNil)) (sRet (eTup (aCons (eVar 3) (aCons (eVar 3) (aNil))))))))
def F__law_alike : FnS := fnS 1 4 B__law_alike
def B__law_awards : MS := sCons (sUnp (.tup [.nm 2, .nm 3]) (eVar 1)) (sCons (sSet 4 (eCall P_minus (aCons (eCall P_plus (aCons (e2 pIx (eVar 3) (eCst (.int (0)))) (aCons (e2 pIx (eVar 3) (eCst (.int (1)))) (aNil)))) (aCons (eVar 2) (aNil))))) (sCons (sIf (eCmp pEq (eVar 0) (eCst (.str "alike"))) (sRet (eCall F__law_alike (aCons (eVar 1) (aNil)))) (sNil)) (sCons (sIf (eCmp pEq (eVar 0) (eCst (.str "steps"))) (sRet (eCall F__law_steps (aCons (eVar 1) (aNil)))) (sNil)) (sCons (sIf (eCmp pIn (eVar 0) (eTup (aCons (eCst (.str "losses")) (aCons (eCst (.str "back")) (aNil))))) (sCons (sSet 5 (eIf (eCmp pEq (eVar 0) (eCst (.str "losses"))) (eCall F__law_alike (aCons (eTup (aCons (eVar 4) (aCons (eVar 3) (aNil)))) (aNil))) (eCall F__law_steps (aCons (eTup (aCons (eVar 4) (aCons (eVar 3) (aNil)))) (aNil))))) (sRet (eTup (aCons (eCall P_minus (aCons (e2 pIx (eVar 3) (eCst (.int (0)))) (aCons (e2 pIx (eVar 5) (eCst (.int (0)))) (aNil)))) (aCons (eCall P_minus (aCons (e2 pIx (eVar 3) (eCst (.int (1)))) (aCons (e2 pIx (eVar 5) (eCst (.int (1)))) (aNil)))) (aNil)))))) (sNil)) (sCons (sIf (eCmp pEq (eVar 0) (eCst (.str "first"))) (sRet (eTup (aCons (eCall F__law_least (aCons (e2 pIx (eVar 3) (eCst (.int (0)))) (aCons (eVar 2) (aNil)))) (aCons (eCall P_minus (aCons (eVar 2) (aCons (eCall F__law_least (aCons (e2 pIx (eVar 3) (eCst (.int (0)))) (aCons (eVar 2) (aNil)))) (aNil)))) (aNil))))) (sNil)) (sCons (sIf (eCmp pEq (eVar 0) (eCst (.str "second"))) (sRet (eTup (aCons (eCall P_minus (aCons (eVar 2) (aCons (eCall F__law_least (aCons (e2 pIx (eVar 3) (eCst (.int (1)))) (aCons (eVar 2) (aNil)))) (aNil)))) (aCons (eCall F__law_least (aCons (e2 pIx (eVar 3) (eCst (.int (1)))) (aCons (eVar 2) (aNil)))) (aNil))))) (sNil)) (sCons (sIf (eCmp pEq (eVar 0) (eCst (.str "parts"))) (sCons (sSet 6 (eCall P_over (aCons (eVar 2) (aCons (eCall P_plus (aCons (e2 pIx (eVar 3) (eCst (.int (0)))) (aCons (e2 pIx (eVar 3) (eCst (.int (1)))) (aNil)))) (aNil))))) (sRet (eTup (aCons (eCall P_times (aCons (eVar 6) (aCons (e2 pIx (eVar 3) (eCst (.int (0)))) (aNil)))) (aCons (eCall P_times (aCons (eVar 6) (aCons (e2 pIx (eVar 3) (eCst (.int (1)))) (aNil)))) (aNil)))))) (sNil)) (sCons (sPar [7, 8] (aCons (eCall F__law_most (aCons (eTup (aCons (eCst (.int (0))) (aCons (eCst (.int (1))) (aNil)))) (aCons (eCall P_minus (aCons (eVar 2) (aCons (e2 pIx (eVar 3) (eCst (.int (1)))) (aNil)))) (aNil)))) (aCons (eCall F__law_most (aCons (eTup (aCons (eCst (.int (0))) (aCons (eCst (.int (1))) (aNil)))) (aCons (eCall P_minus (aCons (eVar 2) (aCons (e2 pIx (eVar 3) (eCst (.int (0)))) (aNil)))) (aNil)))) (aNil)))) (sCons (sSet 9 (eCall P_times (aCons (eCall P_minus (aCons (eVar 2) (aCons (eCall P_plus (aCons (eVar 7) (aCons (eVar 8) (aNil)))) (aNil)))) (aCons (eTup (aCons (eCst (.int (1))) (aCons (eCst (.int (2))) (aNil)))) (aNil))))) (sRet (eTup (aCons (eCall P_plus (aCons (eVar 7) (aCons (eVar 9) (aNil)))) (aCons (eCall P_plus (aCons (eVar 8) (aCons (eVar 9) (aNil)))) (aNil))))))))))))))
def F__law_awards : FnS := fnS 2 10 B__law_awards
def L_law_1_11 : MS := sIf (eOr (eCmp pNe (eCall F_is_awards (aCons (eVar 3) (aCons (eVar 8) (aNil)))) (eVar 9)) (eOr (eCall F_is_awards (aCons (eVar 3) (aCons (eCst .none) (aNil)))) (eCall F_is_awards (aCons (eVar 3) (aCons (eTup (aCons (eVar 10) (aNil))) (aNil)))))) (sRet (eCst (.bool false))) (sNil)
def L_law_1_10 : MS := sCons (sSet 9 (eAnd (eCmp pEq (eCall P_plus (aCons (e2 pIx (eVar 8) (eCst (.int (0)))) (aCons (e2 pIx (eVar 8) (eCst (.int (1)))) (aNil)))) (eVar 10)) (eAnd (eNot (eCall P_less (aCons (e2 pIx (eVar 11) (eCst (.int (0)))) (aCons (e2 pIx (eVar 8) (eCst (.int (0)))) (aNil))))) (eNot (eCall P_less (aCons (e2 pIx (eVar 11) (eCst (.int (1)))) (aCons (e2 pIx (eVar 8) (eCst (.int (1)))) (aNil)))))))) L_law_1_11
def L_law_1_9 : MS := sCons (sSet 8 (eTup (aCons (eCall F_leanP (aCons (eCall F__law_next (aCons (eVar 1) (aCons (eCst (.int (13))) (aNil)))) (aCons (eCst (.int (2))) (aNil)))) (aCons (eCall F_leanP (aCons (eCall F__law_next (aCons (eVar 1) (aCons (eCst (.int (13))) (aNil)))) (aCons (eCst (.int (2))) (aNil)))) (aNil))))) L_law_1_10
def L_law_1_8 : MS := sCons (sFor (iSeq (eTup (aCons (eCst (.str "alike")) (aCons (eCst (.str "losses")) (aCons (eCst (.str "parts")) (aCons (eCst (.str "halves")) (aCons (eCst (.str "first")) (aCons (eCst (.str "second")) (aCons (eCst (.str "steps")) (aCons (eCst (.str "back")) (aNil))))))))))) (.nm 7) (sCons (sSet 12 (eCall F_awards_of (aCons (eVar 7) (aCons (eVar 3) (aNil))))) (sCons (sIf (eOr (eCmp pNe (eVar 12) (eCall F__law_awards (aCons (eVar 7) (aCons (eVar 3) (aNil))))) (eNot (eCall F_is_awards (aCons (eVar 3) (aCons (eVar 12) (aNil)))))) (sRet (eCst (.bool false))) (sNil)) (sCons (sIf (eOr (eBlt bAny (aCons (eLc (iZip (eVar 12) (eVar 11)) (.tup [.nm 16, .nm 17]) [16, 17] (tYes) (eOr (eCall P_less (aCons (eVar 16) (aCons (eTup (aCons (eCst (.int (0))) (aCons (eCst (.int (1))) (aNil)))) (aNil)))) (eCall P_less (aCons (eVar 17) (aCons (eVar 16) (aNil)))))) (aNil))) (eCmp pNe (eCall P_plus (aCons (e2 pIx (eVar 12) (eCst (.int (0)))) (aCons (e2 pIx (eVar 12) (eCst (.int (1)))) (aNil)))) (eVar 10))) (sRet (eCst (.bool false))) (sNil)) (sCons (sSet 13 (eCall P_times (aCons (eCall F_leanP (aCons (eCall F__law_next (aCons (eVar 1) (aCons (eCst (.int (7))) (aNil)))) (aCons (eCst (.int (6))) (aNil)))) (aCons (eVar 10) (aNil))))) (sCons (sSet 14 (eCall F_awards_of (aCons (eVar 7) (aCons (eTup (aCons (eVar 13) (aCons (eVar 11) (aNil)))) (aNil))))) (sCons (sSet 15 (eCall F_problem_after (aCons (eVar 3) (aCons (eVar 13) (aCons (eVar 14) (aNil)))))) (sIf (eOr (eCmp pNe (eVar 15) (eTup (aCons (eCall P_minus (aCons (eVar 10) (aCons (eVar 13) (aNil)))) (aCons (eTup (aCons (eCall P_minus (aCons (e2 pIx (eVar 11) (eCst (.int (0)))) (aCons (e2 pIx (eVar 14) (eCst (.int (0)))) (aNil)))) (aCons (eCall P_minus (aCons (e2 pIx (eVar 11) (eCst (.int (1)))) (aCons (e2 pIx (eVar 14) (eCst (.int (1)))) (aNil)))) (aNil)))) (aNil))))) (eNot (eCall F_is_problem (aCons (eVar 15) (aNil))))) (sRet (eCst (.bool false))) (sNil))))))))) L_law_1_9
def L_law_1_7 : MS := sCons (sIf (eOr (eCmp pNe (eCall F_rest_problem (aCons (eVar 3) (aNil))) (eVar 6)) (eOr (eNot (eCall F_is_problem (aCons (eVar 6) (aNil)))) (eNot (eCall F_is_problem (aCons (eCall F_cut_problem (aCons (eVar 3) (aNil))) (aNil)))))) (sRet (eCst (.bool false))) (sNil)) L_law_1_8
def L_law_1_6 : MS := sCons (sIf (eOr (eCmp pNe (eCall F_turned_problem (aCons (eVar 3) (aNil))) (eTup (aCons (eCall P_minus (aCons (eVar 4) (aCons (eVar 10) (aNil)))) (aCons (eVar 11) (aNil))))) (eOr (eCmp pNe (eCall F_turned_problem (aCons (eCall F_turned_problem (aCons (eVar 3) (aNil))) (aNil))) (eVar 3)) (eCmp pNe (eCall F_rights_of (aCons (eVar 3) (aNil))) (eVar 5)))) (sRet (eCst (.bool false))) (sNil)) L_law_1_7
def L_law_1_5 : MS := sCons (sIf (eOr (eNot (eCall F_is_problem (aCons (eVar 3) (aNil)))) (eCmp pNe (eCall F_cut_problem (aCons (eVar 3) (aNil))) (eTup (aCons (eVar 10) (aCons (eTup (aCons (eCall F__law_least (aCons (e2 pIx (eVar 11) (eCst (.int (0)))) (aCons (eVar 10) (aNil)))) (aCons (eCall F__law_least (aCons (e2 pIx (eVar 11) (eCst (.int (1)))) (aCons (eVar 10) (aNil)))) (aNil)))) (aNil)))))) (sRet (eCst (.bool false))) (sNil)) L_law_1_6
def L_law_1_4 : MS := sCons (sSet 6 (eTup (aCons (eCall P_minus (aCons (eVar 10) (aCons (eCall P_plus (aCons (e2 pIx (eVar 5) (eCst (.int (0)))) (aCons (e2 pIx (eVar 5) (eCst (.int (1)))) (aNil)))) (aNil)))) (aCons (eTup (aCons (eCall P_minus (aCons (e2 pIx (eVar 11) (eCst (.int (0)))) (aCons (e2 pIx (eVar 5) (eCst (.int (0)))) (aNil)))) (aCons (eCall P_minus (aCons (e2 pIx (eVar 11) (eCst (.int (1)))) (aCons (e2 pIx (eVar 5) (eCst (.int (1)))) (aNil)))) (aNil)))) (aNil))))) L_law_1_5
def L_law_1_3 : MS := sCons (sSet 5 (eTup (aCons (eCall F__law_most (aCons (eTup (aCons (eCst (.int (0))) (aCons (eCst (.int (1))) (aNil)))) (aCons (eCall P_minus (aCons (eVar 10) (aCons (e2 pIx (eVar 11) (eCst (.int (1)))) (aNil)))) (aNil)))) (aCons (eCall F__law_most (aCons (eTup (aCons (eCst (.int (0))) (aCons (eCst (.int (1))) (aNil)))) (aCons (eCall P_minus (aCons (eVar 10) (aCons (e2 pIx (eVar 11) (eCst (.int (0)))) (aNil)))) (aNil)))) (aNil))))) L_law_1_4
def L_law_1_2 : MS := sCons (sSet 4 (eCall P_plus (aCons (e2 pIx (eVar 11) (eCst (.int (0)))) (aCons (e2 pIx (eVar 11) (eCst (.int (1)))) (aNil))))) L_law_1_3
def L_law_1_1 : MS := sCons (sUnp (.tup [.nm 10, .nm 11]) (eVar 3)) L_law_1_2
def L_law_1_0 : MS := sCons (sSet 3 (eCall F__law_problem (aCons (eVar 1) (aNil)))) L_law_1_1
def R_law_2 : MS := sRet (eCst (.bool true))
def R_law_1 : MS := sCons (sFor (iRng1 (eCst (.int (4)))) (.nm 2) L_law_1_0) R_law_2
def R_law_0 : MS := sCons (sNew 1 (eLst (aCons (eSl (eVar 0) (oNone) (oSome (eCst (.int (63))))) (aCons (eCst (.int (0))) (aCons (eCst (.int (0))) (aNil)))))) R_law_1
def B_law : MS := R_law_0
def F_law : FnS := fnS 1 18 B_law
def N_is_whole : List Str := ["thing"]
def N_is_many : List Str := ["thing", "many"]
def N_lean : List Str := ["top", "below", "one", "other"]
def N_is_fraction : List Str := ["thing"]
def N_plus : List Str := ["one", "other"]
def N_minus : List Str := ["one", "other"]
def N_times : List Str := ["one", "other"]
def N_over : List Str := ["one", "other"]
def N_less : List Str := ["one", "other"]
def N_no_more : List Str := ["one", "other"]
def N_lesser : List Str := ["one", "other"]
def N_greater : List Str := ["one", "other"]
def N_is_point : List Str := ["thing"]
def N_is_problem : List Str := ["thing", "one"]
def N_check_problem : List Str := ["problem"]
def N_check_claim_rule : List Str := ["word"]
def N_is_awards : List Str := ["problem", "thing", "one", "claim"]
def N_check_awards : List Str := ["problem", "awards"]
def N_cut_problem : List Str := ["problem", "claim"]
def N_turned_problem : List Str := ["problem"]
def N_rights_of : List Str := ["problem", "side"]
def N_rest_problem : List Str := ["problem", "rights", "amount", "claim", "right"]
def N_problem_after : List Str := ["problem", "first", "awards", "claim", "one"]
def N_in_turn : List Str := ["side", "mine", "theirs"]
def N_power_below : List Str := ["number", "found"]
def N_awards_by : List Str := ["word", "problem", "amount", "claims", "other", "side", "mine", "both", "rights", "half", "small", "low", "high"]
def N_awards_of : List Str := ["word", "problem"]
def N__law_cell_at : List Str := ["script", "k"]
def N__law_draw : List Str := ["cell", "k", "bound", "primes"]
def N__law_number : List Str := ["cell", "k", "bound", "scale", "lap", "remains", "small"]
def N__law_next : List Str := ["draw", "bound", "at", "cell"]
def N__law_problem : List Str := ["draw", "claims", "part"]
def N__law_least : List Str := ["one", "other"]
def N__law_most : List Str := ["one", "other"]
def N__law_two : List Str := ["number", "up", "down"]
def N__law_steps : List Str := ["problem", "amount", "claims", "half", "low", "high", "goal", "mine", "theirs"]
def N__law_alike : List Str := ["problem", "amount", "claims", "half"]
def N__law_awards : List Str := ["word", "problem", "amount", "claims", "missing", "other", "part", "mine", "theirs", "half"]
def N_law : List Str := ["script", "draw", "turn", "problem", "both", "rights", "rest", "word", "spot", "fine", "amount", "claims", "awards", "part", "first", "left", "one", "claim"]
end Ev
namespace Ev
open PySem
/-! LemLean: lean is a division by the gcd -/
def lnC : ME := eCmp pGt (eVar 3) (eCst (.int (0)))
def lnB : MS := sPar [2, 3] (aCons (eVar 3) (aCons (e2 pSub (eVar 2) (e2 pMul (eVar 3) (e2 pDiv (eVar 2) (eVar 3)))) (aNil)))
theorem ln_step {b0 b1 : Option Vl} {x y : Nat} (hx : x.log2 ≤ 8000) (hy : y.log2 ≤ 8000) (hy0 : 0 < y) (s : Sto) :
    lnB [b0, b1, some (.dat (.int x)), some (.dat (.int y))] s = .ok (.nx [b0, b1, some (.dat (.int y)), some (.dat (.int (x % y : Nat)))]) s := by
  have h1 : divOk (y : Int) = true := by
    unfold divOk
    rw [Bool.and_eq_true]
    exact ⟨decide_eq_true (by omega), Nat.ble_eq_true_of_le (by show (y : Int).natAbs.log2 + 1 ≤ 9000; rw [Int.natAbs_natCast]; omega)⟩
  have h2 : mulOk (y : Int) ((x : Int) / (y : Int)) = true := by
    refine mulOk_small (m := 8000) (n := 8000) (by rw [Int.natAbs_natCast]; exact hy) ?_ (by omega)
    rw [← Int.natCast_ediv, Int.natAbs_natCast]
    exact Nat.le_trans (log2_le_of_le (Nat.div_le_self _ _)) hx
  have h3 : (x : Int) - (y : Int) * ((x : Int) / (y : Int)) = ((x % y : Nat) : Int) := by
    rw [Int.natCast_emod, Int.emod_def]
  simp [lnB, noX, sPar, aCons, aNil, eVar, e2, Out.bind, deref, okD, pSub, pMul, pDiv, h1, h2, h3, setsE]
theorem ln_test {b0 b1 : Option Vl} {x y : Int} (s : Sto) : tOf lnC [b0, b1, some (.dat (.int x)), some (.dat (.int y))] s = .ok (decide (0 < y)) s := by
  simp [lnC, tOf, eCmp, eVar, eCst, Out.bind, deref, okB, pGt]
theorem ln_loop (b0 b1 : Option Vl) (s : Sto) : ∀ (n x y k : Nat), y < 2 ^ n → x.log2 ≤ 8000 → y.log2 ≤ 8000 → 2 * n + 2 ≤ k →
    whGo lnC lnB k [b0, b1, some (.dat (.int x)), some (.dat (.int y))] s = .ok (.nx [b0, b1, some (.dat (.int (Nat.gcd x y : Nat))), some (.dat (.int 0))]) s
  | 0, x, y, k, h, hx, hy, hk => by
    have : y = 0 := by simpa using h
    subst this
    obtain ⟨k, rfl⟩ : ∃ j, k = j + 1 := ⟨k - 1, by omega⟩
    unfold whGo
    rw [ln_test]
    simp [Out.bind]
  | n + 1, x, y, k, h, hx, hy, hk => by
    obtain ⟨k, rfl⟩ : ∃ j, k = j + 1 := ⟨k - 1, by omega⟩
    unfold whGo
    rw [ln_test]
    by_cases hy0 : y = 0
    · subst hy0
      simp [Out.bind]
    · have hp : (0 : Int) < (y : Int) := by omega
      simp only [Out.bind, decide_eq_true hp]
      rw [ln_step hx hy (by omega)]
      simp only [Out.bind]
      obtain ⟨k, rfl⟩ : ∃ j, k = j + 1 := ⟨k - 1, by omega⟩
      have hlt := Nat.mod_lt x (show 0 < y by omega)
      have hc : (x % y).log2 ≤ 8000 := Nat.le_trans (log2_le_of_le (Nat.le_of_lt hlt)) hy
      unfold whGo
      rw [ln_test]
      by_cases hc0 : x % y = 0
      · rw [hc0]
        have e : Nat.gcd x y = y := by rw [Nat.gcd_comm, Nat.gcd_rec, hc0, Nat.gcd_zero_left]
        simp [Out.bind, e]
      · have hp : (0 : Int) < ((x % y : Nat) : Int) := by omega
        simp only [Out.bind, decide_eq_true hp]
        rw [ln_step hy hc (by omega)]
        simp only [Out.bind]
        have hs : y % (x % y) < 2 ^ n := by
          have h1 := Nat.mod_lt y (show 0 < x % y by omega)
          have h2 : (x % y) + y % (x % y) ≤ y := by
            have h3 := Nat.div_add_mod y (x % y)
            have h4 : 1 ≤ y / (x % y) := (Nat.one_le_div_iff (by omega)).mpr (Nat.le_of_lt hlt)
            have h5 : (x % y) * 1 ≤ (x % y) * (y / (x % y)) := Nat.mul_le_mul_left _ h4
            omega
          rw [Nat.pow_succ] at h
          omega
        rw [ln_loop b0 b1 s n (x % y) (y % (x % y)) k hs hc (Nat.le_trans (log2_le_of_le (Nat.le_of_lt (Nat.lt_trans (Nat.mod_lt y (by omega)) hlt))) hy) (by omega)]
        have e : Nat.gcd (x % y) (y % (x % y)) = Nat.gcd x y := by
          rw [Nat.gcd_comm, ← Nat.gcd_rec, ← Nat.gcd_rec, Nat.gcd_comm]
        rw [e]
theorem lt_pow_log2 (n : Nat) : n < 2 ^ (n.log2 + 1) := Nat.lt_log2_self
theorem abs_eq (a : Int) : (if a < 0 then -a else a) = (a.natAbs : Int) := by
  split <;> omega
theorem ln_tail (a : Int) (b : Nat) (hb : 0 < b) (ha2 : a.natAbs.log2 ≤ 2000) (hb2 : b.log2 ≤ 2000) (s : Sto) (x y : Option Vl) :
    (sCons (sPar [2, 3] (aCons (eBlt bAbs (aCons (eVar 0) (aNil))) (aCons (eVar 1) (aNil)))) (sCons (sWh (eCmp pGt (eVar 3) (eCst (.int (0)))) (sPar [2, 3] (aCons (eVar 3) (aCons (e2 pSub (eVar 2) (e2 pMul (eVar 3) (e2 pDiv (eVar 2) (eVar 3)))) (aNil))))) (sRet (eTup (aCons (e2 pDiv (eVar 0) (eVar 2)) (aCons (e2 pDiv (eVar 1) (eVar 2)) (aNil)))))))
      [some (.dat (.int a)), some (.dat (.int b)), x, y] s = .ok (.rt (.dat (.tuple [.int (a / (Nat.gcd a.natAbs b : Nat)), .int ((b : Int) / (Nat.gcd a.natAbs b : Nat))]))) s := by
  have e1 : (sPar [2, 3] (aCons (eBlt bAbs (aCons (eVar 0) (aNil))) (aCons (eVar 1) (aNil)))) [some (.dat (.int a)), some (.dat (.int b)), x, y] s = .ok (.nx [some (.dat (.int a)), some (.dat (.int b)), some (.dat (.int (a.natAbs : Nat))), some (.dat (.int (b : Nat)))]) s := by
    simp only [noX, sPar, aCons, aNil, eVar, eBlt, eBlt.derefs, Out.bind, deref, okD, bAbs, setsE, abs_eq, List.getElem?_cons_zero, List.getElem?_cons_succ, List.set]
  have e2' := ln_loop (some (.dat (.int a))) (some (.dat (.int b))) s 2001 a.natAbs b 4096 (Nat.lt_of_lt_of_le (lt_pow_log2 b) (Nat.pow_le_pow_right (by omega) (by omega))) (by omega) (by omega) (by omega)
  have hg : 0 < Nat.gcd a.natAbs b := Nat.gcd_pos_of_pos_right _ hb
  have hd : divOk ((Nat.gcd a.natAbs b : Nat) : Int) = true := by
    unfold divOk
    rw [Bool.and_eq_true]
    refine ⟨decide_eq_true (by omega), Nat.ble_eq_true_of_le ?_⟩
    rw [Int.natAbs_natCast]
    have := log2_le_of_le (Nat.gcd_le_right a.natAbs hb)
    show _ + 1 ≤ 9000
    omega
  unfold sCons
  rw [e1]
  simp only [Out.bind]
  unfold sWh
  show (Out.bind (noX (whGo lnC lnB 4096 _ s)) _) = _
  rw [e2']
  simp [noX, Out.bind, sRet, eTup, aCons, aNil, e2, eVar, deref, okD, pDiv, hd, dats, line, Nat.ble]
theorem le_lean : Le F_leanP F_lean := by
  intro vs s v s' h
  unfold F_leanP at h
  split at h
  · rename_i a b
    split at h
    · rename_i hb
      simp only [Bool.and_eq_true, decide_eq_true_eq] at hb
      obtain ⟨⟨h0, ha⟩, hb⟩ := hb
      have ha := Nat.le_of_ble_eq_true ha
      have hb := Nat.le_of_ble_eq_true hb
      cases h
      refine fnS_dat0 rfl ?_
      show B_lean [some (.dat (.int a)), some (.dat (.int b)), none, none] s = _
      unfold B_lean
      by_cases hn : b < 0
      · have e : (sIf (eCmp pLt (eVar 1) (eCst (.int (0)))) (sPar [0, 1] (aCons (e1 pNeg (eVar 0)) (aCons (e1 pNeg (eVar 1)) (aNil)))) (sNil)) [some (.dat (.int a)), some (.dat (.int b)), none, none] s = .ok (.nx [some (.dat (.int (-a))), some (.dat (.int (b.natAbs : Nat))), none, none]) s := by
          have : -b = (b.natAbs : Int) := by omega
          simp [noX, sIf, tOf, eCmp, eVar, eCst, Out.bind, deref, okB, pLt, hn, sPar, aCons, aNil, e1, okD, pNeg, setsE, this]
        rw [sCons_nx e, ln_tail (-a) b.natAbs (by omega) (by rw [Int.natAbs_neg]; omega) (by omega)]
        simp [leanI, hn]
      · have e : (sIf (eCmp pLt (eVar 1) (eCst (.int (0)))) (sPar [0, 1] (aCons (e1 pNeg (eVar 0)) (aCons (e1 pNeg (eVar 1)) (aNil)))) (sNil)) [some (.dat (.int a)), some (.dat (.int b)), none, none] s = .ok (.nx [some (.dat (.int a)), some (.dat (.int (b.natAbs : Nat))), none, none]) s := by
          have : b = (b.natAbs : Int) := by omega
          rw [← this]
          simp [sIf, tOf, eCmp, eVar, eCst, Out.bind, deref, okB, pLt, hn, sNil]
        rw [sCons_nx e, ln_tail a b.natAbs (by omega) (by omega) (by omega)]
        simp [leanI, hn]
    · cases h
  · cases h
end Ev
/-! LemNext: a draw lies below its bound. -/
namespace Ev
open PySem
theorem le2_log {i : Int} {n : Nat} (h : i.natAbs < 2 ^ n) (hn : 0 < n) : i.natAbs.log2 ≤ n := by
  rcases Nat.eq_zero_or_pos i.natAbs with e | e
  · rw [e, Nat.log2_zero]; omega
  · exact Nat.le_of_lt ((Nat.log2_lt (by omega)).mpr h)
theorem dw_pr (k : Int) (h1 : 1 ≤ k) (h2 : k ≤ 9) (x b : Vl) (s : Sto) : ∃ p : Int, 0 < p ∧ (e2 pIx (eVar 3) (e2 pMod (eBlt bInt (aCons (eVar 1) (aNil))) (eCst (.int (16))))) [some x, some (.dat (.int k)), some b, some (.dat (.tuple [.int 1000003, .int 1000033, .int 1000037, .int 1000039, .int 1000081, .int 1000099, .int 1000117, .int 1000121, .int 1000133, .int 1000151, .int 1000159, .int 1000171, .int 1000183, .int 1000187, .int 1000193, .int 1000199]))] s = .ok (.dat (.int p)) s := by
  have : k = 1 ∨ k = 2 ∨ k = 3 ∨ k = 4 ∨ k = 5 ∨ k = 6 ∨ k = 7 ∨ k = 8 ∨ k = 9 := by omega
  rcases this with rfl | rfl | rfl | rfl | rfl | rfl | rfl | rfl | rfl <;> exact ⟨_, by decide, rfl⟩
theorem dw_ok (x k : Int) (hx : x.natAbs < 2 ^ 80) (h1 : 1 ≤ k) (h2 : k ≤ 9) (s : Sto) : ∃ r : Int, F__law_draw [.dat (.int x), .dat (.int k), .dat (.int 999983)] s = .ok (.dat (.int r)) s := by
  obtain ⟨p, hp, e⟩ := dw_pr k h1 h2 (.dat (.int x)) (.dat (.int 999983)) s
  have m1 : mulOk x 48271 = true := mulOk_small (m := 80) (n := 80) (le2_log hx (by omega)) (by decide) (by omega)
  have m2 : mulOk k 69621 = true := mulOk_small (m := 80) (n := 80) (le2_log (Nat.lt_of_le_of_lt (show k.natAbs ≤ 9 by omega) (by decide)) (by omega)) (by decide) (by omega)
  refine ⟨(x * 48271 + k * 69621) % p % 999983, fnS_dat0 rfl ?_⟩
  unfold B__law_draw
  rw [sCons_nx (e' := [some (.dat (.int x)), some (.dat (.int k)), some (.dat (.int 999983)), some (.dat (.tuple [.int 1000003, .int 1000033, .int 1000037, .int 1000039, .int 1000081, .int 1000099, .int 1000117, .int 1000121, .int 1000133, .int 1000151, .int 1000159, .int 1000171, .int 1000183, .int 1000187, .int 1000193, .int 1000199]))]) (s' := s) rfl]
  refine sRet_ok (e2_dat (e2_dat (eBlt1_dat (e2_dat (r := .int (x * 48271 + k * 69621)) (e2_dat (r := .int (x * 48271)) rfl rfl ?_) (e2_dat (r := .int (k * 69621)) rfl rfl ?_) rfl) rfl) e (r := .int ((x * 48271 + k * 69621) % p)) ?_) rfl rfl)
  · simp only [pMul, m1, if_true]
  · simp only [pMul, m2, if_true]
  · simp only [pMod, hp, decide_true, if_true]
theorem nm_loop (k : Int) (h1 : 1 ≤ k) (h2 : k ≤ 12) (x b : Vl) (s : Sto) : ∃ (p : Int) (l : Option Vl), 0 < p ∧ divOk p = true ∧ (sFor (iRng1 (e2 pMod (eBlt bInt (aCons (eVar 1) (aNil))) (eCst (.int (24))))) (.nm 4) (sSet 3 (e2 pMul (eVar 3) (eCst (.int (1009)))))) [some x, some (.dat (.int k)), some b, some (.dat (.int 1)), none, none, none] s = .ok (.nx [some x, some (.dat (.int k)), some b, some (.dat (.int p)), l, none, none]) s := by
  have : k = 1 ∨ k = 2 ∨ k = 3 ∨ k = 4 ∨ k = 5 ∨ k = 6 ∨ k = 7 ∨ k = 8 ∨ k = 9 ∨ k = 10 ∨ k = 11 ∨ k = 12 := by omega
  rcases this with rfl | rfl | rfl | rfl | rfl | rfl | rfl | rfl | rfl | rfl | rfl | rfl
  · exact ⟨1009 ^ 1, some (.dat (.int 0)), by decide +kernel, by decide +kernel, by kernel_rfl⟩
  · exact ⟨1009 ^ 2, some (.dat (.int 1)), by decide +kernel, by decide +kernel, by kernel_rfl⟩
  · exact ⟨1009 ^ 3, some (.dat (.int 2)), by decide +kernel, by decide +kernel, by kernel_rfl⟩
  · exact ⟨1009 ^ 4, some (.dat (.int 3)), by decide +kernel, by decide +kernel, by kernel_rfl⟩
  · exact ⟨1009 ^ 5, some (.dat (.int 4)), by decide +kernel, by decide +kernel, by kernel_rfl⟩
  · exact ⟨1009 ^ 6, some (.dat (.int 5)), by decide +kernel, by decide +kernel, by kernel_rfl⟩
  · exact ⟨1009 ^ 7, some (.dat (.int 6)), by decide +kernel, by decide +kernel, by kernel_rfl⟩
  · exact ⟨1009 ^ 8, some (.dat (.int 7)), by decide +kernel, by decide +kernel, by kernel_rfl⟩
  · exact ⟨1009 ^ 9, some (.dat (.int 8)), by decide +kernel, by decide +kernel, by kernel_rfl⟩
  · exact ⟨1009 ^ 10, some (.dat (.int 9)), by decide +kernel, by decide +kernel, by kernel_rfl⟩
  · exact ⟨1009 ^ 11, some (.dat (.int 10)), by decide +kernel, by decide +kernel, by kernel_rfl⟩
  · exact ⟨1009 ^ 12, some (.dat (.int 11)), by decide +kernel, by decide +kernel, by kernel_rfl⟩
theorem nm_ok (x k b : Int) (h1 : 1 ≤ k) (h2 : k ≤ 12) (hb : 0 < b) (s : Sto) : ∃ r : Int, 0 ≤ r ∧ r < b ∧ F__law_number [.dat (.int x), .dat (.int k), .dat (.int b)] s = .ok (.dat (.int r)) s := by
  obtain ⟨p, l, hp, hd, el⟩ := nm_loop k h1 h2 (.dat (.int x)) (.dat (.int b)) s
  have e5 : (sSet 5 (e2 pDiv (e2 pSub (eVar 0) (e2 pPow (eCst (.int (10))) (eCst (.int (18))))) (eVar 3))) [some (.dat (.int x)), some (.dat (.int k)), some (.dat (.int b)), some (.dat (.int p)), l, none, none] s = .ok (.nx [some (.dat (.int x)), some (.dat (.int k)), some (.dat (.int b)), some (.dat (.int p)), l, some (.dat (.int ((x - 1000000000000000000) / p))), none]) s := by
    have hpw : pPow (.int 10) (.int 18) = some (.int 1000000000000000000) := by rfl
    simp only [noX, sSet, e2, eVar, eCst, Out.bind, deref, okD, pSub, pDiv, hpw, hd, if_true, List.getElem?_cons_zero, List.getElem?_cons_succ, List.set]
  have hm : ∀ y : Int, 0 ≤ y % b ∧ y % b < b := fun y => ⟨Int.emod_nonneg _ (by omega), Int.emod_lt_of_pos _ hb⟩
  by_cases hr : 0 < (x - 1000000000000000000) / p
  · refine ⟨(x - 1000000000000000000) / p % 1009 % b, (hm _).1, (hm _).2, fnS_dat0 rfl ?_⟩
    unfold B__law_number
    rw [sCons_nx (e' := [some (.dat (.int x)), some (.dat (.int k)), some (.dat (.int b)), some (.dat (.int 1)), none, none, none]) (s' := s) rfl, sCons_nx el, sCons_nx e5, sCons_rt]
    simp only [noX, sIf, tOf, eCmp, sRet, e2, eBlt, eBlt.derefs, aCons, aNil, eVar, eCst, Out.bind, deref, okD, okB, pGt, pMod, bInt, hr, hb, decide_true, if_true, show decide ((0 : Int) < 1009) = true from rfl, List.getElem?_cons_zero, List.getElem?_cons_succ]
  · have hs1 := Int.emod_nonneg x (show (1000003 : Int) ≠ 0 by omega)
    have hs2 := Int.emod_lt_of_pos x (show (0 : Int) < 1000003 by omega)
    obtain ⟨r, er⟩ := dw_ok ((x % 1000003 + 977 * k) * (x % 1000003 + 31 * k + 5)) (k % 9 + 1) (by
      rw [Int.natAbs_mul]
      have a1 : (x % 1000003 + 977 * k).natAbs ≤ 2 ^ 30 := by omega
      have a2 : (x % 1000003 + 31 * k + 5).natAbs ≤ 2 ^ 30 := by omega
      exact Nat.lt_of_le_of_lt (Nat.mul_le_mul a1 a2) (by decide)) (by omega) (by omega) s
    refine ⟨r % b, (hm _).1, (hm _).2, fnS_dat0 rfl ?_⟩
    unfold B__law_number
    rw [sCons_nx (e' := [some (.dat (.int x)), some (.dat (.int k)), some (.dat (.int b)), some (.dat (.int 1)), none, none, none]) (s' := s) rfl, sCons_nx el, sCons_nx e5]
    have e6 : (sIf (eCmp pGt (eVar 5) (eCst (.int (0)))) (sRet (e2 pMod (e2 pMod (eBlt bInt (aCons (eVar 5) (aNil))) (eCst (.int (1009)))) (eVar 2))) (sNil)) [some (.dat (.int x)), some (.dat (.int k)), some (.dat (.int b)), some (.dat (.int p)), l, some (.dat (.int ((x - 1000000000000000000) / p))), none] s = .ok (.nx [some (.dat (.int x)), some (.dat (.int k)), some (.dat (.int b)), some (.dat (.int p)), l, some (.dat (.int ((x - 1000000000000000000) / p))), none]) s := by
      simp only [sIf, tOf, eCmp, eVar, eCst, Out.bind, deref, okB, pGt, hr, decide_false, List.getElem?_cons_zero, List.getElem?_cons_succ]
      rfl
    rw [sCons_nx e6, sCons_nx (e' := [some (.dat (.int x)), some (.dat (.int k)), some (.dat (.int b)), some (.dat (.int p)), l, some (.dat (.int ((x - 1000000000000000000) / p))), some (.dat (.int (x % 1000003)))]) (s' := s) rfl]
    have m1 : mulOk 977 k = true := mulOk_small (m := 80) (n := 80) (by decide) (le2_log (Nat.lt_of_le_of_lt (show k.natAbs ≤ 12 by omega) (by decide)) (by omega)) (by omega)
    have m2 : mulOk 31 k = true := mulOk_small (m := 80) (n := 80) (by decide) (le2_log (Nat.lt_of_le_of_lt (show k.natAbs ≤ 12 by omega) (by decide)) (by omega)) (by omega)
    have m3 : mulOk (x % 1000003 + 977 * k) (x % 1000003 + 31 * k + 5) = true := mulOk_small (m := 80) (n := 80) (le2_log (Nat.lt_of_le_of_lt (show _ ≤ 2 ^ 30 by omega) (by decide)) (by omega)) (le2_log (Nat.lt_of_le_of_lt (show _ ≤ 2 ^ 30 by omega) (by decide)) (by omega)) (by omega)
    simp only [noX, sRet, e2, eCall, eBlt, eBlt.derefs, aCons, aNil, eVar, eCst, Out.bind, deref, okD, pAdd, pMul, pMod, bInt, m1, m2, m3, hb, decide_true, if_true, List.getElem?_cons_zero, List.getElem?_cons_succ, show decide ((0 : Int) < 9) = true from rfl, er]
/-- the draw's store -/
def drw (cut : List PyData) (c : Int) : MO := .lst [.list cut, .int 0, .int c]
theorem ca_ok (ns : List Int) (k : Int) (hk : 0 ≤ k) (s : Sto) : ∃ x : Int, F__law_cell_at [.dat (.list (ns.map .int)), .dat (.int k)] s = .ok (.dat (.int x)) s := by
  have hl : bLen [.list (ns.map PyData.int)] = some (.int (ns.length : Nat)) := by
    simp [bLen, pLen]
  by_cases h : k < (ns.length : Int)
  · obtain ⟨y, hy⟩ : ∃ y, ns[k.toNat]? = some y := ⟨ns[k.toNat]'(by omega), List.getElem?_eq_getElem _⟩
    have hix : pIx (.list (ns.map .int)) (.int k) = some (.int y) := by
      show (L2.ixN (ns.map PyData.int).length k).bind (fun j => (ns.map PyData.int)[j]?) = _
      unfold L2.ixN
      rw [List.length_map, if_pos hk, if_pos h, Option.bind_some, List.getElem?_map, hy]
      rfl
    refine ⟨y, fnS_dat0 rfl ?_⟩
    unfold B__law_cell_at
    exact sCons_rt ((sIf_t (eCmp_dat rfl (eBlt1_dat rfl hl) (congrArg some (decide_eq_true h)))).trans (sRet_ok (e2_dat rfl rfl hix)))
  · refine ⟨0, fnS_dat0 rfl ?_⟩
    unfold B__law_cell_at
    exact (sCons_nx (sIf_f (eCmp_dat rfl (eBlt1_dat rfl hl) (congrArg some (decide_eq_false h))))).trans rfl
/-- a draw -/
theorem nx_ok (ns : List Int) (c b : Int) (hc : 0 ≤ c) (hc2 : c < 1000000000) (hb : 0 < b) (r : Sto) : ∃ v : Int, 0 ≤ v ∧ v < b ∧ F__law_next [.loc 0, .dat (.int b)] (drw (ns.map .int) c :: r) = .ok (.dat (.int v)) (drw (ns.map .int) (c + 1) :: r) := by
  obtain ⟨x, ex⟩ := ca_ok ns (0 + (c + 1) / 12) (by omega) (drw (ns.map .int) (c + 1) :: r)
  obtain ⟨v, h0, h1, ev⟩ := nm_ok (x + 31 * ((c + 1) / 12)) ((c + 1) % 12 + 1) b (by omega) (by omega) hb (drw (ns.map .int) (c + 1) :: r)
  refine ⟨v, h0, h1, ?_⟩
  have m : mulOk 31 ((c + 1) / 12) = true := mulOk_small (m := 80) (n := 80) (by decide) (le2_log (Nat.lt_of_le_of_lt (show _ ≤ 1000000000 by omega) (by decide)) (by omega)) (by omega)
  have hm : B__law_next [some (.loc 0), some (.dat (.int b)), none, none] (drw (ns.map .int) c :: r) = .ok (.rt (.dat (.int v))) (drw (ns.map .int) (c + 1) :: r) := by
    unfold B__law_next
    rw [sCons_nx (e' := [some (.loc 0), some (.dat (.int b)), none, none]) (s' := drw (ns.map .int) (c + 1) :: r) rfl]
    rw [sCons_nx (e' := [some (.loc 0), some (.dat (.int b)), some (.dat (.int ((c + 1) / 12))), none]) (s' := drw (ns.map .int) (c + 1) :: r) rfl]
    have e1 : (e2 pAdd (eCall F__law_cell_at (aCons (e2 pIx (eVar 0) (eCst (.int (0)))) (aCons (e2 pAdd (e2 pIx (eVar 0) (eCst (.int (1)))) (eVar 2)) (aNil)))) (e2 pMul (eCst (.int (31))) (eVar 2))) [some (.loc 0), some (.dat (.int b)), some (.dat (.int ((c + 1) / 12))), none] (drw (ns.map .int) (c + 1) :: r) = .ok (.dat (.int (x + 31 * ((c + 1) / 12)))) (drw (ns.map .int) (c + 1) :: r) := by
      refine e2_dat (d := .int x) (e := .int (31 * ((c + 1) / 12))) ex (e2_dat rfl rfl ?_) rfl
      simp only [pMul, m, if_true]
    rw [sCons_nx (sSet_ok e1)]
    exact sRet_ok ev
  have := fnS_dat (np := 2) (nn := 4) (vs := [.loc 0, .dat (.int b)]) rfl hm
  rw [show F__law_next = fnS 2 4 B__law_next from rfl, this]
  simp
end Ev
/-! LemPrim: the short forms answer as the defs do. -/
namespace Ev
open PySem
theorem big_log {n : Nat} (h : n ≤ big) : n.log2 ≤ 600 := Nat.le_trans (log2_le_of_le h) (by decide +kernel)
theorem sm4_ok {a b c d : Int} (h : sm4 a b c d = true) : mulOk a d = true ∧ mulOk c b = true ∧ mulOk b d = true ∧ mulOk a c = true ∧ mulOk b c = true := by
  have h := Nat.le_of_ble_eq_true h
  have ha : a.natAbs.log2 ≤ 600 := big_log (by omega)
  have hb : b.natAbs.log2 ≤ 600 := big_log (by omega)
  have hc : c.natAbs.log2 ≤ 600 := big_log (by omega)
  have hd : d.natAbs.log2 ≤ 600 := big_log (by omega)
  exact ⟨mulOk_small ha hd (by omega), mulOk_small hc hb (by omega), mulOk_small hb hd (by omega), mulOk_small ha hc (by omega), mulOk_small hb hc (by omega)⟩
theorem pMul_ok {i j : Int} (h : mulOk i j = true) : pMul (.int i) (.int j) = some (.int (i * j)) := by
  simp only [pMul, h, if_true]
theorem lnP_ok {t u : Int} (h : arOk t u = true) (s : Sto) : F_leanP [.dat (.int t), .dat (.int u)] s = .ok (.dat (leanI t u)) s := by
  unfold F_leanP
  unfold arOk at h
  simp only [h, if_true]
theorem le_less : Le P_less F_less := by
  intro vs s v s' h
  unfold P_less at h
  split at h
  · split at h
    · rename_i a b c d hs
      obtain ⟨h1, h2, _⟩ := sm4_ok hs
      cases h
      refine fnS_dat0 rfl (sRet_ok (eCmp_dat (e2_dat rfl rfl (pMul_ok h1)) (e2_dat rfl rfl (pMul_ok h2)) rfl))
    · cases h
  · cases h
theorem le_no_more : Le P_no_more F_no_more := by
  intro vs s v s' h
  unfold P_no_more at h
  split at h
  · split at h
    · rename_i a b c d hs
      obtain ⟨h1, h2, _⟩ := sm4_ok hs
      cases h
      refine fnS_dat0 rfl (sRet_ok (eCmp_dat (e2_dat rfl rfl (pMul_ok h1)) (e2_dat rfl rfl (pMul_ok h2)) rfl))
    · cases h
  · cases h
theorem le_plus : Le P_plus F_plus := by
  intro vs s v s' h
  unfold P_plus at h
  split at h
  · split at h
    · rename_i a b c d hs
      obtain ⟨hs, hr⟩ := Bool.and_eq_true_iff.mp hs
      obtain ⟨h1, h2, h3, h4, h5⟩ := sm4_ok hs
      cases h
      exact fnS_dat0 rfl (sRet_ok (eCall2_dat (e2_dat (e2_dat rfl rfl (pMul_ok h1)) (e2_dat rfl rfl (pMul_ok h2)) rfl) (e2_dat rfl rfl (pMul_ok h3)) (lnP_ok hr _)))
    · cases h
  · cases h
theorem le_minus : Le P_minus F_minus := by
  intro vs s v s' h
  unfold P_minus at h
  split at h
  · split at h
    · rename_i a b c d hs
      obtain ⟨hs, hr⟩ := Bool.and_eq_true_iff.mp hs
      obtain ⟨h1, h2, h3, h4, h5⟩ := sm4_ok hs
      cases h
      exact fnS_dat0 rfl (sRet_ok (eCall2_dat (e2_dat (e2_dat rfl rfl (pMul_ok h1)) (e2_dat rfl rfl (pMul_ok h2)) rfl) (e2_dat rfl rfl (pMul_ok h3)) (lnP_ok hr _)))
    · cases h
  · cases h
theorem le_times : Le P_times F_times := by
  intro vs s v s' h
  unfold P_times at h
  split at h
  · split at h
    · rename_i a b c d hs
      obtain ⟨hs, hr⟩ := Bool.and_eq_true_iff.mp hs
      obtain ⟨h1, h2, h3, h4, h5⟩ := sm4_ok hs
      cases h
      exact fnS_dat0 rfl (sRet_ok (eCall2_dat (e2_dat rfl rfl (pMul_ok h4)) (e2_dat rfl rfl (pMul_ok h3)) (lnP_ok hr _)))
    · cases h
  · cases h
theorem le_over : Le P_over F_over := by
  intro vs s v s' h
  unfold P_over at h
  split at h
  · split at h
    · rename_i a b c d hs
      obtain ⟨hs, hr⟩ := Bool.and_eq_true_iff.mp hs
      obtain ⟨h1, h2, h3, h4, h5⟩ := sm4_ok hs
      cases h
      exact fnS_dat0 rfl (sRet_ok (eCall2_dat (e2_dat rfl rfl (pMul_ok h1)) (e2_dat rfl rfl (pMul_ok h5)) (lnP_ok hr _)))
    · cases h
  · cases h
theorem eqv_pair (a b c d : Int) : PyData.eqv (.tuple [.int a, .int b]) (.tuple [.int c, .int d]) = (decide (a = c) && decide (b = d)) := by
  have e : ∀ x y : Int, (x == y) = decide (x = y) := fun x y => rfl
  simp [PyData.eqv, PyData.eqvAll, e]
theorem im2_ok (a b : Int) (s : Sto) : F_is_many [.dat (.tuple [.int a, .int b]), .dat (.int 2)] s = .ok (.dat (.bool true)) s := fnS_dat0 rfl rfl
theorem iw_ok (a : Int) (s : Sto) : F_is_whole [.dat (.int a)] s = .ok (.dat (.bool true)) s := fnS_dat0 rfl rfl
theorem lean_fix {a b : Int} (hb : ¬ b < 1) : (decide ((if b < 0 then -a else a) / (Nat.gcd a.natAbs b.natAbs : Nat) = a) && decide (((b.natAbs : Nat) : Int) / (Nat.gcd a.natAbs b.natAbs : Nat) = b)) = Nat.beq (Nat.gcd a.natAbs b.natAbs) 1 := by
  have hp : 0 < Nat.gcd a.natAbs b.natAbs := Nat.gcd_pos_of_pos_right _ (by omega)
  have e : (b.natAbs : Int) = b := by omega
  rw [if_neg (by omega), e]
  by_cases h1 : Nat.gcd a.natAbs b.natAbs = 1
  · rw [h1]
    simp
  · have h2 : ¬ b / ((Nat.gcd a.natAbs b.natAbs : Nat) : Int) = b := by
      intro h
      have h3 : b / ((Nat.gcd a.natAbs b.natAbs : Nat) : Int) < b := Int.ediv_lt_self_of_pos_of_ne_one (by omega) (by omega)
      omega
    rw [decide_eq_false h2, Bool.and_false]
    cases q : Nat.beq (Nat.gcd a.natAbs b.natAbs) 1 with
    | false => rfl
    | true => exact absurd (Nat.eq_of_beq_eq_true q) h1
theorem le_is_fraction : Le P_is_fraction F_is_fraction := by
  intro vs s v s' h
  unfold P_is_fraction at h
  split at h
  · rename_i a b
    have c0 : (eCmp pLt (e2 pIx (eVar 0) (eCst (.int (1)))) (eCst (.int (1)))) [some (.dat (.tuple [.int a, .int b]))] s = .ok (.dat (.bool (decide (b < 1)))) s := rfl
    have cc : (eOr (eNot (eCall F_is_many (aCons (eVar 0) (aCons (eCst (.int (2))) (aNil))))) (eOr (eNot (eCall F_is_whole (aCons (e2 pIx (eVar 0) (eCst (.int (0)))) (aNil)))) (eOr (eNot (eCall F_is_whole (aCons (e2 pIx (eVar 0) (eCst (.int (1)))) (aNil)))) (eCmp pLt (e2 pIx (eVar 0) (eCst (.int (1)))) (eCst (.int (1))))))) [some (.dat (.tuple [.int a, .int b]))] s = .ok (.dat (.bool (decide (b < 1)))) s :=
      eOr_f (eNot_dat (eCall2_dat rfl rfl (im2_ok a b s))) (eOr_f (eNot_dat (eCall1_dat rfl (iw_ok a s))) (eOr_f (eNot_dat (eCall1_dat rfl (iw_ok b s))) c0))
    split at h
    · rename_i hb
      cases h
      rw [hb] at cc
      exact fnS_dat0 rfl (sCons_rt ((sIf_t cc).trans rfl))
    · rename_i hb
      have hb : decide (b < 1) = false := by simpa using hb
      rw [hb] at cc
      split at h
      · rename_i hl
        cases h
        have hb : ¬ b < 1 := of_decide_eq_false hb
        have ar : arOk a b = true := by
          unfold arOk
          rw [Bool.and_eq_true, Bool.and_eq_true]
          rw [Bool.and_eq_true] at hl
          exact ⟨⟨decide_eq_true (by omega), hl.1⟩, hl.2⟩
        refine fnS_dat0 rfl ((sCons_nx ((sIf_f cc).trans rfl)).trans (sRet_ok (eCmp_dat (eCall2_dat rfl rfl (lnP_ok ar s)) rfl ?_)))
        show (if SeqAt.shaped _ && SeqAt.shaped _ then some (PyData.eqv (leanI a b) (.tuple [.int a, .int b])) else none) = _
        unfold leanI
        rw [eqv_pair, lean_fix hb]
        rfl
      · cases h
  · exact h
end Ev
/-! LemDraw: a law's first row. -/
namespace Ev
open PySem
theorem cut_map (ns : List Int) (lo hi : Option Int) : ∃ ms : List Int, cutL (ns.map PyData.int) lo hi = ms.map PyData.int := by
  unfold cutL
  rw [← List.map_drop, ← List.map_take]
  exact ⟨_, rfl⟩
abbrev eDraw : ME := eLst (aCons (eSl (eVar 0) (oNone) (oSome (eCst (.int (63))))) (aCons (eCst (.int (0))) (aCons (eCst (.int (0))) (aNil))))
theorem eDraw_ok (ns : List Int) (r : Env) (s : Sto) : ∃ ms : List Int, eDraw (some (.scr (ns.map .int)) :: r) s = .ok (.dat (.list [.list (ms.map .int), .int 0, .int 0])) s := by
  obtain ⟨ms, h⟩ := cut_map ns none (some 63)
  refine ⟨ms, ?_⟩
  rw [← h]
  rfl
/-- draw = [script[:63], 0, 0] -/
theorem draw_ok (ns : List Int) (r : Env) : ∃ ms : List Int, ∀ i, sNew i eDraw (some (.scr (ns.map .int)) :: r) [] = .ok (.nx ((some (.scr (ns.map .int)) :: r).set i (some (.loc 0)))) [drw (ms.map .int) 0] := by
  obtain ⟨ms, h⟩ := eDraw_ok ns r []
  refine ⟨ms, fun i => ?_⟩
  unfold sNew
  rw [h]
  rfl
/-- 1 + a draw -/
theorem next_ok {ns : List Int} {c b : Int} {r : Sto} {env : Env} {i : Nat} (he : env[i]? = some (some (.loc 0))) (hc : 0 ≤ c) (hc2 : c < 1000000000) (hb : 0 < b) :
    ∃ v : Int, 0 ≤ v ∧ v < b ∧ eCall F__law_next (aCons (eVar i) (aCons (eCst (.int b)) aNil)) env (drw (ns.map .int) c :: r) = .ok (.dat (.int v)) (drw (ns.map .int) (c + 1) :: r) := by
  obtain ⟨v, h0, h1, e⟩ := nx_ok ns c b hc hc2 hb r
  refine ⟨v, h0, h1, ?_⟩
  have h2 : aCons (eVar i) (aCons (eCst (.int b)) aNil) env (drw (ns.map .int) c :: r) = .ok [.loc 0, .dat (.int b)] (drw (ns.map .int) c :: r) := by
    unfold aCons eVar
    rw [he]
    rfl
  unfold eCall
  rw [h2]
  exact e
theorem sPar2_ok {i j : Nat} {a b : ME} {env : Env} {s s1 s2 : Sto} {v w : Vl} (ha : a env s = .ok v s1) (hb : b env s1 = .ok w s2) : sPar [i, j] (aCons a (aCons b aNil)) env s = .ok (.nx ((env.set i (some v)).set j (some w))) s2 := by
  have h1 : aCons b aNil env s1 = .ok [w] s2 := by
    unfold aCons
    rw [hb]
    rfl
  have h2 : aCons a (aCons b aNil) env s = .ok [v, w] s2 := by
    rw [aCons.eq_1 a, ha]
    simp only [Out.bind, h1]
  unfold sPar
  rw [h2]
  rfl
theorem sPar3_ok {i j k : Nat} {a b c : ME} {env : Env} {s s1 s2 s3 : Sto} {u v w : Vl} (ha : a env s = .ok u s1) (hb : b env s1 = .ok v s2) (hc : c env s2 = .ok w s3) : sPar [i, j, k] (aCons a (aCons b (aCons c aNil))) env s = .ok (.nx (((env.set i (some u)).set j (some v)).set k (some w))) s3 := by
  have h1 : aCons c aNil env s2 = .ok [w] s3 := by
    unfold aCons
    rw [hc]
    rfl
  have h2 : aCons b (aCons c aNil) env s1 = .ok [v, w] s3 := by
    rw [aCons.eq_1 b, hb]
    simp only [Out.bind, h1]
  have h3 : aCons a (aCons b (aCons c aNil)) env s = .ok [u, v, w] s3 := by
    rw [aCons.eq_1 a, ha]
    simp only [Out.bind, h2]
  unfold sPar
  rw [h3]
  rfl
def isT : Out SR → Bool
  | .ok (.rt (.dat (.bool true))) _ => true
  | _ => false
theorem isT_fn {np nn : Nat} {m : MS} {vs : List Vl} {s : Sto} (hl : (vs.length == np) = true) (h : isT (m (vs.map some ++ List.replicate (nn - np) none) s) = true) : ∃ s', fnS np nn m vs s = .ok (.dat (.bool true)) s' := by
  cases q : m (vs.map some ++ List.replicate (nn - np) none) s with
  | ok a s' =>
    rw [q] at h
    unfold isT at h
    split at h
    · rename_i e
      cases e
      exact ⟨_, fnS_dat hl q⟩
    · cases h
  | exn x s' => rw [q] at h; cases h
  | bad => rw [q] at h; cases h
end Ev
/-! Frac: fractions without common divisors. -/
namespace Ev
open PySem
def fr (p q : Int) : PyData := .tuple [.int p, .int q]
structure Fr (p q : Int) : Prop where
  pos : 0 < q
  cop : Nat.gcd p.natAbs q.natAbs = 1
theorem leanI_spec (t u : Int) (hu : u ≠ 0) : ∃ p q, leanI t u = fr p q ∧ Fr p q ∧ p * u = t * q ∧ p.natAbs ≤ t.natAbs ∧ q.natAbs ≤ u.natAbs := by
  obtain ⟨a, b, hab, ha, hb⟩ := Nat.exists_coprime t.natAbs u.natAbs
  have hg : 0 < Nat.gcd t.natAbs u.natAbs := Nat.gcd_pos_of_pos_right _ (by omega)
  unfold leanI
  generalize hgg : Nat.gcd t.natAbs u.natAbs = g at ha hb hg ⊢
  have hb0 : 0 < b := by
    rcases Nat.eq_zero_or_pos b with h | h
    · rw [h, Nat.zero_mul] at hb; omega
    · exact h
  have gz : (g : Int) ≠ 0 := by omega
  have e2 : ((u.natAbs : Nat) : Int) / (g : Int) = b := by
    rw [hb, Int.natCast_mul]
    exact Int.mul_ediv_cancel _ gz
  have ta : t = (a : Int) * g ∨ t = -((a : Int) * g) := by
    have := Int.natAbs_eq t
    rw [ha, Int.natCast_mul] at this
    exact this
  have ub : u = (b : Int) * g ∨ u = -((b : Int) * g) := by
    have := Int.natAbs_eq u
    rw [hb, Int.natCast_mul] at this
    exact this
  have bg : 0 < (b : Int) * g := Int.mul_pos (by omega) (by omega)
  have la : a ≤ t.natAbs := by rw [ha]; exact Nat.le_mul_of_pos_right a hg
  have lb : b ≤ u.natAbs := by rw [hb]; exact Nat.le_mul_of_pos_right b hg
  rw [e2]
  have fin : ∀ p : Int, (if u < 0 then -t else t) / (g : Int) = p → p.natAbs = a → p * u = t * b → ∃ p q, PyData.tuple [.int ((if u < 0 then -t else t) / (g : Int)), .int (b : Int)] = fr p q ∧ Fr p q ∧ p * u = t * q ∧ p.natAbs ≤ t.natAbs ∧ q.natAbs ≤ u.natAbs := fun p h1 h2 h3 =>
    ⟨p, b, by rw [h1]; rfl, ⟨by omega, by rw [h2, Int.natAbs_natCast]; exact hab⟩, h3, by omega, by rw [Int.natAbs_natCast]; exact lb⟩
  rcases ub with ub | ub
  · rw [if_neg (by omega)] at fin ⊢
    rcases ta with ta | ta
    · exact fin a (by rw [ta]; exact Int.mul_ediv_cancel _ gz) (Int.natAbs_natCast a) (by rw [ta, ub]; grind)
    · exact fin (-a) (by rw [ta, ← Int.neg_mul]; exact Int.mul_ediv_cancel _ gz) (by omega) (by rw [ta, ub]; grind)
  · rw [if_pos (by omega)] at fin ⊢
    rcases ta with ta | ta
    · exact fin (-a) (by rw [ta, ← Int.neg_mul]; exact Int.mul_ediv_cancel _ gz) (by omega) (by rw [ta, ub]; grind)
    · exact fin a (by rw [ta, Int.neg_neg]; exact Int.mul_ediv_cancel _ gz) (Int.natAbs_natCast a) (by rw [ta, ub]; grind)
theorem fr_unique {p q r t : Int} (h1 : Fr p q) (h2 : Fr r t) (h : p * t = r * q) : p = r ∧ q = t := by
  have hn : p.natAbs * t.natAbs = r.natAbs * q.natAbs := by rw [← Int.natAbs_mul, ← Int.natAbs_mul, h]
  have d1 : q.natAbs ∣ t.natAbs := Nat.Coprime.dvd_of_dvd_mul_left (Nat.Coprime.symm h1.cop) ⟨r.natAbs, by rw [hn, Nat.mul_comm]⟩
  have d2 : t.natAbs ∣ q.natAbs := Nat.Coprime.dvd_of_dvd_mul_left (Nat.Coprime.symm h2.cop) ⟨p.natAbs, by rw [← hn, Nat.mul_comm]⟩
  have e : q.natAbs = t.natAbs := Nat.dvd_antisymm d1 d2
  have p1 := h1.pos
  have p2 := h2.pos
  have e2 : q = t := by omega
  subst e2
  exact ⟨Int.eq_of_mul_eq_mul_right (by omega) h, rfl⟩
theorem leanI_eq {t u p q : Int} (hu : u ≠ 0) (hf : Fr p q) (h : t * q = p * u) : leanI t u = fr p q := by
  obtain ⟨a, b, e, f, g, _, _⟩ := leanI_spec t u hu
  obtain ⟨rfl, rfl⟩ := fr_unique f hf (by
    apply Int.eq_of_mul_eq_mul_right hu
    grind)
  exact e
/-! ### bounds -/
theorem bd_mul {a b : Int} {m n : Nat} (ha : a.natAbs ≤ m) (hb : b.natAbs ≤ n) : (a * b).natAbs ≤ m * n := by
  rw [Int.natAbs_mul]
  exact Nat.mul_le_mul ha hb
theorem bd_add {a b : Int} {m n : Nat} (ha : a.natAbs ≤ m) (hb : b.natAbs ≤ n) : (a + b).natAbs ≤ m + n := by omega
theorem bd_sub {a b : Int} {m n : Nat} (ha : a.natAbs ≤ m) (hb : b.natAbs ≤ n) : (a - b).natAbs ≤ m + n := by omega
theorem bd_log {a : Int} {m : Nat} (ha : a.natAbs ≤ m) (hm : m.log2 ≤ 1000) : a.natAbs.log2 ≤ 1000 := Nat.le_trans (log2_le_of_le ha) hm
abbrev B40 : Nat := 1099511627776
abbrev B90 : Nat := 1237940039285380274899124224
theorem mulOk_bd {a b : Int} (ha : a.natAbs ≤ B90) (hb : b.natAbs ≤ B90) : mulOk a b = true := mulOk_small (bd_log ha (by decide +kernel)) (bd_log hb (by decide +kernel)) (by omega)
theorem pMul_bd {a b : Int} (ha : a.natAbs ≤ B90) (hb : b.natAbs ≤ B90) : pMul (.int a) (.int b) = some (.int (a * b)) := pMul_ok (mulOk_bd ha hb)
theorem arOk_bd {a b : Int} (ha : a.natAbs ≤ B90) (hb : b.natAbs ≤ B90) (h0 : b ≠ 0) : arOk a b = true := by
  unfold arOk
  rw [Bool.and_eq_true, Bool.and_eq_true]
  have h1 := bd_log ha (by decide +kernel)
  have h2 := bd_log hb (by decide +kernel)
  exact ⟨⟨decide_eq_true h0, Nat.ble_eq_true_of_le (by show _ + 1 ≤ 2000; omega)⟩, Nat.ble_eq_true_of_le (by show _ + 1 ≤ 2000; omega)⟩
theorem lnP_bd {a b : Int} (ha : a.natAbs ≤ B90) (hb : b.natAbs ≤ B90) (h0 : b ≠ 0) (s : Sto) : F_leanP [.dat (.int a), .dat (.int b)] s = .ok (.dat (leanI a b)) s := lnP_ok (arOk_bd ha hb h0) s
structure Bd (p q : Int) : Prop where
  a : p.natAbs ≤ B40
  b : q.natAbs ≤ B40
theorem sm4_bd {a b c d : Int} (h1 : Bd a b) (h2 : Bd c d) : sm4 a b c d = true := by
  have e : 4 * B40 ≤ big := by decide +kernel
  have := h1.a; have := h1.b; have := h2.a; have := h2.b
  exact Nat.ble_eq_true_of_le (by omega)
section
variable {a b c d : Int}
theorem plus_bd (h1 : Bd a b) (h2 : Bd c d) (hb : b ≠ 0) (hd : d ≠ 0) (s : Sto) : P_plus [.dat (fr a b), .dat (fr c d)] s = .ok (.dat (leanI (a * d + c * b) (b * d))) s := by
  show (if sm4 a b c d && arOk (a * d + c * b) (b * d) then _ else _) = _
  rw [sm4_bd h1 h2, arOk_bd (Nat.le_trans (bd_add (bd_mul h1.a h2.b) (bd_mul h2.a h1.b)) (by decide)) (Nat.le_trans (bd_mul h1.b h2.b) (by decide)) (Int.mul_ne_zero hb hd)]
  rfl
theorem minus_bd (h1 : Bd a b) (h2 : Bd c d) (hb : b ≠ 0) (hd : d ≠ 0) (s : Sto) : P_minus [.dat (fr a b), .dat (fr c d)] s = .ok (.dat (leanI (a * d - c * b) (b * d))) s := by
  show (if sm4 a b c d && arOk (a * d - c * b) (b * d) then _ else _) = _
  rw [sm4_bd h1 h2, arOk_bd (Nat.le_trans (bd_sub (bd_mul h1.a h2.b) (bd_mul h2.a h1.b)) (by decide)) (Nat.le_trans (bd_mul h1.b h2.b) (by decide)) (Int.mul_ne_zero hb hd)]
  rfl
theorem times_bd (h1 : Bd a b) (h2 : Bd c d) (hb : b ≠ 0) (hd : d ≠ 0) (s : Sto) : P_times [.dat (fr a b), .dat (fr c d)] s = .ok (.dat (leanI (a * c) (b * d))) s := by
  show (if sm4 a b c d && arOk (a * c) (b * d) then _ else _) = _
  rw [sm4_bd h1 h2, arOk_bd (Nat.le_trans (bd_mul h1.a h2.a) (by decide)) (Nat.le_trans (bd_mul h1.b h2.b) (by decide)) (Int.mul_ne_zero hb hd)]
  rfl
theorem over_bd (h1 : Bd a b) (h2 : Bd c d) (hb : b ≠ 0) (hc : c ≠ 0) (s : Sto) : P_over [.dat (fr a b), .dat (fr c d)] s = .ok (.dat (leanI (a * d) (b * c))) s := by
  show (if sm4 a b c d && arOk (a * d) (b * c) then _ else _) = _
  rw [sm4_bd h1 h2, arOk_bd (Nat.le_trans (bd_mul h1.a h2.b) (by decide)) (Nat.le_trans (bd_mul h1.b h2.a) (by decide)) (Int.mul_ne_zero hb hc)]
  rfl
theorem less_bd (h1 : Bd a b) (h2 : Bd c d) (s : Sto) : P_less [.dat (fr a b), .dat (fr c d)] s = .ok (.dat (.bool (decide (a * d < c * b)))) s := by
  show (if sm4 a b c d then _ else _) = _
  rw [sm4_bd h1 h2]
  rfl
theorem isf_bd (h1 : Bd a b) (h : Fr a b) (s : Sto) : P_is_fraction [.dat (fr a b)] s = .ok (.dat (.bool true)) s := by
  show (if decide (b < 1) then _ else if Nat.blt a.natAbs.log2 2000 && Nat.blt b.natAbs.log2 2000 then _ else _) = _
  have := h.pos
  have h2 := bd_log h1.a (by decide +kernel)
  have h3 := bd_log h1.b (by decide +kernel)
  rw [decide_eq_false (by omega), show Nat.blt a.natAbs.log2 2000 = true from Nat.ble_eq_true_of_le (show _ + 1 ≤ 2000 by omega), show Nat.blt b.natAbs.log2 2000 = true from Nat.ble_eq_true_of_le (show _ + 1 ≤ 2000 by omega), h.cop]
  rfl
end
theorem pNe_int {a b : Int} (h : a = b) : pNe (.int a) (.int b) = some false := by
  subst h
  show some (!(a == a)) = _
  rw [beq_self_eq_true]
  rfl
theorem pNe_fr (p q : Int) : pNe (fr p q) (fr p q) = some false := by
  show (if SeqAt.shaped _ && SeqAt.shaped _ then some (PyData.eqv (fr p q) (fr p q)) else none).map not = _
  unfold fr
  rw [eqv_pair, decide_eq_true rfl, decide_eq_true rfl]
  rfl
end Ev
/-! RatFr: fractions as rationals. -/
namespace Ev
open PySem
def frD (x : Rat) : PyData := fr x.num (x.den : Int)
theorem frD_Fr (x : Rat) : Fr x.num (x.den : Int) := ⟨by have := x.den_pos; omega, by rw [Int.natAbs_natCast]; exact x.reduced⟩
theorem den0 (x : Rat) : (x.den : Int) ≠ 0 := by have := x.den_pos; omega
theorem leanI_rat {t u : Int} (hu : u ≠ 0) : leanI t u = frD (Rat.divInt t u) := by
  refine leanI_eq hu (frD_Fr _) ?_
  have h : Rat.divInt (Rat.divInt t u).num ((Rat.divInt t u).den : Int) = Rat.divInt t u := Rat.num_divInt_den _
  rw [Rat.divInt_eq_divInt_iff (den0 _) hu] at h
  omega
theorem add_div (x y : Rat) : Rat.divInt (x.num * (y.den : Int) + y.num * (x.den : Int)) ((x.den : Int) * (y.den : Int)) = x + y := by
  rw [← Rat.divInt_add_divInt _ _ (den0 x) (den0 y), Rat.num_divInt_den, Rat.num_divInt_den]
theorem sub_div (x y : Rat) : Rat.divInt (x.num * (y.den : Int) - y.num * (x.den : Int)) ((x.den : Int) * (y.den : Int)) = x - y := by
  rw [← Rat.divInt_sub_divInt _ _ (den0 x) (den0 y), Rat.num_divInt_den, Rat.num_divInt_den]
theorem mul_div (x y : Rat) : Rat.divInt (x.num * y.num) ((x.den : Int) * (y.den : Int)) = x * y := by
  rw [← Rat.divInt_mul_divInt, Rat.num_divInt_den, Rat.num_divInt_den]
theorem div_div (x y : Rat) : Rat.divInt (x.num * (y.den : Int)) ((x.den : Int) * y.num) = x / y := by
  rw [← Rat.divInt_mul_divInt, Rat.num_divInt_den, Rat.div_def, ← Rat.inv_divInt, Rat.num_divInt_den]
theorem lt_num (x y : Rat) : decide (x.num * (y.den : Int) < y.num * (x.den : Int)) = decide (x < y) := by
  rw [decide_eq_decide, Rat.lt_iff]
theorem le_num (x y : Rat) : decide (x.num * (y.den : Int) ≤ y.num * (x.den : Int)) = decide (x ≤ y) := by
  rw [decide_eq_decide, Rat.le_iff]
/-! ### sizes -/
structure Sz (n : Nat) (x : Rat) : Prop where
  a : x.num.natAbs < 2 ^ n
  b : x.den < 2 ^ n
theorem Sz.mono {m n : Nat} {x : Rat} (h : Sz m x) (l : m ≤ n) : Sz n x := ⟨Nat.lt_of_lt_of_le h.a (Nat.pow_le_pow_right (by omega) l), Nat.lt_of_lt_of_le h.b (Nat.pow_le_pow_right (by omega) l)⟩
theorem pow_mul {a b m n : Nat} (ha : a < 2 ^ m) (hb : b < 2 ^ n) : a * b < 2 ^ (m + n) := by
  rw [Nat.pow_add]
  exact Nat.mul_lt_mul'' ha hb
theorem pow_add {a b n : Nat} (ha : a < 2 ^ n) (hb : b < 2 ^ n) : a + b < 2 ^ (n + 1) := by
  rw [Nat.pow_succ]
  omega
/-- the numbers of t/u are no larger than t and u -/
theorem divInt_sz {t u : Int} {n : Nat} (hu : u ≠ 0) (h1 : t.natAbs < 2 ^ n) (h2 : u.natAbs < 2 ^ n) : Sz n (Rat.divInt t u) := by
  obtain ⟨p, q, e, f, g, hp, hq⟩ := leanI_spec t u hu
  rw [leanI_rat hu] at e
  unfold frD fr at e
  injection e with e
  injection e with e1 e2
  injection e1 with e1
  injection e2 with e2 _
  injection e2 with e2
  have e3 : (Rat.divInt t u).den = q.natAbs := by omega
  exact ⟨by rw [e1]; omega, by rw [e3]; omega⟩
section
variable {m n : Nat} {x y : Rat}
theorem num_mul (h1 : Sz m x) (h2 : Sz n y) : (x.num * (y.den : Int)).natAbs < 2 ^ (m + n) := by
  rw [Int.natAbs_mul, Int.natAbs_natCast]
  exact pow_mul h1.a h2.b
theorem den_mul (h1 : Sz m x) (h2 : Sz n y) : ((x.den : Int) * (y.den : Int)).natAbs < 2 ^ (m + n) := by
  rw [Int.natAbs_mul, Int.natAbs_natCast, Int.natAbs_natCast]
  exact pow_mul h1.b h2.b
theorem Sz.add (h1 : Sz m x) (h2 : Sz n y) : Sz (m + n + 1) (x + y) := by
  rw [← add_div]
  refine divInt_sz (Int.mul_ne_zero (den0 x) (den0 y)) ?_ (Nat.lt_of_lt_of_le (den_mul h1 h2) (Nat.pow_le_pow_right (by omega) (by omega)))
  refine Nat.lt_of_le_of_lt (Int.natAbs_add_le _ _) (pow_add (num_mul h1 h2) ?_)
  rw [Nat.add_comm m n]
  exact num_mul h2 h1
theorem Sz.sub (h1 : Sz m x) (h2 : Sz n y) : Sz (m + n + 1) (x - y) := by
  rw [← sub_div]
  refine divInt_sz (Int.mul_ne_zero (den0 x) (den0 y)) ?_ (Nat.lt_of_lt_of_le (den_mul h1 h2) (Nat.pow_le_pow_right (by omega) (by omega)))
  refine Nat.lt_of_le_of_lt (Int.natAbs_sub_le _ _) (pow_add (num_mul h1 h2) ?_)
  rw [Nat.add_comm m n]
  exact num_mul h2 h1
theorem Sz.mul (h1 : Sz m x) (h2 : Sz n y) : Sz (m + n) (x * y) := by
  rw [← mul_div]
  refine divInt_sz (Int.mul_ne_zero (den0 x) (den0 y)) ?_ (den_mul h1 h2)
  rw [Int.natAbs_mul]
  exact pow_mul h1.a h2.a
theorem Sz.div (h1 : Sz m x) (h2 : Sz n y) (h0 : y ≠ 0) : Sz (m + n) (x / y) := by
  have hn : y.num ≠ 0 := fun z => h0 (Rat.num_eq_zero.mp z)
  rw [← div_div]
  refine divInt_sz (Int.mul_ne_zero (den0 x) hn) (num_mul h1 h2) ?_
  rw [Int.natAbs_mul, Int.natAbs_natCast]
  exact pow_mul h1.b h2.a
theorem sz_lt (h : Sz n x) (l : n ≤ 590) : x.num.natAbs < 2 ^ 590 ∧ x.den < 2 ^ 590 := ⟨(h.mono l).a, (h.mono l).b⟩
theorem sm4_sz (h1 : Sz m x) (h2 : Sz n y) (l1 : m ≤ 590) (l2 : n ≤ 590) : sm4 x.num (x.den : Int) y.num (y.den : Int) = true := by
  have e : 4 * 2 ^ 590 ≤ big := by decide +kernel
  obtain ⟨a1, a2⟩ := sz_lt h1 l1
  obtain ⟨a3, a4⟩ := sz_lt h2 l2
  refine Nat.ble_eq_true_of_le ?_
  rw [Int.natAbs_natCast, Int.natAbs_natCast]
  generalize 2 ^ 590 = B at *
  omega
theorem arOk_sz {t u : Int} {k : Nat} (h1 : t.natAbs < 2 ^ k) (h2 : u.natAbs < 2 ^ k) (h0 : u ≠ 0) (l : k < 2000) : arOk t u = true := by
  have key : ∀ {a : Int}, a.natAbs < 2 ^ k → a.natAbs.log2 < 2000 := fun {a} h => by
    rcases Nat.eq_zero_or_pos a.natAbs with e | e
    · rw [e, Nat.log2_zero]; omega
    · exact Nat.lt_trans ((Nat.log2_lt (by omega)).mpr h) l
  unfold arOk
  rw [Bool.and_eq_true, Bool.and_eq_true]
  exact ⟨⟨decide_eq_true h0, Nat.ble_eq_true_of_le (key h1)⟩, Nat.ble_eq_true_of_le (key h2)⟩
theorem plus_r (h1 : Sz m x) (h2 : Sz n y) (l1 : m ≤ 590) (l2 : n ≤ 590) (s : Sto) : P_plus [.dat (frD x), .dat (frD y)] s = .ok (.dat (frD (x + y))) s := by
  show (if sm4 x.num (x.den : Int) y.num (y.den : Int) && arOk (x.num * (y.den : Int) + y.num * (x.den : Int)) ((x.den : Int) * (y.den : Int)) then _ else _) = _
  have b1 : (x.num * (y.den : Int) + y.num * (x.den : Int)).natAbs < 2 ^ (m + n + 1) := Nat.lt_of_le_of_lt (Int.natAbs_add_le _ _) (pow_add (num_mul h1 h2) (by rw [Nat.add_comm m n]; exact num_mul h2 h1))
  rw [sm4_sz h1 h2 l1 l2, arOk_sz b1 (Nat.lt_of_lt_of_le (den_mul h1 h2) (Nat.pow_le_pow_right (by omega) (by omega))) (Int.mul_ne_zero (den0 x) (den0 y)) (by omega), leanI_rat (Int.mul_ne_zero (den0 x) (den0 y)), add_div]
  rfl
theorem minus_r (h1 : Sz m x) (h2 : Sz n y) (l1 : m ≤ 590) (l2 : n ≤ 590) (s : Sto) : P_minus [.dat (frD x), .dat (frD y)] s = .ok (.dat (frD (x - y))) s := by
  show (if sm4 x.num (x.den : Int) y.num (y.den : Int) && arOk (x.num * (y.den : Int) - y.num * (x.den : Int)) ((x.den : Int) * (y.den : Int)) then _ else _) = _
  have b1 : (x.num * (y.den : Int) - y.num * (x.den : Int)).natAbs < 2 ^ (m + n + 1) := Nat.lt_of_le_of_lt (Int.natAbs_sub_le _ _) (pow_add (num_mul h1 h2) (by rw [Nat.add_comm m n]; exact num_mul h2 h1))
  rw [sm4_sz h1 h2 l1 l2, arOk_sz b1 (Nat.lt_of_lt_of_le (den_mul h1 h2) (Nat.pow_le_pow_right (by omega) (by omega))) (Int.mul_ne_zero (den0 x) (den0 y)) (by omega), leanI_rat (Int.mul_ne_zero (den0 x) (den0 y)), sub_div]
  rfl
theorem times_r (h1 : Sz m x) (h2 : Sz n y) (l1 : m ≤ 590) (l2 : n ≤ 590) (s : Sto) : P_times [.dat (frD x), .dat (frD y)] s = .ok (.dat (frD (x * y))) s := by
  show (if sm4 x.num (x.den : Int) y.num (y.den : Int) && arOk (x.num * y.num) ((x.den : Int) * (y.den : Int)) then _ else _) = _
  have b1 : (x.num * y.num).natAbs < 2 ^ (m + n) := by rw [Int.natAbs_mul]; exact pow_mul h1.a h2.a
  rw [sm4_sz h1 h2 l1 l2, arOk_sz b1 (den_mul h1 h2) (Int.mul_ne_zero (den0 x) (den0 y)) (by omega), leanI_rat (Int.mul_ne_zero (den0 x) (den0 y)), mul_div]
  rfl
theorem over_r (h1 : Sz m x) (h2 : Sz n y) (l1 : m ≤ 590) (l2 : n ≤ 590) (h0 : y ≠ 0) (s : Sto) : P_over [.dat (frD x), .dat (frD y)] s = .ok (.dat (frD (x / y))) s := by
  have hn : y.num ≠ 0 := fun z => h0 (Rat.num_eq_zero.mp z)
  show (if sm4 x.num (x.den : Int) y.num (y.den : Int) && arOk (x.num * (y.den : Int)) ((x.den : Int) * y.num) then _ else _) = _
  have b1 : ((x.den : Int) * y.num).natAbs < 2 ^ (m + n) := by rw [Int.natAbs_mul, Int.natAbs_natCast]; exact pow_mul h1.b h2.a
  rw [sm4_sz h1 h2 l1 l2, arOk_sz (num_mul h1 h2) b1 (Int.mul_ne_zero (den0 x) hn) (by omega), leanI_rat (Int.mul_ne_zero (den0 x) hn), div_div]
  rfl
theorem less_r (h1 : Sz m x) (h2 : Sz n y) (l1 : m ≤ 590) (l2 : n ≤ 590) (s : Sto) : P_less [.dat (frD x), .dat (frD y)] s = .ok (.dat (.bool (decide (x < y)))) s := by
  show (if sm4 x.num (x.den : Int) y.num (y.den : Int) then Out.ok (Vl.dat (.bool (decide (x.num * (y.den : Int) < y.num * (x.den : Int))))) s else _) = _
  rw [sm4_sz h1 h2 l1 l2, lt_num]
  rfl
theorem no_more_r (h1 : Sz m x) (h2 : Sz n y) (l1 : m ≤ 590) (l2 : n ≤ 590) (s : Sto) : P_no_more [.dat (frD x), .dat (frD y)] s = .ok (.dat (.bool (decide (x ≤ y)))) s := by
  show (if sm4 x.num (x.den : Int) y.num (y.den : Int) then Out.ok (Vl.dat (.bool (decide (x.num * (y.den : Int) ≤ y.num * (x.den : Int))))) s else _) = _
  rw [sm4_sz h1 h2 l1 l2, le_num]
  rfl
theorem isf_r (h1 : Sz m x) (l1 : m ≤ 590) (s : Sto) : P_is_fraction [.dat (frD x)] s = .ok (.dat (.bool true)) s := by
  obtain ⟨a1, a2⟩ := sz_lt h1 l1
  have f := frD_Fr x
  have p := f.pos
  show (if decide ((x.den : Int) < 1) then _ else if Nat.blt x.num.natAbs.log2 2000 && Nat.blt (x.den : Int).natAbs.log2 2000 then _ else _) = _
  have k := arOk_sz (k := 590) a1 (u := (x.den : Int)) (by rw [Int.natAbs_natCast]; exact a2) (den0 x) (by omega)
  unfold arOk at k
  rw [Bool.and_eq_true, Bool.and_eq_true] at k
  rw [decide_eq_false (by omega), k.1.2, k.2, f.cop]
  rfl
end
theorem frD_inj {x y : Rat} (h : frD x = frD y) : x = y := by
  unfold frD fr at h
  injection h with h
  injection h with h1 h2
  injection h1 with h1
  injection h2 with h2 _
  injection h2 with h2
  exact Rat.ext h1 (by omega)
theorem pEq_r (x y : Rat) : pEq (frD x) (frD y) = some (decide (x = y)) := by
  show (if SeqAt.shaped _ && SeqAt.shaped _ then some (PyData.eqv (frD x) (frD y)) else none) = _
  unfold frD fr
  rw [eqv_pair, ← Bool.decide_and]
  show some _ = some _
  congr 1
  rw [decide_eq_decide]
  exact ⟨fun ⟨h1, h2⟩ => Rat.ext h1 (by omega), fun h => by subst h; exact ⟨rfl, rfl⟩⟩
end Ev
/-! ClaimsR: what the defs of claims compute over rationals. -/
namespace Ev
open PySem
def prD (a c d : Rat) : PyData := .tuple [frD a, .tuple [frD c, frD d]]
def ptD (c d : Rat) : PyData := .tuple [frD c, frD d]
section
variable {m n k : Nat} {x y z : Rat} {s : Sto}
theorem greater_r (h1 : Sz m x) (h2 : Sz n y) (l1 : m ≤ 590) (l2 : n ≤ 590) : F_greater [.dat (frD x), .dat (frD y)] s = .ok (.dat (frD (if x < y then y else x))) s := by
  refine fnS_dat0 rfl (sRet_ok ?_)
  have c : eCall P_less (aCons (eVar 0) (aCons (eVar 1) aNil)) [some (.dat (frD x)), some (.dat (frD y))] s = .ok (.dat (.bool (decide (x < y)))) s := eCall2_dat rfl rfl (less_r h1 h2 l1 l2 s)
  by_cases h : x < y
  · rw [decide_eq_true h] at c
    rw [if_pos h]
    exact eIf_t c rfl
  · rw [decide_eq_false h] at c
    rw [if_neg h]
    exact eIf_f c rfl
theorem lesser_r (h1 : Sz m x) (h2 : Sz n y) (l1 : m ≤ 590) (l2 : n ≤ 590) : F_lesser [.dat (frD x), .dat (frD y)] s = .ok (.dat (frD (if y < x then y else x))) s := by
  refine fnS_dat0 rfl (sRet_ok ?_)
  have c : eCall P_less (aCons (eVar 1) (aCons (eVar 0) aNil)) [some (.dat (frD x)), some (.dat (frD y))] s = .ok (.dat (.bool (decide (y < x)))) s := eCall2_dat rfl rfl (less_r h2 h1 l2 l1 s)
  by_cases h : y < x
  · rw [decide_eq_true h] at c
    rw [if_pos h]
    exact eIf_t c rfl
  · rw [decide_eq_false h] at c
    rw [if_neg h]
    exact eIf_f c rfl
theorem many_r (a b : PyData) : F_is_many [.dat (.tuple [a, b]), .dat (.int 2)] s = .ok (.dat (.bool true)) s := fnS_dat0 rfl rfl
theorem is_point_r (h1 : Sz m x) (h2 : Sz n y) (l1 : m ≤ 590) (l2 : n ≤ 590) : F_is_point [.dat (ptD x y)] s = .ok (.dat (.bool true)) s :=
  fnS_dat0 rfl (sRet_ok (eAnd_t (eCall2_dat rfl rfl (many_r _ _)) (eAnd_t (eCall1_dat (d := frD x) rfl (isf_r h1 l1 s)) (eCall1_dat (d := frD y) rfl (isf_r h2 l2 s)))))
/-- a walk over three: all of a test -/
theorem all3 {it : MI} {i : Nat} {e : ME} {env : Env} {x y z : PyData} {a b c : Bool} (h0 : it env s = .ok (.its [x, y, z]) s)
    (h1 : e ((env.set i none).set i (some (.dat x))) s = .ok (.dat (.bool a)) s) (h2 : e ((env.set i none).set i (some (.dat y))) s = .ok (.dat (.bool b)) s) (h3 : e ((env.set i none).set i (some (.dat z))) s = .ok (.dat (.bool c)) s) :
    eBlt bAll (aCons (eLc it (.nm i) [i] tYes e) aNil) env s = .ok (.dat (.bool (a && (b && (c && true))))) s := by
  have t1 : ∀ {d : PyData} {u : Bool}, e ((env.set i none).set i (some (.dat d))) s = .ok (.dat (.bool u)) s → turn (.nm i) [i] tYes (one e) env d s = .ok [.bool u] s := fun {d u} h => by
    show Out.bind (e ((env.set i none).set i (some (.dat d))) s) _ = _
    rw [h]
    rfl
  refine eBlt1_dat (d := .list [.bool a, .bool b, .bool c]) ?_ rfl
  unfold eLc
  rw [h0]
  simp only [Out.bind, lcRun, lcGo, t1 h1, t1 h2, t1 h3]
  rfl
theorem sif_skip {c : ME} {a r : MS} {env : Env} (h : c env s = .ok (.dat (.bool false)) s) : sCons (sIf c a sNil) r env s = r env s := sCons_nx (sIf_f h)
/-- a problem: an amount, two claims -/
structure Pb (x y z : Rat) : Prop where
  a : 0 ≤ x
  b : 0 ≤ y
  c : 0 ≤ z
  d : x ≤ y + z
theorem z0 : frD 0 = .tuple [.int 0, .int 1] := rfl
theorem szc {q : Rat} (h : q.num.natAbs < 2 ^ 4 := by decide) (h2 : q.den < 2 ^ 4 := by decide) : Sz 4 q := ⟨h, h2⟩
theorem is_problem_r (p : Pb x y z) (h1 : Sz m x) (h2 : Sz n y) (h3 : Sz k z) (l1 : m ≤ 290) (l2 : n ≤ 290) (l3 : k ≤ 290) : F_is_problem [.dat (prD x y z)] s = .ok (.dat (.bool true)) s := by
  have n0 : ∀ {w : Rat} {j : Nat}, Sz j w → j ≤ 290 → 0 ≤ w → P_no_more [.dat (frD 0), .dat (frD w)] s = .ok (.dat (.bool true)) s := fun h l q => (no_more_r (m := 4) szc h (by omega) (by omega) s).trans (by rw [decide_eq_true q])
  refine fnS_dat0 rfl ?_
  refine (sCons_nx ((sIf_f (eOr_f (eNot_dat (eCall2_dat rfl rfl (many_r _ _))) (eOr_f (eNot_dat (eCall1_dat (d := frD x) rfl (isf_r h1 (by omega) s))) (eNot_dat (eCall1_dat (d := ptD y z) rfl (is_point_r h2 h3 (by omega) (by omega))))))).trans rfl)).trans ?_
  have al := all3 (s := s) (i := 1) (it := iSeq (eTup (aCons (e2 pIx (eVar 0) (eCst (.int 0))) (aStar (e2 pIx (eVar 0) (eCst (.int 1))) aNil)))) (e := eCall P_no_more (aCons (eCst G_NOUGHT) (aCons (eVar 1) aNil))) (env := [some (.dat (prD x y z)), none]) (x := frD x) (y := frD y) (z := frD z) rfl
    (eCall2_dat (d := frD 0) rfl rfl (n0 h1 l1 p.a)) (eCall2_dat (d := frD 0) rfl rfl (n0 h2 l2 p.b)) (eCall2_dat (d := frD 0) rfl rfl (n0 h3 l3 p.c))
  refine (sCons_nx ((sIf_f (eNot_dat al)).trans rfl)).trans (sRet_ok ?_)
  have e := eCall2_dat (f := P_no_more) (a := e2 pIx (eVar 0) (eCst (.int 0))) (b := eCall P_plus (aCons (e2 pIx (e2 pIx (eVar 0) (eCst (.int 1))) (eCst (.int 0))) (aCons (e2 pIx (e2 pIx (eVar 0) (eCst (.int 1))) (eCst (.int 1))) aNil))) (env := [some (.dat (prD x y z)), none]) (s := s) (d := frD x) (e := frD (y + z)) rfl
    (eCall2_dat (d := frD y) (e := frD z) rfl rfl (plus_r h2 h3 (by omega) (by omega) s)) (no_more_r h1 (h2.add h3) (by omega) (by omega) s)
  rw [decide_eq_true p.d] at e
  exact e
theorem check_problem_r (p : Pb x y z) (h1 : Sz m x) (h2 : Sz n y) (h3 : Sz k z) (l1 : m ≤ 290) (l2 : n ≤ 290) (l3 : k ≤ 290) : F_check_problem [.dat (prD x y z)] s = .ok (.dat .none) s := by
  have e := fnS_nx (np := 1) (nn := 1) (m := B_check_problem) (vs := [.dat (prD x y z)]) (s := s) (s' := s) (e := [some (.dat (prD x y z))]) rfl ((sIf_f (eNot_dat (eCall1_dat (d := prD x y z) rfl (is_problem_r p h1 h2 h3 l1 l2 l3)))).trans rfl)
  rw [List.take_length] at e
  exact e
theorem sExp_nx {a : ME} {env : Env} {s s1 : Sto} {v : Vl} (h : a env s = .ok v s1) : sExp a env s = .ok (.nx env) s1 := by
  unfold sExp
  rw [h]
  rfl
/-- the row that checks the problem -/
theorem chk {r : MS} {e : Env} (p : Pb x y z) (h1 : Sz m x) (h2 : Sz n y) (h3 : Sz k z) (l1 : m ≤ 290) (l2 : n ≤ 290) (l3 : k ≤ 290) (he : e[0]? = some (some (.dat (prD x y z)))) : sCons (sExp (eCall F_check_problem (aCons (eVar 0) aNil))) r e s = r e s := by
  have hv : eVar 0 e s = .ok (.dat (prD x y z)) s := by
    unfold eVar
    rw [he]
  exact sCons_nx (sExp_nx (eCall1_dat hv (check_problem_r p h1 h2 h3 l1 l2 l3)))
theorem lc2 {it : MI} {i : Nat} {e : ME} {env : Env} {x y a b : PyData} (h0 : it env s = .ok (.its [x, y]) s)
    (h1 : e ((env.set i none).set i (some (.dat x))) s = .ok (.dat a) s) (h2 : e ((env.set i none).set i (some (.dat y))) s = .ok (.dat b) s) :
    eLc it (.nm i) [i] tYes e env s = .ok (.dat (.list [a, b])) s := by
  have t1 : ∀ {d u : PyData}, e ((env.set i none).set i (some (.dat d))) s = .ok (.dat u) s → turn (.nm i) [i] tYes (one e) env d s = .ok [u] s := fun {d u} h => by
    show Out.bind (e ((env.set i none).set i (some (.dat d))) s) _ = _
    rw [h]
    rfl
  unfold eLc
  rw [h0]
  simp only [Out.bind, lcRun, lcGo, t1 h1, t1 h2]
  rfl
theorem tup2 {a b : ME} {env : Env} {d e : PyData} (ha : a env s = .ok (.dat d) s) (hb : b env s = .ok (.dat e) s) : eTup (aCons a (aCons b aNil)) env s = .ok (.dat (.tuple [d, e])) s := by
  have h1 : aCons b aNil env s = .ok [.dat e] s := by
    unfold aCons
    rw [hb]
    rfl
  have h2 : aCons a (aCons b aNil) env s = .ok [.dat d, .dat e] s := by
    rw [aCons.eq_1 a, ha]
    simp only [Out.bind, h1]
  unfold eTup
  rw [h2]
  rfl
abbrev minR (x y : Rat) : Rat := if y < x then y else x
abbrev maxR (x y : Rat) : Rat := if x < y then y else x
theorem cut_problem_r (p : Pb x y z) (h1 : Sz m x) (h2 : Sz n y) (h3 : Sz k z) (l1 : m ≤ 290) (l2 : n ≤ 290) (l3 : k ≤ 290) : F_cut_problem [.dat (prD x y z)] s = .ok (.dat (prD x (minR y x) (minR z x))) s := by
  refine fnS_dat0 rfl ((chk p h1 h2 h3 l1 l2 l3 rfl).trans (sRet_ok (tup2 (d := frD x) rfl (eBlt1_dat (lc2 (i := 1) (x := frD y) (y := frD z) rfl ?_ ?_) rfl))))
  · exact eCall2_dat (d := frD y) (e := frD x) rfl rfl (lesser_r h2 h1 (by omega) (by omega))
  · exact eCall2_dat (d := frD z) (e := frD x) rfl rfl (lesser_r h3 h1 (by omega) (by omega))
theorem turned_problem_r (p : Pb x y z) (h1 : Sz m x) (h2 : Sz n y) (h3 : Sz k z) (l1 : m ≤ 190) (l2 : n ≤ 190) (l3 : k ≤ 190) : F_turned_problem [.dat (prD x y z)] s = .ok (.dat (prD (y + z - x) y z)) s := by
  refine fnS_dat0 rfl ((chk p h1 h2 h3 (by omega) (by omega) (by omega) rfl).trans (sRet_ok (tup2 ?_ (e := ptD y z) rfl)))
  exact eCall2_dat (d := frD (y + z)) (e := frD x) (eCall2_dat (d := frD y) (e := frD z) rfl rfl (plus_r h2 h3 (by omega) (by omega) s)) rfl (minus_r (h2.add h3) h1 (by omega) (by omega) s)
theorem rights_of_r (p : Pb x y z) (h1 : Sz m x) (h2 : Sz n y) (h3 : Sz k z) (l1 : m ≤ 290) (l2 : n ≤ 290) (l3 : k ≤ 290) : F_rights_of [.dat (prD x y z)] s = .ok (.dat (ptD (maxR 0 (x - z)) (maxR 0 (x - y)))) s := by
  refine fnS_dat0 rfl ((chk p h1 h2 h3 l1 l2 l3 rfl).trans (sRet_ok (eBlt1_dat (lc2 (i := 1) (x := .int 0) (y := .int 1) rfl ?_ ?_) rfl)))
  · exact eCall2_dat (d := frD 0) (e := frD (x - z)) rfl (eCall2_dat (d := frD x) (e := frD z) rfl rfl (minus_r h1 h3 (by omega) (by omega) s)) (greater_r (m := 4) szc (h1.sub h3) (by omega) (by omega))
  · exact eCall2_dat (d := frD 0) (e := frD (x - y)) rfl (eCall2_dat (d := frD x) (e := frD y) rfl rfl (minus_r h1 h2 (by omega) (by omega) s)) (greater_r (m := 4) szc (h1.sub h2) (by omega) (by omega))
def BA (G : FnS) : MS := sCons (sUnp (.tup [.nm 2, .nm 3]) (eVar 1)) (sCons (sIf (eCmp pIn (eVar 0) (eTup (aCons (eCst (.str "losses")) (aCons (eCst (.str "back")) (aNil))))) (sCons (sSet 4 (eCall G (aCons (eIf (eCmp pEq (eVar 0) (eCst (.str "losses"))) (eCst (.str "alike")) (eCst (.str "steps"))) (aCons (eCall F_turned_problem (aCons (eVar 1) (aNil))) (aNil))))) (sRet (eTup (aCons (eCall P_minus (aCons (e2 pIx (eVar 3) (eCst (.int (0)))) (aCons (e2 pIx (eVar 4) (eCst (.int (0)))) (aNil)))) (aCons (eCall P_minus (aCons (e2 pIx (eVar 3) (eCst (.int (1)))) (aCons (e2 pIx (eVar 4) (eCst (.int (1)))) (aNil)))) (aNil)))))) (sNil)) (sCons (sIf (eCmp pIn (eVar 0) (eTup (aCons (eCst (.str "first")) (aCons (eCst (.str "second")) (aNil))))) (sCons (sSet 5 (eIf (eCmp pEq (eVar 0) (eCst (.str "first"))) (eCst (.int (0))) (eCst (.int (1))))) (sCons (sSet 6 (eCall F_lesser (aCons (e2 pIx (eVar 3) (eVar 5)) (aCons (eVar 2) (aNil))))) (sRet (eCall F_in_turn (aCons (eVar 5) (aCons (eVar 6) (aCons (eCall P_minus (aCons (eVar 2) (aCons (eVar 6) (aNil)))) (aNil)))))))) (sNil)) (sCons (sIf (eCmp pEq (eVar 0) (eCst (.str "parts"))) (sCons (sSet 7 (eCall P_plus (aCons (e2 pIx (eVar 3) (eCst (.int (0)))) (aCons (e2 pIx (eVar 3) (eCst (.int (1)))) (aNil))))) (sCons (sSet 6 (eIf (eCmp pNe (eVar 7) (eCst G_NOUGHT)) (eCall P_over (aCons (eCall P_times (aCons (eVar 2) (aCons (e2 pIx (eVar 3) (eCst (.int (0)))) (aNil)))) (aCons (eVar 7) (aNil)))) (eCst G_NOUGHT))) (sRet (eTup (aCons (eVar 6) (aCons (eCall P_minus (aCons (eVar 2) (aCons (eVar 6) (aNil)))) (aNil))))))) (sNil)) (sCons (sIf (eCmp pEq (eVar 0) (eCst (.str "halves"))) (sCons (sSet 8 (eCall F_rights_of (aCons (eVar 1) (aNil)))) (sCons (sSet 9 (eCall P_times (aCons (eCall P_minus (aCons (eVar 2) (aCons (eCall P_plus (aCons (e2 pIx (eVar 8) (eCst (.int (0)))) (aCons (e2 pIx (eVar 8) (eCst (.int (1)))) (aNil)))) (aNil)))) (aCons (eTup (aCons (eCst (.int (1))) (aCons (eCst (.int (2))) (aNil)))) (aNil))))) (sRet (eTup (aCons (eCall P_plus (aCons (e2 pIx (eVar 8) (eCst (.int (0)))) (aCons (eVar 9) (aNil)))) (aCons (eCall P_plus (aCons (e2 pIx (eVar 8) (eCst (.int (1)))) (aCons (eVar 9) (aNil)))) (aNil))))))) (sNil)) (sCons (sSet 10 (eIf (eCall P_less (aCons (e2 pIx (eVar 3) (eCst (.int (1)))) (aCons (e2 pIx (eVar 3) (eCst (.int (0)))) (aNil)))) (eCst (.int (1))) (eCst (.int (0))))) (sCons (sPar [9, 6] (aCons (eCall P_times (aCons (eVar 2) (aCons (eTup (aCons (eCst (.int (1))) (aCons (eCst (.int (2))) (aNil)))) (aNil)))) (aCons (e2 pIx (eVar 3) (eVar 10)) (aNil)))) (sCons (sIf (eOr (eCmp pEq (eVar 0) (eCst (.str "alike"))) (eCmp pEq (e2 pIx (eVar 3) (eCst (.int (0)))) (e2 pIx (eVar 3) (eCst (.int (1)))))) (sCons (sSet 11 (eCall F_lesser (aCons (eVar 9) (aCons (eVar 6) (aNil))))) (sRet (eCall F_in_turn (aCons (eVar 10) (aCons (eVar 11) (aCons (eCall P_minus (aCons (eVar 2) (aCons (eVar 11) (aNil)))) (aNil))))))) (sNil)) (sCons (sSet 11 (eCall F_lesser (aCons (eVar 9) (aCons (eCall F_power_below (aCons (eVar 6) (aNil))) (aNil))))) (sCons (sSet 12 (eCall F_lesser (aCons (eCall P_minus (aCons (eVar 2) (aCons (eVar 11) (aNil)))) (aCons (e2 pIx (eVar 3) (e2 pSub (eCst (.int (1))) (eVar 10))) (aNil))))) (sRet (eCall F_in_turn (aCons (eVar 10) (aCons (eCall P_minus (aCons (eVar 2) (aCons (eVar 12) (aNil)))) (aCons (eVar 12) (aNil)))))))))))))))
abbrev E13 (w : Str) (x y z : Rat) (v4 v5 v6 v7 v8 v9 v10 v11 v12 : Option Vl) : Env := [some (.dat (.str w)), some (.dat (prD x y z)), some (.dat (frD x)), some (.dat (ptD y z)), v4, v5, v6, v7, v8, v9, v10, v11, v12]
theorem in_turn0 (a b : PyData) : F_in_turn [.dat (.int 0), .dat a, .dat b] s = .ok (.dat (.tuple [a, b])) s := fnS_dat0 rfl (sRet_ok (eIf_t (c := eCmp pEq (eVar 0) (eCst (.int 0))) rfl (tup2 rfl rfl)))
theorem in_turn1 (a b : PyData) : F_in_turn [.dat (.int 1), .dat a, .dat b] s = .ok (.dat (.tuple [b, a])) s := fnS_dat0 rfl (sRet_ok (eIf_f (c := eCmp pEq (eVar 0) (eCst (.int 0))) rfl (tup2 rfl rfl)))
theorem eCall3_dat {f : FnS} {a b c : ME} {env : Env} {s1 s2 s3 : Sto} {d e g : PyData} {o : Out Vl} (ha : a env s = .ok (.dat d) s1) (hb : b env s1 = .ok (.dat e) s2) (hc : c env s2 = .ok (.dat g) s3) (hf : f [.dat d, .dat e, .dat g] s3 = o) : eCall f (aCons a (aCons b (aCons c aNil))) env s = o := by
  have h1 : aCons c aNil env s2 = .ok [.dat g] s3 := by
    unfold aCons
    rw [hc]
    rfl
  have h2 : aCons b (aCons c aNil) env s1 = .ok [.dat e, .dat g] s3 := by
    rw [aCons.eq_1 b, hb]
    simp only [Out.bind, h1]
  have h3 : aCons a (aCons b (aCons c aNil)) env s = .ok [.dat d, .dat e, .dat g] s3 := by
    rw [aCons.eq_1 a, ha]
    simp only [Out.bind, h2]
  unfold eCall
  rw [h3]
  exact hf
variable {G : FnS}
theorem ba_first (h1 : Sz m x) (h2 : Sz n y) (l1 : m ≤ 290) (l2 : n ≤ 290) : BA G [some (.dat (.str "first")), some (.dat (prD x y z)), none, none, none, none, none, none, none, none, none, none, none] s = .ok (.rt (.dat (ptD (minR y x) (x - minR y x)))) s := by
  unfold BA
  rw [sCons_nx (e' := E13 "first" x y z none none none none none none none none none) (s' := s) rfl]
  rw [sif_skip (by kernel_rfl)]
  refine sCons_rt ((sIf_t (s1 := s) (by kernel_rfl)).trans ?_)
  rw [sCons_nx (e' := E13 "first" x y z none (some (.dat (.int 0))) none none none none none none none) (s' := s) (by kernel_rfl)]
  rw [sCons_nx (sSet_ok (eCall2_dat (d := frD y) (e := frD x) rfl rfl (lesser_r h2 h1 (by omega) (by omega))))]
  have hm : Sz (max m n) (minR y x) := by
    unfold minR
    split
    · exact h1.mono (by omega)
    · exact h2.mono (by omega)
  exact sRet_ok (eCall3_dat (d := .int 0) (e := frD (minR y x)) (g := frD (x - minR y x)) rfl rfl (eCall2_dat (d := frD x) (e := frD (minR y x)) rfl rfl (minus_r h1 hm (by omega) (by omega) s)) (in_turn0 _ _))
theorem ba_second (h1 : Sz m x) (h3 : Sz k z) (l1 : m ≤ 290) (l3 : k ≤ 290) : BA G [some (.dat (.str "second")), some (.dat (prD x y z)), none, none, none, none, none, none, none, none, none, none, none] s = .ok (.rt (.dat (ptD (x - minR z x) (minR z x)))) s := by
  unfold BA
  rw [sCons_nx (e' := E13 "second" x y z none none none none none none none none none) (s' := s) rfl]
  rw [sif_skip (by kernel_rfl)]
  refine sCons_rt ((sIf_t (s1 := s) (by kernel_rfl)).trans ?_)
  rw [sCons_nx (e' := E13 "second" x y z none (some (.dat (.int 1))) none none none none none none none) (s' := s) (by kernel_rfl)]
  rw [sCons_nx (sSet_ok (eCall2_dat (d := frD z) (e := frD x) rfl rfl (lesser_r h3 h1 (by omega) (by omega))))]
  have hm : Sz (max m k) (minR z x) := by
    unfold minR
    split
    · exact h1.mono (by omega)
    · exact h3.mono (by omega)
  exact sRet_ok (eCall3_dat (d := .int 1) (e := frD (minR z x)) (g := frD (x - minR z x)) rfl rfl (eCall2_dat (d := frD x) (e := frD (minR z x)) rfl rfl (minus_r h1 hm (by omega) (by omega) s)) (in_turn1 _ _))
theorem pNe_r (x y : Rat) : pNe (frD x) (frD y) = some (decide (x ≠ y)) := by
  unfold pNe
  rw [pEq_r]
  show some (!decide (x = y)) = _
  by_cases h : x = y <;> simp [h]
abbrev partR (x y z : Rat) : Rat := if y + z ≠ 0 then x * y / (y + z) else 0
theorem ba_parts (h1 : Sz m x) (h2 : Sz n y) (h3 : Sz k z) (l1 : m ≤ 90) (l2 : n ≤ 90) (l3 : k ≤ 90) : BA G [some (.dat (.str "parts")), some (.dat (prD x y z)), none, none, none, none, none, none, none, none, none, none, none] s = .ok (.rt (.dat (ptD (partR x y z) (x - partR x y z)))) s := by
  unfold BA
  rw [sCons_nx (e' := E13 "parts" x y z none none none none none none none none none) (s' := s) rfl]
  rw [sif_skip (by kernel_rfl), sif_skip (by kernel_rfl)]
  refine sCons_rt ((sIf_t (s1 := s) (by kernel_rfl)).trans ?_)
  rw [sCons_nx (sSet_ok (eCall2_dat (d := frD y) (e := frD z) rfl rfl (plus_r h2 h3 (by omega) (by omega) s)))]
  show sCons _ _ (E13 "parts" x y z none none none (some (.dat (frD (y + z)))) none none none none none) s = _
  have c : eCmp pNe (eVar 7) (eCst G_NOUGHT) (E13 "parts" x y z none none none (some (.dat (frD (y + z)))) none none none none none) s = .ok (.dat (.bool (decide (y + z ≠ 0)))) s := eCmp_dat (d := frD (y + z)) (e := frD 0) rfl rfl (pNe_r _ _)
  have hs : Sz 400 (partR x y z) := by
    unfold partR
    split
    · rename_i hne
      exact ((h1.mul h2).div (h2.add h3) hne).mono (by omega)
    · exact (szc (q := 0)).mono (by omega)
  have ev : sSet 6 (eIf (eCmp pNe (eVar 7) (eCst G_NOUGHT)) (eCall P_over (aCons (eCall P_times (aCons (eVar 2) (aCons (e2 pIx (eVar 3) (eCst (.int 0))) aNil))) (aCons (eVar 7) aNil))) (eCst G_NOUGHT)) (E13 "parts" x y z none none none (some (.dat (frD (y + z)))) none none none none none) s = .ok (.nx (E13 "parts" x y z none none (some (.dat (frD (partR x y z)))) (some (.dat (frD (y + z)))) none none none none none)) s := by
    by_cases hne : y + z ≠ 0
    · rw [decide_eq_true hne] at c
      have hp : partR x y z = x * y / (y + z) := if_pos hne
      rw [hp]
      exact sSet_ok (eIf_t c (eCall2_dat (d := frD (x * y)) (e := frD (y + z)) (eCall2_dat (d := frD x) (e := frD y) rfl rfl (times_r h1 h2 (by omega) (by omega) s)) rfl (over_r (h1.mul h2) (h2.add h3) (by omega) (by omega) hne s)))
    · rw [decide_eq_false hne] at c
      have hp : partR x y z = 0 := if_neg hne
      rw [hp]
      exact sSet_ok (eIf_f c rfl)
  rw [sCons_nx ev]
  exact sRet_ok (tup2 (d := frD (partR x y z)) rfl (eCall2_dat (d := frD x) (e := frD (partR x y z)) rfl rfl (minus_r h1 hs (by omega) (by omega) s)))
def hf : Rat := ⟨1, 2, by decide, by decide⟩
theorem hf_eq : hf = 1 / 2 := by decide +kernel
theorem hf_sz : Sz 4 hf := ⟨by decide, by decide⟩
theorem max_sz {a b : Rat} (h1 : Sz m a) (h2 : Sz n b) : Sz (max m n) (maxR a b) := by
  unfold maxR
  split
  · exact h2.mono (by omega)
  · exact h1.mono (by omega)
theorem min_sz {a b : Rat} (h1 : Sz m a) (h2 : Sz n b) : Sz (max m n) (minR a b) := by
  unfold minR
  split
  · exact h2.mono (by omega)
  · exact h1.mono (by omega)
abbrev r0 (x y z : Rat) : Rat := maxR 0 (x - z)
abbrev r1 (x y z : Rat) : Rat := maxR 0 (x - y)
abbrev hvR (x y z : Rat) : Rat := (x - (r0 x y z + r1 x y z)) * hf
theorem ba_halves (p : Pb x y z) (h1 : Sz m x) (h2 : Sz n y) (h3 : Sz k z) (l1 : m ≤ 50) (l2 : n ≤ 50) (l3 : k ≤ 50) : BA G [some (.dat (.str "halves")), some (.dat (prD x y z)), none, none, none, none, none, none, none, none, none, none, none] s = .ok (.rt (.dat (ptD (r0 x y z + hvR x y z) (r1 x y z + hvR x y z)))) s := by
  unfold BA
  rw [sCons_nx (e' := E13 "halves" x y z none none none none none none none none none) (s' := s) rfl]
  rw [sif_skip (by kernel_rfl), sif_skip (by kernel_rfl), sif_skip (by kernel_rfl)]
  refine sCons_rt ((sIf_t (s1 := s) (by kernel_rfl)).trans ?_)
  rw [sCons_nx (sSet_ok (eCall1_dat (d := prD x y z) rfl (rights_of_r p h1 h2 h3 (by omega) (by omega) (by omega))))]
  have q0 : Sz 110 (r0 x y z) := (max_sz (szc (q := 0)) (h1.sub h3)).mono (by omega)
  have q1 : Sz 110 (r1 x y z) := (max_sz (szc (q := 0)) (h1.sub h2)).mono (by omega)
  have q2 : Sz 300 (hvR x y z) := ((h1.sub (q0.add q1)).mul hf_sz).mono (by omega)
  rw [sCons_nx (sSet_ok (eCall2_dat (d := frD (x - (r0 x y z + r1 x y z))) (e := frD hf) (eCall2_dat (d := frD x) (e := frD (r0 x y z + r1 x y z)) rfl (eCall2_dat (d := frD (r0 x y z)) (e := frD (r1 x y z)) rfl rfl (plus_r q0 q1 (by omega) (by omega) s)) (minus_r h1 (q0.add q1) (by omega) (by omega) s)) rfl (times_r (h1.sub (q0.add q1)) hf_sz (by omega) (by omega) s)))]
  exact sRet_ok (tup2 (eCall2_dat (d := frD (r0 x y z)) (e := frD (hvR x y z)) rfl rfl (plus_r q0 q2 (by omega) (by omega) s)) (eCall2_dat (d := frD (r1 x y z)) (e := frD (hvR x y z)) rfl rfl (plus_r q1 q2 (by omega) (by omega) s)))
def BT : MS := sCons (sIf (eOr (eCmp pEq (eVar 0) (eCst (.str "alike"))) (eCmp pEq (e2 pIx (eVar 3) (eCst (.int (0)))) (e2 pIx (eVar 3) (eCst (.int (1)))))) (sCons (sSet 11 (eCall F_lesser (aCons (eVar 9) (aCons (eVar 6) (aNil))))) (sRet (eCall F_in_turn (aCons (eVar 10) (aCons (eVar 11) (aCons (eCall P_minus (aCons (eVar 2) (aCons (eVar 11) (aNil)))) (aNil))))))) (sNil)) (sCons (sSet 11 (eCall F_lesser (aCons (eVar 9) (aCons (eCall F_power_below (aCons (eVar 6) (aNil))) (aNil))))) (sCons (sSet 12 (eCall F_lesser (aCons (eCall P_minus (aCons (eVar 2) (aCons (eVar 11) (aNil)))) (aCons (e2 pIx (eVar 3) (e2 pSub (eCst (.int (1))) (eVar 10))) (aNil))))) (sRet (eCall F_in_turn (aCons (eVar 10) (aCons (eCall P_minus (aCons (eVar 2) (aCons (eVar 12) (aNil)))) (aCons (eVar 12) (aNil))))))))
theorem ba_pre {w : Str} (h1 : Sz m x) (h2 : Sz n y) (h3 : Sz k z) (l1 : m ≤ 290) (l2 : n ≤ 290) (l3 : k ≤ 290)
    (w1 : (eCmp pIn (eVar 0) (eTup (aCons (eCst (.str "losses")) (aCons (eCst (.str "back")) (aNil))))) (E13 w x y z none none none none none none none none none) s = .ok (.dat (.bool false)) s)
    (w2 : (eCmp pIn (eVar 0) (eTup (aCons (eCst (.str "first")) (aCons (eCst (.str "second")) (aNil))))) (E13 w x y z none none none none none none none none none) s = .ok (.dat (.bool false)) s)
    (w3 : (eCmp pEq (eVar 0) (eCst (.str "parts"))) (E13 w x y z none none none none none none none none none) s = .ok (.dat (.bool false)) s)
    (w4 : (eCmp pEq (eVar 0) (eCst (.str "halves"))) (E13 w x y z none none none none none none none none none) s = .ok (.dat (.bool false)) s) :
    BA G [some (.dat (.str w)), some (.dat (prD x y z)), none, none, none, none, none, none, none, none, none, none, none] s = BT (E13 w x y z none none (some (.dat (frD (if z < y then z else y)))) none none (some (.dat (frD (x * hf)))) (some (.dat (.int (if z < y then 1 else 0)))) none none) s := by
  unfold BA
  rw [sCons_nx (e' := E13 w x y z none none none none none none none none none) (s' := s) rfl]
  rw [sif_skip w1, sif_skip w2, sif_skip w3, sif_skip w4]
  have c : eCall P_less (aCons (e2 pIx (eVar 3) (eCst (.int 1))) (aCons (e2 pIx (eVar 3) (eCst (.int 0))) aNil)) (E13 w x y z none none none none none none none none none) s = .ok (.dat (.bool (decide (z < y)))) s := eCall2_dat (d := frD z) (e := frD y) rfl rfl (less_r h3 h2 (by omega) (by omega) s)
  by_cases hzy : z < y
  · rw [decide_eq_true hzy] at c
    rw [sCons_nx (sSet_ok (eIf_t c (o := .ok (.dat (.int 1)) s) rfl)), sCons_nx (sPar2_ok (eCall2_dat (d := frD x) (e := frD hf) rfl rfl (times_r h1 hf_sz (by omega) (by omega) s)) (e2_dat (d := ptD y z) (e := .int 1) (r := frD z) rfl rfl rfl)), if_pos hzy, if_pos hzy]
    rfl
  · rw [decide_eq_false hzy] at c
    rw [sCons_nx (sSet_ok (eIf_f c (o := .ok (.dat (.int 0)) s) rfl)), sCons_nx (sPar2_ok (eCall2_dat (d := frD x) (e := frD hf) rfl rfl (times_r h1 hf_sz (by omega) (by omega) s)) (e2_dat (d := ptD y z) (e := .int 0) (r := frD y) rfl rfl rfl)), if_neg hzy, if_neg hzy]
    rfl
abbrev alA (x y z : Rat) : Rat := if z < y then x - minR (x * hf) z else minR (x * hf) y
abbrev alB (x y z : Rat) : Rat := if z < y then minR (x * hf) z else x - minR (x * hf) y
/-- the row of alike, and of equal claims -/
theorem bt_alike {w : Str} (h1 : Sz m x) (h2 : Sz n y) (h3 : Sz k z) (l1 : m ≤ 190) (l2 : n ≤ 190) (l3 : k ≤ 190)
    (c : (eOr (eCmp pEq (eVar 0) (eCst (.str "alike"))) (eCmp pEq (e2 pIx (eVar 3) (eCst (.int (0)))) (e2 pIx (eVar 3) (eCst (.int (1)))))) (E13 w x y z none none (some (.dat (frD (if z < y then z else y)))) none none (some (.dat (frD (x * hf)))) (some (.dat (.int (if z < y then 1 else 0)))) none none) s = .ok (.dat (.bool true)) s) :
    BT (E13 w x y z none none (some (.dat (frD (if z < y then z else y)))) none none (some (.dat (frD (x * hf)))) (some (.dat (.int (if z < y then 1 else 0)))) none none) s = .ok (.rt (.dat (ptD (alA x y z) (alB x y z)))) s := by
  unfold BT
  refine sCons_rt ((sIf_t (s1 := s) c).trans ?_)
  have hh : Sz (m + 4) (x * hf) := h1.mul hf_sz
  by_cases hzy : z < y
  · simp only [alA, alB, if_pos hzy]
    have hm := min_sz hh h3
    rw [sCons_nx (sSet_ok (eCall2_dat (d := frD (x * hf)) (e := frD z) rfl rfl (lesser_r hh h3 (by omega) (by omega))))]
    exact sRet_ok (eCall3_dat (d := .int 1) (e := frD (minR (x * hf) z)) (g := frD (x - minR (x * hf) z)) rfl rfl (eCall2_dat (d := frD x) (e := frD (minR (x * hf) z)) rfl rfl (minus_r h1 hm (by omega) (by omega) s)) (in_turn1 _ _))
  · simp only [alA, alB, if_neg hzy]
    have hm := min_sz hh h2
    rw [sCons_nx (sSet_ok (eCall2_dat (d := frD (x * hf)) (e := frD y) rfl rfl (lesser_r hh h2 (by omega) (by omega))))]
    exact sRet_ok (eCall3_dat (d := .int 0) (e := frD (minR (x * hf) y)) (g := frD (x - minR (x * hf) y)) rfl rfl (eCall2_dat (d := frD x) (e := frD (minR (x * hf) y)) rfl rfl (minus_r h1 hm (by omega) (by omega) s)) (in_turn0 _ _))
theorem ba_alike (h1 : Sz m x) (h2 : Sz n y) (h3 : Sz k z) (l1 : m ≤ 190) (l2 : n ≤ 190) (l3 : k ≤ 190) : BA G [some (.dat (.str "alike")), some (.dat (prD x y z)), none, none, none, none, none, none, none, none, none, none, none] s = .ok (.rt (.dat (ptD (alA x y z) (alB x y z)))) s :=
  (ba_pre h1 h2 h3 (by omega) (by omega) (by omega) (by kernel_rfl) (by kernel_rfl) (by kernel_rfl) (by kernel_rfl)).trans (bt_alike h1 h2 h3 l1 l2 l3 (eOr_t (by kernel_rfl)))
abbrev stH (x y z w : Rat) : Rat := minR (x - minR (x * hf) w) (if z < y then y else z)
abbrev stA (x y z w : Rat) : Rat := if y = z then alA x y z else if z < y then stH x y z w else x - stH x y z w
abbrev stB (x y z w : Rat) : Rat := if y = z then alB x y z else if z < y then x - stH x y z w else stH x y z w
theorem ba_steps {w : Rat} {j : Nat} (h1 : Sz m x) (h2 : Sz n y) (h3 : Sz k z) (h4 : Sz j w) (l1 : m ≤ 60) (l2 : n ≤ 60) (l3 : k ≤ 60) (l4 : j ≤ 60) (hw : y ≠ z → F_power_below [.dat (frD (if z < y then z else y))] s = .ok (.dat (frD w)) s) :
    BA G [some (.dat (.str "steps")), some (.dat (prD x y z)), none, none, none, none, none, none, none, none, none, none, none] s = .ok (.rt (.dat (ptD (stA x y z w) (stB x y z w)))) s := by
  refine (ba_pre h1 h2 h3 (by omega) (by omega) (by omega) (by kernel_rfl) (by kernel_rfl) (by kernel_rfl) (by kernel_rfl)).trans ?_
  have c : (eOr (eCmp pEq (eVar 0) (eCst (.str "alike"))) (eCmp pEq (e2 pIx (eVar 3) (eCst (.int (0)))) (e2 pIx (eVar 3) (eCst (.int (1)))))) (E13 "steps" x y z none none (some (.dat (frD (if z < y then z else y)))) none none (some (.dat (frD (x * hf)))) (some (.dat (.int (if z < y then 1 else 0)))) none none) s = .ok (.dat (.bool (decide (y = z)))) s :=
    eOr_f (by kernel_rfl) (eCmp_dat (d := frD y) (e := frD z) rfl rfl (pEq_r _ _))
  by_cases hyz : y = z
  · rw [decide_eq_true hyz] at c
    simp only [stA, stB, if_pos hyz]
    exact bt_alike h1 h2 h3 (by omega) (by omega) (by omega) c
  · rw [decide_eq_false hyz] at c
    simp only [stA, stB, if_neg hyz]
    have hw := hw hyz
    have hh : Sz (m + 4) (x * hf) := h1.mul hf_sz
    have hl := min_sz hh h4
    have hx := h1.sub hl
    unfold BT
    rw [sif_skip c]
    by_cases hzy : z < y
    · simp only [if_pos hzy] at hw ⊢
      have hH := min_sz hx h2
      rw [sCons_nx (sSet_ok (eCall2_dat (d := frD (x * hf)) (e := frD w) rfl (eCall1_dat (d := frD z) rfl hw) (lesser_r hh h4 (by omega) (by omega))))]
      rw [sCons_nx (sSet_ok (eCall2_dat (d := frD (x - minR (x * hf) w)) (e := frD y) (eCall2_dat (d := frD x) (e := frD (minR (x * hf) w)) rfl rfl (minus_r h1 hl (by omega) (by omega) s)) rfl (lesser_r hx h2 (by omega) (by omega))))]
      have es : stH x y z w = minR (x - minR (x * hf) w) y := by simp only [stH, if_pos hzy]
      rw [es]
      exact sRet_ok (eCall3_dat (d := .int 1) (e := frD (x - minR (x - minR (x * hf) w) y)) (g := frD (minR (x - minR (x * hf) w) y)) rfl (eCall2_dat (d := frD x) (e := frD (minR (x - minR (x * hf) w) y)) rfl rfl (minus_r h1 hH (by omega) (by omega) s)) rfl (in_turn1 _ _))
    · simp only [if_neg hzy] at hw ⊢
      have hH := min_sz hx h3
      rw [sCons_nx (sSet_ok (eCall2_dat (d := frD (x * hf)) (e := frD w) rfl (eCall1_dat (d := frD y) rfl hw) (lesser_r hh h4 (by omega) (by omega))))]
      rw [sCons_nx (sSet_ok (eCall2_dat (d := frD (x - minR (x * hf) w)) (e := frD z) (eCall2_dat (d := frD x) (e := frD (minR (x * hf) w)) rfl rfl (minus_r h1 hl (by omega) (by omega) s)) rfl (lesser_r hx h3 (by omega) (by omega))))]
      have es : stH x y z w = minR (x - minR (x * hf) w) z := by simp only [stH, if_neg hzy]
      rw [es]
      exact sRet_ok (eCall3_dat (d := .int 0) (e := frD (x - minR (x - minR (x * hf) w) z)) (g := frD (minR (x - minR (x * hf) w) z)) rfl (eCall2_dat (d := frD x) (e := frD (minR (x - minR (x * hf) w) z)) rfl rfl (minus_r h1 hH (by omega) (by omega) s)) rfl (in_turn0 _ _))
theorem sz_sum (h1 : Sz m x) (h2 : Sz n y) (h3 : Sz k z) : Sz (n + k + 1 + m + 1) (y + z - x) := (h2.add h3).sub h1
theorem Pb.turn (p : Pb x y z) : Pb (y + z - x) y z := ⟨by have := p.d; grind, p.b, p.c, by have := p.a; grind⟩
theorem ba_losses {o1 o2 : Rat} {j : Nat} (p : Pb x y z) (h1 : Sz m x) (h2 : Sz n y) (h3 : Sz k z) (g1 : Sz j o1) (g2 : Sz j o2) (l1 : m ≤ 190) (l2 : n ≤ 190) (l3 : k ≤ 190) (l4 : j ≤ 500) (hG : G [.dat (.str "alike"), .dat (prD (y + z - x) y z)] s = .ok (.dat (ptD o1 o2)) s) :
    BA G [some (.dat (.str "losses")), some (.dat (prD x y z)), none, none, none, none, none, none, none, none, none, none, none] s = .ok (.rt (.dat (ptD (y - o1) (z - o2)))) s := by
  unfold BA
  rw [sCons_nx (e' := E13 "losses" x y z none none none none none none none none none) (s' := s) rfl]
  refine sCons_rt ((sIf_t (s1 := s) (by kernel_rfl)).trans ?_)
  have w1 : eIf (eCmp pEq (eVar 0) (eCst (.str "losses"))) (eCst (.str "alike")) (eCst (.str "steps")) (E13 "losses" x y z none none none none none none none none none) s = .ok (.dat (.str "alike")) s := by kernel_rfl
  rw [sCons_nx (sSet_ok (eCall2_dat w1 (eCall1_dat (d := prD x y z) rfl (turned_problem_r p h1 h2 h3 l1 l2 l3)) hG))]
  exact sRet_ok (tup2 (eCall2_dat (d := frD y) (e := frD o1) rfl rfl (minus_r h2 g1 (by omega) (by omega) s)) (eCall2_dat (d := frD z) (e := frD o2) rfl rfl (minus_r h3 g2 (by omega) (by omega) s)))
theorem ba_back {o1 o2 : Rat} {j : Nat} (p : Pb x y z) (h1 : Sz m x) (h2 : Sz n y) (h3 : Sz k z) (g1 : Sz j o1) (g2 : Sz j o2) (l1 : m ≤ 190) (l2 : n ≤ 190) (l3 : k ≤ 190) (l4 : j ≤ 500) (hG : G [.dat (.str "steps"), .dat (prD (y + z - x) y z)] s = .ok (.dat (ptD o1 o2)) s) :
    BA G [some (.dat (.str "back")), some (.dat (prD x y z)), none, none, none, none, none, none, none, none, none, none, none] s = .ok (.rt (.dat (ptD (y - o1) (z - o2)))) s := by
  unfold BA
  rw [sCons_nx (e' := E13 "back" x y z none none none none none none none none none) (s' := s) rfl]
  refine sCons_rt ((sIf_t (s1 := s) (by kernel_rfl)).trans ?_)
  have w1 : eIf (eCmp pEq (eVar 0) (eCst (.str "losses"))) (eCst (.str "alike")) (eCst (.str "steps")) (E13 "back" x y z none none none none none none none none none) s = .ok (.dat (.str "steps")) s := by kernel_rfl
  rw [sCons_nx (sSet_ok (eCall2_dat w1 (eCall1_dat (d := prD x y z) rfl (turned_problem_r p h1 h2 h3 l1 l2 l3)) hG))]
  exact sRet_ok (tup2 (eCall2_dat (d := frD y) (e := frD o1) rfl rfl (minus_r h2 g1 (by omega) (by omega) s)) (eCall2_dat (d := frD z) (e := frD o2) rfl rfl (minus_r h3 g2 (by omega) (by omega) s)))
/-! ### the eight rules -/
inductive Wd where
  | alike | losses | parts | halves | first | second | steps | back
def Wd.word : Wd → Str
  | .alike => "alike"
  | .losses => "losses"
  | .parts => "parts"
  | .halves => "halves"
  | .first => "first"
  | .second => "second"
  | .steps => "steps"
  | .back => "back"
/-- the awards; w: the power of two below the lesser claim -/
def aw (w x y z : Rat) : Wd → Rat × Rat
  | .alike => (alA x y z, alB x y z)
  | .losses => (y - alA (y + z - x) y z, z - alB (y + z - x) y z)
  | .parts => (partR x y z, x - partR x y z)
  | .halves => (r0 x y z + hvR x y z, r1 x y z + hvR x y z)
  | .first => (minR y x, x - minR y x)
  | .second => (x - minR z x, minR z x)
  | .steps => (stA x y z w, stB x y z w)
  | .back => (y - stA (y + z - x) y z w, z - stB (y + z - x) y z w)
theorem al_sz (h1 : Sz m x) (h2 : Sz n y) (h3 : Sz k z) : Sz (2 * m + n + k + 8) (alA x y z) ∧ Sz (2 * m + n + k + 8) (alB x y z) := by
  have hh : Sz (m + 4) (x * hf) := h1.mul hf_sz
  unfold alA alB
  split
  · have hm := min_sz hh h3
    exact ⟨(h1.sub hm).mono (by omega), hm.mono (by omega)⟩
  · have hm := min_sz hh h2
    exact ⟨hm.mono (by omega), (h1.sub hm).mono (by omega)⟩
theorem st_sz {w : Rat} {j : Nat} (h1 : Sz m x) (h2 : Sz n y) (h3 : Sz k z) (h4 : Sz j w) : Sz (3 * m + n + k + j + 12) (stA x y z w) ∧ Sz (3 * m + n + k + j + 12) (stB x y z w) := by
  have hh : Sz (m + 4) (x * hf) := h1.mul hf_sz
  have hl := min_sz hh h4
  have hx := h1.sub hl
  obtain ⟨a1, a2⟩ := al_sz h1 h2 h3
  have hs : Sz (2 * m + n + k + j + 6) (stH x y z w) := by
    unfold stH
    split
    · exact (min_sz hx h2).mono (by omega)
    · exact (min_sz hx h3).mono (by omega)
  have hb := h1.sub hs
  unfold stA stB
  split
  · exact ⟨a1.mono (by omega), a2.mono (by omega)⟩
  · split
    · exact ⟨hs.mono (by omega), hb.mono (by omega)⟩
    · exact ⟨hb.mono (by omega), hs.mono (by omega)⟩
theorem aw_sz {w : Rat} (h1 : Sz 30 x) (h2 : Sz 10 y) (h3 : Sz 10 z) (h4 : Sz 8 w) (d : Wd) : Sz 260 (aw w x y z d).1 ∧ Sz 260 (aw w x y z d).2 := by
  have hs := sz_sum h1 h2 h3
  cases d with
  | alike => exact ⟨(al_sz h1 h2 h3).1.mono (by omega), (al_sz h1 h2 h3).2.mono (by omega)⟩
  | losses => exact ⟨(h2.sub (al_sz hs h2 h3).1).mono (by omega), (h3.sub (al_sz hs h2 h3).2).mono (by omega)⟩
  | parts =>
    have hp : Sz 70 (partR x y z) := by
      unfold partR
      split
      · rename_i hne
        exact ((h1.mul h2).div (h2.add h3) hne).mono (by omega)
      · exact (szc (q := 0)).mono (by omega)
    exact ⟨hp.mono (by omega), (h1.sub hp).mono (by omega)⟩
  | halves =>
    have q0 : Sz 41 (r0 x y z) := (max_sz (szc (q := 0)) (h1.sub h3)).mono (by omega)
    have q1 : Sz 41 (r1 x y z) := (max_sz (szc (q := 0)) (h1.sub h2)).mono (by omega)
    have q2 : Sz 130 (hvR x y z) := ((h1.sub (q0.add q1)).mul hf_sz).mono (by omega)
    exact ⟨(q0.add q2).mono (by omega), (q1.add q2).mono (by omega)⟩
  | first => exact ⟨(min_sz h2 h1).mono (by omega), (h1.sub (min_sz h2 h1)).mono (by omega)⟩
  | second => exact ⟨(h1.sub (min_sz h3 h1)).mono (by omega), (min_sz h3 h1).mono (by omega)⟩
  | steps => exact ⟨(st_sz h1 h2 h3 h4).1.mono (by omega), (st_sz h1 h2 h3 h4).2.mono (by omega)⟩
  | back => exact ⟨(h2.sub (st_sz hs h2 h3 h4).1).mono (by omega), (h3.sub (st_sz hs h2 h3 h4).2).mono (by omega)⟩
theorem bab2 : F_awards_by__2 = fnS 2 13 (BA F_awards_by__1) := rfl
theorem bab3 : F_awards_by = fnS 2 13 (BA F_awards_by__2) := rfl
theorem awards_by_r {w : Rat} (d : Wd) (p : Pb x y z) (h1 : Sz 30 x) (h2 : Sz 10 y) (h3 : Sz 10 z) (h4 : Sz 8 w) (hw : y ≠ z → F_power_below [.dat (frD (if z < y then z else y))] s = .ok (.dat (frD w)) s) :
    F_awards_by [.dat (.str d.word), .dat (prD x y z)] s = .ok (.dat (ptD (aw w x y z d).1 (aw w x y z d).2)) s := by
  have hs := sz_sum h1 h2 h3
  have ga : F_awards_by__2 [.dat (.str "alike"), .dat (prD (y + z - x) y z)] s = .ok (.dat (ptD (alA (y + z - x) y z) (alB (y + z - x) y z))) s := by
    rw [bab2]
    exact fnS_dat0 rfl (ba_alike (G := F_awards_by__1) hs h2 h3 (by omega) (by omega) (by omega))
  have gs : F_awards_by__2 [.dat (.str "steps"), .dat (prD (y + z - x) y z)] s = .ok (.dat (ptD (stA (y + z - x) y z w) (stB (y + z - x) y z w))) s := by
    rw [bab2]
    exact fnS_dat0 rfl (ba_steps (G := F_awards_by__1) hs h2 h3 h4 (by omega) (by omega) (by omega) (by omega) hw)
  have q1 := al_sz hs h2 h3
  have q2 := st_sz hs h2 h3 h4
  rw [bab3]
  cases d with
  | alike => exact fnS_dat0 rfl (ba_alike (G := F_awards_by__2) h1 h2 h3 (by omega) (by omega) (by omega))
  | losses => exact fnS_dat0 rfl (ba_losses (G := F_awards_by__2) p h1 h2 h3 q1.1 q1.2 (by omega) (by omega) (by omega) (by omega) ga)
  | parts => exact fnS_dat0 rfl (ba_parts (G := F_awards_by__2) h1 h2 h3 (by omega) (by omega) (by omega))
  | halves => exact fnS_dat0 rfl (ba_halves (G := F_awards_by__2) p h1 h2 h3 (by omega) (by omega) (by omega))
  | first => exact fnS_dat0 rfl (ba_first (G := F_awards_by__2) h1 h2 (by omega) (by omega))
  | second => exact fnS_dat0 rfl (ba_second (G := F_awards_by__2) h1 h3 (by omega) (by omega))
  | steps => exact fnS_dat0 rfl (ba_steps (G := F_awards_by__2) h1 h2 h3 h4 (by omega) (by omega) (by omega) (by omega) hw)
  | back => exact fnS_dat0 rfl (ba_back (G := F_awards_by__2) p h1 h2 h3 q2.1 q2.2 (by omega) (by omega) (by omega) (by omega) gs)
theorem rule_r (d : Wd) : F_check_claim_rule [.dat (.str d.word)] s = .ok (.dat .none) s := by
  have c : (eOr (eNot (eIsi .str (eVar 0))) (eCmp pNotIn (eVar 0) (eCst G_CLAIM_RULES))) [some (.dat (.str d.word))] s = .ok (.dat (.bool false)) s := by
    cases d <;> kernel_rfl
  have e := fnS_nx (np := 1) (nn := 1) (m := B_check_claim_rule) (vs := [.dat (.str d.word)]) (s := s) (s' := s) (e := [some (.dat (.str d.word))]) rfl ((sIf_f c).trans rfl)
  rw [List.take_length] at e
  exact e
theorem awards_of_r {w : Rat} (d : Wd) (p : Pb x y z) (h1 : Sz 30 x) (h2 : Sz 10 y) (h3 : Sz 10 z) (h4 : Sz 8 w) (hw : y ≠ z → F_power_below [.dat (frD (if z < y then z else y))] s = .ok (.dat (frD w)) s) :
    F_awards_of [.dat (.str d.word), .dat (prD x y z)] s = .ok (.dat (ptD (aw w x y z d).1 (aw w x y z d).2)) s := by
  refine fnS_dat0 rfl ?_
  unfold B_awards_of
  rw [sCons_nx (sExp_nx (eCall1_dat (d := .str d.word) rfl (rule_r d))), sCons_nx (sExp_nx (eCall1_dat (d := prD x y z) rfl (check_problem_r p h1 h2 h3 (by omega) (by omega) (by omega))))]
  exact sRet_ok (eCall2_dat (d := .str d.word) (e := prD x y z) rfl rfl (awards_by_r d p h1 h2 h3 h4 hw))
/-- a walk over two pairs: all of a test -/
theorem allz {it : MI} {i j : Nat} {e : ME} {env : Env} {a b c d : PyData} {u v : Bool} (h0 : it env s = .ok (.its [.tuple [a, b], .tuple [c, d]]) s)
    (h1 : e ((((env.set j none).set i none).set i (some (.dat a))).set j (some (.dat b))) s = .ok (.dat (.bool u)) s) (h2 : e ((((env.set j none).set i none).set i (some (.dat c))).set j (some (.dat d))) s = .ok (.dat (.bool v)) s) :
    eBlt bAll (aCons (eLc it (.tup [.nm i, .nm j]) [i, j] tYes e) aNil) env s = .ok (.dat (.bool (u && (v && true)))) s := by
  have t1 : ∀ {p q : PyData} {o : Bool}, e ((((env.set j none).set i none).set i (some (.dat p))).set j (some (.dat q))) s = .ok (.dat (.bool o)) s → turn (.tup [.nm i, .nm j]) [i, j] tYes (one e) env (.tuple [p, q]) s = .ok [.bool o] s := fun {p q o} h => by
    show Out.bind (e ((((env.set j none).set i none).set i (some (.dat p))).set j (some (.dat q))) s) _ = _
    rw [h]
    rfl
  refine eBlt1_dat (d := .list [.bool u, .bool v]) ?_ rfl
  unfold eLc
  rw [h0]
  simp only [Out.bind, lcRun, lcGo, t1 h1, t1 h2]
  rfl
theorem lcz {it : MI} {i j : Nat} {e : ME} {env : Env} {a b c d u v : PyData} (h0 : it env s = .ok (.its [.tuple [a, b], .tuple [c, d]]) s)
    (h1 : e ((((env.set j none).set i none).set i (some (.dat a))).set j (some (.dat b))) s = .ok (.dat u) s) (h2 : e ((((env.set j none).set i none).set i (some (.dat c))).set j (some (.dat d))) s = .ok (.dat v) s) :
    eLc it (.tup [.nm i, .nm j]) [i, j] tYes e env s = .ok (.dat (.list [u, v])) s := by
  have t1 : ∀ {p q o : PyData}, e ((((env.set j none).set i none).set i (some (.dat p))).set j (some (.dat q))) s = .ok (.dat o) s → turn (.tup [.nm i, .nm j]) [i, j] tYes (one e) env (.tuple [p, q]) s = .ok [o] s := fun {p q o} h => by
    show Out.bind (e ((((env.set j none).set i none).set i (some (.dat p))).set j (some (.dat q))) s) _ = _
    rw [h]
    rfl
  unfold eLc
  rw [h0]
  simp only [Out.bind, lcRun, lcGo, t1 h1, t1 h2]
  rfl
/-- which points are awards -/
abbrev okAw (x y z p q : Rat) : Prop := 0 ≤ p ∧ p ≤ y ∧ 0 ≤ q ∧ q ≤ z ∧ p + q = x
theorem is_awards_r {p q : Rat} {i j : Nat} (pb : Pb x y z) (h1 : Sz m x) (h2 : Sz n y) (h3 : Sz k z) (g1 : Sz i p) (g2 : Sz j q) (l1 : m ≤ 290) (l2 : n ≤ 290) (l3 : k ≤ 290) (l4 : i ≤ 290) (l5 : j ≤ 290) :
    F_is_awards [.dat (prD x y z), .dat (ptD p q)] s = .ok (.dat (.bool (decide (okAw x y z p q)))) s := by
  refine fnS_dat0 rfl ?_
  refine (chk pb h1 h2 h3 l1 l2 l3 rfl).trans ?_
  rw [sif_skip (eNot_dat (eCall1_dat (d := ptD p q) rfl (is_point_r g1 g2 (by omega) (by omega))))]
  have t : ∀ {v u : Rat} {a b : Nat} {env : Env}, env[2]? = some (some (.dat (frD v))) → env[3]? = some (some (.dat (frD u))) → Sz a v → Sz b u → a ≤ 290 → b ≤ 290 → (eAnd (eCall P_no_more (aCons (eCst G_NOUGHT) (aCons (eVar 2) aNil))) (eCall P_no_more (aCons (eVar 2) (aCons (eVar 3) aNil)))) env s = .ok (.dat (.bool (decide (0 ≤ v ∧ v ≤ u)))) s := fun {v u a b env} e1 e2 s1 s2 l1 l2 => by
    have v2 : eVar 2 env s = .ok (.dat (frD v)) s := by unfold eVar; rw [e1]
    have v3 : eVar 3 env s = .ok (.dat (frD u)) s := by unfold eVar; rw [e2]
    have c1 : (eCall P_no_more (aCons (eCst G_NOUGHT) (aCons (eVar 2) aNil))) env s = .ok (.dat (.bool (decide (0 ≤ v)))) s := eCall2_dat (d := frD 0) rfl v2 (no_more_r (m := 4) szc s1 (by omega) (by omega) s)
    have c2 : (eCall P_no_more (aCons (eVar 2) (aCons (eVar 3) aNil))) env s = .ok (.dat (.bool (decide (v ≤ u)))) s := eCall2_dat v2 v3 (no_more_r s1 s2 (by omega) (by omega) s)
    by_cases h : 0 ≤ v
    · rw [decide_eq_true h] at c1
      rw [eAnd_t c1 c2]
      simp [h]
    · rw [decide_eq_false h] at c1
      rw [eAnd_f c1]
      simp [h]
  have al := allz (s := s) (i := 2) (j := 3) (it := iZip (eVar 1) (e2 pIx (eVar 0) (eCst (.int 1)))) (env := [some (.dat (prD x y z)), some (.dat (ptD p q)), none, none]) (a := frD p) (b := frD y) (c := frD q) (d := frD z) rfl (t rfl rfl g1 h2 l4 l2) (t rfl rfl g2 h3 l5 l3)
  have fin : (eCmp pEq (eCall P_plus (aCons (e2 pIx (eVar 1) (eCst (.int 0))) (aCons (e2 pIx (eVar 1) (eCst (.int 1))) aNil))) (e2 pIx (eVar 0) (eCst (.int 0)))) [some (.dat (prD x y z)), some (.dat (ptD p q)), none, none] s = .ok (.dat (.bool (decide (p + q = x)))) s :=
    eCmp_dat (d := frD (p + q)) (e := frD x) (eCall2_dat (d := frD p) (e := frD q) rfl rfl (plus_r g1 g2 (by omega) (by omega) s)) rfl (pEq_r _ _)
  by_cases hp : (0 ≤ p ∧ p ≤ y) ∧ 0 ≤ q ∧ q ≤ z
  · rw [decide_eq_true hp.1, decide_eq_true hp.2] at al
    have : okAw x y z p q ↔ p + q = x := ⟨fun h => h.2.2.2.2, fun h => ⟨hp.1.1, hp.1.2, hp.2.1, hp.2.2, h⟩⟩
    rw [decide_eq_decide.mpr this]
    exact (sif_skip (eNot_dat al)).trans (sRet_ok fin)
  · have hf : (decide (0 ≤ p ∧ p ≤ y) && (decide (0 ≤ q ∧ q ≤ z) && true)) = false := by
      cases hb : (decide (0 ≤ p ∧ p ≤ y) && (decide (0 ≤ q ∧ q ≤ z) && true)) with
      | false => rfl
      | true =>
        simp only [Bool.and_true, Bool.and_eq_true, decide_eq_true_eq] at hb
        exact absurd hb hp
    rw [hf] at al
    have hn : ¬ okAw x y z p q := fun h => hp ⟨⟨h.1, h.2.1⟩, h.2.2.1, h.2.2.2.1⟩
    rw [decide_eq_false hn]
    exact sCons_rt ((sIf_t (eNot_dat al)).trans rfl)
theorem check_awards_r {p q : Rat} {i j : Nat} (pb : Pb x y z) (h1 : Sz m x) (h2 : Sz n y) (h3 : Sz k z) (g1 : Sz i p) (g2 : Sz j q) (l1 : m ≤ 290) (l2 : n ≤ 290) (l3 : k ≤ 290) (l4 : i ≤ 290) (l5 : j ≤ 290) (o : okAw x y z p q) :
    F_check_awards [.dat (prD x y z), .dat (ptD p q)] s = .ok (.dat .none) s := by
  have a := is_awards_r (s := s) pb h1 h2 h3 g1 g2 l1 l2 l3 l4 l5
  rw [decide_eq_true o] at a
  have e := fnS_nx (np := 2) (nn := 2) (m := B_check_awards) (vs := [.dat (prD x y z), .dat (ptD p q)]) (s := s) (s' := s) (e := [some (.dat (prD x y z)), some (.dat (ptD p q))]) rfl ((sIf_f (eNot_dat (eCall2_dat (d := prD x y z) (e := ptD p q) rfl rfl a))).trans rfl)
  rw [List.take_length] at e
  exact e
theorem problem_after_r {f p q : Rat} {i j l : Nat} (pb : Pb x y z) (h1 : Sz m x) (h2 : Sz n y) (h3 : Sz k z) (hf1 : Sz l f) (g1 : Sz i p) (g2 : Sz j q) (l1 : m ≤ 290) (l2 : n ≤ 290) (l3 : k ≤ 290) (l4 : i ≤ 290) (l5 : j ≤ 290) (l6 : l ≤ 290)
    (f0 : 0 ≤ f) (f1 : f ≤ x) (o : okAw f y z p q) : F_problem_after [.dat (prD x y z), .dat (frD f), .dat (ptD p q)] s = .ok (.dat (prD (x - f) (y - p) (z - q))) s := by
  have pf : Pb f y z := ⟨f0, pb.b, pb.c, by have := pb.d; grind⟩
  refine fnS_dat0 rfl ?_
  refine (chk pb h1 h2 h3 l1 l2 l3 rfl).trans ?_
  have c1 : (eCall P_less (aCons (eVar 1) (aCons (eCst G_NOUGHT) (aNil)))) [some (.dat (prD x y z)), some (.dat (frD f)), some (.dat (ptD p q)), none, none] s = .ok (.dat (.bool false)) s :=
    eCall2_dat (d := frD f) (e := frD 0) rfl rfl ((less_r hf1 (szc (q := 0)) (by omega) (by omega) s).trans (by rw [decide_eq_false (by grind)]))
  have c2 : (eCall P_less (aCons (e2 pIx (eVar 0) (eCst (.int (0)))) (aCons (eVar 1) (aNil)))) [some (.dat (prD x y z)), some (.dat (frD f)), some (.dat (ptD p q)), none, none] s = .ok (.dat (.bool false)) s :=
    eCall2_dat (d := frD x) (e := frD f) rfl rfl ((less_r h1 hf1 (by omega) (by omega) s).trans (by rw [decide_eq_false (by grind)]))
  refine (sif_skip (eOr_f (eNot_dat (eCall1_dat (d := frD f) rfl (isf_r hf1 (by omega) s))) (eOr_f c1 c2))).trans ?_
  refine (sCons_nx (sExp_nx (eCall2_dat (d := prD f y z) (e := ptD p q) (tup2 (d := frD f) (e := ptD y z) rfl rfl) rfl (check_awards_r pf hf1 h2 h3 g1 g2 l6 l2 l3 l4 l5 o)))).trans ?_
  refine sRet_ok (tup2 (eCall2_dat (d := frD x) (e := frD f) rfl rfl (minus_r h1 hf1 (by omega) (by omega) s)) (eBlt1_dat (lcz (i := 3) (j := 4) (a := frD y) (b := frD p) (c := frD z) (d := frD q) rfl ?_ ?_) rfl))
  · exact eCall2_dat (d := frD y) (e := frD p) rfl rfl (minus_r h2 g1 (by omega) (by omega) s)
  · exact eCall2_dat (d := frD z) (e := frD q) rfl rfl (minus_r h3 g2 (by omega) (by omega) s)
theorem rest_problem_r (pb : Pb x y z) (h1 : Sz m x) (h2 : Sz n y) (h3 : Sz k z) (l1 : m ≤ 90) (l2 : n ≤ 90) (l3 : k ≤ 90) : F_rest_problem [.dat (prD x y z)] s = .ok (.dat (prD (x - (r0 x y z + r1 x y z)) (y - r0 x y z) (z - r1 x y z))) s := by
  have q0 : Sz 190 (r0 x y z) := (max_sz (szc (q := 0)) (h1.sub h3)).mono (by omega)
  have q1 : Sz 190 (r1 x y z) := (max_sz (szc (q := 0)) (h1.sub h2)).mono (by omega)
  refine fnS_dat0 rfl ?_
  unfold B_rest_problem
  refine (sCons_nx (sSet_ok (eCall1_dat (d := prD x y z) rfl (rights_of_r pb h1 h2 h3 (by omega) (by omega) (by omega))))).trans ?_
  refine (sCons_nx (sSet_ok (eCall2_dat (d := frD x) (e := frD (r0 x y z + r1 x y z)) rfl (eCall2_dat (d := frD (r0 x y z)) (e := frD (r1 x y z)) rfl rfl (plus_r q0 q1 (by omega) (by omega) s)) (minus_r h1 (q0.add q1) (by omega) (by omega) s)))).trans ?_
  refine sRet_ok (tup2 (d := frD (x - (r0 x y z + r1 x y z))) rfl (eBlt1_dat (lcz (i := 3) (j := 4) (a := frD y) (b := frD (r0 x y z)) (c := frD z) (d := frD (r1 x y z)) rfl ?_ ?_) rfl))
  · exact eCall2_dat (d := frD y) (e := frD (r0 x y z)) rfl rfl (minus_r h2 q0 (by omega) (by omega) s)
  · exact eCall2_dat (d := frD z) (e := frD (r1 x y z)) rfl rfl (minus_r h3 q1 (by omega) (by omega) s)
/-! ### the mathematics -/
theorem aw_ok {w : Rat} (pb : Pb x y z) (w0 : 0 ≤ w) (w1 : w ≤ (if z < y then z else y)) (d : Wd) : okAw x y z (aw w x y z d).1 (aw w x y z d).2 := by
  have e := hf_eq
  obtain ⟨a, b, c, dd⟩ := pb
  cases d with
  | alike => simp only [aw, alA, alB, minR, e]; grind
  | losses => simp only [aw, alA, alB, minR, e]; grind
  | parts =>
    simp only [aw, partR]
    by_cases h : y + z = 0
    · rw [if_neg (by simpa using h)]
      grind
    · rw [if_pos h]
      have i : (y + z) * (y + z)⁻¹ = 1 := Rat.mul_inv_cancel _ h
      have hi : 0 ≤ (y + z)⁻¹ := by
        by_cases q : 0 ≤ (y + z)⁻¹
        · exact q
        · have n1 : 0 ≤ -(y + z)⁻¹ := by grind
          have n2 := Rat.mul_nonneg (show 0 ≤ y + z by grind) n1
          have n3 : (y + z) * -(y + z)⁻¹ = -1 := by grind
          grind
      have t0 : 0 ≤ x * (y + z)⁻¹ := Rat.mul_nonneg a hi
      have t1 : 0 ≤ (y + z - x) * (y + z)⁻¹ := Rat.mul_nonneg (by grind) hi
      have p0 := Rat.mul_nonneg t0 b
      have p1 := Rat.mul_nonneg t1 b
      have q0 := Rat.mul_nonneg t0 c
      have q1 := Rat.mul_nonneg t1 c
      have d1 : x * y / (y + z) = x * (y + z)⁻¹ * y := by rw [Rat.div_def]; grind
      rw [d1]
      generalize (y + z)⁻¹ = v at *
      have e1 : (y + z - x) * v * y = y - x * v * y := by grind
      have e2 : x * v * z = x - x * v * y := by grind
      have e3 : (y + z - x) * v * z = z - x * v * z := by grind
      grind
  | halves => simp only [aw, hvR, r0, r1, maxR, e]; grind
  | first => simp only [aw, minR]; grind
  | second => simp only [aw, minR]; grind
  | steps => simp only [aw, stA, stB, stH, alA, alB, minR, e]; grind
  | back => simp only [aw, stA, stB, stH, alA, alB, minR, e]; grind
end
end Ev
/-! ClaimsL: the law's own words of claims. -/
namespace Ev
open PySem
section
variable {m n k : Nat} {x y z : Rat} {s : Sto}
theorem lleast_r (h1 : Sz m x) (h2 : Sz n y) (l1 : m ≤ 590) (l2 : n ≤ 590) : F__law_least [.dat (frD x), .dat (frD y)] s = .ok (.dat (frD (minR x y))) s := lesser_r h1 h2 l1 l2
theorem lmost_r (h1 : Sz m x) (h2 : Sz n y) (l1 : m ≤ 590) (l2 : n ≤ 590) : F__law_most [.dat (frD x), .dat (frD y)] s = .ok (.dat (frD (maxR x y))) s := greater_r h1 h2 l1 l2
theorem two_hf (x : Rat) : 2 * (x * hf) = x := by rw [hf_eq]; grind
theorem al1 (pb : Pb x y z) (q : y < x * hf) : alA x y z = y ∧ alB x y z = x - y := by
  obtain ⟨a, b, c, d⟩ := pb
  have hu := two_hf x
  simp only [alA, alB, minR]
  generalize x * hf = u at *
  grind
theorem al2 (pb : Pb x y z) (q : ¬ y < x * hf) (q2 : z < x * hf) : alA x y z = x - z ∧ alB x y z = z := by
  obtain ⟨a, b, c, d⟩ := pb
  have hu := two_hf x
  simp only [alA, alB, minR]
  generalize x * hf = u at *
  grind
theorem al3 (pb : Pb x y z) (q : ¬ y < x * hf) (q2 : ¬ z < x * hf) : alA x y z = x * hf ∧ alB x y z = x * hf := by
  obtain ⟨a, b, c, d⟩ := pb
  have hu := two_hf x
  simp only [alA, alB, minR]
  generalize x * hf = u at *
  grind
theorem st_eq {w : Rat} (pb : Pb x y z) (q : y = z) : stA x y z w = x * hf ∧ stB x y z w = x * hf := by
  obtain ⟨a, b, c, d⟩ := pb
  have hu := two_hf x
  simp only [stA, stB, stH, alA, alB, minR]
  generalize x * hf = u at *
  grind
theorem st_hi {w : Rat} (q : ¬ y = z) : minR (maxR y z) (minR (x * hf) w + (x - (minR (x * hf) w + minR (x * hf) w))) = stH x y z w := by
  simp only [stH]
  generalize minR (x * hf) w = t
  simp only [minR, maxR]
  grind
theorem lalike_r (pb : Pb x y z) (h1 : Sz m x) (h2 : Sz n y) (h3 : Sz k z) (l1 : m ≤ 190) (l2 : n ≤ 190) (l3 : k ≤ 190) : F__law_alike [.dat (prD x y z)] s = .ok (.dat (ptD (alA x y z) (alB x y z))) s := by
  have hh : Sz (m + 4) (x * hf) := h1.mul hf_sz
  have pb0 := pb
  refine fnS_dat0 rfl ?_
  unfold B__law_alike
  refine (sCons_nx (e' := [some (.dat (prD x y z)), some (.dat (frD x)), some (.dat (ptD y z)), none]) (s' := s) rfl).trans ?_
  refine (sCons_nx (sSet_ok (eCall2_dat (d := frD x) (e := frD hf) rfl rfl (times_r h1 hf_sz (by omega) (by omega) s)))).trans ?_
  show _ = _
  have c1 : (eCall P_less (aCons (e2 pIx (eVar 2) (eCst (.int (0)))) (aCons (eVar 3) (aNil)))) [some (.dat (prD x y z)), some (.dat (frD x)), some (.dat (ptD y z)), some (.dat (frD (x * hf)))] s = .ok (.dat (.bool (decide (y < x * hf)))) s := eCall2_dat (d := frD y) (e := frD (x * hf)) rfl rfl (less_r h2 hh (by omega) (by omega) s)
  have c2 : (eCall P_less (aCons (e2 pIx (eVar 2) (eCst (.int (1)))) (aCons (eVar 3) (aNil)))) [some (.dat (prD x y z)), some (.dat (frD x)), some (.dat (ptD y z)), some (.dat (frD (x * hf)))] s = .ok (.dat (.bool (decide (z < x * hf)))) s := eCall2_dat (d := frD z) (e := frD (x * hf)) rfl rfl (less_r h3 hh (by omega) (by omega) s)
  by_cases q1 : y < x * hf
  · rw [decide_eq_true q1] at c1
    have r := al1 pb0 q1
    rw [r.1, r.2]
    refine sCons_rt ((sIf_t c1).trans (sRet_ok (tup2 (d := frD y) rfl ?_)))
    exact eCall2_dat (d := frD x) (e := frD y) rfl rfl (minus_r h1 h2 (by omega) (by omega) s)
  · rw [decide_eq_false q1] at c1
    refine (sif_skip c1).trans ?_
    by_cases q2 : z < x * hf
    · rw [decide_eq_true q2] at c2
      have r := al2 pb0 q1 q2
      rw [r.1, r.2]
      refine sCons_rt ((sIf_t c2).trans (sRet_ok (tup2 ?_ (e := frD z) rfl)))
      exact eCall2_dat (d := frD x) (e := frD z) rfl rfl (minus_r h1 h3 (by omega) (by omega) s)
    · rw [decide_eq_false q2] at c2
      have r := al3 pb0 q1 q2
      rw [r.1, r.2]
      exact (sif_skip c2).trans (sRet_ok (tup2 (d := frD (x * hf)) (e := frD (x * hf)) rfl rfl))
theorem lsteps_r {w : Rat} {j : Nat} (pb : Pb x y z) (h1 : Sz m x) (h2 : Sz n y) (h3 : Sz k z) (h4 : Sz j w) (l1 : m ≤ 60) (l2 : n ≤ 60) (l3 : k ≤ 60) (l4 : j ≤ 60)
    (w0 : minR y z = 0 → w = 0) (hw : minR y z ≠ 0 → F__law_two [.dat (frD (minR y z))] s = .ok (.dat (frD w)) s) : F__law_steps [.dat (prD x y z)] s = .ok (.dat (ptD (stA x y z w) (stB x y z w))) s := by
  have hh : Sz (m + 4) (x * hf) := h1.mul hf_sz
  have pb0 := pb
  refine fnS_dat0 rfl ?_
  unfold B__law_steps
  refine (sCons_nx (e' := [some (.dat (prD x y z)), some (.dat (frD x)), some (.dat (ptD y z)), none, none, none, none, none, none]) (s' := s) rfl).trans ?_
  refine (sCons_nx (sSet_ok (eCall2_dat (d := frD x) (e := frD hf) rfl rfl (times_r h1 hf_sz (by omega) (by omega) s)))).trans ?_
  have c1 : (eCmp pEq (e2 pIx (eVar 2) (eCst (.int (0)))) (e2 pIx (eVar 2) (eCst (.int (1))))) [some (.dat (prD x y z)), some (.dat (frD x)), some (.dat (ptD y z)), some (.dat (frD (x * hf))), none, none, none, none, none] s = .ok (.dat (.bool (decide (y = z)))) s := eCmp_dat (d := frD y) (e := frD z) rfl rfl (pEq_r _ _)
  by_cases q1 : y = z
  · rw [decide_eq_true q1] at c1
    have r := st_eq (w := w) pb0 q1
    rw [r.1, r.2]
    exact sCons_rt ((sIf_t c1).trans (sRet_ok (tup2 (d := frD (x * hf)) (e := frD (x * hf)) rfl rfl)))
  · rw [decide_eq_false q1] at c1
    refine (sif_skip c1).trans ?_
    have hlo := min_sz h2 h3
    have hhi := max_sz h2 h3
    refine (sCons_nx (sPar2_ok (eCall2_dat (d := frD y) (e := frD z) rfl rfl (lleast_r h2 h3 (by omega) (by omega))) (eCall2_dat (d := frD y) (e := frD z) rfl rfl (lmost_r h2 h3 (by omega) (by omega))))).trans ?_
    have c2 : (eCmp pEq (eVar 4) (eTup (aCons (eCst (.int (0))) (aCons (eCst (.int (1))) (aNil))))) [some (.dat (prD x y z)), some (.dat (frD x)), some (.dat (ptD y z)), some (.dat (frD (x * hf))), some (.dat (frD (minR y z))), some (.dat (frD (maxR y z))), none, none, none] s = .ok (.dat (.bool (decide (minR y z = 0)))) s := eCmp_dat (d := frD (minR y z)) (e := frD 0) rfl rfl (pEq_r _ _)
    have ev : sSet 6 (eIf (eCmp pEq (eVar 4) (eTup (aCons (eCst (.int (0))) (aCons (eCst (.int (1))) (aNil))))) (eTup (aCons (eCst (.int (0))) (aCons (eCst (.int (1))) (aNil)))) (eCall F__law_two (aCons (eVar 4) (aNil)))) [some (.dat (prD x y z)), some (.dat (frD x)), some (.dat (ptD y z)), some (.dat (frD (x * hf))), some (.dat (frD (minR y z))), some (.dat (frD (maxR y z))), none, none, none] s = .ok (.nx [some (.dat (prD x y z)), some (.dat (frD x)), some (.dat (ptD y z)), some (.dat (frD (x * hf))), some (.dat (frD (minR y z))), some (.dat (frD (maxR y z))), some (.dat (frD w)), none, none]) s := by
      by_cases q : minR y z = 0
      · rw [decide_eq_true q] at c2
        rw [w0 q]
        exact sSet_ok (eIf_t c2 rfl)
      · rw [decide_eq_false q] at c2
        exact sSet_ok (eIf_f c2 (eCall1_dat (d := frD (minR y z)) rfl (hw q)))
    refine (sCons_nx ev).trans ?_
    have ht := min_sz hh h4
    refine (sCons_nx (sPar2_ok (eCall2_dat (d := frD (x * hf)) (e := frD w) rfl rfl (lleast_r hh h4 (by omega) (by omega))) (eCall2_dat (d := frD (x * hf)) (e := frD w) rfl rfl (lleast_r hh h4 (by omega) (by omega))))).trans ?_
    have hd := h1.sub (ht.add ht)
    have hs := ht.add hd
    have hg := min_sz hhi hs
    refine (sCons_nx (sSet_ok (eCall2_dat (d := frD (maxR y z)) (e := frD (minR (x * hf) w + (x - (minR (x * hf) w + minR (x * hf) w)))) rfl (eCall2_dat (d := frD (minR (x * hf) w)) (e := frD (x - (minR (x * hf) w + minR (x * hf) w))) rfl (eCall2_dat (d := frD x) (e := frD (minR (x * hf) w + minR (x * hf) w)) rfl (eCall2_dat (d := frD (minR (x * hf) w)) (e := frD (minR (x * hf) w)) rfl rfl (plus_r ht ht (by omega) (by omega) s)) (minus_r h1 (ht.add ht) (by omega) (by omega) s)) (plus_r ht hd (by omega) (by omega) s)) (lleast_r hhi hs (by omega) (by omega))))).trans ?_
    refine (sCons_nx (sSet_ok (eCall2_dat (d := frD x) (e := frD (minR (maxR y z) (minR (x * hf) w + (x - (minR (x * hf) w + minR (x * hf) w))))) rfl rfl (minus_r h1 hg (by omega) (by omega) s)))).trans ?_
    refine sRet_ok ?_
    have r := st_hi (x := x) (y := y) (z := z) (w := w) q1
    rw [r]
    have c3 : (eCmp pEq (e2 pIx (eVar 2) (eCst (.int (0)))) (eVar 4)) [some (.dat (prD x y z)), some (.dat (frD x)), some (.dat (ptD y z)), some (.dat (frD (x * hf))), some (.dat (frD (minR y z))), some (.dat (frD (maxR y z))), some (.dat (frD w)), some (.dat (frD (x - stH x y z w))), some (.dat (frD (stH x y z w)))] s = .ok (.dat (.bool (decide (y = minR y z)))) s := eCmp_dat (d := frD y) (e := frD (minR y z)) rfl rfl (pEq_r _ _)
    by_cases q3 : z < y
    · have n3 : ¬ y = minR y z := by simp only [minR]; grind
      rw [decide_eq_false n3] at c3
      have rA : stA x y z w = stH x y z w := by simp only [stA, if_neg q1, if_pos q3]
      have rB : stB x y z w = x - stH x y z w := by simp only [stB, if_neg q1, if_pos q3]
      rw [rA, rB]
      exact eIf_f c3 (tup2 (d := frD (stH x y z w)) (e := frD (x - stH x y z w)) rfl rfl)
    · have n3 : y = minR y z := by simp only [minR]; grind
      rw [decide_eq_true n3] at c3
      have rA : stA x y z w = x - stH x y z w := by simp only [stA, if_neg q1, if_neg q3]
      have rB : stB x y z w = stH x y z w := by simp only [stB, if_neg q1, if_neg q3]
      rw [rA, rB]
      exact eIf_t c3 (tup2 (d := frD (x - stH x y z w)) (e := frD (stH x y z w)) rfl rfl)
abbrev E10 (w : Str) (x y z : Rat) (v5 v6 v7 v8 v9 : Option Vl) : Env := [some (.dat (.str w)), some (.dat (prD x y z)), some (.dat (frD x)), some (.dat (ptD y z)), some (.dat (frD (y + z - x))), v5, v6, v7, v8, v9]
theorem lparts (h : y + z ≠ 0) : x / (y + z) * y = partR x y z ∧ x / (y + z) * z = x - partR x y z := by
  have i : (y + z) * (y + z)⁻¹ = 1 := Rat.mul_inv_cancel _ h
  simp only [partR]
  rw [if_pos h, Rat.div_def, Rat.div_def]
  generalize (y + z)⁻¹ = v at *
  constructor
  · grind
  · grind
theorem lawards_r {w : Rat} (d : Wd) (pb : Pb x y z) (h0 : y + z ≠ 0) (h1 : Sz 30 x) (h2 : Sz 10 y) (h3 : Sz 10 z) (h4 : Sz 8 w)
    (w0 : minR y z = 0 → w = 0) (hw : minR y z ≠ 0 → F__law_two [.dat (frD (minR y z))] s = .ok (.dat (frD w)) s) : F__law_awards [.dat (.str d.word), .dat (prD x y z)] s = .ok (.dat (ptD (aw w x y z d).1 (aw w x y z d).2)) s := by
  have hs := sz_sum h1 h2 h3
  have pt := pb.turn
  have ga := al_sz hs h2 h3
  have gs := st_sz hs h2 h3 h4
  refine fnS_dat0 rfl ?_
  unfold B__law_awards
  refine (sCons_nx (e' := [some (.dat (.str d.word)), some (.dat (prD x y z)), some (.dat (frD x)), some (.dat (ptD y z)), none, none, none, none, none, none]) (s' := s) rfl).trans ?_
  refine (sCons_nx (sSet_ok (eCall2_dat (d := frD (y + z)) (e := frD x) (eCall2_dat (d := frD y) (e := frD z) rfl rfl (plus_r h2 h3 (by omega) (by omega) s)) rfl (minus_r (h2.add h3) h1 (by omega) (by omega) s)))).trans ?_
  cases d with
  | alike => exact sCons_rt ((sIf_t (s1 := s) (by kernel_rfl)).trans (sRet_ok (eCall1_dat (d := prD x y z) rfl (lalike_r pb h1 h2 h3 (by omega) (by omega) (by omega)))))
  | steps =>
    refine (sif_skip (by kernel_rfl)).trans ?_
    exact sCons_rt ((sIf_t (s1 := s) (by kernel_rfl)).trans (sRet_ok (eCall1_dat (d := prD x y z) rfl (lsteps_r pb h1 h2 h3 h4 (by omega) (by omega) (by omega) (by omega) w0 hw))))
  | losses =>
    refine (sif_skip (by kernel_rfl)).trans ((sif_skip (by kernel_rfl)).trans (sCons_rt ((sIf_t (s1 := s) (by kernel_rfl)).trans ?_)))
    refine (sCons_nx (sSet_ok (eIf_t (s1 := s) (by kernel_rfl) (eCall1_dat (d := prD (y + z - x) y z) (tup2 (d := frD (y + z - x)) (e := ptD y z) rfl rfl) (lalike_r pt hs h2 h3 (by omega) (by omega) (by omega)))))).trans ?_
    exact sRet_ok (tup2 (eCall2_dat (d := frD y) (e := frD (alA (y + z - x) y z)) rfl rfl (minus_r h2 ga.1 (by omega) (by omega) s)) (eCall2_dat (d := frD z) (e := frD (alB (y + z - x) y z)) rfl rfl (minus_r h3 ga.2 (by omega) (by omega) s)))
  | back =>
    refine (sif_skip (by kernel_rfl)).trans ((sif_skip (by kernel_rfl)).trans (sCons_rt ((sIf_t (s1 := s) (by kernel_rfl)).trans ?_)))
    refine (sCons_nx (sSet_ok (eIf_f (s1 := s) (by kernel_rfl) (eCall1_dat (d := prD (y + z - x) y z) (tup2 (d := frD (y + z - x)) (e := ptD y z) rfl rfl) (lsteps_r pt hs h2 h3 h4 (by omega) (by omega) (by omega) (by omega) w0 hw))))).trans ?_
    exact sRet_ok (tup2 (eCall2_dat (d := frD y) (e := frD (stA (y + z - x) y z w)) rfl rfl (minus_r h2 gs.1 (by omega) (by omega) s)) (eCall2_dat (d := frD z) (e := frD (stB (y + z - x) y z w)) rfl rfl (minus_r h3 gs.2 (by omega) (by omega) s)))
  | first =>
    refine (sif_skip (by kernel_rfl)).trans ((sif_skip (by kernel_rfl)).trans ((sif_skip (by kernel_rfl)).trans (sCons_rt ((sIf_t (s1 := s) (by kernel_rfl)).trans ?_))))
    have c := lleast_r (s := s) h2 h1 (by omega) (by omega)
    exact sRet_ok (tup2 (eCall2_dat (d := frD y) (e := frD x) rfl rfl c) (eCall2_dat (d := frD x) (e := frD (minR y x)) rfl (eCall2_dat (d := frD y) (e := frD x) rfl rfl c) (minus_r h1 (min_sz h2 h1) (by omega) (by omega) s)))
  | second =>
    refine (sif_skip (by kernel_rfl)).trans ((sif_skip (by kernel_rfl)).trans ((sif_skip (by kernel_rfl)).trans ((sif_skip (by kernel_rfl)).trans (sCons_rt ((sIf_t (s1 := s) (by kernel_rfl)).trans ?_)))))
    have c := lleast_r (s := s) h3 h1 (by omega) (by omega)
    exact sRet_ok (tup2 (eCall2_dat (d := frD x) (e := frD (minR z x)) rfl (eCall2_dat (d := frD z) (e := frD x) rfl rfl c) (minus_r h1 (min_sz h3 h1) (by omega) (by omega) s)) (eCall2_dat (d := frD z) (e := frD x) rfl rfl c))
  | parts =>
    refine (sif_skip (by kernel_rfl)).trans ((sif_skip (by kernel_rfl)).trans ((sif_skip (by kernel_rfl)).trans ((sif_skip (by kernel_rfl)).trans ((sif_skip (by kernel_rfl)).trans (sCons_rt ((sIf_t (s1 := s) (by kernel_rfl)).trans ?_))))))
    have hd := h1.div (h2.add h3) h0
    refine (sCons_nx (sSet_ok (eCall2_dat (d := frD x) (e := frD (y + z)) rfl (eCall2_dat (d := frD y) (e := frD z) rfl rfl (plus_r h2 h3 (by omega) (by omega) s)) (over_r h1 (h2.add h3) (by omega) (by omega) h0 s)))).trans ?_
    obtain ⟨r1, r2⟩ := lparts (x := x) h0
    show _ = Out.ok (SR.rt (.dat (ptD (partR x y z) (x - partR x y z)))) s
    rw [← r2, ← r1]
    exact sRet_ok (tup2 (eCall2_dat (d := frD (x / (y + z))) (e := frD y) rfl rfl (times_r hd h2 (by omega) (by omega) s)) (eCall2_dat (d := frD (x / (y + z))) (e := frD z) rfl rfl (times_r hd h3 (by omega) (by omega) s)))
  | halves =>
    refine (sif_skip (by kernel_rfl)).trans ((sif_skip (by kernel_rfl)).trans ((sif_skip (by kernel_rfl)).trans ((sif_skip (by kernel_rfl)).trans ((sif_skip (by kernel_rfl)).trans ((sif_skip (by kernel_rfl)).trans ?_)))))
    have q0 : Sz 41 (r0 x y z) := (max_sz (szc (q := 0)) (h1.sub h3)).mono (by omega)
    have q1 : Sz 41 (r1 x y z) := (max_sz (szc (q := 0)) (h1.sub h2)).mono (by omega)
    have q2 : Sz 130 (hvR x y z) := ((h1.sub (q0.add q1)).mul hf_sz).mono (by omega)
    refine (sCons_nx (sPar2_ok (eCall2_dat (d := frD 0) (e := frD (x - z)) rfl (eCall2_dat (d := frD x) (e := frD z) rfl rfl (minus_r h1 h3 (by omega) (by omega) s)) (lmost_r (m := 4) szc (h1.sub h3) (by omega) (by omega))) (eCall2_dat (d := frD 0) (e := frD (x - y)) rfl (eCall2_dat (d := frD x) (e := frD y) rfl rfl (minus_r h1 h2 (by omega) (by omega) s)) (lmost_r (m := 4) szc (h1.sub h2) (by omega) (by omega))))).trans ?_
    refine (sCons_nx (sSet_ok (eCall2_dat (d := frD (x - (r0 x y z + r1 x y z))) (e := frD hf) (eCall2_dat (d := frD x) (e := frD (r0 x y z + r1 x y z)) rfl (eCall2_dat (d := frD (r0 x y z)) (e := frD (r1 x y z)) rfl rfl (plus_r q0 q1 (by omega) (by omega) s)) (minus_r h1 (q0.add q1) (by omega) (by omega) s)) rfl (times_r (h1.sub (q0.add q1)) hf_sz (by omega) (by omega) s)))).trans ?_
    exact sRet_ok (tup2 (eCall2_dat (d := frD (r0 x y z)) (e := frD (hvR x y z)) rfl rfl (plus_r q0 q2 (by omega) (by omega) s)) (eCall2_dat (d := frD (r1 x y z)) (e := frD (hvR x y z)) rfl rfl (plus_r q1 q2 (by omega) (by omega) s)))
end
end Ev
/-! ClaimsP: the power of two below a drawn claim, by all cases. -/
namespace Ev
open PySem
def PwOk (q : Rat) : Prop := ∃ w : Rat, Sz 8 w ∧ 0 ≤ w ∧ w ≤ q ∧ (q = 0 → w = 0) ∧ (∀ s, F_power_below [.dat (frD q)] s = .ok (.dat (frD w)) s) ∧ (q ≠ 0 → ∀ s, F__law_two [.dat (frD q)] s = .ok (.dat (frD w)) s)
theorem pw_of {q w : Rat} (h1 : w.num.natAbs < 2 ^ 8) (h2 : w.den < 2 ^ 8) (h3 : 0 ≤ w) (h4 : w ≤ q) (h5 : q ≠ 0) (hb : ∀ s, B_power_below [some (.dat (frD q)), none] s = .ok (.rt (.dat (frD w))) s) (ht : ∀ s, B__law_two [some (.dat (frD q)), none, none] s = .ok (.rt (.dat (frD w))) s) : PwOk q :=
  ⟨w, ⟨h1, h2⟩, h3, h4, fun h => absurd h h5, fun s => fnS_dat0 rfl (hb s), fun _ s => fnS_dat0 rfl (ht s)⟩
theorem pw_zero : PwOk 0 := ⟨0, ⟨by decide, by decide⟩, by decide +kernel, by decide +kernel, fun _ => rfl, fun s => fnS_dat0 rfl (by kernel_rfl), fun h => absurd rfl h⟩
theorem pw_0_1 : PwOk (Rat.divInt 0 1) := (show Rat.divInt 0 1 = 0 by decide +kernel) ▸ pw_zero
theorem pw_1_1 : PwOk (Rat.divInt 1 1) := pw_of (w := Rat.divInt 1 1) (by decide +kernel) (by decide +kernel) (by decide +kernel) (by decide +kernel) (by decide +kernel) (fun s => by kernel_rfl) (fun s => by kernel_rfl)
theorem pw_2_1 : PwOk (Rat.divInt 2 1) := pw_of (w := Rat.divInt 2 1) (by decide +kernel) (by decide +kernel) (by decide +kernel) (by decide +kernel) (by decide +kernel) (fun s => by kernel_rfl) (fun s => by kernel_rfl)
theorem pw_3_1 : PwOk (Rat.divInt 3 1) := pw_of (w := Rat.divInt 2 1) (by decide +kernel) (by decide +kernel) (by decide +kernel) (by decide +kernel) (by decide +kernel) (fun s => by kernel_rfl) (fun s => by kernel_rfl)
theorem pw_4_1 : PwOk (Rat.divInt 4 1) := pw_of (w := Rat.divInt 4 1) (by decide +kernel) (by decide +kernel) (by decide +kernel) (by decide +kernel) (by decide +kernel) (fun s => by kernel_rfl) (fun s => by kernel_rfl)
theorem pw_5_1 : PwOk (Rat.divInt 5 1) := pw_of (w := Rat.divInt 4 1) (by decide +kernel) (by decide +kernel) (by decide +kernel) (by decide +kernel) (by decide +kernel) (fun s => by kernel_rfl) (fun s => by kernel_rfl)
theorem pw_6_1 : PwOk (Rat.divInt 6 1) := pw_of (w := Rat.divInt 4 1) (by decide +kernel) (by decide +kernel) (by decide +kernel) (by decide +kernel) (by decide +kernel) (fun s => by kernel_rfl) (fun s => by kernel_rfl)
theorem pw_7_1 : PwOk (Rat.divInt 7 1) := pw_of (w := Rat.divInt 4 1) (by decide +kernel) (by decide +kernel) (by decide +kernel) (by decide +kernel) (by decide +kernel) (fun s => by kernel_rfl) (fun s => by kernel_rfl)
theorem pw_8_1 : PwOk (Rat.divInt 8 1) := pw_of (w := Rat.divInt 8 1) (by decide +kernel) (by decide +kernel) (by decide +kernel) (by decide +kernel) (by decide +kernel) (fun s => by kernel_rfl) (fun s => by kernel_rfl)
theorem pw_9_1 : PwOk (Rat.divInt 9 1) := pw_of (w := Rat.divInt 8 1) (by decide +kernel) (by decide +kernel) (by decide +kernel) (by decide +kernel) (by decide +kernel) (fun s => by kernel_rfl) (fun s => by kernel_rfl)
theorem pw_10_1 : PwOk (Rat.divInt 10 1) := pw_of (w := Rat.divInt 8 1) (by decide +kernel) (by decide +kernel) (by decide +kernel) (by decide +kernel) (by decide +kernel) (fun s => by kernel_rfl) (fun s => by kernel_rfl)
theorem pw_11_1 : PwOk (Rat.divInt 11 1) := pw_of (w := Rat.divInt 8 1) (by decide +kernel) (by decide +kernel) (by decide +kernel) (by decide +kernel) (by decide +kernel) (fun s => by kernel_rfl) (fun s => by kernel_rfl)
theorem pw_12_1 : PwOk (Rat.divInt 12 1) := pw_of (w := Rat.divInt 8 1) (by decide +kernel) (by decide +kernel) (by decide +kernel) (by decide +kernel) (by decide +kernel) (fun s => by kernel_rfl) (fun s => by kernel_rfl)
theorem pw_0_2 : PwOk (Rat.divInt 0 2) := (show Rat.divInt 0 2 = 0 by decide +kernel) ▸ pw_zero
theorem pw_1_2 : PwOk (Rat.divInt 1 2) := pw_of (w := Rat.divInt 1 2) (by decide +kernel) (by decide +kernel) (by decide +kernel) (by decide +kernel) (by decide +kernel) (fun s => by kernel_rfl) (fun s => by kernel_rfl)
theorem pw_2_2 : PwOk (Rat.divInt 2 2) := pw_of (w := Rat.divInt 1 1) (by decide +kernel) (by decide +kernel) (by decide +kernel) (by decide +kernel) (by decide +kernel) (fun s => by kernel_rfl) (fun s => by kernel_rfl)
theorem pw_3_2 : PwOk (Rat.divInt 3 2) := pw_of (w := Rat.divInt 1 1) (by decide +kernel) (by decide +kernel) (by decide +kernel) (by decide +kernel) (by decide +kernel) (fun s => by kernel_rfl) (fun s => by kernel_rfl)
theorem pw_4_2 : PwOk (Rat.divInt 4 2) := pw_of (w := Rat.divInt 2 1) (by decide +kernel) (by decide +kernel) (by decide +kernel) (by decide +kernel) (by decide +kernel) (fun s => by kernel_rfl) (fun s => by kernel_rfl)
theorem pw_5_2 : PwOk (Rat.divInt 5 2) := pw_of (w := Rat.divInt 2 1) (by decide +kernel) (by decide +kernel) (by decide +kernel) (by decide +kernel) (by decide +kernel) (fun s => by kernel_rfl) (fun s => by kernel_rfl)
theorem pw_6_2 : PwOk (Rat.divInt 6 2) := pw_of (w := Rat.divInt 2 1) (by decide +kernel) (by decide +kernel) (by decide +kernel) (by decide +kernel) (by decide +kernel) (fun s => by kernel_rfl) (fun s => by kernel_rfl)
theorem pw_7_2 : PwOk (Rat.divInt 7 2) := pw_of (w := Rat.divInt 2 1) (by decide +kernel) (by decide +kernel) (by decide +kernel) (by decide +kernel) (by decide +kernel) (fun s => by kernel_rfl) (fun s => by kernel_rfl)
theorem pw_8_2 : PwOk (Rat.divInt 8 2) := pw_of (w := Rat.divInt 4 1) (by decide +kernel) (by decide +kernel) (by decide +kernel) (by decide +kernel) (by decide +kernel) (fun s => by kernel_rfl) (fun s => by kernel_rfl)
theorem pw_9_2 : PwOk (Rat.divInt 9 2) := pw_of (w := Rat.divInt 4 1) (by decide +kernel) (by decide +kernel) (by decide +kernel) (by decide +kernel) (by decide +kernel) (fun s => by kernel_rfl) (fun s => by kernel_rfl)
theorem pw_10_2 : PwOk (Rat.divInt 10 2) := pw_of (w := Rat.divInt 4 1) (by decide +kernel) (by decide +kernel) (by decide +kernel) (by decide +kernel) (by decide +kernel) (fun s => by kernel_rfl) (fun s => by kernel_rfl)
theorem pw_11_2 : PwOk (Rat.divInt 11 2) := pw_of (w := Rat.divInt 4 1) (by decide +kernel) (by decide +kernel) (by decide +kernel) (by decide +kernel) (by decide +kernel) (fun s => by kernel_rfl) (fun s => by kernel_rfl)
theorem pw_12_2 : PwOk (Rat.divInt 12 2) := pw_of (w := Rat.divInt 4 1) (by decide +kernel) (by decide +kernel) (by decide +kernel) (by decide +kernel) (by decide +kernel) (fun s => by kernel_rfl) (fun s => by kernel_rfl)
theorem pw_0_3 : PwOk (Rat.divInt 0 3) := (show Rat.divInt 0 3 = 0 by decide +kernel) ▸ pw_zero
theorem pw_1_3 : PwOk (Rat.divInt 1 3) := pw_of (w := Rat.divInt 1 4) (by decide +kernel) (by decide +kernel) (by decide +kernel) (by decide +kernel) (by decide +kernel) (fun s => by kernel_rfl) (fun s => by kernel_rfl)
theorem pw_2_3 : PwOk (Rat.divInt 2 3) := pw_of (w := Rat.divInt 1 2) (by decide +kernel) (by decide +kernel) (by decide +kernel) (by decide +kernel) (by decide +kernel) (fun s => by kernel_rfl) (fun s => by kernel_rfl)
theorem pw_3_3 : PwOk (Rat.divInt 3 3) := pw_of (w := Rat.divInt 1 1) (by decide +kernel) (by decide +kernel) (by decide +kernel) (by decide +kernel) (by decide +kernel) (fun s => by kernel_rfl) (fun s => by kernel_rfl)
theorem pw_4_3 : PwOk (Rat.divInt 4 3) := pw_of (w := Rat.divInt 1 1) (by decide +kernel) (by decide +kernel) (by decide +kernel) (by decide +kernel) (by decide +kernel) (fun s => by kernel_rfl) (fun s => by kernel_rfl)
theorem pw_5_3 : PwOk (Rat.divInt 5 3) := pw_of (w := Rat.divInt 1 1) (by decide +kernel) (by decide +kernel) (by decide +kernel) (by decide +kernel) (by decide +kernel) (fun s => by kernel_rfl) (fun s => by kernel_rfl)
theorem pw_6_3 : PwOk (Rat.divInt 6 3) := pw_of (w := Rat.divInt 2 1) (by decide +kernel) (by decide +kernel) (by decide +kernel) (by decide +kernel) (by decide +kernel) (fun s => by kernel_rfl) (fun s => by kernel_rfl)
theorem pw_7_3 : PwOk (Rat.divInt 7 3) := pw_of (w := Rat.divInt 2 1) (by decide +kernel) (by decide +kernel) (by decide +kernel) (by decide +kernel) (by decide +kernel) (fun s => by kernel_rfl) (fun s => by kernel_rfl)
theorem pw_8_3 : PwOk (Rat.divInt 8 3) := pw_of (w := Rat.divInt 2 1) (by decide +kernel) (by decide +kernel) (by decide +kernel) (by decide +kernel) (by decide +kernel) (fun s => by kernel_rfl) (fun s => by kernel_rfl)
theorem pw_9_3 : PwOk (Rat.divInt 9 3) := pw_of (w := Rat.divInt 2 1) (by decide +kernel) (by decide +kernel) (by decide +kernel) (by decide +kernel) (by decide +kernel) (fun s => by kernel_rfl) (fun s => by kernel_rfl)
theorem pw_10_3 : PwOk (Rat.divInt 10 3) := pw_of (w := Rat.divInt 2 1) (by decide +kernel) (by decide +kernel) (by decide +kernel) (by decide +kernel) (by decide +kernel) (fun s => by kernel_rfl) (fun s => by kernel_rfl)
theorem pw_11_3 : PwOk (Rat.divInt 11 3) := pw_of (w := Rat.divInt 2 1) (by decide +kernel) (by decide +kernel) (by decide +kernel) (by decide +kernel) (by decide +kernel) (fun s => by kernel_rfl) (fun s => by kernel_rfl)
theorem pw_12_3 : PwOk (Rat.divInt 12 3) := pw_of (w := Rat.divInt 4 1) (by decide +kernel) (by decide +kernel) (by decide +kernel) (by decide +kernel) (by decide +kernel) (fun s => by kernel_rfl) (fun s => by kernel_rfl)
theorem pw_all (n d : Int) (h0 : 0 ≤ n) (h1 : n ≤ 12) (d0 : 1 ≤ d) (d1 : d ≤ 3) : PwOk (Rat.divInt n d) := by
  have hd : d = 1 ∨ d = 2 ∨ d = 3 := by omega
  have hn : n = 0 ∨ n = 1 ∨ n = 2 ∨ n = 3 ∨ n = 4 ∨ n = 5 ∨ n = 6 ∨ n = 7 ∨ n = 8 ∨ n = 9 ∨ n = 10 ∨ n = 11 ∨ n = 12 := by omega
  rcases hd with rfl | rfl | rfl
  · rcases hn with rfl | rfl | rfl | rfl | rfl | rfl | rfl | rfl | rfl | rfl | rfl | rfl | rfl
    · exact pw_0_1
    · exact pw_1_1
    · exact pw_2_1
    · exact pw_3_1
    · exact pw_4_1
    · exact pw_5_1
    · exact pw_6_1
    · exact pw_7_1
    · exact pw_8_1
    · exact pw_9_1
    · exact pw_10_1
    · exact pw_11_1
    · exact pw_12_1
  · rcases hn with rfl | rfl | rfl | rfl | rfl | rfl | rfl | rfl | rfl | rfl | rfl | rfl | rfl
    · exact pw_0_2
    · exact pw_1_2
    · exact pw_2_2
    · exact pw_3_2
    · exact pw_4_2
    · exact pw_5_2
    · exact pw_6_2
    · exact pw_7_2
    · exact pw_8_2
    · exact pw_9_2
    · exact pw_10_2
    · exact pw_11_2
    · exact pw_12_2
  · rcases hn with rfl | rfl | rfl | rfl | rfl | rfl | rfl | rfl | rfl | rfl | rfl | rfl | rfl
    · exact pw_0_3
    · exact pw_1_3
    · exact pw_2_3
    · exact pw_3_3
    · exact pw_4_3
    · exact pw_5_3
    · exact pw_6_3
    · exact pw_7_3
    · exact pw_8_3
    · exact pw_9_3
    · exact pw_10_3
    · exact pw_11_3
    · exact pw_12_3
end Ev
/-! ClaimsQ: the drawn problem. -/
namespace Ev
open PySem
/-- what a drawn problem bears -/
structure Dr (x y z : Rat) : Prop where
  p : Pb x y z
  a : Sz 20 x
  b : Sz 10 y
  c : Sz 10 z
  n : y + z ≠ 0
  w : PwOk (minR y z)
theorem tup2s {a b : ME} {env : Env} {s s1 s2 : Sto} {d e : PyData} (ha : a env s = .ok (.dat d) s1) (hb : b env s1 = .ok (.dat e) s2) : eTup (aCons a (aCons b aNil)) env s = .ok (.dat (.tuple [d, e])) s2 := by
  have h1 : aCons b aNil env s1 = .ok [.dat e] s2 := by
    unfold aCons
    rw [hb]
    rfl
  have h2 : aCons a (aCons b aNil) env s = .ok [.dat d, .dat e] s2 := by
    rw [aCons.eq_1 a, ha]
    simp only [Out.bind, h1]
  unfold eTup
  rw [h2]
  rfl
theorem divInt_small {n d : Int} (h0 : 0 ≤ n) (h1 : n ≤ 12) (d0 : 1 ≤ d) (d1 : d ≤ 12) : Sz 4 (Rat.divInt n d) := divInt_sz (by omega) (by omega) (by omega)
theorem divInt_nn {n d : Int} (h0 : 0 ≤ n) (d0 : 1 ≤ d) : 0 ≤ Rat.divInt n d := by
  have := Rat.divInt_nonneg (a := n) (b := d) h0 (by omega)
  exact this
/-- lean of two draws -/
theorem lean_r {n d : Int} {env : Env} {a b : ME} {s s1 s2 : Sto} (ha : a env s = .ok (.dat (.int n)) s1) (hb : b env s1 = .ok (.dat (.int d)) s2) (h0 : 0 ≤ n) (h1 : n ≤ 12) (d0 : 1 ≤ d) (d1 : d ≤ 12) :
    eCall F_leanP (aCons a (aCons b aNil)) env s = .ok (.dat (frD (Rat.divInt n d))) s2 :=
  eCall2_dat ha hb ((lnP_bd (Nat.le_trans (show n.natAbs ≤ 12 by omega) (by decide)) (Nat.le_trans (show d.natAbs ≤ 12 by omega) (by decide)) (by omega) s2).trans (by rw [leanI_rat (by omega)]))
theorem pw_min {y z : Rat} (h1 : PwOk y) (h2 : PwOk z) : PwOk (minR y z) := by
  unfold minR
  split
  · exact h2
  · exact h1
theorem lproblem_r (ns : List Int) (c : Int) (hc : 0 ≤ c) (hc2 : c < 1000000) : ∃ x y z, Dr x y z ∧ ∃ c', c ≤ c' ∧ c' ≤ c + 6 ∧ F__law_problem [.loc 0] [drw (ns.map .int) c] = .ok (.dat (prD x y z)) [drw (ns.map .int) c'] := by
  obtain ⟨v1, a1, b1, e1⟩ := next_ok (ns := ns) (c := c) (b := 13) (r := []) (env := [some (.loc 0), none, none]) (i := 0) rfl hc (by omega) (by omega)
  obtain ⟨v2, a2, b2, u2⟩ := next_ok (ns := ns) (c := c + 1) (b := 3) (r := []) (env := [some (.loc 0), none, none]) (i := 0) rfl (by omega) (by omega) (by omega)
  obtain ⟨v3, a3, b3, e3⟩ := next_ok (ns := ns) (c := c + 1 + 1) (b := 12) (r := []) (env := [some (.loc 0), none, none]) (i := 0) rfl (by omega) (by omega) (by omega)
  obtain ⟨v4, a4, b4, e4⟩ := next_ok (ns := ns) (c := c + 1 + 1 + 1) (b := 2) (r := []) (env := [some (.loc 0), none, none]) (i := 0) rfl (by omega) (by omega) (by omega)
  obtain ⟨v5, a5, b5, e5⟩ := next_ok (ns := ns) (c := c + 1 + 1 + 1 + 1) (b := 5) (r := []) (env := [some (.loc 0), some (.dat (ptD (Rat.divInt v1 (1 + v2)) (Rat.divInt (1 + v3) (1 + v4)))), none]) (i := 0) rfl (by omega) (by omega) (by omega)
  have k1 := divInt_small a1 (by omega) (show 1 ≤ 1 + v2 by omega) (by omega)
  have k2 := divInt_small (show 0 ≤ 1 + v3 by omega) (by omega) (show 1 ≤ 1 + v4 by omega) (by omega)
  have n1 := divInt_nn a1 (show 1 ≤ 1 + v2 by omega)
  have n2 := divInt_nn (show 0 ≤ 1 + v3 by omega) (show 1 ≤ 1 + v4 by omega)
  have w1 := pw_all v1 (1 + v2) a1 (by omega) (by omega) (by omega)
  have w2 := pw_all (1 + v3) (1 + v4) (by omega) (by omega) (by omega) (by omega)
  have nz : Rat.divInt (1 + v3) (1 + v4) ≠ 0 := by
    intro h
    have h' : Rat.divInt (1 + v3) (1 + v4) = Rat.divInt 0 1 := h.trans (by decide +kernel)
    rw [Rat.divInt_eq_divInt_iff (by omega) (by omega)] at h'
    omega
  -- whatever the claims are
  have fin : ∀ (y z : Rat), Sz 4 y → Sz 4 z → 0 ≤ y → 0 ≤ z → z ≠ 0 → PwOk y → PwOk z →
      ∃ x, Dr x y z ∧ (sCons (sSet 2 (eCall F_leanP (aCons (eCall F__law_next (aCons (eVar 0) (aCons (eCst (.int (13))) (aNil)))) (aCons (eCst (.int (12))) (aNil))))) (sRet (eTup (aCons (eCall P_times (aCons (eVar 2) (aCons (eCall P_plus (aCons (e2 pIx (eVar 1) (eCst (.int (0)))) (aCons (e2 pIx (eVar 1) (eCst (.int (1)))) (aNil)))) (aNil)))) (aCons (eVar 1) (aNil)))))) [some (.loc 0), some (.dat (ptD y z)), none] [drw (ns.map .int) (c + 1 + 1 + 1 + 1 + 1)] = .ok (.rt (.dat (prD x y z))) [drw (ns.map .int) (c + 1 + 1 + 1 + 1 + 1 + 1)] := by
    intro y z sy sz ny nz0 hz wy wz
    obtain ⟨v6, a6, b6, e6⟩ := next_ok (ns := ns) (c := c + 1 + 1 + 1 + 1 + 1) (b := 13) (r := []) (env := [some (.loc 0), some (.dat (ptD y z)), none]) (i := 0) rfl (by omega) (by omega) (by omega)
    have k6 := divInt_small a6 (by omega) (show (1 : Int) ≤ 12 by omega) (by omega)
    have n6 := divInt_nn a6 (show (1 : Int) ≤ 12 by omega)
    have t6 : Rat.divInt v6 12 ≤ 1 := by
      have hv : v6 = 0 ∨ v6 = 1 ∨ v6 = 2 ∨ v6 = 3 ∨ v6 = 4 ∨ v6 = 5 ∨ v6 = 6 ∨ v6 = 7 ∨ v6 = 8 ∨ v6 = 9 ∨ v6 = 10 ∨ v6 = 11 ∨ v6 = 12 := by omega
      rcases hv with h | h | h | h | h | h | h | h | h | h | h | h | h <;> rw [h] <;> decide +kernel
    have yz : 0 ≤ y + z := by clear e1 u2 e3 e4 e5 e6; grind
    have yn : y + z ≠ 0 := by clear e1 u2 e3 e4 e5 e6; grind
    refine ⟨Rat.divInt v6 12 * (y + z), ⟨⟨?_, ny, nz0, ?_⟩, (k6.mul (sy.add sz)).mono (by omega), sy.mono (by omega), sz.mono (by omega), yn, pw_min wy wz⟩, ?_⟩
    · exact Rat.mul_nonneg n6 yz
    · clear e1 u2 e3 e4 e5 e6 k1 k2 w1 w2 nz
      generalize Rat.divInt v6 12 = t at *
      have := Rat.mul_nonneg (show 0 ≤ 1 - t by grind) yz
      grind
    · refine (sCons_nx (sSet_ok (lean_r e6 rfl a6 (by omega) (by omega) (by omega)))).trans (sRet_ok (tup2s (eCall2_dat (d := frD (Rat.divInt v6 12)) (e := frD (y + z)) rfl (eCall2_dat (d := frD y) (e := frD z) rfl rfl (plus_r sy sz (by omega) (by omega) _)) (times_r k6 (sy.add sz) (by omega) (by omega) _)) (e := ptD y z) rfl))
  have go : ∃ x y z, Dr x y z ∧ B__law_problem [some (.loc 0), none, none] [drw (ns.map .int) c] = .ok (.rt (.dat (prD x y z))) [drw (ns.map .int) (c + 1 + 1 + 1 + 1 + 1 + 1)] := by
    unfold B__law_problem
    have f1 := lean_r e1 (e2_dat (f := pAdd) (a := eCst (.int 1)) (d := .int 1) (r := .int (1 + v2)) rfl u2 rfl) a1 (by omega) (by omega) (by omega)
    have f2 := lean_r (e2_dat (f := pAdd) (a := eCst (.int 1)) (d := .int 1) (r := .int (1 + v3)) rfl e3 rfl) (e2_dat (f := pAdd) (a := eCst (.int 1)) (d := .int 1) (r := .int (1 + v4)) rfl e4 rfl) (by omega) (by omega) (by omega) (by omega)
    have g := eCmp_dat (f := pEq) (b := eCst (.int 0)) (r := decide (v5 = 0)) e5 rfl rfl
    rw [sCons_nx (sSet_ok (tup2s f1 f2))]
    by_cases q : v5 = 0
    · rw [decide_eq_true q] at g
      obtain ⟨x, dx, h⟩ := fin _ _ k2 k2 n2 n2 nz w2 w2
      refine ⟨x, _, _, dx, ?_⟩
      refine (sCons_nx ((sIf_t g).trans (sSet_ok (tup2s (d := frD (Rat.divInt (1 + v3) (1 + v4))) (e := frD (Rat.divInt (1 + v3) (1 + v4))) rfl rfl)))).trans ?_
      exact h
    · rw [decide_eq_false q] at g
      obtain ⟨x, dx, h⟩ := fin _ _ k1 k2 n1 n2 nz w1 w2
      exact ⟨x, _, _, dx, (sCons_nx ((sIf_f g).trans rfl)).trans h⟩
  obtain ⟨x, y, z, dx, h⟩ := go
  refine ⟨x, y, z, dx, c + 1 + 1 + 1 + 1 + 1 + 1, by omega, by omega, ?_⟩
  have hh := fnS_dat (np := 1) (nn := 3) (m := B__law_problem) (vs := [.loc 0]) rfl h
  exact hh
end Ev
namespace Ev
open PySem
abbrev E18 (sc tn : Option Vl) (x y z : Rat) (v4 v5 v6 v7 v8 v9 v12 v13 v14 v15 v16 v17 : Option Vl) : Env := [sc, some (.loc 0), tn, some (.dat (prD x y z)), v4, v5, v6, v7, v8, v9, some (.dat (frD x)), some (.dat (ptD y z)), v12, v13, v14, v15, v16, v17]
theorem pNe_same_pr (x y z : Rat) : pNe (prD x y z) (prD x y z) = some false := by
  have h : PyData.eqv (prD x y z) (prD x y z) = true := by
    unfold prD frD fr
    simp [PyData.eqv, PyData.eqvAll]
  show (if SeqAt.shaped _ && SeqAt.shaped _ then some (PyData.eqv (prD x y z) (prD x y z)) else none).map not = _
  rw [h]
  rfl
theorem pNe_same_pt (y z : Rat) : pNe (ptD y z) (ptD y z) = some false := by
  have h : PyData.eqv (ptD y z) (ptD y z) = true := by
    unfold ptD frD fr
    simp [PyData.eqv, PyData.eqvAll]
  show (if SeqAt.shaped _ && SeqAt.shaped _ then some (PyData.eqv (ptD y z) (ptD y z)) else none).map not = _
  rw [h]
  rfl
section
variable {sc tn v4 v5 v6 v7 v8 v9 v12 v13 v14 v15 v16 v17 : Option Vl} {x y z : Rat} {s : Sto}
/-- the rows ahead of the rules -/
theorem rows_a (D : Dr x y z) : L_law_1_2 (E18 sc tn x y z v4 v5 v6 v7 v8 v9 v12 v13 v14 v15 v16 v17) s = L_law_1_5 (E18 sc tn x y z (some (.dat (frD (y + z)))) (some (.dat (ptD (r0 x y z) (r1 x y z)))) (some (.dat (prD (x - (r0 x y z + r1 x y z)) (y - r0 x y z) (z - r1 x y z)))) v7 v8 v9 v12 v13 v14 v15 v16 v17) s := by
  have q0 : Sz 41 (r0 x y z) := (max_sz (szc (q := 0)) (D.a.sub D.c)).mono (by omega)
  have q1 : Sz 41 (r1 x y z) := (max_sz (szc (q := 0)) (D.a.sub D.b)).mono (by omega)
  unfold L_law_1_2
  refine (sCons_nx (sSet_ok (eCall2_dat (d := frD y) (e := frD z) rfl rfl (plus_r D.b D.c (by omega) (by omega) s)))).trans ?_
  unfold L_law_1_3
  refine (sCons_nx (sSet_ok (tup2 (eCall2_dat (d := frD 0) (e := frD (x - z)) rfl (eCall2_dat (d := frD x) (e := frD z) rfl rfl (minus_r D.a D.c (by omega) (by omega) s)) (lmost_r (m := 4) szc (D.a.sub D.c) (by omega) (by omega))) (eCall2_dat (d := frD 0) (e := frD (x - y)) rfl (eCall2_dat (d := frD x) (e := frD y) rfl rfl (minus_r D.a D.b (by omega) (by omega) s)) (lmost_r (m := 4) szc (D.a.sub D.b) (by omega) (by omega)))))).trans ?_
  unfold L_law_1_4
  refine (sCons_nx (sSet_ok (tup2 (eCall2_dat (d := frD x) (e := frD (r0 x y z + r1 x y z)) rfl (eCall2_dat (d := frD (r0 x y z)) (e := frD (r1 x y z)) rfl rfl (plus_r q0 q1 (by omega) (by omega) s)) (minus_r D.a (q0.add q1) (by omega) (by omega) s)) (tup2 (eCall2_dat (d := frD y) (e := frD (r0 x y z)) rfl rfl (minus_r D.b q0 (by omega) (by omega) s)) (eCall2_dat (d := frD z) (e := frD (r1 x y z)) rfl rfl (minus_r D.c q1 (by omega) (by omega) s)))))).trans ?_
  rfl
theorem pb_rest (p : Pb x y z) : Pb (x - (r0 x y z + r1 x y z)) (y - r0 x y z) (z - r1 x y z) := by
  obtain ⟨a, b, c, d⟩ := p
  simp only [r0, r1, maxR]
  exact ⟨by grind, by grind, by grind, by grind⟩
theorem pb_cut (p : Pb x y z) : Pb x (minR y x) (minR z x) := by
  obtain ⟨a, b, c, d⟩ := p
  simp only [minR]
  exact ⟨by grind, by grind, by grind, by grind⟩
theorem rows_b (D : Dr x y z) : L_law_1_5 (E18 sc tn x y z (some (.dat (frD (y + z)))) (some (.dat (ptD (r0 x y z) (r1 x y z)))) (some (.dat (prD (x - (r0 x y z + r1 x y z)) (y - r0 x y z) (z - r1 x y z)))) v7 v8 v9 v12 v13 v14 v15 v16 v17) s
    = L_law_1_8 (E18 sc tn x y z (some (.dat (frD (y + z)))) (some (.dat (ptD (r0 x y z) (r1 x y z)))) (some (.dat (prD (x - (r0 x y z + r1 x y z)) (y - r0 x y z) (z - r1 x y z)))) v7 v8 v9 v12 v13 v14 v15 v16 v17) s := by
  have q0 : Sz 41 (r0 x y z) := (max_sz (szc (q := 0)) (D.a.sub D.c)).mono (by omega)
  have q1 : Sz 41 (r1 x y z) := (max_sz (szc (q := 0)) (D.a.sub D.b)).mono (by omega)
  have c1 := cut_problem_r (s := s) D.p D.a D.b D.c (by omega) (by omega) (by omega)
  have t1 := turned_problem_r (s := s) D.p D.a D.b D.c (by omega) (by omega) (by omega)
  have t2 := turned_problem_r (s := s) D.p.turn (sz_sum D.a D.b D.c) D.b D.c (by omega) (by omega) (by omega)
  rw [show y + z - (y + z - x) = x by grind] at t2
  unfold L_law_1_5
  refine (sif_skip (eOr_f (eNot_dat (eCall1_dat (d := prD x y z) rfl (is_problem_r D.p D.a D.b D.c (by omega) (by omega) (by omega)))) (eCmp_dat (eCall1_dat (d := prD x y z) rfl c1) (tup2 (d := frD x) rfl (tup2 (eCall2_dat (d := frD y) (e := frD x) rfl rfl (lleast_r D.b D.a (by omega) (by omega))) (eCall2_dat (d := frD z) (e := frD x) rfl rfl (lleast_r D.c D.a (by omega) (by omega))))) (pNe_same_pr _ _ _)))).trans ?_
  unfold L_law_1_6
  refine (sif_skip (eOr_f (eCmp_dat (eCall1_dat (d := prD x y z) rfl t1) (tup2 (eCall2_dat (d := frD (y + z)) (e := frD x) rfl rfl (minus_r (D.b.add D.c) D.a (by omega) (by omega) s)) (e := ptD y z) rfl) (pNe_same_pr _ _ _)) (eOr_f (eCmp_dat (eCall1_dat (d := prD (y + z - x) y z) (eCall1_dat (d := prD x y z) rfl t1) t2) (e := prD x y z) rfl (pNe_same_pr _ _ _)) (eCmp_dat (eCall1_dat (d := prD x y z) rfl (rights_of_r D.p D.a D.b D.c (by omega) (by omega) (by omega))) (e := ptD (r0 x y z) (r1 x y z)) rfl (pNe_same_pt _ _))))).trans ?_
  unfold L_law_1_7
  refine (sif_skip (eOr_f (eCmp_dat (eCall1_dat (d := prD x y z) rfl (rest_problem_r D.p D.a D.b D.c (by omega) (by omega) (by omega))) (e := prD (x - (r0 x y z + r1 x y z)) (y - r0 x y z) (z - r1 x y z)) rfl (pNe_same_pr _ _ _)) (eOr_f (eNot_dat (eCall1_dat (d := prD (x - (r0 x y z + r1 x y z)) (y - r0 x y z) (z - r1 x y z)) rfl (is_problem_r (pb_rest D.p) (D.a.sub (q0.add q1)) (D.b.sub q0) (D.c.sub q1) (by omega) (by omega) (by omega)))) (eNot_dat (eCall1_dat (d := prD x (minR y x) (minR z x)) (eCall1_dat (d := prD x y z) rfl c1) (is_problem_r (pb_cut D.p) D.a (min_sz D.b D.a) (min_sz D.c D.a) (by omega) (by omega) (by omega))))))).trans ?_
  rfl
theorem anyz {it : MI} {i j : Nat} {e : ME} {env : Env} {a b c d : PyData} {u v : Bool} (h0 : it env s = .ok (.its [.tuple [a, b], .tuple [c, d]]) s)
    (h1 : e ((((env.set j none).set i none).set i (some (.dat a))).set j (some (.dat b))) s = .ok (.dat (.bool u)) s) (h2 : e ((((env.set j none).set i none).set i (some (.dat c))).set j (some (.dat d))) s = .ok (.dat (.bool v)) s) :
    eBlt bAny (aCons (eLc it (.tup [.nm i, .nm j]) [i, j] tYes e) aNil) env s = .ok (.dat (.bool (u || (v || false)))) s := eBlt1_dat (lcz h0 h1 h2) rfl
def W57 : MS := sCons (sSet 12 (eCall F_awards_of (aCons (eVar 7) (aCons (eVar 3) (aNil))))) (sCons (sIf (eOr (eCmp pNe (eVar 12) (eCall F__law_awards (aCons (eVar 7) (aCons (eVar 3) (aNil))))) (eNot (eCall F_is_awards (aCons (eVar 3) (aCons (eVar 12) (aNil)))))) (sRet (eCst (.bool false))) (sNil)) (sCons (sIf (eOr (eBlt bAny (aCons (eLc (iZip (eVar 12) (eVar 11)) (.tup [.nm 16, .nm 17]) [16, 17] (tYes) (eOr (eCall P_less (aCons (eVar 16) (aCons (eTup (aCons (eCst (.int (0))) (aCons (eCst (.int (1))) (aNil)))) (aNil)))) (eCall P_less (aCons (eVar 17) (aCons (eVar 16) (aNil)))))) (aNil))) (eCmp pNe (eCall P_plus (aCons (e2 pIx (eVar 12) (eCst (.int (0)))) (aCons (e2 pIx (eVar 12) (eCst (.int (1)))) (aNil)))) (eVar 10))) (sRet (eCst (.bool false))) (sNil)) (sCons (sSet 13 (eCall P_times (aCons (eCall F_leanP (aCons (eCall F__law_next (aCons (eVar 1) (aCons (eCst (.int (7))) (aNil)))) (aCons (eCst (.int (6))) (aNil)))) (aCons (eVar 10) (aNil))))) (sCons (sSet 14 (eCall F_awards_of (aCons (eVar 7) (aCons (eTup (aCons (eVar 13) (aCons (eVar 11) (aNil)))) (aNil))))) (sCons (sSet 15 (eCall F_problem_after (aCons (eVar 3) (aCons (eVar 13) (aCons (eVar 14) (aNil)))))) (sIf (eOr (eCmp pNe (eVar 15) (eTup (aCons (eCall P_minus (aCons (eVar 10) (aCons (eVar 13) (aNil)))) (aCons (eTup (aCons (eCall P_minus (aCons (e2 pIx (eVar 11) (eCst (.int (0)))) (aCons (e2 pIx (eVar 14) (eCst (.int (0)))) (aNil)))) (aCons (eCall P_minus (aCons (e2 pIx (eVar 11) (eCst (.int (1)))) (aCons (e2 pIx (eVar 14) (eCst (.int (1)))) (aNil)))) (aNil)))) (aNil))))) (eNot (eCall F_is_problem (aCons (eVar 15) (aNil))))) (sRet (eCst (.bool false))) (sNil)))))))
abbrev Sh18 (sc tn : Option Vl) (x y z : Rat) (w : Vl) (v4 v5 v6 v8 v9 v16 v17 : Option Vl) (e : Env) : Prop := ∃ u12 u13 u14 u15, e = E18 sc tn x y z v4 v5 v6 (some w) v8 v9 u12 u13 u14 u15 v16 v17
theorem word_r (ns : List Int) (c : Int) (hc : 0 ≤ c) (hc2 : c < 1000000) (D : Dr x y z) (d : Wd) : ∃ e, W57 (E18 sc tn x y z v4 v5 v6 (some (.dat (.str d.word))) v8 v9 v12 v13 v14 v15 v16 v17) [drw (ns.map .int) c] = .ok (.nx e) [drw (ns.map .int) (c + 1)] ∧ Sh18 sc tn x y z (.dat (.str d.word)) v4 v5 v6 v8 v9 v16 v17 e := by
  obtain ⟨w, sw, w0, w1, wz, wp, wt⟩ := D.w
  have hm : minR y z = if z < y then z else y := rfl
  have h30 : Sz 30 x := D.a.mono (by omega)
  have za := aw_sz h30 D.b D.c sw d
  have oa := aw_ok D.p w0 (by rw [← hm]; exact w1) d
  have A := awards_of_r (s := [drw (ns.map .int) c]) d D.p h30 D.b D.c sw (fun _ => wp _)
  have L := lawards_r (s := [drw (ns.map .int) c]) d D.p D.n h30 D.b D.c sw wz (fun h => wt h _)
  generalize hP : (aw w x y z d).1 = p at *
  generalize hQ : (aw w x y z d).2 = q at *
  have I := is_awards_r (s := [drw (ns.map .int) c]) D.p D.a D.b D.c za.1 za.2 (by omega) (by omega) (by omega) (by omega) (by omega)
  rw [decide_eq_true oa] at I
  unfold W57
  rw [sCons_nx (sSet_ok (eCall2_dat (d := .str d.word) (e := prD x y z) rfl rfl A))]
  rw [sif_skip (eOr_f (eCmp_dat (d := ptD p q) rfl (eCall2_dat (d := .str d.word) (e := prD x y z) rfl rfl L) (pNe_same_pt _ _)) (eNot_dat (eCall2_dat (d := prD x y z) (e := ptD p q) rfl rfl I)))]
  -- no award below nought, none above its claim
  have no2 : ∀ {v u : Rat} {a b : Nat} {env : Env} {S : Sto}, env[16]? = some (some (.dat (frD v))) → env[17]? = some (some (.dat (frD u))) → Sz a v → Sz b u → a ≤ 290 → b ≤ 290 → 0 ≤ v → v ≤ u → (eOr (eCall P_less (aCons (eVar 16) (aCons (eTup (aCons (eCst (.int (0))) (aCons (eCst (.int (1))) (aNil)))) (aNil)))) (eCall P_less (aCons (eVar 17) (aCons (eVar 16) (aNil))))) env S = .ok (.dat (.bool false)) S := fun {v u a b env S} e1 e2 s1 s2 l1 l2 g1 g2 => by
    have t1 : eVar 16 env S = .ok (.dat (frD v)) S := by unfold eVar; rw [e1]
    have t2 : eVar 17 env S = .ok (.dat (frD u)) S := by unfold eVar; rw [e2]
    exact eOr_f (eCall2_dat (e := frD 0) t1 rfl ((less_r s1 (szc (q := 0)) (by omega) (by omega) S).trans (by rw [decide_eq_false (by clear A L I; grind)]))) (eCall2_dat t2 t1 ((less_r s2 s1 (by omega) (by omega) S).trans (by rw [decide_eq_false (by clear A L I; grind)])))
  have an := anyz (s := [drw (ns.map .int) c]) (i := 16) (j := 17) (it := iZip (eVar 12) (eVar 11)) (env := (E18 sc tn x y z v4 v5 v6 (some (.dat (.str d.word))) v8 v9 v12 v13 v14 v15 v16 v17).set 12 (some (.dat (ptD p q)))) (a := frD p) (b := frD y) (c := frD q) (d := frD z) rfl (no2 rfl rfl za.1 D.b (by omega) (by omega) oa.1 oa.2.1) (no2 rfl rfl za.2 D.c (by omega) (by omega) oa.2.2.1 oa.2.2.2.1)
  have pq : pNe (frD (p + q)) (frD x) = some false := by rw [pNe_r, decide_eq_false (by simpa using oa.2.2.2.2)]
  rw [sif_skip (eOr_f an (eCmp_dat (d := frD (p + q)) (e := frD x) (eCall2_dat (d := frD p) (e := frD q) rfl rfl (plus_r za.1 za.2 (by omega) (by omega) _)) rfl pq))]
  obtain ⟨v, a0, b0, ev⟩ := next_ok (ns := ns) (c := c) (b := 7) (r := []) (env := (E18 sc tn x y z v4 v5 v6 (some (.dat (.str d.word))) v8 v9 v12 v13 v14 v15 v16 v17).set 12 (some (.dat (ptD p q)))) (i := 1) rfl hc (by omega) (by omega)
  have kv := divInt_small a0 (by omega) (show (1 : Int) ≤ 6 by omega) (by omega)
  have nv := divInt_nn a0 (show (1 : Int) ≤ 6 by omega)
  have tv : Rat.divInt v 6 ≤ 1 := by
    have hv : v = 0 ∨ v = 1 ∨ v = 2 ∨ v = 3 ∨ v = 4 ∨ v = 5 ∨ v = 6 := by omega
    rcases hv with h | h | h | h | h | h | h <;> rw [h] <;> decide +kernel
  rw [sCons_nx (sSet_ok (eCall2_dat (d := frD (Rat.divInt v 6)) (e := frD x) (lean_r ev rfl a0 (by omega) (by omega) (by omega)) rfl (times_r kv D.a (by omega) (by omega) _)))]
  generalize Rat.divInt v 6 = t at *
  have f0 : 0 ≤ t * x := Rat.mul_nonneg nv D.p.a
  have f1 : t * x ≤ x := by
    have := Rat.mul_nonneg (show 0 ≤ 1 - t by clear A L I an ev no2; grind) D.p.a
    clear A L I an ev no2
    grind
  have sf : Sz 24 (t * x) := kv.mul D.a
  have pf : Pb (t * x) y z := ⟨f0, D.p.b, D.p.c, by have := D.p.d; clear A L I an ev no2; grind⟩
  have A2 := awards_of_r (s := [drw (ns.map .int) (c + 1)]) d pf (sf.mono (by omega)) D.b D.c sw (fun _ => wp _)
  have zf := aw_sz (sf.mono (show 24 ≤ 30 by omega)) D.b D.c sw d
  have of := aw_ok pf w0 (by rw [← hm]; exact w1) d
  generalize hP2 : (aw w (t * x) y z d).1 = p2 at *
  generalize hQ2 : (aw w (t * x) y z d).2 = q2 at *
  rw [sCons_nx (sSet_ok (eCall2_dat (d := .str d.word) (e := prD (t * x) y z) rfl (tup2 (d := frD (t * x)) (e := ptD y z) rfl rfl) A2))]
  have PA := problem_after_r (s := [drw (ns.map .int) (c + 1)]) D.p D.a D.b D.c sf zf.1 zf.2 (by omega) (by omega) (by omega) (by omega) (by omega) (by omega) f0 f1 of
  rw [sCons_nx (sSet_ok (eCall3_dat (d := prD x y z) (e := frD (t * x)) (g := ptD p2 q2) rfl rfl rfl PA))]
  have pl : Pb (x - t * x) (y - p2) (z - q2) := by
    obtain ⟨g1, g2, g3, g4, g5⟩ := of
    have := D.p.d
    clear A L I an ev no2 A2 PA
    generalize t * x = u at *
    exact ⟨by grind, by grind, by grind, by grind⟩
  rw [sIf_f (s1 := [drw (ns.map .int) (c + 1)]) (eOr_f (eCmp_dat (d := prD (x - t * x) (y - p2) (z - q2)) rfl (tup2 (eCall2_dat (d := frD x) (e := frD (t * x)) rfl rfl (minus_r D.a sf (by omega) (by omega) _)) (tup2 (eCall2_dat (d := frD y) (e := frD p2) rfl rfl (minus_r D.b zf.1 (by omega) (by omega) _)) (eCall2_dat (d := frD z) (e := frD q2) rfl rfl (minus_r D.c zf.2 (by omega) (by omega) _)))) (pNe_same_pr _ _ _)) (eNot_dat (eCall1_dat (d := prD (x - t * x) (y - p2) (z - q2)) rfl (is_problem_r pl (D.a.sub sf) (D.b.sub zf.1) (D.c.sub zf.2) (by omega) (by omega) (by omega)))))]
  exact ⟨_, rfl, _, _, _, _, rfl⟩
abbrev Sh7 (sc tn : Option Vl) (x y z : Rat) (v4 v5 v6 v8 v9 v16 v17 : Option Vl) (e : Env) : Prop := ∃ u7 u12 u13 u14 u15, e = E18 sc tn x y z v4 v5 v6 u7 v8 v9 u12 u13 u14 u15 v16 v17
theorem words_r (ns : List Int) (D : Dr x y z) : ∀ (ds : List Wd) (c : Int) (env : Env), 0 ≤ c → c + ds.length < 1000000 → Sh7 sc tn x y z v4 v5 v6 v8 v9 v16 v17 env →
    ∃ e, forGo W57 (.nm 7) (ds.map fun d => .str d.word) env [drw (ns.map .int) c] = .ok (.nx e) [drw (ns.map .int) (c + ds.length)] ∧ Sh7 sc tn x y z v4 v5 v6 v8 v9 v16 v17 e
  | [], c, env, _, _, h => ⟨env, by rw [show c + (([] : List Wd).length : Int) = c by simp]; rfl, h⟩
  | d :: ds, c, env, h0, h1, h => by
    obtain ⟨u7, u12, u13, u14, u15, rfl⟩ := h
    rw [List.length_cons] at h1
    obtain ⟨e1, q1, t12, t13, t14, t15, rfl⟩ := word_r (sc := sc) (tn := tn) (v4 := v4) (v5 := v5) (v6 := v6) (v8 := v8) (v9 := v9) (v12 := u12) (v13 := u13) (v14 := u14) (v15 := u15) (v16 := v16) (v17 := v17) ns c h0 (by omega) D d
    obtain ⟨e2, q2, h2⟩ := words_r ns D ds (c + 1) _ (by omega) (by omega) ⟨_, t12, t13, t14, t15, rfl⟩
    refine ⟨e2, ?_, h2⟩
    rw [List.map_cons]
    unfold forGo
    show Out.bind (W57 (E18 sc tn x y z v4 v5 v6 (some (.dat (.str d.word))) v8 v9 u12 u13 u14 u15 v16 v17) _) _ = _
    rw [q1]
    show forGo W57 (.nm 7) _ _ _ = _
    rw [q2, List.length_cons, show c + 1 + (ds.length : Int) = c + ((ds.length + 1 : Nat) : Int) by omega]
abbrev ShA (sc : Option Vl) (e : Env) : Prop := ∃ u2 u3 u4 u5 u6 u7 u8 u9 u10 u11 u12 u13 u14 u15 u16 u17, e = [sc, some (.loc 0), u2, u3, u4, u5, u6, u7, u8, u9, u10, u11, u12, u13, u14, u15, u16, u17]
theorem tail_r (ns : List Int) (c : Int) (h0 : 0 ≤ c) (h1 : c < 1000000) (D : Dr x y z) : ∃ e, L_law_1_9 (E18 sc tn x y z v4 v5 v6 v7 v8 v9 v12 v13 v14 v15 v16 v17) [drw (ns.map .int) c] = .ok (.nx e) [drw (ns.map .int) (c + 1 + 1)] ∧ ShA sc e := by
  obtain ⟨a, a0, a1, ea⟩ := next_ok (ns := ns) (c := c) (b := 13) (r := []) (env := E18 sc tn x y z v4 v5 v6 v7 v8 v9 v12 v13 v14 v15 v16 v17) (i := 1) rfl h0 (by omega) (by omega)
  obtain ⟨b, b0, b1, eb⟩ := next_ok (ns := ns) (c := c + 1) (b := 13) (r := []) (env := E18 sc tn x y z v4 v5 v6 v7 v8 v9 v12 v13 v14 v15 v16 v17) (i := 1) rfl (by omega) (by omega) (by omega)
  have ka := divInt_small a0 (by omega) (show (1 : Int) ≤ 2 by omega) (by omega)
  have kb := divInt_small b0 (by omega) (show (1 : Int) ≤ 2 by omega) (by omega)
  have na := divInt_nn a0 (show (1 : Int) ≤ 2 by omega)
  have nb := divInt_nn b0 (show (1 : Int) ≤ 2 by omega)
  unfold L_law_1_9
  rw [sCons_nx (sSet_ok (tup2s (lean_r ea rfl a0 (by omega) (by omega) (by omega)) (lean_r eb rfl b0 (by omega) (by omega) (by omega))))]
  generalize Rat.divInt a 2 = p at *
  generalize Rat.divInt b 2 = q at *
  have I := is_awards_r (s := [drw (ns.map .int) (c + 1 + 1)]) D.p D.a D.b D.c ka kb (by omega) (by omega) (by omega) (by omega) (by omega)
  show ∃ e, L_law_1_10 (E18 sc tn x y z v4 v5 v6 v7 (some (.dat (ptD p q))) v9 v12 v13 v14 v15 v16 v17) _ = _ ∧ _
  have fine : (eAnd (eCmp pEq (eCall P_plus (aCons (e2 pIx (eVar 8) (eCst (.int (0)))) (aCons (e2 pIx (eVar 8) (eCst (.int (1)))) (aNil)))) (eVar 10)) (eAnd (eNot (eCall P_less (aCons (e2 pIx (eVar 11) (eCst (.int (0)))) (aCons (e2 pIx (eVar 8) (eCst (.int (0)))) (aNil))))) (eNot (eCall P_less (aCons (e2 pIx (eVar 11) (eCst (.int (1)))) (aCons (e2 pIx (eVar 8) (eCst (.int (1)))) (aNil))))))) (E18 sc tn x y z v4 v5 v6 v7 (some (.dat (ptD p q))) v9 v12 v13 v14 v15 v16 v17) [drw (ns.map .int) (c + 1 + 1)] = .ok (.dat (.bool (decide (okAw x y z p q)))) [drw (ns.map .int) (c + 1 + 1)] := by
    have c1 : (eCmp pEq (eCall P_plus (aCons (e2 pIx (eVar 8) (eCst (.int (0)))) (aCons (e2 pIx (eVar 8) (eCst (.int (1)))) (aNil)))) (eVar 10)) (E18 sc tn x y z v4 v5 v6 v7 (some (.dat (ptD p q))) v9 v12 v13 v14 v15 v16 v17) [drw (ns.map .int) (c + 1 + 1)] = .ok (.dat (.bool (decide (p + q = x)))) [drw (ns.map .int) (c + 1 + 1)] := eCmp_dat (d := frD (p + q)) (e := frD x) (eCall2_dat (d := frD p) (e := frD q) rfl rfl (plus_r ka kb (by omega) (by omega) _)) rfl (pEq_r _ _)
    have c2 : (eNot (eCall P_less (aCons (e2 pIx (eVar 11) (eCst (.int (0)))) (aCons (e2 pIx (eVar 8) (eCst (.int (0)))) (aNil))))) (E18 sc tn x y z v4 v5 v6 v7 (some (.dat (ptD p q))) v9 v12 v13 v14 v15 v16 v17) [drw (ns.map .int) (c + 1 + 1)] = .ok (.dat (.bool (!decide (y < p)))) [drw (ns.map .int) (c + 1 + 1)] := eNot_dat (eCall2_dat (d := frD y) (e := frD p) rfl rfl (less_r D.b ka (by omega) (by omega) _))
    have c3 : (eNot (eCall P_less (aCons (e2 pIx (eVar 11) (eCst (.int (1)))) (aCons (e2 pIx (eVar 8) (eCst (.int (1)))) (aNil))))) (E18 sc tn x y z v4 v5 v6 v7 (some (.dat (ptD p q))) v9 v12 v13 v14 v15 v16 v17) [drw (ns.map .int) (c + 1 + 1)] = .ok (.dat (.bool (!decide (z < q)))) [drw (ns.map .int) (c + 1 + 1)] := eNot_dat (eCall2_dat (d := frD z) (e := frD q) rfl rfl (less_r D.c kb (by omega) (by omega) _))
    by_cases g1 : p + q = x
    · rw [decide_eq_true g1] at c1
      refine eAnd_t c1 ?_
      by_cases g2 : y < p
      · rw [decide_eq_true g2] at c2
        rw [decide_eq_false (fun h : okAw x y z p q => by have := h.2.1; clear ea eb I c1 c2 c3; grind)]
        exact eAnd_f c2
      · rw [decide_eq_false g2] at c2
        refine eAnd_t c2 (c3.trans ?_)
        by_cases g3 : z < q
        · rw [decide_eq_true g3, decide_eq_false (fun h : okAw x y z p q => by have := h.2.2.2.1; clear ea eb I c1 c2 c3; grind)]
          rfl
        · rw [decide_eq_false g3, decide_eq_true (show okAw x y z p q from ⟨na, by clear ea eb I c1 c2 c3; grind, nb, by clear ea eb I c1 c2 c3; grind, g1⟩)]
          rfl
    · rw [decide_eq_false g1] at c1
      rw [decide_eq_false (fun h : okAw x y z p q => g1 h.2.2.2.2)]
      exact eAnd_f c1
  unfold L_law_1_10
  rw [sCons_nx (sSet_ok fine)]
  have bb : ∀ b : Bool, pNe (.bool b) (.bool b) = some false := fun b => by cases b <;> rfl
  have bad : ∀ (d : PyData), F_is_point [.dat d] [drw (ns.map .int) (c + 1 + 1)] = .ok (.dat (.bool false)) [drw (ns.map .int) (c + 1 + 1)] → F_is_awards [.dat (prD x y z), .dat d] [drw (ns.map .int) (c + 1 + 1)] = .ok (.dat (.bool false)) [drw (ns.map .int) (c + 1 + 1)] := fun d hd =>
    fnS_dat0 rfl ((chk D.p D.a D.b D.c (by omega) (by omega) (by omega) rfl).trans (sCons_rt ((sIf_t (eNot_dat (eCall1_dat (d := d) rfl hd))).trans rfl)))
  unfold L_law_1_11
  rw [sIf_f (s1 := [drw (ns.map .int) (c + 1 + 1)]) (eOr_f (eCmp_dat (eCall2_dat (d := prD x y z) (e := ptD p q) rfl rfl I) (e := .bool (decide (okAw x y z p q))) rfl (bb _)) (eOr_f (eCall2_dat (d := prD x y z) (e := .none) rfl rfl (bad _ (fnS_dat0 rfl rfl))) (eCall2_dat (d := prD x y z) (e := .tuple [frD x]) rfl rfl (bad _ (fnS_dat0 rfl rfl)))))]
  exact ⟨_, rfl, _, _, _, _, _, _, _, _, _, _, _, _, _, _, _, _, rfl⟩
end
theorem turn_r {ns : List Int} {c : Int} {sc : Option Vl} {env : Env} (he : ShA sc env) (hc : 0 ≤ c) (hc2 : c < 900000) :
    ∃ e c', L_law_1_0 env [drw (ns.map .int) c] = .ok (.nx e) [drw (ns.map .int) c'] ∧ ShA sc e ∧ c ≤ c' ∧ c' ≤ c + 100 := by
  obtain ⟨x2, x3, x4, x5, x6, x7, x8, x9, x10, x11, x12, x13, x14, x15, x16, x17, rfl⟩ := he
  obtain ⟨x, y, z, D, c1, l1, l2, ep⟩ := lproblem_r ns c hc (by omega)
  unfold L_law_1_0
  have ev : eCall F__law_problem (aCons (eVar 1) aNil) [sc, some (.loc 0), x2, x3, x4, x5, x6, x7, x8, x9, x10, x11, x12, x13, x14, x15, x16, x17] [drw (ns.map .int) c] = .ok (.dat (prD x y z)) [drw (ns.map .int) c1] := ep
  rw [sCons_nx (sSet_ok ev)]
  unfold L_law_1_1
  rw [sCons_nx (e' := E18 sc x2 x y z x4 x5 x6 x7 x8 x9 x12 x13 x14 x15 x16 x17) (s' := [drw (ns.map .int) c1]) rfl, rows_a D, rows_b D]
  obtain ⟨e8, q8, u7, u12, u13, u14, u15, rfl⟩ := words_r (sc := sc) (tn := x2) (v4 := some (.dat (frD (y + z)))) (v5 := some (.dat (ptD (r0 x y z) (r1 x y z)))) (v6 := some (.dat (prD (x - (r0 x y z + r1 x y z)) (y - r0 x y z) (z - r1 x y z)))) (v8 := x8) (v9 := x9) (v16 := x16) (v17 := x17) ns D [.alike, .losses, .parts, .halves, .first, .second, .steps, .back] c1 (E18 sc x2 x y z (some (.dat (frD (y + z)))) (some (.dat (ptD (r0 x y z) (r1 x y z)))) (some (.dat (prD (x - (r0 x y z + r1 x y z)) (y - r0 x y z) (z - r1 x y z)))) x7 x8 x9 x12 x13 x14 x15 x16 x17) (by omega) (by show c1 + 8 < 1000000; omega) ⟨_, _, _, _, _, rfl⟩
  unfold L_law_1_8
  have f : (sFor (iSeq (eTup (aCons (eCst (.str "alike")) (aCons (eCst (.str "losses")) (aCons (eCst (.str "parts")) (aCons (eCst (.str "halves")) (aCons (eCst (.str "first")) (aCons (eCst (.str "second")) (aCons (eCst (.str "steps")) (aCons (eCst (.str "back")) (aNil))))))))))) (.nm 7) W57) (E18 sc x2 x y z (some (.dat (frD (y + z)))) (some (.dat (ptD (r0 x y z) (r1 x y z)))) (some (.dat (prD (x - (r0 x y z + r1 x y z)) (y - r0 x y z) (z - r1 x y z)))) x7 x8 x9 x12 x13 x14 x15 x16 x17) [drw (ns.map .int) c1] = .ok (.nx (E18 sc x2 x y z (some (.dat (frD (y + z)))) (some (.dat (ptD (r0 x y z) (r1 x y z)))) (some (.dat (prD (x - (r0 x y z + r1 x y z)) (y - r0 x y z) (z - r1 x y z)))) u7 x8 x9 u12 u13 u14 u15 x16 x17)) [drw (ns.map .int) (c1 + 8)] := by
    show noX (forGo W57 (.nm 7) ([Wd.alike, .losses, .parts, .halves, .first, .second, .steps, .back].map fun d => .str d.word) _ _) = _
    rw [q8]
    rfl
  obtain ⟨e, q, h⟩ := tail_r (sc := sc) (tn := x2) (v4 := some (.dat (frD (y + z)))) (v5 := some (.dat (ptD (r0 x y z) (r1 x y z)))) (v6 := some (.dat (prD (x - (r0 x y z + r1 x y z)) (y - r0 x y z) (z - r1 x y z)))) (v7 := u7) (v8 := x8) (v9 := x9) (v12 := u12) (v13 := u13) (v14 := u14) (v15 := u15) (v16 := x16) (v17 := x17) ns (c1 + 8) (by omega) (by omega) D
  exact ⟨e, c1 + 8 + 1 + 1, (sCons_nx f).trans q, h, by omega, by omega⟩
theorem turns_r {ns : List Int} {sc : Option Vl} : ∀ (n : Nat) (lo : Int) (c : Int) (env : Env), ShA sc env → 0 ≤ c → c + 100 * n < 900000 →
    ∃ e c', forGo L_law_1_0 (.nm 2) (upFrom lo n) env [drw (ns.map .int) c] = .ok (.nx e) [drw (ns.map .int) c']
  | 0, lo, c, env, he, _, _ => ⟨env, c, rfl⟩
  | n + 1, lo, c, env, he, h0, h1 => by
    have he' : ShA sc (env.set 2 (some (.dat (.int lo)))) := by
      obtain ⟨x2, x3, x4, x5, x6, x7, x8, x9, x10, x11, x12, x13, x14, x15, x16, x17, rfl⟩ := he
      exact ⟨_, _, _, _, _, _, _, _, _, _, _, _, _, _, _, _, rfl⟩
    obtain ⟨e1, c1, q1, s1, l1, l2⟩ := turn_r (ns := ns) he' h0 (by omega)
    obtain ⟨e2, c2, q2⟩ := turns_r (ns := ns) n (lo + 1) c1 e1 s1 (by omega) (by omega)
    refine ⟨e2, c2, ?_⟩
    unfold upFrom forGo
    show Out.bind (L_law_1_0 (env.set 2 (some (.dat (.int lo)))) _) _ = _
    rw [q1]
    exact q2
theorem law_true (ns : List Int) (hl : ns.length ≤ 63) : ∃ s', F_law [.scr (ns.map .int)] [] = .ok (.dat (.bool true)) s' := by
  refine isT_fn rfl ?_
  obtain ⟨ms, h0⟩ := draw_ok ns [none, none, none, none, none, none, none, none, none, none, none, none, none, none, none, none, none]
  show isT (R_law_0 [some (.scr (ns.map .int)), none, none, none, none, none, none, none, none, none, none, none, none, none, none, none, none, none] []) = true
  unfold R_law_0
  rw [sCons_nx (h0 1)]
  obtain ⟨e, c', q⟩ := turns_r (ns := ms) (sc := some (.scr (ns.map .int))) 4 0 0 [some (.scr (ns.map .int)), some (.loc 0), none, none, none, none, none, none, none, none, none, none, none, none, none, none, none, none] ⟨_, _, _, _, _, _, _, _, _, _, _, _, _, _, _, _, rfl⟩ (by omega) (by omega)
  unfold R_law_1
  have f : (sFor (iRng1 (eCst (.int (4)))) (.nm 2) L_law_1_0) [some (.scr (ns.map .int)), some (.loc 0), none, none, none, none, none, none, none, none, none, none, none, none, none, none, none, none] [drw (ms.map .int) 0] = .ok (.nx e) [drw (ms.map .int) c'] := by
    show noX (forGo L_law_1_0 (.nm 2) (upFrom 0 4) _ _) = _
    rw [q]
    rfl
  show isT (sCons _ R_law_2 [some (.scr (ns.map .int)), some (.loc 0), none, none, none, none, none, none, none, none, none, none, none, none, none, none, none, none] [drw (ms.map .int) 0]) = true
  rw [sCons_nx f]
  rfl
end Ev
namespace Ev
open PySem PySem.Spec PyProof.Rows L2
abbrev rTop (i : Nat) : Stmt := PySem.Challenge.pw_whatagreed_k57_whole_claims.main.body.getD i (.Pass ⟨0, 0, 0, 0⟩)
def T_is_whole : Tab := ⟨[], [], N_is_whole, [], ["isinstance", "int", "bool"]⟩
def d_is_whole : He.DefD := ⟨("is_whole", none), "is_whole", "is_whole", defArgs (rTop 5), defBody (rTop 5), defScope (rTop 5), [], []⟩
def T_is_many : Tab := ⟨[], [], N_is_many, [], ["isinstance", "tuple", "len"]⟩
def d_is_many : He.DefD := ⟨("is_many", none), "is_many", "is_many", defArgs (rTop 6), defBody (rTop 6), defScope (rTop 6), [], []⟩
def T_lean : Tab := ⟨[], [], N_lean, [], ["abs"]⟩
def d_lean : He.DefD := ⟨("lean", none), "lean", "lean", defArgs (rTop 7), defBody (rTop 7), defScope (rTop 7), [], []⟩
def T_is_fraction : Tab := ⟨[("lean", F_leanP), ("is_many", F_is_many), ("is_whole", F_is_whole)], [], N_is_fraction, [], []⟩
def d_is_fraction : He.DefD := ⟨("is_fraction", none), "is_fraction", "is_fraction", defArgs (rTop 8), defBody (rTop 8), defScope (rTop 8), [], []⟩
def T_plus : Tab := ⟨[("lean", F_leanP)], [], N_plus, [], []⟩
def d_plus : He.DefD := ⟨("plus", none), "plus", "plus", defArgs (rTop 9), defBody (rTop 9), defScope (rTop 9), [], []⟩
def T_minus : Tab := ⟨[("lean", F_leanP)], [], N_minus, [], []⟩
def d_minus : He.DefD := ⟨("minus", none), "minus", "minus", defArgs (rTop 10), defBody (rTop 10), defScope (rTop 10), [], []⟩
def T_times : Tab := ⟨[("lean", F_leanP)], [], N_times, [], []⟩
def d_times : He.DefD := ⟨("times", none), "times", "times", defArgs (rTop 11), defBody (rTop 11), defScope (rTop 11), [], []⟩
def T_over : Tab := ⟨[("lean", F_leanP)], [], N_over, [], []⟩
def d_over : He.DefD := ⟨("over", none), "over", "over", defArgs (rTop 12), defBody (rTop 12), defScope (rTop 12), [], []⟩
def T_less : Tab := ⟨[], [], N_less, [], []⟩
def d_less : He.DefD := ⟨("less", none), "less", "less", defArgs (rTop 13), defBody (rTop 13), defScope (rTop 13), [], []⟩
def T_no_more : Tab := ⟨[], [], N_no_more, [], []⟩
def d_no_more : He.DefD := ⟨("no_more", none), "no_more", "no_more", defArgs (rTop 14), defBody (rTop 14), defScope (rTop 14), [], []⟩
def T_lesser : Tab := ⟨[("less", P_less)], [], N_lesser, [], []⟩
def d_lesser : He.DefD := ⟨("lesser", none), "lesser", "lesser", defArgs (rTop 15), defBody (rTop 15), defScope (rTop 15), [], []⟩
def T_greater : Tab := ⟨[("less", P_less)], [], N_greater, [], []⟩
def d_greater : He.DefD := ⟨("greater", none), "greater", "greater", defArgs (rTop 16), defBody (rTop 16), defScope (rTop 16), [], []⟩
def T_is_point : Tab := ⟨[("is_many", F_is_many), ("is_fraction", P_is_fraction)], [], N_is_point, [], []⟩
def d_is_point : He.DefD := ⟨("is_point", none), "is_point", "is_point", defArgs (rTop 18), defBody (rTop 18), defScope (rTop 18), [], []⟩
def T_is_problem : Tab := ⟨[("no_more", P_no_more), ("plus", P_plus), ("is_many", F_is_many), ("is_fraction", P_is_fraction), ("is_point", F_is_point)], [("NOUGHT", G_NOUGHT)], N_is_problem, [], ["all"]⟩
def d_is_problem : He.DefD := ⟨("is_problem", none), "is_problem", "is_problem", defArgs (rTop 21), defBody (rTop 21), defScope (rTop 21), [], []⟩
def T_check_problem : Tab := ⟨[("is_problem", F_is_problem)], [], N_check_problem, [], []⟩
def d_check_problem : He.DefD := ⟨("check_problem", none), "check_problem", "check_problem", defArgs (rTop 22), defBody (rTop 22), defScope (rTop 22), [], []⟩
def T_check_claim_rule : Tab := ⟨[], [("CLAIM_RULES", G_CLAIM_RULES)], N_check_claim_rule, [], ["isinstance", "str"]⟩
def d_check_claim_rule : He.DefD := ⟨("check_claim_rule", none), "check_claim_rule", "check_claim_rule", defArgs (rTop 23), defBody (rTop 23), defScope (rTop 23), [], []⟩
def T_is_awards : Tab := ⟨[("check_problem", F_check_problem), ("is_point", F_is_point), ("plus", P_plus), ("no_more", P_no_more)], [("NOUGHT", G_NOUGHT)], N_is_awards, [], ["all", "zip"]⟩
def d_is_awards : He.DefD := ⟨("is_awards", none), "is_awards", "is_awards", defArgs (rTop 24), defBody (rTop 24), defScope (rTop 24), [], []⟩
def T_check_awards : Tab := ⟨[("is_awards", F_is_awards)], [], N_check_awards, [], []⟩
def d_check_awards : He.DefD := ⟨("check_awards", none), "check_awards", "check_awards", defArgs (rTop 25), defBody (rTop 25), defScope (rTop 25), [], []⟩
def T_cut_problem : Tab := ⟨[("check_problem", F_check_problem), ("lesser", F_lesser)], [], N_cut_problem, [], ["tuple"]⟩
def d_cut_problem : He.DefD := ⟨("cut_problem", none), "cut_problem", "cut_problem", defArgs (rTop 26), defBody (rTop 26), defScope (rTop 26), [], []⟩
def T_turned_problem : Tab := ⟨[("check_problem", F_check_problem), ("minus", P_minus), ("plus", P_plus)], [], N_turned_problem, [], []⟩
def d_turned_problem : He.DefD := ⟨("turned_problem", none), "turned_problem", "turned_problem", defArgs (rTop 27), defBody (rTop 27), defScope (rTop 27), [], []⟩
def T_rights_of : Tab := ⟨[("check_problem", F_check_problem), ("greater", F_greater), ("minus", P_minus)], [("NOUGHT", G_NOUGHT)], N_rights_of, [], ["tuple"]⟩
def d_rights_of : He.DefD := ⟨("rights_of", none), "rights_of", "rights_of", defArgs (rTop 28), defBody (rTop 28), defScope (rTop 28), [], []⟩
def T_rest_problem : Tab := ⟨[("rights_of", F_rights_of), ("minus", P_minus), ("plus", P_plus)], [], N_rest_problem, [], ["tuple", "zip"]⟩
def d_rest_problem : He.DefD := ⟨("rest_problem", none), "rest_problem", "rest_problem", defArgs (rTop 29), defBody (rTop 29), defScope (rTop 29), [], []⟩
def T_problem_after : Tab := ⟨[("check_problem", F_check_problem), ("check_awards", F_check_awards), ("less", P_less), ("minus", P_minus), ("is_fraction", P_is_fraction)], [("NOUGHT", G_NOUGHT)], N_problem_after, [], ["tuple", "zip"]⟩
def d_problem_after : He.DefD := ⟨("problem_after", none), "problem_after", "problem_after", defArgs (rTop 30), defBody (rTop 30), defScope (rTop 30), [], []⟩
def T_in_turn : Tab := ⟨[], [], N_in_turn, [], []⟩
def d_in_turn : He.DefD := ⟨("in_turn", none), "in_turn", "in_turn", defArgs (rTop 33), defBody (rTop 33), defScope (rTop 33), [], []⟩
def T_power_below : Tab := ⟨[("less", P_less), ("no_more", P_no_more), ("times", P_times)], [("NOUGHT", G_NOUGHT)], N_power_below, [], []⟩
def d_power_below : He.DefD := ⟨("power_below", none), "power_below", "power_below", defArgs (rTop 34), defBody (rTop 34), defScope (rTop 34), [], []⟩
def T_awards_by__1 : Tab := ⟨[("lesser", F_lesser), ("in_turn", F_in_turn), ("awards_by", F_awards_by__0), ("plus", P_plus), ("rights_of", F_rights_of), ("times", P_times), ("less", P_less), ("power_below", F_power_below), ("minus", P_minus), ("turned_problem", F_turned_problem), ("over", P_over)], [("NOUGHT", G_NOUGHT)], N_awards_by, [], []⟩
def T_awards_by__2 : Tab := ⟨[("lesser", F_lesser), ("in_turn", F_in_turn), ("awards_by", F_awards_by__1), ("plus", P_plus), ("rights_of", F_rights_of), ("times", P_times), ("less", P_less), ("power_below", F_power_below), ("minus", P_minus), ("turned_problem", F_turned_problem), ("over", P_over)], [("NOUGHT", G_NOUGHT)], N_awards_by, [], []⟩
def T_awards_by : Tab := ⟨[("lesser", F_lesser), ("in_turn", F_in_turn), ("awards_by", F_awards_by__2), ("plus", P_plus), ("rights_of", F_rights_of), ("times", P_times), ("less", P_less), ("power_below", F_power_below), ("minus", P_minus), ("turned_problem", F_turned_problem), ("over", P_over)], [("NOUGHT", G_NOUGHT)], N_awards_by, [], []⟩
def d_awards_by : He.DefD := ⟨("awards_by", none), "awards_by", "awards_by", defArgs (rTop 32), defBody (rTop 32), defScope (rTop 32), [], []⟩
def T_awards_of : Tab := ⟨[("check_claim_rule", F_check_claim_rule), ("check_problem", F_check_problem), ("awards_by", F_awards_by)], [], N_awards_of, [], []⟩
def d_awards_of : He.DefD := ⟨("awards_of", none), "awards_of", "awards_of", defArgs (rTop 31), defBody (rTop 31), defScope (rTop 31), [], []⟩
def T__law_cell_at : Tab := ⟨[], [], N__law_cell_at, [], ["len"]⟩
def d__law_cell_at : He.DefD := ⟨("_law_cell_at", none), "_law_cell_at", "_law_cell_at", defArgs (rTop 36), defBody (rTop 36), defScope (rTop 36), [], []⟩
def T__law_draw : Tab := ⟨[], [], N__law_draw, [], ["int"]⟩
def d__law_draw : He.DefD := ⟨("_law_draw", none), "_law_draw", "_law_draw", defArgs (rTop 37), defBody (rTop 37), defScope (rTop 37), [], []⟩
def T__law_number : Tab := ⟨[("_law_draw", F__law_draw)], [], N__law_number, [], ["range", "int"]⟩
def d__law_number : He.DefD := ⟨("_law_number", none), "_law_number", "_law_number", defArgs (rTop 38), defBody (rTop 38), defScope (rTop 38), [], []⟩
def T__law_next : Tab := ⟨[("_law_number", F__law_number), ("_law_cell_at", F__law_cell_at)], [], N__law_next, ["draw"], ["int"]⟩
def d__law_next : He.DefD := ⟨("_law_next", none), "_law_next", "_law_next", defArgs (rTop 39), defBody (rTop 39), defScope (rTop 39), [], []⟩
def T__law_problem : Tab := ⟨[("lean", F_leanP), ("_law_next", F__law_next), ("times", P_times), ("plus", P_plus)], [], N__law_problem, [], []⟩
def d__law_problem : He.DefD := ⟨("_law_problem", none), "_law_problem", "_law_problem", defArgs (rTop 40), defBody (rTop 40), defScope (rTop 40), [], []⟩
def T__law_least : Tab := ⟨[("less", P_less)], [], N__law_least, [], []⟩
def d__law_least : He.DefD := ⟨("_law_least", none), "_law_least", "_law_least", defArgs (rTop 41), defBody (rTop 41), defScope (rTop 41), [], []⟩
def T__law_most : Tab := ⟨[("less", P_less)], [], N__law_most, [], []⟩
def d__law_most : He.DefD := ⟨("_law_most", none), "_law_most", "_law_most", defArgs (rTop 42), defBody (rTop 42), defScope (rTop 42), [], []⟩
def T__law_two : Tab := ⟨[], [], N__law_two, [], []⟩
def d__law_two : He.DefD := ⟨("_law_two", none), "_law_two", "_law_two", defArgs (rTop 43), defBody (rTop 43), defScope (rTop 43), [], []⟩
def T__law_steps : Tab := ⟨[("times", P_times), ("_law_least", F__law_least), ("minus", P_minus), ("_law_most", F__law_most), ("_law_two", F__law_two), ("plus", P_plus)], [], N__law_steps, [], []⟩
def d__law_steps : He.DefD := ⟨("_law_steps", none), "_law_steps", "_law_steps", defArgs (rTop 44), defBody (rTop 44), defScope (rTop 44), [], []⟩
def T__law_alike : Tab := ⟨[("times", P_times), ("less", P_less), ("minus", P_minus)], [], N__law_alike, [], []⟩
def d__law_alike : He.DefD := ⟨("_law_alike", none), "_law_alike", "_law_alike", defArgs (rTop 45), defBody (rTop 45), defScope (rTop 45), [], []⟩
def T__law_awards : Tab := ⟨[("minus", P_minus), ("times", P_times), ("plus", P_plus), ("_law_alike", F__law_alike), ("_law_steps", F__law_steps), ("over", P_over), ("_law_most", F__law_most), ("_law_least", F__law_least)], [], N__law_awards, [], []⟩
def d__law_awards : He.DefD := ⟨("_law_awards", none), "_law_awards", "_law_awards", defArgs (rTop 46), defBody (rTop 46), defScope (rTop 46), [], []⟩
def T_law : Tab := ⟨[("_law_problem", F__law_problem), ("plus", P_plus), ("_law_most", F__law_most), ("minus", P_minus), ("awards_of", F_awards_of), ("times", P_times), ("problem_after", F_problem_after), ("lean", F_leanP), ("is_awards", F_is_awards), ("is_problem", F_is_problem), ("cut_problem", F_cut_problem), ("turned_problem", F_turned_problem), ("rights_of", F_rights_of), ("rest_problem", F_rest_problem), ("_law_next", F__law_next), ("less", P_less), ("_law_awards", F__law_awards), ("_law_least", F__law_least)], [], N_law, ["draw"], ["range", "any", "zip"]⟩
def d_law : He.DefD := ⟨("law", none), "law", "law", defArgs (rTop 47), defBody (rTop 47), defScope (rTop 47), [], []⟩
def lFn : List He.DefD := [d_is_whole, d_is_many, d_lean, d_is_fraction, d_plus, d_minus, d_times, d_over, d_less, d_no_more, d_lesser, d_greater, d_is_point, d_is_problem, d_check_problem, d_check_claim_rule, d_is_awards, d_check_awards, d_cut_problem, d_turned_problem, d_rights_of, d_rest_problem, d_problem_after, d_in_turn, d_power_below, d_awards_by, d_awards_of, d__law_cell_at, d__law_draw, d__law_number, d__law_next, d__law_problem, d__law_least, d__law_most, d__law_two, d__law_steps, d__law_alike, d__law_awards, d_law]
def lFa : List He.Fa := [.glo "is_whole", .glo "is_many", .glo "lean", .glo "is_fraction", .glo "plus", .glo "minus", .glo "times", .glo "over", .glo "less", .glo "no_more", .glo "lesser", .glo "greater", .glo "is_point", .glo "is_problem", .glo "check_problem", .glo "check_claim_rule", .glo "is_awards", .glo "check_awards", .glo "cut_problem", .glo "turned_problem", .glo "rights_of", .glo "rest_problem", .glo "problem_after", .glo "in_turn", .glo "power_below", .glo "awards_by", .glo "awards_of", .glo "_law_cell_at", .glo "_law_draw", .glo "_law_number", .glo "_law_next", .glo "_law_problem", .glo "_law_least", .glo "_law_most", .glo "_law_two", .glo "_law_steps", .glo "_law_alike", .glo "_law_awards", .glo "law", .free "isinstance", .free "int", .free "bool", .free "tuple", .free "len", .free "abs", .free "all", .free "str", .free "zip", .free "range", .free "any"]
def lCs : CT := [("NOUGHT", G_NOUGHT), ("CLAIM_RULES", G_CLAIM_RULES)]
section
variable {Pg : Program} {w : World} {K : PySem.W.Frag} {mg : Str → Option Value} {base h : Heap}
theorem m_is_whole : cmpSs (cmpS T_is_whole (defScope (rTop 5)) 40) (defBody (rTop 5)) = some B_is_whole := by kernel_rfl
theorem g_is_whole (c : Hd lFa lFn lCs K mg h) : GoodF Pg w K mg base "is_whole" F_is_whole 1 := by
  obtain ⟨fd, F⟩ := c.c.def_ 0 (d := d_is_whole) rfl
  exact def_ok (T := T_is_whole) (ps := ["thing"]) (np := 1) (nn := 1) F rfl (c.glo 0 rfl) (fun _ _ _ _ _ _ us hl => match us, hl with | [_], _ => rfl) ⟨rfl, rfl, rfl, by decide +kernel, rfl, by decide +kernel, by decide +kernel⟩ (by decide +kernel) rfl rfl m_is_whole (.nil) (.nil) (c.free (bl := ["isinstance", "int", "bool"]) (by decide +kernel))
theorem m_is_many : cmpSs (cmpS T_is_many (defScope (rTop 6)) 40) (defBody (rTop 6)) = some B_is_many := by kernel_rfl
theorem g_is_many (c : Hd lFa lFn lCs K mg h) : GoodF Pg w K mg base "is_many" F_is_many 1 := by
  obtain ⟨fd, F⟩ := c.c.def_ 1 (d := d_is_many) rfl
  exact def_ok (T := T_is_many) (ps := ["thing", "many"]) (np := 2) (nn := 2) F rfl (c.glo 1 rfl) (fun _ _ _ _ _ _ us hl => match us, hl with | [_, _], _ => rfl) ⟨rfl, rfl, rfl, by decide +kernel, rfl, by decide +kernel, by decide +kernel⟩ (by decide +kernel) rfl rfl m_is_many (.nil) (.nil) (c.free (bl := ["isinstance", "tuple", "len"]) (by decide +kernel))
theorem m_lean : cmpSs (cmpS T_lean (defScope (rTop 7)) 40) (defBody (rTop 7)) = some B_lean := by kernel_rfl
theorem g_lean (c : Hd lFa lFn lCs K mg h) : GoodF Pg w K mg base "lean" F_lean 1 := by
  obtain ⟨fd, F⟩ := c.c.def_ 2 (d := d_lean) rfl
  exact def_ok (T := T_lean) (ps := ["top", "below"]) (np := 2) (nn := 4) F rfl (c.glo 2 rfl) (fun _ _ _ _ _ _ us hl => match us, hl with | [_, _], _ => rfl) ⟨rfl, rfl, rfl, by decide +kernel, rfl, by decide +kernel, by decide +kernel⟩ (by decide +kernel) rfl rfl m_lean (.nil) (.nil) (c.free (bl := ["abs"]) (by decide +kernel))
theorem p_lean (c : Hd lFa lFn lCs K mg h) : GoodF Pg w K mg base "lean" F_leanP 1 := (g_lean c).imp le_lean
theorem m_is_fraction : cmpSs (cmpS T_is_fraction (defScope (rTop 8)) 40) (defBody (rTop 8)) = some B_is_fraction := by kernel_rfl
theorem g_is_fraction (c : Hd lFa lFn lCs K mg h) : GoodF Pg w K mg base "is_fraction" F_is_fraction 2 := by
  obtain ⟨fd, F⟩ := c.c.def_ 3 (d := d_is_fraction) rfl
  exact def_ok (T := T_is_fraction) (ps := ["thing"]) (np := 1) (nn := 1) F rfl (c.glo 3 rfl) (fun _ _ _ _ _ _ us hl => match us, hl with | [_], _ => rfl) ⟨rfl, rfl, rfl, by decide +kernel, rfl, by decide +kernel, by decide +kernel⟩ (by decide +kernel) rfl rfl m_is_fraction (.cons ((p_lean c).mono rfl) (.cons ((g_is_many c).mono rfl) (.cons ((g_is_whole c).mono rfl) (.nil)))) (.nil) (c.free (bl := []) (by decide +kernel))
theorem p_is_fraction (c : Hd lFa lFn lCs K mg h) : GoodF Pg w K mg base "is_fraction" P_is_fraction 2 := (g_is_fraction c).imp le_is_fraction
theorem m_plus : cmpSs (cmpS T_plus (defScope (rTop 9)) 40) (defBody (rTop 9)) = some B_plus := by kernel_rfl
theorem g_plus (c : Hd lFa lFn lCs K mg h) : GoodF Pg w K mg base "plus" F_plus 2 := by
  obtain ⟨fd, F⟩ := c.c.def_ 4 (d := d_plus) rfl
  exact def_ok (T := T_plus) (ps := ["one", "other"]) (np := 2) (nn := 2) F rfl (c.glo 4 rfl) (fun _ _ _ _ _ _ us hl => match us, hl with | [_, _], _ => rfl) ⟨rfl, rfl, rfl, by decide +kernel, rfl, by decide +kernel, by decide +kernel⟩ (by decide +kernel) rfl rfl m_plus (.cons ((p_lean c).mono rfl) (.nil)) (.nil) (c.free (bl := []) (by decide +kernel))
theorem p_plus (c : Hd lFa lFn lCs K mg h) : GoodF Pg w K mg base "plus" P_plus 2 := (g_plus c).imp le_plus
theorem m_minus : cmpSs (cmpS T_minus (defScope (rTop 10)) 40) (defBody (rTop 10)) = some B_minus := by kernel_rfl
theorem g_minus (c : Hd lFa lFn lCs K mg h) : GoodF Pg w K mg base "minus" F_minus 2 := by
  obtain ⟨fd, F⟩ := c.c.def_ 5 (d := d_minus) rfl
  exact def_ok (T := T_minus) (ps := ["one", "other"]) (np := 2) (nn := 2) F rfl (c.glo 5 rfl) (fun _ _ _ _ _ _ us hl => match us, hl with | [_, _], _ => rfl) ⟨rfl, rfl, rfl, by decide +kernel, rfl, by decide +kernel, by decide +kernel⟩ (by decide +kernel) rfl rfl m_minus (.cons ((p_lean c).mono rfl) (.nil)) (.nil) (c.free (bl := []) (by decide +kernel))
theorem p_minus (c : Hd lFa lFn lCs K mg h) : GoodF Pg w K mg base "minus" P_minus 2 := (g_minus c).imp le_minus
theorem m_times : cmpSs (cmpS T_times (defScope (rTop 11)) 40) (defBody (rTop 11)) = some B_times := by kernel_rfl
theorem g_times (c : Hd lFa lFn lCs K mg h) : GoodF Pg w K mg base "times" F_times 2 := by
  obtain ⟨fd, F⟩ := c.c.def_ 6 (d := d_times) rfl
  exact def_ok (T := T_times) (ps := ["one", "other"]) (np := 2) (nn := 2) F rfl (c.glo 6 rfl) (fun _ _ _ _ _ _ us hl => match us, hl with | [_, _], _ => rfl) ⟨rfl, rfl, rfl, by decide +kernel, rfl, by decide +kernel, by decide +kernel⟩ (by decide +kernel) rfl rfl m_times (.cons ((p_lean c).mono rfl) (.nil)) (.nil) (c.free (bl := []) (by decide +kernel))
theorem p_times (c : Hd lFa lFn lCs K mg h) : GoodF Pg w K mg base "times" P_times 2 := (g_times c).imp le_times
theorem m_over : cmpSs (cmpS T_over (defScope (rTop 12)) 40) (defBody (rTop 12)) = some B_over := by kernel_rfl
theorem g_over (c : Hd lFa lFn lCs K mg h) : GoodF Pg w K mg base "over" F_over 2 := by
  obtain ⟨fd, F⟩ := c.c.def_ 7 (d := d_over) rfl
  exact def_ok (T := T_over) (ps := ["one", "other"]) (np := 2) (nn := 2) F rfl (c.glo 7 rfl) (fun _ _ _ _ _ _ us hl => match us, hl with | [_, _], _ => rfl) ⟨rfl, rfl, rfl, by decide +kernel, rfl, by decide +kernel, by decide +kernel⟩ (by decide +kernel) rfl rfl m_over (.cons ((p_lean c).mono rfl) (.nil)) (.nil) (c.free (bl := []) (by decide +kernel))
theorem p_over (c : Hd lFa lFn lCs K mg h) : GoodF Pg w K mg base "over" P_over 2 := (g_over c).imp le_over
theorem m_less : cmpSs (cmpS T_less (defScope (rTop 13)) 40) (defBody (rTop 13)) = some B_less := by kernel_rfl
theorem g_less (c : Hd lFa lFn lCs K mg h) : GoodF Pg w K mg base "less" F_less 1 := by
  obtain ⟨fd, F⟩ := c.c.def_ 8 (d := d_less) rfl
  exact def_ok (T := T_less) (ps := ["one", "other"]) (np := 2) (nn := 2) F rfl (c.glo 8 rfl) (fun _ _ _ _ _ _ us hl => match us, hl with | [_, _], _ => rfl) ⟨rfl, rfl, rfl, by decide +kernel, rfl, by decide +kernel, by decide +kernel⟩ (by decide +kernel) rfl rfl m_less (.nil) (.nil) (c.free (bl := []) (by decide +kernel))
theorem p_less (c : Hd lFa lFn lCs K mg h) : GoodF Pg w K mg base "less" P_less 1 := (g_less c).imp le_less
theorem m_no_more : cmpSs (cmpS T_no_more (defScope (rTop 14)) 40) (defBody (rTop 14)) = some B_no_more := by kernel_rfl
theorem g_no_more (c : Hd lFa lFn lCs K mg h) : GoodF Pg w K mg base "no_more" F_no_more 1 := by
  obtain ⟨fd, F⟩ := c.c.def_ 9 (d := d_no_more) rfl
  exact def_ok (T := T_no_more) (ps := ["one", "other"]) (np := 2) (nn := 2) F rfl (c.glo 9 rfl) (fun _ _ _ _ _ _ us hl => match us, hl with | [_, _], _ => rfl) ⟨rfl, rfl, rfl, by decide +kernel, rfl, by decide +kernel, by decide +kernel⟩ (by decide +kernel) rfl rfl m_no_more (.nil) (.nil) (c.free (bl := []) (by decide +kernel))
theorem p_no_more (c : Hd lFa lFn lCs K mg h) : GoodF Pg w K mg base "no_more" P_no_more 1 := (g_no_more c).imp le_no_more
theorem m_lesser : cmpSs (cmpS T_lesser (defScope (rTop 15)) 40) (defBody (rTop 15)) = some B_lesser := by kernel_rfl
theorem g_lesser (c : Hd lFa lFn lCs K mg h) : GoodF Pg w K mg base "lesser" F_lesser 2 := by
  obtain ⟨fd, F⟩ := c.c.def_ 10 (d := d_lesser) rfl
  exact def_ok (T := T_lesser) (ps := ["one", "other"]) (np := 2) (nn := 2) F rfl (c.glo 10 rfl) (fun _ _ _ _ _ _ us hl => match us, hl with | [_, _], _ => rfl) ⟨rfl, rfl, rfl, by decide +kernel, rfl, by decide +kernel, by decide +kernel⟩ (by decide +kernel) rfl rfl m_lesser (.cons ((p_less c).mono rfl) (.nil)) (.nil) (c.free (bl := []) (by decide +kernel))
theorem m_greater : cmpSs (cmpS T_greater (defScope (rTop 16)) 40) (defBody (rTop 16)) = some B_greater := by kernel_rfl
theorem g_greater (c : Hd lFa lFn lCs K mg h) : GoodF Pg w K mg base "greater" F_greater 2 := by
  obtain ⟨fd, F⟩ := c.c.def_ 11 (d := d_greater) rfl
  exact def_ok (T := T_greater) (ps := ["one", "other"]) (np := 2) (nn := 2) F rfl (c.glo 11 rfl) (fun _ _ _ _ _ _ us hl => match us, hl with | [_, _], _ => rfl) ⟨rfl, rfl, rfl, by decide +kernel, rfl, by decide +kernel, by decide +kernel⟩ (by decide +kernel) rfl rfl m_greater (.cons ((p_less c).mono rfl) (.nil)) (.nil) (c.free (bl := []) (by decide +kernel))
theorem m_is_point : cmpSs (cmpS T_is_point (defScope (rTop 18)) 40) (defBody (rTop 18)) = some B_is_point := by kernel_rfl
theorem g_is_point (c : Hd lFa lFn lCs K mg h) : GoodF Pg w K mg base "is_point" F_is_point 3 := by
  obtain ⟨fd, F⟩ := c.c.def_ 12 (d := d_is_point) rfl
  exact def_ok (T := T_is_point) (ps := ["thing"]) (np := 1) (nn := 1) F rfl (c.glo 12 rfl) (fun _ _ _ _ _ _ us hl => match us, hl with | [_], _ => rfl) ⟨rfl, rfl, rfl, by decide +kernel, rfl, by decide +kernel, by decide +kernel⟩ (by decide +kernel) rfl rfl m_is_point (.cons ((g_is_many c).mono rfl) (.cons ((p_is_fraction c).mono rfl) (.nil))) (.nil) (c.free (bl := []) (by decide +kernel))
theorem m_is_problem : cmpSs (cmpS T_is_problem (defScope (rTop 21)) 40) (defBody (rTop 21)) = some B_is_problem := by kernel_rfl
theorem g_is_problem (c : Hd lFa lFn lCs K mg h) : GoodF Pg w K mg base "is_problem" F_is_problem 4 := by
  obtain ⟨fd, F⟩ := c.c.def_ 13 (d := d_is_problem) rfl
  exact def_ok (T := T_is_problem) (ps := ["thing"]) (np := 1) (nn := 2) F rfl (c.glo 13 rfl) (fun _ _ _ _ _ _ us hl => match us, hl with | [_], _ => rfl) ⟨rfl, rfl, rfl, by decide +kernel, rfl, by decide +kernel, by decide +kernel⟩ (by decide +kernel) rfl rfl m_is_problem (.cons ((p_no_more c).mono rfl) (.cons ((p_plus c).mono rfl) (.cons ((g_is_many c).mono rfl) (.cons ((p_is_fraction c).mono rfl) (.cons ((g_is_point c).mono rfl) (.nil)))))) (.cons (c.cs.get (t := lCs) (x := "NOUGHT") (by kernel_rfl)) (.nil)) (c.free (bl := ["all"]) (by decide +kernel))
theorem m_check_problem : cmpSs (cmpS T_check_problem (defScope (rTop 22)) 40) (defBody (rTop 22)) = some B_check_problem := by kernel_rfl
theorem g_check_problem (c : Hd lFa lFn lCs K mg h) : GoodF Pg w K mg base "check_problem" F_check_problem 5 := by
  obtain ⟨fd, F⟩ := c.c.def_ 14 (d := d_check_problem) rfl
  exact def_ok (T := T_check_problem) (ps := ["problem"]) (np := 1) (nn := 1) F rfl (c.glo 14 rfl) (fun _ _ _ _ _ _ us hl => match us, hl with | [_], _ => rfl) ⟨rfl, rfl, rfl, by decide +kernel, rfl, by decide +kernel, by decide +kernel⟩ (by decide +kernel) rfl rfl m_check_problem (.cons ((g_is_problem c).mono rfl) (.nil)) (.nil) (c.free (bl := []) (by decide +kernel))
theorem m_check_claim_rule : cmpSs (cmpS T_check_claim_rule (defScope (rTop 23)) 40) (defBody (rTop 23)) = some B_check_claim_rule := by kernel_rfl
theorem g_check_claim_rule (c : Hd lFa lFn lCs K mg h) : GoodF Pg w K mg base "check_claim_rule" F_check_claim_rule 1 := by
  obtain ⟨fd, F⟩ := c.c.def_ 15 (d := d_check_claim_rule) rfl
  exact def_ok (T := T_check_claim_rule) (ps := ["word"]) (np := 1) (nn := 1) F rfl (c.glo 15 rfl) (fun _ _ _ _ _ _ us hl => match us, hl with | [_], _ => rfl) ⟨rfl, rfl, rfl, by decide +kernel, rfl, by decide +kernel, by decide +kernel⟩ (by decide +kernel) rfl rfl m_check_claim_rule (.nil) (.cons (c.cs.get (t := lCs) (x := "CLAIM_RULES") (by kernel_rfl)) (.nil)) (c.free (bl := ["isinstance", "str"]) (by decide +kernel))
theorem m_is_awards : cmpSs (cmpS T_is_awards (defScope (rTop 24)) 40) (defBody (rTop 24)) = some B_is_awards := by kernel_rfl
theorem g_is_awards (c : Hd lFa lFn lCs K mg h) : GoodF Pg w K mg base "is_awards" F_is_awards 6 := by
  obtain ⟨fd, F⟩ := c.c.def_ 16 (d := d_is_awards) rfl
  exact def_ok (T := T_is_awards) (ps := ["problem", "thing"]) (np := 2) (nn := 4) F rfl (c.glo 16 rfl) (fun _ _ _ _ _ _ us hl => match us, hl with | [_, _], _ => rfl) ⟨rfl, rfl, rfl, by decide +kernel, rfl, by decide +kernel, by decide +kernel⟩ (by decide +kernel) rfl rfl m_is_awards (.cons ((g_check_problem c).mono rfl) (.cons ((g_is_point c).mono rfl) (.cons ((p_plus c).mono rfl) (.cons ((p_no_more c).mono rfl) (.nil))))) (.cons (c.cs.get (t := lCs) (x := "NOUGHT") (by kernel_rfl)) (.nil)) (c.free (bl := ["all", "zip"]) (by decide +kernel))
theorem m_check_awards : cmpSs (cmpS T_check_awards (defScope (rTop 25)) 40) (defBody (rTop 25)) = some B_check_awards := by kernel_rfl
theorem g_check_awards (c : Hd lFa lFn lCs K mg h) : GoodF Pg w K mg base "check_awards" F_check_awards 7 := by
  obtain ⟨fd, F⟩ := c.c.def_ 17 (d := d_check_awards) rfl
  exact def_ok (T := T_check_awards) (ps := ["problem", "awards"]) (np := 2) (nn := 2) F rfl (c.glo 17 rfl) (fun _ _ _ _ _ _ us hl => match us, hl with | [_, _], _ => rfl) ⟨rfl, rfl, rfl, by decide +kernel, rfl, by decide +kernel, by decide +kernel⟩ (by decide +kernel) rfl rfl m_check_awards (.cons ((g_is_awards c).mono rfl) (.nil)) (.nil) (c.free (bl := []) (by decide +kernel))
theorem m_cut_problem : cmpSs (cmpS T_cut_problem (defScope (rTop 26)) 40) (defBody (rTop 26)) = some B_cut_problem := by kernel_rfl
theorem g_cut_problem (c : Hd lFa lFn lCs K mg h) : GoodF Pg w K mg base "cut_problem" F_cut_problem 6 := by
  obtain ⟨fd, F⟩ := c.c.def_ 18 (d := d_cut_problem) rfl
  exact def_ok (T := T_cut_problem) (ps := ["problem"]) (np := 1) (nn := 2) F rfl (c.glo 18 rfl) (fun _ _ _ _ _ _ us hl => match us, hl with | [_], _ => rfl) ⟨rfl, rfl, rfl, by decide +kernel, rfl, by decide +kernel, by decide +kernel⟩ (by decide +kernel) rfl rfl m_cut_problem (.cons ((g_check_problem c).mono rfl) (.cons ((g_lesser c).mono rfl) (.nil))) (.nil) (c.free (bl := ["tuple"]) (by decide +kernel))
theorem m_turned_problem : cmpSs (cmpS T_turned_problem (defScope (rTop 27)) 40) (defBody (rTop 27)) = some B_turned_problem := by kernel_rfl
theorem g_turned_problem (c : Hd lFa lFn lCs K mg h) : GoodF Pg w K mg base "turned_problem" F_turned_problem 6 := by
  obtain ⟨fd, F⟩ := c.c.def_ 19 (d := d_turned_problem) rfl
  exact def_ok (T := T_turned_problem) (ps := ["problem"]) (np := 1) (nn := 1) F rfl (c.glo 19 rfl) (fun _ _ _ _ _ _ us hl => match us, hl with | [_], _ => rfl) ⟨rfl, rfl, rfl, by decide +kernel, rfl, by decide +kernel, by decide +kernel⟩ (by decide +kernel) rfl rfl m_turned_problem (.cons ((g_check_problem c).mono rfl) (.cons ((p_minus c).mono rfl) (.cons ((p_plus c).mono rfl) (.nil)))) (.nil) (c.free (bl := []) (by decide +kernel))
theorem m_rights_of : cmpSs (cmpS T_rights_of (defScope (rTop 28)) 40) (defBody (rTop 28)) = some B_rights_of := by kernel_rfl
theorem g_rights_of (c : Hd lFa lFn lCs K mg h) : GoodF Pg w K mg base "rights_of" F_rights_of 6 := by
  obtain ⟨fd, F⟩ := c.c.def_ 20 (d := d_rights_of) rfl
  exact def_ok (T := T_rights_of) (ps := ["problem"]) (np := 1) (nn := 2) F rfl (c.glo 20 rfl) (fun _ _ _ _ _ _ us hl => match us, hl with | [_], _ => rfl) ⟨rfl, rfl, rfl, by decide +kernel, rfl, by decide +kernel, by decide +kernel⟩ (by decide +kernel) rfl rfl m_rights_of (.cons ((g_check_problem c).mono rfl) (.cons ((g_greater c).mono rfl) (.cons ((p_minus c).mono rfl) (.nil)))) (.cons (c.cs.get (t := lCs) (x := "NOUGHT") (by kernel_rfl)) (.nil)) (c.free (bl := ["tuple"]) (by decide +kernel))
theorem m_rest_problem : cmpSs (cmpS T_rest_problem (defScope (rTop 29)) 40) (defBody (rTop 29)) = some B_rest_problem := by kernel_rfl
theorem g_rest_problem (c : Hd lFa lFn lCs K mg h) : GoodF Pg w K mg base "rest_problem" F_rest_problem 7 := by
  obtain ⟨fd, F⟩ := c.c.def_ 21 (d := d_rest_problem) rfl
  exact def_ok (T := T_rest_problem) (ps := ["problem"]) (np := 1) (nn := 5) F rfl (c.glo 21 rfl) (fun _ _ _ _ _ _ us hl => match us, hl with | [_], _ => rfl) ⟨rfl, rfl, rfl, by decide +kernel, rfl, by decide +kernel, by decide +kernel⟩ (by decide +kernel) rfl rfl m_rest_problem (.cons ((g_rights_of c).mono rfl) (.cons ((p_minus c).mono rfl) (.cons ((p_plus c).mono rfl) (.nil)))) (.nil) (c.free (bl := ["tuple", "zip"]) (by decide +kernel))
theorem m_problem_after : cmpSs (cmpS T_problem_after (defScope (rTop 30)) 40) (defBody (rTop 30)) = some B_problem_after := by kernel_rfl
theorem g_problem_after (c : Hd lFa lFn lCs K mg h) : GoodF Pg w K mg base "problem_after" F_problem_after 8 := by
  obtain ⟨fd, F⟩ := c.c.def_ 22 (d := d_problem_after) rfl
  exact def_ok (T := T_problem_after) (ps := ["problem", "first", "awards"]) (np := 3) (nn := 5) F rfl (c.glo 22 rfl) (fun _ _ _ _ _ _ us hl => match us, hl with | [_, _, _], _ => rfl) ⟨rfl, rfl, rfl, by decide +kernel, rfl, by decide +kernel, by decide +kernel⟩ (by decide +kernel) rfl rfl m_problem_after (.cons ((g_check_problem c).mono rfl) (.cons ((g_check_awards c).mono rfl) (.cons ((p_less c).mono rfl) (.cons ((p_minus c).mono rfl) (.cons ((p_is_fraction c).mono rfl) (.nil)))))) (.cons (c.cs.get (t := lCs) (x := "NOUGHT") (by kernel_rfl)) (.nil)) (c.free (bl := ["tuple", "zip"]) (by decide +kernel))
theorem m_in_turn : cmpSs (cmpS T_in_turn (defScope (rTop 33)) 40) (defBody (rTop 33)) = some B_in_turn := by kernel_rfl
theorem g_in_turn (c : Hd lFa lFn lCs K mg h) : GoodF Pg w K mg base "in_turn" F_in_turn 1 := by
  obtain ⟨fd, F⟩ := c.c.def_ 23 (d := d_in_turn) rfl
  exact def_ok (T := T_in_turn) (ps := ["side", "mine", "theirs"]) (np := 3) (nn := 3) F rfl (c.glo 23 rfl) (fun _ _ _ _ _ _ us hl => match us, hl with | [_, _, _], _ => rfl) ⟨rfl, rfl, rfl, by decide +kernel, rfl, by decide +kernel, by decide +kernel⟩ (by decide +kernel) rfl rfl m_in_turn (.nil) (.nil) (c.free (bl := []) (by decide +kernel))
theorem m_power_below : cmpSs (cmpS T_power_below (defScope (rTop 34)) 40) (defBody (rTop 34)) = some B_power_below := by kernel_rfl
theorem g_power_below (c : Hd lFa lFn lCs K mg h) : GoodF Pg w K mg base "power_below" F_power_below 3 := by
  obtain ⟨fd, F⟩ := c.c.def_ 24 (d := d_power_below) rfl
  exact def_ok (T := T_power_below) (ps := ["number"]) (np := 1) (nn := 2) F rfl (c.glo 24 rfl) (fun _ _ _ _ _ _ us hl => match us, hl with | [_], _ => rfl) ⟨rfl, rfl, rfl, by decide +kernel, rfl, by decide +kernel, by decide +kernel⟩ (by decide +kernel) rfl rfl m_power_below (.cons ((p_less c).mono rfl) (.cons ((p_no_more c).mono rfl) (.cons ((p_times c).mono rfl) (.nil)))) (.cons (c.cs.get (t := lCs) (x := "NOUGHT") (by kernel_rfl)) (.nil)) (c.free (bl := []) (by decide +kernel))
theorem N_nd_awards_by : N_awards_by.Nodup := by decide +kernel
theorem g_awards_by__0 (c : Hd lFa lFn lCs K mg h) : GoodF Pg w K mg base "awards_by" F_awards_by__0 7 := by
  obtain ⟨fd, F⟩ := c.c.def_ 25 (d := d_awards_by) rfl
  exact def_bad (ps := ["word", "problem"]) F rfl (c.glo 25 rfl) (fun _ _ _ _ _ _ us hl => match us, hl with | [_, _], _ => rfl) ⟨rfl, rfl, rfl, N_nd_awards_by, rfl, by decide +kernel, by decide +kernel⟩
theorem m_awards_by__1 : cmpSs (cmpS T_awards_by__1 (defScope (rTop 32)) 40) (defBody (rTop 32)) = some B_awards_by__1 := by kernel_rfl
theorem g_awards_by__1 (c : Hd lFa lFn lCs K mg h) : GoodF Pg w K mg base "awards_by" F_awards_by__1 8 := by
  obtain ⟨fd, F⟩ := c.c.def_ 25 (d := d_awards_by) rfl
  exact def_ok (T := T_awards_by__1) (ps := ["word", "problem"]) (np := 2) (nn := 13) F rfl (c.glo 25 rfl) (fun _ _ _ _ _ _ us hl => match us, hl with | [_, _], _ => rfl) ⟨rfl, rfl, rfl, by decide +kernel, rfl, by decide +kernel, by decide +kernel⟩ (by decide +kernel) rfl rfl m_awards_by__1 (.cons ((g_lesser c).mono rfl) (.cons ((g_in_turn c).mono rfl) (.cons ((g_awards_by__0 c).mono rfl) (.cons ((p_plus c).mono rfl) (.cons ((g_rights_of c).mono rfl) (.cons ((p_times c).mono rfl) (.cons ((p_less c).mono rfl) (.cons ((g_power_below c).mono rfl) (.cons ((p_minus c).mono rfl) (.cons ((g_turned_problem c).mono rfl) (.cons ((p_over c).mono rfl) (.nil)))))))))))) (.cons (c.cs.get (t := lCs) (x := "NOUGHT") (by kernel_rfl)) (.nil)) (c.free (bl := []) (by decide +kernel))
theorem m_awards_by__2 : cmpSs (cmpS T_awards_by__2 (defScope (rTop 32)) 40) (defBody (rTop 32)) = some B_awards_by__2 := by kernel_rfl
theorem g_awards_by__2 (c : Hd lFa lFn lCs K mg h) : GoodF Pg w K mg base "awards_by" F_awards_by__2 9 := by
  obtain ⟨fd, F⟩ := c.c.def_ 25 (d := d_awards_by) rfl
  exact def_ok (T := T_awards_by__2) (ps := ["word", "problem"]) (np := 2) (nn := 13) F rfl (c.glo 25 rfl) (fun _ _ _ _ _ _ us hl => match us, hl with | [_, _], _ => rfl) ⟨rfl, rfl, rfl, by decide +kernel, rfl, by decide +kernel, by decide +kernel⟩ (by decide +kernel) rfl rfl m_awards_by__2 (.cons ((g_lesser c).mono rfl) (.cons ((g_in_turn c).mono rfl) (.cons ((g_awards_by__1 c).mono rfl) (.cons ((p_plus c).mono rfl) (.cons ((g_rights_of c).mono rfl) (.cons ((p_times c).mono rfl) (.cons ((p_less c).mono rfl) (.cons ((g_power_below c).mono rfl) (.cons ((p_minus c).mono rfl) (.cons ((g_turned_problem c).mono rfl) (.cons ((p_over c).mono rfl) (.nil)))))))))))) (.cons (c.cs.get (t := lCs) (x := "NOUGHT") (by kernel_rfl)) (.nil)) (c.free (bl := []) (by decide +kernel))
theorem m_awards_by : cmpSs (cmpS T_awards_by (defScope (rTop 32)) 40) (defBody (rTop 32)) = some B_awards_by := by kernel_rfl
theorem g_awards_by (c : Hd lFa lFn lCs K mg h) : GoodF Pg w K mg base "awards_by" F_awards_by 10 := by
  obtain ⟨fd, F⟩ := c.c.def_ 25 (d := d_awards_by) rfl
  exact def_ok (T := T_awards_by) (ps := ["word", "problem"]) (np := 2) (nn := 13) F rfl (c.glo 25 rfl) (fun _ _ _ _ _ _ us hl => match us, hl with | [_, _], _ => rfl) ⟨rfl, rfl, rfl, by decide +kernel, rfl, by decide +kernel, by decide +kernel⟩ (by decide +kernel) rfl rfl m_awards_by (.cons ((g_lesser c).mono rfl) (.cons ((g_in_turn c).mono rfl) (.cons ((g_awards_by__2 c).mono rfl) (.cons ((p_plus c).mono rfl) (.cons ((g_rights_of c).mono rfl) (.cons ((p_times c).mono rfl) (.cons ((p_less c).mono rfl) (.cons ((g_power_below c).mono rfl) (.cons ((p_minus c).mono rfl) (.cons ((g_turned_problem c).mono rfl) (.cons ((p_over c).mono rfl) (.nil)))))))))))) (.cons (c.cs.get (t := lCs) (x := "NOUGHT") (by kernel_rfl)) (.nil)) (c.free (bl := []) (by decide +kernel))
theorem m_awards_of : cmpSs (cmpS T_awards_of (defScope (rTop 31)) 40) (defBody (rTop 31)) = some B_awards_of := by kernel_rfl
theorem g_awards_of (c : Hd lFa lFn lCs K mg h) : GoodF Pg w K mg base "awards_of" F_awards_of 11 := by
  obtain ⟨fd, F⟩ := c.c.def_ 26 (d := d_awards_of) rfl
  exact def_ok (T := T_awards_of) (ps := ["word", "problem"]) (np := 2) (nn := 2) F rfl (c.glo 26 rfl) (fun _ _ _ _ _ _ us hl => match us, hl with | [_, _], _ => rfl) ⟨rfl, rfl, rfl, by decide +kernel, rfl, by decide +kernel, by decide +kernel⟩ (by decide +kernel) rfl rfl m_awards_of (.cons ((g_check_claim_rule c).mono rfl) (.cons ((g_check_problem c).mono rfl) (.cons ((g_awards_by c).mono rfl) (.nil)))) (.nil) (c.free (bl := []) (by decide +kernel))
theorem m__law_cell_at : cmpSs (cmpS T__law_cell_at (defScope (rTop 36)) 40) (defBody (rTop 36)) = some B__law_cell_at := by kernel_rfl
theorem g__law_cell_at (c : Hd lFa lFn lCs K mg h) : GoodF Pg w K mg base "_law_cell_at" F__law_cell_at 1 := by
  obtain ⟨fd, F⟩ := c.c.def_ 27 (d := d__law_cell_at) rfl
  exact def_ok (T := T__law_cell_at) (ps := ["script", "k"]) (np := 2) (nn := 2) F rfl (c.glo 27 rfl) (fun _ _ _ _ _ _ us hl => match us, hl with | [_, _], _ => rfl) ⟨rfl, rfl, rfl, by decide +kernel, rfl, by decide +kernel, by decide +kernel⟩ (by decide +kernel) rfl rfl m__law_cell_at (.nil) (.nil) (c.free (bl := ["len"]) (by decide +kernel))
theorem m__law_draw : cmpSs (cmpS T__law_draw (defScope (rTop 37)) 40) (defBody (rTop 37)) = some B__law_draw := by kernel_rfl
theorem g__law_draw (c : Hd lFa lFn lCs K mg h) : GoodF Pg w K mg base "_law_draw" F__law_draw 1 := by
  obtain ⟨fd, F⟩ := c.c.def_ 28 (d := d__law_draw) rfl
  exact def_ok (T := T__law_draw) (ps := ["cell", "k", "bound"]) (np := 3) (nn := 4) F rfl (c.glo 28 rfl) (fun _ _ _ _ _ _ us hl => match us, hl with | [_, _, _], _ => rfl) ⟨rfl, rfl, rfl, by decide +kernel, rfl, by decide +kernel, by decide +kernel⟩ (by decide +kernel) rfl rfl m__law_draw (.nil) (.nil) (c.free (bl := ["int"]) (by decide +kernel))
theorem m__law_number : cmpSs (cmpS T__law_number (defScope (rTop 38)) 40) (defBody (rTop 38)) = some B__law_number := by kernel_rfl
theorem g__law_number (c : Hd lFa lFn lCs K mg h) : GoodF Pg w K mg base "_law_number" F__law_number 2 := by
  obtain ⟨fd, F⟩ := c.c.def_ 29 (d := d__law_number) rfl
  exact def_ok (T := T__law_number) (ps := ["cell", "k", "bound"]) (np := 3) (nn := 7) F rfl (c.glo 29 rfl) (fun _ _ _ _ _ _ us hl => match us, hl with | [_, _, _], _ => rfl) ⟨rfl, rfl, rfl, by decide +kernel, rfl, by decide +kernel, by decide +kernel⟩ (by decide +kernel) rfl rfl m__law_number (.cons ((g__law_draw c).mono rfl) (.nil)) (.nil) (c.free (bl := ["range", "int"]) (by decide +kernel))
theorem m__law_next : cmpSs (cmpS T__law_next (defScope (rTop 39)) 40) (defBody (rTop 39)) = some B__law_next := by kernel_rfl
theorem g__law_next (c : Hd lFa lFn lCs K mg h) : GoodF Pg w K mg base "_law_next" F__law_next 3 := by
  obtain ⟨fd, F⟩ := c.c.def_ 30 (d := d__law_next) rfl
  exact def_ok (T := T__law_next) (ps := ["draw", "bound"]) (np := 2) (nn := 4) F rfl (c.glo 30 rfl) (fun _ _ _ _ _ _ us hl => match us, hl with | [_, _], _ => rfl) ⟨rfl, rfl, rfl, by decide +kernel, rfl, by decide +kernel, by decide +kernel⟩ (by decide +kernel) rfl rfl m__law_next (.cons ((g__law_number c).mono rfl) (.cons ((g__law_cell_at c).mono rfl) (.nil))) (.nil) (c.free (bl := ["int"]) (by decide +kernel))
theorem m__law_problem : cmpSs (cmpS T__law_problem (defScope (rTop 40)) 40) (defBody (rTop 40)) = some B__law_problem := by kernel_rfl
theorem g__law_problem (c : Hd lFa lFn lCs K mg h) : GoodF Pg w K mg base "_law_problem" F__law_problem 4 := by
  obtain ⟨fd, F⟩ := c.c.def_ 31 (d := d__law_problem) rfl
  exact def_ok (T := T__law_problem) (ps := ["draw"]) (np := 1) (nn := 3) F rfl (c.glo 31 rfl) (fun _ _ _ _ _ _ us hl => match us, hl with | [_], _ => rfl) ⟨rfl, rfl, rfl, by decide +kernel, rfl, by decide +kernel, by decide +kernel⟩ (by decide +kernel) rfl rfl m__law_problem (.cons ((p_lean c).mono rfl) (.cons ((g__law_next c).mono rfl) (.cons ((p_times c).mono rfl) (.cons ((p_plus c).mono rfl) (.nil))))) (.nil) (c.free (bl := []) (by decide +kernel))
theorem m__law_least : cmpSs (cmpS T__law_least (defScope (rTop 41)) 40) (defBody (rTop 41)) = some B__law_least := by kernel_rfl
theorem g__law_least (c : Hd lFa lFn lCs K mg h) : GoodF Pg w K mg base "_law_least" F__law_least 2 := by
  obtain ⟨fd, F⟩ := c.c.def_ 32 (d := d__law_least) rfl
  exact def_ok (T := T__law_least) (ps := ["one", "other"]) (np := 2) (nn := 2) F rfl (c.glo 32 rfl) (fun _ _ _ _ _ _ us hl => match us, hl with | [_, _], _ => rfl) ⟨rfl, rfl, rfl, by decide +kernel, rfl, by decide +kernel, by decide +kernel⟩ (by decide +kernel) rfl rfl m__law_least (.cons ((p_less c).mono rfl) (.nil)) (.nil) (c.free (bl := []) (by decide +kernel))
theorem m__law_most : cmpSs (cmpS T__law_most (defScope (rTop 42)) 40) (defBody (rTop 42)) = some B__law_most := by kernel_rfl
theorem g__law_most (c : Hd lFa lFn lCs K mg h) : GoodF Pg w K mg base "_law_most" F__law_most 2 := by
  obtain ⟨fd, F⟩ := c.c.def_ 33 (d := d__law_most) rfl
  exact def_ok (T := T__law_most) (ps := ["one", "other"]) (np := 2) (nn := 2) F rfl (c.glo 33 rfl) (fun _ _ _ _ _ _ us hl => match us, hl with | [_, _], _ => rfl) ⟨rfl, rfl, rfl, by decide +kernel, rfl, by decide +kernel, by decide +kernel⟩ (by decide +kernel) rfl rfl m__law_most (.cons ((p_less c).mono rfl) (.nil)) (.nil) (c.free (bl := []) (by decide +kernel))
theorem m__law_two : cmpSs (cmpS T__law_two (defScope (rTop 43)) 40) (defBody (rTop 43)) = some B__law_two := by kernel_rfl
theorem g__law_two (c : Hd lFa lFn lCs K mg h) : GoodF Pg w K mg base "_law_two" F__law_two 1 := by
  obtain ⟨fd, F⟩ := c.c.def_ 34 (d := d__law_two) rfl
  exact def_ok (T := T__law_two) (ps := ["number"]) (np := 1) (nn := 3) F rfl (c.glo 34 rfl) (fun _ _ _ _ _ _ us hl => match us, hl with | [_], _ => rfl) ⟨rfl, rfl, rfl, by decide +kernel, rfl, by decide +kernel, by decide +kernel⟩ (by decide +kernel) rfl rfl m__law_two (.nil) (.nil) (c.free (bl := []) (by decide +kernel))
theorem m__law_steps : cmpSs (cmpS T__law_steps (defScope (rTop 44)) 40) (defBody (rTop 44)) = some B__law_steps := by kernel_rfl
theorem g__law_steps (c : Hd lFa lFn lCs K mg h) : GoodF Pg w K mg base "_law_steps" F__law_steps 3 := by
  obtain ⟨fd, F⟩ := c.c.def_ 35 (d := d__law_steps) rfl
  exact def_ok (T := T__law_steps) (ps := ["problem"]) (np := 1) (nn := 9) F rfl (c.glo 35 rfl) (fun _ _ _ _ _ _ us hl => match us, hl with | [_], _ => rfl) ⟨rfl, rfl, rfl, by decide +kernel, rfl, by decide +kernel, by decide +kernel⟩ (by decide +kernel) rfl rfl m__law_steps (.cons ((p_times c).mono rfl) (.cons ((g__law_least c).mono rfl) (.cons ((p_minus c).mono rfl) (.cons ((g__law_most c).mono rfl) (.cons ((g__law_two c).mono rfl) (.cons ((p_plus c).mono rfl) (.nil))))))) (.nil) (c.free (bl := []) (by decide +kernel))
theorem m__law_alike : cmpSs (cmpS T__law_alike (defScope (rTop 45)) 40) (defBody (rTop 45)) = some B__law_alike := by kernel_rfl
theorem g__law_alike (c : Hd lFa lFn lCs K mg h) : GoodF Pg w K mg base "_law_alike" F__law_alike 3 := by
  obtain ⟨fd, F⟩ := c.c.def_ 36 (d := d__law_alike) rfl
  exact def_ok (T := T__law_alike) (ps := ["problem"]) (np := 1) (nn := 4) F rfl (c.glo 36 rfl) (fun _ _ _ _ _ _ us hl => match us, hl with | [_], _ => rfl) ⟨rfl, rfl, rfl, by decide +kernel, rfl, by decide +kernel, by decide +kernel⟩ (by decide +kernel) rfl rfl m__law_alike (.cons ((p_times c).mono rfl) (.cons ((p_less c).mono rfl) (.cons ((p_minus c).mono rfl) (.nil)))) (.nil) (c.free (bl := []) (by decide +kernel))
theorem m__law_awards : cmpSs (cmpS T__law_awards (defScope (rTop 46)) 40) (defBody (rTop 46)) = some B__law_awards := by kernel_rfl
theorem g__law_awards (c : Hd lFa lFn lCs K mg h) : GoodF Pg w K mg base "_law_awards" F__law_awards 4 := by
  obtain ⟨fd, F⟩ := c.c.def_ 37 (d := d__law_awards) rfl
  exact def_ok (T := T__law_awards) (ps := ["word", "problem"]) (np := 2) (nn := 10) F rfl (c.glo 37 rfl) (fun _ _ _ _ _ _ us hl => match us, hl with | [_, _], _ => rfl) ⟨rfl, rfl, rfl, by decide +kernel, rfl, by decide +kernel, by decide +kernel⟩ (by decide +kernel) rfl rfl m__law_awards (.cons ((p_minus c).mono rfl) (.cons ((p_times c).mono rfl) (.cons ((p_plus c).mono rfl) (.cons ((g__law_alike c).mono rfl) (.cons ((g__law_steps c).mono rfl) (.cons ((p_over c).mono rfl) (.cons ((g__law_most c).mono rfl) (.cons ((g__law_least c).mono rfl) (.nil))))))))) (.nil) (c.free (bl := []) (by decide +kernel))
theorem m_law : cmpSs (cmpS T_law (defScope (rTop 47)) 40) (defBody (rTop 47)) = some B_law := by kernel_rfl
theorem g_law {fd : FuncData} (F : FunD K "law" "law" (defArgs (rTop 47)) (defBody (rTop 47)) (defScope (rTop 47)) [] [] (He.ga K "law") fd) (c : Hd lFa lFn lCs K mg h) : FnOk Pg w K mg base CX0 12 (He.ga K "law") fd ["script"] (spOf K F_law) :=
  def_fn (T := T_law) (ps := ["script"]) (np := 1) (nn := 18) F ⟨rfl, rfl, rfl, by decide +kernel, rfl, by decide +kernel, by decide +kernel⟩ (by decide +kernel) rfl rfl m_law (.cons ((g__law_problem c).mono rfl) (.cons ((p_plus c).mono rfl) (.cons ((g__law_most c).mono rfl) (.cons ((p_minus c).mono rfl) (.cons ((g_awards_of c).mono rfl) (.cons ((p_times c).mono rfl) (.cons ((g_problem_after c).mono rfl) (.cons ((p_lean c).mono rfl) (.cons ((g_is_awards c).mono rfl) (.cons ((g_is_problem c).mono rfl) (.cons ((g_cut_problem c).mono rfl) (.cons ((g_turned_problem c).mono rfl) (.cons ((g_rights_of c).mono rfl) (.cons ((g_rest_problem c).mono rfl) (.cons ((g__law_next c).mono rfl) (.cons ((p_less c).mono rfl) (.cons ((g__law_awards c).mono rfl) (.cons ((g__law_least c).mono rfl) (.nil))))))))))))))))))) (.nil) (c.free (bl := ["range", "any", "zip"]) (by decide +kernel))
end
def lL0 : List Str := ["AgreeError", "BadThing", "NOUGHT", "is_whole", "is_many", "lean", "is_fraction", "plus", "minus", "times", "over", "less", "no_more", "lesser", "greater", "is_point", "CLAIM_RULES", "is_problem", "check_problem", "check_claim_rule", "is_awards", "check_awards", "cut_problem", "turned_problem", "rights_of"]
def lL1 : List Str := ["rest_problem", "problem_after", "awards_of", "awards_by", "in_turn", "power_below", "_law_cell_at", "_law_draw", "_law_number", "_law_next", "_law_problem", "_law_least", "_law_most", "_law_two", "_law_steps", "_law_alike", "_law_awards"]
def lLoose : List Str := lL0 ++ lL1
abbrev lR : PySem.W.OpenRow := PySem.W.OpenLaw.row PySem.Challenge.rw_whatagreed_k57_whole_claims
abbrev lHk : PySem.W.Hook := hookC 4 lFa lFn lCs
def lOb (s : PySem.W.SharedT) : AlE := obsC 4 lFa lFn lCs (HandSHeadRun.getT s)
theorem lOb_eq (s : PySem.W.SharedT) : lOb s = lHk.obs s.abs := obsC_eq (HandSHeadRun.getT_eq s)
theorem lRun (w : World) : HandSHeadRun.RunEq lR (PySem.W.view lR.prog [47]) lHk lOb 4000 lLoose w := by
  intro os
  kernel_rfl
end Ev
open PySem PySem.W PySem.Calls PyProof.Rows
theorem PySem.Challenge.cw_whatagreed_k57_whole_claims_holds : PySem.Challenge.rw_whatagreed_k57_whole_claims.Holds := by
  w_on; o_law
  refine HandSHeadRun.head_any (r := Ev.lR) (q := view Ev.lR.prog [47]) (H := Ev.lHk) (ob := Ev.lOb) (M := 4000) (loose := Ev.lLoose) (d := HandSHeadRun.topDef Ev.lR.prog 47) (kwd := []) Ev.lOb_eq
    (by kernel_rfl) (fun s => by kernel_rfl) Ev.lRun (by kernel_rfl) (by kernel_rfl) (by kernel_rfl) (by rfl) (by first | assumption | decide +kernel) (by decide +kernel) ⟨rfl, rfl, rfl, rfl, rfl, by decide +kernel⟩ ?hw ?hc
  case hw => w_witness2
  case hc =>
    refine L2.walk_ofE (l := PySem.Challenge.rw_whatagreed_k57_whole_claims) (n := 63) (k := 12) (x := "script") (CX := L2.CX0) rfl (by decide) (by kernel_rfl) ⟨rfl, by decide, by decide⟩ ?F (fun _ _ _ _ z => z)
    intro w mg fa h Y G hmg0
    obtain ⟨K, KX, c, cb⟩ := Y
    have hmg : mg ("law" : PySem.Str) = some (.ref fa) := by
      have e : (HandSHeadRun.topDef Ev.lR.prog 47).name = ("law" : PySem.Str) := by kernel_rfl
      rw [← e]
      exact hmg0
    obtain ⟨fd, F⟩ := c.def_ 38 (d := Ev.d_law) rfl
    have e := hmg.symm.trans (He.glo_ok KX G (c.fact 38 (f := .glo "law") rfl))
    cases e
    have b := L2.FunD.bindsA (ps := ["script"]) F fun _ _ _ _ _ _ us hl => match us, hl with | [_], _ => rfl
    exact ⟨K, fd, Ev.spOf K Ev.F_law, KX, fun s v => b s [v] rfl, fun H a ns hl ho hS => Ev.law_sp ho hS (Ev.law_true ns hl), fun base _ _ => Ev.g_law F ⟨KX, G, c, Ev.cstB_ok KX G cb⟩⟩
