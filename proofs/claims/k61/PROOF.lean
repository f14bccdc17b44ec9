import PyProof.Rows.All
import Wide.All
import OpenK.AllK
import Wide.FinOn
import PySem.Str
import PySem.PyData
import HandS.ForMost
import HandS.ForExc
import HandS.ExcCtx
import HandS.HotCalls
import HandS.Zip
import HandS.Rev
import KE.KExcSuper
import HandS.ExcInit
import PyProof.P3Statements
import HandS.TupAny
import HandS.TupMul
import HandS.TupLe
import HandS.IsInst
import HandS.Strs
import HandS.Text
import HandS.Wide
import HandS.Deep
import HandS.Style
import HandS.Dict
import HandS.DictComp
import HandS.More
import HandS.ExcIs
import HandS.ExcField
import HandS.EndBits
import HandS.SortInts
import HandS.Gcd
import HandS.Conv
import KE.GoesMore
import KE.KMathGC
import PyProof.ListRange
import HandS.SetFor
import HandS.SortRule
import KE.DataMinMax
import PyProof.P3Eq
import KE.RegKSuper
import PySem.Challenge.RW_calmhouse_k61_wish_paper
set_option Elab.async false
set_option linter.all false
set_option maxRecDepth 100000
set_option maxHeartbeats 4000000
/-! MCore: values without a heap, and what a def of the text computes on them. -/
namespace M
open PySem (Str)

/-- data: what a value means, lists and tuples written out -/
inductive D where
  | non | bl (b : Bool) | int (i : Int) | str (s : Str) | tup (xs : List D) | lst (xs : List D)
  | ty (n : String) | cls (n : Nat) | dct (ks vs : List D) | dctT (ks vs : List D)

/-- whole numbers alone: a tuple of these may be a key -/
def hotT : List D → Bool
  | [] => true
  | .int _ :: r => hotT r
  | _ :: _ => false

/-- what a local list (dict, ..) holds that nobody else holds -/
inductive Own where
  | lst (xs : List D)
  | lst2 (xss : List (List D))
  | dct (ks vs : List D)
  | dctT (ks vs : List D)

/-- an exception: its class, its fields -/
structure ExcV where
  cls : Nat
  fs : List (Str × D)

/-- a local name's slot -/
inductive Sl where
  | un | val (d : D) | own (o : Own) | exc (x : ExcV)
  /-- a parameter that is the caller's own list: changed there -/
  | io (xs : List D)

abbrev Env := List Sl

/-- an equation that simp shall not take for one by reckoning -/
theorem eqOf {α : Sort _} {a b : α} (h : a = b) : a = b := h
inductive Out (α : Type) where
  | ok (a : α) | exc (x : ExcV) | stuck

namespace Out
variable {α β : Type}
def bind (x : Out α) (f : α → Out β) : Out β := match x with
  | .ok a => f a | .exc e => .exc e | .stuck => .stuck
@[simp] theorem bind_ok (a : α) (f : α → Out β) : (Out.ok a).bind f = f a := eqOf rfl
@[simp] theorem bind_exc (e : ExcV) (f : α → Out β) : (Out.exc e : Out α).bind f = .exc e := eqOf rfl
@[simp] theorem bind_stuck (f : α → Out β) : (Out.stuck : Out α).bind f = .stuck := eqOf rfl
end Out

/-- what a statement comes to -/
inductive Fl where
  | next (e : Env) | ret (r : Sl) | brk (e : Env) | cont (e : Env) | exc (x : ExcV) (e : Env) | stuck

abbrev CE := Env → Out D
abbrev CT := Env → Out Bool
abbrev CA := Env → Out (List D)
abbrev CF := Env → Out Own
abbrev CS := Env → Fl
abbrev CP := Env → Out (Option Int)

/-- the longest list, tuple, text -/
def line : Nat := 16777216

/-! ### expressions -/
def eC (d : D) : CE := fun _ => .ok d
def eVar (i : Nat) : CE := fun env => match env[i]? with | some (.val d) => .ok d | _ => .stuck
/-- a name that is only looked at -/
def ePeek (i : Nat) : CE := fun env => match env[i]? with
  | some (.val d) => .ok d | some (.own (.lst xs)) => .ok (.lst xs) | some (.own (.dct ks vs)) => .ok (.dct ks vs) | some (.own (.dctT ks vs)) => .ok (.dctT ks vs) | some (.io xs) => .ok (.lst xs) | _ => .stuck
def eOp1 (f : D → Out D) (a : CE) : CE := fun env => (a env).bind f
def eOp2 (f : D → D → Out D) (a b : CE) : CE := fun env => (a env).bind fun x => (b env).bind fun y => f x y
def eIf (t : CT) (a b : CE) : CE := fun env => (t env).bind fun c => if c then a env else b env
def eAnd (a b : CE) : CE := fun env => (a env).bind fun x => match x with | .bl true => b env | .bl false => .ok (.bl false) | _ => .stuck
def eOr (a b : CE) : CE := fun env => (a env).bind fun x => match x with | .bl true => .ok (.bl true) | .bl false => b env | _ => .stuck
def eNot (a : CE) : CE := fun env => (a env).bind fun x => match x with | .bl c => .ok (.bl (!c)) | _ => .stuck
/-- a < b < c -/
def eChain (f g : D → D → Out D) (a b c : CE) : CE := fun env => (a env).bind fun x => (b env).bind fun y => (f x y).bind fun z => match z with
  | .bl true => (c env).bind fun w => g y w
  | .bl false => .ok (.bl false)
  | _ => .stuck
def aNil : CA := fun _ => .ok []
def aCons (a : CE) (r : CA) : CA := fun env => (a env).bind fun x => (r env).bind fun xs => .ok (x :: xs)
def sized (n : Nat) {α : Type} (x : α) : Out α := if n ≤ line then .ok x else .stuck
def eTup (a : CA) : CE := fun env => (a env).bind fun xs => sized xs.length (.tup xs)
/-- a call of a built-in, by values -/
def eB (f : List D → Out D) (a : CA) : CE := fun env => (a env).bind f
/-- what is handed on is nobody's own any more -/
def Sl.shared : Sl → Out D
  | .val d => .ok d | .own (.lst xs) => .ok (.lst xs) | .own (.lst2 xss) => .ok (.lst (xss.map .lst)) | .own (.dct ks vs) => .ok (.dct ks vs) | .own (.dctT ks vs) => .ok (.dctT ks vs) | _ => .stuck
abbrev Fn := List D → Out Sl
def eCall (F : Fn) (a : CA) : CE := fun env => (a env).bind fun ds => (F ds).bind Sl.shared
def Own.shared : Own → D
  | .lst xs => .lst xs | .lst2 xss => .lst (xss.map .lst) | .dct ks vs => .dct ks vs | .dctT ks vs => .dctT ks vs
def eShare (f : CF) : CE := fun env => (f env).bind fun o => .ok o.shared
/-- fresh lists -/
def fLst (a : CA) : CF := fun env => (a env).bind fun xs => sized xs.length (.lst xs)
def fB (f : List D → Out (List D)) (a : CA) : CF := fun env => (a env).bind fun xs => (f xs).bind fun ys => .ok (.lst ys)
def fOp2 (f : D → D → Out (List D)) (a b : CE) : CF := fun env => (a env).bind fun x => (b env).bind fun y => (f x y).bind fun ys => .ok (.lst ys)

/-! ### tests -/
def tVal (a : CE) : CT := fun env => (a env).bind fun x => match x with | .bl c => .ok c | _ => .stuck
def tNot (t : CT) : CT := fun env => (t env).bind fun c => .ok (!c)
def tAnd (t u : CT) : CT := fun env => (t env).bind fun c => if c then u env else .ok false
def tOr (t u : CT) : CT := fun env => (t env).bind fun c => if c then .ok true else u env

/-! ### statements -/
def Out.fl {α : Type} (x : Out α) (env : Env) (k : α → Fl) : Fl := match x with | .ok a => k a | .exc e => .exc e env | .stuck => .stuck
section
variable {α : Type}
@[simp] theorem fl_ok (a : α) (env : Env) (k : α → Fl) : (Out.ok a).fl env k = k a := eqOf rfl
@[simp] theorem fl_exc (e : ExcV) (env : Env) (k : α → Fl) : (Out.exc e : Out α).fl env k = .exc e env := eqOf rfl
@[simp] theorem fl_stuck (env : Env) (k : α → Fl) : (Out.stuck : Out α).fl env k = .stuck := eqOf rfl
end
def sNext : CS := fun env => .next env
def sSeq (s t : CS) : CS := fun env => match s env with | .next e => t e | r => r
def sSet (i : Nat) (a : CE) : CS := fun env => (a env).fl env fun d => .next (env.set i (.val d))
def sSetF (i : Nat) (a : CF) : CS := fun env => (a env).fl env fun o => .next (env.set i (.own o))
/-- y = f(..): what f made stays ours -/
def sSetCall (i : Nat) (F : Fn) (a : CA) : CS := fun env => ((a env).bind fun ds => F ds).fl env fun s => match s with
  | .val d => .next (env.set i (.val d)) | .own o => .next (env.set i (.own o)) | _ => .stuck
def sDrop (a : CE) : CS := fun env => (a env).fl env fun _ => .next env
def sRet (a : CE) : CS := fun env => (a env).fl env fun d => .ret (.val d)
def sRetN : CS := fun _ => .ret (.val .non)
/-- return x, x a list of our own -/
def sRetOwn (i : Nat) : CS := fun env => match env[i]? with | some (.val d) => .ret (.val d) | some (.own o) => .ret (.own o) | _ => .stuck
def sRetF (a : CF) : CS := fun env => (a env).fl env fun o => .ret (.own o)
def sRetCall (F : Fn) (a : CA) : CS := fun env => ((a env).bind fun ds => F ds).fl env fun s => match s with | .val d => .ret (.val d) | .own o => .ret (.own o) | _ => .stuck
def sIf (t : CT) (a b : CS) : CS := fun env => (t env).fl env fun c => if c then a env else b env
def sBrk : CS := fun env => .brk env
def sCont : CS := fun env => .cont env
/-- x is nobody's own any more -/
def sFreeze (i : Nat) (s : CS) : CS := fun env => match env[i]? with
  | some (.own o) => s (env.set i (.val o.shared))
  | _ => s env
/-- x.append(e), x our own list -/
def sAppend (i : Nat) (a : CE) : CS := fun env => match env[i]? with
  | some (.own (.lst xs)) => (a env).fl env fun d => if xs.length < line then .next (env.set i (.own (.lst (xs ++ [d])))) else .stuck
  | _ => .stuck
/-- the place of an index -/
def ixN (n : Nat) (i : Int) : Option Nat := if 0 ≤ i then (if i < n then some i.toNat else none) else if -(n : Int) ≤ i then some (i + n).toNat else none
/-- x[e] = v -/
def sSetIx (i : Nat) (e v : CE) : CS := fun env => (v env).fl env fun d => match env[i]? with
  | some (.own (.lst xs)) => (e env).fl env fun k => match k with
    | .int k => (match ixN xs.length k with | some j => .next (env.set i (.own (.lst (xs.set j d)))) | none => .stuck)
    | _ => .stuck
  | _ => .stuck
def sAug (i : Nat) (f : D → D → Out D) (a : CE) : CS := fun env => match env[i]? with
  | some (.val x) => (a env).fl env fun y => (f x y).fl env fun d => .next (env.set i (.val d))
  | _ => .stuck
/-- a loop's targets: what a turn's item does to the slots -/
abbrev Tg := D → Env → Option Env
def gName (i : Nat) : Tg := fun d env => some (env.set i (.val d))
def gMany : List Tg → List D → Env → Option Env
  | [], [], env => some env
  | g :: gs, d :: ds, env => (g d env).bind (gMany gs ds)
  | _, _, _ => none
def gTup (gs : List Tg) : Tg := fun d env => match d with | .tup ds => gMany gs ds env | _ => none
def sSetTg (g : Tg) (a : CE) : CS := fun env => (a env).fl env fun d => match g d env with | some e => .next e | none => .stuck
def forGo (g : Tg) (body : CS) : List D → CS
  | [], env => .next env
  | d :: ds, env => match g d env with
    | none => .stuck
    | some e1 => match body e1 with
      | .next e => forGo g body ds e
      | .cont e => forGo g body ds e
      | .brk e => .next e
      | r => r
/-- for g in items: body -/
def sFor (it : CA) (g : Tg) (body : CS) : CS := fun env => (it env).fl env fun ds => forGo g body ds env
def whileGo (t : CT) (body : CS) : Nat → CS
  | 0, _ => .stuck
  | n + 1, env => (t env).fl env fun c => if c then (match body env with
      | .next e => whileGo t body n e
      | .cont e => whileGo t body n e
      | .brk e => .next e
      | r => r) else .next env
def sWhile (n : Nat) (t : CT) (body : CS) : CS := whileGo t body n
/-- [e for g in items if t] : the slots behind it are as before -/
def Out.calm {α : Type} : Out α → Out α
  | .exc _ => .stuck | r => r
def lcGo (g : Tg) (t : CT) (e : CE) : List D → Env → List D → Out (List D)
  | [], _, acc => .ok acc
  | d :: ds, env, acc => match g d env with
    | none => .stuck
    | some env1 => (t env1).calm.bind fun c => if c then (e env1).calm.bind fun x => (if acc.length < line then lcGo g t e ds env (acc ++ [x]) else .stuck) else lcGo g t e ds env acc
def wipeE (env : Env) : List Nat → Env
  | [] => env
  | v :: vs => (wipeE env vs).set v .un
/-- vs: the slots of the comprehension's own names -/
def fComp (vs : List Nat) (it : CA) (g : Tg) (t : CT) (e : CE) : CF := fun env => (it env).bind fun ds => (lcGo g t e ds (wipeE env vs) []).bind fun xs => .ok (.lst xs)
def tTrue : CT := fun _ => .ok true
/-- raise C(..) -/
def sRaise (c : Nat) (fs : List Str) (a : CA) : CS := fun env => (a env).fl env fun ds => if ds.length = fs.length then .exc ⟨c, fs.zip ds⟩ env else .stuck
/-- try: body except C as x: suite; sub c: is a raised c a C (none: not asked). The slot of x is empty behind the suite -/
def clr (e : Env) : Env := e.map fun s => match s with | .exc _ => .un | .io _ => .un | s => s
/-- nothing may be raised here -/
def Fl.calm : Fl → Fl
  | .exc _ _ => .stuck | r => r
def Fl.unset (i : Nat) : Fl → Fl
  | .next e => .next ((clr e).set i .un) | .brk e => .brk ((clr e).set i .un) | .cont e => .cont ((clr e).set i .un) | r => r
abbrev Sub := Nat → Option Bool
def sTryAs (body : CS) (sub : Sub) (i : Nat) (suite : CS) : CS := fun env => match body env with
  | .exc x e => (match sub x.cls with
    | some true => (suite ((clr e).set i (.exc x))).calm.unset i
    | some false => .exc x e
    | none => .stuck)
  | r => r
/-- several clauses, without names -/
def tryGo : List (Sub × CS) → ExcV → CS
  | [], x, e => .exc x e
  | h :: hs, x, e => match h.1 x.cls with
    | some true => (h.2 (clr e)).calm
    | some false => tryGo hs x e
    | none => .stuck
def sTry (body : CS) (hs : List (Sub × CS)) : CS := fun env => match body env with
  | .exc x e => tryGo hs x e
  | r => r
/-- e.f, isinstance(e, C) of the exception that a suite holds -/
def eXf (i : Nat) (ok : Nat → Bool) (f : Str) : CE := fun env => match env[i]? with
  | some (.exc x) => if ok x.cls = true then (match x.fs.lookup f with | some d => .ok d | none => .stuck) else .stuck
  | _ => .stuck
def eXis (i : Nat) (sub : Sub) : CE := fun env => match env[i]? with | some (.exc x) => (match sub x.cls with | some b => .ok (.bl b) | none => .stuck) | _ => .stuck

/-! ### what is walked -/
def dItems : D → Out (List D)
  | .lst xs => .ok xs
  | .tup xs => .ok xs
  | .str s => .ok (s.cps.toList.map fun c => .str ⟨#[c]⟩)
  | _ => .stuck
/-- for x in a (a list or tuple that is shared, a text) -/
def iSeq (a : CE) : CA := fun env => (a env).bind dItems
def rangeL (lo hi : Int) : List D := (List.range (hi - lo).toNat).map fun i => .int (lo + (i : Nat))
def smallI (i : Int) : Prop := -(2 ^ 62) ≤ i ∧ i < 2 ^ 62
instance (i : Int) : Decidable (smallI i) := inferInstanceAs (Decidable (_ ∧ _))
def dRange1 : List D → Out (List D)
  | [.int j] => if smallI j then .ok (rangeL 0 j) else .stuck
  | _ => .stuck
def dRange2 : List D → Out (List D)
  | [.int i, .int j] => if smallI i ∧ smallI j then .ok (rangeL i j) else .stuck
  | _ => .stuck
def iB (f : List D → Out (List D)) (a : CA) : CA := fun env => (a env).bind f
def pairL : List D → List D → List D
  | x :: xs, y :: ys => .tup [x, y] :: pairL xs ys
  | _, _ => []
def dZip : List D → Out (List D)
  | [.lst xs, .lst ys] => .ok (pairL xs ys)
  | [.tup xs, .tup ys] => .ok (pairL xs ys)
  | _ => .stuck
def dRev : List D → Out (List D)
  | [.lst xs] => .ok xs.reverse
  | [.tup xs] => .ok xs.reverse
  | _ => .stuck
def enumL (i : Nat) : List D → List D
  | [] => []
  | x :: xs => .tup [.int (i : Nat), x] :: enumL (i + 1) xs
def dEnum : List D → Out (List D)
  | [.lst xs] => .ok (enumL 0 xs)
  | [.tup xs] => .ok (enumL 0 xs)
  | _ => .stuck

/-! ### a def -/
def Fl.out : Fl → Out Sl
  | .next _ => .ok (.val .non) | .ret r => .ok r | .exc x _ => .exc x | _ => .stuck
def startE (n : Nat) (ds : List D) : Env := ds.map .val ++ List.replicate (n - ds.length) .un
/-- a def with p parameters and n slots -/
def fn (p n : Nat) (body : CS) : Fn := fun ds => if ds.length = p then (body (startE n ds)).out else .stuck

end M
/-! MRel: how data stand in the heap; what an expression, a statement, a def means by its mirror. -/
namespace M
open PySem PySem.Spec PyProof.Rows L2

/-- the keys of a dict: ints, texts -/
def keyD : L2.Key → D
  | .inl i => .int i | .inr x => .str x
def DctAt (H : Hp) (a : Addr) (ks : List D) (us : List V) : Prop := ∃ kvs : List (L2.Key × V), H a = some (.dK kvs) ∧ ks = kvs.map (fun p => keyD p.1) ∧ us = kvs.map (·.2)
/-- a dict whose keys are tuples of these -/
def keyTD (k : List L2.Key) : D := .tup (k.map keyD)
def DctTAt (H : Hp) (a : Addr) (ks : List D) (us : List V) : Prop := ∃ kvs : List (List L2.Key × V), H a = some (.dT kvs) ∧ ks = kvs.map (fun p => keyTD p.1) ∧ us = kvs.map (·.2)
/-- a tuple: one of whole numbers was made by the program's run -/
def TupAt (K : PySem.W.Frag) (H : Hp) (a : Addr) (xs : List D) (vs : List V) : Prop := SqT K H a vs ∧ (hotT xs = true → H a = some (.tup vs))
section
variable (K : PySem.W.Frag) (ca : Nat → Addr)
mutual
def Rep (H : Hp) : D → V → Prop
  | .non, v => v = .non
  | .bl b, v => v = .bl b
  | .int i, v => v = .int i
  | .str s, v => v = .str s
  | .ty n, v => v = .ty n
  | .cls n, v => v = .ref (ca n)
  | .tup xs, v => ∃ a vs, v = .ref a ∧ TupAt K H a xs vs ∧ RepL H xs vs
  | .lst xs, v => ∃ a vs, v = .ref a ∧ SqL K H a vs ∧ RepL H xs vs
  | .dct ks vs, v => ∃ a us, v = .ref a ∧ DctAt H a ks us ∧ RepL H vs us
  | .dctT ks vs, v => ∃ a us, v = .ref a ∧ DctTAt H a ks us ∧ RepL H vs us
def RepL (H : Hp) : List D → List V → Prop
  | [], vs => vs = []
  | x :: xs, vs => ∃ v r, vs = v :: r ∧ Rep H x v ∧ RepL H xs r
end
/-- .. of a thing that may be a local list of our own: its items are shared -/
def PRep (Hf H : Hp) : D → V → Prop
  | .lst xs, v => ∃ a vs, v = .ref a ∧ SqL K H a vs ∧ RepL K ca Hf xs vs
  | .dct ks vs, v => ∃ a us, v = .ref a ∧ DctAt H a ks us ∧ RepL K ca Hf vs us
  | .dctT ks vs, v => ∃ a us, v = .ref a ∧ DctTAt H a ks us ∧ RepL K ca Hf vs us
  | d, v => Rep K ca Hf d v
def RepF (H : Hp) : List (Str × D) → List (Str × V) → Prop
  | [], gs => gs = []
  | x :: xs, gs => ∃ v r, gs = (x.1, v) :: r ∧ Rep K ca H x.2 v ∧ RepF H xs r
def RepX (H : Hp) (x : ExcV) (cls : Value) (d : Option Addr) : Prop :=
  cls = .ref (ca x.cls) ∧ ((x.fs = [] ∧ d = none) ∨ ∃ dd gs, d = some dd ∧ H dd = some (.xd gs) ∧ RepF K ca H x.fs gs)
end

/-- what was there stands, the shared part grows by new things alone -/
structure Post (Hf H Hf' H' : Hp) : Prop where
  sh : Same Hf Hf'
  all : Same H H'
  sub : Same Hf' H'
  new : ∀ a, Hf' a ≠ none → Hf a ≠ none ∨ H a = none

/-- the entry of the def at hand; the exception that is handled -/
structure Gh where
  Hf : Hp
  H : Hp
/-- where a judgement stands: the classes' addresses, the exception that is handled, what is wanted of an exception -/
structure Jc where
  ca : Nat → Addr
  ea : Option (Addr × Value × Option Addr)
  W : WX

section
variable (K : PySem.W.Frag) (ca : Nat → Addr)
/-- what our own thing at p is; fp: the addresses that are ours alone -/
def OwnR (Hf H : Hp) (p : Addr) (fp : List Addr) : Own → Prop
  | .lst xs => ∃ vs, H p = some (.lst vs) ∧ RepL K ca Hf xs vs ∧ fp = [p]
  | .lst2 xss => ∃ ps, H p = some (.lst (ps.map .ref)) ∧ fp = p :: ps ∧ ps.length = xss.length ∧ ∀ (i : Nat) q xs, ps[i]? = some q → xss[i]? = some xs → ∃ vs, H q = some (.lst vs) ∧ RepL K ca Hf xs vs
  | .dct ks vs => ∃ us, DctAt H p ks us ∧ RepL K ca Hf vs us ∧ fp = [p]
  | .dctT ks vs => ∃ us, DctTAt H p ks us ∧ RepL K ca Hf vs us ∧ fp = [p]
def SlR (ea : Option (Addr × Value × Option Addr)) (Hf H : Hp) (fp : List Addr) : Sl → Option V → Prop
  | .un, _ => True
  | .val d, o => ∃ v, o = some v ∧ Rep K ca Hf d v
  | .own w, o => ∃ p, o = some (.ref p) ∧ OwnR K ca Hf H p fp w
  | .exc x, o => ∃ a cls d, ea = some (a, cls, d) ∧ o = some (.ref a) ∧ RepX K ca Hf x cls d
  | .io xs, o => ∃ a cls d vs, ea = some (a, cls, d) ∧ o = some (.ref a) ∧ H a = some (.lst vs) ∧ RepL K ca Hf xs vs ∧ fp = [a]
/-- the addresses of l are apart, and nobody else's -/
def Mine (G Hf H : Hp) (l : List Addr) : Prop := l.Nodup ∧ ∀ a ∈ l, Hf a = none ∧ G a = none ∧ H a ≠ none
structure RR (ea : Option (Addr × Value × Option Addr)) (G : Gh) (Hf : Hp) (env : M.Env) (σ : L2.St) (H : Hp) : Prop where
  post : Post G.Hf G.H Hf H
  len : env.length = σ.length
  slots : ∃ fps : List (List Addr), fps.length = env.length ∧ Mine G.H Hf H fps.flatten ∧ ∀ (i : Nat) s o fp, env[i]? = some s → σ[i]? = some o → fps[i]? = some fp → SlR K ca ea Hf H fp s o
def OwnV (G Hf H : Hp) (o : Own) (v : V) : Prop := ∃ p fp, v = .ref p ∧ OwnR K ca Hf H p fp o ∧ Mine G Hf H fp

/-- what an outcome asks: of a value with the heap behind it, of an exception -/
def OutP (W : WX) (σ : L2.St) {α : Type} (Hf H : Hp) (o : Out α) (k : α → Hp → Hp → Prop) : Prop := match o with
  | .ok a => ∀ Hf' H', Post Hf H Hf' H' → k a Hf' H'
  | .exc x => ∀ cls dd Hf' H', Post Hf H Hf' H' → RepX K ca Hf' x cls dd → W cls dd σ H'
  | .stuck => False
/-- the readings -/
def TM (j : Jc) (c : CE) : TE := fun σ H Q => ∃ G Hf env, RR K j.ca j.ea G Hf env σ H ∧ OutP K j.ca j.W σ Hf H (c env) fun d Hf' H' => ∀ v, Rep K j.ca Hf' d v → Q v H'
def TP (j : Jc) (c : CE) : TE := fun σ H Q => ∃ G Hf env, RR K j.ca j.ea G Hf env σ H ∧ OutP K j.ca j.W σ Hf H (c env) fun d Hf' H' => ∀ v, PRep K j.ca Hf' H' d v → Q v H'
def TF (j : Jc) (c : CF) : TE := fun σ H Q => ∃ G Hf env, RR K j.ca j.ea G Hf env σ H ∧ OutP K j.ca j.W σ Hf H (c env) fun o Hf' H' => ∀ v, OwnV K j.ca H Hf' H' o v → Q v H'
def TMT (j : Jc) (c : CT) : TT := fun σ H Q => ∃ G Hf env, RR K j.ca j.ea G Hf env σ H ∧ OutP K j.ca j.W σ Hf H (c env) fun b _ H' => Q b H'
def PRepL (Hf H : Hp) : List D → List V → Prop
  | [], vs => vs = []
  | x :: xs, vs => ∃ v r, vs = v :: r ∧ PRep K ca Hf H x v ∧ PRepL Hf H xs r
def TMA (j : Jc) (c : CA) : TA := fun σ H Q => ∃ G Hf env, RR K j.ca j.ea G Hf env σ H ∧ OutP K j.ca j.W σ Hf H (c env) fun ds Hf' H' => ∀ vs, RepL K j.ca Hf' ds vs → Q vs H'
def TPA (j : Jc) (c : CA) : TA := fun σ H Q => ∃ G Hf env, RR K j.ca j.ea G Hf env σ H ∧ OutP K j.ca j.W σ Hf H (c env) fun ds Hf' H' => ∀ vs, PRepL K j.ca Hf' H' ds vs → Q vs H'
def TFl (j : Jc) (G : Gh) (D : Ends) : Fl → Prop
  | .next e => ∀ σ Hf H, RR K j.ca j.ea G Hf e σ H → D.nx σ H
  | .brk e => ∀ σ Hf H, RR K j.ca j.ea G Hf e σ H → D.bk σ H
  | .cont e => ∀ σ Hf H, RR K j.ca j.ea G Hf e σ H → D.ct σ H
  | .ret (.val d) => ∀ v Hf H, Post G.Hf G.H Hf H → Rep K j.ca Hf d v → D.rt v H
  | .ret (.own o) => ∀ v Hf H, Post G.Hf G.H Hf H → OwnV K j.ca G.H Hf H o v → D.rt v H
  | .ret _ => False
  | .exc x e => ∀ cls dd σ Hf H, RR K j.ca j.ea G Hf e σ H → RepX K j.ca Hf x cls dd → j.W cls dd σ H
  | .stuck => False
def TMS (j : Jc) (c : CS) : TS := fun D σ H => ∃ G Hf env, RR K j.ca j.ea G Hf env σ H ∧ TFl K j G D (c env)
/-- a def's promise by its mirror -/
def spF (F : Fn) : Sp := fun vs H Q E => ∃ Hf ds, Same Hf H ∧ RepL K ca Hf ds vs ∧ match F ds with
  | .ok (.val d) => ∀ v Hf' H', Post Hf H Hf' H' → Rep K ca Hf' d v → Q v H'
  | .ok (.own o) => ∀ v Hf' H', Post Hf H Hf' H' → OwnV K ca H Hf' H' o v → Q v H'
  | .exc x => ∀ cls dd Hf' H', Post Hf H Hf' H' → RepX K ca Hf' x cls dd → E cls dd H'
  | _ => False
end

/-! ### judgements -/
def ME (X : Cx) (j : Jc) (e : Expr) (c : CE) : Prop := PE X e (TM X.K j c)
def MP (X : Cx) (j : Jc) (e : Expr) (c : CE) : Prop := PE X e (TP X.K j c)
def MF (X : Cx) (j : Jc) (e : Expr) (c : CF) : Prop := PE X e (TF X.K j c)
def MT (X : Cx) (j : Jc) (e : Expr) (c : CT) : Prop := PT X e (TMT X.K j c)
def MA (X : Cx) (j : Jc) (es : List Expr) (c : CA) : Prop := PA X es (TMA X.K j c)
def MPA (X : Cx) (j : Jc) (es : List Expr) (c : CA) : Prop := PA X es (TPA X.K j c)
def MS (X : Cx) (j : Jc) (s : Stmt) (c : CS) : Prop := PS X s (TMS X.K j c)
def MSs (X : Cx) (j : Jc) (s : List Stmt) (c : CS) : Prop := PSs X s (TMS X.K j c)

/-! ### heaps -/
theorem Post.refl {Hf H : Hp} (h : Same Hf H) : Post Hf H Hf H := ⟨Same.refl _, Same.refl _, h, fun _ q => .inl q⟩
theorem Post.trans {Hf H Hf1 H1 Hf2 H2 : Hp} (a : Post Hf H Hf1 H1) (b : Post Hf1 H1 Hf2 H2) : Post Hf H Hf2 H2 :=
  ⟨a.sh.trans b.sh, a.all.trans b.all, b.sub, fun x q => by
    rcases b.new x q with h | h
    · exact a.new x h
    · exact .inr (a.all.free h)⟩
theorem Same.rd {H H' : Hp} {a : Addr} {u : HO} (e : Same H H') (h : Rd H a u) : Rd H' a u := h.elim (fun h => .inl (e _ _ h)) fun ⟨o, h⟩ => .inr ⟨o, e _ _ h⟩
theorem Same.seqT {K : PySem.W.Frag} {H H' : Hp} {a : Addr} {xs : List V} (e : Same H H') (h : SqT K H a xs) : SqT K H' a xs := by
  rcases h with (h | ⟨o, h⟩) | h
  · exact .inl (.inl (e _ _ h))
  · exact .inl (.inr ⟨o, e _ _ h⟩)
  · exact .inr h
theorem DctAt.mono {H H' : Hp} (e : Same H H') {a : Addr} {ks : List D} {us : List V} (h : DctAt H a ks us) : DctAt H' a ks us := by
  obtain ⟨kvs, h1, h2⟩ := h
  exact ⟨kvs, e _ _ h1, h2⟩
theorem DctTAt.mono {H H' : Hp} (e : Same H H') {a : Addr} {ks : List D} {us : List V} (h : DctTAt H a ks us) : DctTAt H' a ks us := by
  obtain ⟨kvs, h1, h2⟩ := h
  exact ⟨kvs, e _ _ h1, h2⟩
section
variable {K : PySem.W.Frag} {ca : Nat → Addr} {H H' Hf Hf' : Hp}
mutual
theorem Rep.mono (e : Same H H') : ∀ (d : D) (v : V), Rep K ca H d v → Rep K ca H' d v
  | .non, _, h => h
  | .bl _, _, h => h
  | .int _, _, h => h
  | .str _, _, h => h
  | .ty _, _, h => h
  | .cls _, _, h => h
  | .tup xs, v, h => by
    unfold Rep at h ⊢
    obtain ⟨a, vs, e1, h1, h2⟩ := h
    exact ⟨a, vs, e1, ⟨Same.seqT e h1.1, fun z => e _ _ (h1.2 z)⟩, RepL.mono e xs vs h2⟩
  | .lst xs, v, h => by
    unfold Rep at h ⊢
    obtain ⟨a, vs, e1, h1, h2⟩ := h
    exact ⟨a, vs, e1, e.seq h1, RepL.mono e xs vs h2⟩
  | .dct ks vs, v, h => by
    unfold Rep at h ⊢
    obtain ⟨a, us, e1, h1, h2⟩ := h
    exact ⟨a, us, e1, h1.mono e, RepL.mono e vs us h2⟩
  | .dctT ks vs, v, h => by
    unfold Rep at h ⊢
    obtain ⟨a, us, e1, h1, h2⟩ := h
    exact ⟨a, us, e1, h1.mono e, RepL.mono e vs us h2⟩
theorem RepL.mono (e : Same H H') : ∀ (ds : List D) (vs : List V), RepL K ca H ds vs → RepL K ca H' ds vs
  | [], _, h => h
  | x :: xs, vs, h => by
    unfold RepL at h ⊢
    obtain ⟨v, r, e1, h1, h2⟩ := h
    exact ⟨v, r, e1, Rep.mono e x v h1, RepL.mono e xs r h2⟩
end
theorem RepF.mono (e : Same H H') : ∀ (fs : List (Str × D)) (gs : List (Str × V)), RepF K ca H fs gs → RepF K ca H' fs gs
  | [], _, h => h
  | x :: xs, vs, h => by
    unfold RepF at h ⊢
    obtain ⟨v, r, e1, h1, h2⟩ := h
    exact ⟨v, r, e1, Rep.mono e _ v h1, RepF.mono e xs r h2⟩
theorem RepX.mono (e : Same H H') {x : ExcV} {cls : Value} {d : Option Addr} (h : RepX K ca H x cls d) : RepX K ca H' x cls d := by
  obtain ⟨h1, h2⟩ := h
  refine ⟨h1, ?_⟩
  rcases h2 with h2 | ⟨dd, gs, e1, e2, h2⟩
  · exact .inl h2
  · exact .inr ⟨dd, gs, e1, e _ _ e2, RepF.mono e _ _ h2⟩
theorem PRep.of (s : Same Hf H) {d : D} {v : V} (h : Rep K ca Hf d v) : PRep K ca Hf H d v := by
  cases d <;> try exact h
  · obtain ⟨a, vs, e1, h1, h2⟩ := h
    exact ⟨a, vs, e1, s.seq h1, h2⟩
  · unfold Rep at h
    obtain ⟨a, vs, e1, h1, h2⟩ := h
    exact ⟨a, vs, e1, h1.mono s, h2⟩
  · unfold Rep at h
    obtain ⟨a, vs, e1, h1, h2⟩ := h
    exact ⟨a, vs, e1, h1.mono s, h2⟩
theorem PRep.rep (s : Same Hf H) {d : D} {v : V} (h : PRep K ca Hf H d v) : Rep K ca H d v := by
  cases d <;> try exact Rep.mono s _ _ h
  · obtain ⟨a, vs, e1, h1, h2⟩ := h
    exact ⟨a, vs, e1, h1, RepL.mono s _ _ h2⟩
  · obtain ⟨a, vs, e1, h1, h2⟩ := h
    unfold Rep
    exact ⟨a, vs, e1, h1, RepL.mono s _ _ h2⟩
  · obtain ⟨a, vs, e1, h1, h2⟩ := h
    unfold Rep
    exact ⟨a, vs, e1, h1, RepL.mono s _ _ h2⟩
theorem PRep.grow (p : Post Hf H Hf' H') {d : D} {v : V} (h : PRep K ca Hf H d v) : PRep K ca Hf' H' d v := by
  cases d <;> try exact Rep.mono p.sh _ _ h
  · obtain ⟨a, vs, e1, h1, h2⟩ := h
    exact ⟨a, vs, e1, p.all.seq h1, RepL.mono p.sh _ _ h2⟩
  · obtain ⟨a, vs, e1, h1, h2⟩ := h
    exact ⟨a, vs, e1, h1.mono p.all, RepL.mono p.sh _ _ h2⟩
  · obtain ⟨a, vs, e1, h1, h2⟩ := h
    exact ⟨a, vs, e1, h1.mono p.all, RepL.mono p.sh _ _ h2⟩
theorem RepL.length : ∀ {ds : List D} {vs : List V}, RepL K ca H ds vs → ds.length = vs.length
  | [], _, h => by unfold RepL at h; subst h; rfl
  | x :: xs, vs, h => by
    unfold RepL at h
    obtain ⟨v, r, e1, h1, h2⟩ := h
    subst e1
    simp [RepL.length h2]
theorem RepL.get : ∀ {ds : List D} {vs : List V} {i : Nat} {d : D}, RepL K ca H ds vs → ds[i]? = some d → ∃ v, vs[i]? = some v ∧ Rep K ca H d v
  | [], _, i, d, h, e => by simp at e
  | x :: xs, vs, 0, d, h, e => by
    unfold RepL at h
    obtain ⟨v, r, e1, h1, h2⟩ := h
    subst e1
    simp at e; subst e
    exact ⟨v, by simp, h1⟩
  | x :: xs, vs, i + 1, d, h, e => by
    unfold RepL at h
    obtain ⟨v, r, e1, h1, h2⟩ := h
    subst e1
    obtain ⟨u, q1, q2⟩ := RepL.get (i := i) h2 (by simpa using e)
    exact ⟨u, by simpa using q1, q2⟩
theorem RepL.append : ∀ {ds es : List D} {vs us : List V}, RepL K ca H ds vs → RepL K ca H es us → RepL K ca H (ds ++ es) (vs ++ us)
  | [], _, vs, us, h, g => by unfold RepL at h; subst h; simpa using g
  | x :: xs, es, vs, us, h, g => by
    unfold RepL at h
    obtain ⟨v, r, e1, h1, h2⟩ := h
    subst e1
    show RepL K ca H (x :: (xs ++ es)) _
    unfold RepL
    exact ⟨v, r ++ us, rfl, h1, RepL.append h2 g⟩
theorem RepL.one {d : D} {v : V} (h : Rep K ca H d v) : RepL K ca H [d] [v] := by
  unfold RepL
  exact ⟨v, [], rfl, h, by unfold RepL; rfl⟩
theorem RepL.set : ∀ {ds : List D} {vs : List V} {d : D} {v : V} (i : Nat), RepL K ca H ds vs → Rep K ca H d v → RepL K ca H (ds.set i d) (vs.set i v)
  | [], vs, d, v, i, h, g => by unfold RepL at h; subst h; simp; unfold RepL; rfl
  | x :: xs, vs, d, v, 0, h, g => by
    unfold RepL at h
    obtain ⟨u, r, e1, h1, h2⟩ := h
    subst e1
    show RepL K ca H (d :: xs) _
    unfold RepL
    exact ⟨v, r, rfl, g, h2⟩
  | x :: xs, vs, d, v, i + 1, h, g => by
    unfold RepL at h
    obtain ⟨u, r, e1, h1, h2⟩ := h
    subst e1
    show RepL K ca H (x :: xs.set i d) _
    unfold RepL
    exact ⟨u, r.set i v, rfl, h1, RepL.set i h2 g⟩
theorem PRepL.grow (p : Post Hf H Hf' H') : ∀ {ds : List D} {vs : List V}, PRepL K ca Hf H ds vs → PRepL K ca Hf' H' ds vs
  | [], _, h => h
  | x :: xs, vs, h => by
    unfold PRepL at h ⊢
    obtain ⟨v, r, e1, h1, h2⟩ := h
    exact ⟨v, r, e1, h1.grow p, PRepL.grow p h2⟩
theorem OwnR.grow (p : Post Hf H Hf' H') {q : Addr} {fp : List Addr} {o : Own} (h : OwnR K ca Hf H q fp o) : OwnR K ca Hf' H' q fp o := by
  cases o with
  | lst xs =>
    obtain ⟨vs, h1, h2, h3⟩ := h
    exact ⟨vs, p.all _ _ h1, RepL.mono p.sh _ _ h2, h3⟩
  | lst2 xss =>
    obtain ⟨ps, h1, h2, h3, h4⟩ := h
    refine ⟨ps, p.all _ _ h1, h2, h3, fun i q' xs e1 e2 => ?_⟩
    obtain ⟨vs, k1, k2⟩ := h4 i q' xs e1 e2
    exact ⟨vs, p.all _ _ k1, RepL.mono p.sh _ _ k2⟩
  | dct ks vs =>
    obtain ⟨us, h1, h2, h3⟩ := h
    exact ⟨us, h1.mono p.all, RepL.mono p.sh _ _ h2, h3⟩
  | dctT ks vs =>
    obtain ⟨us, h1, h2, h3⟩ := h
    exact ⟨us, h1.mono p.all, RepL.mono p.sh _ _ h2, h3⟩
theorem Mine.grow {G : Hp} (p : Post Hf H Hf' H') {l : List Addr} (h : Mine G Hf H l) : Mine G Hf' H' l := by
  refine ⟨h.1, fun a ha => ?_⟩
  obtain ⟨h1, h2, h3⟩ := h.2 a ha
  refine ⟨?_, h2, ?_⟩
  · cases e : Hf' a with
    | none => rfl
    | some o =>
      rcases p.new a (by rw [e]; simp) with z | z
      · exact absurd h1 z
      · exact absurd z h3
  · cases e : H a with
    | none => exact absurd e h3
    | some o => rw [p.all _ _ e]; simp
theorem RR.grow {ea : Option (Addr × Value × Option Addr)} {G : Gh} {env : M.Env} {σ : L2.St} (r : RR K ca ea G Hf env σ H) (p : Post Hf H Hf' H') : RR K ca ea G Hf' env σ H' := by
  refine ⟨r.post.trans p, r.len, ?_⟩
  obtain ⟨fps, l, m, h⟩ := r.slots
  refine ⟨fps, l, m.grow p, fun i s o fp e1 e2 e3 => ?_⟩
  have q := h i s o fp e1 e2 e3
  cases s with
  | un => trivial
  | val d =>
    obtain ⟨v, k1, k2⟩ := q
    exact ⟨v, k1, Rep.mono p.sh _ _ k2⟩
  | own w =>
    obtain ⟨a, k1, k2⟩ := q
    exact ⟨a, k1, k2.grow p⟩
  | exc x =>
    obtain ⟨a, cls, d, k1, k2, k3⟩ := q
    exact ⟨a, cls, d, k1, k2, k3.mono p.sh⟩
  | io xs =>
    obtain ⟨a, cls, d, vs, k1, k2, k3, k4, k5⟩ := q
    exact ⟨a, cls, d, vs, k1, k2, p.all _ _ k3, RepL.mono p.sh _ _ k4, k5⟩
theorem RR.sub {ea : Option (Addr × Value × Option Addr)} {G : Gh} {env : M.Env} {σ : L2.St} (r : RR K ca ea G Hf env σ H) : Same Hf H := r.post.sub
/-- a new object that is shared from the start -/
theorem post_new (s : Same Hf H) {p : Addr} {o : HO} (hp : H p = none) : Post Hf H (upd Hf p o) (upd H p o) := by
  have hf : Hf p = none := s.free hp
  refine ⟨fun b x e => ?_, fun b x e => ?_, fun b x e => ?_, fun a q => ?_⟩
  · rw [upd_ne (ne_of_none e hf)]; exact e
  · rw [upd_ne (ne_of_none e hp)]; exact e
  · by_cases h : b = p
    · subst h; rw [upd_same] at e ⊢; exact e
    · rw [upd_ne h] at e ⊢; exact s _ _ e
  · by_cases h : a = p
    · subst h; exact .inr hp
    · rw [upd_ne h] at q; exact .inl q
/-- .. that is ours -/
theorem post_own (s : Same Hf H) {p : Addr} {o : HO} (hp : H p = none) : Post Hf H Hf (upd H p o) := by
  refine ⟨Same.refl _, fun b x e => ?_, fun b x e => ?_, fun a q => .inl q⟩
  · rw [upd_ne (ne_of_none e hp)]; exact e
  · rw [upd_ne (ne_of_none (s _ _ e) hp)]; exact s _ _ e
theorem ownV_new {Hf H : Hp} (s : Same Hf H) {p : Addr} {vs : List V} {xs : List D} (hp : H p = none) (r : RepL K ca Hf xs vs) : OwnV K ca H Hf (upd H p (.lst vs)) (.lst xs) (.ref p) :=
  ⟨p, [p], rfl, ⟨vs, upd_same, r, rfl⟩, by simp, fun a ha => by
    have e : a = p := by simpa using ha
    subst e
    exact ⟨s.free hp, hp, by rw [upd_same]; simp⟩⟩
end

section
variable {K : PySem.W.Frag} {ca : Nat → Addr} {H H' Hf Hf' : Hp} {W : WX} {σ : L2.St} {α β : Type}
theorem OutP.imp {o : Out α} {k k' : α → Hp → Hp → Prop} (h : OutP K ca W σ Hf H o k) (i : ∀ a Hf' H', o = .ok a → Post Hf H Hf' H' → k a Hf' H' → k' a Hf' H') : OutP K ca W σ Hf H o k' := by
  cases o with
  | ok a => exact fun Hf' H' p => i a Hf' H' rfl p (h Hf' H' p)
  | exc x => exact h
  | stuck => exact h
theorem OutP.grow {o : Out α} {k : α → Hp → Hp → Prop} (h : OutP K ca W σ Hf H o k) (p : Post Hf H Hf' H') : OutP K ca W σ Hf' H' o k := by
  cases o with
  | ok a => exact fun Hf2 H2 p2 => h Hf2 H2 (p.trans p2)
  | exc x => exact fun cls dd Hf2 H2 p2 r => h cls dd Hf2 H2 (p.trans p2) r
  | stuck => exact h
theorem OutP.bind {o : Out α} {f : α → Out β} {k : β → Hp → Hp → Prop} (h : OutP K ca W σ Hf H (o.bind f) k) : OutP K ca W σ Hf H o fun a Hf' H' => OutP K ca W σ Hf' H' (f a) k := by
  cases o with
  | ok a => exact fun Hf' H' p => OutP.grow (o := f a) h p
  | exc x => exact h
  | stuck => exact h
theorem OutP.ok {a : α} {k : α → Hp → Hp → Prop} (h : OutP K ca W σ Hf H (.ok a) k) (s : Same Hf H) : k a Hf H := h Hf H (Post.refl s)
theorem OutP.no {k : α → Hp → Hp → Prop} (h : OutP K ca W σ Hf H (.stuck : Out α) k) : False := h
end

/-! ### weakening -/
theorem PE.imp {X : Cx} {e : Expr} {t t' : TE} (h : PE X e t) (i : ∀ σ H Q, t' σ H Q → t σ H Q) : PE X e t' := ⟨fun pins s σ H Q I q => h.run pins s σ H Q I (i _ _ _ q)⟩
theorem PT.imp {X : Cx} {e : Expr} {t t' : TT} (h : PT X e t) (i : ∀ σ H Q, t' σ H Q → t σ H Q) : PT X e t' := ⟨fun pins s σ H Q I q => h.run pins s σ H Q I (i _ _ _ q)⟩
theorem PA.imp {X : Cx} {e : List Expr} {t t' : TA} (h : PA X e t) (i : ∀ σ H Q, t' σ H Q → t σ H Q) : PA X e t' := ⟨fun pos pins s σ H Q I q => h.run pos pins s σ H Q I (i _ _ _ q)⟩
theorem PS.imp {X : Cx} {e : Stmt} {t t' : TS} (h : PS X e t) (i : ∀ D σ H, t' D σ H → t D σ H) : PS X e t' := ⟨fun pins s σ H Q I q => h.run pins s σ H Q I (i _ _ _ q)⟩
theorem PSs.imp {X : Cx} {e : List Stmt} {t t' : TS} (h : PSs X e t) (i : ∀ D σ H, t' D σ H → t D σ H) : PSs X e t' := ⟨fun pins s σ H Q I q => h.run pins s σ H Q I (i _ _ _ q)⟩
end M
/-! MRules: the mirror's forms are sound. -/
namespace M
open PySem PySem.Spec PyProof.Rows L2
section
variable {K : PySem.W.Frag} {ca : Nat → Addr}
/-- what is ours becomes shared -/
theorem own_share {Hf H : Hp} {p : Addr} {fp : List Addr} {o : Own} (s : Same Hf H) (ow : OwnR K ca Hf H p fp o) (m : ∀ a ∈ fp, Hf a = none ∧ H a ≠ none) :
    ∃ Hf2 : Hp, Same Hf Hf2 ∧ Same Hf2 H ∧ (∀ a, Hf2 a ≠ none → Hf a ≠ none ∨ a ∈ fp) ∧ (∀ a, a ∉ fp → Hf2 a = Hf a) ∧ Rep K ca Hf2 o.shared (.ref p) := by
  refine ⟨fun a => if a ∈ fp then H a else Hf a, fun b x e => ?_, fun b x e => ?_, fun a h => ?_, fun a h => by simp [h], ?_⟩
  · have nb : b ∉ fp := fun z => by rw [(m b z).1] at e; cases e
    simp [nb, e]
  · by_cases hb : b ∈ fp
    · simpa [hb] using e
    · exact s _ _ (by simpa [hb] using e)
  · by_cases hb : a ∈ fp
    · exact .inr hb
    · exact .inl (by simpa [hb] using h)
  · have sm : Same Hf (fun a => if a ∈ fp then H a else Hf a) := fun b x e => by
      have nb : b ∉ fp := fun z => by rw [(m b z).1] at e; cases e
      simp [nb, e]
    cases o with
    | dct ks vs =>
      obtain ⟨us, ⟨kvs, h0, h1⟩, h2, h3⟩ := ow
      subst h3
      show Rep K ca _ (.dct ks vs) _
      unfold Rep
      exact ⟨p, us, rfl, ⟨kvs, by simpa using h0, h1⟩, RepL.mono sm _ _ h2⟩
    | dctT ks vs =>
      obtain ⟨us, ⟨kvs, h0, h1⟩, h2, h3⟩ := ow
      subst h3
      show Rep K ca _ (.dctT ks vs) _
      unfold Rep
      exact ⟨p, us, rfl, ⟨kvs, by simpa using h0, h1⟩, RepL.mono sm _ _ h2⟩
    | lst xs =>
      obtain ⟨vs, h1, h2, h3⟩ := ow
      subst h3
      show Rep K ca _ (.lst xs) _
      unfold Rep
      exact ⟨p, vs, rfl, .inl (.inl (by simpa using h1)), RepL.mono sm _ _ h2⟩
    | lst2 xss =>
      obtain ⟨ps, h1, h2, h3, h4⟩ := ow
      subst h2
      show Rep K ca _ (.lst (xss.map .lst)) _
      unfold Rep
      refine ⟨p, ps.map .ref, rfl, .inl (.inl (by simpa using h1)), ?_⟩
      have all : ∀ (qs : List Addr) (yss : List (List D)), (∀ q ∈ qs, q ∈ p :: ps) → qs.length = yss.length →
          (∀ (i : Nat) q xs, qs[i]? = some q → yss[i]? = some xs → ∃ vs, H q = some (.lst vs) ∧ RepL K ca Hf xs vs) →
          RepL K ca (fun a => if a ∈ p :: ps then H a else Hf a) (yss.map .lst) (qs.map .ref) := by
        intro qs
        induction qs with
        | nil =>
          intro yss _ hl _
          cases yss with
          | nil => unfold RepL; rfl
          | cons y ys => simp at hl
        | cons q qs ih =>
          intro yss hm hl hh
          cases yss with
          | nil => simp at hl
          | cons y ys =>
            obtain ⟨vs, k1, k2⟩ := hh 0 q y (by simp) (by simp)
            show RepL K ca _ (.lst y :: ys.map .lst) (.ref q :: qs.map .ref)
            unfold RepL
            refine ⟨.ref q, qs.map .ref, rfl, ?_, ih ys (fun q' h => hm q' (List.mem_cons_of_mem _ h)) (by simpa using hl) fun i q' xs e1 e2 => hh (i + 1) q' xs (by simpa using e1) (by simpa using e2)⟩
            unfold Rep
            refine ⟨q, vs, rfl, .inl (.inl ?_), RepL.mono sm _ _ k2⟩
            have : q ∈ p :: ps := hm q List.mem_cons_self
            simp only [this, if_true]
            exact k1
      exact all ps xss (fun q h => List.mem_cons_of_mem _ h) h3 h4
theorem OwnV.share {G Hf H : Hp} {o : Own} {v : V} (s : Same Hf H) (h : OwnV K ca G Hf H o v) : ∃ Hf2 : Hp, Same Hf Hf2 ∧ Same Hf2 H ∧ (∀ a, Hf2 a ≠ none → Hf a ≠ none ∨ G a = none) ∧ Rep K ca Hf2 o.shared v := by
  obtain ⟨p, fp, rfl, ow, mi⟩ := h
  obtain ⟨Hf2, h1, h2, h3, _, h4⟩ := own_share s ow fun a ha => ⟨(mi.2 a ha).1, (mi.2 a ha).2.2⟩
  exact ⟨Hf2, h1, h2, fun a q => (h3 a q).imp_right fun z => (mi.2 a z).2.1, h4⟩
end
section
variable {X : Cx} {j : Jc} {e a b c : Expr} {es : List Expr} {ce cf cg : CE} {t u : CT} {al : CA} {pos : Pos}

/-! ### between the judgements -/
theorem me_p (h : ME X j e ce) : MP X j e ce := PE.imp h fun σ H Q ⟨G, Hf, env, r, m⟩ => ⟨G, Hf, env, r, m.imp fun d Hf' H' _ p k v rv => k v (PRep.of p.sub rv)⟩
theorem mf_e {ff : CF} (h : MF X j e ff) : ME X j e (eShare ff) := by
  refine PE.imp h fun σ H Q ⟨G, Hf, env, r, m⟩ => ⟨G, Hf, env, r, ?_⟩
  unfold eShare at m
  cases q : ff env with
  | ok o =>
    rw [q] at m
    intro Hf' H' p v ov
    obtain ⟨Hf2, h1, h2, h3, h4⟩ := ov.share p.sub
    exact m Hf2 H' ⟨p.sh.trans h1, p.all, h2, fun a z => (h3 a z).elim (p.new a) .inr⟩ v h4
  | exc x => rw [q] at m; exact m
  | stuck => rw [q] at m; exact m

/-! ### names, constants -/
theorem me_c {d : D} {v : V} (h : PE X e (tC v)) (r : ∀ Hf, Rep X.K j.ca Hf d v) : ME X j e (eC d) :=
  PE.imp h fun σ H Q ⟨G, Hf, env, rr, m⟩ => m Hf H (Post.refl rr.sub) v (r Hf)
theorem me_int {i : Int} {u : Nat} : ME X j (.Constant (.int i) u pos) (eC (.int i)) := me_c pe_int fun _ => rfl
theorem me_bl {i : Bool} {u : Nat} : ME X j (.Constant (.bool i) u pos) (eC (.bl i)) := me_c pe_bl fun _ => rfl
theorem me_non {u : Nat} : ME X j (.Constant .none u pos) (eC .non) := me_c pe_non fun _ => rfl
theorem me_str {x : Str} {u : Nat} : ME X j (.Constant (.str x) u pos) (eC (.str x)) := me_c pe_str fun _ => rfl
theorem slot_val {G : Gh} {Hf H : Hp} {env : M.Env} {σ : L2.St} {i : Nat} {d : D} (r : RR X.K j.ca j.ea G Hf env σ H) (h : env[i]? = some (.val d)) : ∃ v, σ[i]? = some (some v) ∧ Rep X.K j.ca Hf d v := by
  obtain ⟨fps, l, m, k⟩ := r.slots
  obtain ⟨hi, _⟩ := List.getElem?_eq_some_iff.mp h
  have h1 : i < σ.length := by rw [← r.len]; exact hi
  have h2 : i < fps.length := by rw [l]; exact hi
  obtain ⟨v, e1, e2⟩ := k i _ σ[i] fps[i] h (List.getElem?_eq_getElem h1) (List.getElem?_eq_getElem h2)
  exact ⟨v, by rw [List.getElem?_eq_getElem h1, e1], e2⟩
theorem slot_own {G : Gh} {Hf H : Hp} {env : M.Env} {σ : L2.St} {i : Nat} {o : Own} (r : RR X.K j.ca j.ea G Hf env σ H) (h : env[i]? = some (.own o)) :
    ∃ p fp, σ[i]? = some (some (.ref p)) ∧ OwnR X.K j.ca Hf H p fp o := by
  obtain ⟨fps, l, m, k⟩ := r.slots
  obtain ⟨hi, _⟩ := List.getElem?_eq_some_iff.mp h
  have h1 : i < σ.length := by rw [← r.len]; exact hi
  have h2 : i < fps.length := by rw [l]; exact hi
  obtain ⟨p, e1, e2⟩ := k i _ σ[i] fps[i] h (List.getElem?_eq_getElem h1) (List.getElem?_eq_getElem h2)
  exact ⟨p, fps[i], by rw [List.getElem?_eq_getElem h1, e1], e2⟩
theorem slot_io {ea : Option (Addr × Value × Option Addr)} {K : PySem.W.Frag} {ca : Nat → Addr} {G : Gh} {Hf H : Hp} {env : M.Env} {σ : L2.St} {i : Nat} {xs : List D} (r : RR K ca ea G Hf env σ H) (h : env[i]? = some (.io xs)) :
    ∃ a cls d vs, ea = some (a, cls, d) ∧ σ[i]? = some (some (.ref a)) ∧ H a = some (.lst vs) ∧ RepL K ca Hf xs vs := by
  obtain ⟨fps, l, m, k⟩ := r.slots
  obtain ⟨hi, _⟩ := List.getElem?_eq_some_iff.mp h
  have h1 : i < σ.length := by rw [← r.len]; exact hi
  have h2 : i < fps.length := by rw [l]; exact hi
  obtain ⟨a, cls, d, vs, e1, e2, e3, e4, _⟩ := k i _ σ[i] fps[i] h (List.getElem?_eq_getElem h1) (List.getElem?_eq_getElem h2)
  exact ⟨a, cls, d, vs, e1, by rw [List.getElem?_eq_getElem h1, e2], e3, e4⟩
theorem me_var {i : Nat} (h : PE X e (tVar i)) : ME X j e (eVar i) := by
  refine PE.imp h fun σ H Q ⟨G, Hf, env, r, m⟩ => ?_
  unfold eVar at m
  split at m
  · rename_i d hd
    obtain ⟨v, h1, h2⟩ := slot_val r hd
    exact ⟨v, h1, m Hf H (Post.refl r.sub) v h2⟩
  · exact m.no.elim
theorem mp_var {i : Nat} (h : PE X e (tVar i)) : MP X j e (ePeek i) := by
  refine PE.imp h fun σ H Q ⟨G, Hf, env, r, m⟩ => ?_
  unfold ePeek at m
  split at m
  · rename_i d hd
    obtain ⟨v, h1, h2⟩ := slot_val r hd
    exact ⟨v, h1, m Hf H (Post.refl r.sub) v (PRep.of r.sub h2)⟩
  · rename_i xs hd
    obtain ⟨p, fp, h1, vs, h2, h3, _⟩ := slot_own r hd
    exact ⟨.ref p, h1, m Hf H (Post.refl r.sub) _ ⟨p, vs, rfl, .inl (.inl h2), h3⟩⟩
  · rename_i ks vs hd
    obtain ⟨p, fp, h1, us, h2, h3, _⟩ := slot_own r hd
    exact ⟨.ref p, h1, m Hf H (Post.refl r.sub) _ ⟨p, us, rfl, h2, h3⟩⟩
  · rename_i ks vs hd
    obtain ⟨p, fp, h1, us, h2, h3, _⟩ := slot_own r hd
    exact ⟨.ref p, h1, m Hf H (Post.refl r.sub) _ ⟨p, us, rfl, h2, h3⟩⟩
  · rename_i xs hd
    obtain ⟨a, cls, dd, vs, h1, h2, h3, h4⟩ := slot_io r hd
    exact ⟨.ref a, h2, m Hf H (Post.refl r.sub) _ ⟨a, vs, rfl, .inl (.inl h3), h4⟩⟩
  · exact m.no.elim

/-! ### operators, by values -/
/-- g is what the operator f makes -/
def Op2 (X : Cx) (ca : Nat → Addr) (f : Value → Value → Sem Value) (g : D → D → Out D) : Prop := ∃ r : R2, OpR X f r ∧
  ∀ (W : WX) (σ : L2.St) (Hf H : Hp) (x y : D) (v u : V) (Q : VK), Same Hf H → PRep X.K ca Hf H x v → PRep X.K ca Hf H y u → OutP X.K ca W σ Hf H (g x y) (fun d Hf' H' => ∀ v, Rep X.K ca Hf' d v → Q v H') → r v u H Q
theorem me_op {op : Operator} {g : D → D → Out D} (o : Op2 X j.ca (binaryOp op) g) (ha : MP X j a ce) (hb : MP X j b cf) : ME X j (.BinOp a op b pos) (eOp2 g ce cf) := by
  obtain ⟨r, h, k⟩ := o
  refine PE.imp (pe_op h ha hb) fun σ H Q ⟨G, Hf, env, rr, m⟩ => ⟨G, Hf, env, rr, m.bind.imp fun x Hf1 H1 _ p1 m1 v rv => ⟨G, Hf1, env, rr.grow p1, m1.bind.imp fun y Hf2 H2 _ p2 m2 u ru => ?_⟩⟩
  exact k j.W σ Hf2 H2 x y v u Q p2.sub (rv.grow p2) ru m2
theorem me_cmp {op : CmpOp} {g : D → D → Out D} (o : Op2 X j.ca (compareOp op) g) (ha : MP X j a ce) (hb : MP X j b cf) (hm : behindInMarks op b = false) : ME X j (.Compare a [op] [b] pos) (eOp2 g ce cf) := by
  obtain ⟨r, h, k⟩ := o
  refine PE.imp (pe_cmpR h ha hb hm) fun σ H Q ⟨G, Hf, env, rr, m⟩ => ⟨G, Hf, env, rr, m.bind.imp fun x Hf1 H1 _ p1 m1 v rv => ⟨G, Hf1, env, rr.grow p1, m1.bind.imp fun y Hf2 H2 _ p2 m2 u ru => ?_⟩⟩
  exact k j.W σ Hf2 H2 x y v u Q p2.sub (rv.grow p2) ru m2

/-! ### tests -/
theorem mt_val (h : ME X j e ce) (he : ∀ whole, isTrue e X.env whole = (do let v ← whole; standAt e.pos; holding [v] (truthy v)) := by intro _; rfl) : MT X j e (tVal ce) := by
  refine PT.imp (pt_val h he) fun σ H Q ⟨G, Hf, env, rr, m⟩ => ⟨G, Hf, env, rr, m.bind.imp fun x Hf1 H1 _ p1 m1 v rv => ?_⟩
  cases x with
  | bl c => exact ⟨c, rv, OutP.ok m1 p1.sub⟩
  | _ => exact (OutP.no m1).elim
theorem mt_cmp {op : CmpOp} {g : D → D → Out D} (o : Op2 X j.ca (compareOp op) g) (ha : MP X j a ce) (hb : MP X j b cf) (hm : behindInMarks op b = false) : MT X j (.Compare a [op] [b] pos) (tVal (eOp2 g ce cf)) := by
  obtain ⟨r, h, k⟩ := o
  refine PT.imp (pt_cmpR h ha hb hm) fun σ H Q ⟨G, Hf, env, rr, m⟩ => ?_
  have m' : OutP X.K j.ca j.W σ Hf H (eOp2 g ce cf env) fun d Hf' H' => ∀ v, Rep X.K j.ca Hf' d v → ∃ k, v = .bl k ∧ Q k H' := by
    refine m.bind.imp fun x Hf1 H1 _ p1 m1 v rv => ?_
    cases x with
    | bl c => exact ⟨c, rv, OutP.ok m1 p1.sub⟩
    | _ => exact (OutP.no m1).elim
  refine ⟨G, Hf, env, rr, m'.bind.imp fun x Hf1 H1 _ p1 m1 v rv => ⟨G, Hf1, env, rr.grow p1, m1.bind.imp fun y Hf2 H2 _ p2 m2 u ru => ?_⟩⟩
  exact k j.W σ Hf2 H2 x y v u _ p2.sub (rv.grow p2) ru m2
theorem mt_not (h : MT X j a t) : MT X j (.UnaryOp .Not a pos) (tNot t) :=
  PT.imp (pt_not h) fun σ H Q ⟨G, Hf, env, rr, m⟩ => ⟨G, Hf, env, rr, m.bind.imp fun x Hf1 H1 _ p1 m1 => OutP.ok m1 p1.sub⟩
def MW (X : Cx) (j : Jc) (e : Expr) (c : CT) : Prop := PW X e (TMT X.K j c)
theorem mw_and1 (h : MT X j a t) : MW X j (.BoolOp .And [a] pos) t := pw_and1 h
theorem mw_or1 (h : MT X j a t) : MW X j (.BoolOp .Or [a] pos) t := pw_or1 h
theorem PW.imp {e : Expr} {t t' : TT} (h : PW X e t) (i : ∀ σ H Q, t' σ H Q → t σ H Q) : PW X e t' := ⟨fun wh pins s σ H Q I q => h.run wh pins s σ H Q I (i _ _ _ q)⟩
theorem mw_and (ha : MT X j a t) (hb : MW X j (.BoolOp .And (b :: es) pos) u) : MW X j (.BoolOp .And (a :: b :: es) pos) (tAnd t u) := by
  refine PW.imp (pw_and ha hb) fun σ H Q ⟨G, Hf, env, rr, m⟩ => ⟨G, Hf, env, rr, m.bind.imp fun x Hf1 H1 _ p1 m1 => ?_⟩
  cases x with
  | true => exact ⟨G, Hf1, env, rr.grow p1, m1⟩
  | false => exact OutP.ok m1 p1.sub
theorem mw_or (ha : MT X j a t) (hb : MW X j (.BoolOp .Or (b :: es) pos) u) : MW X j (.BoolOp .Or (a :: b :: es) pos) (tOr t u) := by
  refine PW.imp (pw_or ha hb) fun σ H Q ⟨G, Hf, env, rr, m⟩ => ⟨G, Hf, env, rr, m.bind.imp fun x Hf1 H1 _ p1 m1 => ?_⟩
  cases x with
  | false => exact ⟨G, Hf1, env, rr.grow p1, m1⟩
  | true => exact OutP.ok m1 p1.sub
theorem mt_w (h : MW X j e t) : MT X j e t := PW.pt h

/-! ### and, or, not as values; if-expressions; chains -/
theorem me_one {op} (h : ME X j a ce) : ME X j (.BoolOp op [a] pos) ce := pe_one h
theorem me_and (ha : ME X j a ce) (hb : ME X j (.BoolOp .And (b :: es) pos) cf) : ME X j (.BoolOp .And (a :: b :: es) pos) (eAnd ce cf) := by
  refine PE.imp (pe_and ha hb) fun σ H Q ⟨G, Hf, env, rr, m⟩ => ⟨G, Hf, env, rr, m.bind.imp fun x Hf1 H1 _ p1 m1 v rv => ?_⟩
  cases x with
  | bl c =>
    refine ⟨c, rv, ?_⟩
    cases c with
    | true => exact ⟨G, Hf1, env, rr.grow p1, m1⟩
    | false => exact OutP.ok m1 p1.sub _ rfl
  | _ => exact (OutP.no m1).elim
theorem me_or (ha : ME X j a ce) (hb : ME X j (.BoolOp .Or (b :: es) pos) cf) : ME X j (.BoolOp .Or (a :: b :: es) pos) (eOr ce cf) := by
  refine PE.imp (pe_or ha hb) fun σ H Q ⟨G, Hf, env, rr, m⟩ => ⟨G, Hf, env, rr, m.bind.imp fun x Hf1 H1 _ p1 m1 v rv => ?_⟩
  cases x with
  | bl c =>
    refine ⟨c, rv, ?_⟩
    cases c with
    | false => exact ⟨G, Hf1, env, rr.grow p1, m1⟩
    | true => exact OutP.ok m1 p1.sub _ rfl
  | _ => exact (OutP.no m1).elim
theorem me_not (ha : ME X j a ce) : ME X j (.UnaryOp .Not a pos) (eNot ce) := by
  refine PE.imp (pe_not ha) fun σ H Q ⟨G, Hf, env, rr, m⟩ => ⟨G, Hf, env, rr, m.bind.imp fun x Hf1 H1 _ p1 m1 v rv => ?_⟩
  cases x with
  | bl c => exact ⟨c, rv, OutP.ok m1 p1.sub _ rfl⟩
  | _ => exact (OutP.no m1).elim
theorem me_if (hc : MT X j c t) (ha : ME X j a ce) (hb : ME X j b cf) : ME X j (.IfExp c a b pos) (eIf t ce cf) := by
  refine PE.imp (pe_ifExp hc ha hb) fun σ H Q ⟨G, Hf, env, rr, m⟩ => ⟨G, Hf, env, rr, m.bind.imp fun x Hf1 H1 _ p1 m1 => ?_⟩
  cases x with
  | true => exact ⟨G, Hf1, env, rr.grow p1, m1⟩
  | false => exact ⟨G, Hf1, env, rr.grow p1, m1⟩
theorem me_chain {op op' : CmpOp} {f g : D → D → Out D} (o : Op2 X j.ca (compareOp op) f) (o' : Op2 X j.ca (compareOp op') g) (ha : MP X j a ce) (hb : MP X j b cf) (hc : MP X j c cg)
    (hm : lastMarks [op, op'] [b, c] = false := by with_unfolding_all rfl) : ME X j (.Compare a [op, op'] [b, c] pos) (eChain f g ce cf cg) := by
  obtain ⟨r, h, k⟩ := o
  obtain ⟨r', h', k'⟩ := o'
  refine PE.imp (pe_chain h h' ha hb hc hm) fun σ H Q ⟨G, Hf, env, rr, m⟩ => ⟨G, Hf, env, rr, m.bind.imp fun x Hf1 H1 _ p1 m1 v rv => ⟨G, Hf1, env, rr.grow p1, m1.bind.imp fun y Hf2 H2 _ p2 m2 u ru => ?_⟩⟩
  refine k j.W σ Hf2 H2 x y v u _ p2.sub (rv.grow p2) ru (m2.bind.imp fun z Hf3 H3 _ p3 m3 w rw => ?_)
  cases z with
  | bl z =>
    refine ⟨z, rw, ?_⟩
    cases z with
    | true => exact ⟨G, Hf3, env, ((rr.grow p1).grow p2).grow p3, m3.bind.imp fun z Hf4 H4 _ p4 m4 w' rw' => k' j.W σ Hf4 H4 y z u w' _ p4.sub ((ru.grow p3).grow p4) rw' m4⟩
    | false => exact OutP.ok m3 p3.sub _ rfl
  | _ => exact (OutP.no m3).elim
theorem mt_chain {op op' : CmpOp} {f g : D → D → Out D} (o : Op2 X j.ca (compareOp op) f) (o' : Op2 X j.ca (compareOp op') g) (ha : MP X j a ce) (hb : MP X j b cf) (hc : MP X j c cg)
    (hm : lastMarks [op, op'] [b, c] = false := by with_unfolding_all rfl) : MT X j (.Compare a [op, op'] [b, c] pos) (tVal (eChain f g ce cf cg)) := by
  obtain ⟨r, h, k⟩ := o
  obtain ⟨r', h', k'⟩ := o'
  refine PT.imp (pt_chain h h' ha hb hc hm) fun σ H Q ⟨G, Hf, env, rr, m⟩ => ?_
  have m' : OutP X.K j.ca j.W σ Hf H (eChain f g ce cf cg env) fun d Hf' H' => ∀ v, Rep X.K j.ca Hf' d v → ∃ k, v = .bl k ∧ Q k H' := by
    refine m.bind.imp fun x Hf1 H1 _ p1 m1 v rv => ?_
    cases x with
    | bl c => exact ⟨c, rv, OutP.ok m1 p1.sub⟩
    | _ => exact (OutP.no m1).elim
  refine ⟨G, Hf, env, rr, m'.bind.imp fun x Hf1 H1 _ p1 m1 v rv => ⟨G, Hf1, env, rr.grow p1, m1.bind.imp fun y Hf2 H2 _ p2 m2 u ru => ?_⟩⟩
  refine k j.W σ Hf2 H2 x y v u _ p2.sub (rv.grow p2) ru (m2.bind.imp fun z Hf3 H3 _ p3 m3 w rw => ?_)
  cases z with
  | bl z =>
    refine ⟨z, rw, ?_⟩
    cases z with
    | true => exact ⟨G, Hf3, env, ((rr.grow p1).grow p2).grow p3, m3.bind.imp fun z Hf4 H4 _ p4 m4 w' rw' => k' j.W σ Hf4 H4 y z u w' _ p4.sub ((ru.grow p3).grow p4) rw' m4⟩
    | false => exact OutP.ok m3 p3.sub _ rfl
  | _ => exact (OutP.no m3).elim

/-! ### arguments, displays, built-ins -/
theorem ma_nil : MA X j [] aNil := PA.imp pa_nil fun σ H Q ⟨G, Hf, env, rr, m⟩ => OutP.ok m rr.sub [] (by unfold RepL; rfl)
theorem ma_cons (ha : ME X j e ce) (hr : MA X j es al) (hs : starEach (e :: es) X.env = (false, eval e X.env) :: starEach es X.env := by rfl) : MA X j (e :: es) (aCons ce al) := by
  refine PA.imp (pa_cons ha hr hs) fun σ H Q ⟨G, Hf, env, rr, m⟩ => ⟨G, Hf, env, rr, m.bind.imp fun x Hf1 H1 _ p1 m1 v rv => ⟨G, Hf1, env, rr.grow p1, m1.bind.imp fun y Hf2 H2 _ p2 m2 u ru => ?_⟩⟩
  exact OutP.ok m2 p2.sub _ (by unfold RepL; exact ⟨v, u, rfl, Rep.mono p2.sh _ _ rv, ru⟩)
theorem mpa_nil : MPA X j [] aNil := PA.imp pa_nil fun σ H Q ⟨G, Hf, env, rr, m⟩ => OutP.ok m rr.sub [] (by unfold PRepL; rfl)
theorem mpa_cons (ha : MP X j e ce) (hr : MPA X j es al) (hs : starEach (e :: es) X.env = (false, eval e X.env) :: starEach es X.env := by rfl) : MPA X j (e :: es) (aCons ce al) := by
  refine PA.imp (pa_cons ha hr hs) fun σ H Q ⟨G, Hf, env, rr, m⟩ => ⟨G, Hf, env, rr, m.bind.imp fun x Hf1 H1 _ p1 m1 v rv => ⟨G, Hf1, env, rr.grow p1, m1.bind.imp fun y Hf2 H2 _ p2 m2 u ru => ?_⟩⟩
  exact OutP.ok m2 p2.sub _ (by unfold PRepL; exact ⟨v, u, rfl, rv.grow p2, ru⟩)
theorem line_eq : line = sizeLine := by rw [sizeLine_eq]; rfl
theorem me_tup {x1} (h : MA X j es al) : ME X j (.Tuple es x1 pos) (eTup al) := by
  refine PE.imp (pe_tup h) fun σ H Q ⟨G, Hf, env, rr, m⟩ => ⟨G, Hf, env, rr, m.bind.imp fun xs Hf1 H1 _ p1 m1 vs rv => ?_⟩
  unfold sized at m1
  split at m1
  · rename_i hz
    refine ⟨by rw [← rv.length, ← line_eq]; exact hz, fun p hp => m1 _ _ (post_new p1.sub hp) _ ?_⟩
    unfold Rep
    exact ⟨p, vs, rfl, ⟨.inl (.inl upd_same), fun _ => upd_same⟩, RepL.mono (post_new (o := .tup vs) p1.sub hp).sh _ _ rv⟩
  · exact (OutP.no m1).elim
theorem mf_lst (h : MA X j es al) : MF X j (.List es pos) (fLst al) := by
  refine PE.imp (pe_lst h) fun σ H Q ⟨G, Hf, env, rr, m⟩ => ⟨G, Hf, env, rr, m.bind.imp fun xs Hf1 H1 _ p1 m1 vs rv => ?_⟩
  unfold sized at m1
  split at m1
  · rename_i hz
    refine ⟨by rw [← rv.length, ← line_eq]; exact hz, fun p hp => m1 _ _ (post_own p1.sub hp) _ ?_⟩
    obtain ⟨q, fp, e, o, mi⟩ := ownV_new (K := X.K) (ca := j.ca) p1.sub hp rv
    exact ⟨q, fp, e, o, mi.1, fun a ha => ⟨(mi.2 a ha).1, p1.all.free (mi.2 a ha).2.1, (mi.2 a ha).2.2⟩⟩
  · exact (OutP.no m1).elim
/-- a built-in, by values -/
def BC (X : Cx) (ca : Nat → Addr) (f : Value) (g : List D → Out D) : Prop := ∃ r : List V → Hp → VK → Prop, CallR X f r ∧
  ∀ (W : WX) (σ : L2.St) (Hf H : Hp) (xs : List D) (vs : List V) (Q : VK), Same Hf H → PRepL X.K ca Hf H xs vs → OutP X.K ca W σ Hf H (g xs) (fun d Hf' H' => ∀ v, Rep X.K ca Hf' d v → Q v H') → r vs H Q
theorem me_b {id : String} {g : List D → Out D} {x : Str} {q : Pos} (o : BC X j.ca (.builtin id) g) (hg : Gl X x) (hm : X.mg x = none) (hv : bootBuiltins x = some (.builtin id)) (ha : MPA X j (e :: es) al)
    (hn : x ≠ "__name__" := by decide) (hdb : (x == ("__debug__" : Str)) = false := by decide) (he : starEach (e :: es) X.env = (false, eval e X.env) :: starEach es X.env := by rfl) (hpl : (backTo pos (starEach es X.env)).any (·.1) = false := by rfl) :
    ME X j (.Call (.Name x q) (e :: es) [] pos) (eB g al) := by
  obtain ⟨r, h, k⟩ := o
  exact PE.imp (pe_callB h hg hm hv ha hn hdb he hpl) fun σ H Q ⟨G, Hf, env, rr, m⟩ => ⟨G, Hf, env, rr, m.bind.imp fun xs Hf1 H1 _ p1 m1 vs rv => k j.W σ Hf1 H1 xs vs Q p1.sub rv m1⟩
theorem me_ty {T : String} {g : List D → Out D} {x : Str} {q : Pos} (o : BC X j.ca (.type T) g) (hg : Gl X x) (hm : X.mg x = none) (hv : bootBuiltins x = some (.type T)) (ha : MPA X j (e :: es) al)
    (hn : x ≠ "__name__" := by decide) (hdb : (x == ("__debug__" : Str)) = false := by decide) (he : starEach (e :: es) X.env = (false, eval e X.env) :: starEach es X.env := by rfl) (hpl : (backTo pos (starEach es X.env)).any (·.1) = false := by rfl) :
    ME X j (.Call (.Name x q) (e :: es) [] pos) (eB g al) := by
  obtain ⟨r, h, k⟩ := o
  exact PE.imp (pe_callTy h hg hm hv ha hn hdb he hpl) fun σ H Q ⟨G, Hf, env, rr, m⟩ => ⟨G, Hf, env, rr, m.bind.imp fun xs Hf1 H1 _ p1 m1 vs rv => k j.W σ Hf1 H1 xs vs Q p1.sub rv m1⟩
/-- .. that makes a new list -/
def BF (X : Cx) (ca : Nat → Addr) (f : Value) (g : List D → Out (List D)) : Prop := ∃ r : List V → Hp → VK → Prop, CallR X f r ∧
  ∀ (W : WX) (σ : L2.St) (Hf H : Hp) (xs : List D) (vs : List V) (Q : VK), Same Hf H → PRepL X.K ca Hf H xs vs → OutP X.K ca W σ Hf H (g xs) (fun ys Hf' H' => ∀ p us, H' p = none → RepL X.K ca Hf' ys us → Q (.ref p) (upd H' p (.lst us))) → r vs H Q
theorem own_step {K : PySem.W.Frag} {Hf H Hf1 H1 : Hp} {p : Addr} {us : List V} {ys : List D} (p1 : Post Hf H Hf1 H1) (hp : H1 p = none) (r : RepL K ca Hf1 ys us) : OwnV K ca H Hf1 (upd H1 p (.lst us)) (.lst ys) (.ref p) := by
  obtain ⟨q, fp, e, o, mi⟩ := ownV_new (K := K) (ca := ca) p1.sub hp r
  exact ⟨q, fp, e, o, mi.1, fun a ha => ⟨(mi.2 a ha).1, p1.all.free (mi.2 a ha).2.1, (mi.2 a ha).2.2⟩⟩
theorem mf_ty {T : String} {g : List D → Out (List D)} {x : Str} {q : Pos} (o : BF X j.ca (.type T) g) (hg : Gl X x) (hm : X.mg x = none) (hv : bootBuiltins x = some (.type T)) (ha : MPA X j (e :: es) al)
    (hn : x ≠ "__name__" := by decide) (hdb : (x == ("__debug__" : Str)) = false := by decide) (he : starEach (e :: es) X.env = (false, eval e X.env) :: starEach es X.env := by rfl) (hpl : (backTo pos (starEach es X.env)).any (·.1) = false := by rfl) :
    MF X j (.Call (.Name x q) (e :: es) [] pos) (fB g al) := by
  obtain ⟨r, h, k⟩ := o
  refine PE.imp (pe_callTy h hg hm hv ha hn hdb he hpl) fun σ H Q ⟨G, Hf, env, rr, m⟩ => ⟨G, Hf, env, rr, m.bind.imp fun xs Hf1 H1 _ p1 m1 vs rv => k j.W σ Hf1 H1 xs vs Q p1.sub rv (m1.bind.imp fun ys Hf2 H2 _ p2 m2 p us hp ru => ?_)⟩
  exact m2 _ _ (post_own p2.sub hp) _ (own_step (p1.trans p2) hp ru)
theorem mf_b {T : String} {g : List D → Out (List D)} {x : Str} {q : Pos} (o : BF X j.ca (.builtin T) g) (hg : Gl X x) (hm : X.mg x = none) (hv : bootBuiltins x = some (.builtin T)) (ha : MPA X j (e :: es) al)
    (hn : x ≠ "__name__" := by decide) (hdb : (x == ("__debug__" : Str)) = false := by decide) (he : starEach (e :: es) X.env = (false, eval e X.env) :: starEach es X.env := by rfl) (hpl : (backTo pos (starEach es X.env)).any (·.1) = false := by rfl) :
    MF X j (.Call (.Name x q) (e :: es) [] pos) (fB g al) := by
  obtain ⟨r, h, k⟩ := o
  refine PE.imp (pe_callB h hg hm hv ha hn hdb he hpl) fun σ H Q ⟨G, Hf, env, rr, m⟩ => ⟨G, Hf, env, rr, m.bind.imp fun xs Hf1 H1 _ p1 m1 vs rv => k j.W σ Hf1 H1 xs vs Q p1.sub rv (m1.bind.imp fun ys Hf2 H2 _ p2 m2 p us hp ru => ?_)⟩
  exact m2 _ _ (post_own p2.sub hp) _ (own_step (p1.trans p2) hp ru)

/-! ### calls of defs -/
section
variable {k : Nat} {f : Addr} {fd : FuncData} {ps : List Str} {F : Fn} {x : Str} {q : Pos}
theorem spF_read {G : Gh} {Hf H : Hp} {env : M.Env} {σ : L2.St} {ds : List D} {vs : List V} {Q : VK} (s : Same Hf H) (r : RepL X.K j.ca Hf ds vs)
    (m : OutP X.K j.ca j.W σ Hf H (F ds) fun s Hf' H' => ∀ v, (match s with | .val d => Rep X.K j.ca Hf' d v → Q v H' | .own o => OwnV X.K j.ca H Hf' H' o v → Q v H' | _ => False)) : spF X.K j.ca F vs H Q (WE j.W σ) := by
  refine ⟨Hf, ds, s, r, ?_⟩
  cases e : F ds with
  | ok sl =>
    rw [e] at m
    cases sl with
    | val d => exact fun v Hf' H' p rv => m Hf' H' p v rv
    | own o => exact fun v Hf' H' p rv => m Hf' H' p v rv
    | un => exact m Hf H (Post.refl s) .non
    | exc x => exact m Hf H (Post.refl s) .non
    | io x => exact m Hf H (Post.refl s) .non
  | exc x => rw [e] at m; exact m
  | stuck => rw [e] at m; exact m
theorem call_tm {σ : L2.St} {H : Hp} {Q : VK} (h : TM X.K j (eCall F al) σ H Q) : tCallS (spF X.K j.ca F) (WE j.W) (TMA X.K j al) σ H Q := by
  obtain ⟨G, Hf, env, rr, m⟩ := h
  refine ⟨G, Hf, env, rr, m.bind.imp fun ds Hf1 H1 _ p1 m1 vs rv => spF_read (G := G) (env := env) p1.sub rv ?_⟩
  cases q : F ds with
  | ok sl =>
    rw [q] at m1
    intro Hf2 H2 p2 v
    cases sl with
    | val d => exact fun rv => m1 Hf2 H2 p2 v rv
    | own o =>
      intro ov
      obtain ⟨Hf3, h1, h2, h3, h4⟩ := ov.share p2.sub
      have e : (Out.ok (Sl.own o)).bind Sl.shared = .ok o.shared := by cases o <;> rfl
      rw [e] at m1
      exact m1 Hf3 H2 ⟨p2.sh.trans h1, p2.all, h2, fun a z => (h3 a z).elim (p2.new a) .inr⟩ v h4
    | un => exact m1.elim
    | exc x => exact m1.elim
    | io x => exact m1.elim
  | exc x => rw [q] at m1; exact m1
  | stuck => rw [q] at m1; exact m1
theorem me_call (Fo : FnOk X.prog X.w X.K X.mg X.base (L2N.CX X.prog X.w) k f fd ps (spF X.K j.ca F)) (hr : Room k X.A) (hg : Gl X x) (hm : X.mg x = some (.ref f)) (hk : PySem.W.keepIn X.K (.ref f) = true) (hb : Binds X.K fd ps []) (tk : L2N.Takes X j.W)
    (ha : MA X j (e :: es) al) (hdb : (x == ("__debug__" : Str)) = false := by decide) (he : starEach (e :: es) X.env = (false, eval e X.env) :: starEach es X.env := by rfl) (hpl : (backTo pos (starEach es X.env)).any (·.1) = false := by rfl) :
    ME X j (.Call (.Name x q) (e :: es) [] pos) (eCall F al) :=
  PE.imp (pe_callS Fo hr hg hm hk hb (fun σ => L2N.passAt tk σ) ha hdb he hpl) fun σ H Q h => call_tm h
end
end
end M
/-! MStmt: statements, loops, comprehensions, defs. -/
namespace M
open PySem PySem.Spec PyProof.Rows L2
abbrev Ea := Option (Addr × Value × Option Addr)
section
variable {K : PySem.W.Frag} {ca : Nat → Addr} {ea : Ea} {G : Gh} {Hf H : Hp} {env : M.Env} {σ : L2.St}
theorem flatten_set_sub : ∀ {l : List (List Addr)} {i : Nat} {a : Addr}, a ∈ (l.set i []).flatten → a ∈ l.flatten := fun {l i a} h => by
  rw [List.mem_flatten] at h ⊢
  obtain ⟨m, h1, h2⟩ := h
  rcases List.mem_or_eq_of_mem_set h1 with q | q
  · exact ⟨m, q, h2⟩
  · subst q; simp at h2
theorem flatten_set_sublist : ∀ (l : List (List Addr)) (i : Nat), ((l.set i []).flatten).Sublist l.flatten
  | [], i => by simp
  | x :: l, 0 => by simp
  | x :: l, i + 1 => by simpa using flatten_set_sublist l i
theorem Mine.sub {G Hf H : Hp} {l l' : List Addr} (h : Mine G Hf H l) (s : l'.Sublist l) : Mine G Hf H l' := ⟨h.1.sublist s, fun a ha => h.2 a (s.subset ha)⟩
/-- a slot is stored -/
theorem RR.put (r : RR K ca ea G Hf env σ H) (i : Nat) {s : Sl} {o : Option V} (h : SlR K ca ea Hf H [] s o) : RR K ca ea G Hf (env.set i s) (σ.set i o) H := by
  obtain ⟨fps, l, m, k⟩ := r.slots
  refine ⟨r.post, by simp [r.len], fps.set i [], by simp [l], m.sub (flatten_set_sublist _ _), fun j s' o' fp e1 e2 e3 => ?_⟩
  by_cases hj : i = j
  · subst hj
    have h1 : i < env.length := by
      have := (List.getElem?_eq_some_iff.mp e1).1
      simpa using this
    have h2 : i < σ.length := by rw [← r.len]; exact h1
    have h3 : i < fps.length := by rw [l]; exact h1
    rw [List.getElem?_set_self h1] at e1
    rw [List.getElem?_set_self h2] at e2
    rw [List.getElem?_set_self h3] at e3
    cases e1; cases e2; cases e3
    exact h
  · rw [List.getElem?_set_ne hj] at e1 e2 e3
    exact k j s' o' fp e1 e2 e3
theorem RR.val (r : RR K ca ea G Hf env σ H) (i : Nat) {d : D} {v : V} (h : Rep K ca Hf d v) : RR K ca ea G Hf (env.set i (.val d)) (σ.set i (some v)) H := r.put i ⟨v, rfl, h⟩
theorem RR.un (r : RR K ca ea G Hf env σ H) (i : Nat) : RR K ca ea G Hf (env.set i .un) (σ.set i none) H := r.put i trivial
theorem mem_flatten_set : ∀ {l : List (List Addr)} {i : Nat} {fp : List Addr} {a : Addr}, a ∈ (l.set i fp).flatten → a ∈ fp ∨ a ∈ (l.set i []).flatten
  | [], i, fp, a, h => by simp at h
  | x :: l, 0, fp, a, h => by simpa using h
  | x :: l, i + 1, fp, a, h => by
    have h : a ∈ x ∨ a ∈ (l.set i fp).flatten := by simpa using h
    rcases h with h | h
    · exact .inr (by simp [h])
    · rcases mem_flatten_set h with q | q
      · exact .inl q
      · have q' := List.mem_flatten.mp q
        exact .inr (by simp only [List.set_cons_succ, List.flatten_cons, List.mem_append]; exact .inr q)
theorem nodup_flatten_set : ∀ {l : List (List Addr)} {i : Nat} {fp : List Addr}, l.flatten.Nodup → fp.Nodup → (∀ a ∈ fp, a ∉ (l.set i []).flatten) → (l.set i fp).flatten.Nodup
  | [], i, fp, _, _, _ => by simp
  | x :: l, 0, fp, h, hf, hd => by
    simp only [List.set_cons_zero, List.flatten_cons] at hd ⊢
    simp only [List.flatten_cons] at h
    rw [List.nodup_append] at h ⊢
    exact ⟨hf, h.2.1, fun a ha b hb e => by subst e; exact hd a ha (by simpa using hb)⟩
  | x :: l, i + 1, fp, h, hf, hd => by
    simp only [List.set_cons_succ, List.flatten_cons] at hd ⊢
    simp only [List.flatten_cons] at h
    rw [List.nodup_append] at h ⊢
    refine ⟨h.1, nodup_flatten_set h.2.1 hf fun a ha hb => hd a ha (by simp [List.mem_append]; exact .inr (by simpa using hb)), fun a ha b hb e => ?_⟩
    subst e
    rcases mem_flatten_set hb with q | q
    · exact hd a q (by simp only [List.mem_append]; exact .inl ha)
    · exact h.2.2 a ha a (flatten_set_sub q) rfl
/-- a new thing of ours is stored -/
theorem RR.putOwn {Hf' H' : Hp} (r : RR K ca ea G Hf env σ H) (p : Post Hf H Hf' H') (i : Nat) {o : Own} {v : V} (h : OwnV K ca H Hf' H' o v) : RR K ca ea G Hf' (env.set i (.own o)) (σ.set i (some v)) H' := by
  obtain ⟨q, fp, rfl, ow, mi⟩ := h
  have r' := r.grow p
  obtain ⟨fps, l, m, k⟩ := r.slots
  have hd : ∀ a ∈ fp, a ∉ fps.flatten := fun a ha hb => (m.2 a hb).2.2 (mi.2 a ha).2.1
  have k' : ∀ (i : Nat) s o fp, env[i]? = some s → σ[i]? = some o → fps[i]? = some fp → SlR K ca ea Hf' H' fp s o := fun i s o fp e1 e2 e3 => by
    have z := k i s o fp e1 e2 e3
    cases s with
    | un => trivial
    | val d => obtain ⟨v, k1, k2⟩ := z; exact ⟨v, k1, Rep.mono p.sh _ _ k2⟩
    | own w => obtain ⟨a, k1, k2⟩ := z; exact ⟨a, k1, k2.grow p⟩
    | exc x => obtain ⟨a, cls, d, k1, k2, k3⟩ := z; exact ⟨a, cls, d, k1, k2, k3.mono p.sh⟩
    | io xs => obtain ⟨a, cls, d, vs, k1, k2, k3, k4, k5⟩ := z; exact ⟨a, cls, d, vs, k1, k2, p.all _ _ k3, RepL.mono p.sh _ _ k4, k5⟩
  have m' := m.grow p
  refine ⟨r'.post, by simp [r.len], fps.set i fp, by simp [l], ⟨nodup_flatten_set m.1 mi.1 fun a ha hb => hd a ha (flatten_set_sub hb), fun a ha => ?_⟩, fun j s' o' fp' e1 e2 e3 => ?_⟩
  · rcases mem_flatten_set ha with z | z
    · exact ⟨(mi.2 a z).1, r.post.all.free (mi.2 a z).2.1, (mi.2 a z).2.2⟩
    · exact m'.2 a (flatten_set_sub z)
  · by_cases hj : i = j
    · subst hj
      have h1 : i < env.length := by
        have := (List.getElem?_eq_some_iff.mp e1).1
        simpa using this
      have h2 : i < σ.length := by rw [← r.len]; exact h1
      have h3 : i < fps.length := by rw [l]; exact h1
      rw [List.getElem?_set_self h1] at e1
      rw [List.getElem?_set_self h2] at e2
      rw [List.getElem?_set_self h3] at e3
      cases e1; cases e2; cases e3
      exact ⟨q, rfl, ow⟩
    · rw [List.getElem?_set_ne hj] at e1 e2 e3
      exact k' j s' o' fp' e1 e2 e3
theorem nodup_flat_ne : ∀ {l : List (List Addr)} {i j : Nat} {a b : List Addr} {x : Addr}, l.flatten.Nodup → l[i]? = some a → l[j]? = some b → i ≠ j → x ∈ a → x ∉ b
  | [], i, j, a, b, x, h, e1, e2, ne, h1 => by simp at e1
  | c :: l, 0, 0, a, b, x, h, e1, e2, ne, h1 => absurd rfl ne
  | c :: l, 0, j + 1, a, b, x, h, e1, e2, ne, h1 => fun h2 => by
    simp only [List.flatten_cons] at h
    rw [List.nodup_append] at h
    simp at e1 e2; subst e1
    exact h.2.2 x h1 x (List.mem_flatten.mpr ⟨b, List.mem_of_getElem? e2, h2⟩) rfl
  | c :: l, i + 1, 0, a, b, x, h, e1, e2, ne, h1 => fun h2 => by
    simp only [List.flatten_cons] at h
    rw [List.nodup_append] at h
    simp at e1 e2; subst e2
    exact h.2.2 x h2 x (List.mem_flatten.mpr ⟨a, List.mem_of_getElem? e1, h1⟩) rfl
  | c :: l, i + 1, j + 1, a, b, x, h, e1, e2, ne, h1 => by
    simp only [List.flatten_cons] at h
    rw [List.nodup_append] at h
    exact nodup_flat_ne h.2.1 (by simpa using e1) (by simpa using e2) (fun z => ne (by rw [z])) h1
/-- our own list is changed -/
theorem RR.upd (r : RR K ca ea G Hf env σ H) {i : Nat} {xs ys : List D} {us : List V} {p : Addr} (he : env[i]? = some (.own (.lst xs))) (hs : σ[i]? = some (some (.ref p))) (ru : RepL K ca Hf ys us) :
    RR K ca ea G Hf (env.set i (.own (.lst ys))) σ (upd H p (.lst us)) ∧ (∃ vs, H p = some (.lst vs) ∧ RepL K ca Hf xs vs) := by
  obtain ⟨fps, l, m, k⟩ := r.slots
  have h1 : i < env.length := (List.getElem?_eq_some_iff.mp he).1
  have h3 : i < fps.length := by rw [l]; exact h1
  obtain ⟨p', e0, vs, hp, rv, ef⟩ := k i _ _ _ he hs (List.getElem?_eq_getElem h3)
  cases e0
  have hpm : p ∈ fps.flatten := List.mem_flatten.mpr ⟨fps[i], List.getElem_mem h3, by rw [ef]; simp⟩
  obtain ⟨m1, m2, m3⟩ := m.2 p hpm
  refine ⟨⟨⟨r.post.sh, fun b x e => ?_, fun b x e => ?_, r.post.new⟩, by simp [r.len], fps, by simp [l], ⟨m.1, fun a ha => ?_⟩, fun j s' o' fp' e1 e2 e3 => ?_⟩, vs, hp, rv⟩
  · rw [upd_ne (ne_of_none e m2)]; exact r.post.all _ _ e
  · rw [upd_ne (ne_of_none e m1)]; exact r.post.sub _ _ e
  · obtain ⟨z1, z2, z3⟩ := m.2 a ha
    refine ⟨z1, z2, ?_⟩
    by_cases hb : a = p
    · subst hb; rw [upd_same]; simp
    · rw [upd_ne hb]; exact z3
  · by_cases hj : i = j
    · subst hj
      rw [List.getElem?_set_self h1] at e1
      cases e1
      rw [hs] at e2; cases e2
      rw [List.getElem?_eq_getElem h3] at e3; cases e3
      exact ⟨p, rfl, us, upd_same, ru, ef⟩
    · rw [List.getElem?_set_ne hj] at e1
      have z := k j s' o' fp' e1 e2 e3
      cases s' with
      | un => trivial
      | val d => exact z
      | exc x => exact z
      | io xs =>
        obtain ⟨a, cls, d, vs, k1, k2, k3, k4, k5⟩ := z
        have np : p ∉ fp' := nodup_flat_ne m.1 (List.getElem?_eq_getElem h3) e3 hj (by rw [ef]; simp)
        exact ⟨a, cls, d, vs, k1, k2, by rw [upd_ne (fun z => np (by rw [k5, z]; simp))]; exact k3, k4, k5⟩
      | own w =>
        obtain ⟨q, k1, k2⟩ := z
        have np : p ∉ fp' := nodup_flat_ne m.1 (List.getElem?_eq_getElem h3) e3 hj (by rw [ef]; simp)
        refine ⟨q, k1, ?_⟩
        cases w with
        | dct ks' vs' =>
          obtain ⟨us', ⟨kvs, q0, q1⟩, q2, q3⟩ := k2
          subst q3
          exact ⟨us', ⟨kvs, by rw [upd_ne (fun z => np (by simp [z]))]; exact q0, q1⟩, q2, rfl⟩
        | dctT ks' vs' =>
          obtain ⟨us', ⟨kvs, q0, q1⟩, q2, q3⟩ := k2
          subst q3
          exact ⟨us', ⟨kvs, by rw [upd_ne (fun z => np (by simp [z]))]; exact q0, q1⟩, q2, rfl⟩
        | lst xs' =>
          obtain ⟨vs', q1, q2, q3⟩ := k2
          subst q3
          exact ⟨vs', by rw [upd_ne (fun z => np (by simp [z]))]; exact q1, q2, rfl⟩
        | lst2 xss =>
          obtain ⟨ps, q1, q2, q3, q4⟩ := k2
          subst q2
          refine ⟨ps, by rw [upd_ne (fun z => np (by simp [z]))]; exact q1, rfl, q3, fun n q' xs'' w1 w2 => ?_⟩
          obtain ⟨vs', y1, y2⟩ := q4 n q' xs'' w1 w2
          exact ⟨vs', by rw [upd_ne (fun z => np (by rw [← z]; exact List.mem_cons_of_mem _ (List.mem_of_getElem? w1)))]; exact y1, y2⟩
/-- what is ours becomes shared -/
theorem RR.freeze (r : RR K ca ea G Hf env σ H) {i : Nat} {o : Own} (he : env[i]? = some (.own o)) : ∃ Hf2, Same Hf Hf2 ∧ RR K ca ea G Hf2 (env.set i (.val o.shared)) σ H := by
  obtain ⟨fps, l, m, k⟩ := r.slots
  have h1 : i < env.length := (List.getElem?_eq_some_iff.mp he).1
  have h2 : i < σ.length := by rw [← r.len]; exact h1
  have h3 : i < fps.length := by rw [l]; exact h1
  obtain ⟨p, e0, ow⟩ := k i _ _ _ he (List.getElem?_eq_getElem h2) (List.getElem?_eq_getElem h3)
  have hin : ∀ a ∈ fps[i], a ∈ fps.flatten := fun a ha => List.mem_flatten.mpr ⟨fps[i], List.getElem_mem h3, ha⟩
  obtain ⟨Hf2, s1, s2, s3, s4, s5⟩ := own_share r.sub ow fun a ha => ⟨(m.2 a (hin a ha)).1, (m.2 a (hin a ha)).2.2⟩
  refine ⟨Hf2, s1, ⟨r.post.sh.trans s1, r.post.all, s2, fun a ha => ?_⟩, by simp [r.len], fps.set i [], by simp [l], ⟨m.1.sublist (flatten_set_sublist _ _), fun a ha => ?_⟩, fun j s' o' fp' e1 e2 e3 => ?_⟩
  · rcases s3 a ha with z | z
    · exact r.post.new a z
    · exact .inr (m.2 a (hin a z)).2.1
  · obtain ⟨z1, z2, z3⟩ := m.2 a (flatten_set_sub ha)
    refine ⟨?_, z2, z3⟩
    have na : a ∉ fps[i] := fun hm => by
      rw [List.mem_flatten] at ha
      obtain ⟨c, c1, c2⟩ := ha
      obtain ⟨n, hn, en⟩ := List.mem_iff_getElem.mp c1
      by_cases hni : i = n
      · subst hni
        rw [List.getElem_set_self] at en
        subst en; simp at c2
      · rw [List.getElem_set_ne hni] at en
        have hn' : n < fps.length := by simpa using hn
        exact nodup_flat_ne m.1 (List.getElem?_eq_getElem h3) (List.getElem?_eq_getElem hn') hni hm (by rw [en]; exact c2)
    rw [s4 a na]; exact z1
  · by_cases hj : i = j
    · subst hj
      rw [List.getElem?_set_self h1] at e1
      rw [List.getElem?_set_self h3] at e3
      cases e1; cases e3
      rw [List.getElem?_eq_getElem h2] at e2; cases e2
      exact ⟨.ref p, e0, s5⟩
    · rw [List.getElem?_set_ne hj] at e1 e3
      have z := k j s' o' fp' e1 e2 e3
      cases s' with
      | un => trivial
      | val d => obtain ⟨v, k1, k2⟩ := z; exact ⟨v, k1, Rep.mono s1 _ _ k2⟩
      | exc x => obtain ⟨a, cls, d, k1, k2, k3⟩ := z; exact ⟨a, cls, d, k1, k2, k3.mono s1⟩
      | io xs => obtain ⟨a, cls, d, vs, k1, k2, k3, k4, k5⟩ := z; exact ⟨a, cls, d, vs, k1, k2, k3, RepL.mono s1 _ _ k4, k5⟩
      | own w =>
        obtain ⟨q, k1, k2⟩ := z
        refine ⟨q, k1, ?_⟩
        cases w with
        | lst xs' => obtain ⟨vs', q1, q2, q3⟩ := k2; exact ⟨vs', q1, RepL.mono s1 _ _ q2, q3⟩
        | dct ks' vs' => obtain ⟨vs', q1, q2, q3⟩ := k2; exact ⟨vs', q1, RepL.mono s1 _ _ q2, q3⟩
        | dctT ks' vs' => obtain ⟨vs', q1, q2, q3⟩ := k2; exact ⟨vs', q1, RepL.mono s1 _ _ q2, q3⟩
        | lst2 xss =>
          obtain ⟨ps, q1, q2, q3, q4⟩ := k2
          refine ⟨ps, q1, q2, q3, fun n q' xs'' w1 w2 => ?_⟩
          obtain ⟨vs', y1, y2⟩ := q4 n q' xs'' w1 w2
          exact ⟨vs', y1, RepL.mono s1 _ _ y2⟩
/-- our own thing, as a value -/
theorem RR.ownV (r : RR K ca ea G Hf env σ H) {i : Nat} {o : Own} {v : V} (he : env[i]? = some (.own o)) (hs : σ[i]? = some (some v)) : OwnV K ca G.H Hf H o v := by
  obtain ⟨fps, l, m, k⟩ := r.slots
  have h1 : i < env.length := (List.getElem?_eq_some_iff.mp he).1
  have h3 : i < fps.length := by rw [l]; exact h1
  obtain ⟨p, e0, ow⟩ := k i _ _ _ he hs (List.getElem?_eq_getElem h3)
  cases e0
  refine ⟨p, fps[i], rfl, ow, ?_, fun a ha => m.2 a (List.mem_flatten.mpr ⟨fps[i], List.getElem_mem h3, ha⟩)⟩
  have := m.1
  exact List.Nodup.sublist (List.sublist_flatten_of_mem (List.getElem_mem h3)) this
/-- the ghost moves on -/
theorem RR.ghost (r : RR K ca ea G Hf env σ H) : RR K ca ea ⟨Hf, G.H⟩ Hf env σ H :=
  ⟨⟨Same.refl _, r.post.all, r.post.sub, fun a h => .inl h⟩, r.len, r.slots⟩
theorem Post.back {A B C E F : Hp} (p : Post A B C E) {C' E' : Hp} (q : Post C B C' E') : Post A B C' E' :=
  ⟨p.sh.trans q.sh, q.all, q.sub, fun a h => (q.new a h).elim (p.new a) .inr⟩
theorem RR.unghost {Hf' H' : Hp} {env' : M.Env} {σ' : L2.St} (p : Post G.Hf G.H Hf H) (r : RR K ca ea ⟨Hf, G.H⟩ Hf' env' σ' H') : RR K ca ea G Hf' env' σ' H' := ⟨p.back (E := H) (F := H) r.post, r.len, r.slots⟩
end
end M
/-! MStmt2: statements, loops. -/
namespace M
open PySem PySem.Spec PyProof.Rows L2
theorem Mine.back {G G' Hf H : Hp} {l : List Addr} (s : Same G' G) (h : Mine G Hf H l) : Mine G' Hf H l := ⟨h.1, fun a ha => ⟨(h.2 a ha).1, s.free (h.2 a ha).2.1, (h.2 a ha).2.2⟩⟩
theorem OwnV.back {K : PySem.W.Frag} {ca : Nat → Addr} {G G' Hf H : Hp} {o : Own} {v : V} (s : Same G' G) (h : OwnV K ca G Hf H o v) : OwnV K ca G' Hf H o v := by
  obtain ⟨p, fp, e, ow, mi⟩ := h
  exact ⟨p, fp, e, ow, mi.back s⟩
section
variable {K : PySem.W.Frag} {j : Jc} {G : Gh} {Hf H : Hp} {env : M.Env} {σ : L2.St} {D : Ends} {α : Type}
theorem TFl.back (p : Post G.Hf G.H Hf H) : ∀ {f : Fl}, TFl K j G D f → TFl K j ⟨Hf, G.H⟩ D f
  | .next e, h => fun σ Hf' H' r => h σ Hf' H' (r.unghost p)
  | .brk e, h => fun σ Hf' H' r => h σ Hf' H' (r.unghost p)
  | .cont e, h => fun σ Hf' H' r => h σ Hf' H' (r.unghost p)
  | .ret (.val d), h => fun v Hf' H' q rv => h v Hf' H' (p.back (E := H) (F := H) q) rv
  | .ret (.own o), h => fun v Hf' H' q rv => h v Hf' H' (p.back (E := H) (F := H) q) rv
  | .ret .un, h => h
  | .ret (.exc _), h => h
  | .exc x e, h => fun cls dd σ Hf' H' r rx => h cls dd σ Hf' H' (r.unghost p) rx
  | .stuck, h => h
theorem TFl.fl {o : Out α} {k : α → Fl} (r : RR K j.ca j.ea G Hf env σ H) (h : TFl K j G D (o.fl env k)) : OutP K j.ca j.W σ Hf H o fun a _ _ => TFl K j G D (k a) := by
  cases o with
  | ok a => exact fun _ _ _ => h
  | exc x => exact fun cls dd Hf' H' p rx => h cls dd σ Hf' H' (r.grow p) rx
  | stuck => exact h
end
section
variable {X : Cx} {j : Jc} {e : Expr} {es : List Expr} {ce : CE} {cf : CF} {t : CT} {al : CA} {pos : Pos} {s : Stmt} {ss rest : List Stmt} {c d : CS}
theorem ms_imp {tt : TS} (h : PS X s tt) (i : ∀ D σ H G Hf env, RR X.K j.ca j.ea G Hf env σ H → TFl X.K j G D (c env) → tt D σ H) : MS X j s c :=
  PS.imp h fun D σ H ⟨G, Hf, env, r, m⟩ => i D σ H G Hf env r m
theorem mss_nil : MSs X j [] sNext := PSs.imp pss_nil fun D σ H ⟨G, Hf, env, r, m⟩ => m σ Hf H r
theorem mss_one (h : MS X j s c) : MSs X j [s] c := pss_one h
theorem mss_cons (h1 : MS X j s c) (h2 : MSs X j rest d) : MSs X j (s :: rest) (sSeq c d) := by
  refine PSs.imp (pss_cons h1 h2) fun D σ H ⟨G, Hf, env, r, m⟩ => ⟨G, Hf, env, r, ?_⟩
  unfold sSeq at m
  split at m
  · rename_i e2 he
    rw [he]
    exact fun σ' Hf' H' r' => ⟨G, Hf', e2, r', m⟩
  · rename_i f hf
    cases q : c env with
    | next e2 => exact absurd q (hf e2)
    | ret sl =>
      rw [q] at m
      cases sl <;> exact m
    | brk e2 => rw [q] at m; exact m
    | cont e2 => rw [q] at m; exact m
    | exc x e2 => rw [q] at m; exact m
    | stuck => rw [q] at m; exact m
theorem ms_pass : MS X j (.Pass pos) sNext := ms_imp ps_pass fun D σ H G Hf env r m => m σ Hf H r
theorem ms_doc {x u q q'} : MS X j (.Expr (.Constant (.str x) u q) q') sNext := ms_imp ps_doc fun D σ H G Hf env r m => m σ Hf H r
theorem ms_break : MS X j (.Break pos) sBrk := ms_imp ps_break fun D σ H G Hf env r m => m σ Hf H r
theorem ms_continue : MS X j (.Continue pos) sCont := ms_imp ps_continue fun D σ H G Hf env r m => m σ Hf H r
theorem ms_expr (he : ME X j e ce) (hs : swapsWith e none pos.line X.env = pure false := by rfl) : MS X j (.Expr e pos) (sDrop ce) :=
  ms_imp (ps_expr he hs) fun D σ H G Hf env r m => ⟨G, Hf, env, r, (TFl.fl r m).imp fun d Hf' H' _ p m1 v rv => m1 σ Hf' H' (r.grow p)⟩
theorem ms_ret (he : ME X j e ce) : MS X j (.Return (some e) pos) (sRet ce) :=
  ms_imp (ps_ret he) fun D σ H G Hf env r m => ⟨G, Hf, env, r, (TFl.fl r m).imp fun d Hf' H' _ p m1 v rv => m1 v Hf' H' (r.post.trans p) rv⟩
theorem ms_retN : MS X j (.Return none pos) sRetN := ms_imp ps_retN fun D σ H G Hf env r m => m .non Hf H r.post rfl
theorem ms_retF (he : MF X j e cf) : MS X j (.Return (some e) pos) (sRetF cf) :=
  ms_imp (ps_ret he) fun D σ H G Hf env r m => ⟨G, Hf, env, r, (TFl.fl r m).imp fun d Hf' H' _ p m1 v rv => m1 v Hf' H' (r.post.trans p) (rv.back r.post.all)⟩
theorem ms_retOwn {i : Nat} (he : PE X e (tVar i)) : MS X j (.Return (some e) pos) (sRetOwn i) := by
  refine ms_imp (ps_ret he) fun D σ H G Hf env r m => ?_
  unfold sRetOwn at m
  split at m
  · rename_i d hd
    obtain ⟨v, h1, h2⟩ := slot_val r hd
    exact ⟨v, h1, m v Hf H r.post h2⟩
  · rename_i o hd
    obtain ⟨p, fp, h1, _⟩ := slot_own r hd
    exact ⟨.ref p, h1, m _ Hf H r.post (r.ownV hd h1)⟩
  · exact m.elim
theorem ms_if {a b : List Stmt} {ct : CT} {ca cb : CS} {q : Expr} (hc : MT X j q ct) (ha : MSs X j a ca) (hb : MSs X j b cb) : MS X j (.If q a b pos) (sIf ct ca cb) := by
  refine ms_imp (ps_if hc ha hb) fun D σ H G Hf env r m => ⟨G, Hf, env, r, (TFl.fl r m).imp fun k Hf' H' _ p m1 => ?_⟩
  cases k with
  | true => exact ⟨G, Hf', env, r.grow p, m1⟩
  | false => exact ⟨G, Hf', env, r.grow p, m1⟩
theorem ms_freeze {i : Nat} (h : MS X j s c) : MS X j s (sFreeze i c) := by
  refine ms_imp h fun D σ H G Hf env r m => ?_
  unfold sFreeze at m
  split at m
  · rename_i o ho
    obtain ⟨Hf2, s1, r2⟩ := r.freeze ho
    exact ⟨G, Hf2, _, r2, m⟩
  · exact ⟨G, Hf, env, r, m⟩
section
variable {i : Nat} {x : Str} {pos' : Pos}
theorem ms_set (hN : X.N.Nodup) (hi : X.N[i]? = some x) (hx : Loc X.env.scope x) (he : ME X j e ce) (hs : swapsWith e (some (.Name x pos')) pos.line X.env = pure false := by rfl)
    (hf : X.fn x = true ∨ X.env.scope.names.lookup x = some .local := by first | exact .inl rfl | exact .inr rfl | assumption) : MS X j (.Assign [.Name x pos'] e pos) (sSet i ce) :=
  ms_imp (ps_set hN hi hx he hs hf) fun D σ H G Hf env r m => ⟨G, Hf, env, r, (TFl.fl r m).imp fun d Hf' H' _ p m1 v rv => m1 _ _ _ ((r.grow p).val i rv)⟩
theorem ms_setF (hN : X.N.Nodup) (hi : X.N[i]? = some x) (hx : Loc X.env.scope x) (he : MF X j e cf) (hs : swapsWith e (some (.Name x pos')) pos.line X.env = pure false := by rfl)
    (hf : X.fn x = true ∨ X.env.scope.names.lookup x = some .local := by first | exact .inl rfl | exact .inr rfl | assumption) : MS X j (.Assign [.Name x pos'] e pos) (sSetF i cf) :=
  ms_imp (ps_set hN hi hx he hs hf) fun D σ H G Hf env r m => ⟨G, Hf, env, r, (TFl.fl r m).imp fun d Hf' H' _ p m1 v rv => m1 _ _ _ (r.putOwn p i rv)⟩
/-- a call of a def, what it makes may be ours -/
def MC (X : Cx) (j : Jc) (e : Expr) (F : Fn) (al : CA) : Prop := PE X e (tCallS (spF X.K j.ca F) (WE j.W) (TMA X.K j al))
theorem mc_call {k : Nat} {f : Addr} {fd : FuncData} {ps : List Str} {F : Fn} {q : Pos} (Fo : FnOk X.prog X.w X.K X.mg X.base (L2N.CX X.prog X.w) k f fd ps (spF X.K j.ca F)) (hr : Room k X.A) (hg : Gl X x) (hm : X.mg x = some (.ref f)) (hk : PySem.W.keepIn X.K (.ref f) = true) (hb : Binds X.K fd ps []) (tk : L2N.Takes X j.W)
    (ha : MA X j (e :: es) al) (hdb : (x == ("__debug__" : Str)) = false := by decide) (he : starEach (e :: es) X.env = (false, eval e X.env) :: starEach es X.env := by rfl) (hpl : (backTo pos (starEach es X.env)).any (·.1) = false := by rfl) :
    MC X j (.Call (.Name x q) (e :: es) [] pos) F al := pe_callS Fo hr hg hm hk hb (fun σ => L2N.passAt tk σ) ha hdb he hpl
theorem mc_e {F : Fn} (h : MC X j e F al) : ME X j e (eCall F al) := PE.imp h fun σ H Q h => call_tm h
theorem call_fl {F : Fn} {G : Gh} {Hf H : Hp} {env : M.Env} {σ : L2.St} {D : Ends} {k : Sl → Fl} {Q : VK} (r : RR X.K j.ca j.ea G Hf env σ H) (m : TFl X.K j G D (((al env).bind fun ds => F ds).fl env k)) (hu : k .un = .stuck) (hx : (∀ x, k (.exc x) = .stuck) ∧ ∀ x, k (.io x) = .stuck)
    (q : ∀ sl Hf' H' v, Post Hf H Hf' H' → TFl X.K j G D (k sl) → (match sl with | .val d => Rep X.K j.ca Hf' d v | .own o => OwnV X.K j.ca H Hf' H' o v | _ => False) → Q v H') : tCallS (spF X.K j.ca F) (WE j.W) (TMA X.K j al) σ H Q := by
  have m' := (TFl.fl r m).bind
  refine ⟨G, Hf, env, r, m'.imp fun ds Hf1 H1 _ p1 m1 vs rv => spF_read (G := G) (env := env) p1.sub rv (m1.imp fun sl Hf2 H2 _ p2 m2 v => ?_)⟩
  cases sl with
  | val d => exact fun rv => q (.val d) Hf2 H2 v (p1.trans p2) m2 rv
  | own o => exact fun ov => q (.own o) Hf2 H2 v (p1.trans p2) m2 (ov.back p1.all)
  | un => rw [hu] at m2; exact m2.elim
  | exc x => rw [hx.1] at m2; exact m2.elim
  | io x => rw [hx.2] at m2; exact m2.elim
theorem ms_setCall {F : Fn} (hN : X.N.Nodup) (hi : X.N[i]? = some x) (hx : Loc X.env.scope x) (he : MC X j e F al) (hs : swapsWith e (some (.Name x pos')) pos.line X.env = pure false := by rfl)
    (hf : X.fn x = true ∨ X.env.scope.names.lookup x = some .local := by first | exact .inl rfl | exact .inr rfl | assumption) : MS X j (.Assign [.Name x pos'] e pos) (sSetCall i F al) := by
  refine ms_imp (ps_set hN hi hx he hs hf) fun D σ H G Hf env r m => call_fl r m rfl ⟨fun _ => rfl, fun _ => rfl⟩ fun sl Hf' H' v p m1 rv => ?_
  cases sl with
  | val d => exact m1 _ _ _ ((r.grow p).val i rv)
  | own o => exact m1 _ _ _ (r.putOwn p i rv)
  | un => exact rv.elim
  | exc x => exact rv.elim
  | io x => exact rv.elim
theorem ms_retCall {F : Fn} (he : MC X j e F al) : MS X j (.Return (some e) pos) (sRetCall F al) := by
  refine ms_imp (ps_ret he) fun D σ H G Hf env r m => call_fl r m rfl ⟨fun _ => rfl, fun _ => rfl⟩ fun sl Hf' H' v p m1 rv => ?_
  cases sl with
  | val d => exact m1 v _ _ (r.post.trans p) rv
  | own o => exact m1 v _ _ (r.post.trans p) (rv.back r.post.all)
  | un => exact rv.elim
  | exc x => exact rv.elim
  | io x => exact rv.elim
/-- xs.append(e) -/
theorem ms_append (hm : PE X e (tBM X.K "list" rAppend (tVar i) (tCons (TM X.K j ce) tNil))) (hs : swapsWith e none pos.line X.env = pure false := by rfl) : MS X j (.Expr e pos) (sAppend i ce) := by
  refine ms_imp (ps_expr hm hs) fun D σ H G Hf env r m => ?_
  unfold sAppend at m
  split at m
  · rename_i xs hx
    obtain ⟨p, fp, h1, vs0, h2, h3, _⟩ := slot_own r hx
    refine ⟨.ref p, h1, .inl ⟨rfl, vs0, .inl (.inl h2)⟩, ?_⟩
    refine ⟨G, Hf, env, r, (TFl.fl r m).imp fun d Hf1 H1 _ p1 m1 v rv => ?_⟩
    split at m1
    · rename_i hz
      have hp : H1 p = some (.lst vs0) := p1.all _ _ h2
      refine ⟨p, vs0, v, rfl, rfl, hp, by rw [← h3.length, ← line_eq]; exact hz, ?_⟩
      have r1 := r.grow p1
      exact m1 _ _ _ (r1.upd hx h1 (RepL.append (RepL.mono p1.sh _ _ h3) (RepL.one rv))).1
    · exact m1.elim
  · exact m.elim
/-- xs[e] = v -/
theorem ms_setIx {s : Stmt} {ci : CE} (hm : PS X s (tAsg (TM X.K j ce) (gSub (tVar i) (TP X.K j ci) rSetL))) : MS X j s (sSetIx i ci ce) := by
  refine ms_imp hm fun D σ H G Hf env r m => ?_
  unfold sSetIx at m
  refine ⟨G, Hf, env, r, (TFl.fl r m).imp fun d Hf1 H1 _ p1 m1 v rv => ?_⟩
  split at m1
  · rename_i xs hx
    obtain ⟨p, fp, h1, vs0, h2, h3, _⟩ := slot_own r hx
    refine ⟨.ref p, h1, ?_⟩
    have r1 := r.grow p1
    refine ⟨G, Hf1, env, r1, (TFl.fl r1 m1).imp fun k Hf2 H2 _ p2 m2 u ru => ?_⟩
    split at m2
    · rename_i _ kk _
      split at m2
      · rename_i jj hj
        have e : u = .int kk := ru
        subst e
        have hl : xs.length = vs0.length := h3.length
        refine ⟨p, vs0, kk, jj, rfl, rfl, (p1.trans p2).all _ _ h2, by rw [← hl]; exact hj, ?_⟩
        exact m2 _ _ _ ((r1.grow p2).upd hx h1 (RepL.set jj (RepL.mono (p1.trans p2).sh _ _ h3) (Rep.mono p2.sh _ _ rv))).1
      · exact m2.elim
    · exact m2.elim
  · exact m1.elim
end
end

/-! ### targets -/
section
variable {X : Cx} {j : Jc} {e : Expr} {es : List Expr} {pos : Pos} {vs : List Nat} {g : Tg} {gs : List Tg}
def tMG (K : PySem.W.Frag) (j : Jc) (vs : List Nat) (g : Tg) : TG := fun v σ H Q => ∃ G Hf env d e', RR K j.ca j.ea G Hf env σ H ∧ Rep K j.ca Hf d v ∧ g d env = some e' ∧ ∀ σ', RR K j.ca j.ea G Hf e' σ' H → wipe σ' vs = wipe σ vs → Q σ' H
def tMGs (K : PySem.W.Frag) (j : Jc) (vs : List Nat) (gs : List Tg) : TGs := fun us σ H Q => ∃ G Hf env ds e', RR K j.ca j.ea G Hf env σ H ∧ RepL K j.ca Hf ds us ∧ gMany gs ds env = some e' ∧ ∀ σ', RR K j.ca j.ea G Hf e' σ' H → wipe σ' vs = wipe σ vs → Q σ' H
/-- a target; it writes slots of vs alone -/
def MG (X : Cx) (j : Jc) (vs : List Nat) (e : Expr) (g : Tg) : Prop := PG X e (tMG X.K j vs g)
def MGs (X : Cx) (j : Jc) (vs : List Nat) (es : List Expr) (gs : List Tg) : Prop := PGs X es (tMGs X.K j vs gs)
theorem PG.imp {e : Expr} {t t' : TG} (h : PG X e t) (i : ∀ v σ H Q, t' v σ H Q → t v σ H Q) : PG X e t' := ⟨fun pins s σ H v u Q I r q => h.run pins s σ H v u Q I r (i _ _ _ _ q)⟩
theorem PGs.imp {e : List Expr} {t t' : TGs} (h : PGs X e t) (i : ∀ v σ H Q, t' v σ H Q → t v σ H Q) : PGs X e t' := ⟨fun pins s σ H v u Q I r q => h.run pins s σ H v u Q I r (i _ _ _ _ q)⟩
theorem wipe_get {σ : L2.St} {n : Nat} : ∀ {vs : List Nat}, (wipe σ vs)[n]? = if n ∈ vs then σ[n]?.map (fun _ => none) else σ[n]?
  | [] => by simp [wipe]
  | v :: vs => by
    show ((wipe σ vs).set v none)[n]? = _
    by_cases h : v = n
    · subst h
      rw [List.getElem?_set_self']
      rw [wipe_get (vs := vs)]
      by_cases hv : v ∈ vs
      · simp only [hv, if_true, List.mem_cons, true_or]
        cases σ[v]? <;> rfl
      · simp only [hv, if_false, List.mem_cons, true_or, if_true]
        rfl
    · rw [List.getElem?_set_ne h, wipe_get (vs := vs)]
      have : (n ∈ v :: vs) ↔ n ∈ vs := ⟨fun z => (List.mem_cons.mp z).resolve_left fun e => h e.symm, fun z => List.mem_cons_of_mem _ z⟩
      simp only [this]
theorem wipe_set_in {σ : L2.St} {i : Nat} {v : Option V} {vs : List Nat} (h : i ∈ vs) : wipe (σ.set i v) vs = wipe σ vs := by
  apply List.ext_getElem?
  intro n
  rw [wipe_get, wipe_get]
  by_cases hn : n ∈ vs
  · simp only [hn, if_true]
    by_cases hi : i = n
    · subst hi
      rw [List.getElem?_set_self']
      cases σ[i]? <;> rfl
    · rw [List.getElem?_set_ne hi]
  · simp only [hn, if_false]
    rw [List.getElem?_set_ne (fun e : i = n => hn (by rw [← e]; exact h))]
theorem mg_name {i : Nat} {x : Str} (hN : X.N.Nodup) (hi : X.N[i]? = some x) (hx : Loc X.env.scope x) (hv : i ∈ vs) (hf : X.fn x = true ∨ X.env.scope.names.lookup x = some .local := by first | exact .inl rfl | exact .inr rfl | assumption) : MG X j vs (.Name x pos) (gName i) := by
  refine PG.imp (pg_name hN hi hx hf) fun v σ H Q ⟨G, Hf, env, d, e', r, rv, he, q⟩ => ?_
  cases he
  exact q _ (r.val i rv) (wipe_set_in hv)
theorem mgs_nil : MGs X j vs [] [] := by
  refine PGs.imp pgs_nil fun us σ H Q ⟨G, Hf, env, ds, e', r, rv, he, q⟩ => ?_
  cases ds with
  | nil => cases he; unfold RepL at rv; exact ⟨rv, q _ r rfl⟩
  | cons d ds => cases he
theorem mgs_cons (h1 : MG X j vs e g) (h2 : MGs X j vs es gs) (hs : (assignEach (e :: es) X.env).map (·.2) = assign e X.env :: (assignEach es X.env).map (·.2) := by rfl) : MGs X j vs (e :: es) (g :: gs) := by
  refine PGs.imp (pgs_cons h1 h2 hs) fun us σ H Q ⟨G, Hf, env, ds, e', r, rv, he, q⟩ => ?_
  cases ds with
  | nil => cases he
  | cons d ds =>
    unfold RepL at rv
    obtain ⟨v, us', e1, h1, h2⟩ := rv
    have he : (g d env).bind (gMany gs ds) = some e' := he
    cases q1 : g d env with
    | none => rw [q1] at he; cases he
    | some e1' =>
      rw [q1] at he
      exact ⟨v, us', e1, G, Hf, env, d, e1', r, h1, q1, fun σ' r' w' => ⟨G, Hf, e1', ds, e', r', h2, he, fun σ2 r2 w2 => q σ2 r2 (w2.trans w')⟩⟩
theorem gMany_len : ∀ {gs : List Tg} {ds : List D} {env e' : M.Env}, gMany gs ds env = some e' → ds.length = gs.length
  | [], [], _, _, _ => rfl
  | [], d :: ds, _, _, h => by cases h
  | g :: gs, [], _, _, h => by cases h
  | g :: gs, d :: ds, env, e', h => by
    have h : (g d env).bind (gMany gs ds) = some e' := h
    cases q : g d env with
    | none => rw [q] at h; cases h
    | some e1 => rw [q] at h; simp [gMany_len (show gMany gs ds e1 = some e' from h)]
theorem mg_tup {k : Nat} (hc : X.calm = true) (h : MGs X j vs es gs) (hn : (assignEach es X.env).length = gs.length := by rfl) (hst : (assignEach es X.env).findIdx? (·.1) = none := by rfl) : MG X j vs (.Tuple es k pos) (gTup gs) := by
  refine PG.imp (pg_tup hc h hn hst) fun v σ H Q ⟨G, Hf, env, d, e', r, rv, he, q⟩ => ?_
  cases d with
  | tup ds =>
    unfold Rep at rv
    obtain ⟨a, us, e1, h1, h2⟩ := rv
    have he : gMany gs ds env = some e' := he
    exact ⟨a, us, e1, Same.seqT r.sub h1.1, by rw [← h2.length]; exact gMany_len he, G, Hf, env, ds, e', r, h2, he, q⟩
  | _ => cases he
theorem ms_setTg {ce : CE} {tg : Expr} (he : ME X j e ce) (hg : MG X j vs tg g) (hs : swapsWithSole [tg] e pos.line X.env = pure false := by rfl) (hw : swappedStores [tg] e X.env = pure none := by rfl)
    (h1 : (assignEach [tg] X.env).map (·.2) = [assign tg X.env] := by rfl) : MS X j (.Assign [tg] e pos) (sSetTg g ce) := by
  refine ms_imp (ps_asg he hg hs hw h1) fun D σ H G Hf env r m => ⟨G, Hf, env, r, (TFl.fl r m).imp fun d Hf' H' _ p m1 v rv => ?_⟩
  split at m1
  · rename_i e' he'
    exact ⟨G, Hf', env, d, e', r.grow p, rv, he', fun σ' r' _ => m1 _ _ _ r'⟩
  · exact m1.elim

/-! ### loops -/
/-- J walks ds, from a heap whose shared part is Hf0 on -/
structure ItOk (K : PySem.W.Frag) (ca : Nat → Addr) (Hf0 : Hp) (ds : List D) (J : It) : Prop where
  go : ∀ i Hf H, Same Hf0 Hf → Same Hf H → i < ds.length → J.go i H
  yld : ∀ i Hf H x H' d, Same Hf0 Hf → Same Hf H → ds[i]? = some d → J.yld i H x H' → ∃ Hf', Post Hf H Hf' H' ∧ Rep K ca Hf' d x
  stop : ∀ i Hf H, Same Hf0 Hf → Same Hf H → ds.length ≤ i → J.stop i H
def TIt (K : PySem.W.Frag) (j : Jc) (c : CA) : TI := fun σ H R => ∃ G Hf env, RR K j.ca j.ea G Hf env σ H ∧ OutP K j.ca j.W σ Hf H (c env) fun ds Hf' H' => ∀ J, ItOk K j.ca Hf' ds J → R J H'
def MI (X : Cx) (j : Jc) (tg e : Expr) (c : CA) : Prop := PI X tg e (TIt X.K j c)
theorem PI.imp {tg e : Expr} {t t' : TI} (h : PI X tg e t) (i : ∀ σ H Q, t' σ H Q → t σ H Q) : PI X tg e t' := ⟨fun pins s σ H R I q => h.run pins s σ H R I (i _ _ _ q)⟩
theorem drop_at {α : Type} {l : List α} {i : Nat} (h : i < l.length) : l.drop i = l[i] :: l.drop (i + 1) := by rw [List.drop_eq_getElem_cons h]
theorem ms_for {iter tg : Expr} {body : List Stmt} {it : CA} {sb : CS} (hp : PassesOwn (model X.prog X.w) X.A X.env X.xe) (hc : X.calm = true) (hi : MI X j tg iter it) (hg : MG X j vs tg g) (hb : MSs X j body sb)
    (hs : ∀ x, foldedSetIterable iter X.env x = pure x := by intro _; rfl) : MS X j (.For tg iter body [] pos) (sFor it g sb) := by
  refine ms_imp (ps_for hp hc hi hg hb hs) fun D σ H G Hf env r m => ⟨G, Hf, env, r, (TFl.fl r m).imp fun ds Hf0 H0 _ p0 m0 J hJ => ?_⟩
  refine ⟨fun i mm σ H => mm = ds.length - i ∧ ∃ Hf env, RR X.K j.ca j.ea G Hf env σ H ∧ Same Hf0 Hf ∧ TFl X.K j G D (forGo g sb (ds.drop i) env), ⟨_, rfl, Hf0, env, r.grow p0, Same.refl _, by simpa using m0⟩, ?_⟩
  rintro i mm σ1 H1 ⟨rfl, Hf1, env1, r1, s1, m1⟩
  by_cases hlt : i < ds.length
  · refine .inr ⟨hJ.go i Hf1 H1 s1 r1.sub hlt, fun σ' H' => ∃ Hf env, RR X.K j.ca j.ea G Hf env σ' H' ∧ Same Hf0 Hf ∧ TFl X.K j G D (forGo g sb (ds.drop (i + 1)) env), fun σ' H' h => ⟨ds.length - (i + 1), by omega, rfl, h⟩, fun x H' y => ?_⟩
    obtain ⟨Hf2, p2, rx⟩ := hJ.yld i Hf1 H1 x H' ds[i] s1 r1.sub (List.getElem?_eq_getElem hlt) y
    rw [drop_at hlt] at m1
    unfold forGo at m1
    split at m1
    · exact m1.elim
    · rename_i e1 he1
      refine ⟨G, Hf2, env1, ds[i], e1, r1.grow p2, rx, he1, fun σ2 r2 _ => ?_⟩
      refine ⟨⟨Hf2, G.H⟩, Hf2, e1, r2.ghost, ?_⟩
      have sm : Same Hf0 Hf2 := s1.trans p2.sh
      have back : ∀ {f : Fl}, TFl X.K j G D f → TFl X.K j ⟨Hf2, G.H⟩ D f := fun {f} h => TFl.back r2.post h
      split at m1
      · rename_i e3 h3
        rw [h3]
        exact fun σ3 Hf3 H3 r3 => ⟨Hf3, e3, r3.unghost r2.post, sm.trans r3.post.sh, m1⟩
      · rename_i e3 h3
        rw [h3]
        exact fun σ3 Hf3 H3 r3 => ⟨Hf3, e3, r3.unghost r2.post, sm.trans r3.post.sh, m1⟩
      · rename_i e3 h3
        rw [h3]
        exact fun σ3 Hf3 H3 r3 => m1 σ3 Hf3 H3 (r3.unghost r2.post)
      · rename_i f h1 h2 h3
        cases q : sb e1 with
        | next e2 => exact absurd q (h1 e2)
        | cont e2 => exact absurd q (h2 e2)
        | brk e2 => exact absurd q (h3 e2)
        | ret sl => rw [q] at m1; have := back m1; cases sl <;> exact this
        | exc x e2 => rw [q] at m1; exact back m1
        | stuck => rw [q] at m1; exact m1
  · refine .inl ⟨hJ.stop i Hf1 H1 s1 r1.sub (by omega), ?_⟩
    rw [List.drop_eq_nil_of_le (by omega)] at m1
    exact m1 σ1 Hf1 H1 r1
theorem ms_while {c : Expr} {body : List Stmt} {t : CT} {sb : CS} {n : Nat} (hp : PassesOwn (model X.prog X.w) X.A X.env X.xe) (hc : MT X j c t) (hb : MSs X j body sb) : MS X j (.While c body [] pos) (sWhile n t sb) := by
  refine ms_imp (ps_while hp hc hb) fun D σ H G Hf env r m => ?_
  refine ⟨fun mm σ H => ∃ Hf env, RR X.K j.ca j.ea G Hf env σ H ∧ TFl X.K j G D (whileGo t sb mm env), ⟨n, Hf, env, r, m⟩, ?_⟩
  rintro mm σ1 H1 ⟨Hf1, env1, r1, m1⟩
  cases mm with
  | zero => exact m1.elim
  | succ mm =>
    unfold whileGo at m1
    refine ⟨G, Hf1, env1, r1, (TFl.fl r1 m1).imp fun k Hf2 H2 _ p2 m2 => ?_⟩
    cases k with
    | false => exact m2 σ1 Hf2 H2 (r1.grow p2)
    | true =>
      refine ⟨fun σ' H' => ∃ Hf env, RR X.K j.ca j.ea G Hf env σ' H' ∧ TFl X.K j G D (whileGo t sb mm env), fun σ' H' h => ⟨mm, by omega, h⟩, G, Hf2, env1, r1.grow p2, ?_⟩
      simp only [if_true] at m2
      split at m2
      · rename_i e3 h3
        rw [h3]
        exact fun σ3 Hf3 H3 r3 => ⟨Hf3, e3, r3, m2⟩
      · rename_i e3 h3
        rw [h3]
        exact fun σ3 Hf3 H3 r3 => ⟨Hf3, e3, r3, m2⟩
      · rename_i e3 h3
        rw [h3]
        exact m2
      · rename_i f h1 h2 h3
        cases q : sb env1 with
        | next e2 => exact absurd q (h1 e2)
        | cont e2 => exact absurd q (h2 e2)
        | brk e2 => exact absurd q (h3 e2)
        | ret sl => rw [q] at m2; cases sl <;> exact m2
        | exc x e2 => rw [q] at m2; exact m2
        | stuck => rw [q] at m2; exact m2
end
end M
/-! MStmt3: list comprehensions. -/
namespace M
open PySem PySem.Spec PyProof.Rows L2
def Jc.dry (j : Jc) : Jc := ⟨j.ca, j.ea, fun _ _ _ _ => False⟩
theorem wipe_wipe {σ : L2.St} {vs : List Nat} : wipe (wipe σ vs) vs = wipe σ vs := by
  apply List.ext_getElem?
  intro n
  rw [wipe_get, wipe_get]
  by_cases h : n ∈ vs
  · simp only [h, if_true]
    cases σ[n]? <;> rfl
  · simp only [h, if_false]
section
variable {K : PySem.W.Frag} {ca : Nat → Addr} {ea : Ea} {G : Gh} {Hf H : Hp} {env : M.Env} {σ : L2.St}
theorem RR.wipe (r : RR K ca ea G Hf env σ H) : ∀ vs : List Nat, RR K ca ea G Hf (wipeE env vs) (L2.wipe σ vs) H
  | [] => r
  | v :: vs => (RR.wipe r vs).un v
theorem RR.push (r : RR K ca ea G Hf env σ H) {D : Addr} (hD : H D = none) : RR K ca ea G Hf (env ++ [.own (.lst [])]) (σ ++ [some (.ref D)]) (L2.upd H D (.lst [])) := by
  have p : Post Hf H Hf (L2.upd H D (.lst [])) := post_own r.sub hD
  have r1 := r.grow p
  obtain ⟨fps, l, m, k⟩ := r1.slots
  obtain ⟨fps0, l0, m0, k0⟩ := r.slots
  have g0 : G.H D = none := r.post.all.free hD
  have nD : ∀ a, (a ∈ fps0.flatten) → a ≠ D := fun a ha e => by subst e; exact (m0.2 a ha).2.2 hD
  refine ⟨r1.post, by simp [r.len], fps0 ++ [[D]], by simp [l0], ?_, ?_⟩
  · have mg := m0.grow p
    refine ⟨?_, fun a ha => ?_⟩
    · rw [List.flatten_append]
      refine List.nodup_append.mpr ⟨m0.1, by simp, fun a ha b hb e => ?_⟩
      have : b = D := by simpa using hb
      subst this
      exact nD a ha e
    · rw [List.flatten_append] at ha
      rcases List.mem_append.mp ha with z | z
      · exact mg.2 a z
      · have : a = D := by simpa using z
        subst this
        exact ⟨r.sub.free hD, g0, by rw [upd_same]; simp⟩
  · intro i s o fp e1 e2 e3
    by_cases hi : i < env.length
    · rw [List.getElem?_append_left hi] at e1
      rw [List.getElem?_append_left (by rw [← r.len]; exact hi)] at e2
      rw [List.getElem?_append_left (by rw [l0]; exact hi)] at e3
      have z := k0 i s o fp e1 e2 e3
      cases s with
      | un => trivial
      | val d => obtain ⟨v, k1, k2⟩ := z; exact ⟨v, k1, k2⟩
      | own w => obtain ⟨a, k1, k2⟩ := z; exact ⟨a, k1, k2.grow p⟩
      | exc x => obtain ⟨a, cls, d, k1, k2, k3⟩ := z; exact ⟨a, cls, d, k1, k2, k3⟩
      | io xs => obtain ⟨a, cls, d, vs, k1, k2, k3, k4, k5⟩ := z; exact ⟨a, cls, d, vs, k1, k2, p.all _ _ k3, k4, k5⟩
    · have hle : i = env.length := by
        have := (List.getElem?_eq_some_iff.mp e1).1
        simp at this; omega
      subst hle
      rw [List.getElem?_append_right (Nat.le_refl _)] at e1
      rw [List.getElem?_append_right (by rw [r.len]; exact Nat.le_refl _), r.len, Nat.sub_self] at e2
      rw [List.getElem?_append_right (by rw [l0]; exact Nat.le_refl _), l0, Nat.sub_self] at e3
      simp at e1 e2 e3
      subst e1; subst e2; subst e3
      exact ⟨D, rfl, [], upd_same, by unfold RepL; rfl, rfl⟩
theorem RR.pop {s : Sl} {o : Option V} (r : RR K ca ea G Hf (env ++ [s]) (σ ++ [o]) H) : RR K ca ea G Hf env σ H := by
  obtain ⟨fps, l, m, k⟩ := r.slots
  have hl : env.length = σ.length := by have := r.len; simpa using this
  have hf : fps.length = env.length + 1 := by simpa using l
  refine ⟨r.post, hl, fps.take env.length, by simp [hf], m.sub ?_, fun i s' o' fp e1 e2 e3 => ?_⟩
  · have : fps.flatten = (fps.take env.length).flatten ++ (fps.drop env.length).flatten := by rw [← List.flatten_append, List.take_append_drop]
    rw [this]
    exact List.sublist_append_left _ _
  · have hi : i < env.length := (List.getElem?_eq_some_iff.mp e1).1
    rw [List.getElem?_take_of_lt hi] at e3
    exact k i s' o' fp (by rw [List.getElem?_append_left hi]; exact e1) (by rw [List.getElem?_append_left (by omega)]; exact e2) e3
theorem RR.last {D : Addr} {xs : List M.D} (r : RR K ca ea G Hf (env ++ [.own (.lst xs)]) (σ ++ [some (.ref D)]) H) : ∃ vs, H D = some (.lst vs) ∧ RepL K ca Hf xs vs ∧ Hf D = none := by
  have hl : env.length = σ.length := by have := r.len; simpa using this
  obtain ⟨p, fp, e, ow, mi⟩ := r.ownV (i := env.length) (o := .lst xs) (v := .ref D) (by rw [List.getElem?_append_right (Nat.le_refl _)]; simp) (by rw [List.getElem?_append_right (by omega), hl]; simp)
  cases e
  obtain ⟨vs, h1, h2, h3⟩ := ow
  subst h3
  exact ⟨vs, h1, h2, (mi.2 D (by simp)).1⟩
theorem RR.updLast {D : Addr} {xs : List M.D} {d : M.D} {y : V} {vs : List V} (r : RR K ca ea G Hf (env ++ [.own (.lst xs)]) (σ ++ [some (.ref D)]) H) (hv : H D = some (.lst vs)) (rv : RepL K ca Hf xs vs) (ry : Rep K ca Hf d y) :
    RR K ca ea G Hf (env ++ [.own (.lst (xs ++ [d]))]) (σ ++ [some (.ref D)]) (L2.upd H D (.lst (vs ++ [y]))) := by
  have hl : env.length = σ.length := by have := r.len; simpa using this
  have z := (r.upd (i := env.length) (xs := xs) (ys := xs ++ [d]) (us := vs ++ [y]) (p := D) (by rw [List.getElem?_append_right (Nat.le_refl _)]; simp) (by rw [List.getElem?_append_right (by omega), hl]; simp) (RepL.append rv (RepL.one ry))).1
  have e : (env ++ [Sl.own (.lst xs)]).set env.length (.own (.lst (xs ++ [d]))) = env ++ [.own (.lst (xs ++ [d]))] := by
    rw [List.set_append_right _ _ (Nat.le_refl _), Nat.sub_self]
    rfl
  rw [e] at z
  exact z
theorem Post.updNew {Hf1 H1 : Hp} (p : Post Hf1 H1 Hf H) {D : Addr} {o : HO} (h1 : H1 D = none) (h2 : Hf D = none) : Post Hf1 H1 Hf (L2.upd H D o) :=
  ⟨p.sh, fun b x e => by rw [upd_ne (ne_of_none e h1)]; exact p.all _ _ e, fun b x e => by rw [upd_ne (ne_of_none e h2)]; exact p.sub _ _ e, p.new⟩
end
theorem calm_ok {α : Type} {o : Out α} {β : Type} {f : α → Out β} {b : β} (h : o.calm.bind f = .ok b) : ∃ a, o = .ok a ∧ f a = .ok b := by
  cases o with
  | ok a => exact ⟨a, rfl, h⟩
  | exc x => cases h
  | stuck => cases h
theorem calm_bind {α : Type} {o : Out α} {β : Type} {f : α → Out β} (h : ∀ a x, f a ≠ .exc x) (x : ExcV) : o.calm.bind f ≠ .exc x := by
  cases o with
  | ok a => exact h a x
  | exc x => exact fun e => nomatch e
  | stuck => exact fun e => nomatch e
theorem lcGo_calm {g : Tg} {t : CT} {e : CE} : ∀ {ds : List D} {env : Env} {acc : List D} (x : ExcV), lcGo g t e ds env acc ≠ .exc x
  | [], env, acc, x => fun h => nomatch h
  | d :: ds, env, acc, x => by
    unfold lcGo
    cases g d env with
    | none => exact fun h => nomatch h
    | some e1 =>
      refine calm_bind (fun c x => ?_) x
      cases c with
      | true =>
        refine calm_bind (fun y x => ?_) x
        show (if acc.length < line then _ else _) ≠ _
        by_cases h : acc.length < line
        · rw [if_pos h]; exact lcGo_calm x
        · rw [if_neg h]; exact fun h => nomatch h
      | false => exact lcGo_calm x
theorem comp_read {K : PySem.W.Frag} {j : Jc} {vs : List Nat} {it : CA} {g : Tg} {t : CT} {e : CE} {σ : L2.St} {H : Hp} {Q : VK} (h : TF K j (fComp vs it g t e) σ H Q) :
    tLc (TIt K j it) (tMG K j.dry vs g) (TMT K j.dry t) (TM K j.dry e) vs σ H Q := by
  obtain ⟨G, Hf, env, r, m⟩ := h
  refine ⟨G, Hf, env, r, m.bind.imp fun ds Hf1 H1 _ p1 m1 J hJ D hD => ?_⟩
  obtain ⟨xs, hxs⟩ : ∃ xs, lcGo g t e ds (wipeE env vs) [] = .ok xs := by
    cases q : lcGo g t e ds (wipeE env vs) [] with
    | ok xs => exact ⟨xs, rfl⟩
    | exc x => exact absurd q (lcGo_calm x)
    | stuck => rw [q] at m1; exact m1.elim
  rw [hxs] at m1
  have r1 := r.grow p1
  have hw := (r1.wipe vs).push hD
  refine ⟨fun i mm H => mm = ds.length - i ∧ ∃ Hf acc, RR K j.ca j.ea G Hf (wipeE env vs ++ [.own (.lst acc)]) (L2.wipe σ vs ++ [some (.ref D)]) H ∧ Same Hf1 Hf ∧ Post Hf1 H1 Hf H ∧ lcGo g t e (ds.drop i) (wipeE env vs) acc = .ok xs,
    ⟨_, rfl, Hf1, [], hw, Same.refl _, post_own p1.sub hD, by simpa using hxs⟩, ?_⟩
  rintro i mm H2 ⟨rfl, Hf2, acc, r2, s2, q2, e2⟩
  by_cases hlt : i < ds.length
  · refine .inr ⟨hJ.go i Hf2 H2 s2 r2.sub hlt, fun H => ∃ Hf acc, RR K j.ca j.ea G Hf (wipeE env vs ++ [.own (.lst acc)]) (L2.wipe σ vs ++ [some (.ref D)]) H ∧ Same Hf1 Hf ∧ Post Hf1 H1 Hf H ∧ lcGo g t e (ds.drop (i + 1)) (wipeE env vs) acc = .ok xs, fun H' h => ⟨ds.length - (i + 1), by omega, rfl, h⟩, fun x H' y => ?_⟩
    obtain ⟨Hf3, p3, rx⟩ := hJ.yld i Hf2 H2 x H' ds[i] s2 r2.sub (List.getElem?_eq_getElem hlt) y
    rw [drop_at hlt] at e2
    unfold lcGo at e2
    cases hg : g ds[i] (wipeE env vs) with
    | none => rw [hg] at e2; cases e2
    | some e1 =>
      rw [hg] at e2
      obtain ⟨c, hc, e3⟩ := calm_ok e2
      have r3 := r2.grow p3
      refine ⟨G, Hf3, _, ds[i], e1, r3.pop, rx, hg, fun σ2 rt hwt => ⟨hwt.trans wipe_wipe, ?_⟩⟩
      refine ⟨G, Hf3, e1, rt, ?_⟩
      show OutP K j.ca _ _ _ _ (t e1) _
      rw [hc]
      intro Hf4 H4 p4
      cases c with
      | false => exact ⟨Hf4, acc, r3.grow p4, (s2.trans p3.sh).trans p4.sh, (q2.trans p3).trans p4, e3⟩
      | true =>
        have e3 : ((e e1).calm.bind fun x => if acc.length < line then lcGo g t e (ds.drop (i + 1)) (wipeE env vs) (acc ++ [x]) else .stuck) = .ok xs := e3
        obtain ⟨yd, hy, e4⟩ := calm_ok e3
        refine ⟨G, Hf4, e1, rt.grow p4, ?_⟩
        show OutP K j.ca _ _ _ _ (e e1) _
        rw [hy]
        intro Hf5 H5 p5 v rv
        have r5 := (r3.grow p4).grow p5
        obtain ⟨us, u1, u2, u3⟩ := r5.last
        have hz : acc.length < line := by
          by_cases h : acc.length < line
          · exact h
          · rw [if_neg h] at e4; cases e4
        rw [if_pos hz] at e4
        refine ⟨us, u1, by rw [← u2.length, ← line_eq]; exact hz, Hf5, acc ++ [yd], r5.updLast u1 u2 rv, ((s2.trans p3.sh).trans p4.sh).trans p5.sh, (((q2.trans p3).trans p4).trans p5).updNew hD u3, e4⟩
  · refine .inl ⟨hJ.stop i Hf2 H2 s2 r2.sub (by omega), ?_⟩
    rw [List.drop_eq_nil_of_le (by omega)] at e2
    cases e2
    obtain ⟨us, u1, u2, u3⟩ := r2.last
    exact m1 Hf2 H2 q2 _ ⟨D, [D], rfl, ⟨us, u1, u2, rfl⟩, by simp, fun a ha => by
      have : a = D := by simpa using ha
      subst this
      exact ⟨u3, p1.all.free hD, by rw [u1]; simp⟩⟩
section
variable {X : Cx} {j : Jc} {elt tg iter : Expr} {ifs : List Expr} {scope : Scope} {own : List (Str × Nat)} {vs : List Nat} {pos : Pos} {it : CA} {g : Tg} {t : CT} {e : CE}
theorem mts_nil : PTs X [] (TMT X.K j tTrue) := ⟨fun pins s σ H Q I ⟨G, Hf, env, r, m⟩ => pts_nil.run pins s σ H Q I (OutP.ok m r.sub)⟩
theorem mts_one {c : Expr} (h : MT X j c t) : PTs X [c] (TMT X.K j t) := pts_one h
theorem mf_comp (hc : X.calm = true) (hN : X.N.Nodup) (hi : MI X j tg iter it) (ok : BlkOk X.N X.env.scope scope own) (hv : own.map (·.2) = vs)
    (hg : ∀ (s : Shared) (H : Hp) (C : Addr) (cl : List (Str × Addr)) (fp : List Addr), MG (X.blk s H scope (compEnvC scope cl C X.env) fp) j.dry vs tg g) (ht : ∀ (s : Shared) (H : Hp) (C : Addr) (cl : List (Str × Addr)) (fp : List Addr), PTs (X.blk s H scope (compEnvC scope cl C X.env) fp) ifs (TMT X.K j.dry t))
    (he : ∀ (s : Shared) (H : Hp) (C : Addr) (cl : List (Str × Addr)) (fp : List Addr), ME (X.blk s H scope (compEnvC scope cl C X.env) fp) j.dry elt e) (hs : ∀ x, foldedSetIterable iter X.env x = pure x := by intro _; rfl) :
    MF X j (.ListComp elt [⟨tg, iter, ifs, 0⟩] scope pos) (fComp vs it g t e) := by
  subst hv
  exact PE.imp (pe_lc (g := tMG X.K j.dry _ g) (tt := TMT X.K j.dry t) (te := TM X.K j.dry e) hc hN hi ok hg ht he hs) fun σ H Q h => comp_read h
theorem ms_setComp {i : Nat} {y : Str} {py spos : Pos} (hc : X.calm = true) (hN : X.N.Nodup) (hy : X.N[i]? = some y) (hyl : X.env.scope.names.lookup y = some .local)
    (hsw : swapsWith (.ListComp elt [⟨tg, iter, ifs, 0⟩] scope pos) (some (.Name y py)) spos.line X.env = pure true) (hi : MI X j tg iter it) (ok : BlkOk X.N X.env.scope scope own) (hv : own.map (·.2) = vs)
    (hg : ∀ (s : Shared) (H : Hp) (C : Addr) (cl : List (Str × Addr)) (fp : List Addr), MG (X.blk s H scope (compEnvC scope cl C X.env) fp) j.dry vs tg g) (ht : ∀ (s : Shared) (H : Hp) (C : Addr) (cl : List (Str × Addr)) (fp : List Addr), PTs (X.blk s H scope (compEnvC scope cl C X.env) fp) ifs (TMT X.K j.dry t))
    (he : ∀ (s : Shared) (H : Hp) (C : Addr) (cl : List (Str × Addr)) (fp : List Addr), ME (X.blk s H scope (compEnvC scope cl C X.env) fp) j.dry elt e) (hs : ∀ x, foldedSetIterable iter X.env x = pure x := by intro _; rfl) :
    MS X j (.Assign [.Name y py] (.ListComp elt [⟨tg, iter, ifs, 0⟩] scope pos) spos) (sSetF i (fComp vs it g t e)) := by
  subst hv
  exact ms_imp (ps_setLc (g := tMG X.K j.dry _ g) (tt := TMT X.K j.dry t) (te := TM X.K j.dry e) hc hN hy hyl hsw hi ok hg ht he hs) fun D σ H G Hf env r m => comp_read ⟨G, Hf, env, r, (TFl.fl r m).imp fun d Hf' H' _ p m1 v rv => m1 _ _ _ (r.putOwn p i rv)⟩
end
end M
/-! MIter: what is walked. -/
namespace M
open PySem PySem.Spec PyProof.Rows L2
section
variable {K : PySem.W.Frag} {ca : Nat → Addr} {Hf0 : Hp} {ds es : List D} {vs us : List V} {a b : Addr}
theorem RepL.at {K : PySem.W.Frag} {ca : Nat → Addr} {H : Hp} {ds : List D} {vs : List V} {i : Nat} {x : V} {d : D} (h : RepL K ca H ds vs) (e : ds[i]? = some d) (q : vs[i]? = some x) : Rep K ca H d x := by
  obtain ⟨v, h1, h2⟩ := RepL.get h e
  rw [h1] at q
  cases q
  exact h2
theorem it_list (hs : SqL K Hf0 a vs) (hr : RepL K ca Hf0 ds vs) : ItOk K ca Hf0 ds (Itl K a) := by
  refine ⟨fun i Hf H s1 s2 h => ?_, fun i Hf H x H' d s1 s2 h ⟨e, q⟩ => ?_, fun i Hf H s1 s2 h => ?_⟩
  · have hl := hr.length
    exact ⟨vs, vs[i]'(by omega), (s1.trans s2).seq hs, List.getElem?_eq_getElem (by omega)⟩
  · subst e
    exact ⟨Hf, Post.refl s2, Rep.mono s1 _ _ (RepL.at hr h (q vs ((s1.trans s2).seq hs)))⟩
  · exact ⟨vs, (s1.trans s2).seq hs, by rw [← hr.length]; exact h⟩
theorem it_tup (hs : SqT K Hf0 a vs) (hr : RepL K ca Hf0 ds vs) : ItOk K ca Hf0 ds (Itt K a) := by
  refine ⟨fun i Hf H s1 s2 h => ?_, fun i Hf H x H' d s1 s2 h ⟨e, q⟩ => ?_, fun i Hf H s1 s2 h => ?_⟩
  · have hl := hr.length
    exact ⟨vs, vs[i]'(by omega), Same.seqT (s1.trans s2) hs, List.getElem?_eq_getElem (by omega)⟩
  · subst e
    exact ⟨Hf, Post.refl s2, Rep.mono s1 _ _ (RepL.at hr h (q vs (Same.seqT (s1.trans s2) hs)))⟩
  · exact ⟨vs, Same.seqT (s1.trans s2) hs, by rw [← hr.length]; exact h⟩
theorem it_str {x : Str} : ItOk K ca Hf0 (x.cps.toList.map fun c => D.str ⟨#[c]⟩) (Its x) := by
  refine ⟨fun i Hf H s1 s2 h => (show i < x.cps.size by simpa using h), fun i Hf H v H' d s1 s2 h ⟨e, c, q1, q2⟩ => ?_, fun i Hf H s1 s2 h => (show x.cps.size ≤ i by simpa using h)⟩
  subst e; subst q2
  refine ⟨Hf, Post.refl s2, ?_⟩
  have : x.cps.toList[i]? = some c := by simpa using q1
  rw [List.getElem?_map, this] at h
  cases h
  rfl
theorem it_range {lo hi : Int} : ItOk K ca Hf0 (rangeL lo hi) (Itr lo (hi - lo).toNat) := by
  refine ⟨fun i Hf H s1 s2 h => (show i < (hi - lo).toNat by unfold rangeL at h; rwa [List.length_map, List.length_range] at h), fun i Hf H v H' d s1 s2 h ⟨e, q⟩ => ?_, fun i Hf H s1 s2 h => (show (hi - lo).toNat ≤ i by unfold rangeL at h; rwa [List.length_map, List.length_range] at h)⟩
  subst e; subst q
  refine ⟨Hf, Post.refl s2, ?_⟩
  unfold rangeL at h
  rw [List.getElem?_map] at h
  cases q : (List.range (hi - lo).toNat)[i]? with
  | none => rw [q] at h; cases h
  | some n =>
    rw [q] at h
    have : n = i := by
      obtain ⟨h1, h2⟩ := List.getElem?_eq_some_iff.mp q
      simpa using h2.symm
    subst this
    cases h
    rfl
theorem rev_get {α : Type} {l : List α} {i : Nat} (h : i < l.length) : l.reverse[i]? = l[l.length - 1 - i]? := by
  rw [List.getElem?_reverse h]
theorem RepL.rev {K : PySem.W.Frag} {ca : Nat → Addr} {H : Hp} : ∀ {ds : List D} {vs : List V}, RepL K ca H ds vs → RepL K ca H ds.reverse vs.reverse
  | [], _, h => by unfold RepL at h; subst h; unfold RepL; rfl
  | x :: xs, vs, h => by
    unfold RepL at h
    obtain ⟨v, r, e1, h1, h2⟩ := h
    subst e1
    rw [List.reverse_cons, List.reverse_cons]
    exact RepL.append (RepL.rev h2) (RepL.one h1)
theorem it_rev (hs : SqL K Hf0 a vs) (hr : RepL K ca Hf0 ds vs) : ItOk K ca Hf0 ds.reverse (Itv K a vs.length) := by
  have hl := hr.length
  refine ⟨fun i Hf H s1 s2 h => ?_, fun i Hf H x H' d s1 s2 h ⟨e, q⟩ => ?_, fun i Hf H s1 s2 h => by rw [List.length_reverse] at h; show vs.length ≤ i; omega⟩
  · rw [List.length_reverse] at h
    exact ⟨by omega, vs, vs[vs.length - 1 - i]'(by omega), (s1.trans s2).seq hs, List.getElem?_eq_getElem (by omega)⟩
  · subst e
    have hi : i < vs.length := by have := (List.getElem?_eq_some_iff.mp h).1; rw [List.length_reverse] at this; omega
    exact ⟨Hf, Post.refl s2, Rep.mono s1 _ _ (RepL.at (RepL.rev hr) h (by rw [rev_get hi]; exact q vs ((s1.trans s2).seq hs)))⟩
theorem it_revT (hs : SqT K Hf0 a vs) (hr : RepL K ca Hf0 ds vs) : ItOk K ca Hf0 ds.reverse (RT.ItvT K a vs.length) := by
  have hl := hr.length
  refine ⟨fun i Hf H s1 s2 h => ?_, fun i Hf H x H' d s1 s2 h ⟨e, q⟩ => ?_, fun i Hf H s1 s2 h => by rw [List.length_reverse] at h; show vs.length ≤ i; omega⟩
  · rw [List.length_reverse] at h
    exact ⟨by omega, vs, vs[vs.length - 1 - i]'(by omega), Same.seqT (s1.trans s2) hs, List.getElem?_eq_getElem (by omega)⟩
  · subst e
    have hi : i < vs.length := by have := (List.getElem?_eq_some_iff.mp h).1; rw [List.length_reverse] at this; omega
    exact ⟨Hf, Post.refl s2, Rep.mono s1 _ _ (RepL.at (RepL.rev hr) h (by rw [rev_get hi]; exact q vs (Same.seqT (s1.trans s2) hs)))⟩
theorem pairL_get : ∀ {xs ys : List D} {i : Nat} {d : D}, (pairL xs ys)[i]? = some d → ∃ x y, xs[i]? = some x ∧ ys[i]? = some y ∧ d = .tup [x, y]
  | [], ys, i, d, h => by cases ys <;> simp [pairL] at h
  | x :: xs, [], i, d, h => by simp [pairL] at h
  | x :: xs, y :: ys, 0, d, h => by simp [pairL] at h; exact ⟨x, y, rfl, rfl, h.symm⟩
  | x :: xs, y :: ys, i + 1, d, h => by
    have h : (pairL xs ys)[i]? = some d := by simpa [pairL] using h
    obtain ⟨u, v, h1, h2, h3⟩ := pairL_get h
    exact ⟨u, v, by simpa using h1, by simpa using h2, h3⟩
theorem pairL_len : ∀ {xs ys : List D}, (pairL xs ys).length = min xs.length ys.length
  | [], ys => by cases ys <;> simp [pairL]
  | x :: xs, [] => by simp [pairL]
  | x :: xs, y :: ys => by simp only [pairL, List.length_cons, pairL_len]; omega
theorem rep_pair {K : PySem.W.Frag} {ca : Nat → Addr} {Hf H : Hp} {x y : D} {u v : V} {T : Addr} (s : Same Hf H) (hT : H T = none) (h1 : Rep K ca Hf x u) (h2 : Rep K ca Hf y v) :
    ∃ Hf', Post Hf H Hf' (L2.upd H T (.tup [u, v])) ∧ Rep K ca Hf' (.tup [x, y]) (.ref T) := by
  have p := post_new (o := .tup [u, v]) s hT
  refine ⟨_, p, ?_⟩
  unfold Rep
  refine ⟨T, [u, v], rfl, ⟨.inl (.inl upd_same), fun _ => upd_same⟩, ?_⟩
  unfold RepL
  exact ⟨u, [v], rfl, Rep.mono p.sh _ _ h1, RepL.one (Rep.mono p.sh _ _ h2)⟩
theorem it_zip (hs : SqL K Hf0 a vs) (hr : RepL K ca Hf0 ds vs) (hs' : SqL K Hf0 b us) (hr' : RepL K ca Hf0 es us) : ItOk K ca Hf0 (pairL ds es) (Itz K a b) := by
  have hl := hr.length
  have hl' := hr'.length
  refine ⟨fun i Hf H s1 s2 h => ?_, fun i Hf H x H' d s1 s2 h ⟨T, x1, y1, e1, e2, e3, q1, q2⟩ => ?_, fun i Hf H s1 s2 h => ?_⟩
  · rw [pairL_len] at h
    exact ⟨vs, us, vs[i]'(by omega), us[i]'(by omega), (s1.trans s2).seq hs, (s1.trans s2).seq hs', List.getElem?_eq_getElem (by omega), List.getElem?_eq_getElem (by omega)⟩
  · subst e1; subst e3
    obtain ⟨dx, dy, h1, h2, h3⟩ := pairL_get h
    subst h3
    exact rep_pair s2 e2 (Rep.mono s1 _ _ (RepL.at hr h1 (q1 vs ((s1.trans s2).seq hs)))) (Rep.mono s1 _ _ (RepL.at hr' h2 (q2 us ((s1.trans s2).seq hs'))))
  · rw [pairL_len] at h
    exact ⟨vs, us, (s1.trans s2).seq hs, (s1.trans s2).seq hs', by omega⟩
theorem it_zipT (hs : SqT K Hf0 a vs) (hr : RepL K ca Hf0 ds vs) (hs' : SqT K Hf0 b us) (hr' : RepL K ca Hf0 es us) : ItOk K ca Hf0 (pairL ds es) (RZ.ItzT K a b) := by
  have hl := hr.length
  have hl' := hr'.length
  refine ⟨fun i Hf H s1 s2 h => ?_, fun i Hf H x H' d s1 s2 h ⟨T, x1, y1, e1, e2, e3, q1, q2⟩ => ?_, fun i Hf H s1 s2 h => ?_⟩
  · rw [pairL_len] at h
    exact ⟨vs, us, vs[i]'(by omega), us[i]'(by omega), Same.seqT (s1.trans s2) hs, Same.seqT (s1.trans s2) hs', List.getElem?_eq_getElem (by omega), List.getElem?_eq_getElem (by omega)⟩
  · subst e1; subst e3
    obtain ⟨dx, dy, h1, h2, h3⟩ := pairL_get h
    subst h3
    exact rep_pair s2 e2 (Rep.mono s1 _ _ (RepL.at hr h1 (q1 vs (Same.seqT (s1.trans s2) hs)))) (Rep.mono s1 _ _ (RepL.at hr' h2 (q2 us (Same.seqT (s1.trans s2) hs'))))
  · rw [pairL_len] at h
    exact ⟨vs, us, Same.seqT (s1.trans s2) hs, Same.seqT (s1.trans s2) hs', by omega⟩
theorem enumL_len : ∀ {xs : List D} {k : Nat}, (enumL k xs).length = xs.length
  | [], k => rfl
  | x :: xs, k => by simp [enumL, enumL_len (xs := xs)]
theorem enumL_get : ∀ {xs : List D} {k i : Nat} {d : D}, (enumL k xs)[i]? = some d → ∃ x, xs[i]? = some x ∧ d = .tup [.int ((k + i : Nat) : Int), x]
  | [], k, i, d, h => by simp [enumL] at h
  | x :: xs, k, 0, d, h => by simp [enumL] at h; exact ⟨x, rfl, h.symm⟩
  | x :: xs, k, i + 1, d, h => by
    have h : (enumL (k + 1) xs)[i]? = some d := by simpa [enumL] using h
    obtain ⟨u, h1, h2⟩ := enumL_get h
    refine ⟨u, by simpa using h1, ?_⟩
    rw [h2, show k + 1 + i = k + (i + 1) by omega]
theorem it_enum (hs : SqL K Hf0 a vs) (hr : RepL K ca Hf0 ds vs) : ItOk K ca Hf0 (enumL 0 ds) (Ite K a) := by
  have hl := hr.length
  refine ⟨fun i Hf H s1 s2 h => ?_, fun i Hf H x H' d s1 s2 h ⟨T, x1, e1, e2, e3, q1⟩ => ?_, fun i Hf H s1 s2 h => ?_⟩
  · rw [enumL_len] at h
    exact ⟨vs, vs[i]'(by omega), (s1.trans s2).seq hs, List.getElem?_eq_getElem (by omega)⟩
  · subst e1; subst e3
    obtain ⟨dx, h1, h3⟩ := enumL_get h
    subst h3
    rw [Nat.zero_add]
    exact rep_pair s2 e2 rfl (Rep.mono s1 _ _ (RepL.at hr h1 (q1 vs ((s1.trans s2).seq hs))))
  · rw [enumL_len] at h
    exact ⟨vs, (s1.trans s2).seq hs, by omega⟩
end
theorem repL1 {K : PySem.W.Frag} {ca : Nat → Addr} {H : Hp} {d : D} {vs : List V} (h : RepL K ca H [d] vs) : ∃ v, vs = [v] ∧ Rep K ca H d v := by
  unfold RepL at h
  obtain ⟨v, r, e, h1, h2⟩ := h
  unfold RepL at h2
  subst h2
  exact ⟨v, e, h1⟩
theorem repL2 {K : PySem.W.Frag} {ca : Nat → Addr} {H : Hp} {d d' : D} {vs : List V} (h : RepL K ca H [d, d'] vs) : ∃ v u, vs = [v, u] ∧ Rep K ca H d v ∧ Rep K ca H d' u := by
  unfold RepL at h
  obtain ⟨v, r, e, h1, h2⟩ := h
  obtain ⟨u, e2, h3⟩ := repL1 h2
  subst e2
  exact ⟨v, u, e, h1, h3⟩
theorem repL_cons {K : PySem.W.Frag} {ca : Nat → Addr} {H : Hp} {d : D} {ds : List D} {vs : List V} (h : RepL K ca H (d :: ds) vs) : ∃ v r, vs = v :: r ∧ Rep K ca H d v ∧ RepL K ca H ds r := by
  unfold RepL at h
  exact h
theorem PI.or {X : Cx} {tg e : Expr} {t t' : TI} (h : PI X tg e t) (h' : PI X tg e t') : PI X tg e (fun σ H R => t σ H R ∨ t' σ H R) :=
  ⟨fun pins s σ H R I q => q.elim (h.run pins s σ H R I) (h'.run pins s σ H R I)⟩
section
variable {X : Cx} {j : Jc} {tg e e2 : Expr} {ce : CE} {al : CA} {pos p : Pos}
theorem mi_seq (he : ME X j e ce) : MI X j tg e (iSeq ce) := by
  refine PI.imp (PI.or (PI.or (pi_list he) (pi_tup he)) (pi_str he)) fun σ H R ⟨G, Hf, env, r, m⟩ => ?_
  have m1 := m.bind
  cases q : ce env with
  | stuck => rw [q] at m1; exact m1.elim
  | exc x =>
    refine .inl (.inl ⟨G, Hf, env, r, ?_⟩)
    rw [q] at m1 ⊢
    exact m1
  | ok d =>
    rw [q] at m1
    cases d with
    | lst xs =>
      refine .inl (.inl ⟨G, Hf, env, r, ?_⟩)
      rw [q]
      intro Hf' H' p v rv
      unfold Rep at rv
      obtain ⟨a, vs, e1, h1, h2⟩ := rv
      exact ⟨a, e1, ⟨vs, p.sub.seq h1⟩, OutP.ok (m1 Hf' H' p) p.sub _ (it_list h1 h2)⟩
    | tup xs =>
      refine .inl (.inr ⟨G, Hf, env, r, ?_⟩)
      rw [q]
      intro Hf' H' p v rv
      unfold Rep at rv
      obtain ⟨a, vs, e1, h1, h2⟩ := rv
      have h1 : SqT X.K Hf' a vs := h1.1
      exact ⟨a, e1, ⟨vs, Same.seqT p.sub h1⟩, OutP.ok (m1 Hf' H' p) p.sub _ (it_tup h1 h2)⟩
    | str x =>
      refine .inr ⟨G, Hf, env, r, ?_⟩
      rw [q]
      intro Hf' H' p v rv
      exact ⟨x, rv, OutP.ok (m1 Hf' H' p) p.sub _ it_str⟩
    | _ => exact (OutP.no (m1 Hf H (Post.refl r.sub))).elim
theorem mi_range1 {a : Expr} (hg : Gl X "range") (hm : X.mg "range" = none) (ha : MA X j [a] al) (hs : starEach [a] X.env = [(false, eval a X.env)] := by rfl) : MI X j tg (.Call (.Name "range" p) [a] [] pos) (iB dRange1 al) := by
  refine PI.imp (pi_range1 hg hm ha hs) fun σ H R ⟨G, Hf, env, r, m⟩ => ⟨G, Hf, env, r, m.bind.imp fun ds Hf1 H1 _ p1 m1 vs rv => ?_⟩
  unfold dRange1 at m1
  split at m1
  · rename_i _ i _
    split at m1
    · rename_i hi
      obtain ⟨v, e1, e2⟩ := repL1 rv
      have e2 : v = .int i := e2
      subst e2
      have z := OutP.ok m1 p1.sub _ it_range
      rw [show (i - 0).toNat = i.toNat by rw [Int.sub_zero]] at z
      exact ⟨i, e1, hi.1, hi.2, z⟩
    · exact (OutP.no m1).elim
  · exact (OutP.no m1).elim
theorem mi_range2 {a b : Expr} (hg : Gl X "range") (hm : X.mg "range" = none) (ha : MA X j [a, b] al) (hs : starEach [a, b] X.env = [(false, eval a X.env), (false, eval b X.env)] := by rfl) (hs2 : starEach [b] X.env = [(false, eval b X.env)] := by rfl) :
    MI X j tg (.Call (.Name "range" p) [a, b] [] pos) (iB dRange2 al) := by
  refine PI.imp (pi_range2 hg hm ha hs hs2) fun σ H R ⟨G, Hf, env, r, m⟩ => ⟨G, Hf, env, r, m.bind.imp fun ds Hf1 H1 _ p1 m1 vs rv => ?_⟩
  unfold dRange2 at m1
  split at m1
  · rename_i _ i k _
    split at m1
    · rename_i hi
      obtain ⟨v, u, e1, e2, e3⟩ := repL2 rv
      have e2 : v = .int i := e2
      have e3 : u = .int k := e3
      subst e2; subst e3
      exact ⟨i, k, e1, ⟨hi.1.1, hi.1.2, hi.2.1, hi.2.2⟩, OutP.ok m1 p1.sub _ it_range⟩
    · exact (OutP.no m1).elim
  · exact (OutP.no m1).elim
theorem mi_zip {elts : List Expr} {kk : Nat} {tpos : Pos} (hg : Gl X "zip") (hm : X.mg "zip" = none) (ha : MA X j [e, e2] al) (hs : starEach [e, e2] X.env = (false, eval e X.env) :: starEach [e2] X.env := by rfl) (hpl : (backTo pos (starEach [e2] X.env)).any (·.1) = false := by rfl) :
    MI X j (.Tuple elts kk tpos) (.Call (.Name "zip" p) [e, e2] [] pos) (iB dZip al) := by
  refine PI.imp (RZ.pi_zipA hg hm ha hs hpl) fun σ H R ⟨G, Hf, env, r, m⟩ => ⟨G, Hf, env, r, m.bind.imp fun ds Hf1 H1 _ p1 m1 vs rv => ?_⟩
  unfold dZip at m1
  split at m1
  · rename_i _ xs ys _
    obtain ⟨v, u, e1, e2, e3⟩ := repL2 rv
    unfold Rep at e2 e3
    obtain ⟨a, vs', f1, f2, f3⟩ := e2
    obtain ⟨b, us', g1, g2, g3⟩ := e3
    subst f1; subst g1
    exact ⟨a, b, vs', us', e1, .inl ⟨p1.sub.seq f2, p1.sub.seq g2, OutP.ok m1 p1.sub _ (it_zip f2 f3 g2 g3)⟩⟩
  · rename_i _ xs ys _
    obtain ⟨v, u, e1, e2, e3⟩ := repL2 rv
    unfold Rep at e2 e3
    obtain ⟨a, vs', f1, f2, f3⟩ := e2
    obtain ⟨b, us', g1, g2, g3⟩ := e3
    subst f1; subst g1
    have f2 : SqT X.K Hf1 a vs' := f2.1
    have g2 : SqT X.K Hf1 b us' := g2.1
    exact ⟨a, b, vs', us', e1, .inr ⟨Same.seqT p1.sub f2, Same.seqT p1.sub g2, OutP.ok m1 p1.sub _ (it_zipT f2 f3 g2 g3)⟩⟩
  · exact (OutP.no m1).elim
theorem bind_assoc' {α β γ : Type} (o : Out α) (f : α → Out β) (g : β → Out γ) : (o.bind f).bind g = o.bind fun a => (f a).bind g := by cases o <;> rfl
theorem mi_rev (hg : Gl X "reversed") (hm : X.mg "reversed" = none) (he : ME X j e ce) (hs : starEach [e] X.env = (false, eval e X.env) :: starEach [] X.env := by rfl) :
    MI X j tg (.Call (.Name "reversed" p) [e] [] pos) (iB dRev (aCons ce aNil)) := by
  refine PI.imp (RT.pi_revA hg hm he hs) fun σ H R ⟨G, Hf, env, r, m⟩ => ⟨G, Hf, env, r, ?_⟩
  unfold iB aCons at m
  rw [bind_assoc'] at m
  refine m.bind.imp fun d Hf1 H1 _ p1 m1 v rv => ?_
  have m1 : OutP X.K j.ca j.W σ Hf1 H1 (dRev [d]) _ := m1
  unfold dRev at m1
  split at m1
  · rename_i xs h
    cases h
    unfold Rep at rv
    obtain ⟨a, vs', f1, f2, f3⟩ := rv
    subst f1
    exact ⟨a, vs', rfl, .inl ⟨p1.sub.seq f2, OutP.ok m1 p1.sub _ (it_rev f2 f3)⟩⟩
  · rename_i xs h
    cases h
    unfold Rep at rv
    obtain ⟨a, vs', f1, f2, f3⟩ := rv
    subst f1
    have f2 : SqT X.K Hf1 a vs' := f2.1
    exact ⟨a, vs', rfl, .inr ⟨Same.seqT p1.sub f2, OutP.ok m1 p1.sub _ (it_revT f2 f3)⟩⟩
  · exact (OutP.no m1).elim
end
end M
/-! MDef: a def by its mirror. -/
namespace M
open PySem PySem.Spec PyProof.Rows L2
section
variable {K : PySem.W.Frag} {ca : Nat → Addr} {ea : Ea}
theorem RR.start {Hf H : Hp} {ds : List D} {vs : List V} {N : List Str} {n : Nat} (s : Same Hf H) (h : RepL K ca Hf ds vs) (hn : N.length = n) (hl : ds.length ≤ n) : RR K ca ea ⟨Hf, H⟩ Hf (startE n ds) (L2.start N vs) H := by
  have hv := h.length
  refine ⟨Post.refl s, ?_, List.replicate n [], ?_, ?_, ?_⟩
  · simp [startE, L2.start, hn, ← hv]
  · simp [startE]; omega
  · have : (List.replicate n ([] : List Addr)).flatten = [] := by simp
    rw [this]
    exact ⟨List.nodup_nil, fun a ha => by simp at ha⟩
  · intro i sl o fp e1 e2 e3
    unfold startE at e1
    by_cases hi : i < ds.length
    · rw [List.getElem?_append_left (by simpa using hi)] at e1
      rw [List.getElem?_map, List.getElem?_eq_getElem hi] at e1
      cases e1
      obtain ⟨v, h1, h2⟩ := RepL.get h (List.getElem?_eq_getElem hi)
      refine ⟨v, ?_, h2⟩
      unfold L2.start at e2
      rw [List.getElem?_append_left (by simp; omega), List.getElem?_map, h1] at e2
      cases e2
      rfl
    · rw [List.getElem?_append_right (by simp; omega)] at e1
      have := List.mem_of_getElem? e1
      have : sl = .un := (List.mem_replicate.mp this).2
      subst this
      trivial
end
section
variable {P : Program} {w : World} {K : PySem.W.Frag} {ca : Nat → Addr} {mg : Str → Option Value} {base : Heap}
theorem fn_ok {x qual : Str} {st : Stmt} {f : Addr} {fd : FuncData} {N ps : List Str} {k p n : Nat} {sb : CS} (F : Fun K x qual st f fd) (S : FnScope N ps (defScope st)) (hp : ps.length = p) (hn : N.length = n) (hpn : p ≤ n)
    (hbody : ∀ (cdv : Value) (A : Around) (outer : List PySem.Env) (s : Shared) (H : Hp) (E : XK), Room k (A.deeper (envOfC qual (defScope st) s.heap.objs.size f cdv)) →
      L2N.Takes (cxOf (L2N.CX P w) P w K mg base N qual (defScope st) f cdv A outer s H E) (fun cls d _ H => E cls d H) →
      PassesOwn (model P w) (cxOf (L2N.CX P w) P w K mg base N qual (defScope st) f cdv A outer s H E).A (cxOf (L2N.CX P w) P w K mg base N qual (defScope st) f cdv A outer s H E).env (cxOf (L2N.CX P w) P w K mg base N qual (defScope st) f cdv A outer s H E).xe →
      MSs (cxOf (L2N.CX P w) P w K mg base N qual (defScope st) f cdv A outer s H E) ⟨ca, none, fun cls d _ H => E cls d H⟩ (defBody st) sb) :
    FnOk P w K mg base (L2N.CX P w) (k + 1) f fd ps (spF K ca (fn p n sb)) := by
  obtain ⟨oc, od, kV, doc, pm, an, cdv, ct, osl, rfl, lk, hcd⟩ := F.ex
  refine fn_of lk hcd S (fun vs H Q E h => ?_) fun A outer s H vs Q E hr hsp => ?_
  · obtain ⟨Hf, ds, s1, r1, m⟩ := h
    by_cases hl : ds.length = p
    · rw [hp, ← hl, r1.length]
    · simp [fn, hl] at m
  · have tk : L2N.Takes (cxOf (L2N.CX P w) P w K mg base N qual (defScope st) f cdv A outer s H E) (fun cls d _ H => E cls d H) := L2N.takes_of rfl rfl rfl rfl
    have b := hbody cdv A outer s H E hr tk (L2.passes_of rfl)
    refine ⟨_, b, ?_⟩
    obtain ⟨Hf, ds, s1, r1, m⟩ := hsp
    by_cases hl : ds.length = p
    · have e : fn p n sb ds = (sb (startE n ds)).out := by unfold fn; rw [if_pos hl]
      rw [e] at m
      refine ⟨⟨Hf, H⟩, Hf, startE n ds, RR.start s1 r1 hn (by omega), ?_⟩
      generalize sb (startE n ds) = fl at m
      cases fl with
      | next e2 => exact fun σ Hf' H' r => m .non Hf' H' r.post rfl
      | ret sl =>
        cases sl with
        | val d => exact fun v Hf' H' p rv => m v Hf' H' p rv
        | own o => exact fun v Hf' H' p rv => m v Hf' H' p rv
        | un => exact m
        | exc x => exact m
        | io x => exact m
      | exc x e2 => exact fun cls dd σ Hf' H' r rx => m cls dd Hf' H' r.post rx
      | brk e2 => exact m.elim
      | cont e2 => exact m.elim
      | stuck => exact m.elim
    · have e : fn p n sb ds = .stuck := by unfold fn; rw [if_neg hl]
      rw [e] at m
      exact m.elim
end
end M
/-! MSuper: an own exception over ValueError whose __init__ says super().__init__('..'), then self.f = f. -/
namespace PySem
namespace SupX
open PySem.W PySem.Calls PyProof.Rows PySem.HandSPX
/-- what the written part says of the class at C; its __init__ is fI, that the class at D wrote -/
structure SupC (prog : Program) (K : Frag) (C fI D : Addr) : Prop where
  cls : ∃ nm q N bs bm sn sub ab col dd k0 k1 k2 k3 k5, K.lookup C = some (excClassObj nm q C N bs bm true sn sub ab col dd k0 k1 k2 k3 k5 "ValueError.__new__") ∧ refsVE bm = true
  sa : findIn K (.ref C) "__setattr__" = some (some (.builtin "object.__setattr__"))
  iC : findIn K (.ref C) "__init__" = some (some (.ref fI))
  tI : typeIn K (.ref fI) = some (.type "function")
  sup : ks_superIn K C D "__init__" = some (some (.builtin "ValueError.__init__"))
  ve : subIn K (.ref C) (.type "ValueError") = some true
  mD : mroIn K C (.ref D) = some true
  cD : isClsIn K D = true
  opq : nsIn K cStatics "thirdparty.any" = some none
  kC : keepIn K (.ref C) = true
  exC : subIn K (.ref C) (.type "BaseException") = some true
  tyC : typeIn K (.ref C) = some (.type "type")
  top : (prog.main.scope.names.lookup ("super" : Str)).isSome = false
/-- its text -/
structure SupTxt (prog : Program) (K : Frag) (fI D : Addr) (qual : Str) (params : Arguments) (body : List Stmt) (sc : Scope) : Prop where
  fn : ∃ (oc : Value) (od : Option Addr) (kV doc pm : Value) (an : Option Addr) (cda cc : Addr) (ct : Value) (osl : Array (Option Value)),
    K.lookup fI = some ⟨oc, od, .func (ksFn "__init__" qual params body sc .none kV doc pm an (.ref cda) ct cc), osl⟩ ∧ codeIn K (.ref cda) qual = true ∧
    (∃ (ccl : Value) (cdd : Option Addr) (vs : Array Value) (ccs : Array (Option Value)) (file : Str) (tf : Tok), K.lookup cda = some ⟨ccl, cdd, .fields vs, ccs⟩ ∧ vs[2]? = some (.str file tf) ∧ ((prog.main.file : Str) == file) = true) ∧
    ∃ (cl : Value) (cld : Option Addr) (csl : Array (Option Value)), K.lookup cc = some ⟨cl, cld, .cell (some (.ref D)), csl⟩
abbrev supS (p0 p1 p2 p3 p4 p5 : Pos) (t : Str) (u : Nat) : Stmt := .Expr (.Call (.Attribute (.Call (.Name "super" p0) [] [] p1) "__init__" p2) [.Constant (.str t) u p3] [] p4) p5
abbrev setS (q1 q2 q3 q4 : Pos) (f : Str) : Stmt := .Assign [.Attribute (.Name "self" q1) f q2] (.Name f q3) q4
/-- the heap's ground: the module's names -/
structure Grd (mg : Str → Option Value) (h : Heap) : Prop where
  g : h.Ns mainGlobals mg
  s : mg "super" = none
  b : ∃ mb, h.Ns builtinsNs mb ∧ ∀ x : Str, x ≠ "__name__" → mb x = bootBuiltins x
  lim : h.NoLimit
theorem Grd.keeps {mg : Str → Option Value} {h h' : Heap} (G : Grd mg h) (k : ∀ b o, h.get? b = some o → h'.get? b = some o) : Grd mg h' :=
  ⟨G.g.keeps k, G.s, G.b.elim fun mb q => ⟨mb, q.1.keeps k, q.2⟩, G.lim.keeps k⟩
theorem one_size (v : Value) : [v].length ≤ sizeLine := by
  rw [sizeLine_eq]
  exact (by decide : 1 ≤ 16777216)
section
variable {prog : Program} {w : World} {A : Around} {E : Value → Shared → Prop} {K : Frag} {mg : Str → Option Value} {C fI D : Addr} {h : Heap} {g : Array GenState} {d : Drawn} {t : Nat} {os : OsState}
theorem call_mw {u e t0 : Addr} {rest : List Value} {Q : Value → Shared → Prop} (T : SupC prog K C fI D) (X : K.In h) (he : h.get? e = some (excO C t0)) (hu : h.get? u = some (kxs_mw "ValueError.__init__" e)) (hrest : rest.length ≤ sizeLine)
    (hq : ∀ h' t1, (∀ b o, b ≠ e → h.get? b = some o → h'.get? b = some o) → h'.get? e = some (excO C t1) → Q .none ⟨h', g, d, t, os⟩) :
    wpAny (model prog w) A (call (.ref u) rest) Q E ⟨h, g, d, t, os⟩ := by
  obtain ⟨nm, q, N, bs, bm, sn, sub, ab, col, dd, k0, k1, k2, k3, k5, hC, hbm⟩ := T.cls
  refine wpAny_call (codeAny_of_tree ?_)
  show wpAny _ A.in1 (callAny (.ref u) ⟨rest, []⟩) _ _ _
  simp only [callAny]
  refine wpAny_bind (wpAny_load hu ?_)
  simp only [kxs_mw, show (Value.type "method-wrapper" == Value.type "method" || Value.type "method-wrapper" == Value.type "builtin_function_or_method" || Value.type "method-wrapper" == Value.type "method-wrapper") = true by decide, if_true]
  refine KFB.if_so (by decide) ?_
  refine wpAny_bind (check_bound_init F.excBase_ValueError.toExcCallFacts (X _ _ hC) he rfl ?_)
  refine wpAny_bind (wpAny_pure (wpAny_pure ?_))
  refine ⟨plainId_quiet F.excBase_ValueError.init.plain _, codeAny_builtin F.excBase_ValueError.initEntry ?_⟩
  rw [Around.under_plainId F.excBase_ValueError.init.plain _]
  exact exc_init_tree (cls := .ref C) (t0 := t0) (dv := none) (c2 := .none) (c3 := .none) (b4 := .bool false) he hrest fun h' k e' _ => hq h' _ k e'
theorem sup_head {x t0 L cda cc : Addr} {oc kV doc pm ct : Value} {od an : Option Addr} {osl : Array (Option Value)} {qual : Str} {params : Arguments} {body rest : List Stmt} {sc : Scope} {m : Str → Option Value} {p0 p1 p2 p3 p4 p5 : Pos} {tx : Str} {u : Nat} {ar : Arg} {Q : Flow → Shared → Prop}
    (T : SupC prog K C fI D) (X : K.In h) (G : Grd mg h) (hx : h.get? x = some (excO C t0))
    (ho : K.lookup fI = some ⟨oc, od, .func (ksFn "__init__" qual params body sc .none kV doc pm an (.ref cda) ct cc), osl⟩)
    (hcode : ∃ (ccl : Value) (cdd : Option Addr) (vs : Array Value) (ccs : Array (Option Value)) (file : Str) (tf : Tok), K.lookup cda = some ⟨ccl, cdd, .fields vs, ccs⟩ ∧ vs[2]? = some (.str file tf) ∧ ((prog.main.file : Str) == file) = true)
    (hcell : ∃ (cl : Value) (cld : Option Addr) (csl : Array (Option Value)), K.lookup cc = some ⟨cl, cld, .cell (some (.ref D)), csl⟩)
    (hn : h.Ns L m) (hp : (params.posonlyargs ++ params.args).head? = some ar) (hself : m ar.arg = some (.ref x))
    (hks : sc.names.lookup ("super" : Str) = some .globalImplicit) (hkc : sc.names.lookup ("__class__" : Str) = some .free) (hka : sc.names.lookup ar.arg = some .local) (hk : sc.kind = .function)
    (hq : ∀ h' t1 tk', (∀ b o, b ≠ x → h.get? b = some o → h'.get? b = some o) → h'.get? x = some (excO C t1) → wpAny (model prog w) A (execs rest (ksEnv qual sc L fI (.ref cda) cc)) Q E ⟨h', g, d, tk', os⟩)
    (hin : interactive (ksEnv qual sc L fI (.ref cda) cc) = false) {pl : Sem Bool}
    (hev : eval (.Call (.Attribute (.Call (.Name "super" p0) [] [] p1) "__init__" p2) [.Constant (.str tx) u p3] [] p4) (ksEnv qual sc L fI (.ref cda) cc) = (do
      let ov ← attributeBase (.Call (.Name "super" p0) [] [] p1) "__init__" (ksEnv qual sc L fI (.ref cda) cc) (eval (.Call (.Name "super" p0) [] [] p1) (ksEnv qual sc L fI (.ref cda) cc))
      standAt p2.atName
      let (f, first) ← holding [ov] (getMethod ov "__init__" pl)
      callWith p4 f first (backTo p4 (starEach [.Constant (.str tx) u p3] (ksEnv qual sc L fI (.ref cda) cc))) [])) :
    PySem.wpAt (model prog w) A (.func body (ksEnv qual sc L fI (.ref cda) cc)) (execs (supS p0 p1 p2 p3 p4 p5 tx u :: rest) (ksEnv qual sc L fI (.ref cda) cc)) Q E ⟨h, g, d, t, os⟩ := by
  obtain ⟨ccl, cdd, vs, ccs, file, tf, hcode, hvs, hfile⟩ := hcode
  obtain ⟨cl, cld, csl, hcell⟩ := hcell
  obtain ⟨mb, hb, hbb⟩ := G.b
  obtain ⟨cdD, hD⟩ := Option.isSome_iff_exists.mp (show (clsIn K D).isSome = true from T.cD)
  obtain ⟨oD, hD1, hD2⟩ : ∃ oD, h.get? D = some oD ∧ oD.data = .cls cdD := by
    unfold clsIn at hD
    split at hD
    · rename_i c d cd' sl ho
      cases hD
      exact ⟨_, X _ _ ho, rfl⟩
    · cases hD
  obtain ⟨nm, q, N, bs, bm, sn, sub, ab, col, dd, k0, k1, k2, k3, k5, hC, hbm⟩ := T.cls
  have hcl : clsIn K C = some { name := nm, bases := bs, mro := .ref C :: bm, ns := N, qualname := q, hasDict := true, slotNames := sn, subclasses := sub, abstract := ab, collection := col, hasDel := false } := by unfold clsIn; rw [hC] <;> rfl
  have hm := T.sup
  unfold ks_superIn at hm
  rw [hcl] at hm
  have I : InstAt h x (excO C t0) C none := ⟨hx, rfl, rfl, trivial⟩
  have hxC : x ≠ C := ks_ne X I hcl
  refine ks_wpAt_execs_cons (ks_wpAt_Expr_any (ks_wpAt_MethodCall (ks_wpAt_super_base (env := ksEnv qual sc L fI (.ref cda) cc) hks hkc rfl rfl (X _ _ ho) rfl hp rfl (X _ _ hcode) rfl hvs hfile T.top ?_) hev) hin)
  refine ks_loadName_global hk hks (loadGlobal_builtin (env := ksEnv qual sc L fI (.ref cda) cc) G.g G.s hb ((hbb _ (by decide +kernel)).trans (show bootBuiltins "super" = some (.type "super") by first | rfl | kernel_rfl)) ⟨rfl, ?_⟩)
  refine wpAny_loadName_free hk hkc rfl ⟨_, X _ _ hcell, rfl⟩ ?_
  refine wpAny_loadName_local hk hka hn hself ?_
  refine ks_wpAny_isType_cls hD1 hD2 ⟨rfl, ?_⟩
  refine ks_wpAny_call_super hD1 hD2 hx rfl (fun c e => nomatch e) (looks_mroIn X T.mD) (fun h1 e1 k1 => ?_)
  have X1 : K.In h1 := X.keeps k1
  have hx1 := k1 _ _ hx
  have I1 : InstAt h1 x (excO C t0) C none := ⟨hx1, rfl, rfl, trivial⟩
  have hI : Looks (model prog w) h1 (isInstance (.ref x) (.type "ValueError")) true := I1.type.andThen (looks_subIn X1 T.ve)
  refine kxs_getMethod kxs_ValueError e1 (looks_opaque X1 T.opq) (l₀ := .ref C :: bm) ?_ rfl X1 hm hI hxC rfl ?_
  · exact fun A Q E s k q => wpAny_bind ((looks_clsIn X1 hcl) A _ E s k (wpAny_pure q))
  have k2 : ∀ b o, h1.get? b = some o → (h1.push (kxs_mw "ValueError.__init__" x)).get? b = some o := fun b o e => Heap.get?_push_of_some _ e
  have hu : (h1.push (kxs_mw "ValueError.__init__" x)).get? h1.objs.size = some (kxs_mw "ValueError.__init__" x) := Heap.get?_push_at rfl rfl
  refine kxs_callWith (i := "ValueError.__init__") (x := x) rfl (evalArgs_plain ?_)
  refine spliced_cons (Constant_str (k := u) (pos := p3) (spliced_nil ⟨hu, ?_⟩))
  refine call_mw T (X1.keeps k2) (k2 _ _ hx1) hu (one_size _) fun h3 t3 k3 e3 => ?_
  exact wpAt_of_wpAny (hq h3 t3 _ (fun b o hb e => k3 b o hb (k2 _ _ (k1 _ _ e))) e3)
theorem kept_but {K : Frag} {h h' : Heap} {x : Addr} (X : K.In h) (hx : K.lookup x = none) (k : ∀ b o, b ≠ x → h.get? b = some o → h'.get? b = some o) : K.In h' := fun a o e =>
  k a o (fun z => by rw [z, hx] at e; cases e) (X a o e)
theorem ldK {M : Model} {A : Around} {E : Value → Shared → Prop} {s : Shared} {qual : Str} {sc : Scope} {L a cc : Addr} {cd : Value} {m : Str → Option Value} {x : Str} {pos : Pos} {v : Value} {Q : Value → Shared → Prop} (hn : s.heap.Ns L m) (hv : m x = some v) (hk : sc.kind = .function)
    (hl : sc.names.lookup x = some .local) (hd : (x == ("__debug__" : Str)) = false) (h : Q v s) : wpAny M A (eval (.Name x pos) (ksEnv qual sc L a cd cc)) Q E s := wpAny_Name (wpAny_loadName_local hk hl hn hv h) hd
theorem ns_but {h h' : Heap} {L x : Addr} {m : Str → Option Value} (hn : h.Ns L m) (hL : L ≠ x) (k : ∀ b o, b ≠ x → h.get? b = some o → h'.get? b = some o) : h'.Ns L m := by
  obtain ⟨oL, es, ep, hL', r⟩ := hn
  exact ⟨oL, es, ep, k _ _ hL hL', r⟩
/-- self.f = f, the first one -/
theorem set_first {x t0 L cc : Addr} {cd : Value} {qual f : Str} {rest : List Stmt} {sc : Scope} {m : Str → Option Value} {v : Value} {q1 q2 q3 q4 : Pos} {Q : Flow → Shared → Prop}
    (T : SupC prog K C fI D) (X : K.In h) (hx : h.get? x = some (excO C t0)) (hn : h.Ns L m) (hself : m "self" = some (.ref x)) (hf : m f = some v) (hno : findIn K (.ref C) f = some none)
    (hk : sc.kind = .function) (l1 : sc.names.lookup ("self" : Str) = some .local) (l2 : sc.names.lookup f = some .local) (hd : (f == ("__debug__" : Str)) = false)
    (hq : ∀ h' tk' dx, (∀ b o, b ≠ x → h.get? b = some o → h'.get? b = some o) → h.objs.size ≤ dx → dx ≠ x → h'.get? x = some { cls := .ref C, dict := some dx, data := .fields #[.ref t0, .none, .none, .none, .bool false, .none] } →
      h'.Ns1 dx (fun y => if y = f then some v else none) → wpAny (model prog w) A (execs rest (ksEnv qual sc L fI cd cc)) Q E ⟨h', g, d, tk', os⟩) :
    wpAny (model prog w) A (execs (setS q1 q2 q3 q4 f :: rest) (ksEnv qual sc L fI cd cc)) Q E ⟨h, g, d, t, os⟩ := by
  obtain ⟨nm, q, N, bs, bm, sn, sub, ab, col, dd, k0, k1, k2, k3, k5, hC, hbm⟩ := T.cls
  have hcl : clsIn K C = some { name := nm, bases := bs, mro := .ref C :: bm, ns := N, qualname := q, hasDict := true, slotNames := sn, subclasses := sub, abstract := ab, collection := col, hasDel := false } := by unfold clsIn; rw [hC] <;> rfl
  refine wpAny_execs_cons (plainObj_wpAny_Assign_Attribute ?_)
  refine ldK (v := v) hn hf hk l2 hd (ldK (v := .ref x) hn hself hk l1 (by decide) ?_)
  refine set_plain X (ox := excO C t0) (od := none) ⟨hx, rfl, rfl, trivial⟩ T.sa ?_
  exact exc_osa X hx hcl (show refsVE (.ref C :: bm) = true from hbm) rfl hno hq
/-- .. a further one -/
theorem set_next {x t0 L cc dx : Addr} {cd : Value} {qual f : Str} {rest : List Stmt} {sc : Scope} {m m0 : Str → Option Value} {nl : List Str} {v : Value} {q1 q2 q3 q4 : Pos} {Q : Flow → Shared → Prop}
    (T : SupC prog K C fI D) (X : K.In h) (hx : h.get? x = some { cls := .ref C, dict := some dx, data := .fields #[.ref t0, .none, .none, .none, .bool false, .none] }) (hns : h.Ns1 dx m0) (hw : Within m0 nl) (hz : nl.length ≤ 1000)
    (hn : h.Ns L m) (hself : m "self" = some (.ref x)) (hf : m f = some v) (hno : findIn K (.ref C) f = some none)
    (hk : sc.kind = .function) (l1 : sc.names.lookup ("self" : Str) = some .local) (l2 : sc.names.lookup f = some .local) (hd : (f == ("__debug__" : Str)) = false)
    (hq : ∀ h' tk', (∀ b o, b ≠ dx → h.get? b = some o → h'.get? b = some o) → h'.Ns1 dx (fun y => if y = f then some v else m0 y) → wpAny (model prog w) A (execs rest (ksEnv qual sc L fI cd cc)) Q E ⟨h', g, d, tk', os⟩) :
    wpAny (model prog w) A (execs (setS q1 q2 q3 q4 f :: rest) (ksEnv qual sc L fI cd cc)) Q E ⟨h, g, d, t, os⟩ := by
  obtain ⟨nm, q, N, bs, bm, sn, sub, ab, col, dd, k0, k1, k2, k3, k5, hC, hbm⟩ := T.cls
  have hcl : clsIn K C = some { name := nm, bases := bs, mro := .ref C :: bm, ns := N, qualname := q, hasDict := true, slotNames := sn, subclasses := sub, abstract := ab, collection := col, hasDel := false } := by unfold clsIn; rw [hC] <;> rfl
  refine wpAny_execs_cons (plainObj_wpAny_Assign_Attribute ?_)
  refine ldK (v := v) hn hf hk l2 hd (ldK (v := .ref x) hn hself hk l1 (by decide) ?_)
  obtain ⟨oD, esD, epD, hoD, hdD, _⟩ := hns.count hw
  refine set_plain X (ox := { cls := .ref C, dict := some dx, data := .fields #[.ref t0, .none, .none, .none, .bool false, .none] }) (od := some oD) ⟨hx, rfl, rfl, hoD⟩ T.sa ?_
  exact OEX.osa_old X hx hns hw hz hcl (show refsVE (.ref C :: bm) = true from hbm) rfl hno hq
/-- what __init__ leaves of a fresh exception at x -/
structure InitEnd (h h' : Heap) (x C dx : Addr) (mA : Str → Option Value) : Prop where
  keep : ∀ b o, b ≠ x → h.get? b = some o → h'.get? b = some o
  obj : ∃ t1 : Addr, h'.get? x = some { cls := .ref C, dict := some dx, data := .fields #[.ref t1, .none, .none, .none, .bool false, .none] }
  dbig : h.objs.size ≤ dx
  dne : dx ≠ x
  ns : h'.Ns1 dx mA
structure OwnMade (h h' : Heap) (e C d : Addr) (mA : Str → Option Value) : Prop where
  keep : ∀ b o, h.get? b = some o → h'.get? b = some o
  new : h.objs.size ≤ e
  obj : ∃ t1 : Addr, h'.get? e = some { cls := .ref C, dict := some d, data := .fields #[.ref t1, .none, .none, .none, .bool false, .none] }
  dbig : h.objs.size ≤ d
  dne : d ≠ e
  ns : h'.Ns1 d mA
/-- what the text's rows say by looking -/
structure ScC (sc : Scope) (fs : List Str) : Prop where
  kind : sc.kind = .function
  co : sc.isCoroutine = false
  gen : sc.isGenerator = false
  cell : ∀ x ∈ sc.names, x.2 ≠ .cell
  s : sc.names.lookup ("super" : Str) = some .globalImplicit
  c : sc.names.lookup ("__class__" : Str) = some .free
  self : sc.names.lookup ("self" : Str) = some .local
  fs : ∀ f ∈ fs, sc.names.lookup f = some .local ∧ (f == ("__debug__" : Str)) = false ∧ ("self" == f) = false
def Hev (qual : Str) (sc : Scope) (p0 p1 p2 p3 p4 : Pos) (tx : Str) (u : Nat) : Prop := ∃ pl : Sem Bool, ∀ L fI cda cc : Addr, interactive (ksEnv qual sc L fI (.ref cda) cc) = false ∧ eval (.Call (.Attribute (.Call (.Name "super" p0) [] [] p1) "__init__" p2) [.Constant (.str tx) u p3] [] p4) (ksEnv qual sc L fI (.ref cda) cc) = (do
      let ov ← attributeBase (.Call (.Name "super" p0) [] [] p1) "__init__" (ksEnv qual sc L fI (.ref cda) cc) (eval (.Call (.Name "super" p0) [] [] p1) (ksEnv qual sc L fI (.ref cda) cc))
      standAt p2.atName
      let (f, first) ← holding [ov] (getMethod ov "__init__" pl)
      callWith p4 f first (backTo p4 (starEach [.Constant (.str tx) u p3] (ksEnv qual sc L fI (.ref cda) cc))) [])
section
variable {R : Result → Shared → Prop} {qual f f2 : Str} {params : Arguments} {sc : Scope} {p0 p1 p2 p3 p4 p5 q1 q2 q3 q4 r1 r2 r3 r4 : Pos} {tx : Str} {u : Nat} {ar : Arg}
theorem sup_init1 {x t0 : Addr} {v : Value} (T : SupC prog K C fI D) (TX : SupTxt prog K fI D qual params [supS p0 p1 p2 p3 p4 p5 tx u, setS q1 q2 q3 q4 f] sc) (S : ScC sc [f]) (hev : Hev qual sc p0 p1 p2 p3 p4 tx u)
    (hp : (params.posonlyargs ++ params.args).head? = some ar) (har : ar.arg = "self")
    (hbind : ∀ (kV doc pm : Value) (an : Option Addr) (cdv ct : Value) (cc : Addr) (a b : Value), bindArgs (ksFn "__init__" qual params [supS p0 p1 p2 p3 p4 p5 tx u, setS q1 q2 q3 q4 f] sc .none kV doc pm an cdv ct cc) ⟨[a, b], []⟩ = pure [(("self" : Str), a), (f, b)])
    (hno : findIn K (.ref C) f = some none)
    (X : K.In h) (G : Grd mg h) (hx : h.get? x = some (excO C t0)) (hnx : K.lookup x = none) (hroom : A.depth < recursionLimit)
    (hq : ∀ h' tk dx, InitEnd h h' x C dx (fun y => if y = f then some v else none) → R (.ok (.ret .none)) ⟨h', g, d, tk, os⟩) :
    codeAny (model prog w) A (.call (.ref fI) ⟨[.ref x, v], []⟩) R ⟨h, g, d, t, os⟩ := by
  obtain ⟨oc, od, kV, doc, pm, an, cda, cc, ct, osl, ho, hcd, hcode, hcell⟩ := TX.fn
  obtain ⟨pl, hev⟩ := hev
  obtain ⟨lf, df, sf⟩ := S.fs f (by simp)
  refine ks_codeAny_call_defAt (fd := ksFn "__init__" qual params [supS p0 p1 p2 p3 p4 p5 tx u, setS q1 q2 q3 q4 f] sc .none kV doc pm an (.ref cda) ct cc) (binds := [("self", .ref x), (f, v)]) hroom (X _ _ ho) rfl G.lim (codeRec_of X hcd) rfl
    (BindsTo.of_eq (hbind _ _ _ _ _ _ _ _ _)) S.cell (fun y hy => ?_) (fun h₁ hn k => ?_) S.co S.gen S.kind
  · rcases List.mem_cons.mp hy with e | hy
    · subst e; exact S.self
    · have e := List.mem_singleton.mp hy
      subst e; exact lf
  have hs1 : (fun y => ([("self", Value.ref x), (f, v)] : List (Str × Value)).reverse.lookup y) "self" = some (.ref x) := by
    show (match (("self" : Str) == f) with | true => some v | false => List.lookup ("self" : Str) [(("self" : Str), Value.ref x)]) = _
    rw [sf]
    rfl
  have hs2 : (fun y => ([("self", Value.ref x), (f, v)] : List (Str × Value)).reverse.lookup y) f = some v := by
    show (match (f == f) with | true => some v | false => List.lookup f [(("self" : Str), Value.ref x)]) = _
    rw [beq_self_eq_true]
  have hLx : h.objs.size ≠ x := Nat.ne_of_gt (Heap.lt_size hx)
  refine sup_head T (X.keeps k) (G.keeps k) (k _ _ hx) ho hcode hcell hn hp (by rw [har]; exact hs1) S.s S.c (by rw [har]; exact S.self) S.kind (fun h2 t1 tk2 k2 e2 => ?_) (hev _ _ _ _).1 (hev _ _ _ _).2
  have X2 : K.In h2 := kept_but (X.keeps k) hnx k2
  refine set_first T X2 e2 (ns_but hn hLx k2) hs1 hs2 hno S.kind S.self lf df (fun h3 tk3 dx k3 dn dne e3 n3 => ?_)
  refine wpAny_execs_nil (hq h3 tk3 dx ⟨fun b o hb e => k3 b o hb (k2 b o hb (k b o e)), ⟨t1, e3⟩, ?_, dne, n3⟩)
  have z : h.objs.size < h2.objs.size := (ns_but hn hLx k2).lt
  exact Nat.le_of_lt (Nat.lt_of_lt_of_le z dn)
theorem sup_init2 {x t0 : Addr} {v v2 : Value} (T : SupC prog K C fI D) (TX : SupTxt prog K fI D qual params [supS p0 p1 p2 p3 p4 p5 tx u, setS q1 q2 q3 q4 f, setS r1 r2 r3 r4 f2] sc) (S : ScC sc [f, f2]) (hev : Hev qual sc p0 p1 p2 p3 p4 tx u)
    (hp : (params.posonlyargs ++ params.args).head? = some ar) (har : ar.arg = "self") (hff : (f == f2) = false)
    (hbind : ∀ (kV doc pm : Value) (an : Option Addr) (cdv ct : Value) (cc : Addr) (a b c : Value), bindArgs (ksFn "__init__" qual params [supS p0 p1 p2 p3 p4 p5 tx u, setS q1 q2 q3 q4 f, setS r1 r2 r3 r4 f2] sc .none kV doc pm an cdv ct cc) ⟨[a, b, c], []⟩ = pure [(("self" : Str), a), (f, b), (f2, c)])
    (hno : findIn K (.ref C) f = some none) (hno2 : findIn K (.ref C) f2 = some none)
    (X : K.In h) (G : Grd mg h) (hx : h.get? x = some (excO C t0)) (hnx : K.lookup x = none) (hroom : A.depth < recursionLimit)
    (hq : ∀ h' tk dx, InitEnd h h' x C dx (fun y => if y = f2 then some v2 else if y = f then some v else none) → R (.ok (.ret .none)) ⟨h', g, d, tk, os⟩) :
    codeAny (model prog w) A (.call (.ref fI) ⟨[.ref x, v, v2], []⟩) R ⟨h, g, d, t, os⟩ := by
  obtain ⟨oc, od, kV, doc, pm, an, cda, cc, ct, osl, ho, hcd, hcode, hcell⟩ := TX.fn
  obtain ⟨pl, hev⟩ := hev
  obtain ⟨lf, df, sf⟩ := S.fs f (by simp)
  obtain ⟨lf2, df2, sf2⟩ := S.fs f2 (by simp)
  refine ks_codeAny_call_defAt (fd := ksFn "__init__" qual params [supS p0 p1 p2 p3 p4 p5 tx u, setS q1 q2 q3 q4 f, setS r1 r2 r3 r4 f2] sc .none kV doc pm an (.ref cda) ct cc) (binds := [("self", .ref x), (f, v), (f2, v2)]) hroom (X _ _ ho) rfl G.lim (codeRec_of X hcd) rfl
    (BindsTo.of_eq (hbind _ _ _ _ _ _ _ _ _ _)) S.cell (fun y hy => ?_) (fun h₁ hn k => ?_) S.co S.gen S.kind
  · rcases List.mem_cons.mp hy with e | hy
    · subst e; exact S.self
    · rcases List.mem_cons.mp hy with e | hy
      · subst e; exact lf
      · have e := List.mem_singleton.mp hy
        subst e; exact lf2
  have hs1 : (fun y => ([("self", Value.ref x), (f, v), (f2, v2)] : List (Str × Value)).reverse.lookup y) "self" = some (.ref x) := by
    show (match (("self" : Str) == f2) with | true => some v2 | false => match (("self" : Str) == f) with | true => some v | false => List.lookup ("self" : Str) [(("self" : Str), Value.ref x)]) = _
    rw [sf, sf2]
    rfl
  have hs2 : (fun y => ([("self", Value.ref x), (f, v), (f2, v2)] : List (Str × Value)).reverse.lookup y) f = some v := by
    show (match (f == f2) with | true => some v2 | false => match (f == f) with | true => some v | false => List.lookup f [(("self" : Str), Value.ref x)]) = _
    rw [hff, beq_self_eq_true]
  have hs3 : (fun y => ([("self", Value.ref x), (f, v), (f2, v2)] : List (Str × Value)).reverse.lookup y) f2 = some v2 := by
    show (match (f2 == f2) with | true => some v2 | false => _) = _
    rw [beq_self_eq_true]
  have hLx : h.objs.size ≠ x := Nat.ne_of_gt (Heap.lt_size hx)
  refine sup_head T (X.keeps k) (G.keeps k) (k _ _ hx) ho hcode hcell hn hp (by rw [har]; exact hs1) S.s S.c (by rw [har]; exact S.self) S.kind (fun h2 t1 tk2 k2 e2 => ?_) (hev _ _ _ _).1 (hev _ _ _ _).2
  have X2 : K.In h2 := kept_but (X.keeps k) hnx k2
  have hn2 := ns_but hn hLx k2
  refine set_first T X2 e2 hn2 hs1 hs2 hno S.kind S.self lf df (fun h3 tk3 dx k3 dn dne e3 n3 => ?_)
  have z : h.objs.size < h2.objs.size := hn2.lt
  have X3 : K.In h3 := kept_but X2 hnx k3
  have hn3 := ns_but hn2 hLx k3
  have hLd : h.objs.size ≠ dx := Nat.ne_of_lt (Nat.lt_of_lt_of_le z dn)
  have hw : Within (fun y => if y = f then some v else none) [f] := fun y hy => by
    by_cases e : y = f
    · simp [e]
    · simp [e] at hy
  have hdx : K.lookup dx = none := by
    cases e : K.lookup dx with
    | none => rfl
    | some o => exact absurd (Heap.lt_size (X2 _ _ e)) (Nat.not_lt.mpr dn)
  refine set_next T X3 e3 n3 hw (show 1 ≤ 1000 by decide) hn3 hs1 hs3 hno2 S.kind S.self lf2 df2 (fun h4 tk4 k4 n4 => ?_)
  exact wpAny_execs_nil (hq h4 tk4 dx ⟨fun b o hb e => k4 b o (fun eb => by
      have : b < h2.objs.size := Heap.lt_size (k2 b o hb (k b o e))
      exact absurd dn (Nat.not_le.mpr (eb ▸ this))) (k3 b o hb (k2 b o hb (k b o e))), ⟨t1, k4 x _ (Ne.symm dne) e3⟩, Nat.le_of_lt (Nat.lt_of_lt_of_le z dn), dne, n4⟩)
/-- C(v, ..): from what __init__ does -/
theorem sup_made {vs : List Value} {mA : Str → Option Value} (T : SupC prog K C fI D) (hz : vs.length ≤ sizeLine)
    (hi : ∀ (A' : Around) (h : Heap) (t t0 : Nat) (x : Addr) (R' : Result → Shared → Prop), K.In h → Grd mg h → h.get? x = some (excO C t0) → K.lookup x = none → A'.depth < recursionLimit →
      (∀ h' tk dx, InitEnd h h' x C dx mA → R' (.ok (.ret .none)) ⟨h', g, d, tk, os⟩) → codeAny (model prog w) A' (.call (.ref fI) ⟨.ref x :: vs, []⟩) R' ⟨h, g, d, t, os⟩)
    (X : K.In h) (G : Grd mg h) (hroom : A.depth + 1 < recursionLimit)
    (hq : ∀ h' tk e dd, OwnMade h h' e C dd mA → R (.ok (.ret (.ref e))) ⟨h', g, d, tk, os⟩) :
    codeAny (model prog w) A (.call (.ref C) ⟨vs, []⟩) R ⟨h, g, d, t, os⟩ := by
  obtain ⟨nm, q, N, bs, bm, sn, sub, ab, col, dd, k0, k1, k2, k3, k5, hC, hbm⟩ := T.cls
  have k : ∀ b o, h.get? b = some o → ((h.push (kdv_tup vs)).push (excO C h.objs.size)).get? b = some o := fun b o e => Heap.get?_push_of_some _ (Heap.get?_push_of_some _ e)
  have hget : ((h.push (kdv_tup vs)).push (excO C h.objs.size)).get? (h.objs.size + 1) = some (excO C h.objs.size) := by heap_get
  have hnx : K.lookup (h.objs.size + 1) = none := by
    cases e : K.lookup (h.objs.size + 1) with
    | none => rfl
    | some o =>
      have z : h.get? (h.objs.size + 1) = some o := X _ _ e
      exact absurd (Nat.lt_of_succ_lt (Heap.lt_size z)) (Nat.lt_irrefl _)
  refine call_own F.excBase_ValueError (fun X => refsVE_contains X bm hbm) (X _ _ hC) (looks_findIn X T.iC) (fun self => bind_fn X self T.tI) hz ?_
  refine hi _ _ _ _ _ _ (X.keeps k) (G.keeps k) hget hnx ?_ fun h' tk' dx ⟨k', hx, dn, dne, hns⟩ => ?_
  · show A.depth + 1 < recursionLimit
    exact hroom
  · have old : ∀ b o, h.get? b = some o → h'.get? b = some o := fun b o e => k' b o (Nat.ne_of_lt (Nat.lt_succ_of_lt (Heap.lt_size e))) (k b o e)
    have z : h.objs.size + 1 + 1 ≤ dx := by
      first
        | (simpa only [Heap.size_push] using dn)
        | exact dn
        | (have q := dn; rw [Heap.size_push, Heap.size_push] at q; exact q)
    exact ⟨rfl, hq h' tk' (h.objs.size + 1) dx ⟨old, Nat.le_succ _, hx, Nat.le_trans (Nat.le_trans (Nat.le_succ _) (Nat.le_succ _)) z, dne, hns⟩⟩
end
end
end SupX
end PySem
/-! MRaise: raise C(..). -/
namespace PySem
namespace SupX
open PySem.W PySem.Calls PyProof.Rows PySem.HandSPX
/-- C(us): an exception with the fields ps -/
structure MkS (prog : Program) (w : World) (K : Frag) (mg : Str → Option Value) (C : Addr) (ps : List Str) : Prop where
  made : ∀ (A : Around) (us : List Value) (h : Heap) (g : Array GenState) (d : Drawn) (t : Nat) (os : OsState) (R : Result → Shared → Prop), us.length = ps.length → K.In h → Grd mg h → A.depth + 1 < recursionLimit →
    (∀ h' tk e dd mA, (∀ y, mA y = (ps.zip us).lookup y) → OwnMade h h' e C dd mA → R (.ok (.ret (.ref e))) ⟨h', g, d, tk, os⟩) → codeAny (model prog w) A (.call (.ref C) ⟨us, []⟩) R ⟨h, g, d, t, os⟩
section
variable {prog : Program} {w : World} {K : Frag} {mg : Str → Option Value} {C fI D : Addr} {qual f f2 : Str} {params : Arguments} {sc : Scope} {p0 p1 p2 p3 p4 p5 q1 q2 q3 q4 r1 r2 r3 r4 : Pos} {tx : Str} {u : Nat} {ar : Arg}
theorem two_size (v u : Value) : [v, u].length ≤ sizeLine := by
  rw [sizeLine_eq]
  exact (by decide : 2 ≤ 16777216)
theorem mks1 (T : SupC prog K C fI D) (TX : SupTxt prog K fI D qual params [supS p0 p1 p2 p3 p4 p5 tx u, setS q1 q2 q3 q4 f] sc) (S : ScC sc [f]) (hev : Hev qual sc p0 p1 p2 p3 p4 tx u)
    (hp : (params.posonlyargs ++ params.args).head? = some ar) (har : ar.arg = "self")
    (hbind : ∀ (kV doc pm : Value) (an : Option Addr) (cdv ct : Value) (cc : Addr) (a b : Value), bindArgs (ksFn "__init__" qual params [supS p0 p1 p2 p3 p4 p5 tx u, setS q1 q2 q3 q4 f] sc .none kV doc pm an cdv ct cc) ⟨[a, b], []⟩ = pure [(("self" : Str), a), (f, b)])
    (hno : findIn K (.ref C) f = some none) : MkS prog w K mg C [f] := by
  refine ⟨fun A us h g d t os R hl X G hr hq => ?_⟩
  match us, hl with
  | [v], _ =>
    refine sup_made (mA := fun y => if y = f then some v else none) T (one_size v) (fun A' h t t0 x R' X G hx hnx hr' hq' => sup_init1 T TX S hev hp har hbind hno X G hx hnx hr' hq') X G hr (fun h' tk e dd M => hq h' tk e dd _ (fun y => ?_) M)
    show _ = (match (y == f) with | true => some v | false => none)
    by_cases e : y = f
    · subst e; simp
    · have : (y == f) = false := by simpa using e
      rw [this, if_neg e]
theorem mks2 (T : SupC prog K C fI D) (TX : SupTxt prog K fI D qual params [supS p0 p1 p2 p3 p4 p5 tx u, setS q1 q2 q3 q4 f, setS r1 r2 r3 r4 f2] sc) (S : ScC sc [f, f2]) (hev : Hev qual sc p0 p1 p2 p3 p4 tx u)
    (hp : (params.posonlyargs ++ params.args).head? = some ar) (har : ar.arg = "self") (hff : (f == f2) = false)
    (hbind : ∀ (kV doc pm : Value) (an : Option Addr) (cdv ct : Value) (cc : Addr) (a b c : Value), bindArgs (ksFn "__init__" qual params [supS p0 p1 p2 p3 p4 p5 tx u, setS q1 q2 q3 q4 f, setS r1 r2 r3 r4 f2] sc .none kV doc pm an cdv ct cc) ⟨[a, b, c], []⟩ = pure [(("self" : Str), a), (f, b), (f2, c)])
    (hno : findIn K (.ref C) f = some none) (hno2 : findIn K (.ref C) f2 = some none) : MkS prog w K mg C [f, f2] := by
  refine ⟨fun A us h g d t os R hl X G hr hq => ?_⟩
  match us, hl with
  | [v, v2], _ =>
    refine sup_made (mA := fun y => if y = f2 then some v2 else if y = f then some v else none) T (two_size v v2) (fun A' h t t0 x R' X G hx hnx hr' hq' => sup_init2 T TX S hev hp har hff hbind hno hno2 X G hx hnx hr' hq') X G hr (fun h' tk e dd M => hq h' tk e dd _ (fun y => ?_) M)
    show _ = (match (y == f) with | true => some v | false => match (y == f2) with | true => some v2 | false => none)
    by_cases e : y = f
    · subst e
      have : ¬ (y = f2) := by simpa using hff
      simp [this]
    · have : (y == f) = false := by simpa using e
      rw [this, if_neg e]
      by_cases e2 : y = f2
      · subst e2; simp
      · have : (y == f2) = false := by simpa using e2
        rw [this, if_neg e2]
end
end SupX
end PySem
namespace M
open PySem PySem.Spec PyProof.Rows L2
theorem relO_zip : ∀ {ps : List Str} {vs : List V} {us : List Value} (y : Str), Vals vs us → RelO ((ps.zip vs).lookup y) ((ps.zip us).lookup y)
  | [], vs, us, y, r => trivial
  | p :: ps, vs, us, y, r => by
    cases r with
    | nil => trivial
    | cons h r =>
      rename_i v u vs us
      show RelO (match (y == p) with | true => some v | false => (ps.zip vs).lookup y) (match (y == p) with | true => some u | false => (ps.zip us).lookup y)
      cases y == p with
      | true => exact h
      | false => exact relO_zip y r
section
variable {X : Cx} {j : Jc} {C : Addr} {ps : List Str} {e : Expr} {es : List Expr} {ta : TA} {x : Str} {p pos pos2 : Pos} {k : Nat}
def tMkS (C : Addr) (ps : List Str) (ta : TA) : L2.St → Hp → XK → Prop := fun σ H Q => ta σ H fun vs H1 => vs.length = ps.length ∧ ∀ d, H1 d = none → Q (.ref C) (some d) (L2.upd H1 d (.xd (ps.zip vs)))
theorem inv_grd {pins : List (Addr × Obj)} {σ : L2.St} {H : Hp} {s : Shared} (I : Inv X pins σ H s) (hs : X.mg "super" = none) : SupX.Grd X.mg s.heap :=
  ⟨I.mod.glob.keeps I.bk, hs, I.mod.blt.elim fun mb q => ⟨mb, q.1.keeps I.bk, q.2⟩, I.nolimit⟩
theorem pmk_sup (Mk : SupX.MkS X.prog X.w X.K X.mg C ps) (gC : X.mg x = some (.ref C)) (kC : PySem.W.keepIn X.K (.ref C) = true) (ra : Raises X (.ref C)) (hs : X.mg "super" = none) (hr : Room k X.A) (hk : 1 ≤ k) (ha : PA X (e :: es) ta) (hg : Gl X x)
    (hdb : (x == ("__debug__" : Str)) = false := by decide) (he : starEach (e :: es) X.env = (false, eval e X.env) :: starEach es X.env := by rfl) (hpl : (backTo pos (starEach es X.env)).any (·.1) = false := by rfl) :
    L2N.PMk X (.Call (.Name x p) (e :: es) [] pos) (tMkS C ps ta) := by
  intro pins s σ H Q I h
  refine wpAny_Call_Name_kw (ld_glob I hg gC ?_ hdb)
  refine PySem.W.callWith_K (h₀ := X.base) I.ok.mod.kin kC (thn (ha.run pos pins s σ H _ I h) fun us s1 hh => ?_) he hpl
  obtain ⟨vs, H1, I1, r1, hl, q1⟩ := hh
  refine ⟨I1.kIn, ?_⟩
  show wpAny _ _ (call (.ref C) us) _ _ _
  have G := inv_grd I1 hs
  obtain ⟨hp, g, dr, tk, os⟩ := s1
  refine wpAny_call (Mk.made _ us hp g dr tk os _ (by rw [← r1.length]; exact hl) I1.kIn G (by have := hr.dp; omega) fun h' tk' e d mA hmA Md => ?_)
  show L2N.MkP X pins σ Q (.ref e) ⟨h', g, dr, tk', os⟩
  obtain ⟨t1, hoe⟩ := Md.obj
  have hns := Md.ns
  obtain ⟨G', g1, g2⟩ := restrict h' fun b => decide (b ≠ e)
  have gk : ∀ b, b ≠ e → G'.get? b = h'.get? b := fun b hb => g1 b (decide_eq_true hb)
  have ge : G'.get? e = none := g2 e (by simp)
  have old : ∀ b o, hp.get? b = some o → G'.get? b = some o := fun b o q => (gk b (Nat.ne_of_lt (Nat.lt_of_lt_of_le (Heap.lt_size q) Md.new))).trans (Md.keep b o q)
  have ob : ObjOk X.prog X.w (L2.upd H1 d (.xd (ps.zip vs))) G' d (.xd (ps.zip vs)) :=
    ⟨_, hns.at (fun o q => (gk d Md.dne).trans q), fun f => by rw [hmA]; exact relO_zip f r1⟩
  have J : Inv X pins σ (L2.upd H1 d (.xd (ps.zip vs))) ⟨G', g, dr, tk', os⟩ := I1.laid (t' := tk') old Md.dbig ob
  refine ⟨e, _, _, ⟨G', g, dr, tk', os⟩, _, .ref C, some d, rfl, J, fun b o q => ?_, ge, hoe, ⟨rfl, rfl, fun vs' e' => ?_⟩, rfl, rfl, ?_, rfl, I1.bare, ra, q1 d (I1.hok.fresh Md.dbig)⟩
  · by_cases hb : b = e
    · have q' : G'.get? b = some o := q
      rw [hb, ge] at q'; cases q'
    · exact (gk b hb).symm.trans q
  · cases e'; rfl
  · rw [upd_ne (Ne.symm Md.dne)]
    exact I1.hok.fresh Md.new
theorem repF_zip {K : PySem.W.Frag} {ca : Nat → Addr} {H : Hp} : ∀ {ps : List Str} {ds : List D} {vs : List V}, RepL K ca H ds vs → RepF K ca H (ps.zip ds) (ps.zip vs)
  | [], ds, vs, r => by simp; unfold RepF; rfl
  | p :: ps, ds, vs, r => by
    cases ds with
    | nil =>
      unfold RepL at r
      subst r
      simp; unfold RepF; rfl
    | cons d ds =>
      obtain ⟨v, vs', e, h1, h2⟩ := repL_cons r
      subst e
      show RepF K ca H ((p, d) :: ps.zip ds) ((p, v) :: ps.zip vs')
      unfold RepF
      exact ⟨v, _, rfl, h1, repF_zip h2⟩
/-- raise C(e, ..), C with fields of its own -/
theorem ms_raise {c : Nat} {al : CA} (hcalm : X.calm = true) (tk : L2N.Takes X j.W) (hm : L2N.PMk X e (tMkS (j.ca c) ps (TMA X.K j al))) (hps : ps ≠ []) : MS X j (.Raise (some e) none pos) (sRaise c ps al) := by
  refine ms_imp (L2N.ps_raise hcalm tk hm) fun D σ H G Hf env r m => ⟨G, Hf, env, r, (TFl.fl r m).imp fun ds Hf1 H1 _ p1 m1 vs rv => ?_⟩
  split at m1
  · rename_i hl
    refine ⟨by rw [← rv.length]; exact hl, fun d hd => ?_⟩
    have p2 : Post Hf1 H1 (L2.upd Hf1 d (.xd (ps.zip vs))) (L2.upd H1 d (.xd (ps.zip vs))) := post_new p1.sub hd
    refine m1 _ _ σ _ _ ((r.grow p1).grow p2) ⟨rfl, .inr ⟨d, _, rfl, upd_same, ?_⟩⟩
    exact RepF.mono p2.sh _ _ (repF_zip rv)
  · exact m1.elim
/-- .. without -/
theorem ms_raise0 {c : Nat} (hcalm : X.calm = true) (tk : L2N.Takes X j.W) (hm : L2N.PMk X e (fun _ H Q => Q (.ref (j.ca c)) none H)) : MS X j (.Raise (some e) none pos) (sRaise c [] aNil) :=
  ms_imp (L2N.ps_raise hcalm tk hm) fun D σ H G Hf env r m => m _ _ σ Hf H r ⟨rfl, .inl ⟨rfl, rfl⟩⟩
end
end M
/-! MTry: try .. except. -/
namespace M
open PySem PySem.Spec PyProof.Rows L2
section
variable {K : PySem.W.Frag} {ca : Nat → Addr} {ea ea2 : Ea} {G : Gh} {Hf H : Hp} {env : M.Env} {σ : L2.St}
theorem RR.clr (r : RR K ca ea G Hf env σ H) : RR K ca ea2 G Hf (clr env) σ H := by
  obtain ⟨fps, l, m, k⟩ := r.slots
  refine ⟨r.post, by simp [M.clr, r.len], fps, by simp [M.clr, l], m, fun i s o fp e1 e2 e3 => ?_⟩
  unfold M.clr at e1
  rw [List.getElem?_map] at e1
  cases q : env[i]? with
  | none => rw [q] at e1; cases e1
  | some s0 =>
    rw [q] at e1
    have z := k i s0 o fp q e2 e3
    cases s0 <;> cases e1 <;> first | exact z | trivial
theorem RR.exc (r : RR K ca ea G Hf env σ H) {x : ExcV} {a : Addr} {cls : Value} {d : Option Addr} (i : Nat) (rx : RepX K ca Hf x cls d) : RR K ca (some (a, cls, d)) G Hf ((M.clr env).set i (.exc x)) (σ.set i (some (.ref a))) H :=
  (RR.clr r).put i ⟨a, cls, d, rfl, rfl, rx⟩
end
section
variable {X : Cx} {j : Jc} {x n : Str} {c : Value} {i : Nat} {body suite : List Stmt} {b₀ : Stmt} {np pos pos' : Pos} {sb ss : CS} {sub : Sub}
theorem ms_tryAs (hs : X.stack = X.env :: X.outer) (hf : X.env.frame = some X.env.locals) (hN : X.N.Nodup) (hi : X.N[i]? = some n) (hln : X.env.kindOf n = some .local) (hc : Names X x c) (tk : L2N.Takes X j.W) (hea : j.ea = none)
    (hsub : ∀ n b, sub n = some b → PySem.W.exmOne X.K (.ref (j.ca n)) c = some b)
    (hb : ∀ (W : WX) (pn : List (Addr × Obj)) (xe : Value → Shared → Prop), L2N.Takes (X.tr pn xe) W → PassesOwn (model X.prog X.w) X.A X.env xe → MSs (X.tr pn xe) ⟨j.ca, none, W⟩ body sb)
    (hsu : ∀ (a : Addr) (oe : Obj) (cls : Value) (d : Option Addr) (pn : List (Addr × Obj)), L2N.Zn cls d oe → (∃ vs, oe.data = .fields vs) → MSs (X.suite a ((a, oe) :: pn)) ⟨j.ca, some (a, cls, d), fun _ _ _ _ => False⟩ (b₀ :: suite) ss) :
    MS X j (.Try body [.ExceptHandler (some (.Name x np)) (some n) (b₀ :: suite) pos'] [] [] pos) (sTryAs sb sub i ss) := by
  refine ms_imp (L2N.ps_try_as (tb := fun W => TMS X.K ⟨j.ca, none, W⟩ sb) (ts := fun a cls d => TMS X.K ⟨j.ca, some (a, cls, d), fun _ _ _ _ => False⟩ ss) hs hf hN hi hln hc tk hb hsu) fun D σ H G Hf env r m => ?_
  obtain ⟨ca, ea, W⟩ := j
  have hea : ea = none := hea
  subst hea
  refine ⟨G, Hf, env, r, ?_⟩
  unfold sTryAs at m
  cases q : sb env with
  | next e2 => rw [q] at m; exact m
  | brk e2 => rw [q] at m; exact m
  | cont e2 => rw [q] at m; exact m
  | ret sl => rw [q] at m; cases sl <;> exact m
  | stuck => rw [q] at m; exact m
  | exc x e2 =>
    rw [q] at m
    intro cls dd σ2 Hf2 H2 r2 rx
    cases hs2 : sub x.cls with
    | none => simp only [hs2] at m; exact m.elim
    | some b =>
      have hb2 : PySem.W.exmOne X.K cls c = some b := by rw [rx.1]; exact hsub _ _ hs2
      cases b with
      | false =>
        simp only [hs2] at m
        exact ⟨false, hb2, (fun z => nomatch z), fun _ => m cls dd σ2 Hf2 H2 r2 rx⟩
      | true =>
        simp only [hs2] at m
        refine ⟨true, hb2, fun _ a ha => ⟨G, Hf2, _, RR.exc (a := a) r2 i rx, ?_⟩, fun z => nomatch z⟩
        cases q3 : ss ((clr e2).set i (.exc x)) with
        | next e3 => rw [q3] at m; exact fun σ3 Hf3 H3 r3 => m _ _ _ ((RR.clr r3).un i)
        | brk e3 => rw [q3] at m; exact fun σ3 Hf3 H3 r3 => m _ _ _ ((RR.clr r3).un i)
        | cont e3 => rw [q3] at m; exact fun σ3 Hf3 H3 r3 => m _ _ _ ((RR.clr r3).un i)
        | ret sl => rw [q3] at m; cases sl <;> exact m
        | exc x3 e3 => rw [q3] at m; exact m.elim
        | stuck => rw [q3] at m; exact m.elim
inductive MHds (X : Cx) (ca : Nat → Addr) : List ExceptHandler → List (Value × (Addr → Value → Option Addr → TS)) → List (Sub × CS) → Prop
  | nil : MHds X ca [] [] []
  | cons {x : Str} {c : Value} {b₀ : Stmt} {suite : List Stmt} {np pos' : Pos} {hds : List ExceptHandler} {l : List (Value × (Addr → Value → Option Addr → TS))} {ms : List (Sub × CS)} {sub : Sub} {ss : CS} (hc : Names X x c)
      (hsub : ∀ n b, sub n = some b → PySem.W.exmOne X.K (.ref (ca n)) c = some b)
      (hsu : ∀ (a : Addr) (oe : Obj) (cls : Value) (d : Option Addr) (pn : List (Addr × Obj)), L2N.Zn cls d oe → (∃ vs, oe.data = .fields vs) → MSs (X.suite a ((a, oe) :: pn)) ⟨ca, none, fun _ _ _ _ => False⟩ (b₀ :: suite) ss) (r : MHds X ca hds l ms) :
      MHds X ca (.ExceptHandler (some (.Name x np)) none (b₀ :: suite) pos' :: hds) ((c, fun _ _ _ => TMS X.K ⟨ca, none, fun _ _ _ _ => False⟩ ss) :: l) ((sub, ss) :: ms)
theorem MHds.ok {ca : Nat → Addr} {hds : List ExceptHandler} {l : List (Value × (Addr → Value → Option Addr → TS))} {ms : List (Sub × CS)} (h : MHds X ca hds l ms) : L2N.HdsOk X hds l := by
  induction h with
  | nil => exact .nil
  | cons hc hsub hsu r ih => exact .cons hc hsu ih
theorem MHds.wish {ca : Nat → Addr} {W : WX} {hds : List ExceptHandler} {l : List (Value × (Addr → Value → Option Addr → TS))} {ms : List (Sub × CS)} (h : MHds X ca hds l ms) {G : Gh} {D : Ends} {x : ExcV} {e : M.Env} (m : TFl X.K ⟨ca, none, W⟩ G D (tryGo ms x e))
    {cls : Value} {dd : Option Addr} {σ : L2.St} {Hf H : Hp} (r : RR X.K ca none G Hf e σ H) (rx : RepX X.K ca Hf x cls dd) : wMany X.K W D l cls dd σ H := by
  induction h with
  | nil => exact m cls dd σ Hf H r rx
  | cons hc hsub hsu r' ih =>
    rename_i sub ss
    unfold tryGo at m
    cases hs2 : sub x.cls with
    | none => simp only [hs2] at m; exact m.elim
    | some b =>
      have hb2 := hsub _ _ hs2
      rw [← rx.1] at hb2
      cases b with
      | false =>
        simp only [hs2] at m
        exact ⟨false, hb2, (fun z => nomatch z), fun _ => ih m⟩
      | true =>
        simp only [hs2] at m
        refine ⟨true, hb2, fun _ a ha => ⟨G, Hf, _, RR.clr r, ?_⟩, fun z => nomatch z⟩
        cases q3 : ss (clr e) with
        | next e3 => rw [q3] at m; exact m
        | brk e3 => rw [q3] at m; exact m
        | cont e3 => rw [q3] at m; exact m
        | ret sl => rw [q3] at m; cases sl <;> exact m
        | exc x3 e3 => rw [q3] at m; exact m.elim
        | stuck => rw [q3] at m; exact m.elim
theorem ms_try {h₀ : ExceptHandler} {hds : List ExceptHandler} {l : List (Value × (Addr → Value → Option Addr → TS))} {ms : List (Sub × CS)} (hs : X.stack = X.env :: X.outer) (hf : X.env.frame = some X.env.locals) (tk : L2N.Takes X j.W) (hea : j.ea = none)
    (hb : ∀ (W : WX) (pn : List (Addr × Obj)) (xe : Value → Shared → Prop), L2N.Takes (X.tr pn xe) W → PassesOwn (model X.prog X.w) X.A X.env xe → MSs (X.tr pn xe) ⟨j.ca, none, W⟩ body sb)
    (hh : MHds X j.ca (h₀ :: hds) l ms) : MS X j (.Try body (h₀ :: hds) [] [] pos) (sTry sb ms) := by
  refine ms_imp (L2N.ps_try_many (tb := fun W => TMS X.K ⟨j.ca, none, W⟩ sb) hs hf tk hb hh.ok) fun D σ H G Hf env r m => ?_
  obtain ⟨ca, ea, W⟩ := j
  have hea : ea = none := hea
  subst hea
  refine ⟨G, Hf, env, r, ?_⟩
  unfold sTry at m
  cases q : sb env with
  | next e2 => rw [q] at m; exact m
  | brk e2 => rw [q] at m; exact m
  | cont e2 => rw [q] at m; exact m
  | ret sl => rw [q] at m; cases sl <;> exact m
  | stuck => rw [q] at m; exact m
  | exc x e2 =>
    rw [q] at m
    intro cls dd σ2 Hf2 H2 r2 rx
    exact hh.wish m r2 rx
end
end M
/-! MOpsD: what the operators and built-ins do, by values. -/
namespace M
open PySem (Str PyData)
/-- how often a while loop may turn -/
def FUEL : Nat := 100000
def dAdd : D → D → Out D
  | .int i, .int j => .ok (.int (i + j))
  | .str a, .str b => if a.length + b.length ≤ line then .ok (.str (a ++ b)) else .stuck
  | .tup xs, .tup ys => if xs.length + ys.length ≤ line then .ok (.tup (xs ++ ys)) else .stuck
  | .lst xs, .lst ys => if xs.length + ys.length ≤ line then .ok (.lst (xs ++ ys)) else .stuck
  | _, _ => .stuck
def fCat : D → D → Out (List D)
  | .lst xs, .lst ys => if xs.length + ys.length ≤ line then .ok (xs ++ ys) else .stuck
  | _, _ => .stuck
def dSub : D → D → Out D
  | .int i, .int j => .ok (.int (i - j))
  | _, _ => .stuck
def smallM (i : Int) : Prop := -(2 ^ 64) < i ∧ i < 2 ^ 64
instance (i : Int) : Decidable (smallM i) := inferInstanceAs (Decidable (_ ∧ _))
def repS (x : Str) (n : Int) : Str := if n < 1 then Str.empty else if (n == 1 || x.length == 0) = true then x else ⟨(List.replicate n.toNat x.cps).foldl (· ++ ·) #[]⟩
def dMul : D → D → Out D
  | .int i, .int j => if smallM i ∨ smallM j then .ok (.int (i * j)) else .stuck
  | .str x, .int n => if -1000 ≤ n ∧ n ≤ 1000 ∧ x.length ≤ 1000 then .ok (.str (repS x n)) else .stuck
  | .tup xs, .int k => if xs ≠ [] ∧ 2 ≤ k ∧ k ≤ 1000 ∧ xs.length ≤ 1000 then .ok (.tup (List.replicate k.toNat xs).flatten) else .stuck
  | _, _ => .stuck
def fRep : D → D → Out (List D)
  | .lst xs, .int k => if xs.length ≤ 1000 ∧ k ≤ 1000 ∧ -(2 ^ 63) ≤ k then .ok (List.replicate k.toNat xs).flatten else .stuck
  | _, _ => .stuck
/-- [..] * k -/
def fRepO (a : CF) (b : CE) : CF := fun env => (a env).bind fun o => (b env).bind fun y => match o with
  | .lst xs => (fRep (.lst xs) y).bind fun ys => .ok (.lst ys)
  | _ => .stuck
def dFdiv : D → D → Out D
  | .int i, .int j => if 0 < j ∧ j.natAbs.log2 < 9000 then .ok (.int (i / j)) else .stuck
  | _, _ => .stuck
/-- tuple(reversed(a list)) -/
def dTupRev : D → Out D
  | .lst xs => .ok (.tup xs.reverse)
  | _ => .stuck
def dMod : D → D → Out D
  | .int i, .int j => if j ≠ 0 then .ok (.int (i.fmod j)) else .stuck
  | _, _ => .stuck
def dPow : D → D → Out D
  | .int i, .int j => if 0 ≤ j ∧ j ≤ 1000000 ∧ i.natAbs < 2 ^ 64 then .ok (.int (i ^ j.toNat)) else .stuck
  | _, _ => .stuck
def dNeg : D → Out D
  | .int i => .ok (.int (-i))
  | _ => .stuck
def intL : List D → Option (List Int)
  | [] => some []
  | d :: r => match d, intL r with
    | .int i, some ns => some (i :: ns)
    | _, _ => none
def ltI : List Int → List Int → Bool
  | [], [] => false
  | [], _ :: _ => true
  | _ :: _, [] => false
  | x :: xs, y :: ys => if x = y then ltI xs ys else decide (x < y)
def dLt : D → D → Out D
  | .int i, .int j => .ok (.bl (decide (i < j)))
  | .str a, .str b => .ok (.bl (decide (a.cps.toList < b.cps.toList)))
  | .tup xs, .tup ys => match intL xs, intL ys with | some ns, some ms => .ok (.bl (ltI ns ms)) | _, _ => .stuck
  | _, _ => .stuck
def dLe : D → D → Out D
  | .int i, .int j => .ok (.bl (decide (i ≤ j)))
  | .str a, .str b => .ok (.bl (!decide (b.cps.toList < a.cps.toList)))
  | _, _ => .stuck
def dGt : D → D → Out D
  | .int i, .int j => .ok (.bl (decide (j < i)))
  | .str a, .str b => .ok (.bl (decide (b.cps.toList < a.cps.toList)))
  | _, _ => .stuck
def dGe : D → D → Out D
  | .int i, .int j => .ok (.bl (decide (j ≤ i)))
  | .str a, .str b => .ok (.bl (!decide (a.cps.toList < b.cps.toList)))
  | _, _ => .stuck
/-! ### == -/
mutual
def eqD : D → D → Bool
  | .non, .non => true
  | .bl a, .bl b => a == b
  | .bl a, .int j => (if a then 1 else 0) == j
  | .int i, .bl b => i == (if b then 1 else 0)
  | .int i, .int j => i == j
  | .str x, .str y => x == y
  | .lst xs, .lst ys => eqDs xs ys
  | .tup xs, .tup ys => eqDs xs ys
  | _, _ => false
def eqDs : List D → List D → Bool
  | [], [] => true
  | x :: xs, y :: ys => eqD x y && eqDs xs ys
  | _, _ => false
end
def strOk (x : Str) : Bool := x.cps.all (· < 0x110000)
mutual
/-- data that == is asked of; n: how deep it may be -/
def okN : Nat → D → Bool
  | _, .non => true
  | _, .bl _ => true
  | _, .int _ => true
  | _, .str x => strOk x
  | n + 1, .tup xs => okNs n xs
  | n + 1, .lst xs => okNs n xs
  | _, _ => false
def okNs : Nat → List D → Bool
  | _, [] => true
  | n, x :: xs => okN n x && okNs n xs
end
def okD (d : D) : Bool := okN 64 d
def dEq (x y : D) : Out D := if okD x = true ∧ okD y = true then .ok (.bl (eqD x y)) else .stuck
def dNe (x y : D) : Out D := if okD x = true ∧ okD y = true then .ok (.bl (!eqD x y)) else .stuck
/-! ### in, is -/
def flatD : D → Bool
  | .non => true | .bl _ => true | .int _ => true | .str _ => true | _ => false
def inD (x : D) (xs : List D) : Bool := xs.any fun y => eqD y x
/-! dicts: keys are ints or texts -/
def keyOk : D → Bool
  | .int _ => true | .str _ => true | _ => false
/-- .. or tuples of whole numbers -/
def keyTOk : D → Bool
  | .tup xs => hotT xs | _ => false
def getV : List D → List D → D → Option D
  | k' :: ks, v :: vs, k => if eqD k' k = true then some v else getV ks vs k
  | _, _, _ => none
def hasK (ks : List D) (k : D) : Bool := ks.any fun k' => eqD k' k
def setV : List D → List D → D → D → List D
  | k' :: ks, v :: vs, k, d => (if eqD k' k = true then d else v) :: setV ks vs k d
  | _, _, _, _ => []
def putKs (ks : List D) (k : D) : List D := if hasK ks k = true then ks else ks ++ [k]
def putVs (ks vs : List D) (k d : D) : List D := if hasK ks k = true then setV ks vs k d else vs ++ [d]
def dropKs (ks : List D) (k : D) : List D := ks.filter fun k' => !eqD k' k
def dropVs : List D → List D → D → List D
  | k' :: ks, v :: vs, k => if eqD k' k = true then dropVs ks vs k else v :: dropVs ks vs k
  | _, _, _ => []
def signIn (a z : Str) : Option Bool := match a.cps.toList with
  | [c] => some (decide (c ∈ z.cps.toList))
  | _ => none
def dIn : D → D → Out D
  | x, .dct ks vs => if keyOk x = true then .ok (.bl (getV ks vs x).isSome) else .stuck
  | x, .dctT ks vs => if keyTOk x = true then .ok (.bl (getV ks vs x).isSome) else .stuck
  | .str a, .str z => match signIn a z with | some b => .ok (.bl b) | none => .stuck
  | x, .lst xs => if flatD x = true ∧ xs.all flatD = true then .ok (.bl (inD x xs)) else if okD x = true ∧ okD (.lst xs) = true then .ok (.bl (inD x xs)) else .stuck
  | x, .tup xs => if flatD x = true ∧ xs.all flatD = true then .ok (.bl (inD x xs)) else .stuck
  | _, _ => .stuck
def dNotIn : D → D → Out D
  | x, .dct ks vs => if keyOk x = true then .ok (.bl (!(getV ks vs x).isSome)) else .stuck
  | x, .dctT ks vs => if keyTOk x = true then .ok (.bl (!(getV ks vs x).isSome)) else .stuck
  | .str a, .str z => match signIn a z with | some b => .ok (.bl (!b)) | none => .stuck
  | x, .lst xs => if flatD x = true ∧ xs.all flatD = true then .ok (.bl (!inD x xs)) else if okD x = true ∧ okD (.lst xs) = true then .ok (.bl (!inD x xs)) else .stuck
  | x, .tup xs => if flatD x = true ∧ xs.all flatD = true then .ok (.bl (!inD x xs)) else .stuck
  | _, _ => .stuck
def isNon : D → Bool
  | .non => true | _ => false
def dIs : D → D → Out D
  | x, .non => .ok (.bl (isNon x))
  | .bl a, .bl b => .ok (.bl (decide (a = b)))
  | _, _ => .stuck
def dIsNot : D → D → Out D
  | x, .non => .ok (.bl (!isNon x))
  | .bl a, .bl b => .ok (.bl (!decide (a = b)))
  | _, _ => .stuck
/-! ### subscripts, slices -/
def dIx : D → D → Out D
  | .dct ks vs, k => if keyOk k = true then (match getV ks vs k with | some d => .ok d | none => .stuck) else .stuck
  | .dctT ks vs, k => if keyTOk k = true then (match getV ks vs k with | some d => .ok d | none => .stuck) else .stuck
  | .lst xs, .int k => match ixN xs.length k with | some j => (match xs[j]? with | some d => .ok d | none => .stuck) | none => .stuck
  | .tup xs, .int k => match ixN xs.length k with | some j => (match xs[j]? with | some d => .ok d | none => .stuck) | none => .stuck
  | .str z, .int k => if z.length ≤ line then (match ixN z.cps.toList.length k with | some j => (match z.cps.toList[j]? with | some c => .ok (.str ⟨#[c]⟩) | none => .stuck) | none => .stuck) else .stuck
  | _, _ => .stuck
def sIx (n d : Nat) : Option Int → Nat
  | none => d
  | some v => if v < 0 then (v + (n : Int)).toNat else min v.toNat n
def cutL {α : Type} (xs : List α) (lo hi : Option Int) : List α := (xs.drop (sIx xs.length 0 lo)).take (sIx xs.length xs.length hi - sIx xs.length 0 lo)
abbrev CO := Env → Out (Option Int)
def oNo : CO := fun _ => .ok none
def oSome (a : CE) : CO := fun env => (a env).bind fun x => match x with | .int i => .ok (some i) | _ => .stuck
def dSl : D → Option Int → Option Int → Out D
  | .lst xs, lo, hi => .ok (.lst (cutL xs lo hi))
  | .tup xs, lo, hi => .ok (.tup (cutL xs lo hi))
  | .str z, lo, hi => if z.length ≤ line then .ok (.str ⟨(cutL z.cps.toList lo hi).toArray⟩) else .stuck
  | _, _, _ => .stuck
def eSl (a : CE) (lo hi : CO) : CE := fun env => (a env).bind fun x => (lo env).bind fun l => (hi env).bind fun h => dSl x l h
def lSl : D → Option Int → Option Int → Out (List D)
  | .lst xs, lo, hi => .ok (cutL xs lo hi)
  | _, _, _ => .stuck
def fSl (a : CE) (lo hi : CO) : CF := fun env => (a env).bind fun x => (lo env).bind fun l => (hi env).bind fun h => (lSl x l h).bind fun xs => .ok (.lst xs)
def strL : List D → Option (List Str)
  | [] => some []
  | .str x :: r => match strL r with | some ys => some (x :: ys) | none => none
  | _ :: _ => none
def joinS (a : Str) (ys : List Str) : Str := ⟨(ys.drop 1).foldl (fun acc p => acc ++ a.cps ++ p.cps) (ys.headD Str.empty).cps⟩
def joinD (a : Str) (xs : List D) : Out D := match strL xs with
  | some ys => if (ys.map (·.length)).sum + ys.length * a.length ≤ line then .ok (.str (joinS a ys)) else .stuck
  | none => .stuck
def dJoin (a : Str) : D → Out D
  | .lst xs => joinD a xs
  | .tup xs => joinD a xs
  | _ => .stuck
/-- 'a'.join(b) -/
def eJoin (a b : CE) : CE := fun env => (a env).bind fun x => match x with
  | .str s => (b env).bind fun y => dJoin s y
  | _ => .stuck
/-- d[k] = v -/
def sPut (i : Nat) (k v : CE) : CS := fun env => (v env).fl env fun dv => match env[i]? with
  | some (.own (.dct ks vs)) => (k env).fl env fun dk => if keyOk dk = true ∧ ks.length < line then .next (env.set i (.own (.dct (putKs ks dk) (putVs ks vs dk dv)))) else .stuck
  | some (.own (.dctT ks vs)) => (k env).fl env fun dk => if keyTOk dk = true ∧ ks.length < line then .next (env.set i (.own (.dctT (putKs ks dk) (putVs ks vs dk dv)))) else .stuck
  | _ => .stuck
/-- d.pop(k) -/
def sPop (i : Nat) (k : CE) : CS := fun env => match env[i]? with
  | some (.own (.dct ks vs)) => (k env).fl env fun dk => if keyOk dk = true ∧ hasK ks dk = true then .next (env.set i (.own (.dct (dropKs ks dk) (dropVs ks vs dk)))) else .stuck
  | _ => .stuck
def fDct0 : CF := fun _ => .ok (.dct [] [])
def fDctT0 : CF := fun _ => .ok (.dctT [] [])
def dcGo (g : Tg) (t : CT) (k e : CE) : List D → Env → List D → List D → Out Own
  | [], _, ks, vs => .ok (.dct ks vs)
  | d :: ds, env, ks, vs => match g d env with
    | none => .stuck
    | some env1 => (t env1).calm.bind fun c => if c then (k env1).calm.bind fun x => (e env1).calm.bind fun y => (if keyOk x = true ∧ ks.length < line then dcGo g t k e ds env (putKs ks x) (putVs ks vs x y) else .stuck) else dcGo g t k e ds env ks vs
/-- {k: e for g in items if t} -/
def fDC (vs : List Nat) (it : CA) (g : Tg) (t : CT) (k e : CE) : CF := fun env => (it env).bind fun ds => dcGo g t k e ds (wipeE env vs) [] []
def sortI (ns : List Int) : List Int := ns.mergeSort fun a b => decide (a ≤ b)
def dSorted : List D → Out (List D)
  | [.lst xs] => match intL xs with | some ns => .ok ((sortI ns).map .int) | none => .stuck
  | [.dct ks _] => match intL ks with | some ns => if ns.length < 64 then .ok ((sortI ns).map .int) else .stuck | none => .stuck
  | _ => .stuck
/-! ### built-ins -/
def dLen : List D → Out D
  | [.lst xs] => .ok (.int xs.length)
  | [.tup xs] => .ok (.int xs.length)
  | [.str z] => if z.length ≤ line then .ok (.int z.length) else .stuck
  | _ => .stuck
def dInt : List D → Out D
  | [.int i] => .ok (.int i)
  | [.bl b] => .ok (.int (if b then 1 else 0))
  | _ => .stuck
def dAbs : List D → Out D
  | [.int i] => .ok (.int (if i < 0 then -i else i))
  | _ => .stuck
def dMax2 : List D → Out D
  | [.int i, .int j] => .ok (.int (if j > i then j else i))
  | _ => .stuck
def dMin2 : List D → Out D
  | [.int i, .int j] => .ok (.int (if j < i then j else i))
  | _ => .stuck
def dList : List D → Out (List D)
  | [.lst xs] => .ok xs
  | [.tup xs] => .ok xs
  | _ => .stuck
def dTuple : List D → Out D
  | [.lst xs] => .ok (.tup xs)
  | [.tup xs] => .ok (.tup xs)
  | _ => .stuck
def dStr : List D → Out D
  | [.int i] => if i.natAbs < 2 ^ 1900 then .ok (.str (toString i)) else .stuck
  | _ => .stuck
def tyD : D → Option String
  | .non => some "NoneType" | .bl _ => some "bool" | .int _ => some "int" | .str _ => some "str" | .tup _ => some "tuple" | .lst _ => some "list" | _ => none
def subTy (t n : String) : Option Bool :=
  if ["int", "bool", "str", "tuple", "list", "dict"].contains n then some (t == n || (t == "bool" && n == "int")) else none
def dIsi : List D → Out D
  | [x, .ty n] => match tyD x with | some t => (match subTy t n with | some b => .ok (.bl b) | none => .stuck) | none => .stuck
  | _ => .stuck
def dSum : List D → Out D
  | [.lst xs] => match intL xs with | some ns => .ok (.int ns.sum) | none => .stuck
  | _ => .stuck
end M
/-! MMoreD: more that is done, by values. -/
namespace M
open PySem (Str PyData)
/-- what is taken out of a list of our own, what is left -/
abbrev Pop := Env → List D → Out (D × List D)
def pLast : Pop := fun _ xs => match xs.getLast? with
  | some d => .ok (d, xs.dropLast)
  | none => .stuck
def pAt (k : CE) : Pop := fun env xs => if xs.length < line then (k env).bind fun z => match z with
  | .int z => (match ixN xs.length z with
    | some n => (match xs[n]? with
      | some d => .ok (d, xs.eraseIdx n)
      | none => .stuck)
    | none => .stuck)
  | _ => .stuck
  else .stuck
/-- xs.pop(..) -/
def sDropPop (i : Nat) (P : Pop) : CS := fun env => match env[i]? with
  | some (.own (.lst xs)) => (P env xs).fl env fun q => .next (env.set i (.own (.lst q.2)))
  | _ => .stuck
/-- x = xs.pop(..) -/
def sSetPop (x i : Nat) (P : Pop) : CS := fun env => match env[i]? with
  | some (.own (.lst xs)) => (P env xs).fl env fun q => .next ((env.set i (.own (.lst q.2))).set x (.val q.1))
  | _ => .stuck
/-- o.append(xs.pop(..)) -/
def sAppPop (o i : Nat) (P : Pop) : CS := fun env => match env[i]? with
  | some (.own (.lst xs)) => (match env[o]? with
    | some (.own (.lst ys)) => (P env xs).fl env fun q => if o ≠ i ∧ ys.length < line then .next ((env.set i (.own (.lst q.2))).set o (.own (.lst (ys ++ [q.1])))) else .stuck
    | _ => .stuck)
  | _ => .stuck
/-- xs.index(y) -/
def idxD (y : D) : List D → Option Nat
  | [] => none
  | x :: xs => if eqD x y = true then some 0 else (idxD y xs).map (· + 1)
def dIndex : D → D → Out D
  | .lst xs, y => if okD y = true ∧ okD (.lst xs) = true then (match idxD y xs with | some n => .ok (.int n) | none => .stuck) else .stuck
  | _, _ => .stuck
def eIndex (a b : CE) : CE := fun env => (a env).bind fun x => match x with
  | .lst xs => (b env).bind fun y => dIndex (.lst xs) y
  | _ => .stuck
def minI : List Int → Int
  | [] => 0
  | [x] => x
  | x :: xs => let m := minI xs; if x ≤ m then x else m
def maxI : List Int → Int
  | [] => 0
  | [x] => x
  | x :: xs => let m := maxI xs; if m ≤ x then x else m
def dMin1 : List D → Out D
  | [.lst xs] => match intL xs with | some [] => .stuck | some ns => .ok (.int (minI ns)) | none => .stuck
  | _ => .stuck
def dMax1 : List D → Out D
  | [.lst xs] => match intL xs with | some [] => .stuck | some ns => .ok (.int (maxI ns)) | none => .stuck
  | _ => .stuck
def dGcd : List D → Out D
  | [.int a, .int b] => .ok (.int (Nat.gcd a.natAbs b.natAbs : Nat))
  | _ => .stuck
def dLcm : List D → Out D
  | [.int a, .int b] => if a.natAbs < 2 ^ 64 ∧ b.natAbs < 2 ^ 64 then .ok (.int (Nat.lcm a.natAbs b.natAbs : Nat)) else .stuck
  | _ => .stuck
/-- lo, lo + c, .. -/
def rangeC (lo c : Int) (n : Nat) : List D := (List.range n).map fun i => .int (lo + (i : Nat) * c)
/-- range(i, j, -1) -/
def dRange3 : List D → Out (List D)
  | [.int i, .int j, .int c] => if c = -1 ∧ smallI i ∧ smallI j then .ok (rangeC i (-1) (i - j).toNat) else .stuck
  | _ => .stuck
def dListRg : D → D → Out (List D)
  | .int i, .int j => if smallI i ∧ smallI j ∧ j - i ≤ 1000000 then .ok (rangeL i j) else .stuck
  | _, _ => .stuck
def dTupRg : D → D → Out D
  | .int i, .int j => if smallI i ∧ smallI j ∧ j - i ≤ 1000000 then .ok (.tup (rangeL i j)) else .stuck
  | _, _ => .stuck
theorem minI_mem : ∀ {ns : List Int}, ns ≠ [] → minI ns ∈ ns ∧ ∀ y ∈ ns, minI ns ≤ y
  | [], h => absurd rfl h
  | [x], _ => ⟨by simp [minI], fun y hy => by rw [List.mem_singleton.mp hy]; exact Int.le_refl _⟩
  | x :: z :: r, _ => by
    obtain ⟨h1, h2⟩ := minI_mem (ns := z :: r) (by simp)
    have e : minI (x :: z :: r) = if x ≤ minI (z :: r) then x else minI (z :: r) := rfl
    rw [e]
    by_cases h : x ≤ minI (z :: r)
    · rw [if_pos h]
      refine ⟨List.mem_cons_self, fun y hy => ?_⟩
      rcases List.mem_cons.mp hy with q | q
      · rw [q]; exact Int.le_refl _
      · have := h2 y q; omega
    · rw [if_neg h]
      refine ⟨List.mem_cons_of_mem _ h1, fun y hy => ?_⟩
      rcases List.mem_cons.mp hy with q | q
      · rw [q]; omega
      · exact h2 y q
theorem maxI_mem : ∀ {ns : List Int}, ns ≠ [] → maxI ns ∈ ns ∧ ∀ y ∈ ns, y ≤ maxI ns
  | [], h => absurd rfl h
  | [x], _ => ⟨by simp [maxI], fun y hy => by rw [List.mem_singleton.mp hy]; exact Int.le_refl _⟩
  | x :: z :: r, _ => by
    obtain ⟨h1, h2⟩ := maxI_mem (ns := z :: r) (by simp)
    have e : maxI (x :: z :: r) = if maxI (z :: r) ≤ x then x else maxI (z :: r) := rfl
    rw [e]
    by_cases h : maxI (z :: r) ≤ x
    · rw [if_pos h]
      refine ⟨List.mem_cons_self, fun y hy => ?_⟩
      rcases List.mem_cons.mp hy with q | q
      · rw [q]; exact Int.le_refl _
      · have := h2 y q; omega
    · rw [if_neg h]
      refine ⟨List.mem_cons_of_mem _ h1, fun y hy => ?_⟩
      rcases List.mem_cons.mp hy with q | q
      · rw [q]; omega
      · exact h2 y q
end M
/-! MOps: the operators and built-ins are as MOpsD says. -/
namespace M
open PySem PySem.Spec PyProof.Rows L2
section
variable {K : PySem.W.Frag} {ca : Nat → Addr} {Hf H : Hp} {d : D} {v : V}
theorem pInt {i : Int} (h : PRep K ca Hf H (.int i) v) : v = .int i := h
theorem pBl {i : Bool} (h : PRep K ca Hf H (.bl i) v) : v = .bl i := h
theorem pNon (h : PRep K ca Hf H .non v) : v = .non := h
theorem pStr {i : Str} (h : PRep K ca Hf H (.str i) v) : v = .str i := h
theorem pTup {xs : List D} (s : Same Hf H) (h : PRep K ca Hf H (.tup xs) v) : ∃ a vs, v = .ref a ∧ SqT K H a vs ∧ RepL K ca Hf xs vs := by
  have h : Rep K ca Hf (.tup xs) v := h
  unfold Rep at h
  obtain ⟨a, vs, e, h1, h2⟩ := h
  exact ⟨a, vs, e, Same.seqT s h1.1, h2⟩
theorem pLst {xs : List D} (h : PRep K ca Hf H (.lst xs) v) : ∃ a vs, v = .ref a ∧ SqL K H a vs ∧ RepL K ca Hf xs vs := h
theorem rTup {xs : List D} {vs : List V} {a : Addr} (h1 : Hf a = some (.tup vs)) (h2 : RepL K ca Hf xs vs) : Rep K ca Hf (.tup xs) (.ref a) := by
  unfold Rep; exact ⟨a, vs, rfl, ⟨.inl (.inl h1), fun _ => h1⟩, h2⟩
theorem rLst {xs : List D} {vs : List V} {a : Addr} (h1 : SqL K Hf a vs) (h2 : RepL K ca Hf xs vs) : Rep K ca Hf (.lst xs) (.ref a) := by
  unfold Rep; exact ⟨a, vs, rfl, h1, h2⟩
theorem repL_nil {vs : List V} (h : RepL K ca H [] vs) : vs = [] := by unfold RepL at h; exact h
theorem RepL.flatten {ds : List D} {vs : List V} (h : RepL K ca H ds vs) : ∀ k : Nat, RepL K ca H (List.replicate k ds).flatten (List.replicate k vs).flatten
  | 0 => by simp; unfold RepL; rfl
  | k + 1 => by
    rw [List.replicate_succ, List.replicate_succ, List.flatten_cons, List.flatten_cons]
    exact RepL.append h (RepL.flatten h k)
theorem RepL.drop : ∀ {ds : List D} {vs : List V} (k : Nat), RepL K ca H ds vs → RepL K ca H (ds.drop k) (vs.drop k)
  | ds, vs, 0, h => by simpa using h
  | [], vs, k + 1, h => by rw [repL_nil h]; simp; unfold RepL; rfl
  | x :: xs, vs, k + 1, h => by
    obtain ⟨v, r, e, h1, h2⟩ := repL_cons h
    subst e
    exact RepL.drop k h2
theorem RepL.take : ∀ {ds : List D} {vs : List V} (k : Nat), RepL K ca H ds vs → RepL K ca H (ds.take k) (vs.take k)
  | ds, vs, 0, h => by simp; unfold RepL; rfl
  | [], vs, k + 1, h => by rw [repL_nil h]; simp; unfold RepL; rfl
  | x :: xs, vs, k + 1, h => by
    obtain ⟨v, r, e, h1, h2⟩ := repL_cons h
    subst e
    show RepL K ca H (x :: xs.take k) _
    unfold RepL
    exact ⟨v, r.take k, rfl, h1, RepL.take k h2⟩
/-- a new shared tuple, list -/
theorem newT {xs : List D} {vs : List V} {p : Addr} (s : Same Hf H) (hp : H p = none) (h : RepL K ca Hf xs vs) : ∃ Hf', Post Hf H Hf' (L2.upd H p (.tup vs)) ∧ Rep K ca Hf' (.tup xs) (.ref p) :=
  have z := post_new (o := .tup vs) s hp
  ⟨_, z, rTup upd_same (RepL.mono z.sh _ _ h)⟩
theorem newL {xs : List D} {vs : List V} {p : Addr} (s : Same Hf H) (hp : H p = none) (h : RepL K ca Hf xs vs) : ∃ Hf', Post Hf H Hf' (L2.upd H p (.lst vs)) ∧ Rep K ca Hf' (.lst xs) (.ref p) :=
  have z := post_new (o := .lst vs) s hp
  ⟨_, z, rLst (.inl (.inl upd_same)) (RepL.mono z.sh _ _ h)⟩
end
section
variable {X : Cx} {ca : Nat → Addr}
theorem OutP.newT {K : PySem.W.Frag} {W : WX} {σ : L2.St} {Hf H : Hp} {xs : List D} {vs : List V} {Q : VK} (m : OutP K ca W σ Hf H (.ok (.tup xs)) (fun d Hf' H' => ∀ v, Rep K ca Hf' d v → Q v H')) (s : Same Hf H) (h : RepL K ca Hf xs vs) (p : Addr) (hp : H p = none) : Q (.ref p) (L2.upd H p (.tup vs)) := by
  obtain ⟨Hf', z, r⟩ := M.newT s hp h
  exact m _ _ z _ r
theorem OutP.newL {K : PySem.W.Frag} {W : WX} {σ : L2.St} {Hf H : Hp} {xs : List D} {vs : List V} {Q : VK} (m : OutP K ca W σ Hf H (.ok (.lst xs)) (fun d Hf' H' => ∀ v, Rep K ca Hf' d v → Q v H')) (s : Same Hf H) (h : RepL K ca Hf xs vs) (p : Addr) (hp : H p = none) : Q (.ref p) (L2.upd H p (.lst vs)) := by
  obtain ⟨Hf', z, r⟩ := M.newL s hp h
  exact m _ _ z _ r
theorem OutP.rep {K : PySem.W.Frag} {W : WX} {σ : L2.St} {Hf H : Hp} {d : D} {v : V} {Q : VK} (m : OutP K ca W σ Hf H (.ok d) (fun d Hf' H' => ∀ v, Rep K ca Hf' d v → Q v H')) (s : Same Hf H) (h : Rep K ca Hf d v) : Q v H := OutP.ok m s v h

/-! ### + on lists that are read -/
def rCatL (K : PySem.W.Frag) : R2 := fun x y H Q => ∃ l b xs zs, x = .ref l ∧ y = .ref b ∧ SqL K H l xs ∧ SqL K H b zs ∧ xs.length + zs.length ≤ sizeLine ∧ ∀ p, H p = none → Q (.ref p) (L2.upd H p (.lst (xs ++ zs)))
theorem op_catL : OpR X (binaryOp .Add) (rCatL X.K) := by
  intro pins s σ H x y v u Q I rx ry h
  obtain ⟨l, b, xs, ys, rfl, rfl, h1, h2, hz, q⟩ := h
  cases rx
  cases ry
  obtain ⟨us, r, ⟨⟨cl, dd, da, sl⟩, n, e, c1, c2, c3⟩, _⟩ := I.list h1
  obtain ⟨ws, r2, ⟨⟨cl', dd', da', sl'⟩, n', e', c1', c2', c3'⟩, _⟩ := I.list h2
  simp only at c1 c2 c3 c1' c2' c3'
  subst c1 c2 c3 c1' c2' c3'
  have k1 := r.length
  have k2 := r2.length
  have ea : us.toArray ++ ws.toArray = (us ++ ws).toArray := by simp
  refine concat_meets ⟨_, e, rfl⟩ ⟨_, e', rfl⟩ noFill_list_add seq_list_add PySem.F.slot_list_add PySem.F.entry_list_add (PySem.F.args_list_add_2 _ _) (list_addW l b us.toArray ws.toArray n n' none none sl sl' (by simpa using (by omega : us.length + ws.length ≤ sizeLine))) ⟨e, e', ?_⟩
  rw [ea]
  exact ⟨.ref s.heap.objs.size, _, I.lnew (t' := s.toks) (r.append r2) (by rw [List.length_append]; omega), rfl, q _ I.fresh⟩
theorem op2_add : Op2 X ca (binaryOp .Add) dAdd := by
  refine ⟨_, ((op_add.or op_add_str).or op_catA).or op_catL, fun W σ Hf H x y v u Q s h1 h2 m => ?_⟩
  unfold dAdd at m
  split at m
  · rw [pInt h1, pInt h2]; exact .inl (.inl (.inl ⟨_, _, rfl, rfl, m.rep s rfl⟩))
  · split at m
    · rename_i hz
      rw [pStr h1, pStr h2]; exact .inl (.inl (.inr ⟨_, _, rfl, rfl, by rw [← line_eq]; exact hz, m.rep s rfl⟩))
    · exact m.no.elim
  · split at m
    · rename_i hz
      obtain ⟨a, vs, rfl, a1, a2⟩ := pTup s h1
      obtain ⟨b, us, rfl, b1, b2⟩ := pTup s h2
      refine .inl (.inr ⟨a, b, vs, us, rfl, rfl, a1, b1, by rw [← a2.length, ← b2.length, ← line_eq]; exact hz, fun e => ?_, fun _ e => ?_, fun _ _ p hp => m.newT s (RepL.append a2 b2) p hp⟩)
      · subst e
        have : _ = [] := List.length_eq_zero_iff.mp a2.length
        subst this
        exact m.rep s h2
      · subst e
        have : _ = [] := List.length_eq_zero_iff.mp b2.length
        subst this
        rw [List.append_nil] at m
        exact m.rep s h1
    · exact m.no.elim
  · split at m
    · rename_i hz
      obtain ⟨a, vs, rfl, a1, a2⟩ := pLst h1
      obtain ⟨b, us, rfl, b1, b2⟩ := pLst h2
      exact .inr ⟨a, b, vs, us, rfl, rfl, a1, b1, by rw [← a2.length, ← b2.length, ← line_eq]; exact hz, fun p hp => m.newL s (RepL.append a2 b2) p hp⟩
    · exact m.no.elim
  · exact m.no.elim
theorem op2_sub : Op2 X ca (binaryOp .Sub) dSub := by
  refine ⟨_, op_sub, fun W σ Hf H x y v u Q s h1 h2 m => ?_⟩
  unfold dSub at m
  split at m
  · rw [pInt h1, pInt h2]; exact ⟨_, _, rfl, rfl, m.rep s rfl⟩
  · exact m.no.elim
theorem op_mul_str : OpR X (binaryOp .Mult) (fun x y H Q => ∃ a n, x = .str a ∧ y = .int n ∧ (-1000 ≤ n ∧ n ≤ 1000 ∧ a.length ≤ 1000) ∧ Q (.str (repS a n)) H) := by
  intro pins s σ H x y v u Q I rx ry h
  obtain ⟨a, n, rfl, rfl, ⟨n0, n1, al⟩, q⟩ := h
  obtain ⟨t, rfl⟩ := rx
  obtain ⟨t', rfl⟩ := ry
  have nl : ∀ h1 : ¬ n < 1, a.length * n.toNat ≤ 1000 * 1000 := fun h1 => Nat.mul_le_mul al (by omega)
  refine PySem.P.mul_str (by
      have h1 : ¬ n < -(2 ^ 63 : Int) := by omega
      have h2 : ¬ n ≥ 2 ^ 63 := by omega
      rw [decide_eq_false h1, decide_eq_false h2]; rfl) (fun h1 _ => ?_) (fun h1 _ => ?_) ?_
  · have h3 : (1000 : Int) * n ≤ 2 ^ 63 - 1 := by omega
    have h4 := Int.le_ediv_of_mul_le (by omega : 0 < n) h3
    omega
  · have := nl h1
    show decide (_ > PySem.sizeLine) = false
    exact decide_eq_false (by show ¬ _ > 16777216; omega)
  · unfold repS at q
    by_cases h1 : n < 1
    · rw [if_pos h1] at q ⊢
      exact ⟨by decide, .str Str.empty, H, I.tok _, ⟨_, rfl⟩, q⟩
    · rw [if_neg h1] at q ⊢
      by_cases h2 : (n == 1 || a.length == 0) = true
      · rw [if_pos h2] at q ⊢
        exact ⟨.str a, H, I, ⟨_, rfl⟩, q⟩
      · rw [if_neg h2] at q ⊢
        refine ⟨?_, .str _, H, I.tok _, ⟨_, rfl⟩, q⟩
        have e : ∀ (k : Nat) (z : Array Nat), ((List.replicate k a.cps).foldl (· ++ ·) z).size = z.size + k * a.cps.size := by
          intro k
          induction k with
          | zero => intro z; simp
          | succ k ih => intro z; rw [List.replicate_succ, List.foldl_cons, ih, Array.size_append, Nat.succ_mul]; omega
        show ((List.replicate n.toNat a.cps).foldl (· ++ ·) #[]).size ≤ 16777216
        rw [e, Nat.mul_comm]
        have := nl h1
        have z : a.cps.size = a.length := rfl
        rw [z]
        simp
        omega
theorem op2_mul : Op2 X ca (binaryOp .Mult) dMul := by
  refine ⟨_, (op_mul.or op_repT).or op_mul_str, fun W σ Hf H x y v u Q s h1 h2 m => ?_⟩
  unfold dMul at m
  split at m
  · split at m
    · rename_i hz
      rw [pInt h1, pInt h2]; exact .inl (.inl ⟨_, _, rfl, rfl, hz, m.rep s rfl⟩)
    · exact m.no.elim
  · split at m
    · rename_i hz
      rw [pStr h1, pInt h2]; exact .inr ⟨_, _, rfl, rfl, hz, m.rep s rfl⟩
    · exact m.no.elim
  · split at m
    · rename_i hz
      obtain ⟨a, vs, rfl, a1, a2⟩ := pTup s h1
      have hl := a2.length
      rw [pInt h2]
      refine .inl (.inr ⟨a, _, vs, rfl, rfl, a1, fun e => hz.1 (List.length_eq_zero_iff.mp (by rw [hl, e]; rfl)), hz.2.1, hz.2.2.1, by rw [← hl]; exact hz.2.2.2, fun p hp => m.newT s (RepL.flatten a2 _) p hp⟩)
    · exact m.no.elim
  · exact m.no.elim
theorem op2_fdiv : Op2 X ca (binaryOp .FloorDiv) dFdiv := by
  refine ⟨_, op_fdivW, fun W σ Hf H x y v u Q s h1 h2 m => ?_⟩
  unfold dFdiv at m
  split at m
  · split at m
    · rename_i hz
      rw [pInt h1, pInt h2]; exact ⟨_, _, rfl, rfl, hz, m.rep s rfl⟩
    · exact m.no.elim
  · exact m.no.elim
theorem op2_mod : Op2 X ca (binaryOp .Mod) dMod := by
  refine ⟨_, op_modN, fun W σ Hf H x y v u Q s h1 h2 m => ?_⟩
  unfold dMod at m
  split at m
  · split at m
    · rename_i hz
      rw [pInt h1, pInt h2]; exact ⟨_, _, rfl, rfl, hz, m.rep s rfl⟩
    · exact m.no.elim
  · exact m.no.elim
theorem op2_pow : Op2 X ca (binaryOp .Pow) dPow := by
  refine ⟨_, op_pow, fun W σ Hf H x y v u Q s h1 h2 m => ?_⟩
  unfold dPow at m
  split at m
  · split at m
    · rename_i hz
      rw [pInt h1, pInt h2]; exact ⟨_, _, rfl, rfl, hz, m.rep s rfl⟩
    · exact m.no.elim
  · exact m.no.elim
/-! ### comparisons -/
theorem intL_ok {K : PySem.W.Frag} {Hf : Hp} : ∀ {xs : List D} {vs : List V} {ns : List Int}, intL xs = some ns → RepL K ca Hf xs vs → vs = ns.map V.int
  | [], vs, ns, h, r => by cases h; rw [repL_nil r]; rfl
  | d :: xs, vs, ns, h, r => by
    unfold intL at h
    split at h
    · rename_i i ms q
      cases h
      obtain ⟨v, vs', e, h1, h2⟩ := repL_cons r
      have h1 : v = .int i := h1
      rw [e, h1, intL_ok q h2]
      rfl
    · cases h
theorem ltI_eq : ∀ (xs ys : List Int), ltI xs ys = HT.lexLt xs ys
  | [], [] => rfl
  | [], _ :: _ => rfl
  | _ :: _, [] => rfl
  | x :: xs, y :: ys => by rw [HT.lexLt_cons, ← ltI_eq xs ys]; rfl
theorem op2_lt (hu : X.A.units < cLine) : Op2 X ca (compareOp .Lt) dLt := by
  refine ⟨_, (op_lt.or op_lt_str).or (op_ltT hu), fun W σ Hf H x y v u Q s h1 h2 m => ?_⟩
  unfold dLt at m
  split at m
  · rw [pInt h1, pInt h2]; exact .inl (.inl ⟨_, _, rfl, rfl, m.rep s rfl⟩)
  · rw [pStr h1, pStr h2]; exact .inl (.inr ⟨_, _, rfl, rfl, m.rep s rfl⟩)
  · split at m
    · rename_i ns ms hn hm
      obtain ⟨a, vs, rfl, a1, a2⟩ := pTup s h1
      obtain ⟨c, us, rfl, b1, b2⟩ := pTup s h2
      rw [intL_ok hn a2] at a1
      rw [intL_ok hm b2] at b1
      exact .inr ⟨a, c, ns, ms, rfl, rfl, a1, b1, by rw [← ltI_eq]; exact m.rep s rfl⟩
    · exact m.no.elim
  · exact m.no.elim
theorem op2_le : Op2 X ca (compareOp .LtE) dLe := by
  refine ⟨_, op_le.or op_le_str, fun W σ Hf H x y v u Q s h1 h2 m => ?_⟩
  unfold dLe at m
  split at m
  · rw [pInt h1, pInt h2]; exact .inl ⟨_, _, rfl, rfl, m.rep s rfl⟩
  · rw [pStr h1, pStr h2]; exact .inr ⟨_, _, rfl, rfl, m.rep s rfl⟩
  · exact m.no.elim
theorem op2_gt : Op2 X ca (compareOp .Gt) dGt := by
  refine ⟨_, op_gt.or op_gt_str, fun W σ Hf H x y v u Q s h1 h2 m => ?_⟩
  unfold dGt at m
  split at m
  · rw [pInt h1, pInt h2]; exact .inl ⟨_, _, rfl, rfl, m.rep s rfl⟩
  · rw [pStr h1, pStr h2]; exact .inr ⟨_, _, rfl, rfl, m.rep s rfl⟩
  · exact m.no.elim
theorem op2_ge : Op2 X ca (compareOp .GtE) dGe := by
  refine ⟨_, op_ge.or op_ge_str, fun W σ Hf H x y v u Q s h1 h2 m => ?_⟩
  unfold dGe at m
  split at m
  · rw [pInt h1, pInt h2]; exact .inl ⟨_, _, rfl, rfl, m.rep s rfl⟩
  · rw [pStr h1, pStr h2]; exact .inr ⟨_, _, rfl, rfl, m.rep s rfl⟩
  · exact m.no.elim
end
end M
/-! MOps2: ==, in, is, subscripts, slices, built-ins. -/
namespace M
open PySem PySem.Spec PyProof.Rows L2
mutual
def toPy : D → PyData
  | .non => .none
  | .bl b => .bool b
  | .int i => .int i
  | .str x => .str x
  | .lst xs => .list (toPys xs)
  | .tup xs => .tuple (toPys xs)
  | .ty _ => .none
  | .cls _ => .none
  | .dct _ _ => .none
  | .dctT _ _ => .none
def toPys : List D → List PyData
  | [] => []
  | x :: xs => toPy x :: toPys xs
end
mutual
theorem eqv_toPy : ∀ (x y : D) (n m : Nat), okN n x = true → okN m y = true → PyData.eqv (toPy x) (toPy y) = eqD x y
  | .lst xs, .lst ys, n, m, h1, h2 => by
    cases n with
    | zero => cases h1
    | succ n =>
      cases m with
      | zero => cases h2
      | succ m =>
        show PyData.eqvAll (toPys xs) (toPys ys) = eqDs xs ys
        exact eqvs_toPy xs ys n m h1 h2
  | .tup xs, .tup ys, n, m, h1, h2 => by
    cases n with
    | zero => cases h1
    | succ n =>
      cases m with
      | zero => cases h2
      | succ m =>
        show PyData.eqvAll (toPys xs) (toPys ys) = eqDs xs ys
        exact eqvs_toPy xs ys n m h1 h2
  | .ty _, _, n, m, h1, h2 => by cases n <;> cases h1
  | .cls _, _, n, m, h1, h2 => by cases n <;> cases h1
  | .dct _ _, _, n, m, h1, h2 => by cases n <;> cases h1
  | _, .dct _ _, n, m, h1, h2 => by cases m <;> cases h2
  | .dctT _ _, _, n, m, h1, h2 => by cases n <;> cases h1
  | _, .dctT _ _, n, m, h1, h2 => by cases m <;> cases h2
  | _, .ty _, n, m, h1, h2 => by cases m <;> cases h2
  | _, .cls _, n, m, h1, h2 => by cases m <;> cases h2
  | .non, .non, _, _, _, _ => rfl
  | .non, .bl _, _, _, _, _ => rfl
  | .non, .int _, _, _, _, _ => rfl
  | .non, .str _, _, _, _, _ => rfl
  | .non, .lst _, _, _, _, _ => rfl
  | .non, .tup _, _, _, _, _ => rfl
  | .bl _, .non, _, _, _, _ => rfl
  | .bl _, .bl _, _, _, _, _ => rfl
  | .bl _, .int _, _, _, _, _ => rfl
  | .bl _, .str _, _, _, _, _ => rfl
  | .bl _, .lst _, _, _, _, _ => rfl
  | .bl _, .tup _, _, _, _, _ => rfl
  | .int _, .non, _, _, _, _ => rfl
  | .int _, .bl _, _, _, _, _ => rfl
  | .int _, .int _, _, _, _, _ => rfl
  | .int _, .str _, _, _, _, _ => rfl
  | .int _, .lst _, _, _, _, _ => rfl
  | .int _, .tup _, _, _, _, _ => rfl
  | .str _, .non, _, _, _, _ => rfl
  | .str _, .bl _, _, _, _, _ => rfl
  | .str _, .int _, _, _, _, _ => rfl
  | .str _, .str _, _, _, _, _ => rfl
  | .str _, .lst _, _, _, _, _ => rfl
  | .str _, .tup _, _, _, _, _ => rfl
  | .lst _, .non, _, _, _, _ => rfl
  | .lst _, .bl _, _, _, _, _ => rfl
  | .lst _, .int _, _, _, _, _ => rfl
  | .lst _, .str _, _, _, _, _ => rfl
  | .lst _, .tup _, _, _, _, _ => rfl
  | .tup _, .non, _, _, _, _ => rfl
  | .tup _, .bl _, _, _, _, _ => rfl
  | .tup _, .int _, _, _, _, _ => rfl
  | .tup _, .str _, _, _, _, _ => rfl
  | .tup _, .lst _, _, _, _, _ => rfl
theorem eqvs_toPy : ∀ (xs ys : List D) (n m : Nat), okNs n xs = true → okNs m ys = true → PyData.eqvAll (toPys xs) (toPys ys) = eqDs xs ys
  | [], [], _, _, _, _ => rfl
  | [], _ :: _, _, _, _, _ => rfl
  | _ :: _, [], _, _, _, _ => rfl
  | x :: xs, y :: ys, n, m, h1, h2 => by
    unfold okNs at h1 h2
    rw [Bool.and_eq_true] at h1 h2
    show (PyData.eqv (toPy x) (toPy y) && PyData.eqvAll (toPys xs) (toPys ys)) = (eqD x y && eqDs xs ys)
    rw [eqv_toPy x y n m h1.1 h2.1, eqvs_toPy xs ys n m h1.2 h2.2]
end
mutual
theorem lay_toPy : ∀ (x : D) (n : Nat), okN n x = true → (toPy x).canLay0 = true ∧ (toPy x).depth ≤ n
  | .lst xs, n, h1 => by
    cases n with
    | zero => cases h1
    | succ n =>
      obtain ⟨a, b⟩ := lays_toPy xs n h1
      exact ⟨a, Nat.succ_le_succ b⟩
  | .tup xs, n, h1 => by
    cases n with
    | zero => cases h1
    | succ n =>
      obtain ⟨a, b⟩ := lays_toPy xs n h1
      exact ⟨a, Nat.succ_le_succ b⟩
  | .ty _, n, h1 => by cases n <;> cases h1
  | .cls _, n, h1 => by cases n <;> cases h1
  | .non, n, h => ⟨rfl, Nat.zero_le _⟩
  | .bl _, n, h => ⟨rfl, Nat.zero_le _⟩
  | .int _, n, h => ⟨rfl, Nat.zero_le _⟩
  | .str x, n, h => ⟨by cases n <;> exact h, Nat.zero_le _⟩
theorem lays_toPy : ∀ (xs : List D) (n : Nat), okNs n xs = true → PyData.canLayAll0 (toPys xs) = true ∧ PyData.depthAll (toPys xs) ≤ n
  | [], n, h => ⟨rfl, Nat.zero_le _⟩
  | x :: xs, n, h1 => by
    unfold okNs at h1
    rw [Bool.and_eq_true] at h1
    obtain ⟨a, b⟩ := lay_toPy x n h1.1
    obtain ⟨c, d⟩ := lays_toPy xs n h1.2
    exact ⟨Bool.and_eq_true_iff.mpr ⟨a, c⟩, Nat.max_le.mpr ⟨b, d⟩⟩
end
theorem shaped_toPy {x : D} (h : okD x = true) : SeqAt.shaped (toPy x) = true := by
  obtain ⟨a, b⟩ := lay_toPy x 64 h
  exact Bool.and_eq_true_iff.mpr ⟨a, decide_eq_true b⟩
section
variable {K : PySem.W.Frag} {ca : Nat → Addr} {Hf H : Hp}
mutual
theorem dp_of : ∀ (x : D) (v : V) (n : Nat), okN n x = true → Rep K ca H x v → Dp K H v (toPy x)
  | .lst xs, v, n, h1, r => by
    cases n with
    | zero => cases h1
    | succ n =>
      unfold Rep at r
      obtain ⟨a, vs, e, r1, r2⟩ := r
      subst e
      exact .lst r1 (dps_of xs vs n h1 r2)
  | .tup xs, v, n, h1, r => by
    cases n with
    | zero => cases h1
    | succ n =>
      unfold Rep at r
      obtain ⟨a, vs, e, r1, r2⟩ := r
      subst e
      exact .tup r1.1 (dps_of xs vs n h1 r2)
  | .ty _, v, n, h1, r => by cases n <;> cases h1
  | .cls _, v, n, h1, r => by cases n <;> cases h1
  | .non, v, n, h, r => by have r : v = .non := r; subst r; exact .non
  | .bl b, v, n, h, r => by have r : v = .bl b := r; subst r; exact .bl b
  | .int b, v, n, h, r => by have r : v = .int b := r; subst r; exact .int b
  | .str b, v, n, h, r => by have r : v = .str b := r; subst r; exact .str b
theorem dps_of : ∀ (xs : List D) (vs : List V) (n : Nat), okNs n xs = true → RepL K ca H xs vs → DpAll K H vs (toPys xs)
  | [], vs, n, h, r => by rw [repL_nil r]; exact .nil
  | x :: xs, vs, n, h1, r => by
    unfold okNs at h1
    rw [Bool.and_eq_true] at h1
    obtain ⟨v, vs', e, r1, r2⟩ := repL_cons r
    subst e
    exact .cons (dp_of x v n h1.1 r1) (dps_of xs vs' n h1.2 r2)
end
/-! ### flat things -/
theorem flat_of {d : D} {v : V} (f : flatD d = true) (r : Rep K ca H d v) : flatV v = true := by
  cases d <;> first | cases f | skip
  all_goals (have r := r; unfold Rep at r; subst r; rfl)
theorem eqV_of {x y : D} {u v : V} (fx : flatD x = true) (fy : flatD y = true) (r1 : Rep K ca H x u) (r2 : Rep K ca H y v) : eqV u v = eqD x y := by
  cases x <;> first | cases fx | skip
  all_goals (cases y <;> first | cases fy | skip)
  all_goals (unfold Rep at r1 r2; subst r1; subst r2; rfl)
theorem flats_of : ∀ {xs : List D} {vs : List V}, xs.all flatD = true → RepL K ca H xs vs → vs.all flatV = true
  | [], vs, _, r => by rw [repL_nil r]; rfl
  | x :: xs, vs, f, r => by
    obtain ⟨v, vs', e, r1, r2⟩ := repL_cons r
    subst e
    rw [List.all_cons, Bool.and_eq_true] at f ⊢
    exact ⟨flat_of f.1 r1, flats_of f.2 r2⟩
theorem inV_of {x : D} {u : V} (fx : flatD x = true) (rx : Rep K ca H x u) : ∀ {xs : List D} {vs : List V}, xs.all flatD = true → RepL K ca H xs vs → inV u vs = inD x xs
  | [], vs, _, r => by rw [repL_nil r]; rfl
  | y :: xs, vs, f, r => by
    obtain ⟨v, vs', e, r1, r2⟩ := repL_cons r
    subst e
    rw [List.all_cons, Bool.and_eq_true] at f
    show (eqV v u || inV u vs') = (eqD y x || inD x xs)
    rw [eqV_of f.1 fx r1 rx, inV_of fx rx f.2 r2]
end
section
variable {X : Cx} {ca : Nat → Addr}
theorem op2_eq (hu : X.A.units + 80 < cLine) : Op2 X ca (compareOp .Eq) dEq := by
  refine ⟨_, op_eqD (by omega), fun W σ Hf H x y v u Q s h1 h2 m => ?_⟩
  unfold dEq at m
  split at m
  · rename_i ok
    exact ⟨_, _, dp_of x v 64 ok.1 (h1.rep s), dp_of y u 64 ok.2 (h2.rep s), shaped_toPy ok.1, shaped_toPy ok.2, by rw [eqv_toPy x y 64 64 ok.1 ok.2]; exact m.rep s rfl⟩
  · exact m.no.elim
theorem op2_ne (hu : X.A.units + 80 < cLine) : Op2 X ca (compareOp .NotEq) dNe := by
  refine ⟨_, op_neD (by omega), fun W σ Hf H x y v u Q s h1 h2 m => ?_⟩
  unfold dNe at m
  split at m
  · rename_i ok
    exact ⟨_, _, dp_of x v 64 ok.1 (h1.rep s), dp_of y u 64 ok.2 (h2.rep s), shaped_toPy ok.1, shaped_toPy ok.2, by rw [eqv_toPy x y 64 64 ok.1 ok.2]; exact m.rep s rfl⟩
  · exact m.no.elim
/-! ### dicts -/
theorem keyD_eq (a b : L2.Key) : eqD (keyD a) (keyD b) = decide (a = b) := by
  cases a with
  | inl i =>
    cases b with
    | inl j => show (i == j) = _; by_cases h : i = j <;> simp [h]
    | inr y => show false = _; simp
  | inr x =>
    cases b with
    | inl j => show false = _; simp
    | inr y => show (x == y) = _; by_cases h : x = y <;> simp [h]
theorem keyOk_is {k : D} (h : keyOk k = true) : ∃ a : L2.Key, k = keyD a := by
  cases k with
  | int i => exact ⟨.inl i, rfl⟩
  | str x => exact ⟨.inr x, rfl⟩
  | _ => cases h
theorem key_v {K : PySem.W.Frag} {H : Hp} {a : L2.Key} {v : V} (h : Rep K ca H (keyD a) v) : v = L2.kV a := by
  cases a with
  | inl i => exact h
  | inr x => exact h
theorem key_p {K : PySem.W.Frag} {Hf H : Hp} {a : L2.Key} {v : V} (h : PRep K ca Hf H (keyD a) v) : v = L2.kV a := by
  cases a with
  | inl i => exact h
  | inr x => exact h
theorem get_rep {K : PySem.W.Frag} {H : Hp} (a : L2.Key) : ∀ {kvs : List (L2.Key × V)} {vs : List D}, RepL K ca H vs (kvs.map (·.2)) →
    (∀ d, getV (kvs.map fun p => keyD p.1) vs (keyD a) = some d → ∃ v, valV kvs a = some v ∧ Rep K ca H d v) ∧ (getV (kvs.map fun p => keyD p.1) vs (keyD a)).isSome = (valV kvs a).isSome
  | [], vs, _ => ⟨fun d h => (by cases vs <;> cases h), (by cases vs <;> rfl)⟩
  | p :: kvs, vs, h => by
    cases vs with
    | nil => unfold RepL at h; cases h
    | cons x vs =>
      unfold RepL at h
      obtain ⟨v, r, e, h1, h2⟩ := h
      rw [List.map_cons] at e
      injection e with e1 e2
      subst e1; subst e2
      obtain ⟨i1, i2⟩ := get_rep a h2
      rw [List.map_cons, getV, keyD_eq]
      by_cases q : p.1 = a
      · rw [valV_pos q]
        simp only [q, decide_true, if_true]
        exact ⟨fun d hd => by cases hd; exact ⟨_, rfl, h1⟩, rfl⟩
      · rw [valV_neg q]
        simp only [q, decide_false, Bool.false_eq_true, if_false]
        exact ⟨i1, i2⟩
theorem has_any (a : L2.Key) (kvs : List (L2.Key × V)) : hasK (kvs.map fun p => keyD p.1) (keyD a) = kvs.any fun p => decide (p.1 = a) := by
  unfold hasK
  rw [List.any_map]
  congr 1
  funext p
  exact keyD_eq _ _
theorem put_ks (a : L2.Key) (v : V) (kvs : List (L2.Key × V)) : putKs (kvs.map fun p => keyD p.1) (keyD a) = (putK kvs a v).map fun p => keyD p.1 := by
  unfold putKs putK
  rw [has_any]
  by_cases h : (kvs.any fun p => decide (p.1 = a)) = true
  · rw [if_pos h, if_pos h, List.map_map]
    refine List.map_congr_left fun p _ => ?_
    show keyD p.1 = keyD (if p.1 = a then (p.1, v) else p).1
    split <;> rfl
  · rw [if_neg h, if_neg h, List.map_append]; rfl
theorem set_rep {K : PySem.W.Frag} {H : Hp} (a : L2.Key) {d : D} {v : V} (rd : Rep K ca H d v) : ∀ {kvs : List (L2.Key × V)} {vs : List D}, RepL K ca H vs (kvs.map (·.2)) →
    RepL K ca H (setV (kvs.map fun p => keyD p.1) vs (keyD a) d) ((kvs.map fun p => if p.1 = a then (p.1, v) else p).map (·.2))
  | [], vs, h => by show RepL K ca H [] []; unfold RepL; rfl
  | p :: kvs, vs, h => by
    cases vs with
    | nil => unfold RepL at h; cases h
    | cons x vs =>
      unfold RepL at h
      obtain ⟨w, r, e, h1, h2⟩ := h
      rw [List.map_cons] at e
      injection e with e1 e2
      subst e1; subst e2
      rw [List.map_cons, List.map_cons, List.map_cons, setV, keyD_eq]
      unfold RepL
      refine ⟨_, _, rfl, ?_, set_rep a rd h2⟩
      by_cases q : p.1 = a
      · simp only [q, decide_true, if_true]; exact rd
      · simp only [q, decide_false, Bool.false_eq_true, if_false]; exact h1
theorem put_rep {K : PySem.W.Frag} {H : Hp} (a : L2.Key) {d : D} {v : V} (rd : Rep K ca H d v) {kvs : List (L2.Key × V)} {vs : List D} (h : RepL K ca H vs (kvs.map (·.2))) :
    RepL K ca H (putVs (kvs.map fun p => keyD p.1) vs (keyD a) d) ((putK kvs a v).map (·.2)) := by
  unfold putVs putK
  rw [has_any]
  by_cases q : (kvs.any fun p => decide (p.1 = a)) = true
  · rw [if_pos q, if_pos q]; exact set_rep a rd h
  · rw [if_neg q, if_neg q, List.map_append]; exact RepL.append h (RepL.one rd)
theorem drop_ks (a : L2.Key) (kvs : List (L2.Key × V)) : dropKs (kvs.map fun p => keyD p.1) (keyD a) = (dropK kvs a).map fun p => keyD p.1 := by
  unfold dropKs dropK
  rw [List.filter_map]
  congr 1
  refine List.filter_congr fun p _ => ?_
  show (!eqD (keyD p.1) (keyD a)) = _
  rw [keyD_eq]
  simp
theorem drop_rep {K : PySem.W.Frag} {H : Hp} (a : L2.Key) : ∀ {kvs : List (L2.Key × V)} {vs : List D}, RepL K ca H vs (kvs.map (·.2)) →
    RepL K ca H (dropVs (kvs.map fun p => keyD p.1) vs (keyD a)) ((dropK kvs a).map (·.2))
  | [], vs, h => by show RepL K ca H [] []; unfold RepL; rfl
  | p :: kvs, vs, h => by
    cases vs with
    | nil => unfold RepL at h; cases h
    | cons x vs =>
      unfold RepL at h
      obtain ⟨w, r, e, h1, h2⟩ := h
      rw [List.map_cons] at e
      injection e with e1 e2
      subst e1; subst e2
      have ih := drop_rep a h2
      rw [List.map_cons, dropVs, keyD_eq]
      unfold dropK at ih ⊢
      rw [List.filter_cons]
      by_cases q : p.1 = a
      · simp only [q, ne_eq, not_true_eq_false, decide_false, decide_true, Bool.false_eq_true, if_true, if_false]; exact ih
      · simp only [q, ne_eq, not_false_eq_true, decide_false, decide_true, Bool.false_eq_true, if_true, if_false]
        rw [List.map_cons]
        unfold RepL
        exact ⟨_, _, rfl, h1, ih⟩
theorem pDct {K : PySem.W.Frag} {Hf H : Hp} {ks vs : List D} {v : V} (h : PRep K ca Hf H (.dct ks vs) v) : ∃ a kvs, v = .ref a ∧ H a = some (.dK kvs) ∧ ks = kvs.map (fun p => keyD p.1) ∧ RepL K ca Hf vs (kvs.map (·.2)) := by
  obtain ⟨a, us, e, ⟨kvs, h1, h2, h3⟩, h4⟩ := h
  subst h3
  exact ⟨a, kvs, e, h1, h2, h4⟩
theorem keyDs_eq : ∀ a b : List L2.Key, eqDs (a.map keyD) (b.map keyD) = decide (a = b)
  | [], [] => rfl
  | [], _ :: _ => by show false = _; simp
  | _ :: _, [] => by show false = _; simp
  | x :: a, y :: b => by
    show (eqD (keyD x) (keyD y) && eqDs (a.map keyD) (b.map keyD)) = _
    rw [keyD_eq, keyDs_eq a b]
    by_cases h1 : x = y <;> by_cases h2 : a = b <;> simp [h1, h2]
theorem keyTD_eq (a b : List L2.Key) : eqD (keyTD a) (keyTD b) = decide (a = b) := keyDs_eq a b
theorem keyOks_is : ∀ {xs : List D}, hotT xs = true → ∃ a : List L2.Key, xs = a.map keyD
  | [], _ => ⟨[], rfl⟩
  | .int i :: xs, h => by
    obtain ⟨b, rfl⟩ := keyOks_is (xs := xs) h
    exact ⟨.inl i :: b, rfl⟩
theorem keyTOk_is {k : D} (h : keyTOk k = true) : ∃ a : List L2.Key, k = keyTD a ∧ hotT (a.map keyD) = true := by
  cases k with
  | tup xs =>
    obtain ⟨a, rfl⟩ := keyOks_is (xs := xs) h
    exact ⟨a, rfl, h⟩
  | _ => cases h
theorem keys_v {K : PySem.W.Frag} {H : Hp} : ∀ {a : List L2.Key} {vs : List V}, RepL K ca H (a.map keyD) vs → vs = a.map L2.kV
  | [], vs, h => by unfold RepL at h; exact h
  | x :: a, vs, h => by
    rw [List.map_cons] at h
    unfold RepL at h
    obtain ⟨v, r, e, h1, h2⟩ := h
    rw [e, key_v h1, keys_v h2]; rfl
theorem keyT_v {K : PySem.W.Frag} {H : Hp} {a : List L2.Key} {v : V} (ho : hotT (a.map keyD) = true) (h : Rep K ca H (keyTD a) v) : ∃ b, v = .ref b ∧ H b = some (.tup (a.map L2.kV)) := by
  unfold keyTD Rep at h
  obtain ⟨b, vs, e, h1, h2⟩ := h
  rw [keys_v h2] at h1
  exact ⟨b, e, h1.2 ho⟩
theorem keyT_p {K : PySem.W.Frag} {Hf H : Hp} {a : List L2.Key} {v : V} (ho : hotT (a.map keyD) = true) (s : Same Hf H) (h : PRep K ca Hf H (keyTD a) v) : ∃ b, v = .ref b ∧ H b = some (.tup (a.map L2.kV)) := keyT_v ho (PRep.rep s h)
theorem get_repT {K : PySem.W.Frag} {H : Hp} (a : (List L2.Key)) : ∀ {kvs : List (List L2.Key × V)} {vs : List D}, RepL K ca H vs (kvs.map (·.2)) →
    (∀ d, getV (kvs.map fun p => keyTD p.1) vs (keyTD a) = some d → ∃ v, valV kvs a = some v ∧ Rep K ca H d v) ∧ (getV (kvs.map fun p => keyTD p.1) vs (keyTD a)).isSome = (valV kvs a).isSome
  | [], vs, _ => ⟨fun d h => (by cases vs <;> cases h), (by cases vs <;> rfl)⟩
  | p :: kvs, vs, h => by
    cases vs with
    | nil => unfold RepL at h; cases h
    | cons x vs =>
      unfold RepL at h
      obtain ⟨v, r, e, h1, h2⟩ := h
      rw [List.map_cons] at e
      injection e with e1 e2
      subst e1; subst e2
      obtain ⟨i1, i2⟩ := get_repT a h2
      rw [List.map_cons, getV, keyTD_eq]
      by_cases q : p.1 = a
      · rw [valV_pos q]
        simp only [q, decide_true, if_true]
        exact ⟨fun d hd => by cases hd; exact ⟨_, rfl, h1⟩, rfl⟩
      · rw [valV_neg q]
        simp only [q, decide_false, Bool.false_eq_true, if_false]
        exact ⟨i1, i2⟩
theorem has_anyT (a : (List L2.Key)) (kvs : List (List L2.Key × V)) : hasK (kvs.map fun p => keyTD p.1) (keyTD a) = kvs.any fun p => decide (p.1 = a) := by
  unfold hasK
  rw [List.any_map]
  congr 1
  funext p
  exact keyTD_eq _ _
theorem put_ksT (a : (List L2.Key)) (v : V) (kvs : List (List L2.Key × V)) : putKs (kvs.map fun p => keyTD p.1) (keyTD a) = (putK kvs a v).map fun p => keyTD p.1 := by
  unfold putKs putK
  rw [has_anyT]
  by_cases h : (kvs.any fun p => decide (p.1 = a)) = true
  · rw [if_pos h, if_pos h, List.map_map]
    refine List.map_congr_left fun p _ => ?_
    show keyTD p.1 = keyTD (if p.1 = a then (p.1, v) else p).1
    split <;> rfl
  · rw [if_neg h, if_neg h, List.map_append]; rfl
theorem set_repT {K : PySem.W.Frag} {H : Hp} (a : (List L2.Key)) {d : D} {v : V} (rd : Rep K ca H d v) : ∀ {kvs : List (List L2.Key × V)} {vs : List D}, RepL K ca H vs (kvs.map (·.2)) →
    RepL K ca H (setV (kvs.map fun p => keyTD p.1) vs (keyTD a) d) ((kvs.map fun p => if p.1 = a then (p.1, v) else p).map (·.2))
  | [], vs, h => by show RepL K ca H [] []; unfold RepL; rfl
  | p :: kvs, vs, h => by
    cases vs with
    | nil => unfold RepL at h; cases h
    | cons x vs =>
      unfold RepL at h
      obtain ⟨w, r, e, h1, h2⟩ := h
      rw [List.map_cons] at e
      injection e with e1 e2
      subst e1; subst e2
      rw [List.map_cons, List.map_cons, List.map_cons, setV, keyTD_eq]
      unfold RepL
      refine ⟨_, _, rfl, ?_, set_repT a rd h2⟩
      by_cases q : p.1 = a
      · simp only [q, decide_true, if_true]; exact rd
      · simp only [q, decide_false, Bool.false_eq_true, if_false]; exact h1
theorem put_repT {K : PySem.W.Frag} {H : Hp} (a : (List L2.Key)) {d : D} {v : V} (rd : Rep K ca H d v) {kvs : List (List L2.Key × V)} {vs : List D} (h : RepL K ca H vs (kvs.map (·.2))) :
    RepL K ca H (putVs (kvs.map fun p => keyTD p.1) vs (keyTD a) d) ((putK kvs a v).map (·.2)) := by
  unfold putVs putK
  rw [has_anyT]
  by_cases q : (kvs.any fun p => decide (p.1 = a)) = true
  · rw [if_pos q, if_pos q]; exact set_repT a rd h
  · rw [if_neg q, if_neg q, List.map_append]; exact RepL.append h (RepL.one rd)
theorem drop_ksT (a : (List L2.Key)) (kvs : List (List L2.Key × V)) : dropKs (kvs.map fun p => keyTD p.1) (keyTD a) = (dropK kvs a).map fun p => keyTD p.1 := by
  unfold dropKs dropK
  rw [List.filter_map]
  congr 1
  refine List.filter_congr fun p _ => ?_
  show (!eqD (keyTD p.1) (keyTD a)) = _
  rw [keyTD_eq]
  simp
theorem drop_repT {K : PySem.W.Frag} {H : Hp} (a : (List L2.Key)) : ∀ {kvs : List (List L2.Key × V)} {vs : List D}, RepL K ca H vs (kvs.map (·.2)) →
    RepL K ca H (dropVs (kvs.map fun p => keyTD p.1) vs (keyTD a)) ((dropK kvs a).map (·.2))
  | [], vs, h => by show RepL K ca H [] []; unfold RepL; rfl
  | p :: kvs, vs, h => by
    cases vs with
    | nil => unfold RepL at h; cases h
    | cons x vs =>
      unfold RepL at h
      obtain ⟨w, r, e, h1, h2⟩ := h
      rw [List.map_cons] at e
      injection e with e1 e2
      subst e1; subst e2
      have ih := drop_repT a h2
      rw [List.map_cons, dropVs, keyTD_eq]
      unfold dropK at ih ⊢
      rw [List.filter_cons]
      by_cases q : p.1 = a
      · simp only [q, ne_eq, not_true_eq_false, decide_false, decide_true, Bool.false_eq_true, if_true, if_false]; exact ih
      · simp only [q, ne_eq, not_false_eq_true, decide_false, decide_true, Bool.false_eq_true, if_true, if_false]
        rw [List.map_cons]
        unfold RepL
        exact ⟨_, _, rfl, h1, ih⟩
theorem pDctT {K : PySem.W.Frag} {Hf H : Hp} {ks vs : List D} {v : V} (h : PRep K ca Hf H (.dctT ks vs) v) : ∃ a kvs, v = .ref a ∧ H a = some (.dT kvs) ∧ ks = kvs.map (fun p => keyTD p.1) ∧ RepL K ca Hf vs (kvs.map (·.2)) := by
  obtain ⟨a, us, e, ⟨kvs, h1, h2, h3⟩, h4⟩ := h
  subst h3
  exact ⟨a, kvs, e, h1, h2, h4⟩
theorem op_din (hu : X.A.units + 80 < cLine) : OpR X (compareOp .In) (fun y x H Q => ∃ a o, x = .ref a ∧ DGet H a y o ∧ Q (.bl o.isSome) H) := by
  intro pins s σ H y x v u Q I ry rx h
  obtain ⟨a, o, rfl, g, q⟩ := h
  obtain rfl : u = Value.ref a := rx
  exact d_in (by omega) I g ry fun s3 I3 => ⟨.bl o.isSome, H, I3, rfl, q⟩
theorem op_dnotin (hu : X.A.units + 80 < cLine) : OpR X (compareOp .NotIn) (fun y x H Q => ∃ a o, x = .ref a ∧ DGet H a y o ∧ Q (.bl (!o.isSome)) H) := by
  intro pins s σ H y x v u Q I ry rx h
  obtain ⟨a, o, rfl, g, q⟩ := h
  obtain rfl : u = Value.ref a := rx
  exact d_notIn (by omega) I g ry fun s3 I3 => ⟨.bl (!o.isSome), H, I3, rfl, q⟩
theorem okNs_mem {n : Nat} : ∀ {xs : List D} {z : D}, okNs n xs = true → z ∈ xs → okN n z = true
  | x :: xs, z, h, hz => by
    unfold okNs at h
    rw [Bool.and_eq_true] at h
    rcases List.mem_cons.mp hz with e | e
    · subst e; exact h.1
    · exact okNs_mem h.2 e
theorem any_toPy {x : D} {n m : Nat} (hx : okN n x = true) : ∀ {xs : List D}, okNs m xs = true → (toPys xs).any (fun z => PyData.eqv z (toPy x)) = inD x xs
  | [], _ => rfl
  | y :: ys, h => by
    unfold okNs at h
    rw [Bool.and_eq_true] at h
    show (PyData.eqv (toPy y) (toPy x) || (toPys ys).any _) = (eqD y x || inD x ys)
    rw [eqv_toPy y x m n h.1 hx, any_toPy hx h.2]
theorem deep_in {K : PySem.W.Frag} {ca : Nat → Addr} {Hf H : Hp} {x : D} {xs : List D} {v u : V} (s : Same Hf H) (h1 : PRep K ca Hf H x v) (h2 : PRep K ca Hf H (.lst xs) u) (o1 : okD x = true) (o2 : okD (.lst xs) = true) :
    Dp K H v (toPy x) ∧ Dp K H u (.list (toPys xs)) ∧ SeqAt.shaped (toPy x) = true ∧ SeqAt.shaped (.list (toPys xs)) = true ∧ (toPys xs).any (fun z => PyData.eqv z (toPy x)) = inD x xs :=
  ⟨dp_of x v 64 o1 (h1.rep s), dp_of (.lst xs) u 64 o2 (h2.rep s), shaped_toPy o1, shaped_toPy (x := .lst xs) o2, any_toPy (n := 64) (m := 63) o1 o2⟩
theorem op2_in (hu : X.A.units + 80 < cLine) : Op2 X ca (compareOp .In) dIn := by
  refine ⟨_, ((op_in_seq.or op_in_sign).or (op_din (by omega))).or (op_inD (by omega)), fun W σ Hf H x y v u Q s h1 h2 m => ?_⟩
  unfold dIn at m
  split at m
  · split at m
    · rename_i hk
      obtain ⟨k, rfl⟩ := keyOk_is hk
      obtain ⟨a, kvs, rfl, a1, rfl, a3⟩ := pDct h2
      rw [key_p h1]
      refine .inl (.inr ⟨a, _, rfl, DGet.k a1, ?_⟩)
      have e := (get_rep k a3).2
      rw [← e]
      exact m.rep s rfl
    · exact m.no.elim
  · split at m
    · rename_i hk
      obtain ⟨k, rfl, ho⟩ := keyTOk_is hk
      obtain ⟨a, kvs, rfl, a1, rfl, a3⟩ := pDctT h2
      obtain ⟨b, rfl, hb⟩ := keyT_p ho s h1
      refine .inl (.inr ⟨a, _, rfl, DGet.t a1 hb, ?_⟩)
      have e := (get_repT k a3).2
      rw [← e]
      exact m.rep s rfl
    · exact m.no.elim
  · unfold signIn at m
    rename_i a z
    obtain ⟨⟨cs⟩⟩ := a
    rcases cs with _ | ⟨c, _ | ⟨c2, r⟩⟩
    · exact m.no.elim
    · rw [pStr h1, pStr h2]; exact .inl (.inl (.inr ⟨c, z, rfl, rfl, m.rep s rfl⟩))
    · exact m.no.elim
  · split at m
    · rename_i f
      obtain ⟨b, us, rfl, b1, b2⟩ := pLst h2
      have b3 := RepL.mono s _ _ b2
      refine .inl (.inl (.inl ⟨b, us, rfl, .inl b1, flat_of f.1 (h1.rep s), flats_of f.2 b3, ?_⟩))
      have e := inV_of f.1 (h1.rep s) f.2 b3
      simp only [Bool.false_eq_true, if_false, e]
      exact m.rep s rfl
    · split at m
      · rename_i _ f
        obtain ⟨d1, d2, d3, d4, d5⟩ := deep_in s h1 h2 f.1 f.2
        refine .inr ⟨_, _, d1, d2, d3, d4, ?_⟩
        rw [d5]
        exact m.rep s rfl
      · exact m.no.elim
  · split at m
    · rename_i f
      obtain ⟨b, us, rfl, b1, b2⟩ := pTup s h2
      have b3 := RepL.mono s _ _ b2
      refine .inl (.inl (.inl ⟨b, us, rfl, .inr b1, flat_of f.1 (h1.rep s), flats_of f.2 b3, ?_⟩))
      have e := inV_of f.1 (h1.rep s) f.2 b3
      simp only [Bool.false_eq_true, if_false, e]
      exact m.rep s rfl
    · exact m.no.elim
  · exact m.no.elim
theorem op2_notIn (hu : X.A.units + 80 < cLine) : Op2 X ca (compareOp .NotIn) dNotIn := by
  refine ⟨_, ((op_notIn_seq.or op_notIn_sign).or (op_dnotin (by omega))).or (op_notInD (by omega)), fun W σ Hf H x y v u Q s h1 h2 m => ?_⟩
  unfold dNotIn at m
  split at m
  · split at m
    · rename_i hk
      obtain ⟨k, rfl⟩ := keyOk_is hk
      obtain ⟨a, kvs, rfl, a1, rfl, a3⟩ := pDct h2
      rw [key_p h1]
      refine .inl (.inr ⟨a, _, rfl, DGet.k a1, ?_⟩)
      have e := (get_rep k a3).2
      rw [← e]
      exact m.rep s rfl
    · exact m.no.elim
  · split at m
    · rename_i hk
      obtain ⟨k, rfl, ho⟩ := keyTOk_is hk
      obtain ⟨a, kvs, rfl, a1, rfl, a3⟩ := pDctT h2
      obtain ⟨b, rfl, hb⟩ := keyT_p ho s h1
      refine .inl (.inr ⟨a, _, rfl, DGet.t a1 hb, ?_⟩)
      have e := (get_repT k a3).2
      rw [← e]
      exact m.rep s rfl
    · exact m.no.elim
  · unfold signIn at m
    rename_i a z
    obtain ⟨⟨cs⟩⟩ := a
    rcases cs with _ | ⟨c, _ | ⟨c2, r⟩⟩
    · exact m.no.elim
    · rw [pStr h1, pStr h2]; exact .inl (.inl (.inr ⟨c, z, rfl, rfl, m.rep s rfl⟩))
    · exact m.no.elim
  · split at m
    · rename_i f
      obtain ⟨b, us, rfl, b1, b2⟩ := pLst h2
      have b3 := RepL.mono s _ _ b2
      refine .inl (.inl (.inl ⟨b, us, rfl, .inl b1, flat_of f.1 (h1.rep s), flats_of f.2 b3, ?_⟩))
      have e := inV_of f.1 (h1.rep s) f.2 b3
      simp only [if_true, e]
      exact m.rep s rfl
    · split at m
      · rename_i _ f
        obtain ⟨d1, d2, d3, d4, d5⟩ := deep_in s h1 h2 f.1 f.2
        refine .inr ⟨_, _, d1, d2, d3, d4, ?_⟩
        rw [d5]
        exact m.rep s rfl
      · exact m.no.elim
  · split at m
    · rename_i f
      obtain ⟨b, us, rfl, b1, b2⟩ := pTup s h2
      have b3 := RepL.mono s _ _ b2
      refine .inl (.inl (.inl ⟨b, us, rfl, .inr b1, flat_of f.1 (h1.rep s), flats_of f.2 b3, ?_⟩))
      have e := inV_of f.1 (h1.rep s) f.2 b3
      simp only [if_true, e]
      exact m.rep s rfl
    · exact m.no.elim
  · exact m.no.elim
theorem isNon_of {K : PySem.W.Frag} {H : Hp} {x : D} {v : V} (r : Rep K ca H x v) : decide (v = .non) = isNon x := by
  cases x with
  | non => have r : v = .non := r; subst r; rfl
  | bl b => have r : v = .bl b := r; subst r; rfl
  | int b => have r : v = .int b := r; subst r; rfl
  | str b => have r : v = .str b := r; subst r; rfl
  | ty b => have r : v = .ty b := r; subst r; rfl
  | cls b => have r : v = .ref _ := r; subst r; rfl
  | dct ks vs => unfold Rep at r; obtain ⟨a, vs, rfl, _⟩ := r; rfl
  | dctT ks vs => unfold Rep at r; obtain ⟨a, vs, rfl, _⟩ := r; rfl
  | tup xs => unfold Rep at r; obtain ⟨a, vs, rfl, _⟩ := r; rfl
  | lst xs => unfold Rep at r; obtain ⟨a, vs, rfl, _⟩ := r; rfl
theorem op2_is : Op2 X ca (compareOp .Is) dIs := by
  refine ⟨_, op_isN.or op_isBl, fun W σ Hf H x y v u Q s h1 h2 m => ?_⟩
  unfold dIs at m
  split at m
  · exact .inl ⟨pNon h2, by rw [isNon_of (h1.rep s)]; exact m.rep s rfl⟩
  · exact .inr ⟨_, _, pBl h1, pBl h2, m.rep s rfl⟩
  · exact m.no.elim
theorem op2_isNot : Op2 X ca (compareOp .IsNot) dIsNot := by
  refine ⟨_, op_notN.or op_notBl, fun W σ Hf H x y v u Q s h1 h2 m => ?_⟩
  unfold dIsNot at m
  split at m
  · exact .inl ⟨pNon h2, by rw [isNon_of (h1.rep s)]; exact m.rep s rfl⟩
  · exact .inr ⟨_, _, pBl h1, pBl h2, m.rep s rfl⟩
  · exact m.no.elim
/-! ### subscripts -/
theorem ixN_eq (n : Nat) (i : Int) : M.ixN n i = L2.ixN n i := rfl
def rIxD : R2 := fun x y H Q => ∃ a v, x = .ref a ∧ DGet H a y (some v) ∧ Q v H
theorem ix_dict (hu : X.A.units + 80 < cLine) : IxR X rIxD := by
  intro value slice pins s σ H x y v u Q I rx ry h hs
  obtain ⟨a, w, rfl, g, q⟩ := h
  obtain rfl : v = Value.ref a := rx
  have hT := dict_typeIs I g
  have h2 : wpAny (model X.prog X.w) X.A (getItem (.ref a) u) (EP X pins σ Q) X.xe s := d_getItem (by omega) I g ry fun w' s3 I3 rw' => ⟨w, H, I3, rw', q⟩
  unfold subscriptTail
  refine wpAny_bind ?_
  rw [getitemInPython_of_ne hT.not_modules]
  refine wpAny_bind (wpAny_specialOf hT PySem.F.slot_dict_getitem.lookup ?_)
  have fin : wpAny (model X.prog X.w) X.A (subscripted slice false (.ref a) u) (fun r s3 => wpAny (model X.prog X.w) X.A (letTemporaryGo value (.ref a) r >>= fun _ => pure r) (EP X pins σ Q) X.xe s3) X.xe s := by
    rw [hs]
    exact wpAny_operating (wpAny_mono h2 (fun r s3 h3 => wpAny_bind (wpAny_letTemporaryGo (wpAny_pure h3))) fun _ _ x => x)
  first
    | exact wpAny_pure (wpAny_bind fin)
    | exact wpAny_bind (wpAny_pure (wpAny_bind fin))
    | exact wpAny_bind fin
theorem me_ix {j : Jc} {a b : Expr} {pos : Pos} {ce cf : CE} (hu : X.A.units + 80 < cLine) (ha : MP X j a ce) (hb : MP X j b cf) (hs : PlainIx b) : ME X j (.Subscript a b pos) (eOp2 dIx ce cf) := by
  refine PE.imp (pe_ix ((ix_dict hu).or ix_seq) ha hb hs) fun σ H Q ⟨G, Hf, env, rr, m⟩ => ⟨G, Hf, env, rr, m.bind.imp fun x Hf1 H1 _ p1 m1 v rv => ⟨G, Hf1, env, rr.grow p1, m1.bind.imp fun y Hf2 H2 _ p2 m2 u ru => ?_⟩⟩
  have rv := rv.grow p2
  unfold dIx at m2
  split at m2
  · split at m2
    · rename_i hk
      obtain ⟨k, rfl⟩ := keyOk_is hk
      split at m2
      · rename_i d hd
        obtain ⟨p, kvs, rfl, a1, rfl, a3⟩ := pDct rv
        obtain ⟨w, w1, w2⟩ := (get_rep k a3).1 d hd
        rw [key_p ru]
        refine .inl ⟨p, w, rfl, ?_, m2.rep p2.sub w2⟩
        rw [← w1]
        exact DGet.k a1
      · exact m2.no.elim
    · exact m2.no.elim
  · split at m2
    · rename_i hk
      obtain ⟨k, rfl, ho⟩ := keyTOk_is hk
      split at m2
      · rename_i d hd
        obtain ⟨p, kvs, rfl, a1, rfl, a3⟩ := pDctT rv
        obtain ⟨w, w1, w2⟩ := (get_repT k a3).1 d hd
        obtain ⟨b, rfl, hb⟩ := keyT_p ho p2.sub ru
        refine .inl ⟨p, w, rfl, ?_, m2.rep p2.sub w2⟩
        rw [← w1]
        exact DGet.t a1 hb
      · exact m2.no.elim
    · exact m2.no.elim
  · split at m2
    · rename_i k hk
      split at m2
      · rename_i d hd
        obtain ⟨p, vs, rfl, a1, a2⟩ := pLst rv
        obtain ⟨w, w1, w2⟩ := RepL.get a2 hd
        refine .inr (.inl ⟨p, vs, _, w, rfl, pInt ru, a1, ?_, m2.rep p2.sub w2⟩)
        unfold atI
        rw [← ixN_eq, ← a2.length, hk]
        exact w1
      · exact m2.no.elim
    · exact m2.no.elim
  · split at m2
    · rename_i k hk
      split at m2
      · rename_i d hd
        obtain ⟨p, vs, rfl, a1, a2⟩ := pTup p2.sub rv
        obtain ⟨w, w1, w2⟩ := RepL.get a2 hd
        refine .inr (.inr (.inl ⟨p, vs, _, w, rfl, pInt ru, a1, ?_, m2.rep p2.sub w2⟩))
        unfold atI
        rw [← ixN_eq, ← a2.length, hk]
        exact w1
      · exact m2.no.elim
    · exact m2.no.elim
  · split at m2
    · rename_i hz
      split at m2
      · rename_i k hk
        split at m2
        · rename_i c hc
          refine .inr (.inr (.inr ⟨_, _, c, pStr rv, pInt ru, by rw [← line_eq]; exact hz, ?_, m2.rep p2.sub rfl⟩))
          unfold atI
          rw [← ixN_eq, hk]
          exact hc
        · exact m2.no.elim
      · exact m2.no.elim
    · exact m2.no.elim
  · exact m2.no.elim
end
end M
/-! MOps3: slices, built-ins. -/
namespace M
open PySem PySem.Spec PyProof.Rows L2
section
variable {X : Cx} {j : Jc} {a b e : Expr} {lo hi : Option Expr} {pos p2 : Pos} {ce cf : CE} {cl ch : CO}
def tMO (K : PySem.W.Frag) (j : Jc) (c : CO) : TO := fun σ H Q => ∃ G Hf env, RR K j.ca j.ea G Hf env σ H ∧ OutP K j.ca j.W σ Hf H (c env) fun o Hf' H' => Q o H'
def MO (X : Cx) (j : Jc) (e : Option Expr) (c : CO) : Prop := PO X e (tMO X.K j c)
theorem PO.imp {e : Option Expr} {t t' : TO} (h : PO X e t) (i : ∀ σ H Q, t' σ H Q → t σ H Q) : PO X e t' := ⟨fun pins s σ H Q I q => h.run pins s σ H Q I (i _ _ _ q)⟩
theorem mo_no : MO X j none oNo := PO.imp po_none fun σ H Q ⟨G, Hf, env, r, m⟩ => OutP.ok m r.sub
theorem mo_some (h : ME X j e ce) : MO X j (some e) (oSome ce) := by
  refine PO.imp (po_some h) fun σ H Q ⟨G, Hf, env, r, m⟩ => ⟨G, Hf, env, r, m.bind.imp fun x Hf1 H1 _ p1 m1 v rv => ?_⟩
  cases x with
  | int i => exact ⟨i, rv, OutP.ok m1 p1.sub⟩
  | _ => exact (OutP.no m1).elim
theorem sIx_eq (n d : Nat) (o : Option Int) : M.sIx n d o = HT.sIx n d o := by cases o <;> rfl
theorem cut_rep {K : PySem.W.Frag} {ca : Nat → Addr} {H : Hp} {xs : List D} {vs : List V} (r : RepL K ca H xs vs) (lo hi : Option Int) : RepL K ca H (cutL xs lo hi) (cutV vs lo hi) := by
  unfold cutL cutV
  rw [← r.length, sIx_eq, sIx_eq]
  exact RepL.take _ (RepL.drop _ r)
theorem cut_all {α : Type} {xs : List α} {lo hi : Option Int} (h1 : HT.sIx xs.length 0 lo = 0) (h2 : HT.sIx xs.length xs.length hi = xs.length) : cutL xs lo hi = xs := by
  unfold cutL
  rw [sIx_eq, sIx_eq, h1, h2, List.drop_zero, Nat.sub_zero, List.take_length]
theorem cutS_eq (z : Str) (l h : Option Int) : cutS z l h = ⟨(cutL z.cps.toList l h).toArray⟩ := by
  unfold cutS cutL
  simp only [sIx_eq]
  rfl
theorem me_sl (he : MP X j e ce) (hl : MO X j lo cl) (hu : MO X j hi ch) : ME X j (.Subscript e (.Slice lo hi none p2) pos) (eSl ce cl ch) := by
  refine PE.imp (pe_slice ((sl_list.or sl_tupA).or sl_str) he hl hu) fun σ H Q ⟨G, Hf, env, rr, m⟩ => ⟨G, Hf, env, rr, m.bind.imp fun x Hf1 H1 _ p1 m1 v rv => ⟨G, Hf1, env, rr.grow p1, m1.bind.imp fun l Hf2 H2 _ p2 m2 => ⟨G, Hf2, env, (rr.grow p1).grow p2, m2.bind.imp fun h Hf3 H3 _ p3 m3 => ?_⟩⟩⟩
  have rv := (rv.grow p2).grow p3
  unfold dSl at m3
  split at m3
  · obtain ⟨p, vs, rfl, a1, a2⟩ := pLst rv
    exact .inl (.inl ⟨p, vs, rfl, a1, fun q hq => m3.newL p3.sub (cut_rep a2 l h) q hq⟩)
  · obtain ⟨p, vs, rfl, a1, a2⟩ := pTup p3.sub rv
    refine .inl (.inr ⟨p, vs, rfl, a1, fun hw => ?_, fun _ q hq => m3.newT p3.sub (cut_rep a2 l h) q hq⟩)
    rw [cut_all (by rw [a2.length]; exact hw.1) (by rw [a2.length]; exact hw.2)] at m3
    exact m3.rep p3.sub rv
  · split at m3
    · rename_i hz
      refine .inr ⟨_, pStr rv, by rw [← line_eq]; exact hz, ?_⟩
      rw [cutS_eq]
      exact m3.rep p3.sub rfl
    · exact m3.no.elim
  · exact m3.no.elim
theorem mf_sl (he : MP X j e ce) (hl : MO X j lo cl) (hu : MO X j hi ch) : MF X j (.Subscript e (.Slice lo hi none p2) pos) (fSl ce cl ch) := by
  refine PE.imp (pe_slice sl_list he hl hu) fun σ H Q ⟨G, Hf, env, rr, m⟩ => ⟨G, Hf, env, rr, m.bind.imp fun x Hf1 H1 _ p1 m1 v rv => ⟨G, Hf1, env, rr.grow p1, m1.bind.imp fun l Hf2 H2 _ p2 m2 => ⟨G, Hf2, env, (rr.grow p1).grow p2, m2.bind.imp fun h Hf3 H3 _ p3 m3 => ?_⟩⟩⟩
  have rv := (rv.grow p2).grow p3
  unfold lSl at m3
  split at m3
  · obtain ⟨p, vs, rfl, a1, a2⟩ := pLst rv
    refine ⟨p, vs, rfl, a1, fun q hq => ?_⟩
    exact m3 _ _ (post_own p3.sub hq) _ (own_step ((p1.trans p2).trans p3) hq (cut_rep a2 l h))
  · exact m3.no.elim
theorem me_neg (ha : ME X j a ce) : ME X j (.UnaryOp .USub a pos) (eOp1 dNeg ce) := by
  refine PE.imp (pe_un un_neg ha) fun σ H Q ⟨G, Hf, env, r, m⟩ => ⟨G, Hf, env, r, m.bind.imp fun x Hf1 H1 _ p1 m1 v rv => ?_⟩
  cases x with
  | int i => exact ⟨i, rv, m1.rep p1.sub rfl⟩
  | _ => exact (OutP.no m1).elim
/-- a op b that makes a new list -/
def OF (X : Cx) (ca : Nat → Addr) (f : Value → Value → Sem Value) (g : D → D → Out (List D)) : Prop := ∃ r : R2, OpR X f r ∧
  ∀ (W : WX) (σ : L2.St) (Hf H : Hp) (x y : D) (v u : V) (Q : VK), Same Hf H → PRep X.K ca Hf H x v → PRep X.K ca Hf H y u → OutP X.K ca W σ Hf H (g x y) (fun ys Hf' H' => ∀ p us, H' p = none → RepL X.K ca Hf' ys us → Q (.ref p) (L2.upd H' p (.lst us))) → r v u H Q
theorem mf_op {op : Operator} {g : D → D → Out (List D)} (o : OF X j.ca (binaryOp op) g) (ha : MP X j a ce) (hb : MP X j b cf) : MF X j (.BinOp a op b pos) (fOp2 g ce cf) := by
  obtain ⟨r, h, k⟩ := o
  refine PE.imp (pe_op h ha hb) fun σ H Q ⟨G, Hf, env, rr, m⟩ => ⟨G, Hf, env, rr, m.bind.imp fun x Hf1 H1 _ p1 m1 v rv => ⟨G, Hf1, env, rr.grow p1, m1.bind.imp fun y Hf2 H2 _ p2 m2 u ru => ?_⟩⟩
  exact k j.W σ Hf2 H2 x y v u Q p2.sub (rv.grow p2) ru (m2.bind.imp fun ys Hf3 H3 _ p3 m3 p us hp ru => m3 _ _ (post_own p3.sub hp) _ (own_step ((p1.trans p2).trans p3) hp ru))
theorem of_cat {ca : Nat → Addr} : OF X ca (binaryOp .Add) fCat := by
  refine ⟨_, op_catL, fun W σ Hf H x y v u Q s h1 h2 m => ?_⟩
  unfold fCat at m
  split at m
  · split at m
    · rename_i hz
      obtain ⟨a, vs, rfl, a1, a2⟩ := pLst h1
      obtain ⟨b, us, rfl, b1, b2⟩ := pLst h2
      exact ⟨a, b, vs, us, rfl, rfl, a1, b1, by rw [← a2.length, ← b2.length, ← line_eq]; exact hz, fun p hp => OutP.ok m s p _ hp (RepL.append a2 b2)⟩
    · exact m.no.elim
  · exact m.no.elim
/-- a new list times an int -/
theorem mf_rep {ff : CF} (ha : MF X j a ff) (hb : ME X j b cf) : MF X j (.BinOp a .Mult b pos) (fRepO ff cf) := by
  refine PE.imp (pe_op op_rep ha hb) fun σ H Q ⟨G, Hf, env, rr, m⟩ => ⟨G, Hf, env, rr, m.bind.imp fun o Hf1 H1 _ p1 m1 v ov => ⟨G, Hf1, env, rr.grow p1, m1.bind.imp fun y Hf2 H2 _ p2 m2 u ru => ?_⟩⟩
  obtain ⟨p, fp, rfl, ow, mi⟩ := ov
  cases o with
  | lst2 xss => exact (OutP.no m2).elim
  | dct ks vs => exact (OutP.no m2).elim
  | dctT ks vs => exact (OutP.no m2).elim
  | lst xs =>
    obtain ⟨vs, h1, h2, _⟩ := ow
    cases y with
    | int k =>
      have m2 : OutP X.K j.ca j.W σ Hf2 H2 ((if xs.length ≤ 1000 ∧ k ≤ 1000 ∧ -(2 ^ 63) ≤ k then Out.ok (List.replicate k.toNat xs).flatten else .stuck).bind fun ys => Out.ok (Own.lst ys)) _ := m2
      split at m2
      · rename_i hz
        have ru : u = .int k := ru
        refine ⟨p, k, vs, rfl, ru, p2.all _ _ h1, hz.2.2, Int.lt_of_le_of_lt hz.2.1 (by decide), ?_, fun q hq => ?_⟩
        · rw [← line_eq, ← h2.length]
          exact Nat.le_trans (Nat.mul_le_mul hz.1 (Int.toNat_le.mpr hz.2.1)) (by decide)
        · exact m2 _ _ (post_own p2.sub hq) _ (own_step (p1.trans p2) hq (RepL.flatten (RepL.mono p2.sh _ _ h2) _))
      · exact m2.elim
    | _ => exact m2.elim
/-! ### built-ins -/
theorem pRepL1 {K : PySem.W.Frag} {ca : Nat → Addr} {Hf H : Hp} {d : D} {vs : List V} (h : PRepL K ca Hf H [d] vs) : ∃ v, vs = [v] ∧ PRep K ca Hf H d v := by
  unfold PRepL at h
  obtain ⟨v, r, e, h1, h2⟩ := h
  unfold PRepL at h2
  subst h2
  exact ⟨v, e, h1⟩
theorem pRepL2 {K : PySem.W.Frag} {ca : Nat → Addr} {Hf H : Hp} {d d' : D} {vs : List V} (h : PRepL K ca Hf H [d, d'] vs) : ∃ v u, vs = [v, u] ∧ PRep K ca Hf H d v ∧ PRep K ca Hf H d' u := by
  unfold PRepL at h
  obtain ⟨v, r, e, h1, h2⟩ := h
  obtain ⟨u, e2, h3⟩ := pRepL1 h2
  subst e2
  exact ⟨v, u, e, h1, h3⟩
variable {ca : Nat → Addr}
theorem bc_len : BC X ca (.builtin "len") dLen := by
  refine ⟨_, call_len, fun W σ Hf H xs vs Q s h m => ?_⟩
  unfold dLen at m
  split at m
  · obtain ⟨v, rfl, h1⟩ := pRepL1 h
    obtain ⟨a, us, rfl, a1, a2⟩ := pLst h1
    exact ⟨_, _, rfl, .inl ⟨us, a1, rfl⟩, by rw [← a2.length]; exact m.rep s rfl⟩
  · obtain ⟨v, rfl, h1⟩ := pRepL1 h
    obtain ⟨a, us, rfl, a1, a2⟩ := pTup s h1
    exact ⟨_, _, rfl, .inr ⟨us, a1, rfl⟩, by rw [← a2.length]; exact m.rep s rfl⟩
  · split at m
    · rename_i hz
      obtain ⟨v, rfl, h1⟩ := pRepL1 h
      rw [pStr h1]
      exact ⟨_, _, rfl, ⟨by rw [← line_eq]; exact hz, rfl⟩, m.rep s rfl⟩
    · exact m.no.elim
  · exact m.no.elim
theorem bc_int : BC X ca (.type "int") dInt := by
  refine ⟨_, call_int1, fun W σ Hf H xs vs Q s h m => ?_⟩
  unfold dInt at m
  split at m
  · obtain ⟨v, rfl, h1⟩ := pRepL1 h
    rw [pInt h1]
    exact .inl ⟨_, rfl, m.rep s rfl⟩
  · obtain ⟨v, rfl, h1⟩ := pRepL1 h
    rw [pBl h1]
    exact .inr ⟨_, rfl, m.rep s rfl⟩
  · exact m.no.elim
theorem bc_abs : BC X ca (.builtin "abs") dAbs := by
  refine ⟨_, call_abs, fun W σ Hf H xs vs Q s h m => ?_⟩
  unfold dAbs at m
  split at m
  · obtain ⟨v, rfl, h1⟩ := pRepL1 h
    rw [pInt h1]
    exact ⟨_, rfl, m.rep s rfl⟩
  · exact m.no.elim
theorem bc_max2 (hc : X.calm = true) : BC X ca (.builtin "max") dMax2 := by
  refine ⟨_, call_max2 hc, fun W σ Hf H xs vs Q s h m => ?_⟩
  unfold dMax2 at m
  split at m
  · obtain ⟨v, u, rfl, h1, h2⟩ := pRepL2 h
    rw [pInt h1, pInt h2]
    exact ⟨_, _, rfl, m.rep s rfl⟩
  · exact m.no.elim
theorem bc_min2 (hc : X.calm = true) : BC X ca (.builtin "min") dMin2 := by
  refine ⟨_, call_min2 hc, fun W σ Hf H xs vs Q s h m => ?_⟩
  unfold dMin2 at m
  split at m
  · obtain ⟨v, u, rfl, h1, h2⟩ := pRepL2 h
    rw [pInt h1, pInt h2]
    exact ⟨_, _, rfl, m.rep s rfl⟩
  · exact m.no.elim
theorem bf_list : BF X ca (.type "list") dList := by
  refine ⟨_, call_list_of, fun W σ Hf H xs vs Q s h m => ?_⟩
  unfold dList at m
  split at m
  · obtain ⟨v, rfl, h1⟩ := pRepL1 h
    obtain ⟨a, us, rfl, a1, a2⟩ := pLst h1
    exact ⟨a, us, rfl, .inl a1, fun p hp => OutP.ok m s p us hp a2⟩
  · obtain ⟨v, rfl, h1⟩ := pRepL1 h
    obtain ⟨a, us, rfl, a1, a2⟩ := pTup s h1
    exact ⟨a, us, rfl, .inr a1, fun p hp => OutP.ok m s p us hp a2⟩
  · exact m.no.elim
theorem bc_tuple : BC X ca (.type "tuple") dTuple := by
  refine ⟨_, call_tuple_of, fun W σ Hf H xs vs Q s h m => ?_⟩
  unfold dTuple at m
  split at m
  · obtain ⟨v, rfl, h1⟩ := pRepL1 h
    obtain ⟨a, us, rfl, a1, a2⟩ := pLst h1
    exact ⟨a, us, rfl, .inl ⟨a1, fun p hp => m.newT s a2 p hp⟩⟩
  · obtain ⟨v, rfl, h1⟩ := pRepL1 h
    obtain ⟨a, us, rfl, a1, a2⟩ := pTup s h1
    exact ⟨a, us, rfl, .inr ⟨a1, m.rep s h1⟩⟩
  · exact m.no.elim
theorem bc_str : BC X ca (.type "str") dStr := by
  refine ⟨_, call_str_int, fun W σ Hf H xs vs Q s h m => ?_⟩
  unfold dStr at m
  split at m
  · split at m
    · rename_i i hz
      obtain ⟨v, rfl, h1⟩ := pRepL1 h
      rw [pInt h1]
      refine ⟨_, rfl, ?_, m.rep s rfl⟩
      by_cases z : i.natAbs = 0
      · rw [z]; decide
      · exact Nat.lt_of_lt_of_le ((Nat.log2_lt z).mpr hz) (by decide)
    · exact m.no.elim
  · exact m.no.elim
theorem bc_sum (hc : X.calm = true) : BC X ca (.builtin "sum") dSum := by
  refine ⟨_, cr_sum hc, fun W σ Hf H xs vs Q s h m => ?_⟩
  unfold dSum at m
  split at m
  · split at m
    · rename_i ns hn
      obtain ⟨v, rfl, h1⟩ := pRepL1 h
      obtain ⟨a, us, rfl, a1, a2⟩ := pLst h1
      rw [intL_ok hn a2] at a1
      exact ⟨a, ns, rfl, a1, m.rep s rfl⟩
    · exact m.no.elim
  · exact m.no.elim
theorem kit_ty (K : PySem.W.Frag) {t n : String} {b : Bool} (ht : t = "NoneType" ∨ t = "bool" ∨ t = "int" ∨ t = "str" ∨ t = "tuple" ∨ t = "list") (h : subTy t n = some b) : PySem.W.kitOne K (.type t) (.type n) = some b := by
  unfold subTy at h
  split at h
  · rename_i hn
    have hn : n = "int" ∨ n = "bool" ∨ n = "str" ∨ n = "tuple" ∨ n = "list" ∨ n = "dict" := by simpa using hn
    rcases ht with rfl | rfl | rfl | rfl | rfl | rfl <;> rcases hn with rfl | rfl | rfl | rfl | rfl | rfl <;> cases h <;> (with_unfolding_all rfl)
  · cases h
theorem tyX_of {K : PySem.W.Frag} {Hf H : Hp} {x : D} {v : V} {t : String} (s : Same Hf H) (r : PRep K ca Hf H x v) (h : tyD x = some t) : TyX K H v (.type t) ∧ (t = "NoneType" ∨ t = "bool" ∨ t = "int" ∨ t = "str" ∨ t = "tuple" ∨ t = "list") := by
  cases x <;> cases h
  · rw [pNon r]; exact ⟨.base .non, by simp⟩
  · rw [pBl r]; exact ⟨.base (.bl _), by simp⟩
  · rw [pInt r]; exact ⟨.base (.int _), by simp⟩
  · rw [pStr r]; exact ⟨.base (.str _), by simp⟩
  · obtain ⟨a, us, rfl, a1, a2⟩ := pTup s r
    refine ⟨?_, by simp⟩
    rcases a1 with (h | ⟨o, h⟩) | ⟨o, its, n, h1, h2, _⟩
    · exact .base (.tup h)
    · exact .fTuple h
    · exact .kTuple h1 h2
  · obtain ⟨a, us, rfl, a1, a2⟩ := pLst r
    refine ⟨?_, by simp⟩
    rcases a1 with (h | ⟨o, h⟩) | ⟨o, its, n, h1, h2, _⟩
    · exact .base (.lst h)
    · exact .base (.frz h)
    · exact .kList h1 h2
theorem bc_isi : BC X ca (.builtin "isinstance") dIsi := by
  refine ⟨_, call_isi, fun W σ Hf H xs vs Q s h m => ?_⟩
  unfold dIsi at m
  split at m
  · split at m
    · rename_i t ht
      split at m
      · rename_i b hb
        obtain ⟨v, u, rfl, h1, h2⟩ := pRepL2 h
        have h2 : u = .ty _ := h2
        subst h2
        obtain ⟨k1, k2⟩ := tyX_of s h1 ht
        exact ⟨v, _, _, _, b, rfl, .ty _, k1, kit_ty X.K k2 hb, m.rep s rfl⟩
      · exact m.no.elim
    · exact m.no.elim
  · exact m.no.elim
theorem me_tyName {T : String} {x : Str} (hg : Gl X x) (hm : X.mg x = none) (hv : bootBuiltins x = some (.type T)) (hn : x ≠ "__name__" := by decide) (hd : (x == ("__debug__" : Str)) = false := by decide) : ME X j (.Name x pos) (eC (.ty T)) :=
  me_c (v := .ty T) (pe_bltn hg hm hv rfl hn hd) fun _ => rfl
/-- a name of the module: an int, a text, None, a bool -/
theorem me_glob {x : Str} {v : V} {u : Value} {d : D} (hg : Gl X x) (hm : X.mg x = some u) (r : RelV v u) (rd : ∀ Hf, Rep X.K j.ca Hf d v) (hd : (x == ("__debug__" : Str)) = false := by decide) : ME X j (.Name x pos) (eC d) := me_c (pe_glob hg hm r hd) rd
end
end M
/-! MExc: what a suite asks of the exception that it holds: isinstance, a field. -/
namespace PySem.W
open PySem PySem.Spec PySem.Calls PyProof.Rows
section
variable {prog : Program} {w : World} {A : Around} {E : Value → Shared → Prop} {s : Shared} {K : Frag} {x D : Addr} {ox : Obj}
theorem findObj_dataD {C : Addr} {od : Option Obj} {name : Str} {a g : Value} (hc : (clsIn K C).isSome = true) (h1 : findIn K (.ref C) name = some (some a)) (h2 : specialIn K a "__get__" = some (some g)) (h3 : takesIn K a = some true) : findObj K C od name = some (.bind g a) := by
  cases q : clsIn K C with
  | none => rw [q] at hc; cases hc
  | some cd =>
    unfold findObj
    rw [q, Option.bind_some, h1, Option.bind_some]
    simp [h2, h3]
/-- e.__class__, with an own dict or without -/
theorem kin_classX {od : Option Obj} {Q : Option Value → Shared → Prop} (c : L2.ExcC K D) (X : K.In s.heap) (I : InstAt s.heap x ox D od) (h : Q (some (.ref D)) { s with toks := s.toks + 1 }) : wpAny (model prog w) A (getAttr? (.ref x) "__class__") Q E s := by
  have hcls : (clsIn K D).isSome = true := by
    obtain ⟨cd, hc, _⟩ := any_some c.hd
    rw [hc]; rfl
  have hf : findObj K D od "__class__" = some (.bind (.builtin "getset_descriptor.__get__") (.builtin "object.__class__")) := findObj_dataD hcls c.ha c.hn c.ht
  obtain ⟨hp, g, d, t, os⟩ := s
  have K0 := I.type (M := model prog w)
  have K1 := looks_findIn (M := model prog w) X c.hg
  have K2 := looks_findIn (M := model prog w) X c.hk
  have K3 := looks_find (M := model prog w) X I hf
  have hsub : Looks (model prog w) hp (isInstance (.ref x) (.type "BaseException")) true := K0.andThen (looks_subIn X c.hs)
  have n0 : (false && onTheHeap (Value.builtin "BaseException.__getattribute__")) = false := rfl
  have n2 : (Value.builtin "BaseException.__getattribute__" == Value.builtin "object.__getattribute__") = false := by decide +kernel
  have n1 : (onTheHeap (Value.ref D) && Value.builtin "BaseException.__getattribute__" == Value.builtin "object.__getattribute__") = false := by rw [n2]; rfl
  unfold getAttr? getAttrBy? getAttrBy
  refine wpAny_bind (wpAny_mkText (wpAny_bind (wpAny_attempt (wpAny_holding (wpAny_bind (K0.at (wpAny_bind (K1.at ?_))))))))
  show wpAny _ _ (if (onTheHeap (Value.ref D) && Value.builtin "BaseException.__getattribute__" == Value.builtin "object.__getattribute__") = true then _ else _) _ _ _
  rw [n1, if_neg Bool.false_ne_true]
  unfold getAttrByItsOwn hookBefore
  refine wpAny_bind ?_
  rw [if_pos (show onTheHeap (Value.ref D) = true from rfl)]
  refine K2.at ?_
  refine wpAny_bind (wpAny_attempt (wpAny_holding ?_))
  unfold callGetattribute
  rw [n0, if_neg Bool.false_ne_true]
  unfold boundAndCalled
  rw [PySem.F.excAttr_ValueError.ga.bind (.ref x)]
  refine wpAny_bind (wpAny_pure ?_)
  show wpAny _ _ (call (.builtin "BaseException.__getattribute__") [.ref x, .str "__class__" t]) _ _ _
  refine wpAny_call (codeAny_call_builtin PySem.F.excAttr_ValueError.ga.plain PySem.F.entry_bexc_ga ?_)
  refine @check_slot (model prog w) _ _ ⟨hp, g, d, t + 1, os⟩ "BaseException.__getattribute__" "BaseException" "__getattribute__" (.ref x) [.str "__class__" t] [] _ (by decide +kernel) (by decide +kernel) hsub (PySem.F.args_bexc_ga (.ref x) (.str "__class__" t)) ?_
  unfold Builtin.«object.__getattribute__»
  refine wpAny_bind (wpAny_of_eq (a := ((Value.ref x : Value), [Value.str "__class__" t])) (by first | rfl | (simp only [slotArgs]; rfl)) ?_)
  refine wpAny_bind (wpAny_pure (wpAny_bind (K0.at (wpAny_bind (K3.at ?_)))))
  show wpAny _ _ (holding [Value.builtin "object.__class__"] (call (.builtin "getset_descriptor.__get__") [.builtin "object.__class__", .ref x, .ref D]) >>= ret) _ _ _
  refine wpAny_bind (wpAny_holding (wpAny_call (class_get (s := ⟨hp, g, d, t + 1, os⟩) (ox := ox) (od := od) X I c.hm ?_)))
  refine wpAny_pure ?_
  show wpAny _ _ (handedOut (.ref D)) _ _ _
  rw [handedOut_of (v := .ref D) rfl]
  first
    | exact wpAny_pure (wpAny_pure h)
    | exact wpAny_pure h
    | exact wpAny_pure (wpAny_bind (wpAny_pure (wpAny_pure h)))
theorem kitx_excX (c : L2.ExcC K D) : KitX K (.ref x) (.ref D) (fun h => ∃ od, InstAt h x ox D od) where
  ty := fun _ _ _ ⟨_, I⟩ => I.type
  it := fun _ _ X _ => by
    obtain ⟨cd, hcD, _⟩ := any_some c.hd
    unfold clsIn at hcD
    split at hcD
    · rename_i ho
      intro A' Q' E' s' k q
      unfold isType loadHead
      exact wpAny_bind (wpAny_loadPart (k _ _ (X _ _ ho)) (wpAny_pure q))
    · cases hcD
  ne := fun h tp dd its n sl X htp => by
    obtain ⟨cd, hcD, _⟩ := any_some c.hd
    refine Bool.eq_false_iff.mpr fun q => ?_
    have e : D = tp := Value.ref.inj (beq_iff_eq.mp q)
    subst e
    unfold clsIn at hcD
    split at hcD
    · rename_i ho
      have z := (X _ _ ho).symm.trans htp
      cases z
    · cases hcD
  ca := fun X ⟨_, I⟩ k => kin_classX c X I k
end
end PySem.W
namespace M
open PySem PySem.Spec PyProof.Rows L2
/-- isinstance(e, c), e the exception at a that the suite holds -/
def rIsX (K : PySem.W.Frag) (a : Addr) (cls : Value) (d : Option Addr) : List V → Hp → VK → Prop := fun xs H Q => ∃ (c : V) (cv : Value) (D : Addr) (b : Bool), xs = [.ref a, c] ∧ (∀ u, RelV c u → u = cv) ∧ cls = .ref D ∧ ExcC K D ∧
  (d = none ∨ ∃ dd fs, d = some dd ∧ H dd = some (.xd fs)) ∧ PySem.W.kitOne K (.ref D) cv = some b ∧ Q (.bl b) H
theorem call_isX {X : Cx} {a : Addr} {cls : Value} {d : Option Addr} {oe : Obj} {pn : List (Addr × Obj)} (hz : L2N.Zn cls d oe) (hf : ∃ vs, oe.data = .fields vs) : CallR (X.suite a ((a, oe) :: pn)) (.builtin "isinstance") (rIsX X.K a cls d) := by
  intro pins s σ H xs us Q I r h
  obtain ⟨c, cv, D, b, rfl, hcv, ec, hC, hd, e, q⟩ := h
  subst ec
  cases r with
  | cons rx rr =>
    cases rr with
    | cons rt rr =>
      cases rr
      cases rx
      cases hcv _ rt
      obtain ⟨hget, _⟩ := I.pin (a, oe) (List.mem_append.mpr (.inl List.mem_cons_self))
      obtain ⟨vs, hv⟩ := hf
      obtain ⟨od, J⟩ : ∃ od, PySem.W.InstAt s.heap a oe D od := by
        obtain ⟨oc, od, oda, osl⟩ := oe
        obtain ⟨h1, h2, _⟩ := hz
        dsimp only at h1 h2 hv
        subst h1 h2 hv
        rcases hd with hd | ⟨dd, fs, hd, hx⟩
        · subst hd
          exact ⟨none, hget, rfl, rfl, trivial⟩
        · subst hd
          have hx : ObjOk X.prog X.w H s.heap dd (.xd fs) := I.hok dd _ hx
          obtain ⟨mA, hns, hr⟩ := hx
          obtain ⟨o, ho, _⟩ := lookIn_ns hns
          exact ⟨some o, hget, rfl, rfl, ho⟩
      exact PySem.W.kia_one (PySem.W.kitx_excX hC) I.kIn ⟨od, J⟩ e (fun z => nomatch z) fun tk => ⟨.bl b, H, I.kept (t' := tk) fun _ _ z => z, rfl, q⟩
section
variable {X : Cx} {ca : Nat → Addr} {a : Addr} {cls : Value} {d : Option Addr} {oe : Obj} {pn : List (Addr × Obj)} {W : WX} {i : Nat} {eE eK : Expr} {pos q : Pos}
theorem slot_exc {K : PySem.W.Frag} {G : Gh} {Hf H : Hp} {env : M.Env} {σ : L2.St} {x : ExcV} (r : RR K ca (some (a, cls, d)) G Hf env σ H) (h : env[i]? = some (.exc x)) : σ[i]? = some (some (.ref a)) ∧ RepX K ca Hf x cls d := by
  obtain ⟨fps, l, m, k⟩ := r.slots
  have hi := (List.getElem?_eq_some_iff.mp h).1
  have h1 : i < σ.length := by rw [← r.len]; exact hi
  have h2 : i < fps.length := by rw [l]; exact hi
  obtain ⟨a', cls', d', e0, e1, e2⟩ := k i _ σ[i] fps[i] h (List.getElem?_eq_getElem h1) (List.getElem?_eq_getElem h2)
  cases e0
  exact ⟨by rw [List.getElem?_eq_getElem h1, e1], e2⟩
theorem repX_d {K : PySem.W.Frag} {Hf H : Hp} {x : ExcV} (s : Same Hf H) (h : RepX K ca Hf x cls d) : d = none ∨ ∃ dd fs, d = some dd ∧ H dd = some (.xd fs) := by
  rcases h.2 with h | ⟨dd, gs, e1, e2, _⟩
  · exact .inl h.2
  · exact .inr ⟨dd, gs, e1, s _ _ e2⟩
/-- isinstance(e, C) -/
theorem me_xis {sub : Sub} {c : V} {cv : Value} (hz : L2N.Zn cls d oe) (hf : ∃ vs, oe.data = .fields vs) (hv : PE (X.suite a ((a, oe) :: pn)) eE (tVar i)) (hC : PE (X.suite a ((a, oe) :: pn)) eK (tC c)) (hcv : ∀ u, RelV c u → u = cv)
    (hk : ∀ n b, sub n = some b → ExcC X.K (ca n) ∧ PySem.W.kitOne X.K (.ref (ca n)) cv = some b) (hg : Gl X "isinstance") (hm : X.mg "isinstance" = none)
    (h1 : starEach [eE, eK] X.env = (false, eval eE X.env) :: starEach [eK] X.env := by rfl) (h2 : starEach [eK] X.env = (false, eval eK X.env) :: starEach [] X.env := by rfl) (h3 : (backTo pos (starEach [eK] X.env)).any (·.1) = false := by rfl) :
    ME (X.suite a ((a, oe) :: pn)) ⟨ca, some (a, cls, d), W⟩ (.Call (.Name "isinstance" q) [eE, eK] [] pos) (eXis i sub) := by
  refine PE.imp (pe_callB (call_isX hz hf) hg hm rfl (pa_cons hv (pa_cons hC pa_nil h2) h1) (by decide) (by decide) h1 h3) fun σ H Q ⟨G, Hf, env, r, m⟩ => ?_
  unfold eXis at m
  split at m
  · rename_i x hx
    split at m
    · rename_i b hb
      obtain ⟨s1, rx⟩ := slot_exc r hx
      obtain ⟨k1, k2⟩ := hk _ _ hb
      exact ⟨.ref a, s1, c, cv, ca x.cls, b, rfl, hcv, rx.1, k1, repX_d r.sub rx, k2, m.rep r.sub rfl⟩
    · exact m.no.elim
  · exact m.no.elim
/-- e.f -/
theorem me_xf {ok : Nat → Bool} {f : Str} (hz : L2N.Zn cls d oe) (hf : ∃ vs, oe.data = .fields vs) (hv : PE (X.suite a ((a, oe) :: pn)) eE (tVar i)) (hk : ∀ n, ok n = true → XfC X.K (ca n) ∧ PySem.W.findIn X.K (.ref (ca n)) f = some none)
    (hb : attributeBase eE f X.env (eval eE X.env) = eval eE X.env := by rfl) : ME (X.suite a ((a, oe) :: pn)) ⟨ca, some (a, cls, d), W⟩ (.Attribute eE f pos) (eXf i ok f) := by
  refine ⟨fun pins s σ H Q I h => ?_⟩
  obtain ⟨G, Hf, env, r, m⟩ := h
  unfold eXf at m
  split at m
  · rename_i x hx
    split at m
    · rename_i ho
      split at m
      · rename_i y hy
        obtain ⟨s1, rx⟩ := slot_exc r hx
        obtain ⟨k1, k2⟩ := hk _ ho
        refine (pe_xf k1 k2 hz.zc hf hv hb).run pins s σ H Q I ⟨.ref a, s1, rfl, rx.1, ?_⟩
        rcases rx.2 with ⟨e, _⟩ | ⟨dd, gs, e1, e2, e3⟩
        · rw [e] at hy; cases hy
        · have look : ∀ {fs : List (Str × D)} {gs : List (Str × V)}, RepF X.K ca Hf fs gs → fs.lookup f = some y → ∃ v, gs.lookup f = some v ∧ Rep X.K ca Hf y v := by
            intro fs
            induction fs with
            | nil => intro gs _ e; cases e
            | cons p fs ih =>
              intro gs r e
              unfold RepF at r
              obtain ⟨v, gs', rfl, r1, r2⟩ := r
              obtain ⟨pf, pd⟩ := p
              simp only [List.lookup] at e ⊢
              cases hq : f == pf with
              | true => rw [hq] at e; cases e; exact ⟨v, rfl, r1⟩
              | false => rw [hq] at e; exact ih r2 e
          obtain ⟨v, l1, l2⟩ := look e3 hy
          exact ⟨dd, gs, v, e1, r.sub _ _ e2, l1, m.rep r.sub l2⟩
      · exact m.no.elim
    · exact m.no.elim
  · exact m.no.elim
end
end M
namespace M
/-- a table of classes -/
def subT (l : List (Nat × Bool)) : Sub := fun n => l.lookup n
end M
/-! MUse2: what the printed walks lean on. -/
namespace M
open PySem PySem.Spec PyProof.Rows L2
def AllB : List (Nat × Bool) → (Nat → Bool → Prop) → Prop
  | [], _ => True
  | p :: r, f => f p.1 p.2 ∧ AllB r f
theorem allB {l : List (Nat × Bool)} {f : Nat → Bool → Prop} (h : AllB l f) : ∀ (n : Nat) (b : Bool), subT l n = some b → f n b := by
  induction l with
  | nil => intro n b e; cases e
  | cons p r ih =>
    intro n b e
    obtain ⟨k, c⟩ := p
    unfold subT List.lookup at e
    by_cases q : n = k
    · subst q
      rw [show (n == n) = true from beq_self_eq_true n] at e
      cases e
      exact h.1
    · have q' : (n == k) = false := by simpa using q
      rw [q'] at e
      exact ih h.2 n b e
theorem exmOk {l : List (Nat × Bool)} {K : PySem.W.Frag} {ca : Nat → Addr} {c : Value} (h : AllB l fun n b => PySem.W.exmOne K (.ref (ca n)) c = some b) : ∀ (n : Nat) (b : Bool), subT l n = some b → PySem.W.exmOne K (.ref (ca n)) c = some b := allB h
theorem isiOk {l : List (Nat × Bool)} {K : PySem.W.Frag} {ca : Nat → Addr} {c : Value} (h : AllB l fun n b => ExcC K (ca n) ∧ PySem.W.kitOne K (.ref (ca n)) c = some b) : ∀ (n : Nat) (b : Bool), subT l n = some b → ExcC K (ca n) ∧ PySem.W.kitOne K (.ref (ca n)) c = some b := allB h
def AllN : List Nat → (Nat → Prop) → Prop
  | [], _ => True
  | p :: r, f => f p ∧ AllN r f
theorem allN {l : List Nat} {f : Nat → Prop} (h : AllN l f) : ∀ n, l.contains n = true → f n := by
  induction l with
  | nil => intro n e; cases e
  | cons p r ih =>
    intro n e
    rw [List.contains_cons, Bool.or_eq_true] at e
    rcases e with e | e
    · have : n = p := by simpa using e
      subst this; exact h.1
    · exact ih h.2 n e
theorem xfOk {l : List Nat} {K : PySem.W.Frag} {ca : Nat → Addr} {f : Str} (h : AllN l fun n => XfC K (ca n) ∧ PySem.W.findIn K (.ref (ca n)) f = some none) : ∀ n, l.contains n = true → XfC K (ca n) ∧ PySem.W.findIn K (.ref (ca n)) f = some none := allN h
def RaisesK (K : PySem.W.Frag) (cls : Value) : Prop := ∀ (M : Model) (h : Heap), K.In h → PySem.W.Looks M h (isSubtype cls (.type "BaseException")) true ∧ PySem.W.Looks M h (typeOf cls) (.type "type")
theorem raisesK {K : PySem.W.Frag} {cls : Value} (h1 : PySem.W.subIn K cls (.type "BaseException") = some true) (h2 : PySem.W.typeIn K cls = some (.type "type")) : RaisesK K cls := fun _ _ k => ⟨PySem.W.looks_subIn k h1, PySem.W.looks_typeIn k h2⟩
abbrev bmVE : List Value := [.type "ValueError", .type "Exception", .type "BaseException", .type "object"]
theorem fnOk_stuck {P : Program} {w : World} {K : PySem.W.Frag} {mg : Str → Option Value} {base : Heap} {CX : CXT} {k : Nat} {f : Addr} {fd : FuncData} {ps : List Str} {ca : Nat → Addr} : FnOk P w K mg base CX k f fd ps (spF K ca fun _ => .stuck) :=
  ⟨fun vs H Q E ⟨Hf, ds, _, _, m⟩ => m.elim, fun A outer s H args us vs Q E _ _ _ _ ⟨Hf, ds, _, _, m⟩ => m.elim⟩
theorem hu64 {A : Around} {k : Nat} (hr : Room k A) : A.units + 80 < cLine := by have := hr.un; omega
theorem hu2 {A : Around} {k : Nat} (hr : Room k A) : A.units < cLine := by have := hr.un; omega
theorem takesF {X : Cx} : L2N.Takes X (fun _ _ _ _ => False) := fun u s' ⟨a, B, sI, pins, σ, H, cls, d, e, I, nb, up, sky, na, os, ag, w⟩ => w.elim
theorem kit_ref {K : PySem.W.Frag} {c d : Addr} {b : Bool} (h1 : PySem.W.isClsIn K d = true) (h2 : PySem.W.typeIn K (.ref d) = some (.type "type")) (h3 : PySem.W.subIn K (.ref c) (.ref d) = some b) (h4 : c = d → b = true) : PySem.W.kitOne K (.ref c) (.ref d) = some b := by
  unfold PySem.W.kitOne
  by_cases e : c = d
  · subst e
    rw [h4 rfl]
    simp
  · have n : ((Value.ref c : Value) == .ref d) = false := by simpa using e
    rw [n, if_neg Bool.false_ne_true]
    have h1' : (PySem.W.clsIn K d).isSome = true := h1
    unfold PySem.W.kitCls
    simp only [h1', h2, h3]
    rfl
theorem kit_bt {K : PySem.W.Frag} {c : Addr} {T : String} {b : Bool} (h1 : PySem.W.kitMeta T = true) (h3 : PySem.W.subIn K (.ref c) (.type T) = some b) : PySem.W.kitOne K (.ref c) (.type T) = some b := by
  unfold PySem.W.kitOne
  have n : ((Value.ref c : Value) == .type T) = false := rfl
  rw [n, if_neg Bool.false_ne_true]
  unfold PySem.W.kitCls
  simp only [h1, h3]
  rfl
/-- the end -/
theorem walk_end {l : PySem.W.OpenLaw} {k : Nat} {q : Program} {loose : List Str} {XP : (Str → Option Value) → Heap → Prop} {YP : World → Heap → Prop} {d : DefRec} {K : Params → PySem.W.Frag} {F0 : M.Fn} (hn : l.most = some 63) (hdf : d.params.defaults = []) (hr : Room k callerA)
    (hY : ∀ (w : World) (h : Heap), YP w h → (K w.params).In h)
    (F : ∀ (w : World) (mg : Str → Option Value) (fa : Addr) (h : Heap), (K w.params).In h → h.Ns mainGlobals mg → mg d.name = some (.ref fa) →
      ∃ fd : FuncData, (∀ (s : Shared) (u : Value), BindsTo s fd ⟨[u], []⟩ [("script", u)]) ∧ ∀ base : Heap, (K w.params).In base → base.Ns mainGlobals mg → ∃ C : Nat → Addr, FnOk l.prog w (K w.params) mg base (L2N.CX l.prog w) k fa fd ["script"] (spF (K w.params) C F0))
    (hF : ∀ ns : List Int, ns.length ≤ 63 → (∀ z ∈ ns, Builtin.Int.intBits z ≤ 1048576) → F0 [.lst (ns.map .int)] = .ok (.val (.bl true))) :
    PySem.W.WalkO q loose XP YP l.row.toRowW d [] (fun f vs => PySem.call f vs) := by
  refine L2.walk_ofB (l := l) (n := 63) (k := k) (x := "script") (CX := fun w => L2N.CX l.prog w) (sp := fun w vs H Q _ => ∃ (a : Addr) (ns : List Int), vs = [.ref a] ∧ ns.length ≤ 63 ∧ (∀ z ∈ ns, Builtin.Int.intBits z ≤ 1048576) ∧ SqL (K w.params) H a (ns.map V.int) ∧ ∀ v H', v = .bl true → Q v H') hn (by decide) hdf hr hY
    (fun w mg fa h KX G hm => ?_) (fun w H a ns h1 h2 h3 h4 => ⟨a, ns, rfl, h1, h2, h4, fun v _ e => e⟩) fun w H s e s' h => ?_
  · obtain ⟨fd, hb, hf⟩ := F w mg fa h KX G hm
    refine ⟨fd, hb, fun base k1 k2 => ?_⟩
    obtain ⟨C, ok⟩ := hf base k1 k2
    refine ok.imp fun vs H Q E ⟨a, ns, e1, h1, h2, h3, q⟩ => ?_
    subst e1
    have intsR : ∀ ns : List Int, RepL (K w.params) C H (ns.map .int) (ns.map V.int) := by
      intro ns
      induction ns with
      | nil => unfold RepL; rfl
      | cons n r ih =>
        show RepL _ C H (.int n :: r.map .int) _
        unfold RepL
        exact ⟨.int n, r.map V.int, rfl, rfl, ih⟩
    refine ⟨H, [.lst (ns.map .int)], Same.refl _, RepL.one ?_, ?_⟩
    · unfold Rep
      exact ⟨a, _, rfl, h3, intsR ns⟩
    · rw [hF ns h1 h2]
      exact fun v Hf' H' _ rv => q v H' rv
  · obtain ⟨a, B, H', cls, d, _, _, _, _, _, _, _, hE⟩ := h
    exact hE
end M
/-! MPure: the mirrors are reckoned with. -/
namespace M
open PySem (Str)
section
variable (env : Env) (i : Nat) (a b c : CE) (t u : CT) (al : CA) (s s' : CS) (d : D) (f g : D → D → Out D) (h : D → Out D) (F : Fn)
@[simp] theorem eC_a : eC d env = .ok d := eqOf rfl
@[simp] theorem eVar_a : eVar i env = match env[i]? with | some (.val d) => .ok d | _ => .stuck := eqOf rfl
@[simp] theorem ePeek_a : ePeek i env = match env[i]? with | some (.val d) => .ok d | some (.own (.lst xs)) => .ok (.lst xs) | some (.own (.dct ks vs)) => .ok (.dct ks vs) | some (.own (.dctT ks vs)) => .ok (.dctT ks vs) | some (.io xs) => .ok (.lst xs) | _ => .stuck := eqOf rfl
@[simp] theorem eOp1_a : eOp1 h a env = (a env).bind h := eqOf rfl
@[simp] theorem eOp2_a : eOp2 f a b env = (a env).bind fun x => (b env).bind fun y => f x y := eqOf rfl
@[simp] theorem eIf_a : eIf t a b env = (t env).bind fun c => if c then a env else b env := eqOf rfl
@[simp] theorem eAnd_a : eAnd a b env = (a env).bind fun x => match x with | .bl true => b env | .bl false => .ok (.bl false) | _ => .stuck := eqOf rfl
@[simp] theorem eOr_a : eOr a b env = (a env).bind fun x => match x with | .bl true => .ok (.bl true) | .bl false => b env | _ => .stuck := eqOf rfl
@[simp] theorem eNot_a : eNot a env = (a env).bind fun x => match x with | .bl c => .ok (.bl (!c)) | _ => .stuck := eqOf rfl
@[simp] theorem eChain_a : eChain f g a b c env = (a env).bind fun x => (b env).bind fun y => (f x y).bind fun z => match z with
  | .bl true => (c env).bind fun w => g y w
  | .bl false => .ok (.bl false)
  | _ => .stuck := eqOf rfl
@[simp] theorem aNil_a : aNil env = .ok [] := eqOf rfl
@[simp] theorem aCons_a : aCons a al env = (a env).bind fun x => (al env).bind fun xs => .ok (x :: xs) := eqOf rfl
@[simp] theorem eTup_a : eTup al env = (al env).bind fun xs => sized xs.length (.tup xs) := eqOf rfl
@[simp] theorem eB_a (k : List D → Out D) : eB k al env = (al env).bind k := eqOf rfl
@[simp] theorem eCall_a : eCall F al env = (al env).bind fun ds => (F ds).bind Sl.shared := eqOf rfl
@[simp] theorem eShare_a (k : CF) : eShare k env = (k env).bind fun o => .ok o.shared := eqOf rfl
@[simp] theorem fLst_a : fLst al env = (al env).bind fun xs => sized xs.length (.lst xs) := eqOf rfl
@[simp] theorem fB_a (k : List D → Out (List D)) : fB k al env = (al env).bind fun xs => (k xs).bind fun ys => .ok (.lst ys) := eqOf rfl
@[simp] theorem fOp2_a (k : D → D → Out (List D)) : fOp2 k a b env = (a env).bind fun x => (b env).bind fun y => (k x y).bind fun ys => .ok (.lst ys) := eqOf rfl
@[simp] theorem fRepO_a (k : CF) : fRepO k b env = (k env).bind fun o => (b env).bind fun y => match o with
  | .lst xs => (fRep (.lst xs) y).bind fun ys => .ok (.lst ys)
  | _ => .stuck := eqOf rfl
@[simp] theorem tVal_a : tVal a env = (a env).bind fun x => match x with | .bl c => .ok c | _ => .stuck := eqOf rfl
@[simp] theorem tNot_a : tNot t env = (t env).bind fun c => .ok (!c) := eqOf rfl
@[simp] theorem tAnd_a : tAnd t u env = (t env).bind fun c => if c then u env else .ok false := eqOf rfl
@[simp] theorem tOr_a : tOr t u env = (t env).bind fun c => if c then .ok true else u env := eqOf rfl
@[simp] theorem tTrue_a : tTrue env = .ok true := eqOf rfl
@[simp] theorem sNext_a : sNext env = .next env := eqOf rfl
@[simp] theorem sSeq_a : sSeq s s' env = match s env with | .next e => s' e | r => r := eqOf rfl
@[simp] theorem sSet_a : sSet i a env = (a env).fl env fun d => .next (env.set i (.val d)) := eqOf rfl
@[simp] theorem sSetF_a (k : CF) : sSetF i k env = (k env).fl env fun o => .next (env.set i (.own o)) := eqOf rfl
@[simp] theorem sSetCall_a : sSetCall i F al env = ((al env).bind fun ds => F ds).fl env fun s => match s with
  | .val d => .next (env.set i (.val d)) | .own o => .next (env.set i (.own o)) | _ => .stuck := eqOf rfl
@[simp] theorem sDrop_a : sDrop a env = (a env).fl env fun _ => .next env := eqOf rfl
@[simp] theorem sRet_a : sRet a env = (a env).fl env fun d => .ret (.val d) := eqOf rfl
@[simp] theorem sRetN_a : sRetN env = .ret (.val .non) := eqOf rfl
@[simp] theorem sRetOwn_a : sRetOwn i env = match env[i]? with | some (.val d) => .ret (.val d) | some (.own o) => .ret (.own o) | _ => .stuck := eqOf rfl
@[simp] theorem sRetF_a (k : CF) : sRetF k env = (k env).fl env fun o => .ret (.own o) := eqOf rfl
@[simp] theorem sRetCall_a : sRetCall F al env = ((al env).bind fun ds => F ds).fl env fun s => match s with | .val d => .ret (.val d) | .own o => .ret (.own o) | _ => .stuck := eqOf rfl
@[simp] theorem sIf_a : sIf t s s' env = (t env).fl env fun c => if c then s env else s' env := eqOf rfl
@[simp] theorem sBrk_a : sBrk env = .brk env := eqOf rfl
@[simp] theorem sCont_a : sCont env = .cont env := eqOf rfl
@[simp] theorem sFreeze_a : sFreeze i s env = match env[i]? with | some (.own o) => s (env.set i (.val o.shared)) | _ => s env := eqOf rfl
@[simp] theorem sAppend_a : sAppend i a env = match env[i]? with
  | some (.own (.lst xs)) => (a env).fl env fun d => if xs.length < line then .next (env.set i (.own (.lst (xs ++ [d])))) else .stuck
  | _ => .stuck := eqOf rfl
@[simp] theorem sSetTg_a (k : Tg) : sSetTg k a env = (a env).fl env fun d => match k d env with | some e => .next e | none => .stuck := eqOf rfl
@[simp] theorem gName_a : gName i d env = some (env.set i (.val d)) := eqOf rfl
@[simp] theorem gTup_a (gs : List Tg) (ds : List D) : gTup gs (.tup ds) env = gMany gs ds env := eqOf rfl
@[simp] theorem gMany_n : gMany [] [] env = some env := eqOf rfl
@[simp] theorem gMany_c (k : Tg) (gs : List Tg) (ds : List D) : gMany (k :: gs) (d :: ds) env = (k d env).bind (gMany gs ds) := eqOf rfl
@[simp] theorem sFor_a (it : CA) (k : Tg) : sFor it k s env = (it env).fl env fun ds => forGo k s ds env := eqOf rfl
@[simp] theorem iSeq_a : iSeq a env = (a env).bind dItems := eqOf rfl
@[simp] theorem iB_a (k : List D → Out (List D)) : iB k al env = (al env).bind k := eqOf rfl
@[simp] theorem dItems_l (xs : List D) : dItems (.lst xs) = .ok xs := eqOf rfl
@[simp] theorem dItems_t (xs : List D) : dItems (.tup xs) = .ok xs := eqOf rfl
@[simp] theorem sRaise_a (n : Nat) (fs : List Str) : sRaise n fs al env = (al env).fl env fun ds => if ds.length = fs.length then .exc ⟨n, fs.zip ds⟩ env else .stuck := eqOf rfl
@[simp] theorem sTryAs_a (k : Sub) : sTryAs s k i s' env = match s env with
  | .exc x e => (match k x.cls with
    | some true => (s' ((clr e).set i (.exc x))).calm.unset i
    | some false => .exc x e
    | none => .stuck)
  | r => r := eqOf rfl
@[simp] theorem eXis_a (k : Sub) : eXis i k env = match env[i]? with | some (.exc x) => (match k x.cls with | some b => .ok (.bl b) | none => .stuck) | _ => .stuck := eqOf rfl
@[simp] theorem eXf_a (k : Nat → Bool) (n : Str) : eXf i k n env = match env[i]? with
  | some (.exc x) => if k x.cls = true then (match x.fs.lookup n with | some d => .ok d | none => .stuck) else .stuck
  | _ => .stuck := eqOf rfl
@[simp] theorem fComp_a (vs : List Nat) (it : CA) (k : Tg) : fComp vs it k t a env = (it env).bind fun ds => (lcGo k t a ds (wipeE env vs) []).bind fun xs => .ok (.lst xs) := eqOf rfl
@[simp] theorem oNo_a : oNo env = .ok none := eqOf rfl
@[simp] theorem oSome_a : oSome a env = (a env).bind fun x => match x with | .int i => .ok (some i) | _ => .stuck := eqOf rfl
@[simp] theorem eSl_a (lo hi : CO) : eSl a lo hi env = (a env).bind fun x => (lo env).bind fun l => (hi env).bind fun h => dSl x l h := eqOf rfl
@[simp] theorem fSl_a (lo hi : CO) : fSl a lo hi env = (a env).bind fun x => (lo env).bind fun l => (hi env).bind fun h => (lSl x l h).bind fun xs => .ok (.lst xs) := eqOf rfl
end
@[simp] theorem wipeE_n (env : Env) : wipeE env [] = env := eqOf rfl
@[simp] theorem wipeE_c (env : Env) (v : Nat) (vs : List Nat) : wipeE env (v :: vs) = (wipeE env vs).set v .un := eqOf rfl
@[simp] theorem shared_val (d : D) : Sl.shared (.val d) = .ok d := eqOf rfl
@[simp] theorem shared_lst (xs : List D) : Sl.shared (.own (.lst xs)) = .ok (.lst xs) := eqOf rfl
@[simp] theorem oshared_lst (xs : List D) : Own.shared (.lst xs) = .lst xs := eqOf rfl
@[simp] theorem shared_dct (ks vs : List D) : Sl.shared (.own (.dct ks vs)) = .ok (.dct ks vs) := eqOf rfl
@[simp] theorem oshared_dct (ks vs : List D) : Own.shared (.dct ks vs) = .dct ks vs := eqOf rfl
@[simp] theorem shared_dctT (ks vs : List D) : Sl.shared (.own (.dctT ks vs)) = .ok (.dctT ks vs) := eqOf rfl
@[simp] theorem oshared_dctT (ks vs : List D) : Own.shared (.dctT ks vs) = .dctT ks vs := eqOf rfl
@[simp] theorem out_ret (r : Sl) : (Fl.ret r).out = .ok r := eqOf rfl
@[simp] theorem out_next (e : Env) : (Fl.next e).out = .ok (.val .non) := eqOf rfl
@[simp] theorem out_exc (x : ExcV) (e : Env) : (Fl.exc x e).out = .exc x := eqOf rfl
@[simp] theorem unset_ret (i : Nat) (r : Sl) : Fl.unset i (.ret r) = .ret r := eqOf rfl
@[simp] theorem unset_next (i : Nat) (e : Env) : Fl.unset i (.next e) = .next ((clr e).set i .un) := eqOf rfl
@[simp] theorem calm_ret (r : Sl) : Fl.calm (.ret r) = .ret r := eqOf rfl
@[simp] theorem calm_next (e : Env) : Fl.calm (.next e) = .next e := eqOf rfl
@[simp] theorem clr_n : clr [] = [] := eqOf rfl
@[simp] theorem clr_v (d : D) (e : Env) : clr (.val d :: e) = .val d :: clr e := eqOf rfl
@[simp] theorem clr_o (d : Own) (e : Env) : clr (.own d :: e) = .own d :: clr e := eqOf rfl
@[simp] theorem clr_u (e : Env) : clr (.un :: e) = .un :: clr e := eqOf rfl
@[simp] theorem clr_io (xs : List D) (e : Env) : clr (.io xs :: e) = .un :: clr e := eqOf rfl
@[simp] theorem clr_x (x : ExcV) (e : Env) : clr (.exc x :: e) = .un :: clr e := eqOf rfl
theorem fn_a {p n : Nat} {b : CS} {ds : List D} (h : ds.length = p) : fn p n b ds = (b (startE n ds)).out := by unfold fn; rw [if_pos h]
theorem sized_a {α : Type} (n : Nat) (x : α) (h : n ≤ line) : sized n x = .ok x := by unfold sized; rw [if_pos h]
@[simp] theorem sized_0 {α : Type} (x : α) : sized 0 x = .ok x := sized_a _ _ (by decide)
@[simp] theorem sized_1 {α : Type} (x : α) : sized 1 x = .ok x := sized_a _ _ (by decide)
@[simp] theorem sized_2 {α : Type} (x : α) : sized 2 x = .ok x := sized_a _ _ (by decide)
@[simp] theorem sized_3 {α : Type} (x : α) : sized 3 x = .ok x := sized_a _ _ (by decide)
@[simp] theorem sized_4 {α : Type} (x : α) : sized 4 x = .ok x := sized_a _ _ (by decide)
@[simp] theorem sized_5 {α : Type} (x : α) : sized 5 x = .ok x := sized_a _ _ (by decide)
@[simp] theorem sized_6 {α : Type} (x : α) : sized 6 x = .ok x := sized_a _ _ (by decide)
@[simp] theorem sized_7 {α : Type} (x : α) : sized 7 x = .ok x := sized_a _ _ (by decide)
@[simp] theorem sized_8 {α : Type} (x : α) : sized 8 x = .ok x := sized_a _ _ (by decide)
@[simp] theorem sized_9 {α : Type} (x : α) : sized 9 x = .ok x := sized_a _ _ (by decide)
@[simp] theorem sized_10 {α : Type} (x : α) : sized 10 x = .ok x := sized_a _ _ (by decide)
@[simp] theorem sized_11 {α : Type} (x : α) : sized 11 x = .ok x := sized_a _ _ (by decide)
@[simp] theorem sized_12 {α : Type} (x : α) : sized 12 x = .ok x := sized_a _ _ (by decide)
@[simp] theorem sized_13 {α : Type} (x : α) : sized 13 x = .ok x := sized_a _ _ (by decide)
@[simp] theorem sized_14 {α : Type} (x : α) : sized 14 x = .ok x := sized_a _ _ (by decide)
@[simp] theorem sized_15 {α : Type} (x : α) : sized 15 x = .ok x := sized_a _ _ (by decide)
@[simp] theorem sized_16 {α : Type} (x : α) : sized 16 x = .ok x := sized_a _ _ (by decide)
@[simp] theorem sized_17 {α : Type} (x : α) : sized 17 x = .ok x := sized_a _ _ (by decide)
@[simp] theorem sized_18 {α : Type} (x : α) : sized 18 x = .ok x := sized_a _ _ (by decide)
@[simp] theorem sized_19 {α : Type} (x : α) : sized 19 x = .ok x := sized_a _ _ (by decide)
@[simp] theorem sized_20 {α : Type} (x : α) : sized 20 x = .ok x := sized_a _ _ (by decide)
@[simp] theorem sized_21 {α : Type} (x : α) : sized 21 x = .ok x := sized_a _ _ (by decide)
@[simp] theorem sized_22 {α : Type} (x : α) : sized 22 x = .ok x := sized_a _ _ (by decide)
@[simp] theorem sized_23 {α : Type} (x : α) : sized 23 x = .ok x := sized_a _ _ (by decide)
@[simp] theorem sized_24 {α : Type} (x : α) : sized 24 x = .ok x := sized_a _ _ (by decide)
@[simp] theorem sized_25 {α : Type} (x : α) : sized 25 x = .ok x := sized_a _ _ (by decide)
@[simp] theorem sized_26 {α : Type} (x : α) : sized 26 x = .ok x := sized_a _ _ (by decide)
@[simp] theorem sized_27 {α : Type} (x : α) : sized 27 x = .ok x := sized_a _ _ (by decide)
@[simp] theorem sized_28 {α : Type} (x : α) : sized 28 x = .ok x := sized_a _ _ (by decide)
@[simp] theorem sized_29 {α : Type} (x : α) : sized 29 x = .ok x := sized_a _ _ (by decide)
@[simp] theorem sized_30 {α : Type} (x : α) : sized 30 x = .ok x := sized_a _ _ (by decide)
@[simp] theorem sized_31 {α : Type} (x : α) : sized 31 x = .ok x := sized_a _ _ (by decide)
@[simp] theorem sized_32 {α : Type} (x : α) : sized 32 x = .ok x := sized_a _ _ (by decide)
@[simp] theorem sized_33 {α : Type} (x : α) : sized 33 x = .ok x := sized_a _ _ (by decide)
@[simp] theorem sized_34 {α : Type} (x : α) : sized 34 x = .ok x := sized_a _ _ (by decide)
@[simp] theorem sized_35 {α : Type} (x : α) : sized 35 x = .ok x := sized_a _ _ (by decide)
@[simp] theorem sized_36 {α : Type} (x : α) : sized 36 x = .ok x := sized_a _ _ (by decide)
theorem fn_1 {n : Nat} {s : CS} (a : D) : fn 1 n s [a] = (s (startE n [a])).out := eqOf rfl
theorem fn_2 {n : Nat} {s : CS} (a b : D) : fn 2 n s [a, b] = (s (startE n [a, b])).out := eqOf rfl
theorem fn_3 {n : Nat} {s : CS} (a b c : D) : fn 3 n s [a, b, c] = (s (startE n [a, b, c])).out := eqOf rfl
theorem fn_4 {n : Nat} {s : CS} (a b c d : D) : fn 4 n s [a, b, c, d] = (s (startE n [a, b, c, d])).out := eqOf rfl
theorem fn_5 {n : Nat} {s : CS} (a b c d e : D) : fn 5 n s [a, b, c, d, e] = (s (startE n [a, b, c, d, e])).out := eqOf rfl
theorem fn_6 {n : Nat} {s : CS} (a b c d e f : D) : fn 6 n s [a, b, c, d, e, f] = (s (startE n [a, b, c, d, e, f])).out := eqOf rfl
theorem fn_7 {n : Nat} {s : CS} (a b c d e f g : D) : fn 7 n s [a, b, c, d, e, f, g] = (s (startE n [a, b, c, d, e, f, g])).out := eqOf rfl
theorem fn_8 {n : Nat} {s : CS} (a b c d e f g h : D) : fn 8 n s [a, b, c, d, e, f, g, h] = (s (startE n [a, b, c, d, e, f, g, h])).out := eqOf rfl
theorem line_v : line = 16777216 := rfl
/-! ### ints -/
section
variable (i j : Int)
@[simp] theorem dAdd_i : dAdd (.int i) (.int j) = .ok (.int (i + j)) := eqOf rfl
@[simp] theorem dSub_i : dSub (.int i) (.int j) = .ok (.int (i - j)) := eqOf rfl
theorem dMul_i (h : smallM i ∨ smallM j) : dMul (.int i) (.int j) = .ok (.int (i * j)) := by show (if _ then _ else _) = _; rw [if_pos h]
@[simp] theorem dLt_i : dLt (.int i) (.int j) = .ok (.bl (decide (i < j))) := eqOf rfl
@[simp] theorem dLe_i : dLe (.int i) (.int j) = .ok (.bl (decide (i ≤ j))) := eqOf rfl
@[simp] theorem dGt_i : dGt (.int i) (.int j) = .ok (.bl (decide (j < i))) := eqOf rfl
@[simp] theorem dGe_i : dGe (.int i) (.int j) = .ok (.bl (decide (j ≤ i))) := eqOf rfl
theorem okD_i : okD (.int i) = true := rfl
@[simp] theorem dEq_i : dEq (.int i) (.int j) = .ok (.bl (decide (i = j))) := by
  show Out.ok (D.bl (i == j)) = _
  exact eqOf rfl
@[simp] theorem dNe_i : dNe (.int i) (.int j) = .ok (.bl (!decide (i = j))) := by
  show Out.ok (D.bl (!(i == j))) = _
  exact eqOf rfl
theorem dMod_i (h : 0 < j) : dMod (.int i) (.int j) = .ok (.int (i % j)) := by
  show (if _ then _ else _) = _
  rw [if_pos (by omega), Int.fmod_eq_emod_of_nonneg _ (by omega)]
theorem dFdiv_w (h : 0 < j) (h2 : j < 2 ^ 200) : dFdiv (.int i) (.int j) = .ok (.int (i / j)) := by
  show (if _ then _ else _) = _
  have e : j.natAbs < 2 ^ 200 := by omega
  rw [if_pos ⟨h, Nat.lt_of_lt_of_le ((Nat.log2_lt (by omega)).mpr e) (by decide)⟩]
theorem dFdiv_i (h : 0 < j) (h2 : j < 1073741824) : dFdiv (.int i) (.int j) = .ok (.int (i / j)) := by
  show (if _ then _ else _) = _
  have e : j.natAbs < 2 ^ 30 := by omega
  rw [if_pos ⟨h, Nat.lt_of_lt_of_le ((Nat.log2_lt (by omega)).mpr e) (by decide)⟩]
/-- 10 ** 18, as a name -/
def big18 : Int := (10 : Int) ^ 18
@[simp] theorem dPow_18 : dPow (.int 10) (.int 18) = .ok (.int big18) := eqOf rfl
@[simp] theorem dNeg_i : dNeg (.int i) = .ok (.int (-i)) := eqOf rfl
@[simp] theorem dInt_i : dInt [.int i] = .ok (.int i) := eqOf rfl
theorem dMax2_i : dMax2 [.int i, .int j] = .ok (.int (if j > i then j else i)) := eqOf rfl
theorem dMin2_i : dMin2 [.int i, .int j] = .ok (.int (if j < i then j else i)) := eqOf rfl
@[simp] theorem dLen_l (xs : List D) : dLen [.lst xs] = .ok (.int xs.length) := eqOf rfl
@[simp] theorem dLen_t (xs : List D) : dLen [.tup xs] = .ok (.int xs.length) := eqOf rfl
@[simp] theorem dList_l (xs : List D) : dList [.lst xs] = .ok xs := eqOf rfl
@[simp] theorem dList_t (xs : List D) : dList [.tup xs] = .ok xs := eqOf rfl
@[simp] theorem dTuple_l (xs : List D) : dTuple [.lst xs] = .ok (.tup xs) := eqOf rfl
@[simp] theorem dTuple_t (xs : List D) : dTuple [.tup xs] = .ok (.tup xs) := eqOf rfl
end
/-! ### literals -/
section
open Lean.Parser.Tactic
theorem mulL (i j : Int) (h : -(2 ^ 64) < i ∧ i < 2 ^ 64) : dMul (.int i) (.int j) = .ok (.int (i * j)) := dMul_i i j (.inl h)
theorem mulR (i j : Int) (h : -(2 ^ 64) < j ∧ j < 2 ^ 64) : dMul (.int i) (.int j) = .ok (.int (i * j)) := dMul_i i j (.inr h)
end
theorem ixN_lt {n k : Nat} (h : k < n) : ixN n (k : Int) = some k := by
  unfold ixN
  rw [if_pos (Int.natCast_nonneg k), if_pos (by omega), Int.toNat_natCast]
theorem ixN_i {n : Nat} {k : Int} (h0 : 0 ≤ k) (h : k < n) : ixN n k = some k.toNat := by
  unfold ixN
  rw [if_pos h0, if_pos h]
theorem dIx_l {xs : List D} {k : Nat} (h : k < xs.length) : dIx (.lst xs) (.int (k : Int)) = .ok xs[k] := by
  show (match ixN xs.length (k : Int) with | some j => (match xs[j]? with | some d => Out.ok d | none => .stuck) | none => .stuck) = _
  rw [ixN_lt h]
  simp [List.getElem?_eq_getElem h]
theorem dIx_t {xs : List D} {k : Nat} (h : k < xs.length) : dIx (.tup xs) (.int (k : Int)) = .ok xs[k] := by
  show (match ixN xs.length (k : Int) with | some j => (match xs[j]? with | some d => Out.ok d | none => .stuck) | none => .stuck) = _
  rw [ixN_lt h]
  simp [List.getElem?_eq_getElem h]
theorem dIx_li {xs : List D} {k : Int} (h0 : 0 ≤ k) (h : k < xs.length) : dIx (.lst xs) (.int k) = .ok (xs[k.toNat]'(by omega)) := by
  obtain ⟨n, rfl⟩ := Int.eq_ofNat_of_zero_le h0
  exact dIx_l (by omega)
theorem dIx_ti {xs : List D} {k : Int} (h0 : 0 ≤ k) (h : k < xs.length) : dIx (.tup xs) (.int k) = .ok (xs[k.toNat]'(by omega)) := by
  obtain ⟨n, rfl⟩ := Int.eq_ofNat_of_zero_le h0
  exact dIx_t (by omega)
/-! ### loops -/
section
variable {g : Tg} {body : CS}
@[simp] theorem forGo_nil {env : Env} : forGo g body [] env = .next env := eqOf rfl
theorem forGo_cons {d : D} {ds : List D} {env e1 : Env} (h : g d env = some e1) : forGo g body (d :: ds) env = match body e1 with
  | .next e => forGo g body ds e | .cont e => forGo g body ds e | .brk e => .next e | r => r := by
  show (match g d env with | none => Fl.stuck | some e1 => _) = _
  rw [h] <;> rfl
/-- each turn goes on: a fold -/
theorem forGo_fold {S : Type} (mk : S → Env) (f : S → D → S) : ∀ (ds : List D) (s : S), (∀ d ∈ ds, ∀ s, ∃ e1, g d (mk s) = some e1 ∧ (body e1 = .next (mk (f s d)) ∨ body e1 = .cont (mk (f s d)))) → forGo g body ds (mk s) = .next (mk (ds.foldl f s))
  | [], s, _ => rfl
  | d :: ds, s, h => by
    obtain ⟨e1, h1, h2⟩ := h d List.mem_cons_self s
    rw [forGo_cons h1, List.foldl_cons, ← forGo_fold mk f ds (f s d) fun d hd => h d (List.mem_cons_of_mem _ hd)]
    rcases h2 with h2 | h2 <;> rw [h2]
/-- .. keeping P -/
theorem forGo_inv' {all : List D} (P : List D → Env → Prop) : ∀ (done ds : List D) (env : Env), all = done ++ ds → P done env → (∀ done d rest env, all = done ++ d :: rest → P done env → ∃ e1, g d env = some e1 ∧ ∃ e2, (body e1 = .next e2 ∨ body e1 = .cont e2) ∧ P (done ++ [d]) e2) → ∃ e2, forGo g body ds env = .next e2 ∧ P all e2
  | done, [], env, e, h0, _ => ⟨env, rfl, by rw [e, List.append_nil]; exact h0⟩
  | done, d :: ds, env, e, h0, h => by
    obtain ⟨e1, h1, e2, h2, h3⟩ := h done d ds env e h0
    obtain ⟨e3, k1, k2⟩ := forGo_inv' P (done ++ [d]) ds e2 (by rw [e]; simp) h3 h
    refine ⟨e3, ?_, k2⟩
    rw [forGo_cons h1]
    rcases h2 with h2 | h2 <;> rw [h2] <;> exact k1
theorem forGo_inv {all : List D} {env : Env} (P : List D → Env → Prop) (h0 : P [] env) (h : ∀ done d rest env, all = done ++ d :: rest → P done env → ∃ e1, g d env = some e1 ∧ ∃ e2, (body e1 = .next e2 ∨ body e1 = .cont e2) ∧ P (done ++ [d]) e2) : ∃ e2, forGo g body all env = .next e2 ∧ P all e2 := forGo_inv' P [] all env rfl h0 h
/-- the first one that p holds of ends it -/
theorem forGo_find (mk : Sl → Env) (p : D → Bool) (r : D → Fl) (hr : ∀ d, ∀ e, r d ≠ .next e ∧ r d ≠ .cont e ∧ r d ≠ .brk e) : ∀ (ds : List D) (x : Sl), (∀ d ∈ ds, ∀ x, g d (mk x) = some (mk (.val d)) ∧ body (mk (.val d)) = if p d = true then r d else .next (mk (.val d))) →
    forGo g body ds (mk x) = match ds.find? p with | some d => r d | none => .next (mk (ds.foldl (fun _ d => .val d) x))
  | [], x, _ => rfl
  | d :: ds, x, h => by
    obtain ⟨h1, h2⟩ := h d List.mem_cons_self x
    rw [forGo_cons h1, h2, List.find?_cons]
    cases q : p d with
    | true =>
      simp only [if_true]
      have z := hr d
      cases q2 : r d with
      | next e => exact absurd q2 (z e).1
      | cont e => exact absurd q2 (z e).2.1
      | brk e => exact absurd q2 (z e).2.2
      | ret s => rfl
      | exc x e => rfl
      | stuck => rfl
    | false =>
      simp only [Bool.false_eq_true, if_false]
      rw [forGo_find mk p r hr ds (.val d) fun d hd => h d (List.mem_cons_of_mem _ hd)]
      rfl
end
@[simp] theorem rangeL_len (lo hi : Int) : (rangeL lo hi).length = (hi - lo).toNat := by simp [rangeL]
theorem rangeL_at {lo hi : Int} {done rest : List D} {d : D} (h : rangeL lo hi = done ++ d :: rest) : d = .int (lo + (done.length : Nat)) ∧ done.length < (hi - lo).toNat := by
  have hl : done.length < (hi - lo).toNat := by
    have := congrArg List.length h
    simp at this; omega
  refine ⟨?_, hl⟩
  have e : (rangeL lo hi)[done.length]? = some d := by rw [h]; simp
  unfold rangeL at e
  rw [List.getElem?_map, List.getElem?_range hl] at e
  exact (Option.some.inj e).symm
theorem range0_at {n : Nat} {done rest : List D} {d : D} (h : rangeL 0 n = done ++ d :: rest) : d = .int (done.length : Nat) ∧ done.length < n := by
  obtain ⟨h1, h2⟩ := rangeL_at h
  exact ⟨by rw [h1, Int.zero_add], by omega⟩
theorem dRange1_i {j : Int} (h : smallI j) : dRange1 [.int j] = .ok (rangeL 0 j) := by
  show (if _ then _ else _) = _
  rw [if_pos h]
theorem dRange2_i {i j : Int} (h : smallI i) (h2 : smallI j) : dRange2 [.int i, .int j] = .ok (rangeL i j) := by
  show (if _ then _ else _) = _
  rw [if_pos ⟨h, h2⟩]
theorem smallI_n {n : Nat} (h : n ≤ 1000000) : smallI (n : Int) := ⟨by omega, by omega⟩
/-! ### comprehensions -/
theorem lcGo_go {g : Tg} {t : CT} {e : CE} {env : Env} (p : D → Bool) (f : D → D) : ∀ (ds acc : List D), (∀ d ∈ ds, ∃ e1, g d env = some e1 ∧ t e1 = .ok (p d) ∧ (p d = true → e e1 = .ok (f d))) → acc.length + ds.length ≤ line → lcGo g t e ds env acc = .ok (acc ++ (ds.filter p).map f)
  | [], acc, _, _ => by simp [lcGo]
  | d :: ds, acc, h, hl => by
    obtain ⟨e1, h1, h2, h3⟩ := h d List.mem_cons_self
    have hl' : acc.length + (ds.length + 1) ≤ line := hl
    unfold lcGo
    rw [h1]
    simp only [h2, Out.calm, Out.bind_ok]
    cases q : p d with
    | true =>
      simp only [if_true, h3 q, Out.bind_ok]
      rw [if_pos (by omega), lcGo_go p f ds (acc ++ [f d]) (fun d hd => h d (List.mem_cons_of_mem _ hd)) (by simp; omega)]
      simp [q]
    | false =>
      simp only [Bool.false_eq_true, if_false]
      rw [lcGo_go p f ds acc (fun d hd => h d (List.mem_cons_of_mem _ hd)) (by omega)]
      simp [q]
/-! ### == of a thing with itself -/
mutual
theorem eqD_refl : ∀ (x : D) (n : Nat), okN n x = true → eqD x x = true
  | .non, _, _ => rfl
  | .bl b, _, _ => by cases b <;> rfl
  | .int i, _, _ => by show (i == i) = true; exact beq_self_eq_true i
  | .str x, _, _ => by show (x == x) = true; exact beq_self_eq_true x
  | .lst xs, n, h => by
    cases n with
    | zero => cases h
    | succ n => exact eqDs_refl xs n h
  | .tup xs, n, h => by
    cases n with
    | zero => cases h
    | succ n => exact eqDs_refl xs n h
  | .ty _, n, h => by cases n <;> cases h
  | .cls _, n, h => by cases n <;> cases h
theorem eqDs_refl : ∀ (xs : List D) (n : Nat), okNs n xs = true → eqDs xs xs = true
  | [], _, _ => rfl
  | x :: xs, n, h => by
    unfold okNs at h
    rw [Bool.and_eq_true] at h
    show (eqD x x && eqDs xs xs) = true
    rw [eqD_refl x n h.1, eqDs_refl xs n h.2]
    rfl
end
theorem dEq_refl {x : D} (h : okD x = true) : dEq x x = .ok (.bl true) := by
  show (if _ then _ else _) = _
  rw [if_pos ⟨h, h⟩, eqD_refl x 64 h]
theorem dNe_refl {x : D} (h : okD x = true) : dNe x x = .ok (.bl false) := by
  show (if _ then _ else _) = _
  rw [if_pos ⟨h, h⟩, eqD_refl x 64 h]
  rfl
theorem okNs_ints (n : Nat) : ∀ ns : List Int, okNs n (ns.map .int) = true
  | [] => rfl
  | i :: r => by
    show (okN n (.int i) && okNs n (r.map .int)) = true
    rw [okNs_ints n r]
    cases n <;> rfl
/-- flat ints -/
theorem allFlat : ∀ ns : List Int, (ns.map D.int).all flatD = true
  | [] => rfl
  | i :: r => by simp [flatD]
/-- a list or a tuple -/
def seqD (b : Bool) (xs : List D) : D := if b then .lst xs else .tup xs
@[simp] theorem dItems_q (b : Bool) (xs : List D) : dItems (seqD b xs) = .ok xs := by cases b <;> exact eqOf rfl
@[simp] theorem dLen_q (b : Bool) (xs : List D) : dLen [seqD b xs] = .ok (.int xs.length) := by cases b <;> exact eqOf rfl
/-- the search loop, where all that are found say the same -/
theorem forGo_any {g : Tg} {body : CS} (mk : Sl → Env) (p : D → Bool) (r : Sl) (ds : List D) (x : Sl) (h : ∀ d ∈ ds, ∀ x, g d (mk x) = some (mk (.val d)) ∧ body (mk (.val d)) = if p d = true then .ret r else .next (mk (.val d))) :
    (ds.any p = true → forGo g body ds (mk x) = .ret r) ∧ (ds.any p = false → ∃ y, forGo g body ds (mk x) = .next (mk y)) := by
  have e := forGo_find (g := g) (body := body) mk p (fun _ => .ret r) (fun d e => ⟨fun z => (nomatch z), fun z => (nomatch z), fun z => (nomatch z)⟩) ds x h
  constructor
  · intro ha
    obtain ⟨d, hd, hp⟩ := List.any_eq_true.mp ha
    cases q : ds.find? p with
    | none => exact absurd hp (by simpa using List.find?_eq_none.mp q d hd)
    | some d => rw [e, q]
  · intro ha
    cases q : ds.find? p with
    | none => exact ⟨_, by rw [e, q]⟩
    | some d =>
      have h1 := List.find?_some q
      have h2 := List.mem_of_find?_eq_some q
      rw [List.any_eq_true.mpr ⟨d, h2, h1⟩] at ha
      cases ha
/-- .. that raise the same -/
theorem forGo_raise {g : Tg} {body : CS} (mk : Sl → Env) (p : D → Bool) (r : ExcV) (ds : List D) (x : Sl) (h : ∀ d ∈ ds, ∀ x, g d (mk x) = some (mk (.val d)) ∧ body (mk (.val d)) = if p d = true then .exc r (mk (.val d)) else .next (mk (.val d))) :
    (ds.any p = true → ∃ y, forGo g body ds (mk x) = .exc r (mk y)) ∧ (ds.any p = false → ∃ y, forGo g body ds (mk x) = .next (mk y)) := by
  have e := forGo_find (g := g) (body := body) mk p (fun d => .exc r (mk (.val d))) (fun d e => ⟨fun z => (nomatch z), fun z => (nomatch z), fun z => (nomatch z)⟩) ds x h
  constructor
  · intro ha
    obtain ⟨d, hd, hp⟩ := List.any_eq_true.mp ha
    cases q : ds.find? p with
    | none => exact absurd hp (by simpa using List.find?_eq_none.mp q d hd)
    | some d => exact ⟨_, by rw [e, q]⟩
  · intro ha
    cases q : ds.find? p with
    | none => exact ⟨_, by rw [e, q]⟩
    | some d =>
      have h1 := List.find?_some q
      have h2 := List.mem_of_find?_eq_some q
      rw [List.any_eq_true.mpr ⟨d, h2, h1⟩] at ha
      cases ha
/-- what an int says of itself -/
def onI (p : Int → Bool) : D → Bool
  | .int z => p z | _ => false
theorem any_ints (p : Int → Bool) (ns : List Int) : (ns.map D.int).any (onI p) = ns.any p := by
  rw [List.any_map]; rfl
theorem filter_ints (p : Int → Bool) (ns : List Int) : (ns.map D.int).filter (onI p) = (ns.filter p).map .int := by
  rw [List.filter_map]; rfl
@[simp] theorem forGo_c {i : Nat} {body : CS} {d : D} {ds : List D} {env : Env} : forGo (gName i) body (d :: ds) env = match body (env.set i (.val d)) with
  | .next e => forGo (gName i) body ds e | .cont e => forGo (gName i) body ds e | .brk e => .next e | r => r := eqOf (forGo_cons rfl)
@[simp] theorem dIsi_tt (xs : List D) : dIsi [.tup xs, .ty "tuple"] = .ok (.bl true) := eqOf rfl
@[simp] theorem dIsi_ll (xs : List D) : dIsi [.lst xs, .ty "list"] = .ok (.bl true) := eqOf rfl
@[simp] theorem dIsi_ii (i : Int) : dIsi [.int i, .ty "int"] = .ok (.bl true) := eqOf rfl
@[simp] theorem dIsi_ib (i : Int) : dIsi [.int i, .ty "bool"] = .ok (.bl false) := eqOf rfl
@[simp] theorem dIsi_bb (i : Bool) : dIsi [.bl i, .ty "bool"] = .ok (.bl true) := eqOf rfl
@[simp] theorem dIsi_bi (i : Bool) : dIsi [.bl i, .ty "int"] = .ok (.bl true) := eqOf rfl
@[simp] theorem dIsi_ss (i : Str) : dIsi [.str i, .ty "str"] = .ok (.bl true) := eqOf rfl
@[simp] theorem dIsi_it (i : Int) : dIsi [.int i, .ty "tuple"] = .ok (.bl false) := eqOf rfl
theorem okD_tup2 {a b : D} (h1 : okN 63 a = true) (h2 : okN 63 b = true) : okD (.tup [a, b]) = true := by
  show (okN 63 a && (okN 63 b && true)) = true
  rw [h1, h2]; rfl
theorem okN_lst {n : Nat} {xs : List D} (h : okNs n xs = true) : okN (n + 1) (.lst xs) = true := h
theorem okN_tup {n : Nat} {xs : List D} (h : okNs n xs = true) : okN (n + 1) (.tup xs) = true := h
theorem okN_str {n : Nat} {s : Str} (h : strOk s = true) : okN n (.str s) = true := by cases n <;> exact h
theorem okN_int {n : Nat} {i : Int} : okN n (.int i) = true := by cases n <;> rfl
@[simp] theorem sSetIx_a (i : Nat) (e v : CE) (env : Env) : sSetIx i e v env = (v env).fl env fun d => match env[i]? with
  | some (.own (.lst xs)) => (e env).fl env fun k => match k with
    | .int k => (match ixN xs.length k with | some j => .next (env.set i (.own (.lst (xs.set j d)))) | none => .stuck)
    | _ => .stuck
  | _ => .stuck := eqOf rfl
theorem set_ints (ns : List Int) (j : Nat) (y : Int) : (ns.map D.int).set j (.int y) = (ns.set j y).map .int := by rw [List.map_set]
theorem dIx_ints {ns : List Int} {k : Int} (h0 : 0 ≤ k) (h : k < ns.length) : ∃ y ∈ ns, dIx (.lst (ns.map .int)) (.int k) = .ok (.int y) := by
  have hk : k < (ns.map D.int).length := by simpa using h
  refine ⟨ns[k.toNat]'(by omega), List.getElem_mem _, ?_⟩
  rw [dIx_li h0 hk]
  simp
theorem forGo_cons' {g : Tg} {body : CS} {d : D} {ds : List D} {env e1 e2 : Env} (h : g d env = some e1) (h2 : body e1 = .next e2) : forGo g body (d :: ds) env = forGo g body ds e2 := by rw [forGo_cons h, h2]
theorem forGo_ret {g : Tg} {body : CS} {d : D} {ds : List D} {env e1 : Env} {r : Sl} (h : g d env = some e1) (h2 : body e1 = .ret r) : forGo g body (d :: ds) env = .ret r := by rw [forGo_cons h, h2]
theorem seqN {s t : CS} {env e : Env} (h : s env = .next e) : sSeq s t env = t e := by rw [sSeq_a, h]
theorem seqR {s t : CS} {env : Env} {r : Sl} (h : s env = .ret r) : sSeq s t env = .ret r := by rw [sSeq_a, h]
/-- what has a type: no class -/
def plainD (d : D) : Bool := (tyD d).isSome
@[simp] theorem gTup3 {i j k : Nat} {a b c : D} {env : Env} : gTup [gName i, gName j, gName k] (.tup [a, b, c]) env = some (((env.set i (.val a)).set j (.val b)).set k (.val c)) := eqOf rfl
@[simp] theorem gTup2 {i j : Nat} {a b : D} {env : Env} : gTup [gName i, gName j] (.tup [a, b]) env = some ((env.set i (.val a)).set j (.val b)) := eqOf rfl
theorem dEq_s {a b : Str} (h1 : strOk a = true) (h2 : strOk b = true) : dEq (.str a) (.str b) = .ok (.bl (a == b)) := by
  show (if okD (.str a) = true ∧ okD (.str b) = true then _ else _) = _
  rw [if_pos ⟨okN_str h1, okN_str h2⟩]
  exact eqOf rfl
@[simp] theorem dIsNot_bb (a b : Bool) : dIsNot (.bl a) (.bl b) = .ok (.bl (!decide (a = b))) := eqOf rfl
@[simp] theorem dIs_bb (a b : Bool) : dIs (.bl a) (.bl b) = .ok (.bl (decide (a = b))) := eqOf rfl
@[simp] theorem dIs_non (a : D) : dIs a .non = .ok (.bl (isNon a)) := eqOf (by cases a <;> rfl)
@[simp] theorem dIsNot_non (a : D) : dIsNot a .non = .ok (.bl (!isNon a)) := eqOf (by cases a <;> rfl)
theorem dIx_getD {xs : List Int} {k : Nat} (h : k < xs.length) : dIx (.tup (xs.map .int)) (.int (k : Int)) = .ok (.int (xs.getD k 0)) := by
  rw [dIx_t (by simpa using h)]
  simp [List.getD_eq_getElem?_getD, List.getElem?_eq_getElem h]
theorem dIx_getDl {xs : List Int} {k : Nat} (h : k < xs.length) : dIx (.lst (xs.map .int)) (.int (k : Int)) = .ok (.int (xs.getD k 0)) := by
  rw [dIx_l (by simpa using h)]
  simp [List.getD_eq_getElem?_getD, List.getElem?_eq_getElem h]
theorem dIx_getDi {xs : List Int} {k : Int} (h0 : 0 ≤ k) (h : k < xs.length) : dIx (.tup (xs.map .int)) (.int k) = .ok (.int (xs.getD k.toNat 0)) := by
  obtain ⟨n, rfl⟩ := Int.eq_ofNat_of_zero_le h0
  exact dIx_getD (by omega)
@[simp] theorem dIx30 {a b c : D} : dIx (.tup [a, b, c]) (.int 0) = .ok a := eqOf rfl
@[simp] theorem dIx31 {a b c : D} : dIx (.tup [a, b, c]) (.int 1) = .ok b := eqOf rfl
@[simp] theorem dIx32 {a b c : D} : dIx (.tup [a, b, c]) (.int 2) = .ok c := eqOf rfl
@[simp] theorem dIx20 {a b : D} : dIx (.tup [a, b]) (.int 0) = .ok a := eqOf rfl
@[simp] theorem dIx21 {a b : D} : dIx (.tup [a, b]) (.int 1) = .ok b := eqOf rfl
theorem dAdd_l {xs ys : List D} (h : xs.length + ys.length ≤ line) : dAdd (.lst xs) (.lst ys) = .ok (.lst (xs ++ ys)) := by
  show (if _ then _ else _) = _
  rw [if_pos h]
theorem dAdd_t {xs ys : List D} (h : xs.length + ys.length ≤ line) : dAdd (.tup xs) (.tup ys) = .ok (.tup (xs ++ ys)) := by
  show (if _ then _ else _) = _
  rw [if_pos h]
theorem fCat_l {xs ys : List D} (h : xs.length + ys.length ≤ line) : fCat (.lst xs) (.lst ys) = .ok (xs ++ ys) := by
  show (if _ then _ else _) = _
  rw [if_pos h]
theorem cut_take {α : Type} {xs : List α} {p : Nat} : cutL xs none (some (p : Int)) = xs.take p := by
  unfold cutL sIx
  simp only [List.drop_zero, Nat.sub_zero]
  rw [if_neg (by omega), Int.toNat_natCast]
  by_cases h : p ≤ xs.length
  · rw [Nat.min_eq_left h]
  · rw [Nat.min_eq_right (by omega), List.take_of_length_le (by omega), List.take_of_length_le (by omega)]
theorem cut_drop {α : Type} {xs : List α} {p : Nat} : cutL xs (some (p : Int)) none = xs.drop p := by
  unfold cutL sIx
  simp only
  rw [if_neg (by omega), Int.toNat_natCast]
  by_cases h : p ≤ xs.length
  · rw [Nat.min_eq_left h, List.take_of_length_le (by simp)]
  · rw [Nat.min_eq_right (by omega), List.drop_of_length_le (Nat.le_refl _), List.drop_of_length_le (by omega)]
    simp
@[simp] theorem dSl_l (xs : List D) (lo hi : Option Int) : dSl (.lst xs) lo hi = .ok (.lst (cutL xs lo hi)) := eqOf rfl
@[simp] theorem dSl_t (xs : List D) (lo hi : Option Int) : dSl (.tup xs) lo hi = .ok (.tup (cutL xs lo hi)) := eqOf rfl
/-- the rows as tuples -/
theorem lc_tuples {i : Nat} {env : Env} (hi : i < env.length) (rows : List (List D)) (hl : rows.length ≤ 1000) : lcGo (gName i) tTrue (eB dTuple (aCons (eVar i) aNil)) (rows.map .lst) env [] = .ok (rows.map .tup) := by
  have h := lcGo_go (g := gName i) (t := tTrue) (e := eB dTuple (aCons (eVar i) aNil)) (env := env) (fun _ => true) (fun d => match d with | .lst xs => .tup xs | d => d) (rows.map .lst) [] (fun d hd => by
    obtain ⟨r, _, rfl⟩ := List.mem_map.mp hd
    exact ⟨_, rfl, rfl, fun _ => by simp [hi]⟩) (by simp [line_v]; omega)
  rw [h, List.nil_append, List.filter_eq_self.mpr (by simp), List.map_map]
  rfl
theorem lc_map {g : Tg} {e : CE} {env : Env} (f : D → D) (ds : List D) (h : ∀ d ∈ ds, ∃ e1, g d env = some e1 ∧ e e1 = .ok (f d)) (hl : ds.length ≤ 1000) : lcGo g tTrue e ds env [] = .ok (ds.map f) := by
  rw [lcGo_go (g := g) (t := tTrue) (e := e) (env := env) (fun _ => true) f ds [] (fun d hd => by
    obtain ⟨e1, h1, h2⟩ := h d hd
    exact ⟨e1, h1, rfl, fun _ => h2⟩) (by simp [line_v]; omega), List.nil_append, List.filter_eq_self.mpr (by simp)]
/-- a loop that lengthens a list -/
theorem flat_loop {R : Type} {tg : Tg} {body : CS} (mk : List D → R → Env) (g : D → List D) (B : Nat) : ∀ (ds l : List D) (r : R), l.length + (ds.flatMap g).length ≤ B →
    (∀ d ∈ ds, ∀ l r, l.length + (g d).length ≤ B → ∃ e1, tg d (mk l r) = some e1 ∧ ∃ r', body e1 = .next (mk (l ++ g d) r')) → ∃ r', forGo tg body ds (mk l r) = .next (mk (l ++ ds.flatMap g) r')
  | [], l, r, _, _ => ⟨r, by simp⟩
  | d :: ds, l, r, hl, h => by
    have e0 : (d :: ds).flatMap g = g d ++ ds.flatMap g := List.flatMap_cons
    rw [e0, List.length_append] at hl
    obtain ⟨e1, h1, r1, h2⟩ := h d List.mem_cons_self l r (by omega)
    obtain ⟨r', ih⟩ := flat_loop mk g B ds (l ++ g d) r1 (by rw [List.length_append]; omega) fun x hx => h x (List.mem_cons_of_mem _ hx)
    exact ⟨r', by rw [forGo_cons' h1 h2, ih, e0, List.append_assoc]⟩
end M
namespace M
open PySem (Str)
/-! ### texts by their signs -/
@[simp] theorem eJoin_a (a b : CE) (env : Env) : eJoin a b env = (a env).bind fun x => match x with
  | .str s => (b env).bind fun y => dJoin s y
  | _ => .stuck := eqOf rfl
def S (l : List Nat) : Str := ⟨l.toArray⟩
theorem S_list (l : List Nat) : (S l).cps.toList = l := by simp [S]
theorem S_len (l : List Nat) : (S l).length = l.length := by
  show (S l).cps.size = _
  simp [S]
theorem S_inj {a b : List Nat} : S a = S b ↔ a = b := ⟨fun h => by rw [← S_list a, h, S_list], fun h => by rw [h]⟩
theorem dLen_s {l : List Nat} (h : l.length ≤ line) : dLen [.str (S l)] = .ok (.int l.length) := by
  show (if (S l).length ≤ line then Out.ok (D.int (S l).length) else .stuck) = _
  rw [S_len, if_pos h]
theorem dIx_s {l : List Nat} {k : Nat} (h : l.length ≤ line) (hk : k < l.length) : dIx (.str (S l)) (.int (k : Int)) = .ok (.str (S [l.getD k 0])) := by
  show (if (S l).length ≤ line then (match ixN (S l).cps.toList.length (k : Int) with | some j => (match (S l).cps.toList[j]? with | some c => Out.ok (D.str ⟨#[c]⟩) | none => .stuck) | none => .stuck) else .stuck) = _
  rw [S_len, if_pos h, S_list, ixN_lt hk]
  simp [List.getElem?_eq_getElem hk, S, List.getD_eq_getElem?_getD]
theorem dSl_s {l : List Nat} (h : l.length ≤ line) (lo hi : Option Int) : dSl (.str (S l)) lo hi = .ok (.str (S (cutL l lo hi))) := by
  show (if (S l).length ≤ line then Out.ok (D.str ⟨(cutL (S l).cps.toList lo hi).toArray⟩) else .stuck) = _
  rw [S_len, if_pos h, S_list]; rfl
theorem dAdd_s {a b : List Nat} (h : a.length + b.length ≤ line) : dAdd (.str (S a)) (.str (S b)) = .ok (.str (S (a ++ b))) := by
  show (if (S a).length + (S b).length ≤ line then Out.ok (D.str (S a ++ S b)) else .stuck) = _
  rw [S_len, S_len, if_pos h]
  have : S a ++ S b = S (a ++ b) := by
    show (⟨(S a).cps ++ (S b).cps⟩ : Str) = _
    simp [S]
  rw [this]
theorem dIn_s (c : Nat) (z : List Nat) : dIn (.str (S [c])) (.str (S z)) = .ok (.bl (decide (c ∈ z))) := by
  show (match signIn (S [c]) (S z) with | some b => Out.ok (D.bl b) | none => .stuck) = _
  unfold signIn
  rw [S_list, S_list]
def okS (l : List Nat) : Bool := l.all (· < 0x110000)
theorem strOk_S {l : List Nat} (h : okS l = true) : strOk (S l) = true := by
  unfold strOk
  rw [← Array.all_toList, S_list]; exact h
theorem okS_app {a b : List Nat} : okS (a ++ b) = (okS a && okS b) := by simp [okS]
theorem dEq_S {a b : List Nat} (h1 : okS a = true) (h2 : okS b = true) : dEq (.str (S a)) (.str (S b)) = .ok (.bl (decide (a = b))) := by
  rw [dEq_s (strOk_S h1) (strOk_S h2)]
  have : (S a == S b) = decide (a = b) := by
    by_cases e : a = b
    · subst e; simp
    · have : ¬ S a = S b := fun h => e (S_inj.mp h)
      simp [e, this]
  rw [this]
theorem foldl_app (x : Array Nat) (n : Nat) : ∀ z : Array Nat, ((List.replicate n x).foldl (· ++ ·) z).toList = z.toList ++ (List.replicate n x.toList).flatten := by
  induction n with
  | zero => intro z; simp
  | succ n ih => intro z; rw [List.replicate_succ, List.foldl_cons, ih, List.replicate_succ, List.flatten_cons]; simp
theorem dMul_s {a : List Nat} {n : Int} (h0 : -1000 ≤ n) (h1 : n ≤ 1000) (h2 : a.length ≤ 1000) : dMul (.str (S a)) (.int n) = .ok (.str (S (List.replicate n.toNat a).flatten)) := by
  show (if -1000 ≤ n ∧ n ≤ 1000 ∧ (S a).length ≤ 1000 then Out.ok (D.str (repS (S a) n)) else .stuck) = _
  rw [if_pos ⟨h0, h1, by rw [S_len]; exact h2⟩]
  have : repS (S a) n = S (List.replicate n.toNat a).flatten := by
    unfold repS
    by_cases e1 : n < 1
    · rw [if_pos e1]
      have : n.toNat = 0 := by omega
      rw [this]; rfl
    · rw [if_neg e1]
      by_cases e2 : (n == 1 || (S a).length == 0) = true
      · rw [if_pos e2]
        rw [S_len] at e2
        simp only [Bool.or_eq_true, beq_iff_eq] at e2
        rcases e2 with e2 | e2
        · subst e2; simp
        · have : a = [] := List.length_eq_zero_iff.mp e2
          subst this
          simp
      · rw [if_neg e2]
        have z := foldl_app (S a).cps n.toNat #[]
        rw [S_list] at z
        show (⟨_⟩ : Str) = ⟨_⟩
        congr 1
        rw [← Array.toList_inj, z]
        simp
  rw [this]
theorem strL_S : ∀ ys : List (List Nat), strL (ys.map fun y => D.str (S y)) = some (ys.map S)
  | [] => rfl
  | y :: ys => by
    show (match strL (ys.map fun y => D.str (S y)) with | some zs => some (S y :: zs) | none => none) = _
    rw [strL_S ys]; rfl
theorem join_fold : ∀ (ys : List (List Nat)) (z : Array Nat), (((ys.map S).foldl (fun acc p => acc ++ (S []).cps ++ p.cps) z)).toList = z.toList ++ ys.flatten
  | [], z => by simp
  | y :: ys, z => by
    rw [List.map_cons, List.foldl_cons, join_fold ys, List.flatten_cons]
    simp [S]
theorem dJoin_S {ys : List (List Nat)} (h : (ys.map List.length).sum ≤ line) : dJoin (S []) (.lst (ys.map fun y => .str (S y))) = .ok (.str (S ys.flatten)) := by
  show joinD (S []) (ys.map fun y => D.str (S y)) = _
  unfold joinD
  rw [strL_S]
  have e : ((ys.map S).map (·.length)).sum + (ys.map S).length * (S []).length = (ys.map List.length).sum := by
    rw [List.map_map, S_len]
    have : (fun x => Str.length x) ∘ S = List.length := by funext x; exact S_len x
    rw [this]; simp
  simp only [e, if_pos h]
  have : joinS (S []) (ys.map S) = S ys.flatten := by
    unfold joinS
    show (⟨_⟩ : Str) = ⟨_⟩
    congr 1
    rw [← Array.toList_inj]
    cases ys with
    | nil => rfl
    | cons y ys =>
      show (((ys.map S).foldl (fun acc p => acc ++ (S []).cps ++ p.cps) (S y).cps)).toList = _
      rw [join_fold, S_list]; simp
  rw [this]
end M
/-! MHot: defs called within an except suite; tuple(reversed(..)). -/
namespace M
open PySem PySem.Spec PyProof.Rows L2
section
variable {X : Cx} {a : Addr} {cls : Value} {d : Option Addr} {oe : Obj} {pn : List (Addr × Obj)}
/-- a suite is hot -/
theorem hot_suite (hz : L2N.Zn cls d oe) (hf : ∃ vs, oe.data = .fields vs) : L2H.HotC (X.suite a ((a, oe) :: pn)) := by
  obtain ⟨vs, hv⟩ := hf
  exact ⟨(a, oe), ⟨rfl, vs, hv, hz.2.2 vs hv⟩, List.mem_cons_self⟩
theorem roomH_suite {k : Nat} {j : Nat} (hr : Room k X.A) (h : j ≤ k) : L2H.RoomH j (X.suite a ((a, oe) :: pn)).A :=
  ⟨by have := hr.dp; show X.A.depth + 3 * j + 5 < _; omega, by have := hr.un; show X.A.units + 16 * j + 200 < _; omega⟩
theorem takes_no {X : Cx} : L2N.Takes X (fun _ _ _ _ => False) := fun _ _ ⟨_, _, _, _, _, _, _, _, _, _, _, _, _, _, _, _, w⟩ => w.elim
end
theorem hu64S {X : Cx} {a : Addr} {pn : List (Addr × Obj)} {k : Nat} (hr : Room k X.A) : (X.suite a pn).A.units + 80 < cLine := by have := hr.un; show X.A.units + 80 < _; omega
theorem hu2S {X : Cx} {a : Addr} {pn : List (Addr × Obj)} {k : Nat} (hr : Room k X.A) : (X.suite a pn).A.units < cLine := by have := hr.un; show X.A.units < _; omega
theorem hu64H {A : Around} {k : Nat} (hr : L2H.RoomH k A) : A.units + 80 < cLine := by have := hr.un; omega
theorem hu2H {A : Around} {k : Nat} (hr : L2H.RoomH k A) : A.units < cLine := by have := hr.un; omega
section
variable {X : Cx} {j : Jc} {e : Expr} {es : List Expr} {al : CA} {x : Str} {pos : Pos}
theorem mc_callH {k : Nat} {f : Addr} {fd : FuncData} {ps : List Str} {F : Fn} {q : Pos} (Fo : L2H.FnH X.prog X.w X.K X.mg X.base (L2N.CX X.prog X.w) k f fd ps (spF X.K j.ca F)) (hr : L2H.RoomH k X.A) (hc : L2H.HotC X) (hg : Gl X x) (hm : X.mg x = some (.ref f)) (hk : PySem.W.keepIn X.K (.ref f) = true) (hb : Binds X.K fd ps []) (tk : L2N.Takes X j.W)
    (ha : MA X j (e :: es) al) (hdb : (x == ("__debug__" : Str)) = false := by decide) (he : starEach (e :: es) X.env = (false, eval e X.env) :: starEach es X.env := by rfl) (hpl : (backTo pos (starEach es X.env)).any (·.1) = false := by rfl) :
    MC X j (.Call (.Name x q) (e :: es) [] pos) F al := L2H.pe_callH Fo hr hc hg hm hk hb (fun σ => L2N.passAt tk σ) ha hdb he hpl
end
section
variable {X : Cx} {j : Jc} {e : Expr} {ce : CE} {p p2 pos pos2 : Pos}
theorem me_tupRev (hc : X.calm = true) (hg : Gl X "tuple") (hm : X.mg "tuple" = none) (hg2 : Gl X "reversed") (hm2 : X.mg "reversed" = none) (he : ME X j e ce)
    (hs : starEach [e] X.env = (false, eval e X.env) :: starEach [] X.env := by rfl)
    (hs2 : starEach [.Call (.Name "reversed" p2) [e] [] pos2] X.env = (false, eval (.Call (.Name "reversed" p2) [e] [] pos2) X.env) :: starEach [] X.env := by rfl) :
    ME X j (.Call (.Name "tuple" p) [.Call (.Name "reversed" p2) [e] [] pos2] [] pos) (eOp1 dTupRev ce) := by
  refine PE.imp (RT.pe_tupRev hc hg hm hg2 hm2 he hs hs2) fun σ H Q ⟨G, Hf, env, r, m⟩ => ⟨G, Hf, env, r, m.bind.imp fun x Hf1 H1 _ p1 m1 v rv => ?_⟩
  cases x with
  | lst xs =>
    unfold Rep at rv
    obtain ⟨a, us, rfl, a1, a2⟩ := rv
    have m1 : OutP X.K j.ca j.W σ Hf1 H1 (.ok (D.tup xs.reverse)) _ := m1
    exact ⟨a, us, rfl, p1.sub.seq a1, fun q hq => m1.newT p1.sub (RepL.rev a2) q hq⟩
  | _ => exact (OutP.no m1).elim
end
section
theorem strL_rep {K : PySem.W.Frag} {ca : Nat → Addr} {H : Hp} : ∀ {xs : List D} {ys : List Str} {vs : List V}, strL xs = some ys → RepL K ca H xs vs → vs = ys.map V.str
  | [], ys, vs, h, r => by cases h; unfold RepL at r; rw [r]; rfl
  | x :: xs, ys, vs, h, r => by
    unfold RepL at r
    obtain ⟨v, rr, rfl, h1, h2⟩ := r
    cases x with
    | str z =>
      unfold strL at h
      cases q : strL xs with
      | none => rw [q] at h; cases h
      | some zs =>
        rw [q] at h
        cases h
        have h1 : v = .str z := h1
        rw [h1, strL_rep q h2]; rfl
    | _ => cases h
variable {X : Cx} {j : Jc} {o e : Expr} {co ce : CE} {apos pos : Pos}
theorem me_join (ho : ME X j o co) (he : MP X j e ce) (hs : starEach [e] X.env = [(false, eval e X.env)] := by rfl) (hbase : attributeBase o "join" X.env (eval o X.env) = eval o X.env := by rfl) (hline : (apos.endLine == pos.line) = true := by rfl) :
    ME X j (.Call (.Attribute o "join" apos) [e] [] pos) (eJoin co ce) := by
  refine PE.imp (pe_join ho he hs hbase hline) fun σ H Q ⟨G, Hf, env, r, m⟩ => ⟨G, Hf, env, r, m.bind.imp fun x Hf1 H1 _ p1 m1 v rv => ?_⟩
  cases x with
  | str a =>
    have rv : v = .str a := rv
    refine ⟨⟨a, rv⟩, G, Hf1, env, r.grow p1, m1.bind.imp fun y Hf2 H2 _ p2 m2 u ru => ?_⟩
    have done : ∀ (xs : List D) (p : Addr) (vs : List V), OutP X.K j.ca j.W σ Hf2 H2 (joinD a xs) (fun d Hf' H' => ∀ v, Rep X.K j.ca Hf' d v → Q v H') → RepL X.K j.ca Hf2 xs vs → (SqL X.K H2 p vs ∨ SqT X.K H2 p vs) → u = .ref p →
        ∃ a p, ∃ ys : List Str, v = .str a ∧ [u] = [.ref p] ∧ (SqL X.K H2 p (ys.map V.str) ∨ SqT X.K H2 p (ys.map V.str)) ∧ (ys.map (·.length)).sum + ys.length * a.length ≤ 16777216 ∧ Q (.str (Txt.join a ys)) H2 := fun xs p vs m2 hr hq eu => by
      unfold joinD at m2
      split at m2
      · rename_i ys hy
        split at m2
        · rename_i hz
          have := strL_rep hy hr
          subst this
          exact ⟨a, p, ys, rv, by rw [eu], hq, hz, m2.rep p2.sub rfl⟩
        · exact m2.no.elim
      · exact m2.no.elim
    cases y with
    | lst xs =>
      obtain ⟨p, vs, rfl, a1, a2⟩ := pLst ru
      exact done xs p vs m2 a2 (.inl a1) rfl
    | tup xs =>
      obtain ⟨p, vs, rfl, a1, a2⟩ := pTup p2.sub ru
      exact done xs p vs m2 a2 (.inr a1) rfl
    | _ => exact (OutP.no m2).elim
  | _ => exact (OutP.no m1).elim
end
section
variable {P : Program} {w : World} {K : PySem.W.Frag} {ca : Nat → Addr} {mg : Str → Option Value} {base : Heap}
theorem fn_okH {x qual : Str} {st : Stmt} {f : Addr} {fd : FuncData} {N ps : List Str} {k p n : Nat} {sb : CS} (F : Fun K x qual st f fd) (S : FnScope N ps (defScope st)) (hp : ps.length = p) (hn : N.length = n) (hpn : p ≤ n)
    (hbody : ∀ (cdv : Value) (A : Around) (outer : List PySem.Env) (s : Shared) (H : Hp) (E : XK) (pn : Addr × Obj), L2H.RoomH k (A.deeper (envOfC qual (defScope st) s.heap.objs.size f cdv)) →
      L2H.HotC (L2H.cxH (L2N.CX P w) P w K mg base N qual (defScope st) f cdv A outer s H E pn) →
      L2N.Takes (L2H.cxH (L2N.CX P w) P w K mg base N qual (defScope st) f cdv A outer s H E pn) (fun cls d _ H => E cls d H) →
      PassesOwn (model P w) (L2H.cxH (L2N.CX P w) P w K mg base N qual (defScope st) f cdv A outer s H E pn).A (L2H.cxH (L2N.CX P w) P w K mg base N qual (defScope st) f cdv A outer s H E pn).env (L2H.cxH (L2N.CX P w) P w K mg base N qual (defScope st) f cdv A outer s H E pn).xe →
      MSs (L2H.cxH (L2N.CX P w) P w K mg base N qual (defScope st) f cdv A outer s H E pn) ⟨ca, none, fun cls d _ H => E cls d H⟩ (defBody st) sb) :
    L2H.FnH P w K mg base (L2N.CX P w) (k + 1) f fd ps (spF K ca (fn p n sb)) := by
  obtain ⟨oc, od, kV, doc, pm, an, cdv, ct, osl, rfl, lk, hcd⟩ := F.ex
  refine L2H.fn_ofH lk hcd S (fun vs H Q E h => ?_) fun A outer s H vs Q E pn hot hr hsp => ?_
  · obtain ⟨Hf, ds, s1, r1, m⟩ := h
    by_cases hl : ds.length = p
    · rw [hp, ← hl, r1.length]
    · simp [fn, hl] at m
  · have tk : L2N.Takes (L2H.cxH (L2N.CX P w) P w K mg base N qual (defScope st) f cdv A outer s H E pn) (fun cls d _ H => E cls d H) := L2N.takes_of rfl rfl rfl rfl
    have hc : L2H.HotC (L2H.cxH (L2N.CX P w) P w K mg base N qual (defScope st) f cdv A outer s H E pn) := ⟨pn, hot, List.mem_cons_self⟩
    have b := hbody cdv A outer s H E pn hr hc tk (L2.passes_of rfl)
    refine ⟨_, b, ?_⟩
    obtain ⟨Hf, ds, s1, r1, m⟩ := hsp
    by_cases hl : ds.length = p
    · have e : fn p n sb ds = (sb (startE n ds)).out := by unfold fn; rw [if_pos hl]
      rw [e] at m
      refine ⟨⟨Hf, H⟩, Hf, startE n ds, RR.start s1 r1 hn (by omega), ?_⟩
      generalize sb (startE n ds) = fl at m
      cases fl with
      | next e2 => exact fun σ Hf' H' r => m .non Hf' H' r.post rfl
      | ret sl =>
        cases sl with
        | val d => exact fun v Hf' H' p rv => m v Hf' H' p rv
        | own o => exact fun v Hf' H' p rv => m v Hf' H' p rv
        | un => exact m
        | exc x => exact m
        | io x => exact m
      | exc x e2 => exact fun cls dd σ Hf' H' r rx => m cls dd Hf' H' r.post rx
      | brk e2 => exact m.elim
      | cont e2 => exact m.elim
      | stuck => exact m.elim
    · have e : fn p n sb ds = .stuck := by unfold fn; rw [if_neg hl]
      rw [e] at m
      exact m.elim
end
end M
namespace M
open PySem PySem.Spec PyProof.Rows L2
/-! ### global tuples -/
def GlobC (K : PySem.W.Frag) (ca : Nat → Addr) (mg : Str → Option Value) (x : Str) (d : D) : Prop := ∃ u v, mg x = some u ∧ RelV v u ∧ ∀ H, Rep K ca H d v
theorem me_globC {X : Cx} {j : Jc} {x : Str} {d : D} {pos : Pos} (hg : Gl X x) (h : GlobC X.K j.ca X.mg x d) (hd : (x == ("__debug__" : Str)) = false := by decide) : ME X j (.Name x pos) (eC d) := by
  obtain ⟨u, v, h1, h2, h3⟩ := h
  exact me_glob hg h1 h2 h3 hd
theorem globT {K : PySem.W.Frag} {ca : Nat → Addr} {mg : Str → Option Value} {x : Str} {a : Addr} {od : Option Addr} {its : Array Value} {n : Nat} {sl : Array (Option Value)} {ds : List D} {vs : List V} (hm : mg x = some (.ref a)) (hl : K.lookup a = some ⟨.type "tuple", od, .seq its n, sl⟩) (hs : its.size ≤ sizeLine)
    (hv : Vals vs its.toList) (hr : ∀ H, RepL K ca H ds vs) (hh : hotT ds = false) : GlobC K ca mg x (.tup ds) :=
  ⟨_, .ref a, hm, rfl, fun H => by unfold Rep; exact ⟨a, vs, rfl, ⟨.inr ⟨_, its, n, hl, rfl, rfl, hs, hv⟩, fun z => by rw [hh] at z; cases z⟩, hr H⟩⟩
theorem repL_strs {K : PySem.W.Frag} {ca : Nat → Addr} {H : Hp} : ∀ zs : List Str, RepL K ca H (zs.map .str) (zs.map .str)
  | [] => by show RepL K ca H [] []; unfold RepL; rfl
  | z :: zs => by show RepL K ca H (.str z :: zs.map .str) _; unfold RepL; exact ⟨.str z, zs.map .str, rfl, rfl, repL_strs zs⟩
theorem repL_ints {K : PySem.W.Frag} {ca : Nat → Addr} {H : Hp} : ∀ zs : List Int, RepL K ca H (zs.map .int) (zs.map .int)
  | [] => by show RepL K ca H [] []; unfold RepL; rfl
  | z :: zs => by show RepL K ca H (.int z :: zs.map .int) _; unfold RepL; exact ⟨.int z, zs.map .int, rfl, rfl, repL_ints zs⟩
end M
/-! MDict: dicts, sorted. -/
namespace M
open PySem PySem.Spec PyProof.Rows L2
section
variable {K : PySem.W.Frag} {ca : Nat → Addr} {ea : Option (Addr × Value × Option Addr)} {G : Gh} {Hf H : Hp} {env : M.Env} {σ : L2.St}
theorem RR.pushO (r : RR K ca ea G Hf env σ H) {D : Addr} {o0 : Own} {ho : HO} (hD : H D = none) (how : OwnR K ca Hf (L2.upd H D ho) D [D] o0) : RR K ca ea G Hf (env ++ [.own o0]) (σ ++ [some (.ref D)]) (L2.upd H D ho) := by
  have p : Post Hf H Hf (L2.upd H D ho) := post_own r.sub hD
  have r1 := r.grow p
  obtain ⟨fps, l, m, k⟩ := r1.slots
  obtain ⟨fps0, l0, m0, k0⟩ := r.slots
  have g0 : G.H D = none := r.post.all.free hD
  have nD : ∀ a, (a ∈ fps0.flatten) → a ≠ D := fun a ha e => by subst e; exact (m0.2 a ha).2.2 hD
  refine ⟨r1.post, by simp [r.len], fps0 ++ [[D]], by simp [l0], ?_, ?_⟩
  · have mg := m0.grow p
    refine ⟨?_, fun a ha => ?_⟩
    · rw [List.flatten_append]
      refine List.nodup_append.mpr ⟨m0.1, by simp, fun a ha b hb e => ?_⟩
      have : b = D := by simpa using hb
      subst this
      exact nD a ha e
    · rw [List.flatten_append] at ha
      rcases List.mem_append.mp ha with z | z
      · exact mg.2 a z
      · have : a = D := by simpa using z
        subst this
        exact ⟨r.sub.free hD, g0, by rw [upd_same]; simp⟩
  · intro i s o fp e1 e2 e3
    by_cases hi : i < env.length
    · rw [List.getElem?_append_left hi] at e1
      rw [List.getElem?_append_left (by rw [← r.len]; exact hi)] at e2
      rw [List.getElem?_append_left (by rw [l0]; exact hi)] at e3
      have z := k0 i s o fp e1 e2 e3
      cases s with
      | un => trivial
      | val d => obtain ⟨v, k1, k2⟩ := z; exact ⟨v, k1, k2⟩
      | own w => obtain ⟨a, k1, k2⟩ := z; exact ⟨a, k1, k2.grow p⟩
      | exc x => obtain ⟨a, cls, d, k1, k2, k3⟩ := z; exact ⟨a, cls, d, k1, k2, k3⟩
      | io xs => obtain ⟨a, cls, d, vs, k1, k2, k3, k4, k5⟩ := z; exact ⟨a, cls, d, vs, k1, k2, p.all _ _ k3, k4, k5⟩
    · have hle : i = env.length := by
        have := (List.getElem?_eq_some_iff.mp e1).1
        simp at this; omega
      subst hle
      rw [List.getElem?_append_right (Nat.le_refl _)] at e1
      rw [List.getElem?_append_right (by rw [r.len]; exact Nat.le_refl _), r.len, Nat.sub_self] at e2
      rw [List.getElem?_append_right (by rw [l0]; exact Nat.le_refl _), l0, Nat.sub_self] at e3
      simp at e1 e2 e3
      subst e1; subst e2; subst e3
      exact ⟨D, rfl, how⟩
/-- our own thing is changed -/
theorem RR.updO (r : RR K ca ea G Hf env σ H) {i : Nat} {o o2 : Own} {ho : HO} {p : Addr} (he : env[i]? = some (.own o)) (hs : σ[i]? = some (some (.ref p))) (hfp : ∀ fp, OwnR K ca Hf H p fp o → fp = [p]) (how : OwnR K ca Hf (L2.upd H p ho) p [p] o2) :
    RR K ca ea G Hf (env.set i (.own o2)) σ (L2.upd H p ho) := by
  obtain ⟨fps, l, m, k⟩ := r.slots
  have h1 : i < env.length := (List.getElem?_eq_some_iff.mp he).1
  have h3 : i < fps.length := by rw [l]; exact h1
  obtain ⟨p', e0, ow⟩ := k i _ _ _ he hs (List.getElem?_eq_getElem h3)
  cases e0
  have ef := hfp _ ow
  have hpm : p ∈ fps.flatten := List.mem_flatten.mpr ⟨fps[i], List.getElem_mem h3, by rw [ef]; simp⟩
  obtain ⟨m1, m2, m3⟩ := m.2 p hpm
  refine ⟨⟨r.post.sh, fun b x e => ?_, fun b x e => ?_, r.post.new⟩, by simp [r.len], fps, by simp [l], ⟨m.1, fun a ha => ?_⟩, fun j s' o' fp' e1 e2 e3 => ?_⟩
  · rw [upd_ne (ne_of_none e m2)]; exact r.post.all _ _ e
  · rw [upd_ne (ne_of_none e m1)]; exact r.post.sub _ _ e
  · obtain ⟨z1, z2, z3⟩ := m.2 a ha
    refine ⟨z1, z2, ?_⟩
    by_cases hb : a = p
    · subst hb; rw [upd_same]; simp
    · rw [upd_ne hb]; exact z3
  · by_cases hj : i = j
    · subst hj
      rw [List.getElem?_set_self h1] at e1
      cases e1
      rw [hs] at e2; cases e2
      rw [List.getElem?_eq_getElem h3] at e3; cases e3
      rw [ef]
      exact ⟨p, rfl, how⟩
    · rw [List.getElem?_set_ne hj] at e1
      have z := k j s' o' fp' e1 e2 e3
      cases s' with
      | un => trivial
      | val d => exact z
      | exc x => exact z
      | io xs =>
        obtain ⟨a, cls, d, vs, k1, k2, k3, k4, k5⟩ := z
        have np : p ∉ fp' := nodup_flat_ne m.1 (List.getElem?_eq_getElem h3) e3 hj (by rw [ef]; simp)
        exact ⟨a, cls, d, vs, k1, k2, by rw [upd_ne (fun z => np (by rw [k5, z]; simp))]; exact k3, k4, k5⟩
      | own w =>
        obtain ⟨q, k1, k2⟩ := z
        have np : p ∉ fp' := nodup_flat_ne m.1 (List.getElem?_eq_getElem h3) e3 hj (by rw [ef]; simp)
        refine ⟨q, k1, ?_⟩
        cases w with
        | dct ks' vs' =>
          obtain ⟨us', ⟨kvs, q0, q1⟩, q2, q3⟩ := k2
          subst q3
          exact ⟨us', ⟨kvs, by rw [upd_ne (fun z => np (by simp [z]))]; exact q0, q1⟩, q2, rfl⟩
        | dctT ks' vs' =>
          obtain ⟨us', ⟨kvs, q0, q1⟩, q2, q3⟩ := k2
          subst q3
          exact ⟨us', ⟨kvs, by rw [upd_ne (fun z => np (by simp [z]))]; exact q0, q1⟩, q2, rfl⟩
        | lst xs' =>
          obtain ⟨vs', q1, q2, q3⟩ := k2
          subst q3
          exact ⟨vs', by rw [upd_ne (fun z => np (by simp [z]))]; exact q1, q2, rfl⟩
        | lst2 xss =>
          obtain ⟨ps, q1, q2, q3, q4⟩ := k2
          subst q2
          refine ⟨ps, by rw [upd_ne (fun z => np (by simp [z]))]; exact q1, rfl, q3, fun n q' xs'' w1 w2 => ?_⟩
          obtain ⟨vs', y1, y2⟩ := q4 n q' xs'' w1 w2
          exact ⟨vs', by rw [upd_ne (fun z => np (by rw [← z]; exact List.mem_cons_of_mem _ (List.mem_of_getElem? w1)))]; exact y1, y2⟩
theorem ownD {Hf H : Hp} {p : Addr} {kvs : List (L2.Key × V)} {vs : List D} (h : H p = some (.dK kvs)) (r : RepL K ca Hf vs (kvs.map (·.2))) : OwnR K ca Hf H p [p] (.dct (kvs.map fun q => keyD q.1) vs) :=
  ⟨_, ⟨kvs, h, rfl, rfl⟩, r, rfl⟩
theorem ownD_fp {Hf H : Hp} {p : Addr} {ks vs : List D} : ∀ fp, OwnR K ca Hf H p fp (.dct ks vs) → fp = [p] := fun fp ⟨_, _, _, h⟩ => h
theorem ownT {Hf H : Hp} {p : Addr} {kvs : List (List L2.Key × V)} {vs : List D} (h : H p = some (.dT kvs)) (r : RepL K ca Hf vs (kvs.map (·.2))) : OwnR K ca Hf H p [p] (.dctT (kvs.map fun q => keyTD q.1) vs) :=
  ⟨_, ⟨kvs, h, rfl, rfl⟩, r, rfl⟩
theorem ownT_fp {Hf H : Hp} {p : Addr} {ks vs : List D} : ∀ fp, OwnR K ca Hf H p fp (.dctT ks vs) → fp = [p] := fun fp ⟨_, _, _, h⟩ => h
end
section
variable {X : Cx} {j : Jc} {e : Expr} {ce ck : CE} {pos pos' : Pos}
/-- {} -/
theorem mf_dict0 : MF X j (.Dict [] [] pos) fDct0 := by
  refine PE.imp pe_dnewK fun σ H Q ⟨G, Hf, env, r, m⟩ p hp => ?_
  have m : OutP X.K j.ca j.W σ Hf H (.ok (Own.dct [] [])) _ := m
  exact m _ _ (post_own r.sub hp) _ ⟨p, [p], rfl, ownD (kvs := []) upd_same (by unfold RepL; rfl), by simp, fun a ha => by
    have e : a = p := by simpa using ha
    subst e
    exact ⟨r.sub.free hp, hp, by rw [upd_same]; simp⟩⟩
/-- {} -/
theorem mf_dictT0 : MF X j (.Dict [] [] pos) fDctT0 := by
  refine PE.imp pe_dnewT fun σ H Q ⟨G, Hf, env, r, m⟩ p hp => ?_
  have m : OutP X.K j.ca j.W σ Hf H (.ok (Own.dctT [] [])) _ := m
  exact m _ _ (post_own r.sub hp) _ ⟨p, [p], rfl, ownT (kvs := []) upd_same (by unfold RepL; rfl), by simp, fun a ha => by
    have e : a = p := by simpa using ha
    subst e
    exact ⟨r.sub.free hp, hp, by rw [upd_same]; simp⟩⟩
/-- d[k] = v -/
theorem ms_put {i : Nat} {o k v : Expr} (hu : X.A.units + 80 < cLine) (ho : PE X o (tVar i)) (hk : ME X j k ck) (hv : ME X j v ce) (hs : swapsWith v (some (.Subscript o k pos')) pos.line X.env = pure false := by rfl) :
    MS X j (.Assign [.Subscript o k pos'] v pos) (sPut i ck ce) := by
  refine ms_imp (ps_dput (by omega) ho hk hv hs) fun D σ H G Hf env r m => ?_
  unfold sPut at m
  refine ⟨G, Hf, env, r, (TFl.fl r m).imp fun d Hf1 H1 _ p1 m1 v rv => ?_⟩
  split at m1
  · rename_i ks vs hx
    obtain ⟨p, fp, h1, us, ⟨kvs, h2, e1, e2⟩, h3, _⟩ := slot_own r hx
    subst e1; subst e2
    refine ⟨.ref p, h1, ?_⟩
    have r1 := r.grow p1
    refine ⟨G, Hf1, env, r1, (TFl.fl r1 m1).imp fun dk Hf2 H2 _ p2 m2 u ru => ?_⟩
    split at m2
    · rename_i hz
      obtain ⟨a, rfl⟩ := keyOk_is hz.1
      rw [key_v ru]
      have pp := p1.trans p2
      have r2 := r1.grow p2
      have hp : H2 p = some (.dK kvs) := pp.all _ _ h2
      have h3' := RepL.mono pp.sh _ _ h3
      refine ⟨p, L2.upd H2 p (.dK (putK kvs a v)), rfl, DPut.k hp (by rw [← line_eq]; have := hz.2; rw [List.length_map] at this; exact this), ?_⟩
      have q := put_rep a (Rep.mono p2.sh _ _ rv) h3'
      rw [put_ks a v] at m2
      exact m2 _ _ _ (r2.updO (ho := .dK (putK kvs a v)) hx h1 ownD_fp (ownD upd_same q))
    · exact m2.elim
  · rename_i ks vs hx
    obtain ⟨p, fp, h1, us, ⟨kvs, h2, e1, e2⟩, h3, _⟩ := slot_own r hx
    subst e1; subst e2
    refine ⟨.ref p, h1, ?_⟩
    have r1 := r.grow p1
    refine ⟨G, Hf1, env, r1, (TFl.fl r1 m1).imp fun dk Hf2 H2 _ p2 m2 u ru => ?_⟩
    split at m2
    · rename_i hz
      obtain ⟨a, rfl, ho⟩ := keyTOk_is hz.1
      have pp := p1.trans p2
      have r2 := r1.grow p2
      obtain ⟨b, rfl, hb⟩ := keyT_v ho (Rep.mono r2.sub _ _ ru)
      have hp : H2 p = some (.dT kvs) := pp.all _ _ h2
      have h3' := RepL.mono pp.sh _ _ h3
      refine ⟨p, L2.upd H2 p (.dT (putK kvs a v)), rfl, DPut.t hp hb (by rw [← line_eq]; have := hz.2; rw [List.length_map] at this; exact this), ?_⟩
      have q := put_repT a (Rep.mono p2.sh _ _ rv) h3'
      rw [put_ksT a v] at m2
      exact m2 _ _ _ (r2.updO (ho := .dT (putK kvs a v)) hx h1 ownT_fp (ownT upd_same q))
    · exact m2.elim
  · exact m1.elim
/-- d.pop(k) -/
theorem ms_pop {i : Nat} {o k : Expr} {apos cpos : Pos} (ho : PE X o (tVar i)) (hk : ME X j k ck) (hm : M1 X o "pop" apos k cpos) (hs : swapsWith (.Call (.Attribute o "pop" apos) [k] [] cpos) none pos.line X.env = pure false := by rfl) :
    MS X j (.Expr (.Call (.Attribute o "pop" apos) [k] [] cpos) pos) (sPop i ck) := by
  refine ms_imp (ps_expr (pe_dpop1 ho hk hm) hs) fun D σ H G Hf env r m => ?_
  unfold sPop at m
  split at m
  · rename_i ks vs hx
    obtain ⟨p, fp, h1, us, ⟨kvs, h2, e1, e2⟩, h3, _⟩ := slot_own r hx
    subst e1; subst e2
    refine ⟨.ref p, h1, p, rfl, .inl ⟨kvs, .inl h2⟩, ?_⟩
    refine ⟨G, Hf, env, r, (TFl.fl r m).imp fun dk Hf2 H2 _ p2 m2 u ru => ?_⟩
    split at m2
    · rename_i hz
      obtain ⟨a, rfl⟩ := keyOk_is hz.1
      rw [key_v ru]
      have hp : H2 p = some (.dK kvs) := p2.all _ _ h2
      have h3' := RepL.mono p2.sh _ _ h3
      have hh := hz.2
      rw [has_any, valV_any] at hh
      obtain ⟨w, hw⟩ := Option.isSome_iff_exists.mp hh
      refine ⟨kvs, a, w, hp, rfl, hw, ?_⟩
      have q := drop_rep a h3'
      rw [drop_ks a] at m2
      exact m2 _ _ _ ((r.grow p2).updO (ho := .dK (dropK kvs a)) hx h1 ownD_fp (ownD upd_same q))
    · exact m2.elim
  · exact m.elim
end
/-! ### sorted -/
theorem sortI_eq {ns ys : List Int} (h1 : ys.Perm ns) (h2 : ys.Pairwise (· ≤ ·)) : ys = sortI ns := by
  refine List.Perm.eq_of_pairwise (le := fun a b : Int => a ≤ b) (fun a b _ _ h1 h2 => by omega) h2 ?_ (h1.trans (List.mergeSort_perm ns _).symm)
  have := List.pairwise_mergeSort (le := fun a b : Int => decide (a ≤ b)) (fun a b c h1 h2 => by simp at *; omega) (fun a b => by simp; omega) ns
  exact this.imp fun h => by simpa using h
theorem intL_map : ∀ {xs : List D} {ns : List Int}, intL xs = some ns → xs = ns.map .int
  | [], ns, h => by cases h; rfl
  | x :: xs, ns, h => by
    unfold intL at h
    cases x with
    | int i =>
      cases q : intL xs with
      | none => rw [q] at h; cases h
      | some ms => rw [q] at h; cases h; rw [intL_map q]; rfl
    | _ => cases q : intL xs <;> rw [q] at h <;> cases h
theorem repL_is {K : PySem.W.Frag} {ca : Nat → Addr} {H : Hp} : ∀ {ns : List Int} {vs : List V}, RepL K ca H (ns.map .int) vs → vs = ns.map V.int
  | [], vs, h => by
    have h : RepL K ca H [] vs := h
    unfold RepL at h; rw [h]; rfl
  | i :: ns, vs, h => by
    have h : RepL K ca H (.int i :: ns.map .int) vs := h
    unfold RepL at h
    obtain ⟨v, r, rfl, h1, h2⟩ := h
    have h1 : v = .int i := h1
    rw [h1, repL_is h2]; rfl
theorem repL_of_ints {K : PySem.W.Frag} {ca : Nat → Addr} {H : Hp} : ∀ zs : List Int, RepL K ca H (zs.map .int) (zs.map .int)
  | [] => by show RepL K ca H [] []; unfold RepL; rfl
  | z :: zs => by show RepL K ca H (.int z :: zs.map .int) _; unfold RepL; exact ⟨.int z, zs.map .int, rfl, rfl, repL_of_ints zs⟩
theorem keys_ints : ∀ {kvs : List (L2.Key × V)} {ns : List Int}, kvs.map (fun p => keyD p.1) = ns.map D.int → kvs.map (·.1) = ns.map Sum.inl
  | [], ns, h => by
    cases ns with
    | nil => rfl
    | cons n ns => cases h
  | p :: kvs, ns, h => by
    cases ns with
    | nil => cases h
    | cons n ns =>
      rw [List.map_cons, List.map_cons] at h
      injection h with h1 h2
      rw [List.map_cons, List.map_cons, keys_ints h2]
      congr 1
      cases q : p.1 with
      | inl i => rw [q] at h1; cases h1; rfl
      | inr x => rw [q] at h1; cases h1
theorem bf_sorted {X : Cx} {ca : Nat → Addr} (hc : X.calm = true) : BF X ca (.builtin "sorted") dSorted := by
  refine ⟨_, cr_sortedI.or (call_sortedDI hc), fun W σ Hf H xs vs Q s h m => ?_⟩
  unfold dSorted at m
  split at m
  · split at m
    · rename_i ns hn
      obtain ⟨v, rfl, h1⟩ := pRepL1 h
      obtain ⟨a, us, rfl, a1, a2⟩ := pLst h1
      rw [intL_map hn] at a2
      have := repL_is a2
      subst this
      refine .inl ⟨a, ns, rfl, a1, fun ns' p q1 q2 hp => ?_⟩
      rw [sortI_eq q1 q2]
      exact OutP.ok m s p _ hp (repL_of_ints _)
    · exact m.no.elim
  · split at m
    · rename_i ns hn
      split at m
      · rename_i hz
        obtain ⟨v, rfl, h1⟩ := pRepL1 h
        obtain ⟨a, kvs, rfl, a1, a2, a3⟩ := pDct h1
        rw [intL_map hn] at a2
        refine .inr ⟨a, kvs, ns, rfl, .inl a1, keys_ints a2.symm, hz, fun ns' p q1 q2 hp => ?_⟩
        rw [sortI_eq q1 q2]
        exact OutP.ok m s p _ hp (repL_of_ints _)
      · exact m.no.elim
    · exact m.no.elim
  · exact m.no.elim
/-! ### dict comprehensions -/
section
variable {K : PySem.W.Frag} {ca : Nat → Addr} {ea : Option (Addr × Value × Option Addr)} {G : Gh} {Hf H : Hp} {env : M.Env} {σ : L2.St}
theorem RR.lastD {D : Addr} {ks vs : List M.D} (r : RR K ca ea G Hf (env ++ [.own (.dct ks vs)]) (σ ++ [some (.ref D)]) H) : ∃ kvs, H D = some (.dK kvs) ∧ ks = kvs.map (fun p => keyD p.1) ∧ RepL K ca Hf vs (kvs.map (·.2)) ∧ Hf D = none := by
  have hl : env.length = σ.length := by have := r.len; simpa using this
  obtain ⟨p, fp, e, ow, mi⟩ := r.ownV (i := env.length) (o := .dct ks vs) (v := .ref D) (by rw [List.getElem?_append_right (Nat.le_refl _)]; simp) (by rw [List.getElem?_append_right (by omega), hl]; simp)
  cases e
  obtain ⟨us, ⟨kvs, h1, h2, h3⟩, h4, h5⟩ := ow
  subst h3; subst h5
  exact ⟨kvs, h1, h2, h4, (mi.2 D (by simp)).1⟩
theorem RR.updLastD {D : Addr} {o o2 : Own} {ho : HO} (r : RR K ca ea G Hf (env ++ [.own o]) (σ ++ [some (.ref D)]) H) (hfp : ∀ fp, OwnR K ca Hf H D fp o → fp = [D]) (how : OwnR K ca Hf (L2.upd H D ho) D [D] o2) :
    RR K ca ea G Hf (env ++ [.own o2]) (σ ++ [some (.ref D)]) (L2.upd H D ho) := by
  have hl : env.length = σ.length := by have := r.len; simpa using this
  have z := r.updO (i := env.length) (p := D) (by rw [List.getElem?_append_right (Nat.le_refl _)]; simp) (by rw [List.getElem?_append_right (by omega), hl]; simp) hfp how
  have e : (env ++ [Sl.own o]).set env.length (.own o2) = env ++ [.own o2] := by
    rw [List.set_append_right _ _ (Nat.le_refl _), Nat.sub_self]
    rfl
  rw [e] at z
  exact z
end
theorem dcGo_calm {g : Tg} {t : CT} {k e : CE} : ∀ {ds : List D} {env : Env} {ks vs : List D} (x : ExcV), dcGo g t k e ds env ks vs ≠ .exc x
  | [], env, ks, vs, x => fun h => nomatch h
  | d :: ds, env, ks, vs, x => by
    unfold dcGo
    cases g d env with
    | none => exact fun h => nomatch h
    | some e1 =>
      refine calm_bind (fun c x => ?_) x
      cases c with
      | true =>
        refine calm_bind (fun y x => ?_) x
        refine calm_bind (fun z x => ?_) x
        show (if keyOk y = true ∧ ks.length < line then _ else _) ≠ _
        by_cases h : keyOk y = true ∧ ks.length < line
        · rw [if_pos h]; exact dcGo_calm x
        · rw [if_neg h]; exact fun h => nomatch h
      | false => exact dcGo_calm x
theorem dc_read {K : PySem.W.Frag} {j : Jc} {vs : List Nat} {it : CA} {g : Tg} {t : CT} {k e : CE} {σ : L2.St} {H : Hp} {Q : VK} (h : TF K j (fDC vs it g t k e) σ H Q) :
    tDc (TIt K j it) (tMG K j.dry vs g) (TMT K j.dry t) (TM K j.dry k) (TM K j.dry e) vs σ H Q := by
  obtain ⟨G, Hf, env, r, m⟩ := h
  refine ⟨G, Hf, env, r, m.bind.imp fun ds Hf1 H1 _ p1 m1 J hJ D hD => ?_⟩
  obtain ⟨xs, hxs⟩ : ∃ xs, dcGo g t k e ds (wipeE env vs) [] [] = .ok xs := by
    cases q : dcGo g t k e ds (wipeE env vs) [] [] with
    | ok xs => exact ⟨xs, rfl⟩
    | exc x => exact absurd q (dcGo_calm x)
    | stuck => rw [q] at m1; exact m1.elim
  rw [hxs] at m1
  have r1 := r.grow p1
  have hw := (r1.wipe vs).pushO (o0 := .dct [] []) (ho := .dK []) hD (ownD (kvs := []) upd_same (by unfold RepL; rfl))
  refine ⟨fun i mm H => mm = ds.length - i ∧ ∃ Hf ks us, RR K j.ca j.ea G Hf (wipeE env vs ++ [.own (.dct ks us)]) (L2.wipe σ vs ++ [some (.ref D)]) H ∧ Same Hf1 Hf ∧ Post Hf1 H1 Hf H ∧ dcGo g t k e (ds.drop i) (wipeE env vs) ks us = .ok xs,
    ⟨_, rfl, Hf1, [], [], hw, Same.refl _, post_own p1.sub hD, by simpa using hxs⟩, ?_⟩
  rintro i mm H2 ⟨rfl, Hf2, ks, us, r2, s2, q2, e2⟩
  by_cases hlt : i < ds.length
  · refine .inr ⟨hJ.go i Hf2 H2 s2 r2.sub hlt, fun H => ∃ Hf ks us, RR K j.ca j.ea G Hf (wipeE env vs ++ [.own (.dct ks us)]) (L2.wipe σ vs ++ [some (.ref D)]) H ∧ Same Hf1 Hf ∧ Post Hf1 H1 Hf H ∧ dcGo g t k e (ds.drop (i + 1)) (wipeE env vs) ks us = .ok xs, fun H' h => ⟨ds.length - (i + 1), by omega, rfl, h⟩, fun x H' y => ?_⟩
    obtain ⟨Hf3, p3, rx⟩ := hJ.yld i Hf2 H2 x H' ds[i] s2 r2.sub (List.getElem?_eq_getElem hlt) y
    rw [drop_at hlt] at e2
    unfold dcGo at e2
    cases hg : g ds[i] (wipeE env vs) with
    | none => rw [hg] at e2; cases e2
    | some e1 =>
      rw [hg] at e2
      obtain ⟨c, hc, e3⟩ := calm_ok e2
      have r3 := r2.grow p3
      refine ⟨G, Hf3, _, ds[i], e1, r3.pop, rx, hg, fun σ2 rt hwt => ⟨hwt.trans wipe_wipe, ?_⟩⟩
      refine ⟨G, Hf3, e1, rt, ?_⟩
      show OutP K j.ca _ _ _ _ (t e1) _
      rw [hc]
      intro Hf4 H4 p4
      cases c with
      | false => exact ⟨Hf4, ks, us, r3.grow p4, (s2.trans p3.sh).trans p4.sh, (q2.trans p3).trans p4, e3⟩
      | true =>
        have e3 : ((k e1).calm.bind fun x => (e e1).calm.bind fun y => if keyOk x = true ∧ ks.length < line then dcGo g t k e (ds.drop (i + 1)) (wipeE env vs) (putKs ks x) (putVs ks us x y) else .stuck) = .ok xs := e3
        obtain ⟨kd, hk, e4⟩ := calm_ok e3
        obtain ⟨yd, hy, e5⟩ := calm_ok e4
        refine ⟨G, Hf4, e1, rt.grow p4, ?_⟩
        show OutP K j.ca _ _ _ _ (k e1) _
        rw [hk]
        intro Hf5 H5 p5 kv rk
        refine ⟨G, Hf5, e1, (rt.grow p4).grow p5, ?_⟩
        show OutP K j.ca _ _ _ _ (e e1) _
        rw [hy]
        intro Hf6 H6 p6 v rv
        have r6 := ((r3.grow p4).grow p5).grow p6
        obtain ⟨kvs, u1, u2, u3, u4⟩ := r6.lastD
        subst u2
        have hz : keyOk kd = true ∧ (kvs.map fun p => keyD p.1).length < line := by
          by_cases h : keyOk kd = true ∧ (kvs.map fun p => keyD p.1).length < line
          · exact h
          · rw [if_neg h] at e5; cases e5
        rw [if_pos hz] at e5
        obtain ⟨a, rfl⟩ := keyOk_is hz.1
        rw [put_ks a v] at e5
        refine ⟨kvs, a, key_v rk, u1, by rw [← line_eq]; have := hz.2; rw [List.length_map] at this; exact this, Hf6, _, _, r6.updLastD (ho := .dK (putK kvs a v)) ownD_fp (ownD upd_same (put_rep a rv u3)), (((s2.trans p3.sh).trans p4.sh).trans p5.sh).trans p6.sh, ((((q2.trans p3).trans p4).trans p5).trans p6).updNew hD u4, e5⟩
  · refine .inl ⟨hJ.stop i Hf2 H2 s2 r2.sub (by omega), ?_⟩
    rw [List.drop_eq_nil_of_le (by omega)] at e2
    cases e2
    obtain ⟨kvs, u1, u2, u3, u4⟩ := r2.lastD
    subst u2
    exact m1 Hf2 H2 q2 _ ⟨D, [D], rfl, ownD u1 u3, by simp, fun a ha => by
      have : a = D := by simpa using ha
      subst this
      exact ⟨u4, p1.all.free hD, by rw [u1]; simp⟩⟩
section
variable {X : Cx} {j : Jc} {kx vx tg iter : Expr} {ifs : List Expr} {scope : Scope} {own : List (Str × Nat)} {vs : List Nat} {pos : Pos} {it : CA} {g : Tg} {t : CT} {k e : CE}
theorem mf_dc (hc : X.calm = true) (hN : X.N.Nodup) (hi : MI X j tg iter it) (ok : BlkOk X.N X.env.scope scope own) (hv : own.map (·.2) = vs)
    (hg : ∀ (s : Shared) (H : Hp) (C : Addr) (cl : List (Str × Addr)) (fp : List Addr), MG (X.blk s H scope (compEnvC scope cl C X.env) fp) j.dry vs tg g) (ht : ∀ (s : Shared) (H : Hp) (C : Addr) (cl : List (Str × Addr)) (fp : List Addr), PTs (X.blk s H scope (compEnvC scope cl C X.env) fp) ifs (TMT X.K j.dry t))
    (hk : ∀ (s : Shared) (H : Hp) (C : Addr) (cl : List (Str × Addr)) (fp : List Addr), ME (X.blk s H scope (compEnvC scope cl C X.env) fp) j.dry kx k)
    (he : ∀ (s : Shared) (H : Hp) (C : Addr) (cl : List (Str × Addr)) (fp : List Addr), ME (X.blk s H scope (compEnvC scope cl C X.env) fp) j.dry vx e) (hs : ∀ x, foldedSetIterable iter X.env x = pure x := by intro _; rfl) :
    MF X j (.DictComp kx vx [⟨tg, iter, ifs, 0⟩] scope pos) (fDC vs it g t k e) := by
  subst hv
  exact PE.imp (pe_dc (g := tMG X.K j.dry _ g) (tt := TMT X.K j.dry t) (tk := TM X.K j.dry k) (tv := TM X.K j.dry e) hc hN hi ok hg ht hk he hs) fun σ H Q h => dc_read h
end
end M
/-! MDv: dicts as rows of pairs. -/
namespace M
open PySem (Str)
section
variable {κ α β : Type} [DecidableEq κ]
def look : List (κ × α) → κ → Option α
  | [], _ => none
  | p :: l, k => if p.1 = k then some p.2 else look l k
def putL (l : List (κ × α)) (k : κ) (v : α) : List (κ × α) := if (look l k).isSome = true then l.map fun p => if p.1 = k then (p.1, v) else p else l ++ [(k, v)]
def popL (l : List (κ × α)) (k : κ) : List (κ × α) := l.filter fun p => !decide (p.1 = k)
theorem look_cons (p : κ × α) (l : List (κ × α)) (k : κ) : look (p :: l) k = if p.1 = k then some p.2 else look l k := rfl
theorem look_app (a b : List (κ × α)) (k : κ) : look (a ++ b) k = (look a k).orElse fun _ => look b k := by
  induction a with
  | nil => rfl
  | cons p a ih =>
    show (if p.1 = k then some p.2 else look (a ++ b) k) = (if p.1 = k then some p.2 else look a k).orElse _
    by_cases h : p.1 = k
    · rw [if_pos h, if_pos h]; rfl
    · rw [if_neg h, if_neg h, ih]
theorem look_map (f : α → β) (l : List (κ × α)) (k : κ) : look (l.map fun p => (p.1, f p.2)) k = (look l k).map f := by
  induction l with
  | nil => rfl
  | cons p l ih =>
    show (if p.1 = k then some (f p.2) else look (l.map fun p => (p.1, f p.2)) k) = (if p.1 = k then some p.2 else look l k).map f
    by_cases h : p.1 = k
    · rw [if_pos h, if_pos h]; rfl
    · rw [if_neg h, if_neg h, ih]
theorem look_set (l : List (κ × α)) (k : κ) (v : α) (j : κ) : look (l.map fun p => if p.1 = k then (p.1, v) else p) j = if k = j then (look l j).map fun _ => v else look l j := by
  induction l with
  | nil => by_cases h : k = j <;> simp [h, look]
  | cons p l ih =>
    show look ((if p.1 = k then (p.1, v) else p) :: _) j = _
    by_cases h : p.1 = k
    · rw [if_pos h]
      show (if p.1 = j then some v else look _ j) = _
      rw [ih]
      by_cases hj : k = j
      · rw [if_pos (h.trans hj), if_pos hj]
        show _ = (if p.1 = j then some p.2 else _).map _
        rw [if_pos (h.trans hj)]; rfl
      · rw [if_neg (fun e => hj (h.symm.trans e)), if_neg hj, if_neg hj]
        show _ = if p.1 = j then _ else _
        rw [if_neg (fun e => hj (h.symm.trans e))]
    · rw [if_neg h]
      show (if p.1 = j then some p.2 else look _ j) = _
      rw [ih]
      by_cases hj : p.1 = j
      · have : ¬ k = j := fun e => h (hj.trans e.symm)
        rw [if_pos hj, if_neg this]
        show _ = if p.1 = j then _ else _
        rw [if_pos hj]
      · rw [if_neg hj, look_cons, if_neg hj]
theorem look_put (l : List (κ × α)) (k : κ) (v : α) (j : κ) : look (putL l k v) j = if k = j then some v else look l j := by
  unfold putL
  by_cases h : (look l k).isSome = true
  · rw [if_pos h, look_set]
    by_cases hj : k = j
    · subst hj
      rw [if_pos rfl, if_pos rfl]
      obtain ⟨w, hw⟩ := Option.isSome_iff_exists.mp h
      rw [hw]; rfl
    · rw [if_neg hj, if_neg hj]
  · rw [if_neg h, look_app]
    have hn : look l k = none := by simpa using h
    show (look l j).orElse (fun _ => if k = j then some v else none) = _
    by_cases hj : k = j
    · subst hj; simp [hn]
    · rw [if_neg hj, if_neg hj]; cases look l j <;> rfl
theorem look_pop (l : List (κ × α)) (k j : κ) : look (popL l k) j = if k = j then none else look l j := by
  induction l with
  | nil => by_cases h : k = j <;> simp [h, look, popL]
  | cons p l ih =>
    have e : popL (p :: l) k = if p.1 = k then popL l k else p :: popL l k := by
      unfold popL
      by_cases h : p.1 = k <;> simp [h]
    rw [e]
    by_cases h : p.1 = k
    · rw [if_pos h, ih]
      by_cases hj : k = j
      · rw [if_pos hj, if_pos hj]
      · rw [if_neg hj, if_neg hj]
        show _ = if p.1 = j then _ else _
        rw [if_neg fun e => hj (h.symm.trans e)]
    · rw [if_neg h]
      show (if p.1 = j then some p.2 else look (popL l k) j) = _
      rw [ih]
      by_cases hj : p.1 = j
      · rw [if_pos hj, if_neg fun e => h (hj.trans e.symm)]
        show _ = if p.1 = j then _ else _
        rw [if_pos hj]
      · rw [if_neg hj]
        show _ = if k = j then none else if p.1 = j then _ else _
        rw [if_neg hj]
def keysL (l : List (κ × α)) : List κ := l.map (·.1)
theorem look_none {l : List (κ × α)} {k : κ} : look l k = none ↔ k ∉ keysL l := by
  induction l with
  | nil => simp [look, keysL]
  | cons p l ih =>
    show (if p.1 = k then some p.2 else look l k) = none ↔ k ∉ p.1 :: keysL l
    by_cases h : p.1 = k
    · rw [if_pos h]; simp [h]
    · rw [if_neg h, ih]
      have : ¬ k = p.1 := fun e => h e.symm
      simp [this]
theorem look_some {l : List (κ × α)} {k : κ} : (look l k).isSome = true ↔ k ∈ keysL l := by
  cases h : look l k with
  | none => simpa using look_none.mp h
  | some v =>
    simp only [Option.isSome_some, true_iff]
    by_cases q : k ∈ keysL l
    · exact q
    · rw [look_none.mpr q] at h; cases h
theorem look_mem {l : List (κ × α)} {k : κ} {v : α} (h : look l k = some v) : (k, v) ∈ l := by
  induction l with
  | nil => cases h
  | cons p l ih =>
    have h : (if p.1 = k then some p.2 else look l k) = some v := h
    by_cases q : p.1 = k
    · rw [if_pos q] at h
      cases h; subst q; exact List.mem_cons_self
    · rw [if_neg q] at h
      exact List.mem_cons_of_mem _ (ih h)
theorem look_of_mem {l : List (κ × α)} {k : κ} {v : α} (hn : (keysL l).Nodup) (h : (k, v) ∈ l) : look l k = some v := by
  induction l with
  | nil => cases h
  | cons p l ih =>
    have hn : (p.1 :: keysL l).Nodup := hn
    show (if p.1 = k then some p.2 else look l k) = some v
    rcases List.mem_cons.mp h with e | e
    · subst e; rw [if_pos rfl]
    · have hk : k ∈ keysL l := List.mem_map.mpr ⟨_, e, rfl⟩
      rw [if_neg fun q : p.1 = k => (List.nodup_cons.mp hn).1 (q ▸ hk)]
      exact ih (List.nodup_cons.mp hn).2 e
theorem keys_put (l : List (κ × α)) (k : κ) (v : α) : keysL (putL l k v) = if k ∈ keysL l then keysL l else keysL l ++ [k] := by
  unfold putL
  by_cases h : k ∈ keysL l
  · rw [if_pos (look_some.mpr h), if_pos h]
    unfold keysL
    rw [List.map_map]
    apply List.map_congr_left
    intro p _
    show (if p.1 = k then (p.1, v) else p).1 = p.1
    by_cases q : p.1 = k <;> simp [q]
  · rw [if_neg (fun q => h (look_some.mp q)), if_neg h]
    simp [keysL]
theorem nodup_put {l : List (κ × α)} (k : κ) (v : α) (h : (keysL l).Nodup) : (keysL (putL l k v)).Nodup := by
  rw [keys_put]
  by_cases q : k ∈ keysL l
  · rw [if_pos q]; exact h
  · rw [if_neg q]
    exact List.nodup_append.mpr ⟨h, by simp, fun a ha b hb e => by
      rw [List.mem_singleton.mp hb] at e; exact q (e ▸ ha)⟩
theorem nodup_pop {l : List (κ × α)} (k : κ) (h : (keysL l).Nodup) : (keysL (popL l k)).Nodup := by
  unfold keysL popL
  exact List.Sublist.nodup (List.Sublist.map _ List.filter_sublist) h
/-! in the heap's words -/
variable (kd : κ → D) (pv : α → D)
def dK (l : List (κ × α)) : List D := l.map fun p => kd p.1
def dV (l : List (κ × α)) : List D := l.map fun p => pv p.2
def Keys : Prop := ∀ a b, eqD (kd a) (kd b) = decide (a = b)
variable {kd}
theorem getV_l (hk : Keys kd) (l : List (κ × α)) (k : κ) : getV (dK kd l) (dV pv l) (kd k) = (look l k).map pv := by
  induction l with
  | nil => rfl
  | cons p l ih =>
    show (if eqD (kd p.1) (kd k) = true then some (pv p.2) else getV (dK kd l) (dV pv l) (kd k)) = (if p.1 = k then some p.2 else look l k).map pv
    rw [hk, ih]
    by_cases h : p.1 = k <;> simp [h]
theorem hasK_l (hk : Keys kd) (l : List (κ × α)) (k : κ) : hasK (dK kd l) (kd k) = (look l k).isSome := by
  induction l with
  | nil => rfl
  | cons p l ih =>
    show (eqD (kd p.1) (kd k) || hasK (dK kd l) (kd k)) = (if p.1 = k then some p.2 else look l k).isSome
    rw [hk, ih]
    by_cases h : p.1 = k <;> simp [h]
theorem setV_l (hk : Keys kd) (l : List (κ × α)) (k : κ) (v : α) : setV (dK kd l) (dV pv l) (kd k) (pv v) = dV pv (l.map fun p => if p.1 = k then (p.1, v) else p) := by
  induction l with
  | nil => rfl
  | cons p l ih =>
    show (if eqD (kd p.1) (kd k) = true then pv v else pv p.2) :: setV (dK kd l) (dV pv l) (kd k) (pv v) = pv (if p.1 = k then (p.1, v) else p).2 :: dV pv (l.map fun p => if p.1 = k then (p.1, v) else p)
    rw [hk, ih]
    by_cases h : p.1 = k <;> simp [h]
theorem putKs_l (hk : Keys kd) (l : List (κ × α)) (k : κ) (v : α) : putKs (dK kd l) (kd k) = dK kd (putL l k v) := by
  unfold putKs putL
  rw [hasK_l hk]
  by_cases h : (look l k).isSome = true
  · rw [if_pos h, if_pos h]
    unfold dK
    rw [List.map_map]
    apply List.map_congr_left
    intro p _
    show kd p.1 = kd (if p.1 = k then (p.1, v) else p).1
    by_cases q : p.1 = k <;> simp [q]
  · rw [if_neg h, if_neg h]
    simp [dK]
theorem putVs_l (hk : Keys kd) (l : List (κ × α)) (k : κ) (v : α) : putVs (dK kd l) (dV pv l) (kd k) (pv v) = dV pv (putL l k v) := by
  unfold putVs putL
  rw [hasK_l hk]
  by_cases h : (look l k).isSome = true
  · rw [if_pos h, if_pos h, setV_l pv hk]
  · rw [if_neg h, if_neg h]
    simp [dV]
theorem dropKs_l (hk : Keys kd) (l : List (κ × α)) (k : κ) : dropKs (dK kd l) (kd k) = dK kd (popL l k) := by
  unfold dropKs popL dK
  rw [List.filter_map]
  congr 1
  apply List.filter_congr
  intro p _
  show (!eqD (kd p.1) (kd k)) = _
  rw [hk]
theorem dropVs_l (hk : Keys kd) (l : List (κ × α)) (k : κ) : dropVs (dK kd l) (dV pv l) (kd k) = dV pv (popL l k) := by
  induction l with
  | nil => rfl
  | cons p l ih =>
    show (if eqD (kd p.1) (kd k) = true then dropVs (dK kd l) (dV pv l) (kd k) else pv p.2 :: dropVs (dK kd l) (dV pv l) (kd k)) = _
    rw [hk, ih]
    by_cases h : p.1 = k <;> simp [h, popL, dV]
end
section
variable {κ α : Type} [DecidableEq κ] {kd : κ → D} (pv : α → D)
@[simp] theorem sPut_a (i : Nat) (k v : CE) (env : Env) : sPut i k v env = (v env).fl env fun dv => match env[i]? with
  | some (.own (.dct ks vs)) => (k env).fl env fun dk => if keyOk dk = true ∧ ks.length < line then .next (env.set i (.own (.dct (putKs ks dk) (putVs ks vs dk dv)))) else .stuck
  | some (.own (.dctT ks vs)) => (k env).fl env fun dk => if keyTOk dk = true ∧ ks.length < line then .next (env.set i (.own (.dctT (putKs ks dk) (putVs ks vs dk dv)))) else .stuck
  | _ => .stuck := eqOf rfl
@[simp] theorem fDctT0_a (env : Env) : fDctT0 env = .ok (.dctT [] []) := eqOf rfl
@[simp] theorem sPop_a (i : Nat) (k : CE) (env : Env) : sPop i k env = match env[i]? with
  | some (.own (.dct ks vs)) => (k env).fl env fun dk => if keyOk dk = true ∧ hasK ks dk = true then .next (env.set i (.own (.dct (dropKs ks dk) (dropVs ks vs dk)))) else .stuck
  | _ => .stuck := eqOf rfl
@[simp] theorem fDct0_a (env : Env) : fDct0 env = .ok (.dct [] []) := eqOf rfl
@[simp] theorem dK_len (l : List (κ × α)) : (dK kd l).length = l.length := by simp [dK]
theorem sPut_l (hk : Keys kd) (ho : ∀ k, keyOk (kd k) = true) {i : Nat} {k v : CE} {env : Env} {l : List (κ × α)} {d : κ} {w : α} (h1 : v env = .ok (pv w)) (h2 : env[i]? = some (.own (.dct (dK kd l) (dV pv l)))) (h3 : k env = .ok (kd d)) (h4 : l.length < line) :
    sPut i k v env = .next (env.set i (.own (.dct (dK kd (putL l d w)) (dV pv (putL l d w))))) := by
  rw [sPut_a, h1, fl_ok, h2]
  simp only [h3, fl_ok]
  rw [if_pos ⟨ho d, by rw [dK_len]; exact h4⟩, putKs_l hk l d w, putVs_l pv hk]
theorem sPop_l (hk : Keys kd) (ho : ∀ k, keyOk (kd k) = true) {i : Nat} {k : CE} {env : Env} {l : List (κ × α)} {d : κ} (h2 : env[i]? = some (.own (.dct (dK kd l) (dV pv l)))) (h3 : k env = .ok (kd d)) (h4 : (look l d).isSome = true) :
    sPop i k env = .next (env.set i (.own (.dct (dK kd (popL l d)) (dV pv (popL l d))))) := by
  rw [sPop_a, h2]
  simp only [h3, fl_ok]
  rw [if_pos ⟨ho d, by rw [hasK_l hk]; exact h4⟩, dropKs_l hk, dropVs_l pv hk]
theorem dIn_l (hk : Keys kd) (ho : ∀ k, keyOk (kd k) = true) (l : List (κ × α)) (d : κ) : dIn (kd d) (.dct (dK kd l) (dV pv l)) = .ok (.bl (look l d).isSome) := by
  have e : ∀ x : D, keyOk x = true → ∀ ks vs, dIn x (.dct ks vs) = .ok (.bl (getV ks vs x).isSome) := by
    intro x hx ks vs
    cases x <;> first | (cases hx; done) | exact eqOf rfl
  rw [e _ (ho d), getV_l pv hk]
  simp
theorem dNotIn_l (hk : Keys kd) (ho : ∀ k, keyOk (kd k) = true) (l : List (κ × α)) (d : κ) : dNotIn (kd d) (.dct (dK kd l) (dV pv l)) = .ok (.bl (!(look l d).isSome)) := by
  have e : ∀ x : D, keyOk x = true → ∀ ks vs, dNotIn x (.dct ks vs) = .ok (.bl (!(getV ks vs x).isSome)) := by
    intro x hx ks vs
    cases x <;> first | (cases hx; done) | exact eqOf rfl
  rw [e _ (ho d), getV_l pv hk]
  simp
theorem dIx_d (hk : Keys kd) (ho : ∀ k, keyOk (kd k) = true) {l : List (κ × α)} {d : κ} {v : α} (h : look l d = some v) : dIx (.dct (dK kd l) (dV pv l)) (kd d) = .ok (pv v) := by
  show (if keyOk (kd d) = true then (match getV (dK kd l) (dV pv l) (kd d) with | some d => Out.ok d | none => .stuck) else .stuck) = _
  rw [if_pos (ho d), getV_l pv hk, h]
  rfl
end
theorem forGo_go {g : Tg} {body : CS} {d : D} {ds : List D} {env e1 e2 : Env} (h : g d env = some e1) (h2 : body e1 = .next e2 ∨ body e1 = .cont e2) : forGo g body (d :: ds) env = forGo g body ds e2 := by
  rw [forGo_cons h]
  rcases h2 with h2 | h2 <;> rw [h2]
/-- whole numbers as keys -/
def kN (n : Nat) : D := .int n
def kI (n : Int) : D := .int n
theorem keysN : Keys kN := fun a b => by
  show ((a : Int) == (b : Int)) = _
  by_cases h : a = b
  · subst h; simp
  · have : ¬ (a : Int) = b := by omega
    simp [h, this]
theorem keysI : Keys kI := fun a b => by
  show (a == b) = _
  by_cases h : a = b
  · subst h; simp
  · simp [h]
theorem okKN (n : Nat) : keyOk (kN n) = true := rfl
theorem okKI (n : Int) : keyOk (kI n) = true := rfl
@[simp] theorem dNe_b (a b : Bool) : dNe (.bl a) (.bl b) = .ok (.bl (a != b)) := by cases a <;> cases b <;> exact eqOf rfl
@[simp] theorem dEq_b (a b : Bool) : dEq (.bl a) (.bl b) = .ok (.bl (a == b)) := by cases a <;> cases b <;> exact eqOf rfl
theorem dNe_s {a b : Str} (h1 : strOk a = true) (h2 : strOk b = true) : dNe (.str a) (.str b) = .ok (.bl (!(a == b))) := by
  show (if okD (.str a) = true ∧ okD (.str b) = true then _ else _) = _
  rw [if_pos ⟨okN_str h1, okN_str h2⟩]
  exact eqOf rfl
theorem dEq_t {a b : Str} (r : Bool) (h1 : strOk a = true) (h2 : strOk b = true) (h : (a == b) = r) : dEq (.str a) (.str b) = .ok (.bl r) := by rw [dEq_s h1 h2, h]
theorem dNe_t {a b : Str} (r : Bool) (h1 : strOk a = true) (h2 : strOk b = true) (h : (a == b) = r) : dNe (.str a) (.str b) = .ok (.bl (!r)) := by rw [dNe_s h1 h2, h]
theorem okD_ints (ns : List Int) : okD (.tup (ns.map .int)) = true := okN_tup (okNs_ints 63 ns)
theorem okD_intsl (ns : List Int) : okD (.lst (ns.map .int)) = true := okN_lst (okNs_ints 63 ns)
theorem okNs_all {n : Nat} {xs : List D} (h : ∀ x ∈ xs, okN n x = true) : okNs n xs = true := by
  induction xs with
  | nil => cases n <;> rfl
  | cons x xs ih =>
    show (okN n x && okNs n xs) = true
    rw [h x List.mem_cons_self, ih fun y hy => h y (List.mem_cons_of_mem _ hy)]
    rfl
/-! ### sorted rows of ints -/
theorem sortI_perm (l : List Int) : (sortI l).Perm l := List.mergeSort_perm _ _
theorem sortI_le (l : List Int) : (sortI l).Pairwise (· ≤ ·) := by
  have h := List.pairwise_mergeSort (le := fun a b : Int => decide (a ≤ b)) (fun a b c h1 h2 => by simp at h1 h2 ⊢; omega) (fun a b => by simp; omega) l
  exact h.imp fun h => by simpa using h
theorem sortI_len (l : List Int) : (sortI l).length = l.length := (sortI_perm l).length_eq
theorem sortI_mem {l : List Int} {x : Int} : x ∈ sortI l ↔ x ∈ l := (sortI_perm l).mem_iff
theorem sortI_lt {l : List Int} (h : l.Nodup) : (sortI l).Pairwise (· < ·) := by
  have h1 := sortI_le l
  have h2 : (sortI l).Nodup := (sortI_perm l).nodup_iff.mpr h
  exact (h1.and h2).imp fun ⟨a, b⟩ => by
    have : ¬ _ = _ := b
    omega
theorem rise_len : ∀ {l : List Int} {lo hi : Int}, l.Pairwise (· < ·) → (∀ x ∈ l, lo ≤ x ∧ x < hi) → lo ≤ hi → (l.length : Int) ≤ hi - lo
  | [], lo, hi, _, _, h => by simp; omega
  | x :: l, lo, hi, h, hb, hl => by
    have p := List.pairwise_cons.mp h
    have hx := hb x List.mem_cons_self
    have := rise_len (l := l) (lo := x + 1) (hi := hi) p.2 (fun y hy => ⟨by have := p.1 y hy; omega, (hb y (List.mem_cons_of_mem _ hy)).2⟩) (by omega)
    simp only [List.length_cons]
    omega
theorem intL_ints (ns : List Int) : intL (ns.map .int) = some ns := by
  induction ns with
  | nil => rfl
  | cons n ns ih =>
    show (match D.int n, intL (ns.map .int) with | .int i, some ns => some (i :: ns) | _, _ => none) = _
    rw [ih]
theorem dSorted_l (ns : List Int) : dSorted [.lst (ns.map .int)] = .ok ((sortI ns).map .int) := by
  show (match intL (ns.map .int) with | some ns => Out.ok ((sortI ns).map D.int) | none => .stuck) = _
  rw [intL_ints]
theorem dSorted_d (ns : List Int) (vs : List D) (h : ns.length < 64) : dSorted [.dct (ns.map .int) vs] = .ok ((sortI ns).map .int) := by
  show (match intL (ns.map .int) with | some ns => (if ns.length < 64 then Out.ok ((sortI ns).map D.int) else .stuck) | none => .stuck) = _
  rw [intL_ints]
  simp only [if_pos h]
/-! ### more forms, reckoned with -/
section
variable (env : Env) (i o : Nat) (a b c : CE) (P : Pop)
@[simp] theorem eIndex_a : eIndex a b env = (a env).bind fun x => match x with
  | .lst xs => (b env).bind fun y => dIndex (.lst xs) y
  | _ => .stuck := eqOf rfl
@[simp] theorem sDropPop_a : sDropPop i P env = match env[i]? with
  | some (.own (.lst xs)) => (P env xs).fl env fun q => .next (env.set i (.own (.lst q.2)))
  | _ => .stuck := eqOf rfl
@[simp] theorem sSetPop_a : sSetPop o i P env = match env[i]? with
  | some (.own (.lst xs)) => (P env xs).fl env fun q => .next ((env.set i (.own (.lst q.2))).set o (.val q.1))
  | _ => .stuck := eqOf rfl
@[simp] theorem sAppPop_a : sAppPop o i P env = match env[i]? with
  | some (.own (.lst xs)) => (match env[o]? with
    | some (.own (.lst ys)) => (P env xs).fl env fun q => if o ≠ i ∧ ys.length < line then .next ((env.set i (.own (.lst q.2))).set o (.own (.lst (ys ++ [q.1])))) else .stuck
    | _ => .stuck)
  | _ => .stuck := eqOf rfl
theorem pLast_app (xs : List D) (d : D) : pLast env (xs ++ [d]) = .ok (d, xs) := by
  show (match (xs ++ [d]).getLast? with | some e => Out.ok (e, (xs ++ [d]).dropLast) | none => .stuck) = _
  simp
theorem pAt_ok {k : CE} {xs : List D} {z : Int} (hk : k env = .ok (.int z)) (h0 : 0 ≤ z) (h1 : z < xs.length) (hl : xs.length < line) : pAt k env xs = .ok (xs[z.toNat]'(by omega), xs.eraseIdx z.toNat) := by
  show (if xs.length < line then (k env).bind _ else _) = _
  rw [if_pos hl, hk, Out.bind_ok]
  simp only [ixN_i h0 h1, List.getElem?_eq_getElem (show z.toNat < xs.length by omega)]
end
theorem dIndex_l {xs : List D} {y : D} {n : Nat} (h1 : okD y = true) (h2 : okD (.lst xs) = true) (h : idxD y xs = some n) : dIndex (.lst xs) y = .ok (.int n) := by
  show (if okD y = true ∧ okD (.lst xs) = true then _ else _) = _
  rw [if_pos ⟨h1, h2⟩, h]
theorem dIn_deep {xs : List D} {x : D} (h1 : okD x = true) (h2 : okD (.lst xs) = true) : dIn x (.lst xs) = .ok (.bl (inD x xs)) := by
  have e : ∀ q : Bool, (match q with | true => dIn x (.lst xs) | false => dIn x (.lst xs)) = dIn x (.lst xs) := fun q => by cases q <;> rfl
  have : dIn x (.lst xs) = if flatD x = true ∧ xs.all flatD = true then .ok (.bl (inD x xs)) else if okD x = true ∧ okD (.lst xs) = true then .ok (.bl (inD x xs)) else .stuck := by cases x <;> rfl
  rw [this]
  split
  · rfl
  · rw [if_pos ⟨h1, h2⟩]
theorem dNotIn_deep {xs : List D} {x : D} (h1 : okD x = true) (h2 : okD (.lst xs) = true) : dNotIn x (.lst xs) = .ok (.bl (!inD x xs)) := by
  have : dNotIn x (.lst xs) = if flatD x = true ∧ xs.all flatD = true then .ok (.bl (!inD x xs)) else if okD x = true ∧ okD (.lst xs) = true then .ok (.bl (!inD x xs)) else .stuck := by cases x <;> rfl
  rw [this]
  split
  · rfl
  · rw [if_pos ⟨h1, h2⟩]
theorem dMin1_l {ns : List Int} (h : ns ≠ []) : dMin1 [.lst (ns.map .int)] = .ok (.int (minI ns)) := by
  show (match intL (ns.map D.int) with | some [] => Out.stuck | some ns => .ok (D.int (minI ns)) | none => .stuck) = _
  rw [intL_ints]
  cases ns with
  | nil => exact absurd rfl h
  | cons => rfl
theorem dMax1_l {ns : List Int} (h : ns ≠ []) : dMax1 [.lst (ns.map .int)] = .ok (.int (maxI ns)) := by
  show (match intL (ns.map D.int) with | some [] => Out.stuck | some ns => .ok (D.int (maxI ns)) | none => .stuck) = _
  rw [intL_ints]
  cases ns with
  | nil => exact absurd rfl h
  | cons => rfl
@[simp] theorem dGcd_i (a b : Int) : dGcd [.int a, .int b] = .ok (.int (Nat.gcd a.natAbs b.natAbs : Nat)) := eqOf rfl
theorem dLcm_i {a b : Int} (h : a.natAbs < 2 ^ 64 ∧ b.natAbs < 2 ^ 64) : dLcm [.int a, .int b] = .ok (.int (Nat.lcm a.natAbs b.natAbs : Nat)) := by
  show (if _ then _ else _) = _
  rw [if_pos h]
theorem dListRg_i {i j : Int} (h1 : smallI i) (h2 : smallI j) (h3 : j - i ≤ 1000000) : dListRg (.int i) (.int j) = .ok (rangeL i j) := by
  show (if _ then _ else _) = _
  rw [if_pos ⟨h1, h2, h3⟩]
theorem dTupRg_i {i j : Int} (h1 : smallI i) (h2 : smallI j) (h3 : j - i ≤ 1000000) : dTupRg (.int i) (.int j) = .ok (.tup (rangeL i j)) := by
  show (if _ then _ else _) = _
  rw [if_pos ⟨h1, h2, h3⟩]
theorem dRange3_i {i j : Int} (h1 : smallI i) (h2 : smallI j) : dRange3 [.int i, .int j, .int (-1)] = .ok (rangeC i (-1) (i - j).toNat) := by
  show (if _ then _ else _) = _
  rw [if_pos ⟨rfl, h1, h2⟩]
theorem eqDs_ints : ∀ (a b : List Int), eqDs (a.map .int) (b.map .int) = decide (a = b)
  | [], [] => rfl
  | [], _ :: _ => rfl
  | _ :: _, [] => rfl
  | x :: a, y :: b => by
    show ((x == y) && eqDs (a.map .int) (b.map .int)) = _
    rw [eqDs_ints a b]
    by_cases h : x = y <;> simp [h]
theorem eqD_ints (a b : List Int) : eqD (.tup (a.map .int)) (.tup (b.map .int)) = decide (a = b) := eqDs_ints a b
theorem dEq_ints (a b : List Int) : dEq (.tup (a.map .int)) (.tup (b.map .int)) = .ok (.bl (decide (a = b))) := by
  show (if _ then _ else _) = _
  rw [if_pos ⟨okD_ints a, okD_ints b⟩, eqD_ints]
theorem dNe_ints (a b : List Int) : dNe (.tup (a.map .int)) (.tup (b.map .int)) = .ok (.bl (!decide (a = b))) := by
  show (if _ then _ else _) = _
  rw [if_pos ⟨okD_ints a, okD_ints b⟩, eqD_ints]
/-- rows of tuples of ints -/
def rowsD (rows : List (List Int)) : List D := rows.map fun r => .tup (r.map .int)
theorem eqDs_rows : ∀ (a b : List (List Int)), eqDs (rowsD a) (rowsD b) = decide (a = b)
  | [], [] => rfl
  | [], _ :: _ => rfl
  | _ :: _, [] => rfl
  | x :: a, y :: b => by
    show (eqD (.tup (x.map .int)) (.tup (y.map .int)) && eqDs (rowsD a) (rowsD b)) = _
    rw [eqDs_rows a b, eqD_ints]
    by_cases h : x = y <;> simp [h]
theorem okNs_rows {n : Nat} (rows : List (List Int)) : okNs (n + 1) (rowsD rows) = true := okNs_all fun x hx => by
  obtain ⟨r, _, rfl⟩ := List.mem_map.mp hx
  exact okN_tup (okNs_ints n r)
theorem inD_rows (x : List Int) (rows : List (List Int)) : inD (.tup (x.map .int)) (rowsD rows) = decide (x ∈ rows) := by
  unfold inD rowsD
  rw [List.any_map]
  induction rows with
  | nil => rfl
  | cons r rows ih =>
    rw [List.any_cons, ih]
    show (eqD (.tup (r.map .int)) (.tup (x.map .int)) || _) = _
    rw [eqD_ints]
    by_cases h : r = x
    · subst h; simp
    · have : ¬ x = r := fun e => h e.symm
      simp [h, this]
theorem idxD_rows (x : List Int) : ∀ (rows : List (List Int)), idxD (.tup (x.map .int)) (rowsD rows) = if x ∈ rows then some (rows.idxOf x) else none
  | [] => rfl
  | r :: rows => by
    show (if eqD (.tup (r.map .int)) (.tup (x.map .int)) = true then some 0 else (idxD (.tup (x.map .int)) (rowsD rows)).map (· + 1)) = _
    rw [eqD_ints, idxD_rows x rows]
    by_cases h : r = x
    · subst h; simp
    · have h' : ¬ x = r := fun e => h e.symm
      by_cases hm : x ∈ rows
      · have hb : (r == x) = false := by simpa using h
        simp [h, h', hm, List.idxOf_cons, hb]
      · simp [h, h', hm]
theorem dIx_last (xs : List D) (d : D) : dIx (.lst (xs ++ [d])) (.int (-1)) = .ok d := by
  show (match ixN (xs ++ [d]).length (-1) with | some j => (match (xs ++ [d])[j]? with | some d => Out.ok d | none => .stuck) | none => .stuck) = _
  have : ixN (xs ++ [d]).length (-1) = some xs.length := by
    unfold ixN
    rw [if_neg (by decide), if_pos (by simp; omega)]
    simp
    omega
  rw [this]
  simp
theorem enumL_at : ∀ {xs done rest : List D} {k : Nat} {d : D}, enumL k xs = done ++ d :: rest → ∃ x, xs[done.length]? = some x ∧ d = .tup [.int ((k + done.length : Nat) : Int), x]
  | [], done, rest, k, d, h => by cases done <;> simp [enumL] at h
  | x :: xs, [], rest, k, d, h => by
    simp [enumL] at h
    exact ⟨x, rfl, h.1.symm⟩
  | x :: xs, e :: done, rest, k, d, h => by
    simp [enumL] at h
    obtain ⟨y, h1, h2⟩ := enumL_at h.2
    exact ⟨y, by simpa using h1, by rw [h2, List.length_cons, show k + 1 + done.length = k + (done.length + 1) by omega]⟩
@[simp] theorem dEnum_l (xs : List D) : dEnum [.lst xs] = .ok (enumL 0 xs) := eqOf rfl
@[simp] theorem dEnum_t (xs : List D) : dEnum [.tup xs] = .ok (enumL 0 xs) := eqOf rfl
end M
/-! MMore: enumerate of a tuple, pop, index, min, max, gcd, lcm, falling ranges. -/
namespace M
open PySem PySem.Spec PyProof.Rows L2
/-! ### enumerate(a tuple) -/
section
variable {prog : Program} {w : World} {A : Around} {E : Value → Shared → Prop} {s : Shared}
theorem wpAny_pyNext_tup_end {e it l : Addr} {i : Nat} {items : Array Value} {old : Value} {k : Int} {Q : Option Value → Shared → Prop} (hh : A.handled = none)
    (he : IsEnum s.heap e it k old) (hit : s.heap.IsTupleIter it l i) (hl : s.heap.IsTuple l items) (hx : items[i]? = none)
    (hQ : ∀ h', Heap.ExtBut it s.heap h' → Q none { s with heap := h' }) : wpAny (model prog w) A (pyNext (.ref e)) Q E s := by
  have hT : s.TypeIs (.ref e) "enumerate" := ⟨_, he, rfl⟩
  unfold pyNext
  refine wpAny_bind (wpAny_attempt (wpAny_callSpecial?_slot (name := Str.ofString "__next__") hT F.slot_enumerate_next
    (wpAny_call_entry F.slot_enumerate_next hT F.entry_enumerate_next ?_ (F.args_enumerate_next_1 _))))
  show wpAny _ _ (field (.ref e) 2 >>= _) _ _ _
  refine wpAny_bind (wpAny_field he rfl (x := .ref it) rfl ?_)
  refine wpAny_bind (wpAny_nextOf_tuple_end hh hit hl hx fun h' x he' hx' => ?_)
  obtain ⟨o, ho, hc⟩ := hx'
  refine wpAny_bind (wpAny_isInstance (T := "StopIteration") (b := true) ⟨o, ho, hc⟩ isSubtype_stop ?_)
  exact wpAny_pure (hQ _ he')
theorem meets_enumerate_newT (l : Addr) (items : Array Value) (o : Obj) (hc : o.cls = .type "tuple") (hd : ∃ n, o.data = .seq items n) :
    Meets (Builtin.«enumerate.__new__» ⟨[.type "enumerate", .ref l], []⟩) (fun _ R s => s.heap.get? l = some o ∧
      R (.ok (.ret (.ref (s.heap.push { cls := .type "tuple_iterator", data := .fields #[.ref l, .int 0 0] }).objs.size)))
        { s with heap := (s.heap.push { cls := .type "tuple_iterator", data := .fields #[.ref l, .int 0 0] }).push { cls := .type "enumerate", data := .fields #[.none, .bool false, .ref s.heap.objs.size, rawInt 0, .none, .none] } }) :=
  .of_wp fun prog w A R s h => by
    obtain ⟨hp, g, d, tk, os⟩ := s; obtain ⟨hl, h⟩ := h
    have hsub := sub_enumerate
    obtain ⟨n, hd⟩ := hd
    have hL : Heap.IsTuple (Shared.heap ⟨hp, g, d, tk, os⟩) l items := ⟨_, hl, hc, n, hd⟩
    obtain ⟨c, dct, dt, sl⟩ := o
    replace hc : c = .type "tuple" := hc
    replace hd : dt = .seq items n := hd
    subst hc hd
    wp_walk using wpAny_loadPart' hl
    refine wpAny_stack_any fun st => wpAny_pure ?_
    split
    · rename_i c _ _ _ _ _
      cases (c == Value.type "enumerate")
      · wp_walk using wpAny_loadPart' hl, wpAny_pyIter_tuple hL
        exact ⟨_, rfl, h⟩
      · wp_walk using wpAny_loadPart' hl, wpAny_pyIter_tuple hL
        exact ⟨_, rfl, h⟩
    · wp_walk using wpAny_loadPart' hl, wpAny_pyIter_tuple hL
      exact ⟨_, rfl, h⟩
theorem call_enumerate_tuple {l : Addr} {items : Array Value} {Q : Value → Shared → Prop} (hL : s.heap.IsTuple l items)
    (h : ∀ h', IsEnum h' (s.heap.objs.size + 1) s.heap.objs.size 0 .none → h'.IsTupleIter s.heap.objs.size l 0 → h'.objs.size = s.heap.objs.size + 2 →
      (∀ b o, s.heap.get? b = some o → h'.get? b = some o) → Q (.ref (s.heap.objs.size + 1)) { s with heap := h' }) :
    wpAny (model prog w) A (call (.type "enumerate") [.ref l]) Q E s := by
  obtain ⟨o, hl, hc, n, hd⟩ := hL
  refine callType_new F.called_enumerate (by decide) (F.typeCall_enumerate_1 _) (F.newCall_enumerate_1 _) (fun obj => F.args_object_init_2 obj _) F.entry_enumerate_new
    (meets_enumerate_newT l items o hc ⟨n, hd⟩) ⟨hl, ?_⟩
  have hz : (s.heap.push { cls := .type "tuple_iterator", data := .fields #[.ref l, .int 0 0] }).objs.size = s.heap.objs.size + 1 := Heap.size_push ..
  show _ ∧ _
  rw [hz]
  have he : IsEnum ((s.heap.push { cls := .type "tuple_iterator", data := .fields #[.ref l, .int 0 0] }).push
      { cls := .type "enumerate", data := .fields #[.none, .bool false, .ref s.heap.objs.size, rawInt 0, .none, .none] }) (s.heap.objs.size + 1) s.heap.objs.size 0 .none := by
    have := Heap.get?_push_size (s.heap.push { cls := .type "tuple_iterator", data := .fields #[.ref l, .int 0 0] })
      (o := { cls := .type "enumerate", data := .fields #[.none, .bool false, .ref s.heap.objs.size, rawInt 0, .none, .none] }) rfl
    rw [hz] at this; exact this
  refine ⟨⟨_, he, rfl⟩, h _ he ⟨_, Heap.get?_push_of_some _ (Heap.get?_push_size _ rfl), rfl, rfl⟩ (by rw [Heap.size_push, hz]) fun b o x => Heap.get?_push_of_some _ (Heap.get?_push_of_some _ x)⟩
end
def IteT (K : PySem.W.Frag) (a : Addr) : It :=
  ⟨fun i H => ∃ (xs : List V) (x : V), SqT K H a xs ∧ xs[i]? = some x, fun i H v H' => ∃ T x, v = .ref T ∧ H T = none ∧ H' = upd H T (.tup [.int (i : Nat), x]) ∧ ∀ xs, SqT K H a xs → xs[i]? = some x, fun i H => ∃ xs : List V, SqT K H a xs ∧ xs.length ≤ i⟩
theorem turn_enumT {P : Program} {w : World} {K : PySem.W.Frag} {elts : List Expr} {kk : Nat} {tpos : Pos} (a e it : Addr) :
    Turn P w K (.Tuple elts kk tpos) (IteT K a) [e, it] e (fun i h => (∃ old, IsEnum h e it ((i : Nat) : Int) old) ∧ h.IsTupleIter it a i ∧ e ≠ it ∧ a ≠ it ∧ a ≠ e) where
  mem := by simp
  obj := fun i h st b hb => by
    obtain ⟨⟨old, he⟩, ⟨o, ho, hc, hd⟩, _⟩ := st
    have e' : b = e ∨ b = it := by simpa using hb
    rcases e' with z | z
    · rw [z]; exact ⟨_, he, fun v q => nomatch q⟩
    · rw [z]; exact ⟨o, ho, fun v q => by rw [hd] at q; cases q⟩
  keep := fun i h h' st k => let ⟨⟨old, he⟩, hi, hne⟩ := st; ⟨⟨old, k e (by simp) _ he⟩, hi.at fun o q => k it (by simp) o q, hne⟩
  item := by
    intro X hP hw hK hc i pins s σ H E I hf st hg
    subst hP hw hK
    obtain ⟨⟨old, he⟩, hit, hne, hai, hae⟩ := st
    obtain ⟨xs, x, hq, hx⟩ := hg
    obtain ⟨its, rv, p, hz⟩ := I.tuple hq
    obtain ⟨u, hu, ru⟩ := rv.get hx
    have hel : e < s.heap.objs.size := Heap.lt_size he
    have hil : it < s.heap.objs.size := by obtain ⟨_, q, _⟩ := hit; exact Heap.lt_size q
    have D := Draws.tuple (prog := X.prog) (w := X.w) (A := X.A.in1) (I.ok.hd hc) it a hai its.toArray
    have hlt : i < its.toArray.size := by
      have := (List.getElem?_eq_some_iff.mp hu).1
      simpa using this
    refine wpAny_pyNext_enum_itemD D he ⟨hit, p⟩ hlt hne (by simp [hne, Ne.symm hae]) fun x1 h' tk hP1 ho hst hT hsz hk => ?_
    have ex : x1 = u := by
      have hu' : its.toArray[i]? = some u := by simpa using hu
      rw [hu'] at hP1; exact (Option.some.inj hP1).symm
    subst ex
    refine ⟨_, rfl, wpAny_letOwnedTupleGo_enum (s := { s with heap := h', toks := tk + 1 }) ho fun h'' he' sb => ?_⟩
    have hT2 : h''.get? s.heap.objs.size = some { cls := .type "tuple", data := .seq #[.int i tk, x1] } := (sb.2 _ (Nat.ne_of_gt hel)).trans hT
    have new : ObjOk X.prog X.w (upd H s.heap.objs.size (.tup [.int (i : Nat), x])) h'' s.heap.objs.size (.tup [.int (i : Nat), x]) :=
      ⟨by show 2 ≤ sizeLine; decide, [.int i tk, x1], .cons ⟨_, rfl⟩ (.cons ru .nil), ⟨_, hT2, rfl, _, rfl⟩⟩
    have I1 : Inv X pins σ (upd H s.heap.objs.size (.tup [.int (i : Nat), x])) { s with heap := h'', toks := tk + 1 } :=
      I.turnedNew (ch := [e, it]) (fun b ob hb q => (sb.2 b (fun z => hb (by simp [z]))).trans (hk b ob (fun z => hb (by simp [z])) (fun z => hb (by simp [z])) q)) hf (Nat.le_refl _) new
    refine ⟨.ref s.heap.objs.size, _, I1, rfl, ⟨_, x, rfl, I.hok.fresh (Nat.le_refl _), rfl, fun ys hy => by rw [I.tuple_inj hy hq]; exact hx⟩, ⟨⟨x1, ?_⟩, hst.1.at fun o q => (sb.2 it (Ne.symm hne)).trans q, hne, hai, hae⟩, fun b hb => ?_⟩
    · have e1 : ((i + 1 : Nat) : Int) = (i : Int) + 1 := by omega
      rw [e1]; exact he'
    · have hb' : b < s.heap.objs.size := by
        have e' : b = e ∨ b = it := by simpa using hb
        rcases e' with z | z
        · rw [z]; exact hel
        · rw [z]; exact hil
      rw [upd_ne (Nat.ne_of_lt hb')]
      exact (hf b hb).1
  done := by
    intro X hP hw hK hc i pins s σ H E I hf st hg
    subst hP hw hK
    obtain ⟨⟨old, he⟩, hit, hne, hai, hae⟩ := st
    obtain ⟨xs, hq, hx⟩ := hg
    obtain ⟨its, rv, p, hz⟩ := I.tuple hq
    obtain ⟨f0, f1, f2, f3, f4, f5⟩ := hf it (by simp)
    have hl := rv.length
    refine wpAny_pyNext_tup_end (I.ok.hd hc) he hit p (by simp; omega) fun h' eb => ⟨rfl, I.turned (t' := s.toks) (fun b o hb q => eb b o hb q) f0 f1 f3 f4 f5⟩
  self := fun A i s Q E st h => let ⟨⟨_, he⟩, _⟩ := st; wpAny_pyIter_enum he h
def iEnumT (K : PySem.W.Frag) (ta : TA) : TI := fun σ H R => ta σ H fun vs H1 => ∃ a xs, vs = [.ref a] ∧ SqT K H1 a xs ∧ R (IteT K a) H1
theorem pi_enumT {X : Cx} {e : Expr} {ta : TA} {p pos tpos : Pos} {elts : List Expr} {kk : Nat} (hg : Gl X "enumerate") (hm : X.mg "enumerate" = none) (ha : PA X [e] ta) (hs : starEach [e] X.env = [(false, eval e X.env)] := by rfl) :
    PI X (.Tuple elts kk tpos) (.Call (.Name "enumerate" p) [e] [] pos) (iEnumT X.K ta) := by
  refine ⟨fun pins s σ H R I h => ?_⟩
  refine Call_ (ld_blt I hg hm boot_enumerate (PyProof.Rows.callWith_type1 (thn (ha.run pos pins s σ H _ I h) fun us s1 ⟨vs, H1, I1, r1, q1⟩ => ?_) hs rfl))
  obtain ⟨a, xs, ex, hq, q⟩ := q1
  subst ex
  cases r1 with
  | cons r rr =>
    cases rr
    cases r
    obtain ⟨its, rv, p', hz⟩ := I1.tuple hq
    refine call_enumerate_tuple p' fun h' he hit hsz hk => wpAny_pyIter_enum he ?_
    have I2 : Inv X pins σ H1 { s1 with heap := h' } := I1.kept (t' := s1.toks) hk
    have hal : a < s1.heap.objs.size := by obtain ⟨_, q, _⟩ := p'; exact Heap.lt_size q
    refine ⟨s1.heap.objs.size + 1, [s1.heap.objs.size + 1, s1.heap.objs.size], _, _, H1, rfl, I2, turn_enumT a (s1.heap.objs.size + 1) s1.heap.objs.size, ⟨⟨.none, he⟩, hit, Nat.succ_ne_self _, Nat.ne_of_lt hal, Nat.ne_of_lt (Nat.lt_succ_of_lt hal)⟩, fun b hb => ?_, q⟩
    have e' : b = s1.heap.objs.size + 1 ∨ b = s1.heap.objs.size := by simpa using hb
    have hle : s1.heap.objs.size ≤ b := by
      rcases e' with z | z
      · rw [z]; exact Nat.le_add_right _ _
      · rw [z]; exact Nat.le_refl _
    exact I1.fpOk hle (I1.hok.fresh hle)
theorem it_enumT {K : PySem.W.Frag} {ca : Nat → Addr} {Hf0 : Hp} {ds : List D} {vs : List V} {a : Addr} (hs : SqT K Hf0 a vs) (hr : RepL K ca Hf0 ds vs) : ItOk K ca Hf0 (enumL 0 ds) (IteT K a) := by
  have hl := hr.length
  refine ⟨fun i Hf H s1 s2 h => ?_, fun i Hf H x H' d s1 s2 h ⟨T, x1, e1, e2, e3, q1⟩ => ?_, fun i Hf H s1 s2 h => ?_⟩
  · rw [enumL_len] at h
    exact ⟨vs, vs[i]'(by omega), Same.seqT (s1.trans s2) hs, List.getElem?_eq_getElem (by omega)⟩
  · subst e1; subst e3
    obtain ⟨dx, h1, h3⟩ := enumL_get h
    subst h3
    rw [Nat.zero_add]
    exact rep_pair s2 e2 rfl (Rep.mono s1 _ _ (RepL.at hr h1 (q1 vs (Same.seqT (s1.trans s2) hs))))
  · rw [enumL_len] at h
    exact ⟨vs, Same.seqT (s1.trans s2) hs, by omega⟩
section
variable {X : Cx} {j : Jc} {e : Expr} {al : CA} {pos p : Pos}
theorem mi_enum2 {elts : List Expr} {kk : Nat} {tpos : Pos} (hg : Gl X "enumerate") (hm : X.mg "enumerate" = none) (ha : MA X j [e] al) (hs : starEach [e] X.env = [(false, eval e X.env)] := by rfl) :
    MI X j (.Tuple elts kk tpos) (.Call (.Name "enumerate" p) [e] [] pos) (iB dEnum al) := by
  refine PI.imp (PI.or (pi_enum hg hm ha hs) (pi_enumT hg hm ha hs)) fun σ H R ⟨G, Hf, env, r, m⟩ => ?_
  have m1 := m.bind
  cases q : al env with
  | stuck => rw [q] at m1; exact m1.elim
  | exc x =>
    refine .inl ⟨G, Hf, env, r, ?_⟩
    rw [q] at m1 ⊢
    exact m1
  | ok ds =>
    rw [q] at m1
    by_cases ht : ∃ xs, ds = [.tup xs]
    · obtain ⟨xs, rfl⟩ := ht
      refine .inr ⟨G, Hf, env, r, ?_⟩
      rw [q]
      intro Hf' H' p vs rv
      obtain ⟨v, rfl, h1⟩ := repL1 rv
      unfold Rep at h1
      obtain ⟨a, us, rfl, f1, f2⟩ := h1
      have f1 : SqT X.K Hf' a us := f1.1
      exact ⟨a, us, rfl, Same.seqT p.sub f1, OutP.ok (m1 Hf' H' p) p.sub _ (it_enumT f1 f2)⟩
    · refine .inl ⟨G, Hf, env, r, ?_⟩
      rw [q]
      intro Hf' H' p vs rv
      have m2 := m1 Hf' H' p
      match ds, ht, rv, m2 with
      | [.lst xs], _, rv, m2 =>
        obtain ⟨v, rfl, h1⟩ := repL1 rv
        unfold Rep at h1
        obtain ⟨a, us, rfl, f1, f2⟩ := h1
        exact ⟨a, us, rfl, p.sub.seq f1, OutP.ok m2 p.sub _ (it_enum f1 f2)⟩
      | [.tup xs], ht, _, _ => exact absurd ⟨xs, rfl⟩ ht
      | [], _, _, m2 => exact m2.no.elim
      | a :: _ :: _, _, _, m2 => cases a <;> exact m2.no.elim
      | [.non], _, _, m2 | [.bl _], _, _, m2 | [.int _], _, _, m2 | [.str _], _, _, m2 | [.ty _], _, _, m2 | [.cls _], _, _, m2 | [.dct _ _], _, _, m2 => exact m2.no.elim
end
theorem hu65 {n : Nat} (h : n + 80 < cLine) : n + 65 < cLine := by omega
/-! ### pop -/
section
variable {X : Cx} {j : Jc} {e a b o : Expr} {ce cf : CE} {pos apos cpos pos' : Pos} {x : Str}
def TPop (K : PySem.W.Frag) (j : Jc) (i : Nat) (P : Pop) : TE := fun σ H Q => ∃ G Hf env xs, RR K j.ca j.ea G Hf env σ H ∧ env[i]? = some (.own (.lst xs)) ∧
  OutP K j.ca j.W σ Hf H (P env xs) fun q Hf' H' => ∀ v p us, σ[i]? = some (some (.ref p)) → Rep K j.ca Hf' q.1 v → RepL K j.ca Hf' q.2 us → Q v (L2.upd H' p (.lst us))
def MPop (X : Cx) (j : Jc) (e : Expr) (i : Nat) (P : Pop) : Prop := PE X e (TPop X.K j i P)
theorem RepL.dropLast {K : PySem.W.Frag} {ca : Nat → Addr} {H : Hp} {ds : List D} {vs : List V} (h : RepL K ca H ds vs) : RepL K ca H ds.dropLast vs.dropLast := by
  rw [List.dropLast_eq_take, List.dropLast_eq_take, h.length]
  exact RepL.take _ h
theorem RepL.erase {K : PySem.W.Frag} {ca : Nat → Addr} {H : Hp} : ∀ {ds : List D} {vs : List V} (i : Nat), RepL K ca H ds vs → RepL K ca H (ds.eraseIdx i) (vs.eraseIdx i)
  | [], vs, i, h => by unfold RepL at h; subst h; simp; unfold RepL; rfl
  | x :: xs, vs, 0, h => by
    unfold RepL at h
    obtain ⟨u, r, rfl, h1, h2⟩ := h
    exact h2
  | x :: xs, vs, i + 1, h => by
    unfold RepL at h
    obtain ⟨u, r, rfl, h1, h2⟩ := h
    show RepL K ca H (x :: xs.eraseIdx i) _
    unfold RepL
    exact ⟨u, r.eraseIdx i, rfl, h1, RepL.erase i h2⟩
theorem mpop0 {i : Nat} (hm : PE X e (tBM0 X.K "list" rPop (tVar i))) : MPop X j e i pLast := by
  refine PE.imp hm fun σ H Q ⟨G, Hf, env, xs, r, hx, m⟩ => ?_
  obtain ⟨p, fp, h1, vs0, h2, h3, _⟩ := slot_own r hx
  refine ⟨.ref p, h1, .inl ⟨rfl, vs0, .inl (.inl h2)⟩, ?_⟩
  unfold pLast at m
  split at m
  · rename_i d hd
    obtain ⟨v, q1, q2⟩ := RepL.get h3 (i := xs.length - 1) (by rw [← List.getLast?_eq_getElem?]; exact hd)
    rw [h3.length] at q1
    exact ⟨p, vs0, v, rfl, rfl, h2, q1, OutP.ok m r.sub v p _ h1 q2 h3.dropLast⟩
  · exact m.no.elim
theorem seqIx {n : Nat} {z : Int} {k : Nat} (h : M.ixN n z = some k) : seqIndex? z n = some k ∧ k < n := by
  unfold M.ixN at h
  by_cases h0 : 0 ≤ z
  · rw [if_pos h0] at h
    by_cases h1 : z < n
    · rw [if_pos h1] at h
      cases h
      exact ⟨seqIndex_of h0 h1, by omega⟩
    · rw [if_neg h1] at h; cases h
  · rw [if_neg h0] at h
    by_cases h1 : -(n : Int) ≤ z
    · rw [if_pos h1] at h
      cases h
      exact ⟨seqIndex_neg (by omega) (by omega), by omega⟩
    · rw [if_neg h1] at h; cases h
theorem own_size {K : PySem.W.Frag} {ca : Nat → Addr} {Hf : Hp} {xs : List D} {vs : List V} (h : RepL K ca Hf xs vs) (n : Nat) (hn : xs.length = n) : vs.length = n := by rw [← h.length, hn]
theorem mpop1 {i : Nat} {ck : CE} (hm : PE X e (tBM X.K "list" rPopAt (tVar i) (tCons (TM X.K j ck) tNil))) : MPop X j e i (pAt ck) := by
  refine PE.imp hm fun σ H Q ⟨G, Hf, env, xs, r, hx, m⟩ => ?_
  obtain ⟨p, fp, h1, vs0, h2, h3, _⟩ := slot_own r hx
  refine ⟨.ref p, h1, .inl ⟨rfl, vs0, .inl (.inl h2)⟩, ?_⟩
  unfold pAt at m
  split at m
  · rename_i hl
    refine ⟨G, Hf, env, r, m.bind.imp fun d Hf1 H1 ho p1 m1 u ru => ?_⟩
    split at m1
    · rename_i z
      have ru : u = .int z := ru
      subst ru
      split at m1
      · rename_i n hn
        split at m1
        · rename_i d hd
          obtain ⟨v, q1, q2⟩ := RepL.get (RepL.mono p1.sh _ _ h3) hd
          obtain ⟨k1, k2⟩ := seqIx hn
          have hz : -(2 ^ 63) ≤ z ∧ z < 2 ^ 63 := by
            have hL : line = 16777216 := rfl
            unfold M.ixN at hn
            by_cases h0 : 0 ≤ z
            · rw [if_pos h0] at hn
              by_cases h1 : z < xs.length
              · omega
              · rw [if_neg h1] at hn; cases hn
            · rw [if_neg h0] at hn
              by_cases h1 : -(xs.length : Int) ≤ z
              · omega
              · rw [if_neg h1] at hn; cases hn
          rw [h3.length] at k1
          exact ⟨p, vs0, z, n, v, rfl, rfl, p1.all _ _ h2, hz.1, hz.2, k1, q1, OutP.ok m1 p1.sub v p _ h1 q2 ((RepL.mono p1.sh _ _ h3).erase n)⟩
        · exact m1.no.elim
      · exact m1.no.elim
    · exact m1.no.elim
  · exact m.no.elim
theorem ms_dropPop {i : Nat} {P : Pop} (he : MPop X j e i P) (hs : swapsWith e none pos.line X.env = pure false := by rfl) : MS X j (.Expr e pos) (sDropPop i P) := by
  refine ms_imp (ps_expr he hs) fun D σ H G Hf env r m => ?_
  unfold sDropPop at m
  split at m
  · rename_i xs hx
    refine ⟨G, Hf, env, xs, r, hx, (TFl.fl r m).imp fun q Hf1 H1 _ p1 m1 v p us h1 r1 r2 => ?_⟩
    exact m1 _ _ _ ((r.grow p1).upd hx h1 r2).1
  · exact m.elim
theorem ms_setPop {y i : Nat} {P : Pop} (hN : X.N.Nodup) (hi : X.N[y]? = some x) (hx : Loc X.env.scope x) (he : MPop X j e i P) (hs : swapsWith e (some (.Name x pos')) pos.line X.env = pure false := by rfl)
    (hf : X.fn x = true ∨ X.env.scope.names.lookup x = some .local := by first | exact .inl rfl | exact .inr rfl | assumption) : MS X j (.Assign [.Name x pos'] e pos) (sSetPop y i P) := by
  refine ms_imp (ps_set hN hi hx he hs hf) fun D σ H G Hf env r m => ?_
  unfold sSetPop at m
  split at m
  · rename_i xs hx
    refine ⟨G, Hf, env, xs, r, hx, (TFl.fl r m).imp fun q Hf1 H1 _ p1 m1 v p us h1 r1 r2 => ?_⟩
    exact m1 _ _ _ (((r.grow p1).upd hx h1 r2).1.val y r1)
  · exact m.elim
theorem ms_appPop {y i : Nat} {P : Pop} (hm : PE X e (tBM X.K "list" rAppend (tVar y) (tCons (TPop X.K j i P) tNil))) (hs : swapsWith e none pos.line X.env = pure false := by rfl) : MS X j (.Expr e pos) (sAppPop y i P) := by
  refine ms_imp (ps_expr hm hs) fun D σ H G Hf env r m => ?_
  unfold sAppPop at m
  split at m
  · rename_i xs hx
    split at m
    · rename_i ys hy
      obtain ⟨q, fq, g1, ws0, g2, g3, _⟩ := slot_own r hy
      refine ⟨.ref q, g1, .inl ⟨rfl, ws0, .inl (.inl g2)⟩, ?_⟩
      refine ⟨G, Hf, env, xs, r, hx, (TFl.fl r m).imp fun z Hf1 H1 _ p1 m1 v p us h1 r1 r2 => ?_⟩
      split at m1
      · rename_i hz
        have r' := ((r.grow p1).upd hx h1 r2).1
        have hy' : (env.set i (.own (.lst z.2)))[y]? = some (.own (.lst ys)) := by rw [List.getElem?_set_ne (fun h => hz.1 h.symm)]; exact hy
        obtain ⟨q', fq', g1', ws', g2', g3', _⟩ := slot_own r' hy'
        rw [g1] at g1'
        cases g1'
        refine ⟨q, ws', v, rfl, rfl, g2', by rw [← g3'.length, ← line_eq]; exact hz.2, ?_⟩
        exact m1 _ _ _ (r'.upd hy' g1 (RepL.append g3' (RepL.one r1))).1
      · exact m1.elim
    · exact m.elim
  · exact m.elim
/-! ### xs.index(y) -/
theorem idx_toPy {x : D} {n m : Nat} (hx : okN n x = true) : ∀ {xs : List D} {k : Nat}, okNs m xs = true → idxD x xs = some k →
    ∃ z, (toPys xs)[k]? = some z ∧ PyData.eqv z (toPy x) = true ∧ ∀ (i : Nat) (z' : PyData), i < k → (toPys xs)[i]? = some z' → PyData.eqv z' (toPy x) = false
  | [], k, _, h => nomatch h
  | y :: ys, k, ho, h => by
    unfold okNs at ho
    rw [Bool.and_eq_true] at ho
    unfold idxD at h
    by_cases q : eqD y x = true
    · rw [if_pos q] at h
      cases h
      exact ⟨toPy y, rfl, by rw [eqv_toPy y x m n ho.1 hx]; exact q, fun i z' hi => absurd hi (Nat.not_lt_zero _)⟩
    · rw [if_neg q] at h
      cases e : idxD x ys with
      | none => rw [e] at h; cases h
      | some k' =>
        rw [e] at h
        cases h
        obtain ⟨z, h1, h2, h3⟩ := idx_toPy hx ho.2 e
        refine ⟨z, h1, h2, fun i z' hi hz => ?_⟩
        cases i with
        | zero =>
          cases hz
          rw [eqv_toPy y x m n ho.1 hx]
          simpa using q
        | succ i => exact h3 i z' (Nat.lt_of_succ_lt_succ hi) hz
theorem me_index (hm : PE X e (tBM X.K "list" (rIndexD X.K) (TP X.K j ce) (tCons (TP X.K j cf) tNil))) : ME X j e (eIndex ce cf) := by
  refine PE.imp hm fun σ H Q ⟨G, Hf, env, r, m⟩ => ⟨G, Hf, env, r, m.bind.imp fun x Hf1 H1 ho p1 m1 v rv => ?_⟩
  split at m1
  · rename_i xs
    obtain ⟨a, us, rfl, a1, a2⟩ := pLst rv
    refine ⟨.inl ⟨rfl, us, a1⟩, G, Hf1, env, r.grow p1, m1.bind.imp fun y Hf2 H2 ho2 p2 m2 u ru => ?_⟩
    have m2 : OutP X.K j.ca j.W σ Hf2 H2 (if okD y = true ∧ okD (.lst xs) = true then (match idxD y xs with | some n => Out.ok (D.int (n : Nat)) | none => .stuck) else .stuck) _ := m2
    split at m2
    · rename_i f
      split at m2
      · rename_i n hn
        have rv := rv.grow p2
        obtain ⟨d1, d2, d3, d4, _⟩ := deep_in p2.sub ru rv f.1 f.2
        obtain ⟨z, z1, z2, z3⟩ := idx_toPy (n := 64) (m := 63) f.1 f.2 hn
        exact ⟨a, u, _, _, n, z, rfl, rfl, d2, d1, d4, d3, z1, z2, z3, OutP.ok m2 p2.sub _ rfl⟩
      · exact m2.no.elim
    · exact m2.no.elim
  · exact m1.no.elim
end
/-! ### min, max of a list; gcd, lcm -/
section
variable {X : Cx} {ca : Nat → Addr}
theorem bc_min1 (hc : X.calm = true) : BC X ca (.builtin "min") dMin1 := by
  refine ⟨_, cr_min hc, fun W σ Hf H xs vs Q s h m => ?_⟩
  unfold dMin1 at m
  split at m
  · split at m
    · exact m.no.elim
    · rename_i ns hne hn
      obtain ⟨v, rfl, h1⟩ := pRepL1 h
      obtain ⟨a, us, rfl, a1, a2⟩ := pLst h1
      rw [intL_map hn] at a2
      have := repL_is a2
      subst this
      have hne' : ns ≠ [] := hne
      obtain ⟨g1, g2⟩ := minI_mem hne'
      refine ⟨a, ns, rfl, a1, List.length_pos_iff.mpr hne', fun k k1 k2 => ?_⟩
      have : k = minI ns := Int.le_antisymm (k2 _ g1) (g2 _ k1)
      subst this
      exact m.rep s rfl
    · exact m.no.elim
  · exact m.no.elim
theorem bc_max1 (hc : X.calm = true) : BC X ca (.builtin "max") dMax1 := by
  refine ⟨_, cr_max hc, fun W σ Hf H xs vs Q s h m => ?_⟩
  unfold dMax1 at m
  split at m
  · split at m
    · exact m.no.elim
    · rename_i ns hne hn
      obtain ⟨v, rfl, h1⟩ := pRepL1 h
      obtain ⟨a, us, rfl, a1, a2⟩ := pLst h1
      rw [intL_map hn] at a2
      have := repL_is a2
      subst this
      have hne' : ns ≠ [] := hne
      obtain ⟨g1, g2⟩ := maxI_mem hne'
      refine ⟨a, ns, rfl, a1, List.length_pos_iff.mpr hne', fun k k1 k2 => ?_⟩
      have : k = maxI ns := Int.le_antisymm (g2 _ k1) (k2 _ g1)
      subst this
      exact m.rep s rfl
    · exact m.no.elim
  · exact m.no.elim
def rLcm : List V → Hp → VK → Prop := fun vs H Q => ∃ a b : Int, vs = [.int a, .int b] ∧ a.natAbs < 2 ^ 64 ∧ b.natAbs < 2 ^ 64 ∧ Q (.int ((Nat.lcm a.natAbs b.natAbs : Nat) : Int)) H
theorem cr_lcm : CallR X (.builtin "math.lcm") rLcm := by
  intro pins s σ H vs us Q I r h
  obtain ⟨a, b, rfl, h1, h2, q⟩ := h
  obtain ⟨t, u, rfl⟩ := Vals.int2 r
  exact PySem.W.mc_lcm h1 h2 fun _ => ⟨.int _, H, I.tok _, ⟨_, rfl⟩, q⟩
theorem bc_gcd : BC X ca (.builtin "math.gcd") dGcd := by
  refine ⟨_, cr_gcd, fun W σ Hf H xs vs Q s h m => ?_⟩
  unfold dGcd at m
  split at m
  · obtain ⟨v, u, rfl, h1, h2⟩ := pRepL2 h
    rw [pInt h1, pInt h2]
    exact ⟨_, _, rfl, m.rep s rfl⟩
  · exact m.no.elim
theorem bc_lcm : BC X ca (.builtin "math.lcm") dLcm := by
  refine ⟨_, cr_lcm, fun W σ Hf H xs vs Q s h m => ?_⟩
  unfold dLcm at m
  split at m
  · split at m
    · rename_i hz
      obtain ⟨v, u, rfl, h1, h2⟩ := pRepL2 h
      rw [pInt h1, pInt h2]
      exact ⟨_, _, rfl, hz.1, hz.2, m.rep s rfl⟩
    · exact m.no.elim
  · exact m.no.elim
end
section
variable {X : Cx} {j : Jc} {e a b c tg : Expr} {es : List Expr} {ce ca cb cc : CE} {al : CA} {pos p pos2 p2 : Pos}
theorem me_bfun {id : String} {g : List D → Out D} {x : Str} {q : Pos} (o : BC X j.ca (.builtin id) g) (hg : Gl X x) (hm : X.mg x = some (.builtin id)) (ha : MPA X j (e :: es) al)
    (hdb : (x == ("__debug__" : Str)) = false := by decide) (he : starEach (e :: es) X.env = (false, eval e X.env) :: starEach es X.env := by rfl) (hpl : (backTo pos (starEach es X.env)).any (·.1) = false := by rfl) :
    ME X j (.Call (.Name x q) (e :: es) [] pos) (eB g al) := by
  obtain ⟨r, h, k⟩ := o
  exact PE.imp (pe_callBfun h hg hm ha hdb he hpl) fun σ H Q ⟨G, Hf, env, rr, m⟩ => ⟨G, Hf, env, rr, m.bind.imp fun xs Hf1 H1 _ p1 m1 vs rv => k j.W σ Hf1 H1 xs vs Q p1.sub rv m1⟩
theorem repL3 {K : PySem.W.Frag} {ca : Nat → Addr} {H : Hp} {d d' d2 : D} {vs : List V} (h : RepL K ca H [d, d', d2] vs) : ∃ v u w, vs = [v, u, w] ∧ Rep K ca H d v ∧ Rep K ca H d' u ∧ Rep K ca H d2 w := by
  obtain ⟨v, r, rfl, h1, h2⟩ := repL_cons h
  obtain ⟨u, w, rfl, h3, h4⟩ := repL2 h2
  exact ⟨v, u, w, rfl, h1, h3, h4⟩
theorem it_rangeC {K : PySem.W.Frag} {ca : Nat → Addr} {Hf0 : Hp} {lo c : Int} {n : Nat} : ItOk K ca Hf0 (rangeC lo c n) (Itc lo c n) := by
  refine ⟨fun i Hf H s1 s2 h => (show i < n by unfold rangeC at h; rwa [List.length_map, List.length_range] at h), fun i Hf H v H' d s1 s2 h ⟨e, q⟩ => ?_, fun i Hf H s1 s2 h => (show n ≤ i by unfold rangeC at h; rwa [List.length_map, List.length_range] at h)⟩
  subst e; subst q
  refine ⟨Hf, Post.refl s2, ?_⟩
  unfold rangeC at h
  rw [List.getElem?_map] at h
  cases q : (List.range n)[i]? with
  | none => rw [q] at h; cases h
  | some m =>
    rw [q] at h
    have : m = i := by
      obtain ⟨h1, h2⟩ := List.getElem?_eq_some_iff.mp q
      simpa using h2.symm
    subst this
    cases h
    rfl
theorem mi_range3 (hg : Gl X "range") (hm : X.mg "range" = none) (ha : MA X j [a, b, c] al) (hs : starEach [a, b, c] X.env = (false, eval a X.env) :: starEach [b, c] X.env := by rfl) (hpl : (backTo pos (starEach [b, c] X.env)).any (·.1) = false := by rfl) : MI X j tg (.Call (.Name "range" p) [a, b, c] [] pos) (iB dRange3 al) := by
  refine PI.imp (pi_range3 hg hm ha hs hpl) fun σ H R ⟨G, Hf, env, r, m⟩ => ⟨G, Hf, env, r, m.bind.imp fun ds Hf1 H1 ho p1 m1 vs rv => ?_⟩
  unfold dRange3 at m1
  split at m1
  · rename_i i k cc
    split at m1
    · rename_i hz
      obtain ⟨hc, z1, z2⟩ := hz
      subst hc
      obtain ⟨v, u, w, rfl, r1, r2, r3⟩ := repL3 rv
      have r1 : v = .int i := r1
      have r2 : u = .int k := r2
      have r3 : w = .int (-1) := r3
      subst r1; subst r2; subst r3
      exact ⟨i, k, -1, (i - k).toNat, rfl, RgC.neg z1.1 z1.2 z2.1 z2.2, OutP.ok m1 p1.sub _ it_rangeC⟩
    · exact m1.no.elim
  · exact m1.no.elim
/-- list(range(..)) -/
theorem rgV_rep {K : PySem.W.Frag} {cx : Nat → Addr} {H : Hp} (i k : Int) : RepL K cx H (rangeL i k) (rgV i k) := by
  unfold rangeL rgV
  generalize List.range (k - i).toNat = l
  induction l with
  | nil => show RepL K cx H [] []; unfold RepL; rfl
  | cons x l ih => show RepL K cx H (.int (i + (x : Nat)) :: l.map _) _; unfold RepL; exact ⟨_, _, rfl, rfl, ih⟩
theorem mf_listRg2 (hc : X.calm = true) (hg : Gl X "list") (hm : X.mg "list" = none) (he : PRg X e (tRg2 (TM X.K j ca) (TM X.K j cb))) (na : starEach [e] X.env = (false, eval e X.env) :: starEach [] X.env := by rfl) :
    MF X j (.Call (.Name "list" p) [e] [] pos) (fOp2 dListRg ca cb) := by
  refine PE.imp (pe_listRg hc hg hm he na) fun σ H Q ⟨G, Hf, env, r, m⟩ => ⟨G, Hf, env, r, m.bind.imp fun x Hf1 H1 ho p1 m1 v rv => ⟨G, Hf1, env, r.grow p1, m1.bind.imp fun y Hf2 H2 ho2 p2 m2 u ru => ?_⟩⟩
  have m3 := m2.bind
  unfold dListRg at m3
  split at m3
  · rename_i i k
    split at m3
    · rename_i hz
      have rv : v = .int i := rv
      have ru : u = .int k := ru
      subst rv; subst ru
      obtain ⟨z1, z2, z3⟩ := hz
      exact ⟨i, k, rfl, rfl, ⟨z1.1, z1.2, z2.1, z2.2, by omega⟩, fun q hq => OutP.ok m3 p2.sub _ _ (post_own p2.sub hq) _ (own_step (p1.trans p2) hq (rgV_rep i k))⟩
    · exact m3.no.elim
  · exact m3.no.elim
theorem mf_listRg1 (hc : X.calm = true) (hg : Gl X "list") (hm : X.mg "list" = none) (he : PRg X e (tRg1 (TM X.K j ca))) (na : starEach [e] X.env = (false, eval e X.env) :: starEach [] X.env := by rfl) :
    MF X j (.Call (.Name "list" p) [e] [] pos) (fOp2 dListRg (eC (.int 0)) ca) := by
  refine PE.imp (pe_listRg hc hg hm he na) fun σ H Q ⟨G, Hf, env, r, m⟩ => ⟨G, Hf, env, r, ?_⟩
  have m : OutP X.K j.ca j.W σ Hf H ((ca env).bind fun y => (dListRg (.int 0) y).bind fun ys => Out.ok (Own.lst ys)) _ := m
  refine m.bind.imp fun y Hf2 H2 ho2 p2 m2 u ru => ?_
  have m3 := m2.bind
  cases y with
  | int k =>
    have m3 : OutP X.K j.ca j.W σ Hf2 H2 (if smallI 0 ∧ smallI k ∧ k - 0 ≤ 1000000 then Out.ok (rangeL 0 k) else .stuck) _ := m3
    split at m3
    · rename_i hz
      have ru : u = .int k := ru
      subst ru
      obtain ⟨z1, z2, z3⟩ := hz
      exact ⟨k, rfl, ⟨z1.1, z1.2, z2.1, z2.2, by omega⟩, fun q hq => OutP.ok m3 p2.sub _ _ (post_own p2.sub hq) _ (own_step p2 hq (rgV_rep 0 k))⟩
    · exact m3.no.elim
  | _ => exact m3.no.elim
theorem me_tupRg2 (hc : X.calm = true) (hg : Gl X "tuple") (hm : X.mg "tuple" = none) (he : PRg X e (tRg2 (TM X.K j ca) (TM X.K j cb))) (na : starEach [e] X.env = (false, eval e X.env) :: starEach [] X.env := by rfl) :
    ME X j (.Call (.Name "tuple" p) [e] [] pos) (eOp2 dTupRg ca cb) := by
  refine PE.imp (pe_tupRg hc hg hm he na) fun σ H Q ⟨G, Hf, env, r, m⟩ => ⟨G, Hf, env, r, m.bind.imp fun x Hf1 H1 ho p1 m1 v rv => ⟨G, Hf1, env, r.grow p1, m1.bind.imp fun y Hf2 H2 ho2 p2 m2 u ru => ?_⟩⟩
  unfold dTupRg at m2
  split at m2
  · rename_i i k
    split at m2
    · rename_i hz
      have rv : v = .int i := rv
      have ru : u = .int k := ru
      subst rv; subst ru
      obtain ⟨z1, z2, z3⟩ := hz
      exact ⟨i, k, rfl, rfl, ⟨z1.1, z1.2, z2.1, z2.2, by omega⟩, fun q hq => m2.newT p2.sub (rgV_rep i k) q hq⟩
    · exact m2.no.elim
  · exact m2.no.elim
theorem me_tupRg1 (hc : X.calm = true) (hg : Gl X "tuple") (hm : X.mg "tuple" = none) (he : PRg X e (tRg1 (TM X.K j ca))) (na : starEach [e] X.env = (false, eval e X.env) :: starEach [] X.env := by rfl) :
    ME X j (.Call (.Name "tuple" p) [e] [] pos) (eOp2 dTupRg (eC (.int 0)) ca) := by
  refine PE.imp (pe_tupRg hc hg hm he na) fun σ H Q ⟨G, Hf, env, r, m⟩ => ⟨G, Hf, env, r, ?_⟩
  have m : OutP X.K j.ca j.W σ Hf H ((ca env).bind fun y => dTupRg (.int 0) y) _ := m
  refine m.bind.imp fun y Hf2 H2 ho2 p2 m2 u ru => ?_
  cases y with
  | int k =>
    have m2 : OutP X.K j.ca j.W σ Hf2 H2 (if smallI 0 ∧ smallI k ∧ k - 0 ≤ 1000000 then Out.ok (D.tup (rangeL 0 k)) else .stuck) _ := m2
    split at m2
    · rename_i hz
      have ru : u = .int k := ru
      subst ru
      obtain ⟨z1, z2, z3⟩ := hz
      exact ⟨k, rfl, ⟨z1.1, z1.2, z2.1, z2.2, by omega⟩, fun q hq => m2.newT p2.sub (rgV_rep 0 k) q hq⟩
    · exact m2.no.elim
  | _ => exact m2.no.elim
end
end M
/-! MBor: our own things, lent to a call; lists of lists of our own. -/
namespace M
open PySem PySem.Spec PyProof.Rows L2
/-! ### the mirrors -/
/-- a name that is lent -/
def ePeekD (i : Nat) : CE := fun env => match env[i]? with
  | some (.val d) => .ok d | some (.own o) => .ok o.shared | _ => .stuck
/-- an item of a list of lists, lent -/
def eIx2 (i : Nat) (k : CE) : CE := fun env => match env[i]? with
  | some (.own (.lst2 xss)) => (k env).bind fun d => match d with
    | .int z => (match ixN xss.length z with | some n => (match xss[n]? with | some xs => .ok (.lst xs) | none => .stuck) | none => .stuck)
    | _ => .stuck
  | _ => .stuck
def scal : Out D → Out D
  | .ok d => if flatD d = true then .ok d else .stuck
  | _ => .stuck
/-- a call that is lent things: what comes back is no thing -/
def eCallP (F : Fn) (a : CA) : CE := fun env => (a env).bind fun ds => scal (match F ds with | .ok (.val d) => .ok d | _ => .stuck)
def eBP (g : List D → Out D) (a : CA) : CE := fun env => (a env).bind fun ds => scal (g ds)
/-- [], to be a list of lists -/
def fLst20 : CF := fun _ => .ok (.lst2 [])
/-- xss.append([]) -/
def sApp2 (i : Nat) : CS := fun env => match env[i]? with
  | some (.own (.lst2 xss)) => if xss.length < line then .next (env.set i (.own (.lst2 (xss ++ [[]])))) else .stuck
  | _ => .stuck
/-- xss[k].append(e) -/
def sAppAt (i : Nat) (k e : CE) : CS := fun env => match env[i]? with
  | some (.own (.lst2 xss)) => (k env).fl env fun dk => match dk with
    | .int z => (match ixN xss.length z with
      | some n => (match xss[n]? with
        | some xs => (e env).fl env fun d => if xs.length < line then .next (env.set i (.own (.lst2 (xss.set n (xs ++ [d]))))) else .stuck
        | none => .stuck)
      | none => .stuck)
    | _ => .stuck
  | _ => .stuck
/-! ### lent things -/
section
variable (K : PySem.W.Frag)
def TB (j : Jc) (c : CE) : TE := fun σ H Q => ∃ G Hf env, RR K j.ca j.ea G Hf env σ H ∧ OutP K j.ca j.W σ Hf H (c env) fun d Hf' H' => ∀ v, Rep K j.ca H' d v → Q v H'
def TBA (j : Jc) (c : CA) : TA := fun σ H Q => ∃ G Hf env, RR K j.ca j.ea G Hf env σ H ∧ OutP K j.ca j.W σ Hf H (c env) fun ds Hf' H' => ∀ vs, RepL K j.ca H' ds vs → Q vs H'
end
def MB (X : Cx) (j : Jc) (e : Expr) (c : CE) : Prop := PE X e (TB X.K j c)
def MBA (X : Cx) (j : Jc) (es : List Expr) (c : CA) : Prop := PA X es (TBA X.K j c)
section
variable {X : Cx} {j : Jc} {e : Expr} {es : List Expr} {ce ck : CE} {al : CA} {pos pos' : Pos}
/-- the other way round: what asks less -/
theorem mb_p (h : MP X j e ce) : MB X j e ce := PE.imp h fun σ H Q ⟨G, Hf, env, rr, m⟩ => ⟨G, Hf, env, rr, m.imp fun d Hf1 H1 _ p1 m1 v rv => m1 v (PRep.rep p1.sub rv)⟩
theorem flat_far {K : PySem.W.Frag} {ca : Nat → Addr} {H H' : Hp} {d : D} {v : V} (f : flatD d = true) (h : Rep K ca H d v) : Rep K ca H' d v := by
  cases d with
  | non => exact h
  | bl b => exact h
  | int b => exact h
  | str b => exact h
  | _ => cases f
theorem own_rep {K : PySem.W.Frag} {ca : Nat → Addr} {Hf H : Hp} {p : Addr} {fp : List Addr} {o : Own} (s : Same Hf H) (ow : OwnR K ca Hf H p fp o) : Rep K ca H o.shared (.ref p) := by
  cases o with
  | lst xs =>
    obtain ⟨vs, h1, h2, h3⟩ := ow
    show Rep K ca H (.lst xs) _
    unfold Rep
    exact ⟨p, vs, rfl, .inl (.inl h1), RepL.mono s _ _ h2⟩
  | dct ks vs =>
    obtain ⟨us, h1, h2, h3⟩ := ow
    show Rep K ca H (.dct ks vs) _
    unfold Rep
    exact ⟨p, us, rfl, h1, RepL.mono s _ _ h2⟩
  | dctT ks vs =>
    obtain ⟨us, h1, h2, h3⟩ := ow
    show Rep K ca H (.dctT ks vs) _
    unfold Rep
    exact ⟨p, us, rfl, h1, RepL.mono s _ _ h2⟩
  | lst2 xss =>
    obtain ⟨ps, h1, h2, h3, h4⟩ := ow
    show Rep K ca H (.lst (xss.map .lst)) _
    unfold Rep
    refine ⟨p, ps.map .ref, rfl, .inl (.inl h1), ?_⟩
    have key : ∀ (ps : List Addr) (xss : List (List D)), ps.length = xss.length → (∀ (i : Nat) q xs, ps[i]? = some q → xss[i]? = some xs → ∃ vs, H q = some (.lst vs) ∧ RepL K ca Hf xs vs) → RepL K ca H (xss.map .lst) (ps.map .ref) := by
      intro ps
      induction ps with
      | nil => intro xss hl _; cases xss with
        | nil => show RepL K ca H [] []; unfold RepL; rfl
        | cons _ _ => cases hl
      | cons q ps ih =>
        intro xss hl h
        cases xss with
        | nil => cases hl
        | cons xs xss =>
          obtain ⟨vs, k1, k2⟩ := h 0 q xs rfl rfl
          show RepL K ca H (.lst xs :: xss.map .lst) (.ref q :: ps.map .ref)
          unfold RepL
          refine ⟨_, _, rfl, ?_, ih xss (by simpa using hl) fun i q' xs' e1 e2 => h (i + 1) q' xs' e1 e2⟩
          unfold Rep
          exact ⟨q, vs, rfl, .inl (.inl k1), RepL.mono s _ _ k2⟩
    exact key ps xss h3 h4
theorem mb_peek {i : Nat} (h : PE X e (tVar i)) : MB X j e (ePeekD i) := by
  refine PE.imp h fun σ H Q ⟨G, Hf, env, r, m⟩ => ?_
  unfold ePeekD at m
  split at m
  · rename_i d hd
    obtain ⟨v, h1, h2⟩ := slot_val r hd
    exact ⟨v, h1, m Hf H (Post.refl r.sub) v (Rep.mono r.sub _ _ h2)⟩
  · rename_i o hd
    obtain ⟨p, fp, h1, ow⟩ := slot_own r hd
    exact ⟨.ref p, h1, m Hf H (Post.refl r.sub) _ (own_rep r.sub ow)⟩
  · exact m.no.elim
theorem mba_nil : MBA X j [] aNil := PA.imp pa_nil fun σ H Q ⟨G, Hf, env, rr, m⟩ => OutP.ok m rr.sub [] (by unfold RepL; rfl)
theorem mba_cons (ha : MB X j e ce) (hr : MBA X j es al) (hs : starEach (e :: es) X.env = (false, eval e X.env) :: starEach es X.env := by rfl) : MBA X j (e :: es) (aCons ce al) := by
  refine PA.imp (pa_cons ha hr hs) fun σ H Q ⟨G, Hf, env, rr, m⟩ => ⟨G, Hf, env, rr, m.bind.imp fun x Hf1 H1 _ p1 m1 v rv => ⟨G, Hf1, env, rr.grow p1, m1.bind.imp fun y Hf2 H2 _ p2 m2 u ru => ?_⟩⟩
  exact OutP.ok m2 p2.sub _ (by unfold RepL; exact ⟨v, u, rfl, Rep.mono p2.all _ _ rv, ru⟩)
theorem post_back {Hf1 H1 Hf' H' : Hp} (s : Same Hf1 H1) (p : Post H1 H1 Hf' H') : Post Hf1 H1 Hf1 H' := ⟨Same.refl _, p.all, s.trans p.all, fun a h => .inl h⟩
/-- a call that is lent things -/
theorem me_callP {k : Nat} {f : Addr} {fd : FuncData} {ps : List Str} {F : Fn} {x : Str} {q : Pos} (Fo : FnOk X.prog X.w X.K X.mg X.base (L2N.CX X.prog X.w) k f fd ps (spF X.K j.ca F)) (hr : Room k X.A) (hg : Gl X x) (hm : X.mg x = some (.ref f)) (hk : PySem.W.keepIn X.K (.ref f) = true) (hb : Binds X.K fd ps []) (tk : L2N.Takes X j.W)
    (ha : MBA X j (e :: es) al) (hdb : (x == ("__debug__" : Str)) = false := by decide) (he : starEach (e :: es) X.env = (false, eval e X.env) :: starEach es X.env := by rfl) (hpl : (backTo pos (starEach es X.env)).any (·.1) = false := by rfl) :
    ME X j (.Call (.Name x q) (e :: es) [] pos) (eCallP F al) := by
  refine PE.imp (pe_callS Fo hr hg hm hk hb (fun σ => L2N.passAt tk σ) ha hdb he hpl) fun σ H Q ⟨G, Hf, env, rr, m⟩ => ⟨G, Hf, env, rr, m.bind.imp fun ds Hf1 H1 _ p1 m1 vs rv => ⟨H1, ds, Same.refl _, rv, ?_⟩⟩
  cases e : F ds with
  | ok sl =>
    rw [e] at m1
    cases sl with
    | val d =>
      show ∀ v Hf' H', Post H1 H1 Hf' H' → Rep X.K j.ca Hf' d v → Q v H'
      intro v Hf' H' p rv
      have m1 : OutP X.K j.ca j.W σ Hf1 H1 (if flatD d = true then Out.ok d else .stuck) _ := m1
      split at m1
      · rename_i f
        exact m1 Hf1 H' (post_back p1.sub p) v (flat_far f rv)
      · exact m1.no.elim
    | own o => exact m1.no.elim
    | un => exact m1.no.elim
    | exc x => exact m1.no.elim
    | io x => exact m1.no.elim
  | exc x => rw [e] at m1; exact m1.no.elim
  | stuck => rw [e] at m1; exact m1.no.elim
theorem me_bP {id : String} {g : List D → Out D} {x : Str} {q : Pos} (o : BC X j.ca (.builtin id) g) (hg : Gl X x) (hm : X.mg x = none) (hv : bootBuiltins x = some (.builtin id)) (ha : MBA X j (e :: es) al)
    (hn : x ≠ "__name__" := by decide) (hdb : (x == ("__debug__" : Str)) = false := by decide) (he : starEach (e :: es) X.env = (false, eval e X.env) :: starEach es X.env := by rfl) (hpl : (backTo pos (starEach es X.env)).any (·.1) = false := by rfl) :
    ME X j (.Call (.Name x q) (e :: es) [] pos) (eBP g al) := by
  obtain ⟨r, h, k⟩ := o
  refine PE.imp (pe_callB h hg hm hv ha hn hdb he hpl) fun σ H Q ⟨G, Hf, env, rr, m⟩ => ⟨G, Hf, env, rr, m.bind.imp fun xs Hf1 H1 _ p1 m1 vs rv => ?_⟩
  have pl : ∀ {ds : List D} {us : List V}, RepL X.K j.ca H1 ds us → PRepL X.K j.ca H1 H1 ds us := by
    intro ds
    induction ds with
    | nil => intro us h; unfold RepL at h; unfold PRepL; exact h
    | cons d ds ih =>
      intro us h
      unfold RepL at h
      obtain ⟨v, r, e, h1, h2⟩ := h
      unfold PRepL
      exact ⟨v, r, e, PRep.of (Same.refl _) h1, ih h2⟩
  refine k j.W σ H1 H1 xs vs Q (Same.refl _) (pl rv) ?_
  cases e : g xs with
  | ok d =>
    rw [e] at m1
    intro Hf' H' p v rv
    have m1 : OutP X.K j.ca j.W σ Hf1 H1 (if flatD d = true then Out.ok d else .stuck) _ := m1
    split at m1
    · rename_i f
      exact m1 Hf1 H' (post_back p1.sub p) v (flat_far f rv)
    · exact m1.no.elim
  | exc x => rw [e] at m1; exact m1.no.elim
  | stuck => rw [e] at m1; exact m1.no.elim
end
end M
/-! MBor2: lists of lists of our own are changed in place. -/
namespace M
open PySem PySem.Spec PyProof.Rows L2
section
variable {K : PySem.W.Frag} {ca : Nat → Addr} {ea : Option (Addr × Value × Option Addr)} {G : Gh} {Hf H : Hp} {env : M.Env} {σ : L2.St}
theorem OwnR.far {H' : Hp} {q : Addr} {fp : List Addr} {o : Own} (h : OwnR K ca Hf H q fp o) (k : ∀ a ∈ fp, H' a = H a) : OwnR K ca Hf H' q fp o := by
  cases o with
  | lst xs =>
    obtain ⟨vs, h1, h2, h3⟩ := h
    exact ⟨vs, by rw [k q (by rw [h3]; simp)]; exact h1, h2, h3⟩
  | lst2 xss =>
    obtain ⟨ps, h1, h2, h3, h4⟩ := h
    refine ⟨ps, by rw [k q (by rw [h2]; simp)]; exact h1, h2, h3, fun i q' xs e1 e2 => ?_⟩
    obtain ⟨vs, k1, k2⟩ := h4 i q' xs e1 e2
    exact ⟨vs, by rw [k q' (by rw [h2]; exact List.mem_cons_of_mem _ (List.mem_of_getElem? e1))]; exact k1, k2⟩
  | dct ks vs =>
    obtain ⟨us, ⟨kvs, h0, h1⟩, h2, h3⟩ := h
    exact ⟨us, ⟨kvs, by rw [k q (by rw [h3]; simp)]; exact h0, h1⟩, h2, h3⟩
  | dctT ks vs =>
    obtain ⟨us, ⟨kvs, h0, h1⟩, h2, h3⟩ := h
    exact ⟨us, ⟨kvs, by rw [k q (by rw [h3]; simp)]; exact h0, h1⟩, h2, h3⟩
theorem set_flat : ∀ {l : List (List Addr)} {i : Nat} {x new : List Addr}, l[i]? = some x → (l.set i (x ++ new)).flatten.Perm (l.flatten ++ new)
  | [], i, x, new, h => by simp at h
  | y :: l, 0, x, new, h => by
    have e : y = x := by simpa using h
    subst e
    simp only [List.set_cons_zero, List.flatten_cons]
    rw [List.append_assoc, List.append_assoc]
    exact List.Perm.append_left _ List.perm_append_comm
  | y :: l, i + 1, x, new, h => by
    simp only [List.set_cons_succ, List.flatten_cons]
    rw [List.append_assoc]
    exact List.Perm.append_left _ (set_flat (by simpa using h))
/-- our own thing at slot i is changed, it may get new parts -/
theorem RR.updG {Hf1 H1 H' : Hp} (r : RR K ca ea G Hf env σ H) (p1 : Post Hf H Hf1 H1) {i : Nat} {o o2 : Own} {p : Addr} (he : env[i]? = some (.own o)) (hs : σ[i]? = some (some (.ref p)))
    (h : ∀ fp, OwnR K ca Hf1 H1 p fp o → fp.Nodup → (∀ a ∈ fp, H a ≠ none) → ∃ new : List Addr, new.Nodup ∧ (∀ a ∈ new, H a = none ∧ Hf1 a = none ∧ H' a ≠ none) ∧ (∀ b x, H1 b = some x → b ∉ fp → H' b = some x) ∧ (∀ b ∈ fp, H' b ≠ none) ∧ OwnR K ca Hf1 H' p (fp ++ new) o2) :
    RR K ca ea G Hf1 (env.set i (.own o2)) σ H' := by
  obtain ⟨fps, l, m, k⟩ := r.slots
  have h1 : i < env.length := (List.getElem?_eq_some_iff.mp he).1
  have h3 : i < fps.length := by rw [l]; exact h1
  obtain ⟨p', e0, ow⟩ := k i _ _ _ he hs (List.getElem?_eq_getElem h3)
  cases e0
  have inF : ∀ a ∈ fps[i], a ∈ fps.flatten := fun a ha => List.mem_flatten.mpr ⟨fps[i], List.getElem_mem h3, ha⟩
  have m' := m.grow p1
  obtain ⟨new, n1, n2, n3, n4, n5⟩ := h fps[i] (ow.grow p1) (List.Nodup.sublist (List.sublist_flatten_of_mem (List.getElem_mem h3)) m.1) fun a ha => (m.2 a (inF a ha)).2.2
  have gl : fps[i]? = some fps[i] := List.getElem?_eq_getElem h3
  have pm := set_flat (new := new) gl
  have post1 := r.post.trans p1
  have keep : ∀ b x, H1 b = some x → b ∉ fps[i] → H' b = some x := n3
  refine ⟨⟨post1.sh, fun b x e => ?_, fun b x e => ?_, post1.new⟩, by simp [r.len], fps.set i (fps[i] ++ new), by simp [l], ⟨?_, fun a ha => ?_⟩, fun j s' o' fp' e1 e2 e3 => ?_⟩
  · refine keep _ _ (post1.all _ _ e) fun hb => ?_
    rw [(m.2 b (inF b hb)).2.1] at e; cases e
  · refine keep _ _ (post1.sub _ _ e) fun hb => ?_
    rw [(m'.2 b (inF b hb)).1] at e; cases e
  · refine pm.nodup_iff.mpr (List.nodup_append.mpr ⟨m.1, n1, fun a ha b hb e => ?_⟩)
    subst e
    exact (m.2 a ha).2.2 (n2 a hb).1
  · rcases List.mem_append.mp (pm.mem_iff.mp ha) with z | z
    · obtain ⟨z1, z2, z3⟩ := m'.2 a z
      refine ⟨z1, z2, ?_⟩
      by_cases hb : a ∈ fps[i]
      · exact n4 a hb
      · cases e : H1 a with
        | none => exact absurd e z3
        | some x => rw [keep a x e hb]; simp
    · obtain ⟨z1, z2, z3⟩ := n2 a z
      exact ⟨z2, r.post.all.free z1, z3⟩
  · by_cases hj : i = j
    · subst hj
      rw [List.getElem?_set_self h1] at e1
      rw [List.getElem?_set_self h3] at e3
      cases e1; cases e3
      rw [hs] at e2; cases e2
      exact ⟨p, rfl, n5⟩
    · rw [List.getElem?_set_ne hj] at e1 e3
      have z := k j s' o' fp' e1 e2 e3
      cases s' with
      | un => trivial
      | val d => obtain ⟨v, k1, k2⟩ := z; exact ⟨v, k1, Rep.mono p1.sh _ _ k2⟩
      | exc x => obtain ⟨a, cls, d, k1, k2, k3⟩ := z; exact ⟨a, cls, d, k1, k2, k3.mono p1.sh⟩
      | io xs =>
        obtain ⟨a, cls, d, vs, k1, k2, k3, k4, k5⟩ := z
        have ha : a ∈ fp' := by rw [k5]; simp
        have inA : a ∈ fps.flatten := List.mem_flatten.mpr ⟨fp', List.mem_of_getElem? e3, ha⟩
        have na : a ∉ fps[i] := nodup_flat_ne m.1 e3 gl (fun z => hj z.symm) ha
        exact ⟨a, cls, d, vs, k1, k2, keep a _ (p1.all _ _ k3) na, RepL.mono p1.sh _ _ k4, k5⟩
      | own w =>
        obtain ⟨q, k1, k2⟩ := z
        refine ⟨q, k1, (k2.grow p1).far fun a ha => ?_⟩
        have inA : a ∈ fps.flatten := List.mem_flatten.mpr ⟨fp', List.mem_of_getElem? e3, ha⟩
        have na : a ∉ fps[i] := nodup_flat_ne m.1 e3 gl (fun z => hj z.symm) ha
        have z3 := (m'.2 a inA).2.2
        cases e : H1 a with
        | none => exact absurd e z3
        | some x => rw [keep a x e na]
end
section
variable {X : Cx} {j : Jc} {e : Expr} {ce ck : CE} {pos pos' : Pos}
theorem mf_lst20 : MF X j (.List [] pos) fLst20 := by
  refine PE.imp (mf_lst ma_nil) fun σ H Q ⟨G, Hf, env, r, m⟩ => ⟨G, Hf, env, r, ?_⟩
  have m : OutP X.K j.ca j.W σ Hf H (.ok (Own.lst2 [])) _ := m
  show OutP X.K j.ca j.W σ Hf H (.ok (Own.lst [])) _
  intro Hf' H' p v ov
  obtain ⟨q, fp, e, ⟨vs, h1, h2, h3⟩, mi⟩ := ov
  have hv : vs = [] := by unfold RepL at h2; exact h2
  subst hv
  exact m Hf' H' p v ⟨q, fp, e, ⟨[], h1, h3, rfl, fun i q xs e1 _ => by simp at e1⟩, mi⟩
theorem ms_app2 {i : Nat} (hm : PE X e (tBM X.K "list" rAppend (tVar i) (tCons (TF X.K j (fLst aNil)) tNil))) (hs : swapsWith e none pos.line X.env = pure false := by rfl) : MS X j (.Expr e pos) (sApp2 i) := by
  refine ms_imp (ps_expr hm hs) fun D σ H G Hf env r m => ?_
  unfold sApp2 at m
  split at m
  · rename_i xss hx
    split at m
    · rename_i hz
      obtain ⟨p, fp, h1, ps, h2, h3, h4, h5⟩ := slot_own r hx
      refine ⟨.ref p, h1, .inl ⟨rfl, ps.map .ref, .inl (.inl h2)⟩, ?_⟩
      refine ⟨G, Hf, env, r, ?_⟩
      show OutP X.K j.ca j.W σ Hf H (.ok (Own.lst [])) _
      intro Hf1 H1 p1 v ov
      obtain ⟨q, fq, rfl, ⟨vs, k1, k2, k3⟩, mi⟩ := ov
      have hv : vs = [] := by unfold RepL at k2; exact k2
      subst hv; subst k3
      obtain ⟨z1, z2, z3⟩ := mi.2 q (by simp)
      have hp : H1 p = some (.lst (ps.map .ref)) := p1.all _ _ h2
      have hl : (ps.map V.ref).length < sizeLine := by rw [List.length_map, h4, ← line_eq]; exact hz
      have pq : q ≠ p := fun z => by rw [z] at z2; rw [h2] at z2; cases z2
      refine ⟨p, ps.map .ref, .ref q, rfl, rfl, hp, hl, ?_⟩
      refine m _ _ _ (r.updG p1 hx h1 fun fp' ow nd ne => ?_)
      obtain ⟨ps', w1, w2, w3, w4⟩ := ow
      have e1 : ps' = ps := by
        rw [hp] at w1
        have := HO.lst.inj (Option.some.inj w1)
        exact (List.map_inj_right (fun a b h => by injection h)).mp this.symm
      subst e1
      refine ⟨[q], by simp, fun a ha => ?_, fun b x e nb => ?_, fun b hb => ?_, ?_⟩
      · have e : a = q := by simpa using ha
        subst e
        exact ⟨z2, z1, by rw [upd_ne pq, k1]; simp⟩
      · rw [upd_ne (fun z => nb (by rw [z, w2]; simp))]; exact e
      · by_cases hbp : b = p
        · subst hbp; rw [upd_same]; simp
        · rw [upd_ne hbp]
          cases eb : H b with
          | none => exact absurd eb (ne b hb)
          | some x => rw [p1.all _ _ eb]; simp
      · refine ⟨ps' ++ [q], by rw [upd_same]; simp, by rw [w2]; simp, by simp [w3], fun n q' xs g1 g2 => ?_⟩
        by_cases hn : n < ps'.length
        · rw [List.getElem?_append_left hn] at g1
          rw [List.getElem?_append_left (by omega)] at g2
          obtain ⟨vs, y1, y2⟩ := w4 n q' xs g1 g2
          have np : q' ≠ p := fun z => by
            rw [w2, List.nodup_cons] at nd
            exact nd.1 (z ▸ List.mem_of_getElem? g1)
          exact ⟨vs, by rw [upd_ne np]; exact y1, y2⟩
        · rw [List.getElem?_append_right (by omega)] at g1
          rw [List.getElem?_append_right (by omega)] at g2
          have hn0 : n - ps'.length = 0 := by
            have := (List.getElem?_eq_some_iff.mp g1).1
            simp at this; omega
          rw [hn0] at g1
          rw [← w3, hn0] at g2
          simp at g1 g2
          subst g1; subst g2
          exact ⟨[], by rw [upd_ne pq]; exact k1, by unfold RepL; rfl⟩
    · exact m.elim
  · exact m.elim
theorem lst2_at {K : PySem.W.Frag} {ca : Nat → Addr} {Hf H : Hp} {p : Addr} {fp ps : List Addr} {xss : List (List D)} (h2 : H p = some (.lst (ps.map .ref))) (ow : OwnR K ca Hf H p fp (.lst2 xss)) :
    fp = p :: ps ∧ ps.length = xss.length ∧ ∀ (i : Nat) q xs, ps[i]? = some q → xss[i]? = some xs → ∃ vs, H q = some (.lst vs) ∧ RepL K ca Hf xs vs := by
  obtain ⟨ps', w1, w2, w3, w4⟩ := ow
  have e1 : ps' = ps := by
    rw [h2] at w1
    have := HO.lst.inj (Option.some.inj w1)
    exact (List.map_inj_right (fun a b h => by injection h)).mp this.symm
  subst e1
  exact ⟨w2, w3, w4⟩
/-- xss[k], lent -/
theorem mb_ix2 {i : Nat} {a b : Expr} (ha : PE X a (tVar i)) (hb : MP X j b ck) (hs : PlainIx b) : MB X j (.Subscript a b pos) (eIx2 i ck) := by
  refine PE.imp (pe_ix (ix_list (X := X)) ha hb hs) fun σ H Q ⟨G, Hf, env, r, m⟩ => ?_
  unfold eIx2 at m
  split at m
  · rename_i xss hx
    obtain ⟨p, fp, h1, ps, h2, h3, h4, h5⟩ := slot_own r hx
    refine ⟨.ref p, h1, G, Hf, env, r, m.bind.imp fun d Hf1 H1 _ p1 m1 u ru => ?_⟩
    split at m1
    · rename_i z
      split at m1
      · rename_i n hn
        split at m1
        · rename_i xs hxs
          obtain ⟨hlt, _⟩ := List.getElem?_eq_some_iff.mp hxs
          obtain ⟨q0, gq⟩ : ∃ q0, ps[n]? = some q0 := ⟨_, List.getElem?_eq_getElem (by omega)⟩
          obtain ⟨vs, k1, k2⟩ := h5 n _ xs gq hxs
          refine ⟨p, ps.map .ref, _, .ref q0, rfl, pInt ru, .inl (.inl (p1.all _ _ h2)), ?_, ?_⟩
          · unfold atI
            rw [← ixN_eq, List.length_map, h4, hn]
            show (ps.map V.ref)[n]? = _
            rw [List.getElem?_map, gq]; rfl
          · refine m1 Hf1 H1 (Post.refl p1.sub) _ ?_
            unfold Rep
            exact ⟨q0, vs, rfl, .inl (.inl (p1.all _ _ k1)), RepL.mono (p1.sh.trans p1.sub) _ _ k2⟩
        · exact m1.no.elim
      · exact m1.no.elim
    · exact m1.no.elim
  · exact m.no.elim
/-- xss[k].append(e) -/
theorem ms_appAt {i : Nat} (hm : PE X e (tBM X.K "list" rAppend (tOp (rIxL X.K) (tVar i) (TP X.K j ck)) (tCons (TM X.K j ce) tNil))) (hs : swapsWith e none pos.line X.env = pure false := by rfl) : MS X j (.Expr e pos) (sAppAt i ck ce) := by
  refine ms_imp (ps_expr hm hs) fun D σ H G Hf env r m => ?_
  unfold sAppAt at m
  split at m
  · rename_i xss hx
    obtain ⟨p, fp, h1, ps, h2, h3, h4, h5⟩ := slot_own r hx
    refine ⟨.ref p, h1, G, Hf, env, r, (TFl.fl r m).imp fun d Hf1 H1 _ p1 m1 u ru => ?_⟩
    split at m1
    · rename_i z
      split at m1
      · rename_i n hn
        split at m1
        · rename_i xs hxs
          obtain ⟨hlt, _⟩ := List.getElem?_eq_some_iff.mp hxs
          obtain ⟨q0, gq⟩ : ∃ q0, ps[n]? = some q0 := ⟨_, List.getElem?_eq_getElem (by omega)⟩
          obtain ⟨vs, k1, k2⟩ := h5 n _ xs gq hxs
          have hp1 : H1 p = some (.lst (ps.map .ref)) := p1.all _ _ h2
          refine ⟨p, ps.map .ref, _, .ref q0, rfl, pInt ru, .inl (.inl hp1), ?_, ?_⟩
          · unfold atI
            rw [← ixN_eq, List.length_map, h4, hn]
            show (ps.map V.ref)[n]? = _
            rw [List.getElem?_map, gq]; rfl
          · have r1 := r.grow p1
            refine ⟨.inl ⟨rfl, vs, .inl (.inl (p1.all _ _ k1))⟩, G, Hf1, env, r1, (TFl.fl r1 m1).imp fun d Hf2 H2 _ p2 m2 v rv => ?_⟩
            have pp := p1.trans p2
            split at m2
            · rename_i hz
              have hq : H2 q0 = some (.lst vs) := pp.all _ _ k1
              have hp2 : H2 p = some (.lst (ps.map .ref)) := pp.all _ _ h2
              refine ⟨q0, vs, v, rfl, rfl, hq, by rw [← k2.length, ← line_eq]; exact hz, ?_⟩
              refine m2 _ _ _ (r.updG pp hx h1 fun fp' ow nd ne => ?_)
              obtain ⟨w2, w3, w4⟩ := lst2_at hp2 ow
              have inq : q0 ∈ fp' := by rw [w2]; exact List.mem_cons_of_mem _ (List.mem_of_getElem? gq)
              have npq : p ≠ q0 := fun z => by
                rw [w2, List.nodup_cons] at nd
                exact nd.1 (z ▸ List.mem_of_getElem? gq)
              refine ⟨[], List.nodup_nil, fun a ha => by simp at ha, fun b x e nb => ?_, fun b hb => ?_, ?_⟩
              · rw [upd_ne (fun z => nb (by rw [z]; exact inq))]; exact e
              · by_cases hbq : b = q0
                · subst hbq; rw [upd_same]; simp
                · rw [upd_ne hbq]
                  cases eb : H b with
                  | none => exact absurd eb (ne b hb)
                  | some x => rw [pp.all _ _ eb]; simp
              · refine ⟨ps, by rw [upd_ne npq]; exact hp2, by rw [w2]; simp, by simp [w3], fun l q' xs' g1 g2 => ?_⟩
                by_cases hl : n = l
                · subst hl
                  rw [gq] at g1; cases g1
                  rw [List.getElem?_set_self hlt] at g2
                  cases g2
                  exact ⟨vs ++ [v], upd_same, RepL.append (RepL.mono pp.sh _ _ k2) (RepL.one rv)⟩
                · rw [List.getElem?_set_ne hl] at g2
                  obtain ⟨vs', y1, y2⟩ := w4 l q' xs' g1 g2
                  have nq : q' ≠ q0 := fun z => by
                    rw [w2, List.nodup_cons] at nd
                    have := nd.2
                    obtain ⟨hl2, e2⟩ := List.getElem?_eq_some_iff.mp g1
                    obtain ⟨hl3, e3⟩ := List.getElem?_eq_some_iff.mp gq
                    rw [← e2, ← e3] at z
                    exact hl (((List.getElem_inj this).mp z).symm)
                  exact ⟨vs', by rw [upd_ne nq]; exact y1, y2⟩
            · exact m2.elim
        · exact m1.elim
      · exact m1.elim
    · exact m1.elim
  · exact m.elim
end
/-! ### for simp -/
section
variable {env : M.Env} {i : Nat} {k e : CE}
@[simp] theorem ePeekD_a : ePeekD i env = match env[i]? with
  | some (.val d) => .ok d | some (.own o) => .ok o.shared | _ => .stuck := eqOf rfl
@[simp] theorem oshared_lst2 (xss : List (List D)) : Own.shared (.lst2 xss) = .lst (xss.map .lst) := eqOf rfl
@[simp] theorem eIx2_a : eIx2 i k env = match env[i]? with
  | some (.own (.lst2 xss)) => (k env).bind fun d => match d with
    | .int z => (match ixN xss.length z with | some n => (match xss[n]? with | some xs => .ok (.lst xs) | none => .stuck) | none => .stuck)
    | _ => .stuck
  | _ => .stuck := eqOf rfl
@[simp] theorem scal_bl (b : Bool) : scal (.ok (.bl b)) = .ok (.bl b) := eqOf rfl
@[simp] theorem scal_int (b : Int) : scal (.ok (.int b)) = .ok (.int b) := eqOf rfl
@[simp] theorem scal_non : scal (.ok .non) = .ok .non := eqOf rfl
@[simp] theorem eCallP_a {F : Fn} {a : CA} : eCallP F a env = (a env).bind fun ds => scal (match F ds with | .ok (.val d) => .ok d | _ => .stuck) := eqOf rfl
@[simp] theorem eBP_a {g : List D → Out D} {a : CA} : eBP g a env = (a env).bind fun ds => scal (g ds) := eqOf rfl
@[simp] theorem fLst20_a : fLst20 env = .ok (.lst2 []) := eqOf rfl
@[simp] theorem sApp2_a : sApp2 i env = match env[i]? with
  | some (.own (.lst2 xss)) => if xss.length < line then .next (env.set i (.own (.lst2 (xss ++ [[]])))) else .stuck
  | _ => .stuck := eqOf rfl
@[simp] theorem sAppAt_a : sAppAt i k e env = match env[i]? with
  | some (.own (.lst2 xss)) => (k env).fl env fun dk => match dk with
    | .int z => (match ixN xss.length z with
      | some n => (match xss[n]? with
        | some xs => (e env).fl env fun d => if xs.length < line then .next (env.set i (.own (.lst2 (xss.set n (xs ++ [d]))))) else .stuck
        | none => .stuck)
      | none => .stuck)
    | _ => .stuck
  | _ => .stuck := eqOf rfl
end
end M
/-! MBor3: [[] for x in xs]. -/
namespace M
open PySem PySem.Spec PyProof.Rows L2
/-- [[] for g in items] -/
def fComp2 (vs : List Nat) (it : CA) (g : Tg) : CF := fun env => (it env).bind fun ds =>
  if (ds.all fun d => (g d (wipeE env vs)).isSome) = true ∧ ds.length ≤ line then .ok (.lst2 (List.replicate ds.length [])) else .stuck
section
variable {K : PySem.W.Frag} {ca : Nat → Addr} {ea : Option (Addr × Value × Option Addr)} {G : Gh} {Hf H : Hp} {env : M.Env} {σ : L2.St}
theorem RR.last2 {D : Addr} {xss : List (List M.D)} (r : RR K ca ea G Hf (env ++ [.own (.lst2 xss)]) (σ ++ [some (.ref D)]) H) : ∃ fp ps, OwnR K ca Hf H D fp (.lst2 xss) ∧ Mine G.H Hf H fp ∧ H D = some (.lst (ps.map .ref)) ∧ fp = D :: ps ∧ ps.length = xss.length := by
  have hl : env.length = σ.length := by have := r.len; simpa using this
  obtain ⟨p, fp, e, ow, mi⟩ := r.ownV (i := env.length) (o := .lst2 xss) (v := .ref D) (by rw [List.getElem?_append_right (Nat.le_refl _)]; simp) (by rw [List.getElem?_append_right (by omega), hl]; simp)
  cases e
  obtain ⟨ps, h1, h2, h3, h4⟩ := ow
  exact ⟨fp, ps, ⟨ps, h1, h2, h3, h4⟩, mi, h1, h2, h3⟩
end
theorem comp2_read {K : PySem.W.Frag} {j : Jc} {vs : List Nat} {it : CA} {g : Tg} {σ : L2.St} {H : Hp} {Q : VK} (h : TF K j (fComp2 vs it g) σ H Q) :
    tLc (TIt K j it) (tMG K j.dry vs g) (TMT K j.dry tTrue) (TF K j.dry (fLst aNil)) vs σ H Q := by
  obtain ⟨G, Hf, env, r, m⟩ := h
  refine ⟨G, Hf, env, r, m.bind.imp fun ds Hf1 H1 _ p1 m1 J hJ D hD => ?_⟩
  have hc : (ds.all fun d => (g d (wipeE env vs)).isSome) = true ∧ ds.length ≤ line := by
    by_cases h : (ds.all fun d => (g d (wipeE env vs)).isSome) = true ∧ ds.length ≤ line
    · exact h
    · rw [if_neg h] at m1; exact m1.elim
  rw [if_pos hc] at m1
  obtain ⟨hg, hl⟩ := hc
  have r1 := r.grow p1
  have hw := (r1.wipe vs).pushO (o0 := .lst2 []) (ho := .lst []) hD ⟨[], upd_same, rfl, rfl, fun i q xs e1 _ => by simp at e1⟩
  refine ⟨fun i mm H' => mm = ds.length - i ∧ i ≤ ds.length ∧ ∃ (Hf : Hp) (ps : List Addr), RR K j.ca j.ea G Hf (wipeE env vs ++ [.own (.lst2 (List.replicate i []))]) (L2.wipe σ vs ++ [some (.ref D)]) H' ∧ Same Hf1 Hf ∧ Post Hf1 H1 Hf H' ∧ H' D = some (.lst (ps.map .ref)) ∧ ∀ a ∈ ps, H1 a = none,
    ⟨_, rfl, Nat.zero_le _, Hf1, [], hw, Same.refl _, post_own p1.sub hD, upd_same, by simp⟩, ?_⟩
  rintro i mm H2 ⟨rfl, hi, Hf2, ps, r2, s2, q2, e2, f2⟩
  by_cases hlt : i < ds.length
  · refine .inr ⟨hJ.go i Hf2 H2 s2 r2.sub hlt, fun H' => ∃ (Hf : Hp) (ps : List Addr), RR K j.ca j.ea G Hf (wipeE env vs ++ [.own (.lst2 (List.replicate (i + 1) []))]) (L2.wipe σ vs ++ [some (.ref D)]) H' ∧ Same Hf1 Hf ∧ Post Hf1 H1 Hf H' ∧ H' D = some (.lst (ps.map .ref)) ∧ ∀ a ∈ ps, H1 a = none, fun H' h => ⟨ds.length - (i + 1), by omega, rfl, by omega, h⟩, fun x H' y => ?_⟩
    obtain ⟨Hf3, p3, rx⟩ := hJ.yld i Hf2 H2 x H' ds[i] s2 r2.sub (List.getElem?_eq_getElem hlt) y
    cases hgi : g ds[i] (wipeE env vs) with
    | none =>
      have := List.all_eq_true.mp hg ds[i] (List.getElem_mem _)
      rw [hgi] at this; cases this
    | some e1 =>
      have r3 := r2.grow p3
      refine ⟨G, Hf3, _, ds[i], e1, r3.pop, rx, hgi, fun σ2 rt hwt => ⟨hwt.trans wipe_wipe, ?_⟩⟩
      refine ⟨G, Hf3, e1, rt, ?_⟩
      show OutP K j.ca _ _ _ _ (.ok true) _
      intro Hf4 H4 p4
      refine ⟨G, Hf4, e1, rt.grow p4, ?_⟩
      show OutP K j.ca _ _ _ _ (.ok (Own.lst [])) _
      intro Hf5 H5 p5 v ov
      obtain ⟨q, fq, rfl, ⟨us, k1, k2, k3⟩, mi⟩ := ov
      have hv : us = [] := by unfold RepL at k2; exact k2
      subst hv; subst k3
      obtain ⟨z1, z2, z3⟩ := mi.2 q (by simp)
      have r4 := r3.grow p4
      obtain ⟨fp, ps4, ow4, mi4, d4, fe, pl⟩ := r4.last2
      have d45 : H5 D = some (.lst (ps4.map .ref)) := p5.all _ _ d4
      have eps : ps4 = ps := by
        have := ((p3.all.trans p4.all) _ _ e2)
        rw [this] at d4
        have := HO.lst.inj (Option.some.inj d4)
        exact ((List.map_inj_right (fun a b h => by injection h)).mp this).symm
      subst eps
      have pq : q ≠ D := fun z => by rw [z] at z2; rw [d4] at z2; cases z2
      have hz : (ps4.map V.ref).length < sizeLine := by
        rw [List.length_map, pl, List.length_replicate, ← line_eq]; omega
      have el : (wipeE env vs ++ [Sl.own (.lst2 (List.replicate i []))])[(wipeE env vs).length]? = some (.own (.lst2 (List.replicate i []))) := by
        rw [List.getElem?_append_right (Nat.le_refl _)]; simp
      have ll : (wipeE env vs).length = (L2.wipe σ vs).length := by have := r4.len; simpa using this
      have es : (L2.wipe σ vs ++ [some (V.ref D)])[(wipeE env vs).length]? = some (some (.ref D)) := by
        rw [ll, List.getElem?_append_right (Nat.le_refl _)]; simp
      have fD : Hf5 D = none := by
        have h1 := (mi4.grow p5).2 D (by rw [fe]; simp)
        exact h1.1
      have r5 := r4.updG (o2 := .lst2 (List.replicate (i + 1) [])) (H' := L2.upd H5 D (.lst (ps4.map .ref ++ [.ref q]))) p5 el es (fun fp' ow nd ne => by
        obtain ⟨w2, w3, w4⟩ := lst2_at d45 ow
        refine ⟨[q], by simp, fun a ha => ?_, fun b x e nb => ?_, fun b hb => ?_, ?_⟩
        · have e : a = q := by simpa using ha
          subst e
          exact ⟨z2, z1, by rw [upd_ne pq, k1]; simp⟩
        · rw [upd_ne (fun z => nb (by rw [z, w2]; simp))]; exact e
        · by_cases hbp : b = D
          · subst hbp; rw [upd_same]; simp
          · rw [upd_ne hbp]
            cases eb : H4 b with
            | none => exact absurd eb (ne b hb)
            | some x => rw [p5.all _ _ eb]; simp
        · refine ⟨ps4 ++ [q], by rw [upd_same]; simp, by rw [w2]; simp, by simp [w3], fun n q' xs g1 g2 => ?_⟩
          have gx : xs = [] := by
            have := List.mem_of_getElem? g2
            exact (List.mem_replicate.mp this).2
          subst gx
          by_cases hn : n < ps4.length
          · rw [List.getElem?_append_left hn] at g1
            have g3 : (List.replicate i ([] : List M.D))[n]? = some [] := by
              rw [List.length_replicate] at w3
              rw [List.getElem?_replicate, if_pos (by omega)]
            obtain ⟨vs', y1, y2⟩ := w4 n q' [] g1 g3
            have np : q' ≠ D := fun z => by
              rw [w2, List.nodup_cons] at nd
              exact nd.1 (z ▸ List.mem_of_getElem? g1)
            exact ⟨vs', by rw [upd_ne np]; exact y1, y2⟩
          · rw [List.getElem?_append_right (by omega)] at g1
            have hn0 : n - ps4.length = 0 := by
              have := (List.getElem?_eq_some_iff.mp g1).1
              simp at this; omega
            rw [hn0] at g1
            simp at g1
            subst g1
            exact ⟨[], by rw [upd_ne pq]; exact k1, by unfold RepL; rfl⟩)
      have ee : (wipeE env vs ++ [Sl.own (.lst2 (List.replicate i []))]).set (wipeE env vs).length (.own (.lst2 (List.replicate (i + 1) []))) = wipeE env vs ++ [.own (.lst2 (List.replicate (i + 1) []))] := by
        rw [List.set_append_right _ _ (Nat.le_refl _), Nat.sub_self]; rfl
      rw [ee] at r5
      refine ⟨ps4.map .ref, d45, hz, Hf5, ps4 ++ [q], r5, ((s2.trans p3.sh).trans p4.sh).trans p5.sh, (((q2.trans p3).trans p4).trans p5).updNew hD fD, by rw [upd_same]; simp, fun a ha => ?_⟩
      rcases List.mem_append.mp ha with z | z
      · exact f2 a z
      · have e : a = q := by simpa using z
        subst e
        exact ((q2.trans p3).trans p4).all.free z2
  · have hi2 : i = ds.length := by omega
    subst hi2
    refine .inl ⟨hJ.stop _ Hf2 H2 s2 r2.sub (by omega), ?_⟩
    obtain ⟨fp, ps2, ow2, mi2, d2, fe, pl⟩ := r2.last2
    have eps : ps2 = ps := by
      rw [e2] at d2
      have := HO.lst.inj (Option.some.inj d2)
      exact ((List.map_inj_right (fun a b h => by injection h)).mp this).symm
    subst eps
    exact m1 Hf2 H2 q2 _ ⟨D, fp, rfl, ow2, mi2.1, fun a ha => by
      obtain ⟨w1, w2, w3⟩ := mi2.2 a ha
      refine ⟨w1, ?_, w3⟩
      rw [fe] at ha
      rcases List.mem_cons.mp ha with e | e
      · subst e; exact p1.all.free hD
      · exact p1.all.free (f2 a e)⟩
section
variable {X : Cx} {j : Jc} {tg iter : Expr} {scope : Scope} {own : List (Str × Nat)} {vs : List Nat} {pos p0 : Pos} {it : CA} {g : Tg}
theorem mf_comp2 (hc : X.calm = true) (hN : X.N.Nodup) (hi : MI X j tg iter it) (ok : BlkOk X.N X.env.scope scope own) (hv : own.map (·.2) = vs)
    (hg : ∀ (s : Shared) (H : Hp) (C : Addr) (cl : List (Str × Addr)) (fp : List Addr), MG (X.blk s H scope (compEnvC scope cl C X.env) fp) j.dry vs tg g) (hs : ∀ x, foldedSetIterable iter X.env x = pure x := by intro _; rfl) :
    MF X j (.ListComp (.List [] p0) [⟨tg, iter, [], 0⟩] scope pos) (fComp2 vs it g) := by
  subst hv
  exact PE.imp (pe_lc (g := tMG X.K j.dry _ g) (tt := TMT X.K j.dry tTrue) (te := TF X.K j.dry (fLst aNil)) hc hN hi ok hg (fun _ _ _ _ _ => mts_nil) (fun _ _ _ _ _ => mf_lst ma_nil) hs) fun σ H Q h => comp2_read h
theorem ms_setComp2 {i : Nat} {y : Str} {py spos : Pos} (hc : X.calm = true) (hN : X.N.Nodup) (hy : X.N[i]? = some y) (hyl : X.env.scope.names.lookup y = some .local)
    (hsw : swapsWith (.ListComp (.List [] p0) [⟨tg, iter, [], 0⟩] scope pos) (some (.Name y py)) spos.line X.env = pure true) (hi : MI X j tg iter it) (ok : BlkOk X.N X.env.scope scope own) (hv : own.map (·.2) = vs)
    (hg : ∀ (s : Shared) (H : Hp) (C : Addr) (cl : List (Str × Addr)) (fp : List Addr), MG (X.blk s H scope (compEnvC scope cl C X.env) fp) j.dry vs tg g) (hs : ∀ x, foldedSetIterable iter X.env x = pure x := by intro _; rfl) :
    MS X j (.Assign [.Name y py] (.ListComp (.List [] p0) [⟨tg, iter, [], 0⟩] scope pos) spos) (sSetF i (fComp2 vs it g)) := by
  subst hv
  exact ms_imp (ps_setLc (g := tMG X.K j.dry _ g) (tt := TMT X.K j.dry tTrue) (te := TF X.K j.dry (fLst aNil)) hc hN hy hyl hsw hi ok hg (fun _ _ _ _ _ => mts_nil) (fun _ _ _ _ _ => mf_lst ma_nil) hs) fun D σ H G Hf env r m => comp2_read ⟨G, Hf, env, r, (TFl.fl r m).imp fun d Hf' H' _ p m1 v rv => m1 _ _ _ (r.putOwn p i rv)⟩
@[simp] theorem fComp2_a (vs : List Nat) (it : CA) (g : Tg) (env : M.Env) : fComp2 vs it g env = (it env).bind fun ds =>
  if (ds.all fun d => (g d (wipeE env vs)).isSome) = true ∧ ds.length ≤ line then .ok (.lst2 (List.replicate ds.length [])) else .stuck := eqOf rfl
end
end M
/-! MRev: list(reversed(x)), x a list. -/
namespace L2.RT
open PySem PySem.Spec PyProof.Rows L2
section
variable {prog : Program} {w : World} {A : Around} {E : Value → Shared → Prop} {s : Shared}
theorem call_list_rev {it l : Addr} {items : Array Value} {Q : Value → Shared → Prop} (hh : A.handled = none) (hit : s.heap.IsRevIter it l ((items.size : Int) - 1)) (hl : s.heap.IsList l items) (hne : l ≠ it) (hn : items.size ≤ sizeLine)
    (hQ : ∀ (h' : Heap) (tk : Nat) (acc : Array Value) (c' : Nat), (∀ b o, b ≠ it → s.heap.get? b = some o → h'.get? b = some o) → h'.get? s.heap.objs.size = some { cls := .type "list", dict := none, data := .seq acc c', slots := #[] } → ItemsOf (fun i v => items[items.size - 1 - i]? = some v) acc items.size →
      Q (.ref s.heap.objs.size) { s with heap := h', toks := tk }) :
    wpAny (model prog w) A (call (.type "list") [.ref it]) Q E s := by
  refine callType_codes (Q₁ := fun obj s₁ => obj = .ref s.heap.objs.size ∧ s₁ = { s with heap := s.heap.push { cls := .type "list", data := .seq #[] } }) F.called_list (F.typeCall_list_1 _) F.entry_list_init
    (code_list_new _ ⟨rfl, rfl⟩) fun obj s₁ h₁ => ?_
  obtain ⟨rfl, rfl⟩ := h₁
  have hS : (s.heap.push { cls := .type "list", data := .seq #[] }).get? s.heap.objs.size = some { cls := .type "list", data := .seq #[] } := Heap.get?_push_size _ rfl
  obtain ⟨oi, hoi, _⟩ := id hit
  obtain ⟨ol, hol, _⟩ := id hl
  have hSi : s.heap.objs.size ≠ it := Nat.ne_of_gt (Heap.lt_size hoi)
  have hSl : s.heap.objs.size ≠ l := Nat.ne_of_gt (Heap.lt_size hol)
  have hSf : s.heap.objs.size ∉ [it, l] := by simp only [List.mem_cons, List.not_mem_nil, or_false, not_or]; exact ⟨hSi, hSl⟩
  have W := (Walks.listRev (prog := prog) (w := w) (A := A.in1.in1) hh it l hne items).toS
  refine ⟨⟨_, hS, rfl⟩, F.args_list_init_2 _ _, ?_⟩
  show wpAny _ _ (do let old ← Builtin.List.listItems (.ref s.heap.objs.size); Builtin.List.listUpdate (.ref s.heap.objs.size) (fun _ => #[]); letGo old.toList.reverse; Builtin.List.listExtendWith (.ref s.heap.objs.size) (.ref it) .none) _ _ _
  refine wpAny_bind ?_
  unfold Builtin.List.listItems
  refine wpAny_bind (wpAny_seqItems hS rfl (wpAny_pure ?_))
  show wpAny _ _ (updateSeq s.heap.objs.size (fun _ => #[]) >>= fun _ => letGo (#[] : Array Value).toList.reverse >>= fun _ => Builtin.List.listExtendWith (.ref s.heap.objs.size) (.ref it) .none) _ _ _
  refine wpAny_bind (wpAny_updateSeq hS rfl ?_)
  have hS₂ := Heap.get?_update_self (Obj.mapSeq (fun _ => (#[] : Array Value))) hS rfl
  have oth : ∀ b o, b ≠ s.heap.objs.size → s.heap.get? b = some o → ((s.heap.push { cls := .type "list", data := .seq #[] }).update s.heap.objs.size (Obj.mapSeq (fun _ => (#[] : Array Value)))).get? b = some o :=
    fun b o hb e => (Heap.get?_update_other _ _ (Ne.symm hb)).trans (Heap.get?_push_of_some _ e)
  refine wpAny_bind (wpAny_letGo ?_)
  generalize hH2 : (s.heap.push { cls := .type "list", data := .seq #[] }).update s.heap.objs.size (Obj.mapSeq (fun _ => (#[] : Array Value))) = H2 at *
  have hit1 : H2.IsRevIter it l ((items.size : Int) - 1) := hit.at fun o e => oth _ _ (Ne.symm hSi) e
  have hl1 : H2.IsList l items := by
    obtain ⟨o, e1, e2⟩ := hl
    exact ⟨o, oth _ _ (Ne.symm hSl) e1, e2⟩
  have hT : ({ s with heap := H2 } : Shared).TypeIs (.ref it) "list_reverseiterator" := Heap.IsRevIter.typeIs (s := { s with heap := H2 }) hit1
  have h1 : Builtin.List.listSameRef (.ref s.heap.objs.size) (.ref it) = false := by simp [Builtin.List.listSameRef, hSi]
  unfold Builtin.List.listExtendWith
  refine wpAny_bind (wpAny_typeOf hT ?_)
  rw [if_neg (by rw [h1]; decide)]
  refine wpAny_bind (wpAny_pyIter_revIter (s := { s with heap := H2 }) hit1 ?_)
  refine wpAny_bind (wpAny_holding ?_)
  unfold Builtin.List.listLengthHint
  refine wpAny_bind (wpAny_specialOf hT _root_.RT.nolen_lri ?_)
  show wpAny _ A.in1.in1 (specialOf (Value.ref it) (Str.ofString "__length_hint__") >>= _) _ _ _
  refine wpAny_bind (wpAny_specialOf hT _root_.RT.hint_lri ?_)
  generalize hid : ("list_reverseiterator.__length_hint__" : String) = id0
  wp_delta
  rw [show splitId id0 = some ("list_reverseiterator", "__length_hint__") from by subst hid; decide +kernel]
  subst hid
  refine wpAny_bind (wpAny_isInstance (b := true) hT (by rw [isSubtype_type]; kernel_rfl) ?_)
  refine wpAny_pure ?_
  rw [if_neg (by decide)]
  have e0 : ((items.size : Nat) : Int) - 1 - ((0 : Nat) : Int) = (items.size : Int) - 1 := by omega
  refine wpAny_pure ⟨plainId_quiet F.plain_extend_loop _, codeAny_extend_loopS W hn _ hSf _ items.size 0 _ _ _ rfl (Nat.zero_le _) ⟨Nat.zero_le _, by rw [e0]; exact hit1, hl1⟩ hS₂ (ItemsOf.nil _) fun s' acc' c' hm hS' hacc => ?_⟩
  rw [Moved.eq_with hm]
  refine ⟨rfl, hQ s'.heap s'.toks acc' c' (fun b o hb e => hm.heap b o (fun hmem => ?_) (oth b o (Nat.ne_of_lt (Heap.lt_size e)) e)) hS' hacc⟩
  rcases List.mem_cons.mp hmem with e' | hmem
  · exact absurd (Heap.lt_size e) (by rw [e']; exact Nat.lt_irrefl _)
  · exact hb (List.mem_singleton.mp hmem)
end
def tLstRev (K : PySem.W.Frag) (te : TE) : TE := fun σ H Q => te σ H fun v H1 => ∃ (a : Addr) (xs : List V), v = .ref a ∧ SqL K H1 a xs ∧ ∀ q, H1 q = none → Q (.ref q) (upd H1 q (.lst xs.reverse))
section
variable {X : Cx}
theorem pe_listRev {e : Expr} {te : TE} {p p2 pos pos2 : Pos} (hc : X.calm = true) (hg : Gl X "list") (hm : X.mg "list" = none) (hg2 : Gl X "reversed") (hm2 : X.mg "reversed" = none) (he : PE X e te)
    (hs : starEach [e] X.env = (false, eval e X.env) :: starEach [] X.env := by rfl)
    (hs2 : starEach [.Call (.Name "reversed" p2) [e] [] pos2] X.env = (false, eval (.Call (.Name "reversed" p2) [e] [] pos2) X.env) :: starEach [] X.env := by rfl) :
    PE X (.Call (.Name "list" p) [.Call (.Name "reversed" p2) [e] [] pos2] [] pos) (tLstRev X.K te) := by
  refine ⟨fun pins s σ H Q I h => ?_⟩
  refine Call_ (ld_blt I hg hm boot_list (PyProof.Rows.callWith_type1 (args_cons (Call_ (ld_blt I hg2 hm2 PyProof.Rows.boot_reversed (PyProof.Rows.callWith_type1 (args_cons (thn (he.run pins s σ H _ I h) fun u s1 ⟨v, H1, I1, r1, q1⟩ => args_nil ?_) hs) hs rfl))) hs2) hs2 rfl))
  obtain ⟨a, xs, ev, hq, q⟩ := q1
  subst ev
  obtain rfl : u = Value.ref a := r1
  obtain ⟨its, rv, p', hz⟩ := I1.list hq
  refine call_reversed_list p'.isList (args_nil ?_)
  have k0 : ∀ b o, s1.heap.get? b = some o → (s1.heap.push (revObj a ((its.toArray.size : Int) - 1))).get? b = some o := fun b o e => Heap.get?_push_of_some _ e
  have I2 : Inv X pins σ H1 { s1 with heap := s1.heap.push (revObj a ((its.toArray.size : Int) - 1)) } := I1.kept (t' := s1.toks) k0
  have F1 := I1.fpOk (H' := H1) (b := s1.heap.objs.size) (Nat.le_refl _) (I1.hok.fresh (Nat.le_refl _))
  have hl := p'.isList
  obtain ⟨ol, hol, _⟩ := id hl
  have hne : a ≠ s1.heap.objs.size := Nat.ne_of_lt (Heap.lt_size hol)
  have hn : its.toArray.size ≤ sizeLine := by rw [List.size_toArray, ← rv.length]; exact hz
  refine call_list_rev (s := { s1 with heap := s1.heap.push (revObj a ((its.toArray.size : Int) - 1)) }) (I1.ok.hd hc) ⟨_, Heap.get?_push_size _ rfl, rfl, rfl⟩ (hl.push _) hne hn fun h' tk acc c' hk e' hi => ?_
  have I3 := I2.turnedNew (h' := h') (t' := tk) (ch := [s1.heap.objs.size]) (T := (s1.heap.push (revObj a ((its.toArray.size : Int) - 1))).objs.size) (ob := .lst xs.reverse) (fun b o hb e => hk b o (fun z => hb (by simp [z])) e) (fun b hb => by
    have z : b = s1.heap.objs.size := by simpa using hb
    subst z
    exact F1) (Nat.le_refl _) (show ObjOk X.prog X.w _ _ _ (.lst xs.reverse) from ⟨by rw [List.length_reverse]; exact hz, acc.toList, c', _root_.RT.vals_rev rv hi, by rw [Array.toArray_toList]; exact e'⟩)
  exact ⟨.ref _, _, I3, rfl, q _ (I2.hok.fresh (Nat.le_refl _))⟩
end
end L2.RT
namespace M
open PySem PySem.Spec PyProof.Rows L2
def dListRev : D → Out (List D)
  | .lst xs => .ok xs.reverse
  | _ => .stuck
/-- list(reversed(x)) -/
def fListRev (a : CE) : CF := fun env => (a env).bind fun x => (dListRev x).bind fun ys => .ok (.lst ys)
@[simp] theorem fListRev_a (a : CE) (env : M.Env) : fListRev a env = (a env).bind fun x => (dListRev x).bind fun ys => .ok (.lst ys) := eqOf rfl
@[simp] theorem dListRev_l (xs : List D) : dListRev (.lst xs) = .ok xs.reverse := eqOf rfl
section
variable {X : Cx} {j : Jc} {e : Expr} {ce : CE} {p p2 pos pos2 : Pos}
theorem mf_listRev (hc : X.calm = true) (hg : Gl X "list") (hm : X.mg "list" = none) (hg2 : Gl X "reversed") (hm2 : X.mg "reversed" = none) (he : ME X j e ce)
    (hs : starEach [e] X.env = (false, eval e X.env) :: starEach [] X.env := by rfl)
    (hs2 : starEach [.Call (.Name "reversed" p2) [e] [] pos2] X.env = (false, eval (.Call (.Name "reversed" p2) [e] [] pos2) X.env) :: starEach [] X.env := by rfl) :
    MF X j (.Call (.Name "list" p) [.Call (.Name "reversed" p2) [e] [] pos2] [] pos) (fListRev ce) := by
  refine PE.imp (L2.RT.pe_listRev hc hg hm hg2 hm2 he hs hs2) fun σ H Q ⟨G, Hf, env, r, m⟩ => ⟨G, Hf, env, r, m.bind.imp fun x Hf1 H1 _ p1 m1 v rv => ?_⟩
  cases x with
  | lst xs =>
    unfold Rep at rv
    obtain ⟨a, us, rfl, a1, a2⟩ := rv
    have m1 : OutP X.K j.ca j.W σ Hf1 H1 (.ok (Own.lst xs.reverse)) _ := m1
    exact ⟨a, us, rfl, p1.sub.seq a1, fun q hq => m1 _ _ (post_own p1.sub hq) _ (own_step p1 hq (RepL.rev a2))⟩
  | _ => exact (OutP.no m1).elim
end
end M
/-! MChain: a < b < c < d. -/
namespace L2
open PySem PySem.Spec PyProof.Rows
section
variable {X : Cx} {a b c d : Expr} {ta tb tc td : TE} {pos : Pos}
def tChain3 (r r' r'' : R2) (ta tb tc td : TE) : TE := fun σ H Q => ta σ H fun x H1 => tb σ H1 fun y H2 => r x y H2 fun z H3 => ∃ k, z = .bl k ∧
  (if k = true then tc σ H3 fun w H4 => r' y w H4 fun z2 H5 => ∃ k2, z2 = .bl k2 ∧ (if k2 = true then td σ H5 fun u H6 => r'' w u H6 Q else Q (.bl false) H5) else Q (.bl false) H3)
theorem pe_chain3 {op op' op'' : CmpOp} {r r' r'' : R2} (ho : OpR X (compareOp op) r) (ho' : OpR X (compareOp op') r') (ho'' : OpR X (compareOp op'') r'') (ha : PE X a ta) (hb : PE X b tb) (hc : PE X c tc) (hd : PE X d td)
    (hm : lastMarks [op, op', op''] [b, c, d] = false := by with_unfolding_all rfl) : PE X (.Compare a [op, op', op''] [b, c, d] pos) (tChain3 r r' r'' ta tb tc td) := by
  refine ⟨fun pins s σ H Q I h => ?_⟩
  refine Compare_chain (thn (ha.run pins s σ H _ I h) fun v s1 ⟨x, H1, I1, r1, q1⟩ => chain_link (thn (hb.run pins s1 σ H1 _ I1 q1) fun u s2 ⟨y, H2, I2, r2, q2⟩ =>
    thn (ho pins s2 σ H2 x y v u _ I2 r1 r2 q2) fun e s3 ⟨z, H3, I3, r3, k, e1, q3⟩ => ?_)) hm
  subst e1
  cases r3
  refine wpAny_truthy_bool ?_
  cases k with
  | false => exact ite_ff ⟨.bl false, H3, I3, rfl, q3⟩
  | true =>
    refine ite_tt (chain_link (thn (hc.run pins s3 σ H3 _ I3 q3) fun w' s4 ⟨z', H4, I4, r4, q4⟩ => thn (ho' pins s4 σ H4 y z' u w' _ I4 r2 r4 q4) fun e2 s5 ⟨z2, H5, I5, r5, k2, e3, q5⟩ => ?_))
    subst e3
    cases r5
    refine wpAny_truthy_bool ?_
    cases k2 with
    | false => exact ite_ff ⟨.bl false, H5, I5, rfl, q5⟩
    | true => exact ite_tt (chain_last (thn (hd.run pins s5 σ H5 _ I5 q5) fun t s6 ⟨z3, H6, I6, r6, q6⟩ => ho'' pins s6 σ H6 z' z3 w' t Q I6 r4 r6 q6))
end
end L2
namespace M
open PySem PySem.Spec PyProof.Rows L2
/-- a < b < c < d -/
def eChain3 (f g h : D → D → Out D) (a b c d : CE) : CE := fun env => (a env).bind fun x => (b env).bind fun y => (f x y).bind fun z => match z with
  | .bl true => (c env).bind fun w => (g y w).bind fun z2 => (match z2 with
    | .bl true => (d env).bind fun u => h w u
    | .bl false => .ok (.bl false)
    | _ => .stuck)
  | .bl false => .ok (.bl false)
  | _ => .stuck
@[simp] theorem eChain3_a {f g h : D → D → Out D} {a b c d : CE} {env : M.Env} : eChain3 f g h a b c d env = (a env).bind fun x => (b env).bind fun y => (f x y).bind fun z => match z with
  | .bl true => (c env).bind fun w => (g y w).bind fun z2 => (match z2 with
    | .bl true => (d env).bind fun u => h w u
    | .bl false => .ok (.bl false)
    | _ => .stuck)
  | .bl false => .ok (.bl false)
  | _ => .stuck := eqOf rfl
section
variable {X : Cx} {j : Jc} {a b c d : Expr} {ce cf cg ch : CE} {pos : Pos}
theorem me_chain3 {op op' op'' : CmpOp} {f g h : D → D → Out D} (o : Op2 X j.ca (compareOp op) f) (o' : Op2 X j.ca (compareOp op') g) (o'' : Op2 X j.ca (compareOp op'') h) (ha : MP X j a ce) (hb : MP X j b cf) (hc : MP X j c cg) (hd : MP X j d ch)
    (hm : lastMarks [op, op', op''] [b, c, d] = false := by with_unfolding_all rfl) : ME X j (.Compare a [op, op', op''] [b, c, d] pos) (eChain3 f g h ce cf cg ch) := by
  obtain ⟨r, h1, k⟩ := o
  obtain ⟨r', h1', k'⟩ := o'
  obtain ⟨r'', h1'', k''⟩ := o''
  refine PE.imp (pe_chain3 h1 h1' h1'' ha hb hc hd hm) fun σ H Q ⟨G, Hf, env, rr, m⟩ => ⟨G, Hf, env, rr, m.bind.imp fun x Hf1 H1 _ p1 m1 v rv => ⟨G, Hf1, env, rr.grow p1, m1.bind.imp fun y Hf2 H2 _ p2 m2 u ru => ?_⟩⟩
  refine k j.W σ Hf2 H2 x y v u _ p2.sub (rv.grow p2) ru (m2.bind.imp fun z Hf3 H3 _ p3 m3 w rw => ?_)
  cases z with
  | bl z =>
    refine ⟨z, rw, ?_⟩
    cases z with
    | true =>
      refine ⟨G, Hf3, env, ((rr.grow p1).grow p2).grow p3, m3.bind.imp fun z Hf4 H4 _ p4 m4 w' rw' => k' j.W σ Hf4 H4 y z u w' _ p4.sub ((ru.grow p3).grow p4) rw' (m4.bind.imp fun z2 Hf5 H5 _ p5 m5 t rt => ?_)⟩
      cases z2 with
      | bl z2 =>
        refine ⟨z2, rt, ?_⟩
        cases z2 with
        | true => exact ⟨G, Hf5, env, ((((rr.grow p1).grow p2).grow p3).grow p4).grow p5, m5.bind.imp fun s Hf6 H6 _ p6 m6 t' rt' => k'' j.W σ Hf6 H6 z s w' t' _ p6.sub ((rw'.grow p5).grow p6) rt' m6⟩
        | false => exact m5.rep p5.sub rfl
      | _ => exact (OutP.no m5).elim
    | false => exact m3.rep p3.sub rfl
  | _ => exact (OutP.no m3).elim
end
end M
/-! MIo: a parameter that is the caller's own list, changed there; a tuple of popped things. -/
namespace M
open PySem PySem.Spec PyProof.Rows L2
/-! ### the mirrors -/
abbrev FnIo := List D → List D → Out (List D)
def startIo (n : Nat) (ds xs : List D) : Env := ds.map .val ++ .io xs :: List.replicate (n - (ds.length + 1)) .un
def ioOut (p : Nat) : Fl → Out (List D)
  | .next env => (match env[p]? with | some (.io ys) => .ok ys | _ => .stuck)
  | _ => .stuck
/-- a def without a return, whose last parameter is the caller's list -/
def fnio (p n : Nat) (body : CS) : FnIo := fun ds xs => if ds.length = p ∧ p < n then ioOut p (body (startIo n ds xs)) else .stuck
/-- found.append(e) -/
def sAppIo (i : Nat) (ce : CE) : CS := fun env => match env[i]? with
  | some (.io xs) => (ce env).fl env fun d => if xs.length < line then .next (env.set i (.io (xs ++ [d]))) else .stuck
  | _ => .stuck
/-- f(.., xs) -/
def sCallIo (F : FnIo) (al : CA) (i : Nat) : CS := fun env => match env[i]? with
  | some (.io xs) => (al env).fl env fun ds => (match F ds xs with | .ok ys => if ys.all flatD = true then .next (env.set i (.io ys)) else .stuck | _ => .stuck)
  | some (.own (.lst xs)) => (al env).fl env fun ds => (match F ds xs with | .ok ys => if ys.all flatD = true then .next (env.set i (.own (.lst ys))) else .stuck | _ => .stuck)
  | _ => .stuck
/-- x = (e, xs.pop(), .., xs.pop()) -/
def sSetTupPop (x i n : Nat) (ce : CE) : CS := fun env => (ce env).fl env fun d => match env[i]? with
  | some (.own (.lst xs)) => if n ≤ xs.length ∧ n < 100 then .next ((env.set i (.own (.lst (xs.take (xs.length - n))))).set x (.val (.tup (d :: xs.reverse.take n)))) else .stuck
  | _ => .stuck
/-! ### the heap without p -/
def del (H : Hp) (p : Addr) : Hp := fun a => if a = p then none else H a
theorem del_self {H : Hp} {p : Addr} : del H p p = none := by unfold del; rw [if_pos rfl]
theorem del_ne {H : Hp} {p a : Addr} (h : a ≠ p) : del H p a = H a := by unfold del; rw [if_neg h]
theorem del_same {H : Hp} {p : Addr} : Same (del H p) H := fun a o e => by
  by_cases h : a = p
  · subst h; rw [del_self] at e; cases e
  · rw [del_ne h] at e; exact e
section
variable (K : PySem.W.Frag) (ca : Nat → Addr)
def spIo (F : FnIo) : Sp := fun vs H Q E => ∃ Hf ds xs p ws us, Same Hf H ∧ vs = us ++ [.ref p] ∧ RepL K ca Hf ds us ∧ Hf p = none ∧ H p = some (.lst ws) ∧ RepL K ca Hf xs ws ∧ match F ds xs with
  | .ok ys => ∀ Hf' H' ws', Post Hf (del H p) Hf' H' → Hf' p = none → H' p = some (.lst ws') → RepL K ca Hf' ys ws' → Q .non H'
  | _ => False
end
section
variable {K : PySem.W.Frag} {ca : Nat → Addr} {Hf H : Hp}
theorem slot_ioN {ea : Option (Addr × Value × Option Addr)} {G : Gh} {env : M.Env} {σ : L2.St} {i : Nat} {xs : List D} (r : RR K ca ea G Hf env σ H) (h : env[i]? = some (.io xs)) :
    ∃ a cls d vs, ea = some (a, cls, d) ∧ σ[i]? = some (some (.ref a)) ∧ H a = some (.lst vs) ∧ RepL K ca Hf xs vs ∧ Hf a = none := by
  obtain ⟨fps, l, m, k⟩ := r.slots
  obtain ⟨hi, _⟩ := List.getElem?_eq_some_iff.mp h
  have h1 : i < σ.length := by rw [← r.len]; exact hi
  have h2 : i < fps.length := by rw [l]; exact hi
  obtain ⟨a, cls, d, vs, e1, e2, e3, e4, e5⟩ := k i _ σ[i] fps[i] h (List.getElem?_eq_getElem h1) (List.getElem?_eq_getElem h2)
  exact ⟨a, cls, d, vs, e1, by rw [List.getElem?_eq_getElem h1, e2], e3, e4, (m.2 a (List.mem_flatten.mpr ⟨fps[i], List.getElem_mem h2, by rw [e5]; simp⟩)).1⟩
theorem slot_ownN {ea : Option (Addr × Value × Option Addr)} {G : Gh} {env : M.Env} {σ : L2.St} {i : Nat} {xs : List D} (r : RR K ca ea G Hf env σ H) (h : env[i]? = some (.own (.lst xs))) :
    ∃ a vs, σ[i]? = some (some (.ref a)) ∧ H a = some (.lst vs) ∧ RepL K ca Hf xs vs ∧ Hf a = none := by
  obtain ⟨fps, l, m, k⟩ := r.slots
  obtain ⟨hi, _⟩ := List.getElem?_eq_some_iff.mp h
  have h1 : i < σ.length := by rw [← r.len]; exact hi
  have h2 : i < fps.length := by rw [l]; exact hi
  obtain ⟨a, e2, vs, e3, e4, e5⟩ := k i _ σ[i] fps[i] h (List.getElem?_eq_getElem h1) (List.getElem?_eq_getElem h2)
  exact ⟨a, vs, by rw [List.getElem?_eq_getElem h1, e2], e3, e4, (m.2 a (List.mem_flatten.mpr ⟨fps[i], List.getElem_mem h2, by rw [e5]; simp⟩)).1⟩
/-- the caller's list is changed -/
theorem RR.updIo {ea : Option (Addr × Value × Option Addr)} {G : Gh} {env : M.Env} {σ : L2.St} (r : RR K ca ea G Hf env σ H) {i : Nat} {xs ys : List D} {us : List V} {p : Addr} (he : env[i]? = some (.io xs)) (hs : σ[i]? = some (some (.ref p))) (ru : RepL K ca Hf ys us) :
    RR K ca ea G Hf (env.set i (.io ys)) σ (L2.upd H p (.lst us)) := by
  obtain ⟨fps, l, m, k⟩ := r.slots
  have h1 : i < env.length := (List.getElem?_eq_some_iff.mp he).1
  have h3 : i < fps.length := by rw [l]; exact h1
  obtain ⟨p', cls, dd, vs, eea, e0, hp, rv, ef⟩ := k i _ _ _ he hs (List.getElem?_eq_getElem h3)
  cases e0
  have hpm : p ∈ fps.flatten := List.mem_flatten.mpr ⟨fps[i], List.getElem_mem h3, by rw [ef]; simp⟩
  obtain ⟨m1, m2, m3⟩ := m.2 p hpm
  refine ⟨⟨r.post.sh, fun b x e => ?_, fun b x e => ?_, r.post.new⟩, by simp [r.len], fps, by simp [l], ⟨m.1, fun a ha => ?_⟩, fun j s' o' fp' e1 e2 e3 => ?_⟩
  · rw [upd_ne (ne_of_none e m2)]; exact r.post.all _ _ e
  · rw [upd_ne (ne_of_none e m1)]; exact r.post.sub _ _ e
  · obtain ⟨z1, z2, z3⟩ := m.2 a ha
    refine ⟨z1, z2, ?_⟩
    by_cases hb : a = p
    · subst hb; rw [upd_same]; simp
    · rw [upd_ne hb]; exact z3
  · by_cases hj : i = j
    · subst hj
      rw [List.getElem?_set_self h1] at e1
      cases e1
      rw [hs] at e2; cases e2
      rw [List.getElem?_eq_getElem h3] at e3; cases e3
      exact ⟨p, cls, dd, us, eea, rfl, upd_same, ru, ef⟩
    · rw [List.getElem?_set_ne hj] at e1
      have z := k j s' o' fp' e1 e2 e3
      have np : p ∉ fp' := nodup_flat_ne m.1 (List.getElem?_eq_getElem h3) e3 hj (by rw [ef]; simp)
      cases s' with
      | un => trivial
      | val d => exact z
      | exc x => exact z
      | io xs =>
        obtain ⟨a, cls, d, vs, k1, k2, k3, k4, k5⟩ := z
        exact ⟨a, cls, d, vs, k1, k2, by rw [upd_ne (fun z => np (by rw [k5, z]; simp))]; exact k3, k4, k5⟩
      | own w =>
        obtain ⟨q, k1, k2⟩ := z
        refine ⟨q, k1, ?_⟩
        cases w with
        | dct ks' vs' =>
          obtain ⟨us', ⟨kvs, q0, q1⟩, q2, q3⟩ := k2
          subst q3
          exact ⟨us', ⟨kvs, by rw [upd_ne (fun z => np (by simp [z]))]; exact q0, q1⟩, q2, rfl⟩
        | dctT ks' vs' =>
          obtain ⟨us', ⟨kvs, q0, q1⟩, q2, q3⟩ := k2
          subst q3
          exact ⟨us', ⟨kvs, by rw [upd_ne (fun z => np (by simp [z]))]; exact q0, q1⟩, q2, rfl⟩
        | lst xs' =>
          obtain ⟨vs', q1, q2, q3⟩ := k2
          subst q3
          exact ⟨vs', by rw [upd_ne (fun z => np (by simp [z]))]; exact q1, q2, rfl⟩
        | lst2 xss =>
          obtain ⟨ps, q1, q2, q3, q4⟩ := k2
          subst q2
          refine ⟨ps, by rw [upd_ne (fun z => np (by simp [z]))]; exact q1, rfl, q3, fun n q' xs'' w1 w2 => ?_⟩
          obtain ⟨vs', y1, y2⟩ := q4 n q' xs'' w1 w2
          exact ⟨vs', by rw [upd_ne (fun z => np (by rw [← z]; exact List.mem_cons_of_mem _ (List.mem_of_getElem? w1)))]; exact y1, y2⟩
theorem RR.startIo {N : List Str} {n : Nat} {ds xs : List D} {us ws : List V} {p : Addr} (s : Same Hf H) (h : RepL K ca Hf ds us) (hn : N.length = n) (hl : ds.length < n) (hf : Hf p = none) (hp : H p = some (.lst ws)) (hx : RepL K ca Hf xs ws) :
    RR K ca (some (p, .none, none)) ⟨Hf, del H p⟩ Hf (startIo n ds xs) (L2.start N (us ++ [.ref p])) H := by
  have hv := h.length
  refine ⟨⟨Same.refl _, del_same, s, fun a q => .inl q⟩, ?_, (List.replicate n []).set ds.length [p], ?_, ?_, ?_⟩
  · simp [M.startIo, L2.start, hn, ← hv]
  · simp [M.startIo]; omega
  · have fl : ((List.replicate n ([] : List Addr)).set ds.length [p]).flatten = [p] := by
      have : ∀ (n k : Nat), k < n → ((List.replicate n ([] : List Addr)).set k [p]).flatten = [p] := by
        intro n
        induction n with
        | zero => intro k hk; omega
        | succ n ih =>
          intro k hk
          cases k with
          | zero => simp [List.replicate_succ]
          | succ k => simp only [List.replicate_succ, List.set_cons_succ, List.flatten_cons, List.nil_append]; exact ih k (by omega)
      exact this n ds.length hl
    rw [fl]
    exact ⟨by simp, fun a ha => by
      have : a = p := by simpa using ha
      subst this
      exact ⟨hf, del_self, by rw [hp]; simp⟩⟩
  · intro i sl o fp e1 e2 e3
    unfold M.startIo at e1
    by_cases hi : i < ds.length
    · rw [List.getElem?_append_left (by simpa using hi)] at e1
      rw [List.getElem?_map, List.getElem?_eq_getElem hi] at e1
      cases e1
      obtain ⟨v, h1, h2⟩ := RepL.get h (List.getElem?_eq_getElem hi)
      refine ⟨v, ?_, h2⟩
      unfold L2.start at e2
      rw [List.getElem?_append_left (by simp; omega), List.getElem?_map, List.getElem?_append_left (by omega), h1] at e2
      cases e2
      rfl
    · rw [List.getElem?_append_right (by simp; omega)] at e1
      simp only [List.length_map] at e1
      by_cases hi2 : i = ds.length
      · subst hi2
        rw [Nat.sub_self] at e1
        cases e1
        rw [List.getElem?_set_self (by simp; exact hl)] at e3
        cases e3
        unfold L2.start at e2
        rw [List.getElem?_append_left (by simp; omega), List.getElem?_map, List.getElem?_append_right (by omega), hv, Nat.sub_self] at e2
        cases e2
        exact ⟨p, .none, none, ws, rfl, rfl, hp, hx, rfl⟩
      · obtain ⟨k, hk⟩ : ∃ k, i - ds.length = k + 1 := ⟨i - ds.length - 1, by omega⟩
        rw [hk, List.getElem?_cons_succ] at e1
        have := List.mem_of_getElem? e1
        have : sl = .un := (List.mem_replicate.mp this).2
        subst this
        trivial
theorem repL_flat {H' : Hp} : ∀ {ys : List D} {us : List V}, ys.all flatD = true → RepL K ca H ys us → RepL K ca H' ys us
  | [], _, _, h => h
  | y :: ys, _, f, h => by
    rw [List.all_cons, Bool.and_eq_true] at f
    unfold RepL at h ⊢
    obtain ⟨v, r, e, h1, h2⟩ := h
    exact ⟨v, r, e, flat_far f.1 h1, repL_flat f.2 h2⟩
end
section
variable {P : Program} {w : World} {K : PySem.W.Frag} {ca : Nat → Addr} {mg : Str → Option Value} {base : Heap}
theorem fnio_ok {x qual : Str} {st : Stmt} {f : Addr} {fd : FuncData} {N ps : List Str} {k p n : Nat} {sb : CS} (F : Fun K x qual st f fd) (S : FnScope N ps (defScope st)) (hp : ps.length = p + 1) (hn : N.length = n) (hpn : p < n)
    (hbody : ∀ (cdv : Value) (A : Around) (outer : List PySem.Env) (s : Shared) (H : Hp) (E : XK) (q : Addr), Room k (A.deeper (envOfC qual (defScope st) s.heap.objs.size f cdv)) →
      L2N.Takes (cxOf (L2N.CX P w) P w K mg base N qual (defScope st) f cdv A outer s H E) (fun cls d _ H => E cls d H) →
      PassesOwn (model P w) (cxOf (L2N.CX P w) P w K mg base N qual (defScope st) f cdv A outer s H E).A (cxOf (L2N.CX P w) P w K mg base N qual (defScope st) f cdv A outer s H E).env (cxOf (L2N.CX P w) P w K mg base N qual (defScope st) f cdv A outer s H E).xe →
      MSs (cxOf (L2N.CX P w) P w K mg base N qual (defScope st) f cdv A outer s H E) ⟨ca, some (q, .none, none), fun cls d _ H => E cls d H⟩ (defBody st) sb) :
    FnOk P w K mg base (L2N.CX P w) (k + 1) f fd ps (spIo K ca (fnio p n sb)) := by
  obtain ⟨oc, od, kV, doc, pm, an, cdv, ct, osl, rfl, lk, hcd⟩ := F.ex
  refine fn_of lk hcd S (fun vs H Q E h => ?_) fun A outer s H vs Q E hr hsp => ?_
  · obtain ⟨Hf, ds, xs, q, ws, us, s1, rfl, r1, hf, hq, hx, m⟩ := h
    by_cases hl : ds.length = p ∧ p < n
    · rw [hp, ← hl.1, r1.length]; simp
    · simp [fnio, hl] at m
  · obtain ⟨Hf, ds, xs, q, ws, us, s1, rfl, r1, hf, hq, hx, m⟩ := hsp
    have tk : L2N.Takes (cxOf (L2N.CX P w) P w K mg base N qual (defScope st) f cdv A outer s H E) (fun cls d _ H => E cls d H) := L2N.takes_of rfl rfl rfl rfl
    have b := hbody cdv A outer s H E q hr tk (L2.passes_of rfl)
    refine ⟨_, b, ?_⟩
    by_cases hl : ds.length = p ∧ p < n
    · have e : fnio p n sb ds xs = ioOut p (sb (startIo n ds xs)) := by unfold fnio; rw [if_pos hl]
      rw [e] at m
      refine ⟨⟨Hf, del H q⟩, Hf, startIo n ds xs, RR.startIo s1 r1 hn (by omega) hf hq hx, ?_⟩
      generalize sb (startIo n ds xs) = fl at m
      cases fl with
      | next e2 =>
        intro σ Hf' H' r
        unfold ioOut at m
        simp only at m
        split at m
        · rename_i ys hm
          split at hm
          · rename_i zs hz
            cases hm
            obtain ⟨a, cls, d, vs, k1, k2, k3, k4, k5⟩ := slot_ioN r hz
            cases k1
            exact m Hf' H' vs r.post k5 k3 k4
          · cases hm
        · exact m.elim
      | ret sl => exact m.elim
      | exc x e2 => exact m.elim
      | brk e2 => exact m.elim
      | cont e2 => exact m.elim
      | stuck => exact m.elim
    · have e : fnio p n sb ds xs = .stuck := by unfold fnio; rw [if_neg hl]
      rw [e] at m
      exact m.elim
theorem fnIo_stuck {f : Addr} {fd : FuncData} {ps : List Str} {k : Nat} : FnOk P w K mg base (L2N.CX P w) k f fd ps (spIo K ca fun _ _ => .stuck) :=
  ⟨fun vs H Q E h => by obtain ⟨Hf, ds, xs, q, ws, us, s1, rfl, r1, hf, hq, hx, m⟩ := h; exact m.elim, fun A outer s H args us vs Q E hr he hb hv h => by obtain ⟨Hf, ds, xs, q, ws, us, s1, rfl, r1, hf, hq, hx, m⟩ := h; exact m.elim⟩
end
section
variable {X : Cx} {j : Jc} {e : Expr} {es : List Expr} {ce : CE} {al : CA} {pos pos' : Pos} {i : Nat} {x : Str}
theorem ms_appIo (hm : PE X e (tBM X.K "list" rAppend (tVar i) (tCons (TM X.K j ce) tNil))) (hs : swapsWith e none pos.line X.env = pure false := by rfl) : MS X j (.Expr e pos) (sAppIo i ce) := by
  refine ms_imp (ps_expr hm hs) fun D σ H G Hf env r m => ?_
  unfold sAppIo at m
  split at m
  · rename_i xs hx
    obtain ⟨p, cls, dd, vs0, h0, h1, h2, h3, _⟩ := slot_ioN r hx
    refine ⟨.ref p, h1, .inl ⟨rfl, vs0, .inl (.inl h2)⟩, ?_⟩
    refine ⟨G, Hf, env, r, (TFl.fl r m).imp fun d Hf1 H1 _ p1 m1 v rv => ?_⟩
    split at m1
    · rename_i hz
      have hp : H1 p = some (.lst vs0) := p1.all _ _ h2
      refine ⟨p, vs0, v, rfl, rfl, hp, by rw [← h3.length, ← line_eq]; exact hz, ?_⟩
      have r1 := r.grow p1
      exact m1 _ _ _ (r1.updIo hx h1 (RepL.append (RepL.mono p1.sh _ _ h3) (RepL.one rv)))
    · exact m1.elim
  · exact m.elim
/-- arguments, the last one our list -/
def TIoA (K : PySem.W.Frag) (j : Jc) (i : Nat) (c : CA) : TA := fun σ H Q => ∃ G Hf env, RR K j.ca j.ea G Hf env σ H ∧ OutP K j.ca j.W σ Hf H (c env) fun ds Hf' H' => ∀ us p, RepL K j.ca Hf' ds us → σ[i]? = some (some (.ref p)) → Q (us ++ [.ref p]) H'
def MIoA (X : Cx) (j : Jc) (i : Nat) (es : List Expr) (c : CA) : Prop := PA X es (TIoA X.K j i c) 
theorem mioa_last {i : Nat} (hp : ∀ σ H (Q : VK), (∃ G Hf env, RR X.K j.ca j.ea G Hf env σ H) → True) (h : PE X e (tVar i)) (hs : starEach (e :: []) X.env = (false, eval e X.env) :: starEach [] X.env := by rfl) : PA X [e] (fun σ H Q => ∃ p, σ[i]? = some (some (.ref p)) ∧ Q [.ref p] H) := by
  refine PA.imp (pa_cons h pa_nil hs) fun σ H Q ⟨p, h1, q⟩ => ⟨.ref p, h1, q⟩
theorem mioa_one (h : PE X e (tVar i)) (hs : starEach (e :: []) X.env = (false, eval e X.env) :: starEach [] X.env := by rfl) : PA X [e] (fun σ H Q => ∃ p, σ[i]? = some (some (.ref p)) ∧ Q [.ref p] H) :=
  PA.imp (pa_cons h pa_nil hs) fun σ H Q ⟨p, h1, q⟩ => ⟨.ref p, h1, q⟩
/-- arguments by data, then the list -/
def TIoB (K : PySem.W.Frag) (j : Jc) (i : Nat) (c : CA) : TA := fun σ H Q => ∃ p, σ[i]? = some (some (.ref p)) ∧ TMA K j c σ H fun us H' => Q (us ++ [.ref p]) H'
def MIoB (X : Cx) (j : Jc) (i : Nat) (es : List Expr) (c : CA) : Prop := PA X es (TIoB X.K j i c)
theorem mio_nil (h : PE X e (tVar i)) (hs : starEach (e :: []) X.env = (false, eval e X.env) :: starEach [] X.env := by rfl) : MIoB X j i [e] aNil := by
  refine PA.imp (mioa_one h hs) fun σ H Q ⟨p, h1, G, Hf, env, r, m⟩ => ⟨p, h1, ?_⟩
  have := OutP.ok m r.sub [] (by unfold RepL; rfl)
  simpa using this
theorem mio_cons (ha : ME X j e ce) (hr : MIoB X j i es al) (hs : starEach (e :: es) X.env = (false, eval e X.env) :: starEach es X.env := by rfl) : MIoB X j i (e :: es) (aCons ce al) := by
  refine PA.imp (pa_cons ha hr hs) fun σ H Q ⟨p, h1, G, Hf, env, rr, m⟩ => ⟨G, Hf, env, rr, m.bind.imp fun x Hf1 H1 _ p1 m1 v rv => ⟨p, h1, G, Hf1, env, rr.grow p1, m1.bind.imp fun y Hf2 H2 _ p2 m2 u ru => ?_⟩⟩
  exact OutP.ok m2 p2.sub (v :: u) (by unfold RepL; exact ⟨v, u, rfl, Rep.mono p2.sh _ _ rv, ru⟩)
theorem ms_callIo {k : Nat} {f : Addr} {fd : FuncData} {ps : List Str} {F : FnIo} {q : Pos} (Fo : FnOk X.prog X.w X.K X.mg X.base (L2N.CX X.prog X.w) k f fd ps (spIo X.K j.ca F)) (hr : Room k X.A) (hg : Gl X x) (hm : X.mg x = some (.ref f)) (hk : PySem.W.keepIn X.K (.ref f) = true) (hb : Binds X.K fd ps []) (tk : L2N.Takes X j.W)
    (ha : MIoB X j i (e :: es) al) (hdb : (x == ("__debug__" : Str)) = false := by decide) (he : starEach (e :: es) X.env = (false, eval e X.env) :: starEach es X.env := by rfl) (hpl : (backTo pos (starEach es X.env)).any (·.1) = false := by rfl)
    (hs : swapsWith (.Call (.Name x q) (e :: es) [] pos) none pos'.line X.env = pure false := by rfl) :
    MS X j (.Expr (.Call (.Name x q) (e :: es) [] pos) pos') (sCallIo F al i) := by
  refine ms_imp (ps_expr (pe_callS Fo hr hg hm hk hb (fun σ => L2N.passAt tk σ) ha hdb he hpl) hs) fun D σ H G Hf env r m => ?_
  -- what is common
  have key : ∀ (xs : List M.D) (mk : List M.D → Sl) (p : Addr) (ws : List V), σ[i]? = some (some (.ref p)) → H p = some (.lst ws) → RepL X.K j.ca Hf xs ws → Hf p = none →
      (∀ Hf1 H1, Post Hf H Hf1 H1 → Hf1 p = none) → (∀ (Hf1 H1 : Hp) (ys : List M.D) (us : List V), Post Hf H Hf1 H1 → RepL X.K j.ca Hf1 ys us → RR X.K j.ca j.ea G Hf1 (env.set i (mk ys)) σ (L2.upd H1 p (.lst us))) →
      TFl X.K j G D ((al env).fl env fun ds => (match F ds xs with | .ok ys => if ys.all flatD = true then .next (env.set i (mk ys)) else .stuck | _ => .stuck)) →
      tCallS (spIo X.K j.ca F) (WE j.W) (TIoB X.K j i al) σ H fun _ H' => D.nx σ H' := by
    intro xs mk p ws h1 h2 h3 h4 h5 h6 m
    refine ⟨p, h1, G, Hf, env, r, (TFl.fl r m).imp fun ds Hf1 H1 _ p1 m1 us ru => ⟨Hf1, ds, xs, p, ws, us, p1.sub, rfl, ru, h5 _ _ p1, p1.all _ _ h2, RepL.mono p1.sh _ _ h3, ?_⟩⟩
    cases eF : F ds xs with
    | ok ys =>
      rw [eF] at m1
      simp only at m1
      split at m1
      · rename_i fl
        intro Hf' H' ws' post nf hp rp
        have hp' : H' = H' := rfl
        have r1 := h6 Hf1 H1 ys ws' p1 (repL_flat fl rp)
        have P : Post Hf1 (L2.upd H1 p (.lst ws')) Hf' H' := ⟨post.sh, fun a o e => by
            by_cases z : a = p
            · subst z; rw [upd_same] at e; cases e; exact hp
            · rw [upd_ne z] at e; exact post.all a o (by rw [del_ne z]; exact e), post.sub, fun a z => by
            by_cases y : a = p
            · subst y; exact absurd nf z
            · rcases post.new a z with t | t
              · exact .inl t
              · rw [del_ne y] at t; exact .inr (by rw [upd_ne y]; exact t)⟩
        exact m1 σ Hf' H' (r1.grow P)
      · exact m1.elim
    | exc z => rw [eF] at m1; exact m1.elim
    | stuck => rw [eF] at m1; exact m1.elim
  unfold sCallIo at m
  split at m
  · rename_i xs hx
    obtain ⟨p, cls, dd, ws, h0, h1, h2, h3, h4⟩ := slot_ioN r hx
    refine key xs .io p ws h1 h2 h3 h4 (fun Hf1 H1 p1 => ?_) (fun Hf1 H1 ys us p1 ru => (r.grow p1).updIo hx h1 ru) m
    obtain ⟨p', _, _, _, g0, g1, _, _, g4⟩ := slot_ioN (r.grow p1) hx
    rw [h1] at g1; cases g1; exact g4
  · rename_i xs hx
    obtain ⟨p, ws, h1, h2, h3, h4⟩ := slot_ownN r hx
    refine key xs (fun ys => .own (.lst ys)) p ws h1 h2 h3 h4 (fun Hf1 H1 p1 => ?_) (fun Hf1 H1 ys us p1 ru => ((r.grow p1).upd hx h1 ru).1) m
    obtain ⟨p', _, g1, _, _, g4⟩ := slot_ownN (r.grow p1) hx
    rw [h1] at g1; cases g1; exact g4
  · exact m.elim
/-! ### a tuple of popped things -/
def TPops (K : PySem.W.Frag) (j : Jc) (i n : Nat) : TA := fun σ H Q => ∃ G Hf env xs, RR K j.ca j.ea G Hf env σ H ∧ env[i]? = some (.own (.lst xs)) ∧ n ≤ xs.length ∧
  ∀ Hf' H' vs, Same Hf Hf' → RR K j.ca j.ea G Hf' (env.set i (.own (.lst (xs.take (xs.length - n))))) σ H' → RepL K j.ca Hf' (xs.reverse.take n) vs → Q vs H'
def MPops (X : Cx) (j : Jc) (i n : Nat) (es : List Expr) : Prop := PA X es (TPops X.K j i n)
theorem set_same {α : Type} : ∀ {l : List α} {i : Nat} {x : α}, l[i]? = some x → l.set i x = l
  | [], i, x, h => by simp at h
  | y :: l, 0, x, h => by simp at h; subst h; rfl
  | y :: l, i + 1, x, h => by rw [List.set_cons_succ, set_same (by simpa using h)]
theorem mpops_nil : MPops X j i 0 [] := by
  refine PA.imp pa_nil fun σ H Q ⟨G, Hf, env, xs, r, hx, hn, q⟩ => ?_
  refine q Hf H [] (Same.refl _) ?_ (by rw [List.take_zero]; unfold RepL; rfl)
  rw [Nat.sub_zero, List.take_length, set_same hx]
  exact r
theorem mpops_cons {n : Nat} (ha : MPop X j e i pLast) (hr : MPops X j i n es) (hs : starEach (e :: es) X.env = (false, eval e X.env) :: starEach es X.env := by rfl) : MPops X j i (n + 1) (e :: es) := by
  refine PA.imp (pa_cons ha hr hs) fun σ H Q ⟨G, Hf, env, xs, r, hx, hn, q⟩ => ?_
  obtain ⟨d, hd⟩ : ∃ d, xs.getLast? = some d := by
    cases xs with
    | nil => simp at hn
    | cons y ys => exact ⟨_, List.getLast?_eq_some_getLast (by simp)⟩
  refine ⟨G, Hf, env, xs, r, hx, ?_⟩
  have ep : pLast env xs = .ok (d, xs.dropLast) := by unfold pLast; rw [hd]
  rw [ep]
  intro Hf1 H1 p1 v p us h1 rv ru
  have r1 := ((r.grow p1).upd hx h1 ru).1
  have hi : i < env.length := (List.getElem?_eq_some_iff.mp hx).1
  have dl : xs.dropLast.length = xs.length - 1 := List.length_dropLast
  have xe : xs = xs.dropLast ++ [d] := by
    have hne : xs ≠ [] := fun z => by rw [z] at hd; simp at hd
    rw [List.getLast?_eq_some_getLast hne] at hd
    cases hd
    exact (List.dropLast_concat_getLast hne).symm
  refine ⟨G, Hf1, _, xs.dropLast, r1, by rw [List.getElem?_set_self hi], by rw [dl]; omega, fun Hf' H' vs s1 r2 rvs => ?_⟩
  have tk : xs.dropLast.take (xs.dropLast.length - n) = xs.take (xs.length - (n + 1)) := by
    rw [dl, List.dropLast_eq_take, List.take_take]
    congr 1; omega
  rw [tk, List.set_set] at r2
  refine q Hf' H' (v :: vs) (p1.sh.trans s1) r2 ?_
  have rt : xs.reverse.take (n + 1) = d :: xs.dropLast.reverse.take n := by
    conv => lhs; rw [xe]
    rw [List.reverse_append]; rfl
  rw [rt]
  unfold RepL
  exact ⟨v, vs, rfl, Rep.mono s1 _ _ rv, rvs⟩
theorem ms_setTupPop {y n : Nat} {x1} {pos3 : Pos} (hN : X.N.Nodup) (hi : X.N[y]? = some x) (hx : Loc X.env.scope x) (he : ME X j e ce) (hes : MPops X j i n es)
    (hse : starEach (e :: es) X.env = (false, eval e X.env) :: starEach es X.env := by rfl) (hs : swapsWith (.Tuple (e :: es) x1 pos') (some (.Name x pos3)) pos.line X.env = pure false := by rfl)
    (hf : X.fn x = true ∨ X.env.scope.names.lookup x = some .local := by first | exact .inl rfl | exact .inr rfl | assumption) : MS X j (.Assign [.Name x pos3] (.Tuple (e :: es) x1 pos') pos) (sSetTupPop y i n ce) := by
  refine ms_imp (ps_set hN hi hx (pe_tup (pa_cons he hes hse)) hs hf) fun D σ H G Hf env r m => ?_
  unfold sSetTupPop at m
  refine ⟨G, Hf, env, r, (TFl.fl r m).imp fun d Hf1 H1 _ p1 m1 v rv => ?_⟩
  split at m1
  · rename_i xs hxs
    split at m1
    · rename_i hn
      refine ⟨G, Hf1, env, xs, r.grow p1, hxs, hn.1, fun Hf' H' vs s1 r2 rvs => ?_⟩
      have hlen : vs.length = n := by rw [← rvs.length, List.length_take, List.length_reverse]; omega
      refine ⟨by have := line_eq; have hL : line = 16777216 := rfl; rw [List.length_cons, hlen, ← line_eq]; omega, fun p hp => ?_⟩
      have pn := post_new (o := .tup (v :: vs)) r2.sub hp
      refine m1 _ _ _ ((r2.grow pn).val y ?_)
      unfold Rep
      refine ⟨p, v :: vs, rfl, ⟨.inl (.inl upd_same), fun _ => upd_same⟩, ?_⟩
      unfold RepL
      exact ⟨v, vs, rfl, Rep.mono (s1.trans pn.sh) _ _ rv, RepL.mono pn.sh _ _ rvs⟩
    · exact m1.elim
  · exact m1.elim
end
end M
/-! MSet0: sorted(set(xs)), xs a list of whole numbers. -/
namespace M
open PySem PySem.Spec PyProof.Rows L2
/-! ### the mirror -/
def uniqI : List Int → List Int
  | [] => []
  | [x] => [x]
  | x :: y :: r => if x = y then uniqI (y :: r) else x :: uniqI (y :: r)
def sortU (ns : List Int) : List Int := uniqI (sortI ns)
def dSortSet : List D → Out (List D)
  | [.lst xs] => match intL xs with | some ns => if ns.length < 60 then .ok ((sortU ns).map .int) else .stuck | none => .stuck
  | _ => .stuck
theorem uniqI_mem : ∀ (l : List Int) (x : Int), x ∈ uniqI l ↔ x ∈ l
  | [], x => Iff.rfl
  | [_], x => Iff.rfl
  | a :: b :: r, x => by
    unfold uniqI
    by_cases h : a = b
    · rw [if_pos h, uniqI_mem (b :: r) x]
      subst h
      simp
    · rw [if_neg h, List.mem_cons, uniqI_mem (b :: r) x]
      simp
theorem uniqI_head : ∀ (b : Int) (r : List Int), ∃ r', uniqI (b :: r) = b :: r'
  | b, [] => ⟨[], rfl⟩
  | b, c :: r => by
    unfold uniqI
    by_cases h : b = c
    · rw [if_pos h]; subst h; exact uniqI_head b r
    · rw [if_neg h]; exact ⟨_, rfl⟩
theorem uniqI_lt : ∀ (l : List Int), l.Pairwise (· ≤ ·) → (uniqI l).Pairwise (· < ·)
  | [], _ => List.Pairwise.nil
  | [a], _ => by unfold uniqI; simp
  | a :: b :: r, h => by
    have h1 := List.pairwise_cons.mp h
    have ih := uniqI_lt (b :: r) h1.2
    unfold uniqI
    by_cases e : a = b
    · rw [if_pos e]; exact ih
    · rw [if_neg e]
      refine List.pairwise_cons.mpr ⟨fun y hy => ?_, ih⟩
      have hy := (uniqI_mem (b :: r) y).mp hy
      have ab := h1.1 b List.mem_cons_self
      rcases List.mem_cons.mp hy with z | z
      · subst z; omega
      · have := (List.pairwise_cons.mp h1.2).1 y z
        omega
theorem lt_unique : ∀ {l m : List Int}, l.Pairwise (· < ·) → m.Pairwise (· < ·) → (∀ x, x ∈ l ↔ x ∈ m) → l = m
  | [], [], _, _, _ => rfl
  | [], b :: m, _, _, h => absurd ((h b).mpr List.mem_cons_self) (by simp)
  | a :: l, [], _, _, h => absurd ((h a).mp List.mem_cons_self) (by simp)
  | a :: l, b :: m, h1, h2, h => by
    have p1 := List.pairwise_cons.mp h1
    have p2 := List.pairwise_cons.mp h2
    have ab : a = b := by
      rcases List.mem_cons.mp ((h a).mp List.mem_cons_self) with z | z
      · exact z
      · rcases List.mem_cons.mp ((h b).mpr List.mem_cons_self) with y | y
        · exact y.symm
        · have := p2.1 a z; have := p1.1 b y; omega
    subst ab
    rw [lt_unique p1.2 p2.2 fun x => ⟨fun hx => ?_, fun hx => ?_⟩]
    · rcases List.mem_cons.mp ((h x).mp (List.mem_cons_of_mem _ hx)) with z | z
      · subst z; exact absurd (p1.1 x hx) (Int.lt_irrefl _)
      · exact z
    · rcases List.mem_cons.mp ((h x).mpr (List.mem_cons_of_mem _ hx)) with z | z
      · subst z; exact absurd (p2.1 x hx) (Int.lt_irrefl _)
      · exact z
theorem sortU_mem {ns : List Int} {x : Int} : x ∈ sortU ns ↔ x ∈ ns := by
  unfold sortU
  rw [uniqI_mem]
  exact (List.mergeSort_perm ns _).mem_iff
theorem sortU_lt (ns : List Int) : (sortU ns).Pairwise (· < ·) := by
  refine uniqI_lt _ ?_
  have := List.pairwise_mergeSort (le := fun a b : Int => decide (a ≤ b)) (fun a b c h1 h2 => by simp at *; omega) (fun a b => by simp; omega) ns
  exact this.imp fun h => by simpa using h
end M
namespace L2.RT
open PySem PySem.Spec PyProof.Rows L2
section
variable {P : Program} {w : World} {A : Around} {E : Value → Shared → Prop} {s : Shared}
/-- set(xs) of a list of ints -/
theorem call_set_lst {l : Addr} {items : Array Value} (ns : List Int) {Q : Value → Shared → Prop} (hh : A.handled = none) (hl : s.heap.IsList l items) (hit : IntsAre items.toList ns) (hb : ns.length + 1 < scanBound)
    (h : ∀ (h' : Heap) (tk c : Nat), SetR w h' s.heap.objs.size (fun j => decide (j ∈ ns)) c → c ≤ ns.length → (∀ b o, s.heap.get? b = some o → h'.get? b = some o) → Q (.ref s.heap.objs.size) { s with heap := h', toks := tk }) :
    wpAny (model P w) A (call (.type "set") [.ref l]) Q E s := by
  have hisz : items.size = ns.length := by
    have q := IntsAre.length hit
    rw [Array.length_toList] at q
    exact q
  obtain ⟨c, tl, hmro⟩ := F.called_set.mro
  have hmade := F.called_set.made
  have hsub := F.called_set.sub
  refine wpAny_call (codeAny_of_tree ?_)
  show wpAny _ _ (callAny (.type "set") _) _ _ _
  refine wpAny_pure ⟨Code.quiet_builtin _ (by decide +kernel), codeAny_builtin F.entry_type_call ?_⟩
  rw [Around.under_plain (weight_type_call_type "set" [.ref l] []) rfl]
  have h1 := F.called_set.notType
  have h2 := F.called_set.canCreate
  have hct := F.typeCall_set_1 (.ref l)
  repeat (any_goals (first | assumption | wp_step))
  refine codeAny_mono (code_set_led1 (.ref l) (E := E) (Q₁ := fun obj s₁ => obj = .ref s.heap.objs.size ∧ s₁ = { s with heap := s.heap.push { cls := .type "set", dict := none, data := .set #[] 0 (.fresh 0 0 (!w.params.followText "set-order")) } }) ⟨rfl, rfl⟩) fun r s₁ hr => ?_
  cases r with
  | error e => exact hr
  | ok fl =>
    cases fl with
    | ret obj =>
      obtain ⟨rfl, rfl⟩ := hr
      generalize hled : (!w.params.followText "set-order") = led at *
      have hS : (s.heap.push { cls := .type "set", dict := none, data := .set #[] 0 (.fresh 0 0 led) }).get? s.heap.objs.size = some { cls := .type "set", dict := none, data := .set #[] 0 (.fresh 0 0 led) } := Heap.get?_push_size _ rfl
      have hT : Shared.TypeIs { s with heap := s.heap.push { cls := .type "set", dict := none, data := .set #[] 0 (.fresh 0 0 led) } } (.ref s.heap.objs.size) "set" := ⟨_, hS, rfl⟩
      have hli := F.called_set.init.lookup
      have hbi := F.called_set.init.bind (.ref s.heap.objs.size)
      repeat (any_goals (first | assumption | wp_step))
      refine codeAny_mono (codeAny_call_builtin (R := wants (fun r s₂ => r = .none ∧ ∃ h' tk c, s₂ = { s with heap := h', toks := tk } ∧ SetR w h' s.heap.objs.size (fun j => decide (j ∈ ns)) c ∧ c ≤ ns.length ∧
          (∀ b o, s.heap.get? b = some o → h'.get? b = some o)) E) F.called_set.init.plain F.entry_set_init (check_set_init_1 hT ?_)) fun r₂ s₂ hr₂ => ?_
      · obtain ⟨ol, hol, hcl, nl, hdl⟩ := hl
        obtain ⟨ocls, odict, odata, oslots⟩ := ol
        simp only at hcl hdl
        subst hcl; subst hdl
        have hol' : (s.heap.push { cls := .type "set", dict := none, data := .set #[] 0 (.fresh 0 0 led) }).get? l = some { cls := .type "list", dict := odict, data := .seq items nl, slots := oslots } := Heap.get?_push_of_some _ hol
        have hsls := F.sub_list_set
        have hslf := F.sub_list_frozenset
        have hne : (Value.type "list" == Value.type "dict") = false := by decide
        have hl1 : (s.heap.push { cls := .type "set", dict := none, data := .set #[] 0 (.fresh 0 0 led) }).IsList l items := ⟨_, hol', rfl, nl, rfl⟩
        unfold Builtin.«set.__init__» noKeywords Builtin.Frozenset.updateFrom
        generalize hPI : pyIter = PI
        wp_walk
        subst hPI
        refine wpAny_pyIter_list hl1 ?_
        refine wpAny_bind (wpAny_runValue ?_)
        have hlS : l < s.heap.objs.size := Heap.lt_size hol
        have hh3 : A.in1.in1.in1.handled = none := by simp [hh]
        have hneI : l ≠ (s.heap.push { cls := .type "set", dict := none, data := .set #[] 0 (.fresh 0 0 led) }).objs.size := by
          rw [Heap.size_push]; exact Nat.ne_of_lt (Nat.lt_succ_of_lt hlS)
        have hSf : s.heap.objs.size ∉ [(s.heap.push { cls := .type "set", dict := none, data := .set #[] 0 (.fresh 0 0 led) }).objs.size, l] := by
          rw [Heap.size_push]; simp only [List.mem_cons, List.mem_singleton, List.not_mem_nil, or_false, not_or]
          exact ⟨Nat.ne_of_lt (Nat.lt_succ_self _), Nat.ne_of_gt hlS⟩
        have hval : ∀ (i : Nat) (v : Value), items[i]? = some v → ∃ k t, ns[i]? = some k ∧ v = .int k t := fun i v hv => by
          have hi : i < ns.length := by rw [← hisz]; exact (Array.getElem?_eq_some_iff.mp hv).1
          obtain ⟨t, e⟩ := PyProof.Rows.IntsAre.int_at hit i v (by rw [Array.getElem?_toList]; exact hv)
          refine ⟨ns[i], t, List.getElem?_eq_getElem hi, ?_⟩
          rw [e, List.getD_eq_getElem?_getD, List.getElem?_eq_getElem hi] <;> rfl
        refine set_update_ints ((Walks.list hh3 _ l hneI items).toS) s.heap.objs.size
          hSf ns hisz hb hval (items.size - 0) 0 _ (by omega) (Nat.zero_le _)
          ⟨⟨_, Heap.get?_push_size _ rfl, rfl, rfl⟩, (hl1.push _)⟩ ?hS0 ?hR
        case hS0 =>
          have hget : ((s.heap.push { cls := .type "set", dict := none, data := .set #[] 0 (.fresh 0 0 led) }).push { cls := .type "list_iterator", data := .fields #[.ref l, .int 0 0] }).get? s.heap.objs.size
              = some { cls := .type "set", dict := none, data := .set #[] 0 (.fresh 0 0 led) } := Heap.get?_push_of_some _ hS
          subst hled
          exact ⟨0, Nat.le_refl 0, setR_new_at hget⟩
        case hR =>
          intro s' c' hm hc' hS'
          obtain ⟨h', g2, d', tk', os'⟩ := s'
          have eg : g2 = s.gens := hm.gens
          have ed : d' = s.drawn := hm.drawn
          have eo : os' = s.os := hm.os
          subst eg; subst ed; subst eo
          show wpAny _ _ _ _ _ _
          refine wpAny_pure ?_
          show wpAny _ _ (ret Value.none) _ _ _
          rw [hisz] at hc'
          refine wpAny_pure ⟨rfl, h', tk', c', rfl, hS', hc', fun b o e => ?_⟩
          have hb0 : b < s.heap.objs.size := Heap.lt_size e
          have hb1 : b ≠ s.heap.objs.size := Nat.ne_of_lt hb0
          have hb2 : b ≠ (s.heap.push { cls := .type "set", dict := none, data := .set #[] 0 (.fresh 0 0 led) }).objs.size := by
            rw [Heap.size_push]; exact Nat.ne_of_lt (Nat.lt_succ_of_lt hb0)
          exact hm.heap b o (by simp only [List.mem_cons, List.mem_singleton, List.not_mem_nil, or_false, not_or]; exact ⟨hb1, hb2⟩) (Heap.get?_push_of_some _ (Heap.get?_push_of_some _ e))
      · cases r₂ with
        | error e => exact hr₂
        | ok fl₂ =>
          cases fl₂ with
          | ret r =>
            obtain ⟨rfl, h', tk, c', rfl, hS', hc', hk'⟩ := hr₂
            repeat (any_goals (first | assumption | wp_step))
            exact h _ _ _ hS' hc' hk'
          | _ => exact hr₂.elim
    | _ => exact hr.elim
end
section
variable {X : Cx}
def rSetI (K : PySem.W.Frag) (w : World) : List V → Hp → VK → Prop := fun xs H Q => ∃ (l : Addr) (ns : List Int), xs = [.ref l] ∧ SqL K H l (ns.map V.int) ∧ ns.length < 60 ∧ ∀ p c, H p = none → c ≤ ns.length → Q (.ref p) (upd H p (SetO w p (fun j => decide (j ∈ ns)) c))
theorem cr_setI (hc : X.calm = true) : CallR X (.type "set") (rSetI X.K X.w) := by
  intro pins s σ H xs us Q I r h
  obtain ⟨l, ns, rfl, hl, hn, q⟩ := h
  rw [Vals.ref1 r]
  obtain ⟨its, rv, pl, hz⟩ := I.list hl
  refine call_set_lst ns (I.ok.hd hc) pl.isList (by simpa using ints_of_vals rv) (by unfold scanBound; omega) fun h' tk c new hcl hk => ?_
  exact ⟨.ref _, upd H s.heap.objs.size (SetO X.w s.heap.objs.size (fun j => decide (j ∈ ns)) c), I.laid (t' := tk) hk (Nat.le_refl _) (setO_new new), rfl, q _ c (I.hok.fresh (Nat.le_refl _)) hcl⟩
end
end L2.RT
/-! MSet: sorted(set(xs)); a list that is given to a call and comes back. -/
namespace M
open PySem PySem.Spec PyProof.Rows L2
section
variable {X : Cx} {j : Jc} {e : Expr} {ce : CE} {p p2 pos pos2 : Pos}
theorem mf_sortSet (hc : X.calm = true) (hg : Gl X "sorted") (hm : X.mg "sorted" = none) (hg2 : Gl X "set") (hm2 : X.mg "set" = none) (he : MP X j e ce)
    (hs : starEach [e] X.env = (false, eval e X.env) :: starEach [] X.env := by rfl)
    (hs2 : starEach [.Call (.Name "set" p2) [e] [] pos2] X.env = (false, eval (.Call (.Name "set" p2) [e] [] pos2) X.env) :: starEach [] X.env := by rfl)
    (hpl : (backTo pos2 (starEach [] X.env)).any (·.1) = false := by rfl) (hpl2 : (backTo pos (starEach [] X.env)).any (·.1) = false := by rfl) :
    MF X j (.Call (.Name "sorted" p) [.Call (.Name "set" p2) [e] [] pos2] [] pos) (fB dSortSet (aCons ce aNil)) := by
  have h1 := pe_callTy (RT.cr_setI hc) hg2 hm2 (by rfl : bootBuiltins "set" = some (.type "set")) (pa_cons he pa_nil hs) (by decide) (by decide) hs hpl (p := p2) (pos := pos2)
  have h2 := pe_callB (cr_sortedSet hc) hg hm (by rfl : bootBuiltins "sorted" = some (.builtin "sorted")) (pa_cons h1 pa_nil hs2) (by decide) (by decide) hs2 hpl2 (p := p) (pos := pos)
  refine PE.imp h2 fun σ H Q ⟨G, Hf, env, rr, m⟩ => ⟨G, Hf, env, rr, ?_⟩
  have efb : fB dSortSet (aCons ce aNil) env = ((ce env).bind fun x => (dSortSet [x]).bind fun ys => Out.ok (Own.lst ys)) := by
    show (((ce env).bind fun x => Out.ok [x]).bind fun xs => (dSortSet xs).bind fun ys => Out.ok (Own.lst ys)) = _
    cases ce env <;> rfl
  rw [efb] at m
  refine m.bind.imp fun x Hf1 H1 _ p1 m1 v rv => ?_
  unfold dSortSet at m1
  split at m1
  · rename_i xs hx
    injection hx with hx
    subst hx
    split at m1
    · rename_i ns hn
      split at m1
      · rename_i hz
        obtain ⟨a, us, rfl, a1, a2⟩ := rv
        rw [intL_map hn] at a2
        have := repL_is a2
        subst this
        refine ⟨a, ns, rfl, a1, hz, fun q c hq hc' => ⟨q, _, c, rfl, upd_same, by omega, fun ns' p' q1 q2 q3 hp => ?_⟩⟩
        have e : ns' = sortU ns := lt_unique q1 (sortU_lt ns) fun k => by rw [q2, sortU_mem]; simp
        subst e
        have P1 := post_own p1.sub hq (o := SetO X.w q (fun j => decide (j ∈ ns)) c)
        have P2 := post_own P1.sub hp (o := .lst ((sortU ns).map V.int))
        exact m1 Hf1 _ (P1.trans P2) _ (own_step (p1.trans P1) hp (repL_of_ints _))
      · exact m1.no.elim
    · exact m1.no.elim
  · rename_i h
    exact m1.no.elim
end
end M
namespace M
open PySem PySem.Spec PyProof.Rows L2
/-! ### a list that is given to a call -/
abbrev FnG := List D → List D → Out Sl
def startG (n : Nat) (xs ds : List D) : Env := .own (.lst xs) :: (ds.map .val ++ List.replicate (n - (ds.length + 1)) .un)
/-- a def whose first parameter is a list of the caller's that the caller has no use for any more -/
def fng (p n : Nat) (body : CS) : FnG := fun xs ds => if ds.length = p ∧ p < n then (body (startG n xs ds)).out else .stuck
/-- x = f(y, ..), y given -/
def sSetCallG (x : Nat) (F : FnG) (i : Nat) (al : CA) : CS := fun env => match env[i]? with
  | some (.own (.lst xs)) => (al env).fl env fun ds => (match F xs ds with
    | .ok (.val d) => .next ((env.set i .un).set x (.val d))
    | .ok (.own o) => .next ((env.set i .un).set x (.own o))
    | _ => .stuck)
  | _ => .stuck
section
variable (K : PySem.W.Frag) (ca : Nat → Addr)
def spG (F : FnG) : Sp := fun vs H Q E => ∃ Hf ds xs q ws us, Same Hf H ∧ vs = .ref q :: us ∧ RepL K ca Hf ds us ∧ Hf q = none ∧ H q = some (.lst ws) ∧ RepL K ca Hf xs ws ∧ match F xs ds with
  | .ok (.val d) => ∀ v Hf' H', Post Hf (del H q) Hf' H' → Rep K ca Hf' d v → Q v H'
  | .ok (.own o) => ∀ v Hf' H', Post Hf (del H q) Hf' H' → OwnV K ca (del H q) Hf' H' o v → Q v H'
  | _ => False
end
section
variable {K : PySem.W.Frag} {ca : Nat → Addr} {Hf H : Hp}
theorem RR.del {ea : Option (Addr × Value × Option Addr)} {G : Gh} {env : M.Env} {σ : L2.St} (r : RR K ca ea G Hf env σ H) {i : Nat} {xs : List D} {p : Addr} (he : env[i]? = some (.own (.lst xs))) (hs : σ[i]? = some (some (.ref p))) :
    RR K ca ea G Hf (env.set i .un) σ (del H p) := by
  obtain ⟨fps, l, m, k⟩ := r.slots
  have h1 : i < env.length := (List.getElem?_eq_some_iff.mp he).1
  have h3 : i < fps.length := by rw [l]; exact h1
  obtain ⟨p', e0, vs, hp, rv, ef⟩ := k i _ _ _ he hs (List.getElem?_eq_getElem h3)
  cases e0
  have hpm : p ∈ fps.flatten := List.mem_flatten.mpr ⟨fps[i], List.getElem_mem h3, by rw [ef]; simp⟩
  obtain ⟨m1, m2, m3⟩ := m.2 p hpm
  have md := m.sub (flatten_set_sublist fps i)
  refine ⟨⟨r.post.sh, fun b x e => ?_, fun b x e => ?_, r.post.new⟩, by simp [r.len], fps.set i [], by simp [l], ⟨md.1, fun a ha => ?_⟩, fun j s' o' fp' e1 e2 e3 => ?_⟩
  · rw [del_ne (ne_of_none e m2)]; exact r.post.all _ _ e
  · rw [del_ne (ne_of_none e m1)]; exact r.post.sub _ _ e
  · obtain ⟨z1, z2, z3⟩ := md.2 a ha
    refine ⟨z1, z2, ?_⟩
    have na : a ≠ p := fun z => by
      subst z
      rw [List.mem_flatten] at ha
      obtain ⟨c, c1, c2⟩ := ha
      obtain ⟨n, hn, en⟩ := List.mem_iff_getElem.mp c1
      by_cases hni : i = n
      · subst hni
        rw [List.getElem_set_self] at en
        subst en; simp at c2
      · rw [List.getElem_set_ne hni] at en
        have hn' : n < fps.length := by simpa using hn
        exact nodup_flat_ne m.1 (List.getElem?_eq_getElem h3) (List.getElem?_eq_getElem hn') hni (x := a) (by rw [ef]; simp) (by rw [en]; exact c2)
    rw [del_ne na]; exact z3
  · by_cases hj : i = j
    · subst hj
      rw [List.getElem?_set_self h1] at e1
      cases e1
      trivial
    · rw [List.getElem?_set_ne hj] at e1 e3
      have z := k j s' o' fp' e1 e2 e3
      have np : p ∉ fp' := nodup_flat_ne m.1 (List.getElem?_eq_getElem h3) e3 hj (by rw [ef]; simp)
      cases s' with
      | un => trivial
      | val d => exact z
      | exc x => exact z
      | io xs =>
        obtain ⟨a, cls, d, vs, k1, k2, k3, k4, k5⟩ := z
        exact ⟨a, cls, d, vs, k1, k2, by rw [del_ne (fun z => np (by rw [k5, z]; simp))]; exact k3, k4, k5⟩
      | own w =>
        obtain ⟨q, k1, k2⟩ := z
        refine ⟨q, k1, ?_⟩
        cases w with
        | dct ks' vs' =>
          obtain ⟨us', ⟨kvs, q0, q1⟩, q2, q3⟩ := k2
          subst q3
          exact ⟨us', ⟨kvs, by rw [del_ne (fun z => np (by simp [z]))]; exact q0, q1⟩, q2, rfl⟩
        | dctT ks' vs' =>
          obtain ⟨us', ⟨kvs, q0, q1⟩, q2, q3⟩ := k2
          subst q3
          exact ⟨us', ⟨kvs, by rw [del_ne (fun z => np (by simp [z]))]; exact q0, q1⟩, q2, rfl⟩
        | lst xs' =>
          obtain ⟨vs', q1, q2, q3⟩ := k2
          subst q3
          exact ⟨vs', by rw [del_ne (fun z => np (by simp [z]))]; exact q1, q2, rfl⟩
        | lst2 xss =>
          obtain ⟨ps, q1, q2, q3, q4⟩ := k2
          subst q2
          refine ⟨ps, by rw [del_ne (fun z => np (by simp [z]))]; exact q1, rfl, q3, fun n q' xs'' w1 w2 => ?_⟩
          obtain ⟨vs', y1, y2⟩ := q4 n q' xs'' w1 w2
          exact ⟨vs', by rw [del_ne (fun z => np (by rw [← z]; exact List.mem_cons_of_mem _ (List.mem_of_getElem? w1)))]; exact y1, y2⟩
theorem RR.startG {N : List Str} {n : Nat} {ds xs : List D} {us ws : List V} {p : Addr} (s : Same Hf H) (h : RepL K ca Hf ds us) (hn : N.length = n) (hl : ds.length < n) (hf : Hf p = none) (hp : H p = some (.lst ws)) (hx : RepL K ca Hf xs ws) :
    RR K ca none ⟨Hf, M.del H p⟩ Hf (startG n xs ds) (L2.start N (.ref p :: us)) H := by
  have hv := h.length
  refine ⟨⟨Same.refl _, del_same, s, fun a q => .inl q⟩, ?_, [p] :: List.replicate (n - 1) [], ?_, ?_, ?_⟩
  · simp [M.startG, L2.start, hn, ← hv]
  · simp [M.startG]; omega
  · have fl : ([p] :: List.replicate (n - 1) ([] : List Addr)).flatten = [p] := by simp
    rw [fl]
    exact ⟨by simp, fun a ha => by
      have : a = p := by simpa using ha
      subst this
      exact ⟨hf, del_self, by rw [hp]; simp⟩⟩
  · intro i sl o fp e1 e2 e3
    cases i with
    | zero =>
      cases e1
      cases e3
      unfold L2.start at e2
      cases e2
      exact ⟨p, rfl, ws, hp, hx, rfl⟩
    | succ i =>
      unfold M.startG at e1
      rw [List.getElem?_cons_succ] at e1
      by_cases hi : i < ds.length
      · rw [List.getElem?_append_left (by simpa using hi)] at e1
        rw [List.getElem?_map, List.getElem?_eq_getElem hi] at e1
        cases e1
        obtain ⟨v, h1, h2⟩ := RepL.get h (List.getElem?_eq_getElem hi)
        refine ⟨v, ?_, h2⟩
        unfold L2.start at e2
        rw [List.map_cons, List.cons_append, List.getElem?_cons_succ, List.getElem?_append_left (by simp; omega), List.getElem?_map, h1] at e2
        cases e2
        rfl
      · rw [List.getElem?_append_right (by simp; omega)] at e1
        have := List.mem_of_getElem? e1
        have : sl = .un := (List.mem_replicate.mp this).2
        subst this
        trivial
end
section
variable {P : Program} {w : World} {K : PySem.W.Frag} {ca : Nat → Addr} {mg : Str → Option Value} {base : Heap}
theorem fng_ok {x qual : Str} {st : Stmt} {f : Addr} {fd : FuncData} {N ps : List Str} {k p n : Nat} {sb : CS} (F : Fun K x qual st f fd) (S : FnScope N ps (defScope st)) (hp : ps.length = p + 1) (hn : N.length = n) (hpn : p < n)
    (hbody : ∀ (cdv : Value) (A : Around) (outer : List PySem.Env) (s : Shared) (H : Hp) (E : XK), Room k (A.deeper (envOfC qual (defScope st) s.heap.objs.size f cdv)) →
      L2N.Takes (cxOf (L2N.CX P w) P w K mg base N qual (defScope st) f cdv A outer s H E) (fun cls d _ H => E cls d H) →
      PassesOwn (model P w) (cxOf (L2N.CX P w) P w K mg base N qual (defScope st) f cdv A outer s H E).A (cxOf (L2N.CX P w) P w K mg base N qual (defScope st) f cdv A outer s H E).env (cxOf (L2N.CX P w) P w K mg base N qual (defScope st) f cdv A outer s H E).xe →
      MSs (cxOf (L2N.CX P w) P w K mg base N qual (defScope st) f cdv A outer s H E) ⟨ca, none, fun cls d _ H => E cls d H⟩ (defBody st) sb) :
    FnOk P w K mg base (L2N.CX P w) (k + 1) f fd ps (spG K ca (fng p n sb)) := by
  obtain ⟨oc, od, kV, doc, pm, an, cdv, ct, osl, rfl, lk, hcd⟩ := F.ex
  refine fn_of lk hcd S (fun vs H Q E h => ?_) fun A outer s H vs Q E hr hsp => ?_
  · obtain ⟨Hf, ds, xs, q, ws, us, s1, rfl, r1, hf, hq, hx, m⟩ := h
    by_cases hl : ds.length = p ∧ p < n
    · rw [hp, ← hl.1, r1.length]; simp
    · simp [fng, hl] at m
  · obtain ⟨Hf, ds, xs, q, ws, us, s1, rfl, r1, hf, hq, hx, m⟩ := hsp
    have tk : L2N.Takes (cxOf (L2N.CX P w) P w K mg base N qual (defScope st) f cdv A outer s H E) (fun cls d _ H => E cls d H) := L2N.takes_of rfl rfl rfl rfl
    have b := hbody cdv A outer s H E hr tk (L2.passes_of rfl)
    refine ⟨_, b, ?_⟩
    by_cases hl : ds.length = p ∧ p < n
    · have e : fng p n sb xs ds = (sb (startG n xs ds)).out := by unfold fng; rw [if_pos hl]
      rw [e] at m
      refine ⟨⟨Hf, M.del H q⟩, Hf, startG n xs ds, RR.startG s1 r1 hn (by omega) hf hq hx, ?_⟩
      generalize sb (startG n xs ds) = fl at m
      cases fl with
      | next e2 => exact fun σ Hf' H' r => m .non Hf' H' r.post rfl
      | ret sl =>
        cases sl with
        | val d => exact fun v Hf' H' p rv => m v Hf' H' p rv
        | own o => exact fun v Hf' H' p rv => m v Hf' H' p rv
        | un => exact m.elim
        | exc x => exact m.elim
        | io x => exact m.elim
      | exc x e2 => exact m.elim
      | brk e2 => exact m.elim
      | cont e2 => exact m.elim
      | stuck => exact m.elim
    · have e : fng p n sb xs ds = .stuck := by unfold fng; rw [if_neg hl]
      rw [e] at m
      exact m.elim
end
section
variable {X : Cx} {j : Jc} {e : Expr} {es : List Expr} {ce : CE} {al : CA} {pos pos' pos3 : Pos} {i y : Nat} {x nm : Str}
theorem ms_setCallG {k : Nat} {f : Addr} {fd : FuncData} {ps : List Str} {F : FnG} {q : Pos} (Fo : FnOk X.prog X.w X.K X.mg X.base (L2N.CX X.prog X.w) k f fd ps (spG X.K j.ca F)) (hr : Room k X.A) (hg : Gl X x) (hm : X.mg x = some (.ref f)) (hk : PySem.W.keepIn X.K (.ref f) = true) (hb : Binds X.K fd ps []) (tk : L2N.Takes X j.W)
    (hN : X.N.Nodup) (hi : X.N[y]? = some nm) (hx : Loc X.env.scope nm) (he1 : PE X e (tVar i)) (ha : MA X j es al) (hdb : (x == ("__debug__" : Str)) = false := by decide) (he : starEach (e :: es) X.env = (false, eval e X.env) :: starEach es X.env := by rfl) (hpl : (backTo pos (starEach es X.env)).any (·.1) = false := by rfl)
    (hs : swapsWith (.Call (.Name x q) (e :: es) [] pos) (some (.Name nm pos')) pos3.line X.env = pure false := by rfl)
    (hf : X.fn nm = true ∨ X.env.scope.names.lookup nm = some .local := by first | exact .inl rfl | exact .inr rfl | assumption) :
    MS X j (.Assign [.Name nm pos'] (.Call (.Name x q) (e :: es) [] pos) pos3) (sSetCallG y F i al) := by
  refine ms_imp (ps_set hN hi hx (pe_callS Fo hr hg hm hk hb (fun σ => L2N.passAt tk σ) (pa_cons he1 ha he) hdb he hpl) hs hf) fun D σ H G Hf env r m => ?_
  unfold sSetCallG at m
  split at m
  · rename_i xs hxs
    obtain ⟨p, ws, h1, h2, h3, h4⟩ := slot_ownN r hxs
    refine ⟨.ref p, h1, G, Hf, env, r, (TFl.fl r m).imp fun ds Hf1 H1 _ p1 m1 us ru => ?_⟩
    have r1 := r.grow p1
    have hp1 : H1 p = some (.lst ws) := p1.all _ _ h2
    have hf1 : Hf1 p = none := by
      obtain ⟨p', _, g1, _, _, g4⟩ := slot_ownN r1 hxs
      rw [h1] at g1; cases g1; exact g4
    refine ⟨Hf1, ds, xs, p, ws, us, p1.sub, rfl, ru, hf1, hp1, RepL.mono p1.sh _ _ h3, ?_⟩
    have rd := r1.del hxs h1
    cases eF : F xs ds with
    | ok sl =>
      rw [eF] at m1
      cases sl with
      | val d => exact fun v Hf' H' post rv => m1 _ _ _ ((rd.grow post).val y rv)
      | own o => exact fun v Hf' H' post rv => m1 _ _ _ (rd.putOwn post y rv)
      | un => exact m1.elim
      | exc z => exact m1.elim
      | io z => exact m1.elim
    | exc z => rw [eF] at m1; exact m1.elim
    | stuck => rw [eF] at m1; exact m1.elim
  · exact m.elim
end
end M
/-! MPair: sorted, min of a list of pairs of whole numbers. -/
namespace M
open PySem PySem.Spec PyProof.Rows L2
/-! ### the mirrors -/
def prD (p : Int × Int) : D := .tup [.int p.1, .int p.2]
def prL : List D → Option (List (Int × Int))
  | [] => some []
  | .tup [.int a, .int b] :: r => (match prL r with | some ps => some ((a, b) :: ps) | none => none)
  | _ :: _ => none
def leP (a b : Int × Int) : Bool := !SrtO.lexB b a
def sortP (ps : List (Int × Int)) : List (Int × Int) := ps.mergeSort leP
def prPy (p : Int × Int) : PyData := .tuple [.int p.1, .int p.2]
def minP (p : Int × Int) (ps : List (Int × Int)) : Int × Int := ps.foldl (fun a y => if PySem.W.dataLt (prPy y) (prPy a) then y else a) p
def dSortedP : List D → Out (List D)
  | [.lst xs] => match prL xs with | some ps => .ok ((sortP ps).map prD) | none => .stuck
  | _ => .stuck
def dMinP : List D → Out D
  | [.lst xs] => match prL xs with | some (p :: ps) => .ok (prD (minP p ps)) | _ => .stuck
  | _ => .stuck
theorem prL_map : ∀ {xs : List D} {ps : List (Int × Int)}, prL xs = some ps → xs = ps.map prD
  | [], ps, h => by cases h; rfl
  | x :: xs, ps, h => by
    unfold prL at h
    split at h
    · rename_i h2; cases h2
    · rename_i a b r hr
      injection hr with h1 h2
      subst h1; subst h2
      split at h
      · rename_i qs hq
        cases h
        rw [prL_map hq]; rfl
      · cases h
    · cases h
theorem prL_of : ∀ (ps : List (Int × Int)), prL (ps.map prD) = some ps
  | [] => rfl
  | p :: ps => by
    show (match prL (ps.map prD) with | some qs => some ((p.1, p.2) :: qs) | none => none) = _
    rw [prL_of ps]
theorem minP_mem (p : Int × Int) (ps : List (Int × Int)) : minP p ps ∈ p :: ps := by
  unfold minP
  induction ps generalizing p with
  | nil => simp
  | cons q ps ih =>
    rw [List.foldl_cons]
    split
    · have := ih q
      rcases List.mem_cons.mp this with e | e
      · rw [e]; simp
      · simp [e]
    · have := ih p
      rcases List.mem_cons.mp this with e | e
      · rw [e]; simp
      · simp [e]
theorem lexB_def (a b : Int × Int) : SrtO.lexB a b = true ↔ (a.1 < b.1 ∨ (a.1 = b.1 ∧ a.2 < b.2)) := SrtO.lexB_iff
theorem leP_iff {a b : Int × Int} : leP a b = true ↔ ¬ (b.1 < a.1 ∨ (b.1 = a.1 ∧ b.2 < a.2)) := by
  unfold leP
  rw [← lexB_def]
  cases SrtO.lexB b a <;> simp
theorem sortP_eq {ps ys : List (Int × Int)} (h1 : ys.Perm ps) (h2 : ys.Pairwise fun x y => SrtO.lexB y x = false) : ys = sortP ps := by
  have s := List.pairwise_mergeSort (le := leP) (fun a b c h1 h2 => by rw [leP_iff] at *; omega) (fun a b => by
    by_cases h : leP a b = true
    · simp [h]
    · rw [leP_iff] at h
      have : leP b a = true := leP_iff.mpr (by omega)
      simp [this]) ps
  have p : ys.Perm (sortP ps) := h1.trans (List.mergeSort_perm ps leP).symm
  have h2' : ys.Pairwise fun x y => leP x y = true := h2.imp fun h => by unfold leP; rw [h]; rfl
  refine List.Perm.eq_of_pairwise (le := fun x y => leP x y = true) (fun a b _ _ h1 h2 => ?_) h2' s p
  rw [leP_iff] at h1 h2
  exact Prod.ext (by omega) (by omega)
end M
namespace L2.RT
open PySem PySem.Spec PyProof.Rows L2
/-- min(xs) of a list of alike data: an item, as it stands -/
def rMinD (K : PySem.W.Frag) : List V → Hp → VK → Prop := fun vs H Q => ∃ (a : Addr) (xs : List V) (d : PyData) (ds : List PyData), vs = [.ref a] ∧ SqL K H a xs ∧ DpAll K H xs (d :: ds) ∧ PySem.W.AlikeAll (d :: ds) ∧ PyData.canLayAll0 (d :: ds) = true ∧ PyData.depthAll (d :: ds) ≤ 64 ∧
  ∀ (i : Nat) (v : V), xs[i]? = some v → (d :: ds)[i]? = some (PySem.W.minD d ds) → Q v H
theorem cr_minD {X : Cx} (hc : X.calm = true) (hu : X.A.units + 80 < cLine) : CallR X (.builtin "min") (rMinD X.K) := by
  intro pins s σ H vs us Q I r h
  obtain ⟨a, xs, d, ds, rfl, hs, dp, al, lay, dep, q⟩ := h
  obtain ⟨its, rv, hl, _⟩ := I.list hs
  rw [Vals.ref1 r]
  obtain ⟨as, ra⟩ := Dp.readsAll I (d :: ds) xs its dp rv
  refine PySem.W.min_list_data (I.ok.hd hc) hl.isList (by simpa using ra) al (by omega) fun i v h' tk bs hv rd hk => ?_
  have hv' : its[i]? = some v := by simpa using hv
  have lx := rv.length
  have hi : i < its.length := (List.getElem?_eq_some_iff.mp hv').1
  obtain ⟨bs2, r2, hl2, m2, _⟩ := PySem.W.readsAll_at ra i v hv'
  have r2' := Reads.keeps hk r2
  obtain ⟨w, hw, rw'⟩ : ∃ w, xs[i]? = some w ∧ RelV w v := by
    have hx : i < xs.length := by omega
    obtain ⟨u, hu, ru⟩ := rv.get (i := i) (x := xs[i]) (List.getElem?_eq_getElem hx)
    rw [hv'] at hu
    cases hu
    exact ⟨xs[i], List.getElem?_eq_getElem hx, ru⟩
  have lay1 : ((d :: ds).getD i .none).canLay0 = true := by
    have : ∀ (l : List PyData), PyData.canLayAll0 l = true → ∀ x ∈ l, x.canLay0 = true := by
      intro l
      induction l with
      | nil => intro _ x hx; cases hx
      | cons y l ih =>
        intro h x hx
        simp only [PyData.canLayAll0, Bool.and_eq_true] at h
        rcases List.mem_cons.mp hx with e | e
        · subst e; exact h.1
        · exact ih h.2 x e
    exact this _ lay _ m2
  have e := (Reads.unique r2' _ _ rd).1
  refine ⟨w, H, I.kept hk, rw', q i w hw ?_⟩
  rw [List.getElem?_eq_getElem hl2, ← e]
  rw [List.getD_eq_getElem?_getD, List.getElem?_eq_getElem hl2]
  rfl
end L2.RT
namespace M
open PySem PySem.Spec PyProof.Rows L2
section
variable {X : Cx} {ca : Nat → Addr}
theorem rep_prD {K : PySem.W.Frag} {H : Hp} {p : Int × Int} {v : V} (h : Rep K ca H (prD p) v) : ∃ t, v = .ref t ∧ H t = some (.tup [.int p.1, .int p.2]) := by
  unfold prD Rep at h
  obtain ⟨a, vs, rfl, ⟨_, h1⟩, h2⟩ := h
  have h1 := h1 rfl
  unfold RepL at h2
  obtain ⟨x, r, rfl, e1, h2⟩ := h2
  unfold RepL at h2
  obtain ⟨y, r2, rfl, e2, h2⟩ := h2
  unfold RepL at h2
  subst h2
  have e1 : x = .int p.1 := e1
  have e2 : y = .int p.2 := e2
  subst e1; subst e2
  exact ⟨a, rfl, h1⟩
theorem bf_sortedP : BF X ca (.builtin "sorted") dSortedP := by
  refine ⟨_, cr_sortedPO, fun W σ Hf H xs vs Q s h m => ?_⟩
  unfold dSortedP at m
  split at m
  · rename_i xs
    split at m
    · rename_i ps hp
      obtain ⟨v, rfl, h1⟩ := pRepL1 h
      obtain ⟨a, us, rfl, a1, a2⟩ := pLst h1
      have hx := prL_map hp
      subst hx
      let k : V → Int × Int := fun x => match x with | .ref t => (match Hf t with | some (.tup [.int i, .int j]) => (i, j) | _ => (0, 0)) | _ => (0, 0)
      have all : ∀ (qs : List (Int × Int)) (us : List V), RepL X.K ca Hf (qs.map prD) us → us.map k = qs ∧ ∀ x ∈ us, ∃ t, x = V.ref t ∧ Hf t = some (.tup [.int (k x).1, .int (k x).2]) := by
        intro qs
        induction qs with
        | nil => intro us h; unfold RepL at h; subst h; exact ⟨rfl, fun x hx => by cases hx⟩
        | cons q qs ih =>
          intro us h
          rw [List.map_cons] at h
          unfold RepL at h
          obtain ⟨v, r, rfl, h1, h2⟩ := h
          obtain ⟨g1, g2⟩ := ih r h2
          obtain ⟨t, rfl, ht⟩ := rep_prD h1
          have kt : k (.ref t) = q := by
            show (match Hf t with | some (.tup [.int i, .int j]) => (i, j) | _ => (0, 0)) = q
            rw [ht]
          refine ⟨by rw [List.map_cons, g1, kt], fun x hx => ?_⟩
          rcases List.mem_cons.mp hx with e | e
          · subst e; exact ⟨t, rfl, by rw [kt]; exact ht⟩
          · exact g2 x e
      obtain ⟨e1, e2⟩ := all ps us a2
      refine ⟨a, us, k, rfl, a1, fun x hx => ?_, fun ys p q1 q2 hp => ?_⟩
      · obtain ⟨t, g1, g2⟩ := e2 x hx
        exact ⟨t, g1, s _ _ g2⟩
      · have pm : (ys.map k).Perm ps := by rw [← e1]; exact q2.perm.map k
        have so : (ys.map k).Pairwise fun x y => SrtO.lexB y x = false := List.pairwise_map.mpr q1
        have es := sortP_eq pm so
        have ry : RepL X.K ca Hf ((sortP ps).map prD) ys := by
          rw [← es]
          have back : ∀ (zs : List V), (∀ z ∈ zs, z ∈ us) → RepL X.K ca Hf ((zs.map k).map prD) zs := by
            intro zs
            induction zs with
            | nil => intro _; show RepL X.K ca Hf [] []; unfold RepL; rfl
            | cons z zs ih =>
              intro hz
              rw [List.map_cons, List.map_cons]
              unfold RepL
              refine ⟨z, zs, rfl, ?_, ih fun w hw => hz w (List.mem_cons_of_mem _ hw)⟩
              obtain ⟨t, rfl, ht⟩ := e2 z (hz z List.mem_cons_self)
              unfold prD Rep
              refine ⟨t, _, rfl, ⟨.inl (.inl ht), fun _ => ht⟩, ?_⟩
              unfold RepL
              refine ⟨_, _, rfl, rfl, ?_⟩
              unfold RepL
              refine ⟨_, _, rfl, rfl, ?_⟩
              unfold RepL
              rfl
          exact back ys fun z hz => q2.perm.mem_iff.mp hz
        exact OutP.ok m s p _ hp ry
    · exact m.no.elim
  · exact m.no.elim
theorem minP_py : ∀ (ps : List (Int × Int)) (p : Int × Int), PySem.W.minD (prPy p) (ps.map prPy) = prPy (minP p ps)
  | [], p => rfl
  | q :: ps, p => by
    have e : PySem.W.minD (prPy p) ((q :: ps).map prPy) = PySem.W.minD (if PySem.W.dataLt (prPy q) (prPy p) then prPy q else prPy p) (ps.map prPy) := rfl
    have e2 : minP p (q :: ps) = minP (if PySem.W.dataLt (prPy q) (prPy p) then q else p) ps := rfl
    rw [e, e2, ← minP_py ps]
    split <;> rfl
theorem bc_minP (hc : X.calm = true) (hu : X.A.units + 80 < cLine) : BC X ca (.builtin "min") dMinP := by
  refine ⟨_, RT.cr_minD hc hu, fun W σ Hf H xs vs Q s h m => ?_⟩
  unfold dMinP at m
  split at m
  · rename_i xs
    split at m
    · rename_i p ps hp
      obtain ⟨v, rfl, h1⟩ := pRepL1 h
      obtain ⟨a, us, rfl, a1, a2⟩ := pLst h1
      have hx := prL_map hp
      subst hx
      have ok : okNs 63 ((p :: ps).map prD) = true := by
        have : ∀ l : List (Int × Int), okNs 63 (l.map prD) = true := by
          intro l
          induction l with
          | nil => rfl
          | cons q l ih => rw [List.map_cons]; unfold okNs; rw [ih]; rfl
        exact this _
      have py : ∀ l : List (Int × Int), toPys (l.map prD) = l.map prPy := by
        intro l
        induction l with
        | nil => rfl
        | cons q l ih =>
          show toPy (prD q) :: toPys (l.map prD) = _
          rw [ih]; rfl
      have dp := dps_of (ca := ca) ((p :: ps).map prD) us 63 ok (RepL.mono s _ _ a2)
      rw [py] at dp
      have lay : ∀ l : List (Int × Int), PyData.canLayAll0 (l.map prPy) = true := by
        intro l
        induction l with
        | nil => simp [PyData.canLayAll0]
        | cons q l ih => simp [PyData.canLayAll0, prPy, PyData.canLay0] at *; exact ih
      have dep : ∀ l : List (Int × Int), PyData.depthAll (l.map prPy) ≤ 64 := by
        intro l
        induction l with
        | nil => simp [PyData.depthAll]
        | cons q l ih => simp only [List.map_cons, PyData.depthAll]; refine Nat.max_le.mpr ⟨?_, ih⟩; simp [prPy, PyData.depth, PyData.depthAll]
      refine ⟨a, us, prPy p, ps.map prPy, rfl, a1, dp, ⟨fun x hx y hy => ?_, fun x hx => ?_⟩, lay (p :: ps), dep (p :: ps), fun i v hv hd => ?_⟩
      · have hx : x ∈ (p :: ps).map prPy := hx
        have hy : y ∈ (p :: ps).map prPy := hy
        obtain ⟨x', _, rfl⟩ := List.mem_map.mp hx
        obtain ⟨y', _, rfl⟩ := List.mem_map.mp hy
        rfl
      · have hx : x ∈ (p :: ps).map prPy := hx
        obtain ⟨x', _, rfl⟩ := List.mem_map.mp hx
        exact fun z => nomatch z
      · rw [minP_py] at hd
        have hi : i < (p :: ps).length := by
          have := (List.getElem?_eq_some_iff.mp hd).1
          simpa using this
        have hd' : ((p :: ps).map prPy)[i]? = some (prPy (minP p ps)) := hd
        rw [List.getElem?_map, List.getElem?_eq_getElem hi] at hd'
        have inj : (p :: ps)[i] = minP p ps := by
          have := Option.some.inj hd'
          unfold prPy at this
          injection this with this
          simp at this
          exact Prod.ext this.1 this.2
        obtain ⟨w, hw, rw'⟩ := RepL.get a2 (i := i) (d := prD (p :: ps)[i]) (by rw [List.getElem?_map, List.getElem?_eq_getElem hi]; rfl)
        rw [hv] at hw
        cases hw
        rw [inj] at rw'
        exact OutP.ok m s v rw'
    · exact m.no.elim
  · exact m.no.elim
end
end M
namespace Lw
open M PySem
def v_MOST_EVENTS : CE := (eC (.int 6))
def v_MOST_RESTS : CE := (eC (.int 60))
def f__law_cell : Fn := fn 2 2 (sSeq (sIf (tVal (eOp2 dLt (eVar 1) (eB dLen (aCons (eVar 0) aNil)))) (sRet (eOp2 dIx (eVar 0) (eVar 1))) sNext)
  (sRet (eC (.int 0))))
def f__law_chained : FnG := fng 2 15 (sSeq (sSetF 3 (fB dSortedP (aCons (eShare (fComp [4] (iB dRange1 (aCons (eB dLen (aCons (ePeek 0) aNil)) aNil)) (gName 4) tTrue (eTup (aCons (eOp2 dIx (eVar 1) (eVar 4)) (aCons (eVar 4) aNil))))) aNil)))
  (sSeq (sFreeze 3 (sSetF 5 (fComp [6] (iSeq (eVar 3)) (gName 6) tTrue (eOp2 dIx (eVar 6) (eC (.int 1))))))
  (sSeq (sFor (iB dRange2 (aCons (eC (.int 1)) (aCons (eB dLen (aCons (ePeek 5) aNil)) aNil))) (gName 7) (sSeq (sSet 8 (eOp2 dIx (ePeek 5) (eVar 7)))
  (sSeq (sSet 9 (eOp2 dMod (eOp2 dIx (eVar 2) (eVar 7)) (eB dLen (aCons (eOp2 dIx (ePeek 0) (eVar 8)) aNil))))
  (sSeq (sSetF 10 (fLst aNil))
  (sSeq (sFor (iB dRange1 (aCons (eB dLen (aCons (eOp2 dIx (ePeek 0) (eVar 8)) aNil)) aNil)) (gName 11) (sSeq (sSetTg (gTup [(gName 12), (gName 13)]) (eOp2 dIx (eOp2 dIx (ePeek 0) (eVar 8)) (eVar 11)))
  (sIf (tVal (eOp2 dEq (eVar 11) (eVar 9))) (sSeq (sSetF 14 (fLst (aCons (eOp2 dIx (ePeek 5) (eOp2 dSub (eVar 7) (eC (.int 1)))) (aCons (eOp2 dIx (ePeek 5) (eOp2 dMod (eB dInt (aCons (eOp2 dIx (eVar 1) (eVar 7)) aNil)) (eVar 7))) aNil))))
  (sAppend 10 (eTup (aCons (eShare (fB dSortSet (aCons (eSl (ePeek 14) oNo (oSome (eOp2 dAdd (eC (.int 1)) (eOp2 dMod (eOp2 dFdiv (eOp2 dIx (eVar 2) (eVar 7)) (eC (.int 6))) (eC (.int 2)))))) aNil))) (aCons (eC (.bl false)) aNil))))) (sAppend 10 (eTup (aCons (eShare (fB dSortSet (aCons (eOp2 dAdd (eVar 12) (eShare (fLst (aCons (eOp2 dIx (ePeek 5) (eB dMin2 (aCons (eOp2 dAdd (eVar 7) (eC (.int 1))) (aCons (eOp2 dSub (eB dLen (aCons (ePeek 5) aNil)) (eC (.int 1))) aNil)))) aNil)))) aNil))) (aCons (eVar 13) aNil)))))))
  (sFreeze 10 (sSetIx 0 (eVar 8) (eVar 10))))))))
  (sRetOwn 0))))
def f__law_copied : Fn := fn 2 4 (sSeq (sIf (tVal (eVar 1)) (sRet (eB dTuple (aCons (eShare (fComp [3] (iSeq (eVar 0)) (gName 3) tTrue (eB dTuple (aCons (eShare (fComp [2] (iSeq (eVar 3)) (gName 2) tTrue (eTup (aCons (eB dTuple (aCons (eOp2 dIx (eVar 2) (eC (.int 0))) aNil)) (aCons (eOp2 dIx (eVar 2) (eC (.int 1))) aNil))))) aNil)))) aNil))) sNext)
  (sRetF (fComp [3] (iSeq (eVar 0)) (gName 3) tTrue (eShare (fComp [2] (iSeq (eVar 3)) (gName 2) tTrue (eTup (aCons (eShare (fB dList (aCons (eOp2 dIx (eVar 2) (eC (.int 0))) aNil))) (aCons (eOp2 dIx (eVar 2) (eC (.int 1))) aNil))))))))
def f__law_is_paper : Fn := fn 2 2 (sSeq (sIf (tOr (tNot (tVal (eB dIsi (aCons (eVar 0) (aCons (eC (.ty "tuple")) aNil))))) (tVal (eOp2 dNe (eB dLen (aCons (eVar 0) aNil)) (eC (.int 2))))) (sRet (eC (.bl false))) sNext)
  (sRet (eAnd (eB dIsi (aCons (eOp2 dIx (eVar 0) (eC (.int 0))) (aCons (eC (.ty "str")) aNil))) (eAnd (eOp2 dEq (eOp2 dIx (eVar 0) (eC (.int 0))) (eVar 1)) (eB dIsi (aCons (eOp2 dIx (eVar 0) (eC (.int 1))) (aCons (eC (.ty "tuple")) aNil)))))))
def f__law_best : Fn := fn 2 8 (sSeq (sSet 2 (eTup (aCons (eOp1 dNeg (eC (.int 1))) (aCons (eOp1 dNeg (eC (.int 1))) aNil))))
  (sSeq (sFor (iB dRange1 (aCons (eB dLen (aCons (eVar 0) aNil)) aNil)) (gName 3) (sSeq (sSetTg (gTup [(gName 4), (gName 5)]) (eOp2 dIx (eVar 0) (eVar 3)))
  (sSeq (sSetF 6 (fComp [7] (iSeq (eVar 4)) (gName 7) tTrue (eOp2 dIx (eOp2 dIx (eVar 1) (eVar 7)) (eC (.int 0)))))
  (sIf (tAnd (tNot (tVal (eVar 5))) (tAnd (tVal (eOp2 dGt (eB dLen (aCons (ePeek 6) aNil)) (eC (.int 0)))) (tVal (eOp2 dGe (eB dMin1 (aCons (ePeek 6) aNil)) (eC (.int 0)))))) (sIf (tOr (tVal (eOp2 dLt (eOp2 dIx (eVar 2) (eC (.int 0))) (eC (.int 0)))) (tVal (eOp2 dLt (eOp2 dAdd (eB dMax1 (aCons (ePeek 6) aNil)) (eC (.int 1))) (eOp2 dIx (eVar 2) (eC (.int 0)))))) (sSet 2 (eTup (aCons (eOp2 dAdd (eB dMax1 (aCons (ePeek 6) aNil)) (eC (.int 1))) (aCons (eVar 3) aNil)))) sNext) sNext))))
  (sRet (eVar 2))))
def f__law_is_integer : Fn := fn 1 1 (sRet (eAnd (eB dIsi (aCons (eVar 0) (aCons (eC (.ty "int")) aNil))) (eNot (eB dIsi (aCons (eVar 0) (aCons (eC (.ty "bool")) aNil))))))
def f__law_plan_is_right : Fn := fn 4 10 (sSeq (sIf (tOr (tVal (eOp2 dNe (eB dLen (aCons (eVar 3) aNil)) (eB dLen (aCons (eVar 0) aNil)))) (tOr (tNot (tVal (eChain dLe dLt (eC (.int 0)) (eVar 2) (eB dLen (aCons (eVar 0) aNil))))) (tVal (eOp2 dEq (eOp2 dIx (eOp2 dIx (eVar 3) (eVar 2)) (eC (.int 0))) (eOp1 dNeg (eC (.int 1))))))) (sRet (eC (.bl false))) sNext)
  (sSeq (sFor (iB dRange1 (aCons (eB dLen (aCons (eVar 0) aNil)) aNil)) (gName 4) (sSeq (sSetTg (gTup [(gName 5), (gName 6)]) (eOp2 dIx (eVar 3) (eVar 4)))
  (sIf (tVal (eOp2 dIn (eVar 4) (eVar 1))) (sIf (tOr (tVal (eOp2 dNe (eVar 5) (eC (.int 0)))) (tVal (eOp2 dNe (eVar 6) (eOp1 dNeg (eC (.int 1)))))) (sRet (eC (.bl false))) sNext) (sIf (tOr (tVal (eOp2 dNe (eVar 5) (eOp1 dNeg (eC (.int 1))))) (tVal (eOp2 dNe (eVar 6) (eOp1 dNeg (eC (.int 1)))))) (sSeq (sIf (tOr (tVal (eOp2 dLt (eVar 5) (eC (.int 1)))) (tNot (tVal (eChain dLe dLt (eC (.int 0)) (eVar 6) (eB dLen (aCons (eOp2 dIx (eVar 0) (eVar 4)) aNil)))))) (sRet (eC (.bl false))) sNext)
  (sSeq (sSetTg (gTup [(gName 7), (gName 8)]) (eOp2 dIx (eOp2 dIx (eVar 0) (eVar 4)) (eVar 6)))
  (sSeq (sIf (tOr (tVal (eVar 8)) (tVal (eOp2 dEq (eB dLen (aCons (eVar 7) aNil)) (eC (.int 0))))) (sRet (eC (.bl false))) sNext)
  (sFor (iSeq (eVar 7)) (gName 9) (sIf (tNot (tVal (eChain dLe dLt (eC (.int 0)) (eOp2 dIx (eOp2 dIx (eVar 3) (eVar 9)) (eC (.int 0))) (eVar 5)))) (sRet (eC (.bl false))) sNext))))) sNext))))
  (sRet (eC (.bl true)))))
def f__law_plan_is_least : Fn := fn 3 5 (sSeq (sIf (tOr (tNot (tVal (eB dIsi (aCons (eVar 2) (aCons (eC (.ty "tuple")) aNil))))) (tVal (eOp2 dNe (eB dLen (aCons (eVar 2) aNil)) (eB dLen (aCons (eVar 0) aNil))))) (sRet (eC (.bl false))) sNext)
  (sSeq (sFor (iB dRange1 (aCons (eB dLen (aCons (eVar 0) aNil)) aNil)) (gName 3) (sSeq (sSet 4 (eOp2 dIx (eVar 2) (eVar 3)))
  (sSeq (sIf (tOr (tNot (tVal (eB dIsi (aCons (eVar 4) (aCons (eC (.ty "tuple")) aNil))))) (tVal (eOp2 dNe (eB dLen (aCons (eVar 4) aNil)) (eC (.int 2))))) (sRet (eC (.bl false))) sNext)
  (sIf (tOr (tNot (tVal (eCall f__law_is_integer (aCons (eOp2 dIx (eVar 4) (eC (.int 0))) aNil)))) (tNot (tVal (eCall f__law_is_integer (aCons (eOp2 dIx (eVar 4) (eC (.int 1))) aNil))))) (sRet (eC (.bl false))) sNext))))
  (sSeq (sFor (iB dRange1 (aCons (eB dLen (aCons (eVar 0) aNil)) aNil)) (gName 3) (sIf (tVal (eOp2 dIn (eVar 3) (eVar 1))) (sIf (tVal (eOp2 dNe (eOp2 dIx (eVar 2) (eVar 3)) (eTup (aCons (eC (.int 0)) (aCons (eOp1 dNeg (eC (.int 1))) aNil))))) (sRet (eC (.bl false))) sNext) (sIf (tVal (eOp2 dNe (eOp2 dIx (eVar 2) (eVar 3)) (eCall f__law_best (aCons (eOp2 dIx (eVar 0) (eVar 3)) (aCons (eVar 2) aNil))))) (sRet (eC (.bl false))) sNext)))
  (sRetCall f__law_plan_is_right (aCons (eVar 0) (aCons (eVar 1) (aCons (eOp2 dIx (eVar 1) (eC (.int 0))) (aCons (eVar 2) aNil))))))))
def f__law_is_plan : Fn := fn 3 3 (sRet (eAnd (eCall f__law_is_paper (aCons (eVar 0) (aCons (eC (.str "forced")) aNil))) (eCall f__law_plan_is_least (aCons (eVar 1) (aCons (eVar 2) (aCons (eOp2 dIx (eVar 0) (eC (.int 1))) aNil))))))
def f__law_is_trap : Fn := fn 2 3 (sSeq (sIf (tOr (tNot (tVal (eCall f__law_is_paper (aCons (eVar 0) (aCons (eC (.str "held")) aNil))))) (tVal (eOp2 dNe (eB dLen (aCons (eOp2 dIx (eVar 0) (eC (.int 1))) aNil)) (eB dLen (aCons (eVar 1) aNil))))) (sRet (eC (.bl false))) sNext)
  (sSeq (sFor (iB dRange1 (aCons (eB dLen (aCons (eVar 1) aNil)) aNil)) (gName 2) (sIf (tOr (tNot (tVal (eCall f__law_is_integer (aCons (eOp2 dIx (eOp2 dIx (eVar 0) (eC (.int 1))) (eVar 2)) aNil)))) (tVal (eOp2 dNe (eOp2 dIx (eOp2 dIx (eVar 0) (eC (.int 1))) (eVar 2)) (eOp2 dIx (eVar 1) (eVar 2))))) (sRet (eC (.bl false))) sNext))
  (sRet (eC (.bl true)))))
def f__law_changed_plan : Fn := fn 3 6 (sSeq (sSet 3 (eOp2 dMod (eOp2 dIx (eVar 2) (eC (.int 0))) (eB dLen (aCons (eVar 0) aNil))))
  (sSeq (sSet 4 (eOp2 dMod (eOp2 dIx (eVar 2) (eC (.int 1))) (eB dLen (aCons (eVar 0) aNil))))
  (sSeq (sSetF 5 (fB dList (aCons (eVar 0) aNil)))
  (sSeq (sIf (tVal (eOp2 dEq (eVar 1) (eC (.int 0)))) (sSetIx 5 (eVar 3) (eTup (aCons (eOp2 dAdd (eOp2 dIx (eOp2 dIx (eVar 0) (eVar 3)) (eC (.int 0))) (eOp2 dIx (eShare (fLst (aCons (eC (.int 1)) (aCons (eOp1 dNeg (eC (.int 1))) (aCons (eC (.int 2)) (aCons (eOp2 dPow (eC (.int 10)) (eC (.int 20))) aNil)))))) (eOp2 dMod (eOp2 dIx (eVar 2) (eC (.int 2))) (eC (.int 4))))) (aCons (eOp2 dIx (eOp2 dIx (eVar 0) (eVar 3)) (eC (.int 1))) aNil)))) (sIf (tVal (eOp2 dEq (eVar 1) (eC (.int 1)))) (sSetIx 5 (eVar 3) (eTup (aCons (eOp2 dIx (eOp2 dIx (eVar 0) (eVar 3)) (eC (.int 0))) (aCons (eOp2 dSub (eOp2 dMod (eOp2 dIx (eVar 2) (eC (.int 2))) (eC (.int 9))) (eC (.int 2))) aNil)))) (sIf (tVal (eOp2 dEq (eVar 1) (eC (.int 2)))) (sSeq (sSetIx 5 (eVar 3) (eOp2 dIx (eVar 0) (eVar 4)))
  (sSetIx 5 (eVar 4) (eOp2 dIx (eVar 0) (eVar 3)))) (sIf (tVal (eOp2 dEq (eVar 1) (eC (.int 3)))) (sSetIx 5 (eVar 3) (eOp2 dIx (eShare (fLst (aCons (eTup (aCons (eOp1 dNeg (eC (.int 1))) (aCons (eOp1 dNeg (eC (.int 1))) aNil))) (aCons (eTup (aCons (eC (.int 0)) (aCons (eOp1 dNeg (eC (.int 1))) aNil))) (aCons (eTup (aCons (eC (.int 1)) (aCons (eC (.int 0)) aNil))) aNil))))) (eOp2 dMod (eOp2 dIx (eVar 2) (eC (.int 2))) (eC (.int 3))))) (sIf (tVal (eOp2 dEq (eVar 1) (eC (.int 4)))) (sSet 5 (eOp2 dAdd (eSl (ePeek 5) oNo (oSome (eVar 3))) (eSl (ePeek 5) (oSome (eOp2 dAdd (eVar 3) (eC (.int 1)))) oNo))) (sIf (tVal (eOp2 dEq (eVar 1) (eC (.int 5)))) (sSetF 5 (fOp2 fCat (ePeek 5) (eShare (fLst (aCons (eOp2 dIx (eVar 0) (eVar 3)) aNil))))) sNext))))))
  (sRetOwn 5)))))
def f__law_changed_trap : Fn := fn 4 6 (sSeq (sSet 4 (eOp2 dMod (eOp2 dIx (eVar 2) (eC (.int 0))) (eOp2 dAdd (eB dLen (aCons (eVar 0) aNil)) (eC (.int 1)))))
  (sSeq (sSetF 5 (fB dList (aCons (eVar 0) aNil)))
  (sSeq (sIf (tOr (tVal (eOp2 dEq (eVar 1) (eC (.int 0)))) (tVal (eOp2 dEq (eVar 1) (eC (.int 1))))) (sSet 5 (eOp2 dAdd (eSl (ePeek 5) oNo (oSome (eVar 4))) (eSl (ePeek 5) (oSome (eOp2 dAdd (eVar 4) (eC (.int 1)))) oNo))) (sIf (tOr (tVal (eOp2 dEq (eVar 1) (eC (.int 2)))) (tVal (eOp2 dEq (eVar 1) (eC (.int 3))))) (sSetF 5 (fOp2 fCat (eOp2 dAdd (eSl (ePeek 5) oNo (oSome (eVar 4))) (eShare (fLst (aCons (eOp2 dMod (eOp2 dIx (eVar 2) (eC (.int 1))) (eVar 3)) aNil)))) (eSl (ePeek 5) (oSome (eVar 4)) oNo))) (sIf (tVal (eOp2 dEq (eVar 1) (eC (.int 4)))) (sSetF 5 (fOp2 fCat (eOp2 dAdd (eSl (ePeek 5) oNo (oSome (eVar 4))) (eShare (fLst (aCons (eOp2 dIx (eShare (fLst (aCons (eOp1 dNeg (eC (.int 1))) (aCons (eVar 3) (aCons (eOp2 dPow (eC (.int 10)) (eC (.int 20))) aNil))))) (eOp2 dMod (eOp2 dIx (eVar 2) (eC (.int 2))) (eC (.int 3)))) aNil)))) (eSl (ePeek 5) (oSome (eVar 4)) oNo))) sNext)))
  (sRetOwn 5))))
def f__law_says : Fn := fn 2 2 (sRet (eAnd (eB dIsi (aCons (eVar 0) (aCons (eC (.ty "bool")) aNil))) (eOp2 dEq (eVar 0) (eVar 1))))
def f__law_trap_is_right : Fn := fn 4 8 (sSeq (sIf (tVal (eOp2 dNotIn (eVar 2) (eVar 3))) (sRet (eC (.bl false))) sNext)
  (sSeq (sFor (iSeq (eVar 3)) (gName 4) (sSeq (sIf (tOr (tNot (tVal (eChain dLe dLt (eC (.int 0)) (eVar 4) (eB dLen (aCons (eVar 0) aNil))))) (tVal (eOp2 dIn (eVar 4) (eVar 1)))) (sRet (eC (.bl false))) sNext)
  (sFor (iSeq (eOp2 dIx (eVar 0) (eVar 4))) (gTup [(gName 5), (gName 6)]) (sIf (tAnd (tNot (tVal (eVar 6))) (tAnd (tVal (eOp2 dGt (eB dLen (aCons (eVar 5) aNil)) (eC (.int 0)))) (tVal (eOp2 dEq (eB dLen (aCons (eShare (fComp [7] (iSeq (eVar 5)) (gName 7) (tVal (eOp2 dIn (eVar 7) (eVar 3))) (eVar 7))) aNil)) (eC (.int 0)))))) (sRet (eC (.bl false))) sNext))))
  (sRet (eC (.bl true)))))
def f_is_integer : Fn := fn 1 1 (sRet (eAnd (eB dIsi (aCons (eVar 0) (aCons (eC (.ty "int")) aNil))) (eNot (eB dIsi (aCons (eVar 0) (aCons (eC (.ty "bool")) aNil))))))
def f_is_place : Fn := fn 2 2 (sRet (eAnd (eCall f_is_integer (aCons (eVar 0) aNil)) (eChain dLe dLt (eC (.int 0)) (eVar 0) (eVar 1))))
def f_pair_is_right : Fn := fn 5 8 (sSeq (sIf (tAnd (tVal (eOp2 dEq (eVar 2) (eOp1 dNeg (eC (.int 1))))) (tVal (eOp2 dEq (eVar 3) (eOp1 dNeg (eC (.int 1)))))) (sRet (eC (.bl true))) sNext)
  (sSeq (sIf (tOr (tVal (eOp2 dLt (eVar 2) (eC (.int 1)))) (tNot (tVal (eCall f_is_place (aCons (eVar 3) (aCons (eB dLen (aCons (eOp2 dIx (eVar 0) (eVar 4)) aNil)) aNil)))))) (sRet (eC (.bl false))) sNext)
  (sSeq (sSetTg (gTup [(gName 5), (gName 6)]) (eOp2 dIx (eOp2 dIx (eVar 0) (eVar 4)) (eVar 3)))
  (sSeq (sIf (tOr (tVal (eVar 6)) (tVal (eOp2 dEq (eB dLen (aCons (eVar 5) aNil)) (eC (.int 0))))) (sRet (eC (.bl false))) sNext)
  (sSeq (sFor (iSeq (eVar 5)) (gName 7) (sIf (tNot (tVal (eChain dLe dLt (eC (.int 0)) (eOp2 dIx (eOp2 dIx (eVar 1) (eVar 7)) (eC (.int 0))) (eVar 2)))) (sRet (eC (.bl false))) sNext))
  (sRet (eC (.bl true))))))))
def f_shows_plan : Fn := fn 4 7 (sSeq (sIf (tOr (tVal (eOp2 dNe (eB dLen (aCons (eVar 3) aNil)) (eB dLen (aCons (eVar 0) aNil)))) (tNot (tVal (eCall f_is_place (aCons (eVar 2) (aCons (eB dLen (aCons (eVar 0) aNil)) aNil)))))) (sRet (eC (.bl false))) sNext)
  (sSeq (sFor (iB dEnum (aCons (eVar 3) aNil)) (gTup [(gName 4), (gTup [(gName 5), (gName 6)])]) (sIf (tVal (eOp2 dIn (eVar 4) (eVar 1))) (sIf (tOr (tVal (eOp2 dNe (eVar 5) (eC (.int 0)))) (tVal (eOp2 dNe (eVar 6) (eOp1 dNeg (eC (.int 1)))))) (sRet (eC (.bl false))) sNext) (sIf (tNot (tVal (eCall f_pair_is_right (aCons (eVar 0) (aCons (eVar 3) (aCons (eVar 5) (aCons (eVar 6) (aCons (eVar 4) aNil)))))))) (sRet (eC (.bl false))) sNext)))
  (sRet (eOp2 dNe (eOp2 dIx (eOp2 dIx (eVar 3) (eVar 2)) (eC (.int 0))) (eOp1 dNeg (eC (.int 1)))))))
def f_holds_off : Fn := fn 3 4 (sSeq (sIf (tOr (tVal (eVar 1)) (tVal (eOp2 dEq (eB dLen (aCons (eVar 0) aNil)) (eC (.int 0))))) (sRet (eC (.bl true))) sNext)
  (sSeq (sFor (iSeq (eVar 0)) (gName 3) (sIf (tVal (eOp2 dIn (eVar 3) (eVar 2))) (sRet (eC (.bl true))) sNext))
  (sRet (eC (.bl false)))))
def f_shows_trap : Fn := fn 4 7 (sSeq (sIf (tVal (eOp2 dNotIn (eVar 2) (eVar 3))) (sRet (eC (.bl false))) sNext)
  (sSeq (sFor (iSeq (eVar 3)) (gName 4) (sSeq (sIf (tOr (tNot (tVal (eCall f_is_place (aCons (eVar 4) (aCons (eB dLen (aCons (eVar 0) aNil)) aNil))))) (tVal (eOp2 dIn (eVar 4) (eVar 1)))) (sRet (eC (.bl false))) sNext)
  (sFor (iSeq (eOp2 dIx (eVar 0) (eVar 4))) (gTup [(gName 5), (gName 6)]) (sIf (tNot (tVal (eCall f_holds_off (aCons (eVar 5) (aCons (eVar 6) (aCons (eVar 3) aNil)))))) (sRet (eC (.bl false))) sNext))))
  (sRet (eC (.bl true)))))
def f__law_judges_agree : Fn := fn 6 11 (sSeq (sSetF 6 (fLst (aCons (eVar 2) (aCons (eOp2 dMod (eOp2 dIx (eVar 5) (eC (.int 3))) (eB dLen (aCons (eVar 0) aNil))) (aCons (eOp1 dNeg (eC (.int 1))) (aCons (eB dLen (aCons (eVar 0) aNil)) aNil))))))
  (sSeq (sSetCall 7 f__law_changed_plan (aCons (eVar 3) (aCons (eOp2 dIx (eVar 5) (eC (.int 0))) (aCons (eSl (eVar 5) (oSome (eC (.int 4))) (oSome (eC (.int 7)))) aNil))))
  (sSeq (sSetCall 8 f__law_changed_trap (aCons (eVar 4) (aCons (eOp2 dIx (eVar 5) (eC (.int 1))) (aCons (eSl (eVar 5) (oSome (eC (.int 7))) (oSome (eC (.int 10)))) (aCons (eB dLen (aCons (eVar 0) aNil)) aNil)))))
  (sSeq (sFor (iSeq (eShare (fLst (aCons (eOp2 dIx (ePeek 6) (eC (.int 0))) (aCons (eOp2 dIx (ePeek 6) (eC (.int 1))) (aCons (eOp2 dIx (ePeek 6) (eOp2 dAdd (eC (.int 2)) (eOp2 dMod (eOp2 dIx (eVar 5) (eC (.int 2))) (eC (.int 2))))) aNil)))))) (gName 9) (sSeq (sFreeze 7 (sFor (iSeq (eShare (fLst (aCons (eShare (fB dList (aCons (eVar 3) aNil))) (aCons (eVar 7) aNil))))) (gName 10) (sIf (tNot (tVal (eCall f__law_says (aCons (eCall f_shows_plan (aCons (eVar 0) (aCons (eVar 1) (aCons (eVar 9) (aCons (eVar 10) aNil))))) (aCons (eCall f__law_plan_is_right (aCons (eVar 0) (aCons (eVar 1) (aCons (eVar 9) (aCons (eVar 10) aNil))))) aNil))))) (sRet (eC (.bl false))) sNext)))
  (sFreeze 8 (sFor (iSeq (eShare (fLst (aCons (eShare (fB dList (aCons (eVar 4) aNil))) (aCons (eVar 8) aNil))))) (gName 10) (sIf (tNot (tVal (eCall f__law_says (aCons (eCall f_shows_trap (aCons (eVar 0) (aCons (eVar 1) (aCons (eVar 9) (aCons (eVar 10) aNil))))) (aCons (eCall f__law_trap_is_right (aCons (eVar 0) (aCons (eVar 1) (aCons (eVar 9) (aCons (eVar 10) aNil))))) aNil))))) (sRet (eC (.bl false))) sNext)))))
  (sRet (eC (.bl true)))))))
def f__law_row : Fn := fn 2 6 (sSeq (sSet 2 (eVar 0))
  (sSeq (sSet 3 (eOp2 dMod (eB dInt (aCons (eOp2 dAdd (eOp2 dMul (eVar 0) (eC (.int 48271))) (eC (.int 12345))) aNil)) (eC (.int 2147483647))))
  (sSeq (sSetF 4 (fLst aNil))
  (sSeq (sFor (iSeq (eVar 1)) (gName 5) (sIf (tVal (eOp2 dGe (eVar 0) (eOp2 dPow (eC (.int 10)) (eC (.int 18))))) (sSeq (sAppend 4 (eOp2 dMod (eB dInt (aCons (eVar 2) aNil)) (eVar 5)))
  (sSet 2 (eOp2 dFdiv (eVar 2) (eVar 5)))) (sSeq (sSet 3 (eOp2 dMod (eB dInt (aCons (eOp2 dAdd (eOp2 dMul (eVar 3) (eC (.int 16807))) (eC (.int 54321))) aNil)) (eC (.int 2147483647))))
  (sAppend 4 (eOp2 dMod (eOp2 dFdiv (eVar 3) (eC (.int 64))) (eVar 5))))))
  (sRetOwn 4)))))
def f__law_targets : Fn := fn 2 5 (sSeq (sIf (tVal (eOp2 dEq (eOp2 dIx (eVar 0) (eC (.int 0))) (eC (.int 7)))) (sRetF (fComp [2] (iB dRange1 (aCons (eVar 1) aNil)) (gName 2) tTrue (eVar 2))) sNext)
  (sSeq (sSet 3 (eOp2 dIx (eShare (fLst (aCons (eC (.int 0)) (aCons (eC (.int 1)) (aCons (eC (.int 1)) (aCons (eC (.int 1)) (aCons (eC (.int 2)) (aCons (eC (.int 2)) (aCons (eC (.int 3)) aNil))))))))) (eOp2 dIx (eVar 0) (eC (.int 0)))))
  (sRetF (fB dSortSet (aCons (eShare (fComp [4] (iSeq (eSl (eVar 0) (oSome (eC (.int 1))) (oSome (eOp2 dAdd (eC (.int 1)) (eVar 3))))) (gName 4) tTrue (eOp2 dMod (eB dInt (aCons (eVar 4) aNil)) (eVar 1)))) aNil)))))
def f__law_moves : Fn := fn 3 8 (sSeq (sSetF 3 (fLst aNil))
  (sSeq (sFor (iB dRange1 (aCons (eVar 1) aNil)) (gName 4) (sSeq (sSetCall 5 f__law_row (aCons (eOp2 dAdd (eCall f__law_cell (aCons (eVar 0) (aCons (eOp2 dAdd (eC (.int 3)) (eVar 4)) aNil))) (eOp2 dMul (eC (.int 131)) (eVar 4))) (aCons (eShare (fRepO (fLst (aCons (eC (.int 8)) (aCons (eC (.int 60)) (aCons (eC (.int 60)) (aCons (eC (.int 60)) (aCons (eC (.int 5)) aNil)))))) (eVar 2))) aNil)))
  (sSeq (sSetF 6 (fLst aNil))
  (sSeq (sFor (iB dRange1 (aCons (eVar 2) aNil)) (gName 7) (sAppend 6 (eTup (aCons (eCall f__law_targets (aCons (eSl (ePeek 5) (oSome (eOp2 dMul (eC (.int 5)) (eVar 7))) (oSome (eOp2 dAdd (eOp2 dMul (eC (.int 5)) (eVar 7)) (eC (.int 4))))) (aCons (eVar 1) aNil))) (aCons (eOp2 dEq (eOp2 dIx (ePeek 5) (eOp2 dAdd (eOp2 dMul (eC (.int 5)) (eVar 7)) (eC (.int 4)))) (eC (.int 1))) aNil)))))
  (sFreeze 6 (sAppend 3 (eVar 6)))))))
  (sRetOwn 3)))
def f_are_places : Fn := fn 2 4 (sSeq (sSet 2 (eOp1 dNeg (eC (.int 1))))
  (sSeq (sFor (iSeq (eVar 0)) (gName 3) (sSeq (sIf (tOr (tNot (tVal (eCall f_is_place (aCons (eVar 3) (aCons (eVar 1) aNil))))) (tVal (eOp2 dLe (eVar 3) (eVar 2)))) (sRet (eC (.bl false))) sNext)
  (sSet 2 (eVar 3))))
  (sRet (eC (.bl true)))))
def f_is_moves : Fn := fn 1 5 (sSeq (sSet 1 (eB dLen (aCons (eVar 0) aNil)))
  (sSeq (sIf (tOr (tNot (tVal (eChain dLe dLe (eC (.int 1)) (eVar 1) v_MOST_RESTS))) (tVal (eOp2 dGt (eB dLen (aCons (eOp2 dIx (eVar 0) (eC (.int 0))) aNil)) v_MOST_EVENTS))) (sRet (eC (.bl false))) sNext)
  (sSeq (sFor (iSeq (eVar 0)) (gName 2) (sSeq (sIf (tVal (eOp2 dNe (eB dLen (aCons (eVar 2) aNil)) (eB dLen (aCons (eOp2 dIx (eVar 0) (eC (.int 0))) aNil)))) (sRet (eC (.bl false))) sNext)
  (sFor (iSeq (eVar 2)) (gTup [(gName 3), (gName 4)]) (sIf (tOr (tNot (tVal (eB dIsi (aCons (eVar 4) (aCons (eC (.ty "bool")) aNil))))) (tNot (tVal (eCall f_are_places (aCons (eVar 3) (aCons (eVar 1) aNil)))))) (sRet (eC (.bl false))) sNext))))
  (sRet (eC (.bl true))))))
def f_demand_question : Fn := fn 3 3 (sSeq (sIf (tNot (tVal (eCall f_is_moves (aCons (eVar 0) aNil)))) (sRaise 11 [] aNil) sNext)
  (sSeq (sIf (tNot (tVal (eCall f_are_places (aCons (eVar 1) (aCons (eB dLen (aCons (eVar 0) aNil)) aNil))))) (sRaise 9 [] aNil) sNext)
  (sIf (tNot (tVal (eCall f_is_place (aCons (eVar 2) (aCons (eB dLen (aCons (eVar 0) aNil)) aNil))))) (sRaise 9 [] aNil) sNext)))
def f_forcing_event : Fn := fn 2 7 (sSeq (sFor (iB dEnum (aCons (eVar 0) aNil)) (gTup [(gName 2), (gTup [(gName 3), (gName 4)])]) (sSeq (sSetF 5 (fComp [6] (iSeq (eVar 3)) (gName 6) (tVal (eOp2 dLt (eOp2 dIx (eOp2 dIx (eVar 1) (eVar 6)) (eC (.int 0))) (eC (.int 0)))) (eVar 6)))
  (sIf (tAnd (tNot (tVal (eVar 4))) (tAnd (tVal (eOp2 dGt (eB dLen (aCons (eVar 3) aNil)) (eC (.int 0)))) (tVal (eOp2 dEq (eB dLen (aCons (ePeek 5) aNil)) (eC (.int 0)))))) (sRet (eVar 2)) sNext)))
  (sRet (eOp1 dNeg (eC (.int 1)))))
def f_forced_plan : Fn := fn 2 10 (sSeq (sSetF 2 (fComp [3] (iSeq (eVar 0)) (gName 3) tTrue (eTup (aCons (eOp1 dNeg (eC (.int 1))) (aCons (eOp1 dNeg (eC (.int 1))) aNil)))))
  (sSeq (sFor (iSeq (eVar 1)) (gName 4) (sSetIx 2 (eVar 4) (eTup (aCons (eC (.int 0)) (aCons (eOp1 dNeg (eC (.int 1))) aNil)))))
  (sSeq (sFor (iB dRange2 (aCons (eC (.int 1)) (aCons (eB dLen (aCons (eVar 0) aNil)) aNil))) (gName 5) (sSeq (sSetF 6 (fLst aNil))
  (sSeq (sFor (iB dEnum (aCons (eVar 0) aNil)) (gTup [(gName 7), (gName 8)]) (sIf (tVal (eOp2 dLt (eOp2 dIx (eOp2 dIx (ePeek 2) (eVar 7)) (eC (.int 0))) (eC (.int 0)))) (sSeq (sSet 9 (eCallP f_forcing_event (aCons (eVar 8) (aCons (ePeekD 2) aNil))))
  (sIf (tVal (eOp2 dGe (ePeek 9) (eC (.int 0)))) (sFreeze 9 (sAppend 6 (eTup (aCons (eVar 7) (aCons (eVar 9) aNil))))) sNext)) sNext))
  (sSeq (sIf (tVal (eOp2 dEq (eB dLen (aCons (ePeek 6) aNil)) (eC (.int 0)))) sBrk sNext)
  (sFreeze 6 (sFor (iSeq (eVar 6)) (gTup [(gName 7), (gName 9)]) (sFreeze 9 (sSetIx 2 (eVar 7) (eTup (aCons (eVar 5) (aCons (eVar 9) aNil)))))))))))
  (sRet (eB dTuple (aCons (ePeek 2) aNil))))))
def f_wish_paper : Fn := fn 3 5 (sSeq (sDrop (eCall f_demand_question (aCons (eVar 0) (aCons (eVar 1) (aCons (eVar 2) aNil)))))
  (sSeq (sSetCall 3 f_forced_plan (aCons (eVar 0) (aCons (eVar 1) aNil)))
  (sSeq (sIf (tVal (eOp2 dGe (eOp2 dIx (eOp2 dIx (ePeek 3) (eVar 2)) (eC (.int 0))) (eC (.int 0)))) (sFreeze 3 (sRet (eTup (aCons (eC (.str "forced")) (aCons (eVar 3) aNil))))) sNext)
  (sRet (eTup (aCons (eC (.str "held")) (aCons (eB dTuple (aCons (eShare (fComp [4] (iB dRange1 (aCons (eB dLen (aCons (eVar 0) aNil)) aNil)) (gName 4) (tVal (eOp2 dLt (eOp2 dIx (eOp2 dIx (ePeek 3) (eVar 4)) (eC (.int 0))) (eC (.int 0)))) (eVar 4))) aNil)) aNil)))))))
def f_law : Fn := fn 1 20 (sSeq (sSetCall 1 f__law_row (aCons (eCall f__law_cell (aCons (eVar 0) (aCons (eC (.int 0)) aNil))) (aCons (eOp2 dAdd (eShare (fLst (aCons (eC (.int 4)) (aCons (eC (.int 40)) (aCons (eC (.int 16)) (aCons (eC (.int 7)) (aCons (eC (.int 2)) (aCons (eC (.int 2)) (aCons (eC (.int 60)) (aCons (eC (.int 3)) aNil)))))))))) (eShare (fLst (aCons (eC (.int 6)) (aCons (eC (.int 5)) (aCons (eC (.int 2)) (aCons (eC (.int 60)) (aCons (eC (.int 60)) (aCons (eC (.int 60)) (aCons (eC (.int 12)) (aCons (eC (.int 60)) (aCons (eC (.int 60)) (aCons (eC (.int 6)) aNil))))))))))))) aNil)))
  (sSeq (sSet 2 (eOp2 dAdd (eC (.int 1)) (eOp2 dIx (ePeek 1) (eC (.int 2)))))
  (sSeq (sSet 3 (eOp2 dIx (ePeek 1) (eC (.int 3))))
  (sSeq (sIf (tVal (eOp2 dEq (eOp2 dIx (ePeek 1) (eC (.int 0))) (eC (.int 0)))) (sSeq (sSet 2 (eOp2 dAdd (eC (.int 1)) (eOp2 dIx (ePeek 1) (eC (.int 1)))))
  (sSet 3 (eOp2 dAdd (eC (.int 1)) (eOp2 dMod (eOp2 dIx (ePeek 1) (eC (.int 3))) (eC (.int 2)))))) sNext)
  (sSeq (sSetCall 4 f__law_moves (aCons (eVar 0) (aCons (eVar 2) (aCons (eVar 3) aNil))))
  (sSeq (sSet 5 (eAnd (eOp2 dEq (eOp2 dIx (ePeek 1) (eC (.int 4))) (eC (.int 1))) (eOp2 dGt (eVar 3) (eC (.int 0)))))
  (sSeq (sSetCall 6 f__law_row (aCons (eCall f__law_cell (aCons (eVar 0) (aCons (eC (.int 2)) aNil))) (aCons (eShare (fComp [7] (iB dRange1 (aCons (eVar 2) aNil)) (gName 7) tTrue (eC (.int 12000)))) aNil)))
  (sSeq (sIf (tVal (eVar 5)) (sFreeze 6 (sSetCallG 4 f__law_chained 4 (aCons (eShare (fComp [8] (iSeq (eVar 6)) (gName 8) tTrue (eOp2 dFdiv (eVar 8) (eC (.int 12))))) (aCons (eShare (fComp [8] (iSeq (eVar 6)) (gName 8) tTrue (eOp2 dMod (eB dInt (aCons (eVar 8) aNil)) (eC (.int 12))))) aNil)))) sNext)
  (sSeq (sSet 9 (eOp2 dIx (eShare (fLst (aCons (eC (.int 2)) (aCons (eC (.int 5)) (aCons (eC (.int 12)) aNil))))) (eOp2 dIx (ePeek 1) (eC (.int 7)))))
  (sSeq (sSetCall 10 f__law_row (aCons (eCall f__law_cell (aCons (eVar 0) (aCons (eC (.int 1)) aNil))) (aCons (eShare (fComp [7] (iB dRange1 (aCons (eVar 2) aNil)) (gName 7) tTrue (eVar 9))) aNil)))
  (sSeq (sIf (tAnd (tVal (eVar 5)) (tVal (eOp2 dEq (eOp2 dIx (ePeek 1) (eC (.int 7))) (eC (.int 2))))) (sSeq (sSet 11 (eOp2 dIx (eB dMinP (aCons (eShare (fComp [7] (iB dRange1 (aCons (eVar 2) aNil)) (gName 7) tTrue (eTup (aCons (eOp2 dFdiv (eOp2 dIx (ePeek 6) (eVar 7)) (eC (.int 12))) (aCons (eVar 7) aNil))))) aNil)) (eC (.int 1))))
  (sSetF 10 (fComp [7] (iB dRange1 (aCons (eVar 2) aNil)) (gName 7) tTrue (eB dInt (aCons (eOp2 dEq (eVar 7) (eVar 11)) aNil))))) sNext)
  (sSeq (sSetF 12 (fComp [7] (iB dRange1 (aCons (eVar 2) aNil)) (gName 7) (tVal (eOp2 dEq (eOp2 dIx (ePeek 10) (eVar 7)) (eC (.int 1)))) (eVar 7)))
  (sSeq (sSet 13 (eOp2 dMod (eOp2 dIx (ePeek 1) (eC (.int 6))) (eVar 2)))
  (sSeq (sFreeze 4 (sSetCall 14 f__law_copied (aCons (eVar 4) (aCons (eOp2 dEq (eOp2 dIx (ePeek 1) (eC (.int 5))) (eC (.int 1))) aNil))))
  (sSeq (sFreeze 14 (sIf (tVal (eOp2 dIsNot (eCall f_is_moves (aCons (eVar 14) aNil)) (eC (.bl true)))) (sRet (eC (.bl false))) sNext))
  (sSeq (sSet 15 (eB dTuple (aCons (eShare (fComp [7] (iB dRange1 (aCons (eVar 2) aNil)) (gName 7) tTrue (eTup (aCons (eOp1 dNeg (eC (.int 1))) (aCons (eOp1 dNeg (eC (.int 1))) aNil))))) aNil)))
  (sSeq (sIf (tVal (eOp2 dGt (eB dLen (aCons (ePeek 12) aNil)) (eC (.int 0)))) (sSeq (sFreeze 14 (sSetCall 16 f_wish_paper (aCons (eVar 14) (aCons (eShare (fB dList (aCons (ePeek 12) aNil))) (aCons (eOp2 dIx (ePeek 12) (eC (.int 0))) aNil)))))
  (sSeq (sFreeze 16 (sFreeze 12 (sFreeze 4 (sIf (tNot (tVal (eCall f__law_is_plan (aCons (eVar 16) (aCons (eVar 4) (aCons (eVar 12) aNil)))))) (sRet (eC (.bl false))) sNext))))
  (sSet 15 (eOp2 dIx (ePeek 16) (eC (.int 1)))))) sNext)
  (sSeq (sSetF 17 (fComp [7] (iB dRange1 (aCons (eVar 2) aNil)) (gName 7) (tVal (eOp2 dEq (eOp2 dIx (eOp2 dIx (eVar 15) (eVar 7)) (eC (.int 0))) (eOp1 dNeg (eC (.int 1))))) (eVar 7)))
  (sSeq (sSetF 18 (fB dList (aCons (ePeek 12) aNil)))
  (sSeq (sFreeze 18 (sFreeze 14 (sSetCall 19 f_wish_paper (aCons (eVar 14) (aCons (eVar 18) (aCons (eVar 13) aNil))))))
  (sSeq (sIf (tVal (eOp2 dIn (eVar 13) (ePeek 17))) (sFreeze 19 (sFreeze 17 (sFreeze 12 (sFreeze 4 (sIf (tOr (tNot (tVal (eCall f__law_trap_is_right (aCons (eVar 4) (aCons (eVar 12) (aCons (eVar 13) (aCons (eVar 17) aNil))))))) (tNot (tVal (eCall f__law_is_trap (aCons (eVar 19) (aCons (eVar 17) aNil)))))) (sRet (eC (.bl false))) sNext))))) (sFreeze 19 (sFreeze 12 (sFreeze 4 (sIf (tNot (tVal (eCall f__law_is_plan (aCons (eVar 19) (aCons (eVar 4) (aCons (eVar 12) aNil)))))) (sRet (eC (.bl false))) sNext)))))
  (sSeq (sFreeze 18 (sFreeze 17 (sFreeze 14 (sIf (tNot (tVal (eCall f__law_judges_agree (aCons (eVar 14) (aCons (eVar 18) (aCons (eVar 13) (aCons (eVar 15) (aCons (eVar 17) (aCons (eSl (ePeek 1) (oSome (eC (.int 8))) oNo) aNil))))))))) (sRet (eC (.bl false))) sNext))))
  (sFreeze 4 (sRet (eAnd (eOp2 dEq (ePeek 14) (eCall f__law_copied (aCons (eVar 4) (aCons (eOp2 dEq (eOp2 dIx (ePeek 1) (eC (.int 5))) (eC (.int 1))) aNil)))) (eOp2 dEq (ePeek 18) (ePeek 12)))))))))))))))))))))))))))
end Lw
namespace Lw
open M PySem PySem.Spec PyProof.Rows L2
def top (i : Nat) : Stmt := PySem.Challenge.pw_calmhouse_k61_wish_paper.main.body.getD i (.Pass ⟨0, 0, 0, 0⟩)
abbrev st__law_cell : Stmt := top 21
abbrev st__law_chained : Stmt := top 25
abbrev st__law_copied : Stmt := top 26
abbrev st__law_is_paper : Stmt := top 32
abbrev st__law_best : Stmt := top 30
abbrev st__law_is_integer : Stmt := top 27
abbrev st__law_plan_is_right : Stmt := top 28
abbrev st__law_plan_is_least : Stmt := top 31
abbrev st__law_is_plan : Stmt := top 34
abbrev st__law_is_trap : Stmt := top 33
abbrev st__law_changed_plan : Stmt := top 36
abbrev st__law_changed_trap : Stmt := top 37
abbrev st__law_says : Stmt := top 35
abbrev st__law_trap_is_right : Stmt := top 29
abbrev st_is_integer : Stmt := top 7
abbrev st_is_place : Stmt := top 9
abbrev st_pair_is_right : Stmt := top 16
abbrev st_shows_plan : Stmt := top 17
abbrev st_holds_off : Stmt := top 18
abbrev st_shows_trap : Stmt := top 19
abbrev st__law_judges_agree : Stmt := top 38
abbrev st__law_row : Stmt := top 22
abbrev st__law_targets : Stmt := top 23
abbrev st__law_moves : Stmt := top 24
abbrev st_are_places : Stmt := top 10
abbrev st_is_moves : Stmt := top 11
abbrev st_demand_question : Stmt := top 12
abbrev st_forcing_event : Stmt := top 13
abbrev st_forced_plan : Stmt := top 14
abbrev st_wish_paper : Stmt := top 15
abbrev st_law : Stmt := top 39
structure Ad where
  f__law_cell : Addr
  d__law_cell : FuncData
  f__law_chained : Addr
  d__law_chained : FuncData
  f__law_copied : Addr
  d__law_copied : FuncData
  f__law_is_paper : Addr
  d__law_is_paper : FuncData
  f__law_best : Addr
  d__law_best : FuncData
  f__law_is_integer : Addr
  d__law_is_integer : FuncData
  f__law_plan_is_right : Addr
  d__law_plan_is_right : FuncData
  f__law_plan_is_least : Addr
  d__law_plan_is_least : FuncData
  f__law_is_plan : Addr
  d__law_is_plan : FuncData
  f__law_is_trap : Addr
  d__law_is_trap : FuncData
  f__law_changed_plan : Addr
  d__law_changed_plan : FuncData
  f__law_changed_trap : Addr
  d__law_changed_trap : FuncData
  f__law_says : Addr
  d__law_says : FuncData
  f__law_trap_is_right : Addr
  d__law_trap_is_right : FuncData
  f_is_integer : Addr
  d_is_integer : FuncData
  f_is_place : Addr
  d_is_place : FuncData
  f_pair_is_right : Addr
  d_pair_is_right : FuncData
  f_shows_plan : Addr
  d_shows_plan : FuncData
  f_holds_off : Addr
  d_holds_off : FuncData
  f_shows_trap : Addr
  d_shows_trap : FuncData
  f__law_judges_agree : Addr
  d__law_judges_agree : FuncData
  f__law_row : Addr
  d__law_row : FuncData
  f__law_targets : Addr
  d__law_targets : FuncData
  f__law_moves : Addr
  d__law_moves : FuncData
  f_are_places : Addr
  d_are_places : FuncData
  f_is_moves : Addr
  d_is_moves : FuncData
  f_demand_question : Addr
  d_demand_question : FuncData
  f_forcing_event : Addr
  d_forcing_event : FuncData
  f_forced_plan : Addr
  d_forced_plan : FuncData
  f_wish_paper : Addr
  d_wish_paper : FuncData
  f_law : Addr
  d_law : FuncData
  c_HouseError : Addr
  c_BadOrder : Addr
  c_BadGraph : Addr
  v_MOST_EVENTS : Value
  v_MOST_RESTS : Value
def ca (A : Ad) : Nat → Addr := fun n => match n with
  | 0 => A.c_HouseError
  | 9 => A.c_BadOrder
  | 11 => A.c_BadGraph
  | _ => 0
structure Txt (A : Ad) (P : Program) (w : World) (K : PySem.W.Frag) (mg : Str → Option Value) : Prop where
  sup : mg "super" = none
  b_bool : mg "bool" = none
  b_enumerate : mg "enumerate" = none
  b_int : mg "int" = none
  b_isinstance : mg "isinstance" = none
  b_len : mg "len" = none
  b_list : mg "list" = none
  b_max : mg "max" = none
  b_min : mg "min" = none
  b_range : mg "range" = none
  b_set : mg "set" = none
  b_sorted : mg "sorted" = none
  b_str : mg "str" = none
  b_tuple : mg "tuple" = none
  g_MOST_EVENTS : mg "MOST_EVENTS" = some A.v_MOST_EVENTS ∧ RelV (.int (6)) A.v_MOST_EVENTS
  g_MOST_RESTS : mg "MOST_RESTS" = some A.v_MOST_RESTS ∧ RelV (.int (60)) A.v_MOST_RESTS
  F__law_cell : Fun K "_law_cell" "_law_cell" st__law_cell A.f__law_cell A.d__law_cell
  m__law_cell : mg "_law_cell" = some (.ref A.f__law_cell)
  k__law_cell : PySem.W.keepIn K (.ref A.f__law_cell) = true
  n__law_cell : Binds K A.d__law_cell ["script", "k"] []
  F__law_chained : Fun K "_law_chained" "_law_chained" st__law_chained A.f__law_chained A.d__law_chained
  m__law_chained : mg "_law_chained" = some (.ref A.f__law_chained)
  k__law_chained : PySem.W.keepIn K (.ref A.f__law_chained) = true
  n__law_chained : Binds K A.d__law_chained ["moves", "keys", "events"] []
  F__law_copied : Fun K "_law_copied" "_law_copied" st__law_copied A.f__law_copied A.d__law_copied
  m__law_copied : mg "_law_copied" = some (.ref A.f__law_copied)
  k__law_copied : PySem.W.keepIn K (.ref A.f__law_copied) = true
  n__law_copied : Binds K A.d__law_copied ["moves", "as_tuples"] []
  F__law_is_paper : Fun K "_law_is_paper" "_law_is_paper" st__law_is_paper A.f__law_is_paper A.d__law_is_paper
  m__law_is_paper : mg "_law_is_paper" = some (.ref A.f__law_is_paper)
  k__law_is_paper : PySem.W.keepIn K (.ref A.f__law_is_paper) = true
  n__law_is_paper : Binds K A.d__law_is_paper ["actual", "word"] []
  F__law_best : Fun K "_law_best" "_law_best" st__law_best A.f__law_best A.d__law_best
  m__law_best : mg "_law_best" = some (.ref A.f__law_best)
  k__law_best : PySem.W.keepIn K (.ref A.f__law_best) = true
  n__law_best : Binds K A.d__law_best ["row", "plan"] []
  F__law_is_integer : Fun K "_law_is_integer" "_law_is_integer" st__law_is_integer A.f__law_is_integer A.d__law_is_integer
  m__law_is_integer : mg "_law_is_integer" = some (.ref A.f__law_is_integer)
  k__law_is_integer : PySem.W.keepIn K (.ref A.f__law_is_integer) = true
  n__law_is_integer : Binds K A.d__law_is_integer ["value"] []
  F__law_plan_is_right : Fun K "_law_plan_is_right" "_law_plan_is_right" st__law_plan_is_right A.f__law_plan_is_right A.d__law_plan_is_right
  m__law_plan_is_right : mg "_law_plan_is_right" = some (.ref A.f__law_plan_is_right)
  k__law_plan_is_right : PySem.W.keepIn K (.ref A.f__law_plan_is_right) = true
  n__law_plan_is_right : Binds K A.d__law_plan_is_right ["moves", "goals", "start", "plan"] []
  F__law_plan_is_least : Fun K "_law_plan_is_least" "_law_plan_is_least" st__law_plan_is_least A.f__law_plan_is_least A.d__law_plan_is_least
  m__law_plan_is_least : mg "_law_plan_is_least" = some (.ref A.f__law_plan_is_least)
  k__law_plan_is_least : PySem.W.keepIn K (.ref A.f__law_plan_is_least) = true
  n__law_plan_is_least : Binds K A.d__law_plan_is_least ["moves", "goals", "plan"] []
  F__law_is_plan : Fun K "_law_is_plan" "_law_is_plan" st__law_is_plan A.f__law_is_plan A.d__law_is_plan
  m__law_is_plan : mg "_law_is_plan" = some (.ref A.f__law_is_plan)
  k__law_is_plan : PySem.W.keepIn K (.ref A.f__law_is_plan) = true
  n__law_is_plan : Binds K A.d__law_is_plan ["actual", "moves", "goals"] []
  F__law_is_trap : Fun K "_law_is_trap" "_law_is_trap" st__law_is_trap A.f__law_is_trap A.d__law_is_trap
  m__law_is_trap : mg "_law_is_trap" = some (.ref A.f__law_is_trap)
  k__law_is_trap : PySem.W.keepIn K (.ref A.f__law_is_trap) = true
  n__law_is_trap : Binds K A.d__law_is_trap ["actual", "trap"] []
  F__law_changed_plan : Fun K "_law_changed_plan" "_law_changed_plan" st__law_changed_plan A.f__law_changed_plan A.d__law_changed_plan
  m__law_changed_plan : mg "_law_changed_plan" = some (.ref A.f__law_changed_plan)
  k__law_changed_plan : PySem.W.keepIn K (.ref A.f__law_changed_plan) = true
  n__law_changed_plan : Binds K A.d__law_changed_plan ["plan", "change", "numbers"] []
  F__law_changed_trap : Fun K "_law_changed_trap" "_law_changed_trap" st__law_changed_trap A.f__law_changed_trap A.d__law_changed_trap
  m__law_changed_trap : mg "_law_changed_trap" = some (.ref A.f__law_changed_trap)
  k__law_changed_trap : PySem.W.keepIn K (.ref A.f__law_changed_trap) = true
  n__law_changed_trap : Binds K A.d__law_changed_trap ["trap", "change", "numbers", "size"] []
  F__law_says : Fun K "_law_says" "_law_says" st__law_says A.f__law_says A.d__law_says
  m__law_says : mg "_law_says" = some (.ref A.f__law_says)
  k__law_says : PySem.W.keepIn K (.ref A.f__law_says) = true
  n__law_says : Binds K A.d__law_says ["actual", "due"] []
  F__law_trap_is_right : Fun K "_law_trap_is_right" "_law_trap_is_right" st__law_trap_is_right A.f__law_trap_is_right A.d__law_trap_is_right
  m__law_trap_is_right : mg "_law_trap_is_right" = some (.ref A.f__law_trap_is_right)
  k__law_trap_is_right : PySem.W.keepIn K (.ref A.f__law_trap_is_right) = true
  n__law_trap_is_right : Binds K A.d__law_trap_is_right ["moves", "goals", "start", "trap"] []
  F_is_integer : Fun K "is_integer" "is_integer" st_is_integer A.f_is_integer A.d_is_integer
  m_is_integer : mg "is_integer" = some (.ref A.f_is_integer)
  k_is_integer : PySem.W.keepIn K (.ref A.f_is_integer) = true
  n_is_integer : Binds K A.d_is_integer ["value"] []
  F_is_place : Fun K "is_place" "is_place" st_is_place A.f_is_place A.d_is_place
  m_is_place : mg "is_place" = some (.ref A.f_is_place)
  k_is_place : PySem.W.keepIn K (.ref A.f_is_place) = true
  n_is_place : Binds K A.d_is_place ["value", "size"] []
  F_pair_is_right : Fun K "pair_is_right" "pair_is_right" st_pair_is_right A.f_pair_is_right A.d_pair_is_right
  m_pair_is_right : mg "pair_is_right" = some (.ref A.f_pair_is_right)
  k_pair_is_right : PySem.W.keepIn K (.ref A.f_pair_is_right) = true
  n_pair_is_right : Binds K A.d_pair_is_right ["moves", "plan", "rank", "event", "rest"] []
  F_shows_plan : Fun K "shows_plan" "shows_plan" st_shows_plan A.f_shows_plan A.d_shows_plan
  m_shows_plan : mg "shows_plan" = some (.ref A.f_shows_plan)
  k_shows_plan : PySem.W.keepIn K (.ref A.f_shows_plan) = true
  n_shows_plan : Binds K A.d_shows_plan ["moves", "goals", "start", "plan"] []
  F_holds_off : Fun K "holds_off" "holds_off" st_holds_off A.f_holds_off A.d_holds_off
  m_holds_off : mg "holds_off" = some (.ref A.f_holds_off)
  k_holds_off : PySem.W.keepIn K (.ref A.f_holds_off) = true
  n_holds_off : Binds K A.d_holds_off ["targets", "endless", "trap"] []
  F_shows_trap : Fun K "shows_trap" "shows_trap" st_shows_trap A.f_shows_trap A.d_shows_trap
  m_shows_trap : mg "shows_trap" = some (.ref A.f_shows_trap)
  k_shows_trap : PySem.W.keepIn K (.ref A.f_shows_trap) = true
  n_shows_trap : Binds K A.d_shows_trap ["moves", "goals", "start", "trap"] []
  F__law_judges_agree : Fun K "_law_judges_agree" "_law_judges_agree" st__law_judges_agree A.f__law_judges_agree A.d__law_judges_agree
  m__law_judges_agree : mg "_law_judges_agree" = some (.ref A.f__law_judges_agree)
  k__law_judges_agree : PySem.W.keepIn K (.ref A.f__law_judges_agree) = true
  n__law_judges_agree : Binds K A.d__law_judges_agree ["moves", "goals", "start", "plan", "trap", "row"] []
  F__law_row : Fun K "_law_row" "_law_row" st__law_row A.f__law_row A.d__law_row
  m__law_row : mg "_law_row" = some (.ref A.f__law_row)
  k__law_row : PySem.W.keepIn K (.ref A.f__law_row) = true
  n__law_row : Binds K A.d__law_row ["cell", "sizes"] []
  F__law_targets : Fun K "_law_targets" "_law_targets" st__law_targets A.f__law_targets A.d__law_targets
  m__law_targets : mg "_law_targets" = some (.ref A.f__law_targets)
  k__law_targets : PySem.W.keepIn K (.ref A.f__law_targets) = true
  n__law_targets : Binds K A.d__law_targets ["row", "size"] []
  F__law_moves : Fun K "_law_moves" "_law_moves" st__law_moves A.f__law_moves A.d__law_moves
  m__law_moves : mg "_law_moves" = some (.ref A.f__law_moves)
  k__law_moves : PySem.W.keepIn K (.ref A.f__law_moves) = true
  n__law_moves : Binds K A.d__law_moves ["script", "size", "many"] []
  F_are_places : Fun K "are_places" "are_places" st_are_places A.f_are_places A.d_are_places
  m_are_places : mg "are_places" = some (.ref A.f_are_places)
  k_are_places : PySem.W.keepIn K (.ref A.f_are_places) = true
  n_are_places : Binds K A.d_are_places ["row", "size"] []
  F_is_moves : Fun K "is_moves" "is_moves" st_is_moves A.f_is_moves A.d_is_moves
  m_is_moves : mg "is_moves" = some (.ref A.f_is_moves)
  k_is_moves : PySem.W.keepIn K (.ref A.f_is_moves) = true
  n_is_moves : Binds K A.d_is_moves ["moves"] []
  F_demand_question : Fun K "demand_question" "demand_question" st_demand_question A.f_demand_question A.d_demand_question
  m_demand_question : mg "demand_question" = some (.ref A.f_demand_question)
  k_demand_question : PySem.W.keepIn K (.ref A.f_demand_question) = true
  n_demand_question : Binds K A.d_demand_question ["moves", "goals", "start"] []
  F_forcing_event : Fun K "forcing_event" "forcing_event" st_forcing_event A.f_forcing_event A.d_forcing_event
  m_forcing_event : mg "forcing_event" = some (.ref A.f_forcing_event)
  k_forcing_event : PySem.W.keepIn K (.ref A.f_forcing_event) = true
  n_forcing_event : Binds K A.d_forcing_event ["row", "plan"] []
  F_forced_plan : Fun K "forced_plan" "forced_plan" st_forced_plan A.f_forced_plan A.d_forced_plan
  m_forced_plan : mg "forced_plan" = some (.ref A.f_forced_plan)
  k_forced_plan : PySem.W.keepIn K (.ref A.f_forced_plan) = true
  n_forced_plan : Binds K A.d_forced_plan ["moves", "goals"] []
  F_wish_paper : Fun K "wish_paper" "wish_paper" st_wish_paper A.f_wish_paper A.d_wish_paper
  m_wish_paper : mg "wish_paper" = some (.ref A.f_wish_paper)
  k_wish_paper : PySem.W.keepIn K (.ref A.f_wish_paper) = true
  n_wish_paper : Binds K A.d_wish_paper ["moves", "goals", "start"] []
  F_law : Fun K "law" "law" st_law A.f_law A.d_law
  m_law : mg "law" = some (.ref A.f_law)
  k_law : PySem.W.keepIn K (.ref A.f_law) = true
  n_law : Binds K A.d_law ["script"] []
  gc_BadOrder : mg "BadOrder" = some (.ref A.c_BadOrder)
  kc_BadOrder : PySem.W.keepIn K (.ref A.c_BadOrder) = true
  gc_BadGraph : mg "BadGraph" = some (.ref A.c_BadGraph)
  kc_BadGraph : PySem.W.keepIn K (.ref A.c_BadGraph) = true
  ra_BadOrder : RaisesK K (.ref A.c_BadOrder)
  xi_BadOrder : PySem.W.excIn K A.c_BadOrder bmVE "ValueError.__new__" = true
  ra_BadGraph : RaisesK K (.ref A.c_BadGraph)
  xi_BadGraph : PySem.W.excIn K A.c_BadGraph bmVE "ValueError.__new__" = true
section
variable {A : Ad} {P : Program} {w : World} {K : PySem.W.Frag} {mg : Str → Option Value} {base : Heap}
theorem ok__law_cell (T : Txt A P w K mg) : FnOk P w K mg base (L2N.CX P w) 2 A.f__law_cell A.d__law_cell ["script", "k"] (spF K (ca A) f__law_cell) := by
  have S : FnScope ["script", "k"] ["script", "k"] (defScope st__law_cell) := ⟨rfl, rfl, rfl, by decide +kernel, rfl, by decide +kernel, by decide +kernel⟩
  refine fn_ok (k := 1) (N := ["script", "k"]) T.F__law_cell S rfl rfl (by decide) fun cdv Ar outer s H E hr tk hp => ?_
  exact (mss_cons (ms_if (mt_cmp (op2_lt (hu2 hr)) (me_p (me_var (pv 1))) (me_p (me_b bc_len rfl T.b_len rfl (mpa_cons (me_p (me_var (pv 0))) mpa_nil))) rfl) (mss_one (ms_ret (me_ix (hu64 hr) (me_p (me_var (pv 0))) (me_p (me_var (pv 1))) (fun _ _ => rfl)))) mss_nil)
  (mss_one (ms_ret me_int)))
theorem ok__law_chained (T : Txt A P w K mg) : FnOk P w K mg base (L2N.CX P w) 2 A.f__law_chained A.d__law_chained ["moves", "keys", "events"] (spG K (ca A) f__law_chained) := by
  have S : FnScope ["moves", "keys", "events", "ranked", "k", "line", "pair", "at", "rest", "good", "pairs", "m", "targets", "endless", "earlier"] ["moves", "keys", "events"] (defScope st__law_chained) := ⟨rfl, rfl, rfl, by decide +kernel, rfl, by decide +kernel, by decide +kernel⟩
  refine fng_ok (k := 1) (N := ["moves", "keys", "events", "ranked", "k", "line", "pair", "at", "rest", "good", "pairs", "m", "targets", "endless", "earlier"]) T.F__law_chained S rfl rfl (by decide) fun cdv Ar outer s H E hr tk hp => ?_
  exact (mss_cons (ms_setF (i := 3) S.nd rfl (by first | exact Or.inl rfl | exact Or.inr rfl) (mf_b bf_sortedP rfl T.b_sorted rfl (mpa_cons (me_p (mf_e (mf_comp (own := [("k", 4)]) rfl S.nd (mi_range1 rfl T.b_range (ma_cons (me_b bc_len rfl T.b_len rfl (mpa_cons (mp_var (pv 0)) mpa_nil)) ma_nil)) (blkOk_by (by first | (show blkC ["moves", "keys", "events", "ranked", "k", "line", "pair", "at", "rest", "good", "pairs", "m", "targets", "endless", "earlier"] (defScope st__law_chained) _ _ = true; decide +kernel) | exact rfl)) rfl (fun _ _ _ _ _ => (mg_name (i := 4) S.nd rfl (by first | exact Or.inl rfl | exact Or.inr rfl) (by decide))) (fun _ _ _ _ _ => mts_nil) (fun _ _ _ _ _ => (me_tup (ma_cons (me_ix (hu64 hr) (me_p (me_var (pv 1))) (me_p (me_var (pv 4))) (fun _ _ => rfl)) (ma_cons (me_var (pv 4)) ma_nil))))))) mpa_nil)))
  (mss_cons (ms_freeze (ms_setComp (i := 5) (own := [("pair", 6)]) rfl S.nd rfl rfl (sw_true rfl rfl rfl rfl) (mi_seq (me_var (pv 3))) (blkOk_by (by first | (show blkC ["moves", "keys", "events", "ranked", "k", "line", "pair", "at", "rest", "good", "pairs", "m", "targets", "endless", "earlier"] (defScope st__law_chained) _ _ = true; decide +kernel) | exact rfl)) rfl (fun _ _ _ _ _ => (mg_name (i := 6) S.nd rfl (by first | exact Or.inl rfl | exact Or.inr rfl) (by decide))) (fun _ _ _ _ _ => mts_nil) (fun _ _ _ _ _ => (me_ix (hu64 hr) (me_p (me_var (pv 6))) (me_p me_int) (fun _ _ => rfl)))))
  (mss_cons (ms_for (vs := [7]) hp rfl (mi_range2 rfl T.b_range (ma_cons me_int (ma_cons (me_b bc_len rfl T.b_len rfl (mpa_cons (mp_var (pv 5)) mpa_nil)) ma_nil))) (mg_name (i := 7) S.nd rfl (by first | exact Or.inl rfl | exact Or.inr rfl) (by decide)) (mss_cons (ms_set (i := 8) S.nd rfl (by first | exact Or.inl rfl | exact Or.inr rfl) (me_ix (hu64 hr) (mp_var (pv 5)) (me_p (me_var (pv 7))) (fun _ _ => rfl)))
  (mss_cons (ms_set (i := 9) S.nd rfl (by first | exact Or.inl rfl | exact Or.inr rfl) (me_op op2_mod (me_p (me_ix (hu64 hr) (me_p (me_var (pv 2))) (me_p (me_var (pv 7))) (fun _ _ => rfl))) (me_p (me_b bc_len rfl T.b_len rfl (mpa_cons (me_p (me_ix (hu64 hr) (mp_var (pv 0)) (me_p (me_var (pv 8))) (fun _ _ => rfl))) mpa_nil)))))
  (mss_cons (ms_setF (i := 10) S.nd rfl (by first | exact Or.inl rfl | exact Or.inr rfl) (mf_lst ma_nil))
  (mss_cons (ms_for (vs := [11]) hp rfl (mi_range1 rfl T.b_range (ma_cons (me_b bc_len rfl T.b_len rfl (mpa_cons (me_p (me_ix (hu64 hr) (mp_var (pv 0)) (me_p (me_var (pv 8))) (fun _ _ => rfl))) mpa_nil)) ma_nil)) (mg_name (i := 11) S.nd rfl (by first | exact Or.inl rfl | exact Or.inr rfl) (by decide)) (mss_cons (ms_setTg (vs := [12, 13]) (me_ix (hu64 hr) (me_p (me_ix (hu64 hr) (mp_var (pv 0)) (me_p (me_var (pv 8))) (fun _ _ => rfl))) (me_p (me_var (pv 11))) (fun _ _ => rfl)) (mg_tup rfl (mgs_cons (mg_name (i := 12) S.nd rfl (by first | exact Or.inl rfl | exact Or.inr rfl) (by decide)) (mgs_cons (mg_name (i := 13) S.nd rfl (by first | exact Or.inl rfl | exact Or.inr rfl) (by decide)) mgs_nil))))
  (mss_one (ms_if (mt_cmp (op2_eq (hu64 hr)) (me_p (me_var (pv 11))) (me_p (me_var (pv 9))) rfl) (mss_cons (ms_setF (i := 14) S.nd rfl (by first | exact Or.inl rfl | exact Or.inr rfl) (mf_lst (ma_cons (me_ix (hu64 hr) (mp_var (pv 5)) (me_p (me_op op2_sub (me_p (me_var (pv 7))) (me_p me_int))) (fun _ _ => rfl)) (ma_cons (me_ix (hu64 hr) (mp_var (pv 5)) (me_p (me_op op2_mod (me_p (me_ty bc_int rfl T.b_int rfl (mpa_cons (me_p (me_ix (hu64 hr) (me_p (me_var (pv 1))) (me_p (me_var (pv 7))) (fun _ _ => rfl))) mpa_nil))) (me_p (me_var (pv 7))))) (fun _ _ => rfl)) ma_nil))))
  (mss_one (ms_append (i := 10) (pe_bm PySem.F.plainAttrs_list PySem.F.slot_list_append PySem.F.type_list_append mt_append (pv 10) (pa_cons (me_tup (ma_cons (mf_e (mf_sortSet rfl rfl T.b_sorted rfl T.b_set (me_p (me_sl (mp_var (pv 14)) mo_no (mo_some (me_op op2_add (me_p me_int) (me_p (me_op op2_mod (me_p (me_op op2_fdiv (me_p (me_ix (hu64 hr) (me_p (me_var (pv 2))) (me_p (me_var (pv 7))) (fun _ _ => rfl))) (me_p me_int))) (me_p me_int))))))))) (ma_cons me_bl ma_nil))) pa_nil))))) (mss_one (ms_append (i := 10) (pe_bm PySem.F.plainAttrs_list PySem.F.slot_list_append PySem.F.type_list_append mt_append (pv 10) (pa_cons (me_tup (ma_cons (mf_e (mf_sortSet rfl rfl T.b_sorted rfl T.b_set (me_p (me_op op2_add (me_p (me_var (pv 12))) (me_p (mf_e (mf_lst (ma_cons (me_ix (hu64 hr) (mp_var (pv 5)) (me_p (me_b (bc_min2 rfl) rfl T.b_min rfl (mpa_cons (me_p (me_op op2_add (me_p (me_var (pv 7))) (me_p me_int))) (mpa_cons (me_p (me_op op2_sub (me_p (me_b bc_len rfl T.b_len rfl (mpa_cons (mp_var (pv 5)) mpa_nil))) (me_p me_int))) mpa_nil)))) (fun _ _ => rfl)) ma_nil)))))))) (ma_cons (me_var (pv 13)) ma_nil))) pa_nil))))))))
  (mss_one (ms_freeze (ms_setIx (i := 0) (ps_asg (me_var (pv 10)) (pg_sub (pv 0) (me_p (me_var (pv 8))) set_list))))))))))
  (mss_one (ms_retOwn (pv 0))))))
theorem ok__law_copied (T : Txt A P w K mg) : FnOk P w K mg base (L2N.CX P w) 2 A.f__law_copied A.d__law_copied ["moves", "as_tuples"] (spF K (ca A) f__law_copied) := by
  have S : FnScope ["moves", "as_tuples", "pair", "row"] ["moves", "as_tuples"] (defScope st__law_copied) := ⟨rfl, rfl, rfl, by decide +kernel, rfl, by decide +kernel, by decide +kernel⟩
  refine fn_ok (k := 1) (N := ["moves", "as_tuples", "pair", "row"]) T.F__law_copied S rfl rfl (by decide) fun cdv Ar outer s H E hr tk hp => ?_
  exact (mss_cons (ms_if (mt_val (me_var (pv 1))) (mss_one (ms_ret (me_ty bc_tuple rfl T.b_tuple rfl (mpa_cons (me_p (mf_e (mf_comp (own := [("row", 3)]) rfl S.nd (mi_seq (me_var (pv 0))) (blkOk_by (by first | (show blkC ["moves", "as_tuples", "pair", "row"] (defScope st__law_copied) _ _ = true; decide +kernel) | exact rfl)) rfl (fun _ _ _ _ _ => (mg_name (i := 3) S.nd rfl (by first | exact Or.inl rfl | exact Or.inr rfl) (by decide))) (fun _ _ _ _ _ => mts_nil) (fun _ _ _ _ _ => (me_ty bc_tuple rfl T.b_tuple rfl (mpa_cons (me_p (mf_e (mf_comp (own := [("pair", 2)]) rfl S.nd (mi_seq (me_var (pv 3))) (blkOk_by (by first | (show blkC ["moves", "as_tuples", "pair", "row"] (defScope st__law_copied) _ _ = true; decide +kernel) | exact rfl)) rfl (fun _ _ _ _ _ => (mg_name (i := 2) S.nd rfl (by first | exact Or.inl rfl | exact Or.inr rfl) (by decide))) (fun _ _ _ _ _ => mts_nil) (fun _ _ _ _ _ => (me_tup (ma_cons (me_ty bc_tuple rfl T.b_tuple rfl (mpa_cons (me_p (me_ix (hu64 hr) (me_p (me_var (pv 2))) (me_p me_int) (fun _ _ => rfl))) mpa_nil)) (ma_cons (me_ix (hu64 hr) (me_p (me_var (pv 2))) (me_p me_int) (fun _ _ => rfl)) ma_nil))))))) mpa_nil)))))) mpa_nil)))) mss_nil)
  (mss_one (ms_retF (mf_comp (own := [("row", 3)]) rfl S.nd (mi_seq (me_var (pv 0))) (blkOk_by (by first | (show blkC ["moves", "as_tuples", "pair", "row"] (defScope st__law_copied) _ _ = true; decide +kernel) | exact rfl)) rfl (fun _ _ _ _ _ => (mg_name (i := 3) S.nd rfl (by first | exact Or.inl rfl | exact Or.inr rfl) (by decide))) (fun _ _ _ _ _ => mts_nil) (fun _ _ _ _ _ => (mf_e (mf_comp (own := [("pair", 2)]) rfl S.nd (mi_seq (me_var (pv 3))) (blkOk_by (by first | (show blkC ["moves", "as_tuples", "pair", "row"] (defScope st__law_copied) _ _ = true; decide +kernel) | exact rfl)) rfl (fun _ _ _ _ _ => (mg_name (i := 2) S.nd rfl (by first | exact Or.inl rfl | exact Or.inr rfl) (by decide))) (fun _ _ _ _ _ => mts_nil) (fun _ _ _ _ _ => (me_tup (ma_cons (mf_e (mf_ty bf_list rfl T.b_list rfl (mpa_cons (me_p (me_ix (hu64 hr) (me_p (me_var (pv 2))) (me_p me_int) (fun _ _ => rfl))) mpa_nil))) (ma_cons (me_ix (hu64 hr) (me_p (me_var (pv 2))) (me_p me_int) (fun _ _ => rfl)) ma_nil)))))))))))
theorem ok__law_is_paper (T : Txt A P w K mg) : FnOk P w K mg base (L2N.CX P w) 2 A.f__law_is_paper A.d__law_is_paper ["actual", "word"] (spF K (ca A) f__law_is_paper) := by
  have S : FnScope ["actual", "word"] ["actual", "word"] (defScope st__law_is_paper) := ⟨rfl, rfl, rfl, by decide +kernel, rfl, by decide +kernel, by decide +kernel⟩
  refine fn_ok (k := 1) (N := ["actual", "word"]) T.F__law_is_paper S rfl rfl (by decide) fun cdv Ar outer s H E hr tk hp => ?_
  exact (mss_cons (ms_if (mt_w (mw_or (mt_not (mt_val (me_b bc_isi rfl T.b_isinstance rfl (mpa_cons (me_p (me_var (pv 0))) (mpa_cons (me_p (me_tyName rfl T.b_tuple rfl)) mpa_nil))))) (mw_or1 (mt_cmp (op2_ne (hu64 hr)) (me_p (me_b bc_len rfl T.b_len rfl (mpa_cons (me_p (me_var (pv 0))) mpa_nil))) (me_p me_int) rfl)))) (mss_one (ms_ret me_bl)) mss_nil)
  (mss_one (ms_ret (me_and (me_b bc_isi rfl T.b_isinstance rfl (mpa_cons (me_p (me_ix (hu64 hr) (me_p (me_var (pv 0))) (me_p me_int) (fun _ _ => rfl))) (mpa_cons (me_p (me_tyName rfl T.b_str rfl)) mpa_nil))) (me_and (me_cmp (op2_eq (hu64 hr)) (me_p (me_ix (hu64 hr) (me_p (me_var (pv 0))) (me_p me_int) (fun _ _ => rfl))) (me_p (me_var (pv 1))) rfl) (me_one (me_b bc_isi rfl T.b_isinstance rfl (mpa_cons (me_p (me_ix (hu64 hr) (me_p (me_var (pv 0))) (me_p me_int) (fun _ _ => rfl))) (mpa_cons (me_p (me_tyName rfl T.b_tuple rfl)) mpa_nil)))))))))
theorem ok__law_best (T : Txt A P w K mg) : FnOk P w K mg base (L2N.CX P w) 2 A.f__law_best A.d__law_best ["row", "plan"] (spF K (ca A) f__law_best) := by
  have S : FnScope ["row", "plan", "best", "event", "targets", "endless", "ranks", "after"] ["row", "plan"] (defScope st__law_best) := ⟨rfl, rfl, rfl, by decide +kernel, rfl, by decide +kernel, by decide +kernel⟩
  refine fn_ok (k := 1) (N := ["row", "plan", "best", "event", "targets", "endless", "ranks", "after"]) T.F__law_best S rfl rfl (by decide) fun cdv Ar outer s H E hr tk hp => ?_
  exact (mss_cons (ms_set (i := 2) S.nd rfl (by first | exact Or.inl rfl | exact Or.inr rfl) (me_tup (ma_cons (me_neg me_int) (ma_cons (me_neg me_int) ma_nil))))
  (mss_cons (ms_for (vs := [3]) hp rfl (mi_range1 rfl T.b_range (ma_cons (me_b bc_len rfl T.b_len rfl (mpa_cons (me_p (me_var (pv 0))) mpa_nil)) ma_nil)) (mg_name (i := 3) S.nd rfl (by first | exact Or.inl rfl | exact Or.inr rfl) (by decide)) (mss_cons (ms_setTg (vs := [4, 5]) (me_ix (hu64 hr) (me_p (me_var (pv 0))) (me_p (me_var (pv 3))) (fun _ _ => rfl)) (mg_tup rfl (mgs_cons (mg_name (i := 4) S.nd rfl (by first | exact Or.inl rfl | exact Or.inr rfl) (by decide)) (mgs_cons (mg_name (i := 5) S.nd rfl (by first | exact Or.inl rfl | exact Or.inr rfl) (by decide)) mgs_nil))))
  (mss_cons (ms_setComp (i := 6) (own := [("after", 7)]) rfl S.nd rfl rfl (sw_true rfl rfl rfl rfl) (mi_seq (me_var (pv 4))) (blkOk_by (by first | (show blkC ["row", "plan", "best", "event", "targets", "endless", "ranks", "after"] (defScope st__law_best) _ _ = true; decide +kernel) | exact rfl)) rfl (fun _ _ _ _ _ => (mg_name (i := 7) S.nd rfl (by first | exact Or.inl rfl | exact Or.inr rfl) (by decide))) (fun _ _ _ _ _ => mts_nil) (fun _ _ _ _ _ => (me_ix (hu64 hr) (me_p (me_ix (hu64 hr) (me_p (me_var (pv 1))) (me_p (me_var (pv 7))) (fun _ _ => rfl))) (me_p me_int) (fun _ _ => rfl))))
  (mss_one (ms_if (mt_w (mw_and (mt_not (mt_val (me_var (pv 5)))) (mw_and (mt_cmp op2_gt (me_p (me_b bc_len rfl T.b_len rfl (mpa_cons (mp_var (pv 6)) mpa_nil))) (me_p me_int) rfl) (mw_and1 (mt_cmp op2_ge (me_p (me_b (bc_min1 rfl) rfl T.b_min rfl (mpa_cons (mp_var (pv 6)) mpa_nil))) (me_p me_int) rfl))))) (mss_one (ms_if (mt_w (mw_or (mt_cmp (op2_lt (hu2 hr)) (me_p (me_ix (hu64 hr) (me_p (me_var (pv 2))) (me_p me_int) (fun _ _ => rfl))) (me_p me_int) rfl) (mw_or1 (mt_cmp (op2_lt (hu2 hr)) (me_p (me_op op2_add (me_p (me_b (bc_max1 rfl) rfl T.b_max rfl (mpa_cons (mp_var (pv 6)) mpa_nil))) (me_p me_int))) (me_p (me_ix (hu64 hr) (me_p (me_var (pv 2))) (me_p me_int) (fun _ _ => rfl))) rfl)))) (mss_one (ms_set (i := 2) S.nd rfl (by first | exact Or.inl rfl | exact Or.inr rfl) (me_tup (ma_cons (me_op op2_add (me_p (me_b (bc_max1 rfl) rfl T.b_max rfl (mpa_cons (mp_var (pv 6)) mpa_nil))) (me_p me_int)) (ma_cons (me_var (pv 3)) ma_nil))))) mss_nil)) mss_nil)))))
  (mss_one (ms_ret (me_var (pv 2))))))
theorem ok__law_is_integer (T : Txt A P w K mg) : FnOk P w K mg base (L2N.CX P w) 2 A.f__law_is_integer A.d__law_is_integer ["value"] (spF K (ca A) f__law_is_integer) := by
  have S : FnScope ["value"] ["value"] (defScope st__law_is_integer) := ⟨rfl, rfl, rfl, by decide +kernel, rfl, by decide +kernel, by decide +kernel⟩
  refine fn_ok (k := 1) (N := ["value"]) T.F__law_is_integer S rfl rfl (by decide) fun cdv Ar outer s H E hr tk hp => ?_
  exact (mss_one (ms_ret (me_and (me_b bc_isi rfl T.b_isinstance rfl (mpa_cons (me_p (me_var (pv 0))) (mpa_cons (me_p (me_tyName rfl T.b_int rfl)) mpa_nil))) (me_one (me_not (me_b bc_isi rfl T.b_isinstance rfl (mpa_cons (me_p (me_var (pv 0))) (mpa_cons (me_p (me_tyName rfl T.b_bool rfl)) mpa_nil))))))))
theorem ok__law_plan_is_right (T : Txt A P w K mg) : FnOk P w K mg base (L2N.CX P w) 2 A.f__law_plan_is_right A.d__law_plan_is_right ["moves", "goals", "start", "plan"] (spF K (ca A) f__law_plan_is_right) := by
  have S : FnScope ["moves", "goals", "start", "plan", "rest", "rank", "event", "targets", "endless", "after"] ["moves", "goals", "start", "plan"] (defScope st__law_plan_is_right) := ⟨rfl, rfl, rfl, by decide +kernel, rfl, by decide +kernel, by decide +kernel⟩
  refine fn_ok (k := 1) (N := ["moves", "goals", "start", "plan", "rest", "rank", "event", "targets", "endless", "after"]) T.F__law_plan_is_right S rfl rfl (by decide) fun cdv Ar outer s H E hr tk hp => ?_
  exact (mss_cons (ms_if (mt_w (mw_or (mt_cmp (op2_ne (hu64 hr)) (me_p (me_b bc_len rfl T.b_len rfl (mpa_cons (me_p (me_var (pv 3))) mpa_nil))) (me_p (me_b bc_len rfl T.b_len rfl (mpa_cons (me_p (me_var (pv 0))) mpa_nil))) rfl) (mw_or (mt_not (mt_chain op2_le (op2_lt (hu2 hr)) (me_p me_int) (me_p (me_var (pv 2))) (me_p (me_b bc_len rfl T.b_len rfl (mpa_cons (me_p (me_var (pv 0))) mpa_nil))))) (mw_or1 (mt_cmp (op2_eq (hu64 hr)) (me_p (me_ix (hu64 hr) (me_p (me_ix (hu64 hr) (me_p (me_var (pv 3))) (me_p (me_var (pv 2))) (fun _ _ => rfl))) (me_p me_int) (fun _ _ => rfl))) (me_p (me_neg me_int)) rfl))))) (mss_one (ms_ret me_bl)) mss_nil)
  (mss_cons (ms_for (vs := [4]) hp rfl (mi_range1 rfl T.b_range (ma_cons (me_b bc_len rfl T.b_len rfl (mpa_cons (me_p (me_var (pv 0))) mpa_nil)) ma_nil)) (mg_name (i := 4) S.nd rfl (by first | exact Or.inl rfl | exact Or.inr rfl) (by decide)) (mss_cons (ms_setTg (vs := [5, 6]) (me_ix (hu64 hr) (me_p (me_var (pv 3))) (me_p (me_var (pv 4))) (fun _ _ => rfl)) (mg_tup rfl (mgs_cons (mg_name (i := 5) S.nd rfl (by first | exact Or.inl rfl | exact Or.inr rfl) (by decide)) (mgs_cons (mg_name (i := 6) S.nd rfl (by first | exact Or.inl rfl | exact Or.inr rfl) (by decide)) mgs_nil))))
  (mss_one (ms_if (mt_cmp (op2_in (hu64 hr)) (me_p (me_var (pv 4))) (me_p (me_var (pv 1))) rfl) (mss_one (ms_if (mt_w (mw_or (mt_cmp (op2_ne (hu64 hr)) (me_p (me_var (pv 5))) (me_p me_int) rfl) (mw_or1 (mt_cmp (op2_ne (hu64 hr)) (me_p (me_var (pv 6))) (me_p (me_neg me_int)) rfl)))) (mss_one (ms_ret me_bl)) mss_nil)) (mss_one (ms_if (mt_w (mw_or (mt_cmp (op2_ne (hu64 hr)) (me_p (me_var (pv 5))) (me_p (me_neg me_int)) rfl) (mw_or1 (mt_cmp (op2_ne (hu64 hr)) (me_p (me_var (pv 6))) (me_p (me_neg me_int)) rfl)))) (mss_cons (ms_if (mt_w (mw_or (mt_cmp (op2_lt (hu2 hr)) (me_p (me_var (pv 5))) (me_p me_int) rfl) (mw_or1 (mt_not (mt_chain op2_le (op2_lt (hu2 hr)) (me_p me_int) (me_p (me_var (pv 6))) (me_p (me_b bc_len rfl T.b_len rfl (mpa_cons (me_p (me_ix (hu64 hr) (me_p (me_var (pv 0))) (me_p (me_var (pv 4))) (fun _ _ => rfl))) mpa_nil)))))))) (mss_one (ms_ret me_bl)) mss_nil)
  (mss_cons (ms_setTg (vs := [7, 8]) (me_ix (hu64 hr) (me_p (me_ix (hu64 hr) (me_p (me_var (pv 0))) (me_p (me_var (pv 4))) (fun _ _ => rfl))) (me_p (me_var (pv 6))) (fun _ _ => rfl)) (mg_tup rfl (mgs_cons (mg_name (i := 7) S.nd rfl (by first | exact Or.inl rfl | exact Or.inr rfl) (by decide)) (mgs_cons (mg_name (i := 8) S.nd rfl (by first | exact Or.inl rfl | exact Or.inr rfl) (by decide)) mgs_nil))))
  (mss_cons (ms_if (mt_w (mw_or (mt_val (me_var (pv 8))) (mw_or1 (mt_cmp (op2_eq (hu64 hr)) (me_p (me_b bc_len rfl T.b_len rfl (mpa_cons (me_p (me_var (pv 7))) mpa_nil))) (me_p me_int) rfl)))) (mss_one (ms_ret me_bl)) mss_nil)
  (mss_one (ms_for (vs := [9]) hp rfl (mi_seq (me_var (pv 7))) (mg_name (i := 9) S.nd rfl (by first | exact Or.inl rfl | exact Or.inr rfl) (by decide)) (mss_one (ms_if (mt_not (mt_chain op2_le (op2_lt (hu2 hr)) (me_p me_int) (me_p (me_ix (hu64 hr) (me_p (me_ix (hu64 hr) (me_p (me_var (pv 3))) (me_p (me_var (pv 9))) (fun _ _ => rfl))) (me_p me_int) (fun _ _ => rfl))) (me_p (me_var (pv 5))))) (mss_one (ms_ret me_bl)) mss_nil))))))) mss_nil))))))
  (mss_one (ms_ret me_bl))))
theorem ok__law_plan_is_least (T : Txt A P w K mg) : FnOk P w K mg base (L2N.CX P w) 3 A.f__law_plan_is_least A.d__law_plan_is_least ["moves", "goals", "plan"] (spF K (ca A) f__law_plan_is_least) := by
  have S : FnScope ["moves", "goals", "plan", "rest", "pair"] ["moves", "goals", "plan"] (defScope st__law_plan_is_least) := ⟨rfl, rfl, rfl, by decide +kernel, rfl, by decide +kernel, by decide +kernel⟩
  refine fn_ok (k := 2) (N := ["moves", "goals", "plan", "rest", "pair"]) T.F__law_plan_is_least S rfl rfl (by decide) fun cdv Ar outer s H E hr tk hp => ?_
  exact (mss_cons (ms_if (mt_w (mw_or (mt_not (mt_val (me_b bc_isi rfl T.b_isinstance rfl (mpa_cons (me_p (me_var (pv 2))) (mpa_cons (me_p (me_tyName rfl T.b_tuple rfl)) mpa_nil))))) (mw_or1 (mt_cmp (op2_ne (hu64 hr)) (me_p (me_b bc_len rfl T.b_len rfl (mpa_cons (me_p (me_var (pv 2))) mpa_nil))) (me_p (me_b bc_len rfl T.b_len rfl (mpa_cons (me_p (me_var (pv 0))) mpa_nil))) rfl)))) (mss_one (ms_ret me_bl)) mss_nil)
  (mss_cons (ms_for (vs := [3]) hp rfl (mi_range1 rfl T.b_range (ma_cons (me_b bc_len rfl T.b_len rfl (mpa_cons (me_p (me_var (pv 0))) mpa_nil)) ma_nil)) (mg_name (i := 3) S.nd rfl (by first | exact Or.inl rfl | exact Or.inr rfl) (by decide)) (mss_cons (ms_set (i := 4) S.nd rfl (by first | exact Or.inl rfl | exact Or.inr rfl) (me_ix (hu64 hr) (me_p (me_var (pv 2))) (me_p (me_var (pv 3))) (fun _ _ => rfl)))
  (mss_cons (ms_if (mt_w (mw_or (mt_not (mt_val (me_b bc_isi rfl T.b_isinstance rfl (mpa_cons (me_p (me_var (pv 4))) (mpa_cons (me_p (me_tyName rfl T.b_tuple rfl)) mpa_nil))))) (mw_or1 (mt_cmp (op2_ne (hu64 hr)) (me_p (me_b bc_len rfl T.b_len rfl (mpa_cons (me_p (me_var (pv 4))) mpa_nil))) (me_p me_int) rfl)))) (mss_one (ms_ret me_bl)) mss_nil)
  (mss_one (ms_if (mt_w (mw_or (mt_not (mt_val (mc_e (mc_call (ok__law_is_integer T) (hr.mono (by omega)) rfl T.m__law_is_integer T.k__law_is_integer T.n__law_is_integer tk (ma_cons (me_ix (hu64 hr) (me_p (me_var (pv 4))) (me_p me_int) (fun _ _ => rfl)) ma_nil))))) (mw_or1 (mt_not (mt_val (mc_e (mc_call (ok__law_is_integer T) (hr.mono (by omega)) rfl T.m__law_is_integer T.k__law_is_integer T.n__law_is_integer tk (ma_cons (me_ix (hu64 hr) (me_p (me_var (pv 4))) (me_p me_int) (fun _ _ => rfl)) ma_nil)))))))) (mss_one (ms_ret me_bl)) mss_nil)))))
  (mss_cons (ms_for (vs := [3]) hp rfl (mi_range1 rfl T.b_range (ma_cons (me_b bc_len rfl T.b_len rfl (mpa_cons (me_p (me_var (pv 0))) mpa_nil)) ma_nil)) (mg_name (i := 3) S.nd rfl (by first | exact Or.inl rfl | exact Or.inr rfl) (by decide)) (mss_one (ms_if (mt_cmp (op2_in (hu64 hr)) (me_p (me_var (pv 3))) (me_p (me_var (pv 1))) rfl) (mss_one (ms_if (mt_cmp (op2_ne (hu64 hr)) (me_p (me_ix (hu64 hr) (me_p (me_var (pv 2))) (me_p (me_var (pv 3))) (fun _ _ => rfl))) (me_p (me_tup (ma_cons me_int (ma_cons (me_neg me_int) ma_nil)))) rfl) (mss_one (ms_ret me_bl)) mss_nil)) (mss_one (ms_if (mt_cmp (op2_ne (hu64 hr)) (me_p (me_ix (hu64 hr) (me_p (me_var (pv 2))) (me_p (me_var (pv 3))) (fun _ _ => rfl))) (me_p (mc_e (mc_call (ok__law_best T) (hr.mono (by omega)) rfl T.m__law_best T.k__law_best T.n__law_best tk (ma_cons (me_ix (hu64 hr) (me_p (me_var (pv 0))) (me_p (me_var (pv 3))) (fun _ _ => rfl)) (ma_cons (me_var (pv 2)) ma_nil))))) rfl) (mss_one (ms_ret me_bl)) mss_nil)))))
  (mss_one (ms_retCall (mc_call (ok__law_plan_is_right T) (hr.mono (by omega)) rfl T.m__law_plan_is_right T.k__law_plan_is_right T.n__law_plan_is_right tk (ma_cons (me_var (pv 0)) (ma_cons (me_var (pv 1)) (ma_cons (me_ix (hu64 hr) (me_p (me_var (pv 1))) (me_p me_int) (fun _ _ => rfl)) (ma_cons (me_var (pv 2)) ma_nil))))))))))
theorem ok__law_is_plan (T : Txt A P w K mg) : FnOk P w K mg base (L2N.CX P w) 4 A.f__law_is_plan A.d__law_is_plan ["actual", "moves", "goals"] (spF K (ca A) f__law_is_plan) := by
  have S : FnScope ["actual", "moves", "goals"] ["actual", "moves", "goals"] (defScope st__law_is_plan) := ⟨rfl, rfl, rfl, by decide +kernel, rfl, by decide +kernel, by decide +kernel⟩
  refine fn_ok (k := 3) (N := ["actual", "moves", "goals"]) T.F__law_is_plan S rfl rfl (by decide) fun cdv Ar outer s H E hr tk hp => ?_
  exact (mss_one (ms_ret (me_and (mc_e (mc_call (ok__law_is_paper T) (hr.mono (by omega)) rfl T.m__law_is_paper T.k__law_is_paper T.n__law_is_paper tk (ma_cons (me_var (pv 0)) (ma_cons me_str ma_nil)))) (me_one (mc_e (mc_call (ok__law_plan_is_least T) (hr.mono (by omega)) rfl T.m__law_plan_is_least T.k__law_plan_is_least T.n__law_plan_is_least tk (ma_cons (me_var (pv 1)) (ma_cons (me_var (pv 2)) (ma_cons (me_ix (hu64 hr) (me_p (me_var (pv 0))) (me_p me_int) (fun _ _ => rfl)) ma_nil)))))))))
theorem ok__law_is_trap (T : Txt A P w K mg) : FnOk P w K mg base (L2N.CX P w) 3 A.f__law_is_trap A.d__law_is_trap ["actual", "trap"] (spF K (ca A) f__law_is_trap) := by
  have S : FnScope ["actual", "trap", "k"] ["actual", "trap"] (defScope st__law_is_trap) := ⟨rfl, rfl, rfl, by decide +kernel, rfl, by decide +kernel, by decide +kernel⟩
  refine fn_ok (k := 2) (N := ["actual", "trap", "k"]) T.F__law_is_trap S rfl rfl (by decide) fun cdv Ar outer s H E hr tk hp => ?_
  exact (mss_cons (ms_if (mt_w (mw_or (mt_not (mt_val (mc_e (mc_call (ok__law_is_paper T) (hr.mono (by omega)) rfl T.m__law_is_paper T.k__law_is_paper T.n__law_is_paper tk (ma_cons (me_var (pv 0)) (ma_cons me_str ma_nil)))))) (mw_or1 (mt_cmp (op2_ne (hu64 hr)) (me_p (me_b bc_len rfl T.b_len rfl (mpa_cons (me_p (me_ix (hu64 hr) (me_p (me_var (pv 0))) (me_p me_int) (fun _ _ => rfl))) mpa_nil))) (me_p (me_b bc_len rfl T.b_len rfl (mpa_cons (me_p (me_var (pv 1))) mpa_nil))) rfl)))) (mss_one (ms_ret me_bl)) mss_nil)
  (mss_cons (ms_for (vs := [2]) hp rfl (mi_range1 rfl T.b_range (ma_cons (me_b bc_len rfl T.b_len rfl (mpa_cons (me_p (me_var (pv 1))) mpa_nil)) ma_nil)) (mg_name (i := 2) S.nd rfl (by first | exact Or.inl rfl | exact Or.inr rfl) (by decide)) (mss_one (ms_if (mt_w (mw_or (mt_not (mt_val (mc_e (mc_call (ok__law_is_integer T) (hr.mono (by omega)) rfl T.m__law_is_integer T.k__law_is_integer T.n__law_is_integer tk (ma_cons (me_ix (hu64 hr) (me_p (me_ix (hu64 hr) (me_p (me_var (pv 0))) (me_p me_int) (fun _ _ => rfl))) (me_p (me_var (pv 2))) (fun _ _ => rfl)) ma_nil))))) (mw_or1 (mt_cmp (op2_ne (hu64 hr)) (me_p (me_ix (hu64 hr) (me_p (me_ix (hu64 hr) (me_p (me_var (pv 0))) (me_p me_int) (fun _ _ => rfl))) (me_p (me_var (pv 2))) (fun _ _ => rfl))) (me_p (me_ix (hu64 hr) (me_p (me_var (pv 1))) (me_p (me_var (pv 2))) (fun _ _ => rfl))) rfl)))) (mss_one (ms_ret me_bl)) mss_nil)))
  (mss_one (ms_ret me_bl))))
theorem ok__law_changed_plan (T : Txt A P w K mg) : FnOk P w K mg base (L2N.CX P w) 2 A.f__law_changed_plan A.d__law_changed_plan ["plan", "change", "numbers"] (spF K (ca A) f__law_changed_plan) := by
  have S : FnScope ["plan", "change", "numbers", "at", "other", "rows"] ["plan", "change", "numbers"] (defScope st__law_changed_plan) := ⟨rfl, rfl, rfl, by decide +kernel, rfl, by decide +kernel, by decide +kernel⟩
  refine fn_ok (k := 1) (N := ["plan", "change", "numbers", "at", "other", "rows"]) T.F__law_changed_plan S rfl rfl (by decide) fun cdv Ar outer s H E hr tk hp => ?_
  exact (mss_cons (ms_set (i := 3) S.nd rfl (by first | exact Or.inl rfl | exact Or.inr rfl) (me_op op2_mod (me_p (me_ix (hu64 hr) (me_p (me_var (pv 2))) (me_p me_int) (fun _ _ => rfl))) (me_p (me_b bc_len rfl T.b_len rfl (mpa_cons (me_p (me_var (pv 0))) mpa_nil)))))
  (mss_cons (ms_set (i := 4) S.nd rfl (by first | exact Or.inl rfl | exact Or.inr rfl) (me_op op2_mod (me_p (me_ix (hu64 hr) (me_p (me_var (pv 2))) (me_p me_int) (fun _ _ => rfl))) (me_p (me_b bc_len rfl T.b_len rfl (mpa_cons (me_p (me_var (pv 0))) mpa_nil)))))
  (mss_cons (ms_setF (i := 5) S.nd rfl (by first | exact Or.inl rfl | exact Or.inr rfl) (mf_ty bf_list rfl T.b_list rfl (mpa_cons (me_p (me_var (pv 0))) mpa_nil)))
  (mss_cons (ms_if (mt_cmp (op2_eq (hu64 hr)) (me_p (me_var (pv 1))) (me_p me_int) rfl) (mss_one (ms_setIx (i := 5) (ps_asg (me_tup (ma_cons (me_op op2_add (me_p (me_ix (hu64 hr) (me_p (me_ix (hu64 hr) (me_p (me_var (pv 0))) (me_p (me_var (pv 3))) (fun _ _ => rfl))) (me_p me_int) (fun _ _ => rfl))) (me_p (me_ix (hu64 hr) (me_p (mf_e (mf_lst (ma_cons me_int (ma_cons (me_neg me_int) (ma_cons me_int (ma_cons (me_op op2_pow (me_p me_int) (me_p me_int)) ma_nil))))))) (me_p (me_op op2_mod (me_p (me_ix (hu64 hr) (me_p (me_var (pv 2))) (me_p me_int) (fun _ _ => rfl))) (me_p me_int))) (fun _ _ => rfl)))) (ma_cons (me_ix (hu64 hr) (me_p (me_ix (hu64 hr) (me_p (me_var (pv 0))) (me_p (me_var (pv 3))) (fun _ _ => rfl))) (me_p me_int) (fun _ _ => rfl)) ma_nil))) (pg_sub (pv 5) (me_p (me_var (pv 3))) set_list)))) (mss_one (ms_if (mt_cmp (op2_eq (hu64 hr)) (me_p (me_var (pv 1))) (me_p me_int) rfl) (mss_one (ms_setIx (i := 5) (ps_asg (me_tup (ma_cons (me_ix (hu64 hr) (me_p (me_ix (hu64 hr) (me_p (me_var (pv 0))) (me_p (me_var (pv 3))) (fun _ _ => rfl))) (me_p me_int) (fun _ _ => rfl)) (ma_cons (me_op op2_sub (me_p (me_op op2_mod (me_p (me_ix (hu64 hr) (me_p (me_var (pv 2))) (me_p me_int) (fun _ _ => rfl))) (me_p me_int))) (me_p me_int)) ma_nil))) (pg_sub (pv 5) (me_p (me_var (pv 3))) set_list)))) (mss_one (ms_if (mt_cmp (op2_eq (hu64 hr)) (me_p (me_var (pv 1))) (me_p me_int) rfl) (mss_cons (ms_setIx (i := 5) (ps_asg (me_ix (hu64 hr) (me_p (me_var (pv 0))) (me_p (me_var (pv 4))) (fun _ _ => rfl)) (pg_sub (pv 5) (me_p (me_var (pv 3))) set_list)))
  (mss_one (ms_setIx (i := 5) (ps_asg (me_ix (hu64 hr) (me_p (me_var (pv 0))) (me_p (me_var (pv 3))) (fun _ _ => rfl)) (pg_sub (pv 5) (me_p (me_var (pv 4))) set_list))))) (mss_one (ms_if (mt_cmp (op2_eq (hu64 hr)) (me_p (me_var (pv 1))) (me_p me_int) rfl) (mss_one (ms_setIx (i := 5) (ps_asg (me_ix (hu64 hr) (me_p (mf_e (mf_lst (ma_cons (me_tup (ma_cons (me_neg me_int) (ma_cons (me_neg me_int) ma_nil))) (ma_cons (me_tup (ma_cons me_int (ma_cons (me_neg me_int) ma_nil))) (ma_cons (me_tup (ma_cons me_int (ma_cons me_int ma_nil))) ma_nil)))))) (me_p (me_op op2_mod (me_p (me_ix (hu64 hr) (me_p (me_var (pv 2))) (me_p me_int) (fun _ _ => rfl))) (me_p me_int))) (fun _ _ => rfl)) (pg_sub (pv 5) (me_p (me_var (pv 3))) set_list)))) (mss_one (ms_if (mt_cmp (op2_eq (hu64 hr)) (me_p (me_var (pv 1))) (me_p me_int) rfl) (mss_one (ms_set (i := 5) S.nd rfl (by first | exact Or.inl rfl | exact Or.inr rfl) (me_op op2_add (me_p (me_sl (mp_var (pv 5)) mo_no (mo_some (me_var (pv 3))))) (me_p (me_sl (mp_var (pv 5)) (mo_some (me_op op2_add (me_p (me_var (pv 3))) (me_p me_int))) mo_no))))) (mss_one (ms_if (mt_cmp (op2_eq (hu64 hr)) (me_p (me_var (pv 1))) (me_p me_int) rfl) (mss_one (ms_setF (i := 5) S.nd rfl (by first | exact Or.inl rfl | exact Or.inr rfl) (mf_op of_cat (mp_var (pv 5)) (me_p (mf_e (mf_lst (ma_cons (me_ix (hu64 hr) (me_p (me_var (pv 0))) (me_p (me_var (pv 3))) (fun _ _ => rfl)) ma_nil))))))) mss_nil)))))))))))
  (mss_one (ms_retOwn (pv 5)))))))
theorem ok__law_changed_trap (T : Txt A P w K mg) : FnOk P w K mg base (L2N.CX P w) 2 A.f__law_changed_trap A.d__law_changed_trap ["trap", "change", "numbers", "size"] (spF K (ca A) f__law_changed_trap) := by
  have S : FnScope ["trap", "change", "numbers", "size", "at", "rows"] ["trap", "change", "numbers", "size"] (defScope st__law_changed_trap) := ⟨rfl, rfl, rfl, by decide +kernel, rfl, by decide +kernel, by decide +kernel⟩
  refine fn_ok (k := 1) (N := ["trap", "change", "numbers", "size", "at", "rows"]) T.F__law_changed_trap S rfl rfl (by decide) fun cdv Ar outer s H E hr tk hp => ?_
  exact (mss_cons (ms_set (i := 4) S.nd rfl (by first | exact Or.inl rfl | exact Or.inr rfl) (me_op op2_mod (me_p (me_ix (hu64 hr) (me_p (me_var (pv 2))) (me_p me_int) (fun _ _ => rfl))) (me_p (me_op op2_add (me_p (me_b bc_len rfl T.b_len rfl (mpa_cons (me_p (me_var (pv 0))) mpa_nil))) (me_p me_int)))))
  (mss_cons (ms_setF (i := 5) S.nd rfl (by first | exact Or.inl rfl | exact Or.inr rfl) (mf_ty bf_list rfl T.b_list rfl (mpa_cons (me_p (me_var (pv 0))) mpa_nil)))
  (mss_cons (ms_if (mt_w (mw_or (mt_cmp (op2_eq (hu64 hr)) (me_p (me_var (pv 1))) (me_p me_int) rfl) (mw_or1 (mt_cmp (op2_eq (hu64 hr)) (me_p (me_var (pv 1))) (me_p me_int) rfl)))) (mss_one (ms_set (i := 5) S.nd rfl (by first | exact Or.inl rfl | exact Or.inr rfl) (me_op op2_add (me_p (me_sl (mp_var (pv 5)) mo_no (mo_some (me_var (pv 4))))) (me_p (me_sl (mp_var (pv 5)) (mo_some (me_op op2_add (me_p (me_var (pv 4))) (me_p me_int))) mo_no))))) (mss_one (ms_if (mt_w (mw_or (mt_cmp (op2_eq (hu64 hr)) (me_p (me_var (pv 1))) (me_p me_int) rfl) (mw_or1 (mt_cmp (op2_eq (hu64 hr)) (me_p (me_var (pv 1))) (me_p me_int) rfl)))) (mss_one (ms_setF (i := 5) S.nd rfl (by first | exact Or.inl rfl | exact Or.inr rfl) (mf_op of_cat (me_p (me_op op2_add (me_p (me_sl (mp_var (pv 5)) mo_no (mo_some (me_var (pv 4))))) (me_p (mf_e (mf_lst (ma_cons (me_op op2_mod (me_p (me_ix (hu64 hr) (me_p (me_var (pv 2))) (me_p me_int) (fun _ _ => rfl))) (me_p (me_var (pv 3)))) ma_nil)))))) (me_p (me_sl (mp_var (pv 5)) (mo_some (me_var (pv 4))) mo_no))))) (mss_one (ms_if (mt_cmp (op2_eq (hu64 hr)) (me_p (me_var (pv 1))) (me_p me_int) rfl) (mss_one (ms_setF (i := 5) S.nd rfl (by first | exact Or.inl rfl | exact Or.inr rfl) (mf_op of_cat (me_p (me_op op2_add (me_p (me_sl (mp_var (pv 5)) mo_no (mo_some (me_var (pv 4))))) (me_p (mf_e (mf_lst (ma_cons (me_ix (hu64 hr) (me_p (mf_e (mf_lst (ma_cons (me_neg me_int) (ma_cons (me_var (pv 3)) (ma_cons (me_op op2_pow (me_p me_int) (me_p me_int)) ma_nil)))))) (me_p (me_op op2_mod (me_p (me_ix (hu64 hr) (me_p (me_var (pv 2))) (me_p me_int) (fun _ _ => rfl))) (me_p me_int))) (fun _ _ => rfl)) ma_nil)))))) (me_p (me_sl (mp_var (pv 5)) (mo_some (me_var (pv 4))) mo_no))))) mss_nil)))))
  (mss_one (ms_retOwn (pv 5))))))
theorem ok__law_says (T : Txt A P w K mg) : FnOk P w K mg base (L2N.CX P w) 2 A.f__law_says A.d__law_says ["actual", "due"] (spF K (ca A) f__law_says) := by
  have S : FnScope ["actual", "due"] ["actual", "due"] (defScope st__law_says) := ⟨rfl, rfl, rfl, by decide +kernel, rfl, by decide +kernel, by decide +kernel⟩
  refine fn_ok (k := 1) (N := ["actual", "due"]) T.F__law_says S rfl rfl (by decide) fun cdv Ar outer s H E hr tk hp => ?_
  exact (mss_one (ms_ret (me_and (me_b bc_isi rfl T.b_isinstance rfl (mpa_cons (me_p (me_var (pv 0))) (mpa_cons (me_p (me_tyName rfl T.b_bool rfl)) mpa_nil))) (me_one (me_cmp (op2_eq (hu64 hr)) (me_p (me_var (pv 0))) (me_p (me_var (pv 1))) rfl)))))
theorem ok__law_trap_is_right (T : Txt A P w K mg) : FnOk P w K mg base (L2N.CX P w) 2 A.f__law_trap_is_right A.d__law_trap_is_right ["moves", "goals", "start", "trap"] (spF K (ca A) f__law_trap_is_right) := by
  have S : FnScope ["moves", "goals", "start", "trap", "rest", "targets", "endless", "after"] ["moves", "goals", "start", "trap"] (defScope st__law_trap_is_right) := ⟨rfl, rfl, rfl, by decide +kernel, rfl, by decide +kernel, by decide +kernel⟩
  refine fn_ok (k := 1) (N := ["moves", "goals", "start", "trap", "rest", "targets", "endless", "after"]) T.F__law_trap_is_right S rfl rfl (by decide) fun cdv Ar outer s H E hr tk hp => ?_
  exact (mss_cons (ms_if (mt_cmp (op2_notIn (hu64 hr)) (me_p (me_var (pv 2))) (me_p (me_var (pv 3))) rfl) (mss_one (ms_ret me_bl)) mss_nil)
  (mss_cons (ms_for (vs := [4]) hp rfl (mi_seq (me_var (pv 3))) (mg_name (i := 4) S.nd rfl (by first | exact Or.inl rfl | exact Or.inr rfl) (by decide)) (mss_cons (ms_if (mt_w (mw_or (mt_not (mt_chain op2_le (op2_lt (hu2 hr)) (me_p me_int) (me_p (me_var (pv 4))) (me_p (me_b bc_len rfl T.b_len rfl (mpa_cons (me_p (me_var (pv 0))) mpa_nil))))) (mw_or1 (mt_cmp (op2_in (hu64 hr)) (me_p (me_var (pv 4))) (me_p (me_var (pv 1))) rfl)))) (mss_one (ms_ret me_bl)) mss_nil)
  (mss_one (ms_for (vs := [5, 6]) hp rfl (mi_seq (me_ix (hu64 hr) (me_p (me_var (pv 0))) (me_p (me_var (pv 4))) (fun _ _ => rfl))) (mg_tup rfl (mgs_cons (mg_name (i := 5) S.nd rfl (by first | exact Or.inl rfl | exact Or.inr rfl) (by decide)) (mgs_cons (mg_name (i := 6) S.nd rfl (by first | exact Or.inl rfl | exact Or.inr rfl) (by decide)) mgs_nil))) (mss_one (ms_if (mt_w (mw_and (mt_not (mt_val (me_var (pv 6)))) (mw_and (mt_cmp op2_gt (me_p (me_b bc_len rfl T.b_len rfl (mpa_cons (me_p (me_var (pv 5))) mpa_nil))) (me_p me_int) rfl) (mw_and1 (mt_cmp (op2_eq (hu64 hr)) (me_p (me_b bc_len rfl T.b_len rfl (mpa_cons (me_p (mf_e (mf_comp (own := [("after", 7)]) rfl S.nd (mi_seq (me_var (pv 5))) (blkOk_by (by first | (show blkC ["moves", "goals", "start", "trap", "rest", "targets", "endless", "after"] (defScope st__law_trap_is_right) _ _ = true; decide +kernel) | exact rfl)) rfl (fun _ _ _ _ _ => (mg_name (i := 7) S.nd rfl (by first | exact Or.inl rfl | exact Or.inr rfl) (by decide))) (fun _ _ _ _ _ => (mts_one (mt_cmp (op2_in (hu64 hr)) (me_p (me_var (pv 7))) (me_p (me_var (pv 3))) rfl))) (fun _ _ _ _ _ => (me_var (pv 7)))))) mpa_nil))) (me_p me_int) rfl))))) (mss_one (ms_ret me_bl)) mss_nil))))))
  (mss_one (ms_ret me_bl))))
theorem ok_is_integer (T : Txt A P w K mg) : FnOk P w K mg base (L2N.CX P w) 2 A.f_is_integer A.d_is_integer ["value"] (spF K (ca A) f_is_integer) := by
  have S : FnScope ["value"] ["value"] (defScope st_is_integer) := ⟨rfl, rfl, rfl, by decide +kernel, rfl, by decide +kernel, by decide +kernel⟩
  refine fn_ok (k := 1) (N := ["value"]) T.F_is_integer S rfl rfl (by decide) fun cdv Ar outer s H E hr tk hp => ?_
  exact (mss_one (ms_ret (me_and (me_b bc_isi rfl T.b_isinstance rfl (mpa_cons (me_p (me_var (pv 0))) (mpa_cons (me_p (me_tyName rfl T.b_int rfl)) mpa_nil))) (me_one (me_not (me_b bc_isi rfl T.b_isinstance rfl (mpa_cons (me_p (me_var (pv 0))) (mpa_cons (me_p (me_tyName rfl T.b_bool rfl)) mpa_nil))))))))
theorem ok_is_place (T : Txt A P w K mg) : FnOk P w K mg base (L2N.CX P w) 3 A.f_is_place A.d_is_place ["value", "size"] (spF K (ca A) f_is_place) := by
  have S : FnScope ["value", "size"] ["value", "size"] (defScope st_is_place) := ⟨rfl, rfl, rfl, by decide +kernel, rfl, by decide +kernel, by decide +kernel⟩
  refine fn_ok (k := 2) (N := ["value", "size"]) T.F_is_place S rfl rfl (by decide) fun cdv Ar outer s H E hr tk hp => ?_
  exact (mss_one (ms_ret (me_and (mc_e (mc_call (ok_is_integer T) (hr.mono (by omega)) rfl T.m_is_integer T.k_is_integer T.n_is_integer tk (ma_cons (me_var (pv 0)) ma_nil))) (me_one (me_chain op2_le (op2_lt (hu2 hr)) (me_p me_int) (me_p (me_var (pv 0))) (me_p (me_var (pv 1))))))))
theorem ok_pair_is_right (T : Txt A P w K mg) : FnOk P w K mg base (L2N.CX P w) 4 A.f_pair_is_right A.d_pair_is_right ["moves", "plan", "rank", "event", "rest"] (spF K (ca A) f_pair_is_right) := by
  have S : FnScope ["moves", "plan", "rank", "event", "rest", "targets", "endless", "after"] ["moves", "plan", "rank", "event", "rest"] (defScope st_pair_is_right) := ⟨rfl, rfl, rfl, by decide +kernel, rfl, by decide +kernel, by decide +kernel⟩
  refine fn_ok (k := 3) (N := ["moves", "plan", "rank", "event", "rest", "targets", "endless", "after"]) T.F_pair_is_right S rfl rfl (by decide) fun cdv Ar outer s H E hr tk hp => ?_
  exact (mss_cons (ms_if (mt_w (mw_and (mt_cmp (op2_eq (hu64 hr)) (me_p (me_var (pv 2))) (me_p (me_neg me_int)) rfl) (mw_and1 (mt_cmp (op2_eq (hu64 hr)) (me_p (me_var (pv 3))) (me_p (me_neg me_int)) rfl)))) (mss_one (ms_ret me_bl)) mss_nil)
  (mss_cons (ms_if (mt_w (mw_or (mt_cmp (op2_lt (hu2 hr)) (me_p (me_var (pv 2))) (me_p me_int) rfl) (mw_or1 (mt_not (mt_val (mc_e (mc_call (ok_is_place T) (hr.mono (by omega)) rfl T.m_is_place T.k_is_place T.n_is_place tk (ma_cons (me_var (pv 3)) (ma_cons (me_b bc_len rfl T.b_len rfl (mpa_cons (me_p (me_ix (hu64 hr) (me_p (me_var (pv 0))) (me_p (me_var (pv 4))) (fun _ _ => rfl))) mpa_nil)) ma_nil))))))))) (mss_one (ms_ret me_bl)) mss_nil)
  (mss_cons (ms_setTg (vs := [5, 6]) (me_ix (hu64 hr) (me_p (me_ix (hu64 hr) (me_p (me_var (pv 0))) (me_p (me_var (pv 4))) (fun _ _ => rfl))) (me_p (me_var (pv 3))) (fun _ _ => rfl)) (mg_tup rfl (mgs_cons (mg_name (i := 5) S.nd rfl (by first | exact Or.inl rfl | exact Or.inr rfl) (by decide)) (mgs_cons (mg_name (i := 6) S.nd rfl (by first | exact Or.inl rfl | exact Or.inr rfl) (by decide)) mgs_nil))))
  (mss_cons (ms_if (mt_w (mw_or (mt_val (me_var (pv 6))) (mw_or1 (mt_cmp (op2_eq (hu64 hr)) (me_p (me_b bc_len rfl T.b_len rfl (mpa_cons (me_p (me_var (pv 5))) mpa_nil))) (me_p me_int) rfl)))) (mss_one (ms_ret me_bl)) mss_nil)
  (mss_cons (ms_for (vs := [7]) hp rfl (mi_seq (me_var (pv 5))) (mg_name (i := 7) S.nd rfl (by first | exact Or.inl rfl | exact Or.inr rfl) (by decide)) (mss_one (ms_if (mt_not (mt_chain op2_le (op2_lt (hu2 hr)) (me_p me_int) (me_p (me_ix (hu64 hr) (me_p (me_ix (hu64 hr) (me_p (me_var (pv 1))) (me_p (me_var (pv 7))) (fun _ _ => rfl))) (me_p me_int) (fun _ _ => rfl))) (me_p (me_var (pv 2))))) (mss_one (ms_ret me_bl)) mss_nil)))
  (mss_one (ms_ret me_bl)))))))
theorem ok_shows_plan (T : Txt A P w K mg) : FnOk P w K mg base (L2N.CX P w) 5 A.f_shows_plan A.d_shows_plan ["moves", "goals", "start", "plan"] (spF K (ca A) f_shows_plan) := by
  have S : FnScope ["moves", "goals", "start", "plan", "rest", "rank", "event"] ["moves", "goals", "start", "plan"] (defScope st_shows_plan) := ⟨rfl, rfl, rfl, by decide +kernel, rfl, by decide +kernel, by decide +kernel⟩
  refine fn_ok (k := 4) (N := ["moves", "goals", "start", "plan", "rest", "rank", "event"]) T.F_shows_plan S rfl rfl (by decide) fun cdv Ar outer s H E hr tk hp => ?_
  exact (mss_cons (ms_if (mt_w (mw_or (mt_cmp (op2_ne (hu64 hr)) (me_p (me_b bc_len rfl T.b_len rfl (mpa_cons (me_p (me_var (pv 3))) mpa_nil))) (me_p (me_b bc_len rfl T.b_len rfl (mpa_cons (me_p (me_var (pv 0))) mpa_nil))) rfl) (mw_or1 (mt_not (mt_val (mc_e (mc_call (ok_is_place T) (hr.mono (by omega)) rfl T.m_is_place T.k_is_place T.n_is_place tk (ma_cons (me_var (pv 2)) (ma_cons (me_b bc_len rfl T.b_len rfl (mpa_cons (me_p (me_var (pv 0))) mpa_nil)) ma_nil))))))))) (mss_one (ms_ret me_bl)) mss_nil)
  (mss_cons (ms_for (vs := [4, 5, 6]) hp rfl (mi_enum2 rfl T.b_enumerate (ma_cons (me_var (pv 3)) ma_nil)) (mg_tup rfl (mgs_cons (mg_name (i := 4) S.nd rfl (by first | exact Or.inl rfl | exact Or.inr rfl) (by decide)) (mgs_cons (mg_tup rfl (mgs_cons (mg_name (i := 5) S.nd rfl (by first | exact Or.inl rfl | exact Or.inr rfl) (by decide)) (mgs_cons (mg_name (i := 6) S.nd rfl (by first | exact Or.inl rfl | exact Or.inr rfl) (by decide)) mgs_nil))) mgs_nil))) (mss_one (ms_if (mt_cmp (op2_in (hu64 hr)) (me_p (me_var (pv 4))) (me_p (me_var (pv 1))) rfl) (mss_one (ms_if (mt_w (mw_or (mt_cmp (op2_ne (hu64 hr)) (me_p (me_var (pv 5))) (me_p me_int) rfl) (mw_or1 (mt_cmp (op2_ne (hu64 hr)) (me_p (me_var (pv 6))) (me_p (me_neg me_int)) rfl)))) (mss_one (ms_ret me_bl)) mss_nil)) (mss_one (ms_if (mt_not (mt_val (mc_e (mc_call (ok_pair_is_right T) (hr.mono (by omega)) rfl T.m_pair_is_right T.k_pair_is_right T.n_pair_is_right tk (ma_cons (me_var (pv 0)) (ma_cons (me_var (pv 3)) (ma_cons (me_var (pv 5)) (ma_cons (me_var (pv 6)) (ma_cons (me_var (pv 4)) ma_nil))))))))) (mss_one (ms_ret me_bl)) mss_nil)))))
  (mss_one (ms_ret (me_cmp (op2_ne (hu64 hr)) (me_p (me_ix (hu64 hr) (me_p (me_ix (hu64 hr) (me_p (me_var (pv 3))) (me_p (me_var (pv 2))) (fun _ _ => rfl))) (me_p me_int) (fun _ _ => rfl))) (me_p (me_neg me_int)) rfl)))))
theorem ok_holds_off (T : Txt A P w K mg) : FnOk P w K mg base (L2N.CX P w) 2 A.f_holds_off A.d_holds_off ["targets", "endless", "trap"] (spF K (ca A) f_holds_off) := by
  have S : FnScope ["targets", "endless", "trap", "after"] ["targets", "endless", "trap"] (defScope st_holds_off) := ⟨rfl, rfl, rfl, by decide +kernel, rfl, by decide +kernel, by decide +kernel⟩
  refine fn_ok (k := 1) (N := ["targets", "endless", "trap", "after"]) T.F_holds_off S rfl rfl (by decide) fun cdv Ar outer s H E hr tk hp => ?_
  exact (mss_cons (ms_if (mt_w (mw_or (mt_val (me_var (pv 1))) (mw_or1 (mt_cmp (op2_eq (hu64 hr)) (me_p (me_b bc_len rfl T.b_len rfl (mpa_cons (me_p (me_var (pv 0))) mpa_nil))) (me_p me_int) rfl)))) (mss_one (ms_ret me_bl)) mss_nil)
  (mss_cons (ms_for (vs := [3]) hp rfl (mi_seq (me_var (pv 0))) (mg_name (i := 3) S.nd rfl (by first | exact Or.inl rfl | exact Or.inr rfl) (by decide)) (mss_one (ms_if (mt_cmp (op2_in (hu64 hr)) (me_p (me_var (pv 3))) (me_p (me_var (pv 2))) rfl) (mss_one (ms_ret me_bl)) mss_nil)))
  (mss_one (ms_ret me_bl))))
theorem ok_shows_trap (T : Txt A P w K mg) : FnOk P w K mg base (L2N.CX P w) 4 A.f_shows_trap A.d_shows_trap ["moves", "goals", "start", "trap"] (spF K (ca A) f_shows_trap) := by
  have S : FnScope ["moves", "goals", "start", "trap", "rest", "targets", "endless"] ["moves", "goals", "start", "trap"] (defScope st_shows_trap) := ⟨rfl, rfl, rfl, by decide +kernel, rfl, by decide +kernel, by decide +kernel⟩
  refine fn_ok (k := 3) (N := ["moves", "goals", "start", "trap", "rest", "targets", "endless"]) T.F_shows_trap S rfl rfl (by decide) fun cdv Ar outer s H E hr tk hp => ?_
  exact (mss_cons (ms_if (mt_cmp (op2_notIn (hu64 hr)) (me_p (me_var (pv 2))) (me_p (me_var (pv 3))) rfl) (mss_one (ms_ret me_bl)) mss_nil)
  (mss_cons (ms_for (vs := [4]) hp rfl (mi_seq (me_var (pv 3))) (mg_name (i := 4) S.nd rfl (by first | exact Or.inl rfl | exact Or.inr rfl) (by decide)) (mss_cons (ms_if (mt_w (mw_or (mt_not (mt_val (mc_e (mc_call (ok_is_place T) (hr.mono (by omega)) rfl T.m_is_place T.k_is_place T.n_is_place tk (ma_cons (me_var (pv 4)) (ma_cons (me_b bc_len rfl T.b_len rfl (mpa_cons (me_p (me_var (pv 0))) mpa_nil)) ma_nil)))))) (mw_or1 (mt_cmp (op2_in (hu64 hr)) (me_p (me_var (pv 4))) (me_p (me_var (pv 1))) rfl)))) (mss_one (ms_ret me_bl)) mss_nil)
  (mss_one (ms_for (vs := [5, 6]) hp rfl (mi_seq (me_ix (hu64 hr) (me_p (me_var (pv 0))) (me_p (me_var (pv 4))) (fun _ _ => rfl))) (mg_tup rfl (mgs_cons (mg_name (i := 5) S.nd rfl (by first | exact Or.inl rfl | exact Or.inr rfl) (by decide)) (mgs_cons (mg_name (i := 6) S.nd rfl (by first | exact Or.inl rfl | exact Or.inr rfl) (by decide)) mgs_nil))) (mss_one (ms_if (mt_not (mt_val (mc_e (mc_call (ok_holds_off T) (hr.mono (by omega)) rfl T.m_holds_off T.k_holds_off T.n_holds_off tk (ma_cons (me_var (pv 5)) (ma_cons (me_var (pv 6)) (ma_cons (me_var (pv 3)) ma_nil))))))) (mss_one (ms_ret me_bl)) mss_nil))))))
  (mss_one (ms_ret me_bl))))
theorem ok__law_judges_agree (T : Txt A P w K mg) : FnOk P w K mg base (L2N.CX P w) 6 A.f__law_judges_agree A.d__law_judges_agree ["moves", "goals", "start", "plan", "trap", "row"] (spF K (ca A) f__law_judges_agree) := by
  have S : FnScope ["moves", "goals", "start", "plan", "trap", "row", "starts", "other", "held", "place", "told"] ["moves", "goals", "start", "plan", "trap", "row"] (defScope st__law_judges_agree) := ⟨rfl, rfl, rfl, by decide +kernel, rfl, by decide +kernel, by decide +kernel⟩
  refine fn_ok (k := 5) (N := ["moves", "goals", "start", "plan", "trap", "row", "starts", "other", "held", "place", "told"]) T.F__law_judges_agree S rfl rfl (by decide) fun cdv Ar outer s H E hr tk hp => ?_
  exact (mss_cons (ms_setF (i := 6) S.nd rfl (by first | exact Or.inl rfl | exact Or.inr rfl) (mf_lst (ma_cons (me_var (pv 2)) (ma_cons (me_op op2_mod (me_p (me_ix (hu64 hr) (me_p (me_var (pv 5))) (me_p me_int) (fun _ _ => rfl))) (me_p (me_b bc_len rfl T.b_len rfl (mpa_cons (me_p (me_var (pv 0))) mpa_nil)))) (ma_cons (me_neg me_int) (ma_cons (me_b bc_len rfl T.b_len rfl (mpa_cons (me_p (me_var (pv 0))) mpa_nil)) ma_nil))))))
  (mss_cons (ms_setCall (i := 7) S.nd rfl (by first | exact Or.inl rfl | exact Or.inr rfl) (mc_call (ok__law_changed_plan T) (hr.mono (by omega)) rfl T.m__law_changed_plan T.k__law_changed_plan T.n__law_changed_plan tk (ma_cons (me_var (pv 3)) (ma_cons (me_ix (hu64 hr) (me_p (me_var (pv 5))) (me_p me_int) (fun _ _ => rfl)) (ma_cons (me_sl (me_p (me_var (pv 5))) (mo_some me_int) (mo_some me_int)) ma_nil)))))
  (mss_cons (ms_setCall (i := 8) S.nd rfl (by first | exact Or.inl rfl | exact Or.inr rfl) (mc_call (ok__law_changed_trap T) (hr.mono (by omega)) rfl T.m__law_changed_trap T.k__law_changed_trap T.n__law_changed_trap tk (ma_cons (me_var (pv 4)) (ma_cons (me_ix (hu64 hr) (me_p (me_var (pv 5))) (me_p me_int) (fun _ _ => rfl)) (ma_cons (me_sl (me_p (me_var (pv 5))) (mo_some me_int) (mo_some me_int)) (ma_cons (me_b bc_len rfl T.b_len rfl (mpa_cons (me_p (me_var (pv 0))) mpa_nil)) ma_nil))))))
  (mss_cons (ms_for (vs := [9]) hp rfl (mi_seq (mf_e (mf_lst (ma_cons (me_ix (hu64 hr) (mp_var (pv 6)) (me_p me_int) (fun _ _ => rfl)) (ma_cons (me_ix (hu64 hr) (mp_var (pv 6)) (me_p me_int) (fun _ _ => rfl)) (ma_cons (me_ix (hu64 hr) (mp_var (pv 6)) (me_p (me_op op2_add (me_p me_int) (me_p (me_op op2_mod (me_p (me_ix (hu64 hr) (me_p (me_var (pv 5))) (me_p me_int) (fun _ _ => rfl))) (me_p me_int))))) (fun _ _ => rfl)) ma_nil)))))) (mg_name (i := 9) S.nd rfl (by first | exact Or.inl rfl | exact Or.inr rfl) (by decide)) (mss_cons (ms_freeze (ms_for (vs := [10]) hp rfl (mi_seq (mf_e (mf_lst (ma_cons (mf_e (mf_ty bf_list rfl T.b_list rfl (mpa_cons (me_p (me_var (pv 3))) mpa_nil))) (ma_cons (me_var (pv 7)) ma_nil))))) (mg_name (i := 10) S.nd rfl (by first | exact Or.inl rfl | exact Or.inr rfl) (by decide)) (mss_one (ms_if (mt_not (mt_val (mc_e (mc_call (ok__law_says T) (hr.mono (by omega)) rfl T.m__law_says T.k__law_says T.n__law_says tk (ma_cons (mc_e (mc_call (ok_shows_plan T) (hr.mono (by omega)) rfl T.m_shows_plan T.k_shows_plan T.n_shows_plan tk (ma_cons (me_var (pv 0)) (ma_cons (me_var (pv 1)) (ma_cons (me_var (pv 9)) (ma_cons (me_var (pv 10)) ma_nil)))))) (ma_cons (mc_e (mc_call (ok__law_plan_is_right T) (hr.mono (by omega)) rfl T.m__law_plan_is_right T.k__law_plan_is_right T.n__law_plan_is_right tk (ma_cons (me_var (pv 0)) (ma_cons (me_var (pv 1)) (ma_cons (me_var (pv 9)) (ma_cons (me_var (pv 10)) ma_nil)))))) ma_nil)))))) (mss_one (ms_ret me_bl)) mss_nil))))
  (mss_one (ms_freeze (ms_for (vs := [10]) hp rfl (mi_seq (mf_e (mf_lst (ma_cons (mf_e (mf_ty bf_list rfl T.b_list rfl (mpa_cons (me_p (me_var (pv 4))) mpa_nil))) (ma_cons (me_var (pv 8)) ma_nil))))) (mg_name (i := 10) S.nd rfl (by first | exact Or.inl rfl | exact Or.inr rfl) (by decide)) (mss_one (ms_if (mt_not (mt_val (mc_e (mc_call (ok__law_says T) (hr.mono (by omega)) rfl T.m__law_says T.k__law_says T.n__law_says tk (ma_cons (mc_e (mc_call (ok_shows_trap T) (hr.mono (by omega)) rfl T.m_shows_trap T.k_shows_trap T.n_shows_trap tk (ma_cons (me_var (pv 0)) (ma_cons (me_var (pv 1)) (ma_cons (me_var (pv 9)) (ma_cons (me_var (pv 10)) ma_nil)))))) (ma_cons (mc_e (mc_call (ok__law_trap_is_right T) (hr.mono (by omega)) rfl T.m__law_trap_is_right T.k__law_trap_is_right T.n__law_trap_is_right tk (ma_cons (me_var (pv 0)) (ma_cons (me_var (pv 1)) (ma_cons (me_var (pv 9)) (ma_cons (me_var (pv 10)) ma_nil)))))) ma_nil)))))) (mss_one (ms_ret me_bl)) mss_nil)))))))
  (mss_one (ms_ret me_bl))))))
theorem ok__law_row (T : Txt A P w K mg) : FnOk P w K mg base (L2N.CX P w) 2 A.f__law_row A.d__law_row ["cell", "sizes"] (spF K (ca A) f__law_row) := by
  have S : FnScope ["cell", "sizes", "rest", "mixed", "numbers", "size"] ["cell", "sizes"] (defScope st__law_row) := ⟨rfl, rfl, rfl, by decide +kernel, rfl, by decide +kernel, by decide +kernel⟩
  refine fn_ok (k := 1) (N := ["cell", "sizes", "rest", "mixed", "numbers", "size"]) T.F__law_row S rfl rfl (by decide) fun cdv Ar outer s H E hr tk hp => ?_
  exact (mss_cons (ms_set (i := 2) S.nd rfl (by first | exact Or.inl rfl | exact Or.inr rfl) (me_var (pv 0)))
  (mss_cons (ms_set (i := 3) S.nd rfl (by first | exact Or.inl rfl | exact Or.inr rfl) (me_op op2_mod (me_p (me_ty bc_int rfl T.b_int rfl (mpa_cons (me_p (me_op op2_add (me_p (me_op op2_mul (me_p (me_var (pv 0))) (me_p me_int))) (me_p me_int))) mpa_nil))) (me_p me_int)))
  (mss_cons (ms_setF (i := 4) S.nd rfl (by first | exact Or.inl rfl | exact Or.inr rfl) (mf_lst ma_nil))
  (mss_cons (ms_for (vs := [5]) hp rfl (mi_seq (me_var (pv 1))) (mg_name (i := 5) S.nd rfl (by first | exact Or.inl rfl | exact Or.inr rfl) (by decide)) (mss_one (ms_if (mt_cmp op2_ge (me_p (me_var (pv 0))) (me_p (me_op op2_pow (me_p me_int) (me_p me_int))) rfl) (mss_cons (ms_append (i := 4) (pe_bm PySem.F.plainAttrs_list PySem.F.slot_list_append PySem.F.type_list_append mt_append (pv 4) (pa_cons (me_op op2_mod (me_p (me_ty bc_int rfl T.b_int rfl (mpa_cons (me_p (me_var (pv 2))) mpa_nil))) (me_p (me_var (pv 5)))) pa_nil)))
  (mss_one (ms_set (i := 2) S.nd rfl (by first | exact Or.inl rfl | exact Or.inr rfl) (me_op op2_fdiv (me_p (me_var (pv 2))) (me_p (me_var (pv 5))))))) (mss_cons (ms_set (i := 3) S.nd rfl (by first | exact Or.inl rfl | exact Or.inr rfl) (me_op op2_mod (me_p (me_ty bc_int rfl T.b_int rfl (mpa_cons (me_p (me_op op2_add (me_p (me_op op2_mul (me_p (me_var (pv 3))) (me_p me_int))) (me_p me_int))) mpa_nil))) (me_p me_int)))
  (mss_one (ms_append (i := 4) (pe_bm PySem.F.plainAttrs_list PySem.F.slot_list_append PySem.F.type_list_append mt_append (pv 4) (pa_cons (me_op op2_mod (me_p (me_op op2_fdiv (me_p (me_var (pv 3))) (me_p me_int))) (me_p (me_var (pv 5)))) pa_nil))))))))
  (mss_one (ms_retOwn (pv 4)))))))
theorem ok__law_targets (T : Txt A P w K mg) : FnOk P w K mg base (L2N.CX P w) 2 A.f__law_targets A.d__law_targets ["row", "size"] (spF K (ca A) f__law_targets) := by
  have S : FnScope ["row", "size", "k", "count", "place"] ["row", "size"] (defScope st__law_targets) := ⟨rfl, rfl, rfl, by decide +kernel, rfl, by decide +kernel, by decide +kernel⟩
  refine fn_ok (k := 1) (N := ["row", "size", "k", "count", "place"]) T.F__law_targets S rfl rfl (by decide) fun cdv Ar outer s H E hr tk hp => ?_
  exact (mss_cons (ms_if (mt_cmp (op2_eq (hu64 hr)) (me_p (me_ix (hu64 hr) (me_p (me_var (pv 0))) (me_p me_int) (fun _ _ => rfl))) (me_p me_int) rfl) (mss_one (ms_retF (mf_comp (own := [("k", 2)]) rfl S.nd (mi_range1 rfl T.b_range (ma_cons (me_var (pv 1)) ma_nil)) (blkOk_by (by first | (show blkC ["row", "size", "k", "count", "place"] (defScope st__law_targets) _ _ = true; decide +kernel) | exact rfl)) rfl (fun _ _ _ _ _ => (mg_name (i := 2) S.nd rfl (by first | exact Or.inl rfl | exact Or.inr rfl) (by decide))) (fun _ _ _ _ _ => mts_nil) (fun _ _ _ _ _ => (me_var (pv 2)))))) mss_nil)
  (mss_cons (ms_set (i := 3) S.nd rfl (by first | exact Or.inl rfl | exact Or.inr rfl) (me_ix (hu64 hr) (me_p (mf_e (mf_lst (ma_cons me_int (ma_cons me_int (ma_cons me_int (ma_cons me_int (ma_cons me_int (ma_cons me_int (ma_cons me_int ma_nil)))))))))) (me_p (me_ix (hu64 hr) (me_p (me_var (pv 0))) (me_p me_int) (fun _ _ => rfl))) (fun _ _ => rfl)))
  (mss_one (ms_retF (mf_sortSet rfl rfl T.b_sorted rfl T.b_set (me_p (mf_e (mf_comp (own := [("place", 4)]) rfl S.nd (mi_seq (me_sl (me_p (me_var (pv 0))) (mo_some me_int) (mo_some (me_op op2_add (me_p me_int) (me_p (me_var (pv 3))))))) (blkOk_by (by first | (show blkC ["row", "size", "k", "count", "place"] (defScope st__law_targets) _ _ = true; decide +kernel) | exact rfl)) rfl (fun _ _ _ _ _ => (mg_name (i := 4) S.nd rfl (by first | exact Or.inl rfl | exact Or.inr rfl) (by decide))) (fun _ _ _ _ _ => mts_nil) (fun _ _ _ _ _ => (me_op op2_mod (me_p (me_ty bc_int rfl T.b_int rfl (mpa_cons (me_p (me_var (pv 4))) mpa_nil))) (me_p (me_var (pv 1)))))))))))))
theorem ok__law_moves (T : Txt A P w K mg) : FnOk P w K mg base (L2N.CX P w) 3 A.f__law_moves A.d__law_moves ["script", "size", "many"] (spF K (ca A) f__law_moves) := by
  have S : FnScope ["script", "size", "many", "moves", "k", "row", "pairs", "m"] ["script", "size", "many"] (defScope st__law_moves) := ⟨rfl, rfl, rfl, by decide +kernel, rfl, by decide +kernel, by decide +kernel⟩
  refine fn_ok (k := 2) (N := ["script", "size", "many", "moves", "k", "row", "pairs", "m"]) T.F__law_moves S rfl rfl (by decide) fun cdv Ar outer s H E hr tk hp => ?_
  exact (mss_cons (ms_setF (i := 3) S.nd rfl (by first | exact Or.inl rfl | exact Or.inr rfl) (mf_lst ma_nil))
  (mss_cons (ms_for (vs := [4]) hp rfl (mi_range1 rfl T.b_range (ma_cons (me_var (pv 1)) ma_nil)) (mg_name (i := 4) S.nd rfl (by first | exact Or.inl rfl | exact Or.inr rfl) (by decide)) (mss_cons (ms_setCall (i := 5) S.nd rfl (by first | exact Or.inl rfl | exact Or.inr rfl) (mc_call (ok__law_row T) (hr.mono (by omega)) rfl T.m__law_row T.k__law_row T.n__law_row tk (ma_cons (me_op op2_add (me_p (mc_e (mc_call (ok__law_cell T) (hr.mono (by omega)) rfl T.m__law_cell T.k__law_cell T.n__law_cell tk (ma_cons (me_var (pv 0)) (ma_cons (me_op op2_add (me_p me_int) (me_p (me_var (pv 4)))) ma_nil))))) (me_p (me_op op2_mul (me_p me_int) (me_p (me_var (pv 4)))))) (ma_cons (mf_e (mf_rep (mf_lst (ma_cons me_int (ma_cons me_int (ma_cons me_int (ma_cons me_int (ma_cons me_int ma_nil)))))) (me_var (pv 2)))) ma_nil))))
  (mss_cons (ms_setF (i := 6) S.nd rfl (by first | exact Or.inl rfl | exact Or.inr rfl) (mf_lst ma_nil))
  (mss_cons (ms_for (vs := [7]) hp rfl (mi_range1 rfl T.b_range (ma_cons (me_var (pv 2)) ma_nil)) (mg_name (i := 7) S.nd rfl (by first | exact Or.inl rfl | exact Or.inr rfl) (by decide)) (mss_one (ms_append (i := 6) (pe_bm PySem.F.plainAttrs_list PySem.F.slot_list_append PySem.F.type_list_append mt_append (pv 6) (pa_cons (me_tup (ma_cons (mc_e (mc_call (ok__law_targets T) (hr.mono (by omega)) rfl T.m__law_targets T.k__law_targets T.n__law_targets tk (ma_cons (me_sl (mp_var (pv 5)) (mo_some (me_op op2_mul (me_p me_int) (me_p (me_var (pv 7))))) (mo_some (me_op op2_add (me_p (me_op op2_mul (me_p me_int) (me_p (me_var (pv 7))))) (me_p me_int)))) (ma_cons (me_var (pv 1)) ma_nil)))) (ma_cons (me_cmp (op2_eq (hu64 hr)) (me_p (me_ix (hu64 hr) (mp_var (pv 5)) (me_p (me_op op2_add (me_p (me_op op2_mul (me_p me_int) (me_p (me_var (pv 7))))) (me_p me_int))) (fun _ _ => rfl))) (me_p me_int) rfl) ma_nil))) pa_nil)))))
  (mss_one (ms_freeze (ms_append (i := 3) (pe_bm PySem.F.plainAttrs_list PySem.F.slot_list_append PySem.F.type_list_append mt_append (pv 3) (pa_cons (me_var (pv 6)) pa_nil)))))))))
  (mss_one (ms_retOwn (pv 3)))))
theorem ok_are_places (T : Txt A P w K mg) : FnOk P w K mg base (L2N.CX P w) 4 A.f_are_places A.d_are_places ["row", "size"] (spF K (ca A) f_are_places) := by
  have S : FnScope ["row", "size", "last", "value"] ["row", "size"] (defScope st_are_places) := ⟨rfl, rfl, rfl, by decide +kernel, rfl, by decide +kernel, by decide +kernel⟩
  refine fn_ok (k := 3) (N := ["row", "size", "last", "value"]) T.F_are_places S rfl rfl (by decide) fun cdv Ar outer s H E hr tk hp => ?_
  exact (mss_cons (ms_set (i := 2) S.nd rfl (by first | exact Or.inl rfl | exact Or.inr rfl) (me_neg me_int))
  (mss_cons (ms_for (vs := [3]) hp rfl (mi_seq (me_var (pv 0))) (mg_name (i := 3) S.nd rfl (by first | exact Or.inl rfl | exact Or.inr rfl) (by decide)) (mss_cons (ms_if (mt_w (mw_or (mt_not (mt_val (mc_e (mc_call (ok_is_place T) (hr.mono (by omega)) rfl T.m_is_place T.k_is_place T.n_is_place tk (ma_cons (me_var (pv 3)) (ma_cons (me_var (pv 1)) ma_nil)))))) (mw_or1 (mt_cmp op2_le (me_p (me_var (pv 3))) (me_p (me_var (pv 2))) rfl)))) (mss_one (ms_ret me_bl)) mss_nil)
  (mss_one (ms_set (i := 2) S.nd rfl (by first | exact Or.inl rfl | exact Or.inr rfl) (me_var (pv 3))))))
  (mss_one (ms_ret me_bl))))
theorem ok_is_moves (T : Txt A P w K mg) : FnOk P w K mg base (L2N.CX P w) 5 A.f_is_moves A.d_is_moves ["moves"] (spF K (ca A) f_is_moves) := by
  have S : FnScope ["moves", "size", "row", "targets", "endless"] ["moves"] (defScope st_is_moves) := ⟨rfl, rfl, rfl, by decide +kernel, rfl, by decide +kernel, by decide +kernel⟩
  refine fn_ok (k := 4) (N := ["moves", "size", "row", "targets", "endless"]) T.F_is_moves S rfl rfl (by decide) fun cdv Ar outer s H E hr tk hp => ?_
  exact (mss_cons (ms_set (i := 1) S.nd rfl (by first | exact Or.inl rfl | exact Or.inr rfl) (me_b bc_len rfl T.b_len rfl (mpa_cons (me_p (me_var (pv 0))) mpa_nil)))
  (mss_cons (ms_if (mt_w (mw_or (mt_not (mt_chain op2_le op2_le (me_p me_int) (me_p (me_var (pv 1))) (me_p (me_glob rfl T.g_MOST_RESTS.1 T.g_MOST_RESTS.2 (fun _ => rfl))))) (mw_or1 (mt_cmp op2_gt (me_p (me_b bc_len rfl T.b_len rfl (mpa_cons (me_p (me_ix (hu64 hr) (me_p (me_var (pv 0))) (me_p me_int) (fun _ _ => rfl))) mpa_nil))) (me_p (me_glob rfl T.g_MOST_EVENTS.1 T.g_MOST_EVENTS.2 (fun _ => rfl))) rfl)))) (mss_one (ms_ret me_bl)) mss_nil)
  (mss_cons (ms_for (vs := [2]) hp rfl (mi_seq (me_var (pv 0))) (mg_name (i := 2) S.nd rfl (by first | exact Or.inl rfl | exact Or.inr rfl) (by decide)) (mss_cons (ms_if (mt_cmp (op2_ne (hu64 hr)) (me_p (me_b bc_len rfl T.b_len rfl (mpa_cons (me_p (me_var (pv 2))) mpa_nil))) (me_p (me_b bc_len rfl T.b_len rfl (mpa_cons (me_p (me_ix (hu64 hr) (me_p (me_var (pv 0))) (me_p me_int) (fun _ _ => rfl))) mpa_nil))) rfl) (mss_one (ms_ret me_bl)) mss_nil)
  (mss_one (ms_for (vs := [3, 4]) hp rfl (mi_seq (me_var (pv 2))) (mg_tup rfl (mgs_cons (mg_name (i := 3) S.nd rfl (by first | exact Or.inl rfl | exact Or.inr rfl) (by decide)) (mgs_cons (mg_name (i := 4) S.nd rfl (by first | exact Or.inl rfl | exact Or.inr rfl) (by decide)) mgs_nil))) (mss_one (ms_if (mt_w (mw_or (mt_not (mt_val (me_b bc_isi rfl T.b_isinstance rfl (mpa_cons (me_p (me_var (pv 4))) (mpa_cons (me_p (me_tyName rfl T.b_bool rfl)) mpa_nil))))) (mw_or1 (mt_not (mt_val (mc_e (mc_call (ok_are_places T) (hr.mono (by omega)) rfl T.m_are_places T.k_are_places T.n_are_places tk (ma_cons (me_var (pv 3)) (ma_cons (me_var (pv 1)) ma_nil))))))))) (mss_one (ms_ret me_bl)) mss_nil))))))
  (mss_one (ms_ret me_bl)))))
theorem ok_demand_question (T : Txt A P w K mg) : FnOk P w K mg base (L2N.CX P w) 6 A.f_demand_question A.d_demand_question ["moves", "goals", "start"] (spF K (ca A) f_demand_question) := by
  have S : FnScope ["moves", "goals", "start"] ["moves", "goals", "start"] (defScope st_demand_question) := ⟨rfl, rfl, rfl, by decide +kernel, rfl, by decide +kernel, by decide +kernel⟩
  refine fn_ok (k := 5) (N := ["moves", "goals", "start"]) T.F_demand_question S rfl rfl (by decide) fun cdv Ar outer s H E hr tk hp => ?_
  exact (mss_cons (ms_if (mt_not (mt_val (mc_e (mc_call (ok_is_moves T) (hr.mono (by omega)) rfl T.m_is_moves T.k_is_moves T.n_is_moves tk (ma_cons (me_var (pv 0)) ma_nil))))) (mss_one (ms_raise0 (c := 11) rfl tk (L2N.pmk_own PySem.F.excBase_ValueError T.xi_BadGraph T.gc_BadGraph T.kc_BadGraph T.ra_BadGraph rfl))) mss_nil)
  (mss_cons (ms_if (mt_not (mt_val (mc_e (mc_call (ok_are_places T) (hr.mono (by omega)) rfl T.m_are_places T.k_are_places T.n_are_places tk (ma_cons (me_var (pv 1)) (ma_cons (me_b bc_len rfl T.b_len rfl (mpa_cons (me_p (me_var (pv 0))) mpa_nil)) ma_nil)))))) (mss_one (ms_raise0 (c := 9) rfl tk (L2N.pmk_own PySem.F.excBase_ValueError T.xi_BadOrder T.gc_BadOrder T.kc_BadOrder T.ra_BadOrder rfl))) mss_nil)
  (mss_one (ms_if (mt_not (mt_val (mc_e (mc_call (ok_is_place T) (hr.mono (by omega)) rfl T.m_is_place T.k_is_place T.n_is_place tk (ma_cons (me_var (pv 2)) (ma_cons (me_b bc_len rfl T.b_len rfl (mpa_cons (me_p (me_var (pv 0))) mpa_nil)) ma_nil)))))) (mss_one (ms_raise0 (c := 9) rfl tk (L2N.pmk_own PySem.F.excBase_ValueError T.xi_BadOrder T.gc_BadOrder T.kc_BadOrder T.ra_BadOrder rfl))) mss_nil))))
theorem ok_forcing_event (T : Txt A P w K mg) : FnOk P w K mg base (L2N.CX P w) 2 A.f_forcing_event A.d_forcing_event ["row", "plan"] (spF K (ca A) f_forcing_event) := by
  have S : FnScope ["row", "plan", "event", "targets", "endless", "missing", "after"] ["row", "plan"] (defScope st_forcing_event) := ⟨rfl, rfl, rfl, by decide +kernel, rfl, by decide +kernel, by decide +kernel⟩
  refine fn_ok (k := 1) (N := ["row", "plan", "event", "targets", "endless", "missing", "after"]) T.F_forcing_event S rfl rfl (by decide) fun cdv Ar outer s H E hr tk hp => ?_
  exact (mss_cons (ms_for (vs := [2, 3, 4]) hp rfl (mi_enum2 rfl T.b_enumerate (ma_cons (me_var (pv 0)) ma_nil)) (mg_tup rfl (mgs_cons (mg_name (i := 2) S.nd rfl (by first | exact Or.inl rfl | exact Or.inr rfl) (by decide)) (mgs_cons (mg_tup rfl (mgs_cons (mg_name (i := 3) S.nd rfl (by first | exact Or.inl rfl | exact Or.inr rfl) (by decide)) (mgs_cons (mg_name (i := 4) S.nd rfl (by first | exact Or.inl rfl | exact Or.inr rfl) (by decide)) mgs_nil))) mgs_nil))) (mss_cons (ms_setComp (i := 5) (own := [("after", 6)]) rfl S.nd rfl rfl (sw_true rfl rfl rfl rfl) (mi_seq (me_var (pv 3))) (blkOk_by (by first | (show blkC ["row", "plan", "event", "targets", "endless", "missing", "after"] (defScope st_forcing_event) _ _ = true; decide +kernel) | exact rfl)) rfl (fun _ _ _ _ _ => (mg_name (i := 6) S.nd rfl (by first | exact Or.inl rfl | exact Or.inr rfl) (by decide))) (fun _ _ _ _ _ => (mts_one (mt_cmp (op2_lt (hu2 hr)) (me_p (me_ix (hu64 hr) (me_p (me_ix (hu64 hr) (me_p (me_var (pv 1))) (me_p (me_var (pv 6))) (fun _ _ => rfl))) (me_p me_int) (fun _ _ => rfl))) (me_p me_int) rfl))) (fun _ _ _ _ _ => (me_var (pv 6))))
  (mss_one (ms_if (mt_w (mw_and (mt_not (mt_val (me_var (pv 4)))) (mw_and (mt_cmp op2_gt (me_p (me_b bc_len rfl T.b_len rfl (mpa_cons (me_p (me_var (pv 3))) mpa_nil))) (me_p me_int) rfl) (mw_and1 (mt_cmp (op2_eq (hu64 hr)) (me_p (me_b bc_len rfl T.b_len rfl (mpa_cons (mp_var (pv 5)) mpa_nil))) (me_p me_int) rfl))))) (mss_one (ms_ret (me_var (pv 2)))) mss_nil))))
  (mss_one (ms_ret (me_neg me_int))))
theorem ok_forced_plan (T : Txt A P w K mg) : FnOk P w K mg base (L2N.CX P w) 3 A.f_forced_plan A.d_forced_plan ["moves", "goals"] (spF K (ca A) f_forced_plan) := by
  have S : FnScope ["moves", "goals", "plan", "_", "goal", "rank", "found", "rest", "row", "event"] ["moves", "goals"] (defScope st_forced_plan) := ⟨rfl, rfl, rfl, by decide +kernel, rfl, by decide +kernel, by decide +kernel⟩
  refine fn_ok (k := 2) (N := ["moves", "goals", "plan", "_", "goal", "rank", "found", "rest", "row", "event"]) T.F_forced_plan S rfl rfl (by decide) fun cdv Ar outer s H E hr tk hp => ?_
  exact (mss_cons (ms_setComp (i := 2) (own := [("_", 3)]) rfl S.nd rfl rfl (sw_true rfl rfl rfl rfl) (mi_seq (me_var (pv 0))) (blkOk_by (by first | (show blkC ["moves", "goals", "plan", "_", "goal", "rank", "found", "rest", "row", "event"] (defScope st_forced_plan) _ _ = true; decide +kernel) | exact rfl)) rfl (fun _ _ _ _ _ => (mg_name (i := 3) S.nd rfl (by first | exact Or.inl rfl | exact Or.inr rfl) (by decide))) (fun _ _ _ _ _ => mts_nil) (fun _ _ _ _ _ => (me_tup (ma_cons (me_neg me_int) (ma_cons (me_neg me_int) ma_nil)))))
  (mss_cons (ms_for (vs := [4]) hp rfl (mi_seq (me_var (pv 1))) (mg_name (i := 4) S.nd rfl (by first | exact Or.inl rfl | exact Or.inr rfl) (by decide)) (mss_one (ms_setIx (i := 2) (ps_asg (me_tup (ma_cons me_int (ma_cons (me_neg me_int) ma_nil))) (pg_sub (pv 2) (me_p (me_var (pv 4))) set_list)))))
  (mss_cons (ms_for (vs := [5]) hp rfl (mi_range2 rfl T.b_range (ma_cons me_int (ma_cons (me_b bc_len rfl T.b_len rfl (mpa_cons (me_p (me_var (pv 0))) mpa_nil)) ma_nil))) (mg_name (i := 5) S.nd rfl (by first | exact Or.inl rfl | exact Or.inr rfl) (by decide)) (mss_cons (ms_setF (i := 6) S.nd rfl (by first | exact Or.inl rfl | exact Or.inr rfl) (mf_lst ma_nil))
  (mss_cons (ms_for (vs := [7, 8]) hp rfl (mi_enum2 rfl T.b_enumerate (ma_cons (me_var (pv 0)) ma_nil)) (mg_tup rfl (mgs_cons (mg_name (i := 7) S.nd rfl (by first | exact Or.inl rfl | exact Or.inr rfl) (by decide)) (mgs_cons (mg_name (i := 8) S.nd rfl (by first | exact Or.inl rfl | exact Or.inr rfl) (by decide)) mgs_nil))) (mss_one (ms_if (mt_cmp (op2_lt (hu2 hr)) (me_p (me_ix (hu64 hr) (me_p (me_ix (hu64 hr) (mp_var (pv 2)) (me_p (me_var (pv 7))) (fun _ _ => rfl))) (me_p me_int) (fun _ _ => rfl))) (me_p me_int) rfl) (mss_cons (ms_set (i := 9) S.nd rfl (by first | exact Or.inl rfl | exact Or.inr rfl) (me_callP (ok_forcing_event T) (hr.mono (by omega)) rfl T.m_forcing_event T.k_forcing_event T.n_forcing_event tk (mba_cons (mb_p (me_p (me_var (pv 8)))) (mba_cons (mb_peek (pv 2)) mba_nil))))
  (mss_one (ms_if (mt_cmp op2_ge (mp_var (pv 9)) (me_p me_int) rfl) (mss_one (ms_freeze (ms_append (i := 6) (pe_bm PySem.F.plainAttrs_list PySem.F.slot_list_append PySem.F.type_list_append mt_append (pv 6) (pa_cons (me_tup (ma_cons (me_var (pv 7)) (ma_cons (me_var (pv 9)) ma_nil))) pa_nil))))) mss_nil))) mss_nil)))
  (mss_cons (ms_if (mt_cmp (op2_eq (hu64 hr)) (me_p (me_b bc_len rfl T.b_len rfl (mpa_cons (mp_var (pv 6)) mpa_nil))) (me_p me_int) rfl) (mss_one ms_break) mss_nil)
  (mss_one (ms_freeze (ms_for (vs := [7, 9]) hp rfl (mi_seq (me_var (pv 6))) (mg_tup rfl (mgs_cons (mg_name (i := 7) S.nd rfl (by first | exact Or.inl rfl | exact Or.inr rfl) (by decide)) (mgs_cons (mg_name (i := 9) S.nd rfl (by first | exact Or.inl rfl | exact Or.inr rfl) (by decide)) mgs_nil))) (mss_one (ms_freeze (ms_setIx (i := 2) (ps_asg (me_tup (ma_cons (me_var (pv 5)) (ma_cons (me_var (pv 9)) ma_nil))) (pg_sub (pv 2) (me_p (me_var (pv 7))) set_list))))))))))))
  (mss_one (ms_ret (me_ty bc_tuple rfl T.b_tuple rfl (mpa_cons (mp_var (pv 2)) mpa_nil)))))))
theorem ok_wish_paper (T : Txt A P w K mg) : FnOk P w K mg base (L2N.CX P w) 7 A.f_wish_paper A.d_wish_paper ["moves", "goals", "start"] (spF K (ca A) f_wish_paper) := by
  have S : FnScope ["moves", "goals", "start", "plan", "rest"] ["moves", "goals", "start"] (defScope st_wish_paper) := ⟨rfl, rfl, rfl, by decide +kernel, rfl, by decide +kernel, by decide +kernel⟩
  refine fn_ok (k := 6) (N := ["moves", "goals", "start", "plan", "rest"]) T.F_wish_paper S rfl rfl (by decide) fun cdv Ar outer s H E hr tk hp => ?_
  exact (mss_cons (ms_expr (mc_e (mc_call (ok_demand_question T) (hr.mono (by omega)) rfl T.m_demand_question T.k_demand_question T.n_demand_question tk (ma_cons (me_var (pv 0)) (ma_cons (me_var (pv 1)) (ma_cons (me_var (pv 2)) ma_nil))))))
  (mss_cons (ms_setCall (i := 3) S.nd rfl (by first | exact Or.inl rfl | exact Or.inr rfl) (mc_call (ok_forced_plan T) (hr.mono (by omega)) rfl T.m_forced_plan T.k_forced_plan T.n_forced_plan tk (ma_cons (me_var (pv 0)) (ma_cons (me_var (pv 1)) ma_nil))))
  (mss_cons (ms_if (mt_cmp op2_ge (me_p (me_ix (hu64 hr) (me_p (me_ix (hu64 hr) (mp_var (pv 3)) (me_p (me_var (pv 2))) (fun _ _ => rfl))) (me_p me_int) (fun _ _ => rfl))) (me_p me_int) rfl) (mss_one (ms_freeze (ms_ret (me_tup (ma_cons me_str (ma_cons (me_var (pv 3)) ma_nil)))))) mss_nil)
  (mss_one (ms_ret (me_tup (ma_cons me_str (ma_cons (me_ty bc_tuple rfl T.b_tuple rfl (mpa_cons (me_p (mf_e (mf_comp (own := [("rest", 4)]) rfl S.nd (mi_range1 rfl T.b_range (ma_cons (me_b bc_len rfl T.b_len rfl (mpa_cons (me_p (me_var (pv 0))) mpa_nil)) ma_nil)) (blkOk_by (by first | (show blkC ["moves", "goals", "start", "plan", "rest"] (defScope st_wish_paper) _ _ = true; decide +kernel) | exact rfl)) rfl (fun _ _ _ _ _ => (mg_name (i := 4) S.nd rfl (by first | exact Or.inl rfl | exact Or.inr rfl) (by decide))) (fun _ _ _ _ _ => (mts_one (mt_cmp (op2_lt (hu2 hr)) (me_p (me_ix (hu64 hr) (me_p (me_ix (hu64 hr) (mp_var (pv 3)) (me_p (me_var (pv 4))) (fun _ _ => rfl))) (me_p me_int) (fun _ _ => rfl))) (me_p me_int) rfl))) (fun _ _ _ _ _ => (me_var (pv 4)))))) mpa_nil)) ma_nil))))))))
theorem ok_law (T : Txt A P w K mg) : FnOk P w K mg base (L2N.CX P w) 8 A.f_law A.d_law ["script"] (spF K (ca A) f_law) := by
  have S : FnScope ["script", "shape", "size", "many", "moves", "chained", "keys", "k", "key", "share", "marks", "best", "goals", "start", "handed", "plan", "first", "trap", "given", "second"] ["script"] (defScope st_law) := ⟨rfl, rfl, rfl, by decide +kernel, rfl, by decide +kernel, by decide +kernel⟩
  refine fn_ok (k := 7) (N := ["script", "shape", "size", "many", "moves", "chained", "keys", "k", "key", "share", "marks", "best", "goals", "start", "handed", "plan", "first", "trap", "given", "second"]) T.F_law S rfl rfl (by decide) fun cdv Ar outer s H E hr tk hp => ?_
  exact (mss_cons (ms_setCall (i := 1) S.nd rfl (by first | exact Or.inl rfl | exact Or.inr rfl) (mc_call (ok__law_row T) (hr.mono (by omega)) rfl T.m__law_row T.k__law_row T.n__law_row tk (ma_cons (mc_e (mc_call (ok__law_cell T) (hr.mono (by omega)) rfl T.m__law_cell T.k__law_cell T.n__law_cell tk (ma_cons (me_var (pv 0)) (ma_cons me_int ma_nil)))) (ma_cons (me_op op2_add (me_p (mf_e (mf_lst (ma_cons me_int (ma_cons me_int (ma_cons me_int (ma_cons me_int (ma_cons me_int (ma_cons me_int (ma_cons me_int (ma_cons me_int ma_nil))))))))))) (me_p (mf_e (mf_lst (ma_cons me_int (ma_cons me_int (ma_cons me_int (ma_cons me_int (ma_cons me_int (ma_cons me_int (ma_cons me_int (ma_cons me_int (ma_cons me_int (ma_cons me_int ma_nil)))))))))))))) ma_nil))))
  (mss_cons (ms_set (i := 2) S.nd rfl (by first | exact Or.inl rfl | exact Or.inr rfl) (me_op op2_add (me_p me_int) (me_p (me_ix (hu64 hr) (mp_var (pv 1)) (me_p me_int) (fun _ _ => rfl)))))
  (mss_cons (ms_set (i := 3) S.nd rfl (by first | exact Or.inl rfl | exact Or.inr rfl) (me_ix (hu64 hr) (mp_var (pv 1)) (me_p me_int) (fun _ _ => rfl)))
  (mss_cons (ms_if (mt_cmp (op2_eq (hu64 hr)) (me_p (me_ix (hu64 hr) (mp_var (pv 1)) (me_p me_int) (fun _ _ => rfl))) (me_p me_int) rfl) (mss_cons (ms_set (i := 2) S.nd rfl (by first | exact Or.inl rfl | exact Or.inr rfl) (me_op op2_add (me_p me_int) (me_p (me_ix (hu64 hr) (mp_var (pv 1)) (me_p me_int) (fun _ _ => rfl)))))
  (mss_one (ms_set (i := 3) S.nd rfl (by first | exact Or.inl rfl | exact Or.inr rfl) (me_op op2_add (me_p me_int) (me_p (me_op op2_mod (me_p (me_ix (hu64 hr) (mp_var (pv 1)) (me_p me_int) (fun _ _ => rfl))) (me_p me_int))))))) mss_nil)
  (mss_cons (ms_setCall (i := 4) S.nd rfl (by first | exact Or.inl rfl | exact Or.inr rfl) (mc_call (ok__law_moves T) (hr.mono (by omega)) rfl T.m__law_moves T.k__law_moves T.n__law_moves tk (ma_cons (me_var (pv 0)) (ma_cons (me_var (pv 2)) (ma_cons (me_var (pv 3)) ma_nil)))))
  (mss_cons (ms_set (i := 5) S.nd rfl (by first | exact Or.inl rfl | exact Or.inr rfl) (me_and (me_cmp (op2_eq (hu64 hr)) (me_p (me_ix (hu64 hr) (mp_var (pv 1)) (me_p me_int) (fun _ _ => rfl))) (me_p me_int) rfl) (me_one (me_cmp op2_gt (me_p (me_var (pv 3))) (me_p me_int) rfl))))
  (mss_cons (ms_setCall (i := 6) S.nd rfl (by first | exact Or.inl rfl | exact Or.inr rfl) (mc_call (ok__law_row T) (hr.mono (by omega)) rfl T.m__law_row T.k__law_row T.n__law_row tk (ma_cons (mc_e (mc_call (ok__law_cell T) (hr.mono (by omega)) rfl T.m__law_cell T.k__law_cell T.n__law_cell tk (ma_cons (me_var (pv 0)) (ma_cons me_int ma_nil)))) (ma_cons (mf_e (mf_comp (own := [("k", 7)]) rfl S.nd (mi_range1 rfl T.b_range (ma_cons (me_var (pv 2)) ma_nil)) (blkOk_by (by first | (show blkC ["script", "shape", "size", "many", "moves", "chained", "keys", "k", "key", "share", "marks", "best", "goals", "start", "handed", "plan", "first", "trap", "given", "second"] (defScope st_law) _ _ = true; decide +kernel) | exact rfl)) rfl (fun _ _ _ _ _ => (mg_name (i := 7) S.nd rfl (by first | exact Or.inl rfl | exact Or.inr rfl) (by decide))) (fun _ _ _ _ _ => mts_nil) (fun _ _ _ _ _ => me_int))) ma_nil))))
  (mss_cons (ms_if (mt_val (me_var (pv 5))) (mss_one (ms_freeze (ms_setCallG (y := 4) (i := 4) (ok__law_chained T) (hr.mono (by omega)) rfl T.m__law_chained T.k__law_chained T.n__law_chained tk S.nd rfl (by first | exact Or.inl rfl | exact Or.inr rfl) (pv 4) (ma_cons (mf_e (mf_comp (own := [("key", 8)]) rfl S.nd (mi_seq (me_var (pv 6))) (blkOk_by (by first | (show blkC ["script", "shape", "size", "many", "moves", "chained", "keys", "k", "key", "share", "marks", "best", "goals", "start", "handed", "plan", "first", "trap", "given", "second"] (defScope st_law) _ _ = true; decide +kernel) | exact rfl)) rfl (fun _ _ _ _ _ => (mg_name (i := 8) S.nd rfl (by first | exact Or.inl rfl | exact Or.inr rfl) (by decide))) (fun _ _ _ _ _ => mts_nil) (fun _ _ _ _ _ => (me_op op2_fdiv (me_p (me_var (pv 8))) (me_p me_int))))) (ma_cons (mf_e (mf_comp (own := [("key", 8)]) rfl S.nd (mi_seq (me_var (pv 6))) (blkOk_by (by first | (show blkC ["script", "shape", "size", "many", "moves", "chained", "keys", "k", "key", "share", "marks", "best", "goals", "start", "handed", "plan", "first", "trap", "given", "second"] (defScope st_law) _ _ = true; decide +kernel) | exact rfl)) rfl (fun _ _ _ _ _ => (mg_name (i := 8) S.nd rfl (by first | exact Or.inl rfl | exact Or.inr rfl) (by decide))) (fun _ _ _ _ _ => mts_nil) (fun _ _ _ _ _ => (me_op op2_mod (me_p (me_ty bc_int rfl T.b_int rfl (mpa_cons (me_p (me_var (pv 8))) mpa_nil))) (me_p me_int))))) ma_nil))))) mss_nil)
  (mss_cons (ms_set (i := 9) S.nd rfl (by first | exact Or.inl rfl | exact Or.inr rfl) (me_ix (hu64 hr) (me_p (mf_e (mf_lst (ma_cons me_int (ma_cons me_int (ma_cons me_int ma_nil)))))) (me_p (me_ix (hu64 hr) (mp_var (pv 1)) (me_p me_int) (fun _ _ => rfl))) (fun _ _ => rfl)))
  (mss_cons (ms_setCall (i := 10) S.nd rfl (by first | exact Or.inl rfl | exact Or.inr rfl) (mc_call (ok__law_row T) (hr.mono (by omega)) rfl T.m__law_row T.k__law_row T.n__law_row tk (ma_cons (mc_e (mc_call (ok__law_cell T) (hr.mono (by omega)) rfl T.m__law_cell T.k__law_cell T.n__law_cell tk (ma_cons (me_var (pv 0)) (ma_cons me_int ma_nil)))) (ma_cons (mf_e (mf_comp (own := [("k", 7)]) rfl S.nd (mi_range1 rfl T.b_range (ma_cons (me_var (pv 2)) ma_nil)) (blkOk_by (by first | (show blkC ["script", "shape", "size", "many", "moves", "chained", "keys", "k", "key", "share", "marks", "best", "goals", "start", "handed", "plan", "first", "trap", "given", "second"] (defScope st_law) _ _ = true; decide +kernel) | exact rfl)) rfl (fun _ _ _ _ _ => (mg_name (i := 7) S.nd rfl (by first | exact Or.inl rfl | exact Or.inr rfl) (by decide))) (fun _ _ _ _ _ => mts_nil) (fun _ _ _ _ _ => (me_var (pv 9))))) ma_nil))))
  (mss_cons (ms_if (mt_w (mw_and (mt_val (me_var (pv 5))) (mw_and1 (mt_cmp (op2_eq (hu64 hr)) (me_p (me_ix (hu64 hr) (mp_var (pv 1)) (me_p me_int) (fun _ _ => rfl))) (me_p me_int) rfl)))) (mss_cons (ms_set (i := 11) S.nd rfl (by first | exact Or.inl rfl | exact Or.inr rfl) (me_ix (hu64 hr) (me_p (me_b (bc_minP rfl (hu64 hr)) rfl T.b_min rfl (mpa_cons (me_p (mf_e (mf_comp (own := [("k", 7)]) rfl S.nd (mi_range1 rfl T.b_range (ma_cons (me_var (pv 2)) ma_nil)) (blkOk_by (by first | (show blkC ["script", "shape", "size", "many", "moves", "chained", "keys", "k", "key", "share", "marks", "best", "goals", "start", "handed", "plan", "first", "trap", "given", "second"] (defScope st_law) _ _ = true; decide +kernel) | exact rfl)) rfl (fun _ _ _ _ _ => (mg_name (i := 7) S.nd rfl (by first | exact Or.inl rfl | exact Or.inr rfl) (by decide))) (fun _ _ _ _ _ => mts_nil) (fun _ _ _ _ _ => (me_tup (ma_cons (me_op op2_fdiv (me_p (me_ix (hu64 hr) (mp_var (pv 6)) (me_p (me_var (pv 7))) (fun _ _ => rfl))) (me_p me_int)) (ma_cons (me_var (pv 7)) ma_nil))))))) mpa_nil))) (me_p me_int) (fun _ _ => rfl)))
  (mss_one (ms_setF (i := 10) S.nd rfl (by first | exact Or.inl rfl | exact Or.inr rfl) (mf_comp (own := [("k", 7)]) rfl S.nd (mi_range1 rfl T.b_range (ma_cons (me_var (pv 2)) ma_nil)) (blkOk_by (by first | (show blkC ["script", "shape", "size", "many", "moves", "chained", "keys", "k", "key", "share", "marks", "best", "goals", "start", "handed", "plan", "first", "trap", "given", "second"] (defScope st_law) _ _ = true; decide +kernel) | exact rfl)) rfl (fun _ _ _ _ _ => (mg_name (i := 7) S.nd rfl (by first | exact Or.inl rfl | exact Or.inr rfl) (by decide))) (fun _ _ _ _ _ => mts_nil) (fun _ _ _ _ _ => (me_ty bc_int rfl T.b_int rfl (mpa_cons (me_p (me_cmp (op2_eq (hu64 hr)) (me_p (me_var (pv 7))) (me_p (me_var (pv 11))) rfl)) mpa_nil))))))) mss_nil)
  (mss_cons (ms_setComp (i := 12) (own := [("k", 7)]) rfl S.nd rfl rfl (sw_true rfl rfl rfl rfl) (mi_range1 rfl T.b_range (ma_cons (me_var (pv 2)) ma_nil)) (blkOk_by (by first | (show blkC ["script", "shape", "size", "many", "moves", "chained", "keys", "k", "key", "share", "marks", "best", "goals", "start", "handed", "plan", "first", "trap", "given", "second"] (defScope st_law) _ _ = true; decide +kernel) | exact rfl)) rfl (fun _ _ _ _ _ => (mg_name (i := 7) S.nd rfl (by first | exact Or.inl rfl | exact Or.inr rfl) (by decide))) (fun _ _ _ _ _ => (mts_one (mt_cmp (op2_eq (hu64 hr)) (me_p (me_ix (hu64 hr) (mp_var (pv 10)) (me_p (me_var (pv 7))) (fun _ _ => rfl))) (me_p me_int) rfl))) (fun _ _ _ _ _ => (me_var (pv 7))))
  (mss_cons (ms_set (i := 13) S.nd rfl (by first | exact Or.inl rfl | exact Or.inr rfl) (me_op op2_mod (me_p (me_ix (hu64 hr) (mp_var (pv 1)) (me_p me_int) (fun _ _ => rfl))) (me_p (me_var (pv 2)))))
  (mss_cons (ms_freeze (ms_setCall (i := 14) S.nd rfl (by first | exact Or.inl rfl | exact Or.inr rfl) (mc_call (ok__law_copied T) (hr.mono (by omega)) rfl T.m__law_copied T.k__law_copied T.n__law_copied tk (ma_cons (me_var (pv 4)) (ma_cons (me_cmp (op2_eq (hu64 hr)) (me_p (me_ix (hu64 hr) (mp_var (pv 1)) (me_p me_int) (fun _ _ => rfl))) (me_p me_int) rfl) ma_nil)))))
  (mss_cons (ms_freeze (ms_if (mt_cmp op2_isNot (me_p (mc_e (mc_call (ok_is_moves T) (hr.mono (by omega)) rfl T.m_is_moves T.k_is_moves T.n_is_moves tk (ma_cons (me_var (pv 14)) ma_nil)))) (me_p me_bl) rfl) (mss_one (ms_ret me_bl)) mss_nil))
  (mss_cons (ms_set (i := 15) S.nd rfl (by first | exact Or.inl rfl | exact Or.inr rfl) (me_ty bc_tuple rfl T.b_tuple rfl (mpa_cons (me_p (mf_e (mf_comp (own := [("k", 7)]) rfl S.nd (mi_range1 rfl T.b_range (ma_cons (me_var (pv 2)) ma_nil)) (blkOk_by (by first | (show blkC ["script", "shape", "size", "many", "moves", "chained", "keys", "k", "key", "share", "marks", "best", "goals", "start", "handed", "plan", "first", "trap", "given", "second"] (defScope st_law) _ _ = true; decide +kernel) | exact rfl)) rfl (fun _ _ _ _ _ => (mg_name (i := 7) S.nd rfl (by first | exact Or.inl rfl | exact Or.inr rfl) (by decide))) (fun _ _ _ _ _ => mts_nil) (fun _ _ _ _ _ => (me_tup (ma_cons (me_neg me_int) (ma_cons (me_neg me_int) ma_nil))))))) mpa_nil)))
  (mss_cons (ms_if (mt_cmp op2_gt (me_p (me_b bc_len rfl T.b_len rfl (mpa_cons (mp_var (pv 12)) mpa_nil))) (me_p me_int) rfl) (mss_cons (ms_freeze (ms_setCall (i := 16) S.nd rfl (by first | exact Or.inl rfl | exact Or.inr rfl) (mc_call (ok_wish_paper T) (hr.mono (by omega)) rfl T.m_wish_paper T.k_wish_paper T.n_wish_paper tk (ma_cons (me_var (pv 14)) (ma_cons (mf_e (mf_ty bf_list rfl T.b_list rfl (mpa_cons (mp_var (pv 12)) mpa_nil))) (ma_cons (me_ix (hu64 hr) (mp_var (pv 12)) (me_p me_int) (fun _ _ => rfl)) ma_nil))))))
  (mss_cons (ms_freeze (ms_freeze (ms_freeze (ms_if (mt_not (mt_val (mc_e (mc_call (ok__law_is_plan T) (hr.mono (by omega)) rfl T.m__law_is_plan T.k__law_is_plan T.n__law_is_plan tk (ma_cons (me_var (pv 16)) (ma_cons (me_var (pv 4)) (ma_cons (me_var (pv 12)) ma_nil))))))) (mss_one (ms_ret me_bl)) mss_nil))))
  (mss_one (ms_set (i := 15) S.nd rfl (by first | exact Or.inl rfl | exact Or.inr rfl) (me_ix (hu64 hr) (mp_var (pv 16)) (me_p me_int) (fun _ _ => rfl)))))) mss_nil)
  (mss_cons (ms_setComp (i := 17) (own := [("k", 7)]) rfl S.nd rfl rfl (sw_true rfl rfl rfl rfl) (mi_range1 rfl T.b_range (ma_cons (me_var (pv 2)) ma_nil)) (blkOk_by (by first | (show blkC ["script", "shape", "size", "many", "moves", "chained", "keys", "k", "key", "share", "marks", "best", "goals", "start", "handed", "plan", "first", "trap", "given", "second"] (defScope st_law) _ _ = true; decide +kernel) | exact rfl)) rfl (fun _ _ _ _ _ => (mg_name (i := 7) S.nd rfl (by first | exact Or.inl rfl | exact Or.inr rfl) (by decide))) (fun _ _ _ _ _ => (mts_one (mt_cmp (op2_eq (hu64 hr)) (me_p (me_ix (hu64 hr) (me_p (me_ix (hu64 hr) (me_p (me_var (pv 15))) (me_p (me_var (pv 7))) (fun _ _ => rfl))) (me_p me_int) (fun _ _ => rfl))) (me_p (me_neg me_int)) rfl))) (fun _ _ _ _ _ => (me_var (pv 7))))
  (mss_cons (ms_setF (i := 18) S.nd rfl (by first | exact Or.inl rfl | exact Or.inr rfl) (mf_ty bf_list rfl T.b_list rfl (mpa_cons (mp_var (pv 12)) mpa_nil)))
  (mss_cons (ms_freeze (ms_freeze (ms_setCall (i := 19) S.nd rfl (by first | exact Or.inl rfl | exact Or.inr rfl) (mc_call (ok_wish_paper T) (hr.mono (by omega)) rfl T.m_wish_paper T.k_wish_paper T.n_wish_paper tk (ma_cons (me_var (pv 14)) (ma_cons (me_var (pv 18)) (ma_cons (me_var (pv 13)) ma_nil)))))))
  (mss_cons (ms_if (mt_cmp (op2_in (hu64 hr)) (me_p (me_var (pv 13))) (mp_var (pv 17)) rfl) (mss_one (ms_freeze (ms_freeze (ms_freeze (ms_freeze (ms_if (mt_w (mw_or (mt_not (mt_val (mc_e (mc_call (ok__law_trap_is_right T) (hr.mono (by omega)) rfl T.m__law_trap_is_right T.k__law_trap_is_right T.n__law_trap_is_right tk (ma_cons (me_var (pv 4)) (ma_cons (me_var (pv 12)) (ma_cons (me_var (pv 13)) (ma_cons (me_var (pv 17)) ma_nil)))))))) (mw_or1 (mt_not (mt_val (mc_e (mc_call (ok__law_is_trap T) (hr.mono (by omega)) rfl T.m__law_is_trap T.k__law_is_trap T.n__law_is_trap tk (ma_cons (me_var (pv 19)) (ma_cons (me_var (pv 17)) ma_nil))))))))) (mss_one (ms_ret me_bl)) mss_nil)))))) (mss_one (ms_freeze (ms_freeze (ms_freeze (ms_if (mt_not (mt_val (mc_e (mc_call (ok__law_is_plan T) (hr.mono (by omega)) rfl T.m__law_is_plan T.k__law_is_plan T.n__law_is_plan tk (ma_cons (me_var (pv 19)) (ma_cons (me_var (pv 4)) (ma_cons (me_var (pv 12)) ma_nil))))))) (mss_one (ms_ret me_bl)) mss_nil))))))
  (mss_cons (ms_freeze (ms_freeze (ms_freeze (ms_if (mt_not (mt_val (mc_e (mc_call (ok__law_judges_agree T) (hr.mono (by omega)) rfl T.m__law_judges_agree T.k__law_judges_agree T.n__law_judges_agree tk (ma_cons (me_var (pv 14)) (ma_cons (me_var (pv 18)) (ma_cons (me_var (pv 13)) (ma_cons (me_var (pv 15)) (ma_cons (me_var (pv 17)) (ma_cons (me_sl (mp_var (pv 1)) (mo_some me_int) mo_no) ma_nil)))))))))) (mss_one (ms_ret me_bl)) mss_nil))))
  (mss_one (ms_freeze (ms_ret (me_and (me_cmp (op2_eq (hu64 hr)) (mp_var (pv 14)) (me_p (mc_e (mc_call (ok__law_copied T) (hr.mono (by omega)) rfl T.m__law_copied T.k__law_copied T.n__law_copied tk (ma_cons (me_var (pv 4)) (ma_cons (me_cmp (op2_eq (hu64 hr)) (me_p (me_ix (hu64 hr) (mp_var (pv 1)) (me_p me_int) (fun _ _ => rfl))) (me_p me_int) rfl) ma_nil))))) rfl) (me_one (me_cmp (op2_eq (hu64 hr)) (mp_var (pv 18)) (mp_var (pv 12)) rfl))))))))))))))))))))))))))))
end
end Lw
namespace Lw
open M PySem PySem.Spec PyProof.Rows L2

theorem all_mk {P : Program} {w : World} {K : PySem.W.Frag} {h : Heap} {mg : Str → Option Value} {fa : Addr} (X : K.In h) (G : h.Ns mainGlobals mg) (hfa : mg "law" = some (.ref fa))
  {r__law_cell : Addr} {oc__law_cell kV__law_cell dc__law_cell pm__law_cell cd__law_cell ct__law_cell : Value} {od__law_cell an__law_cell : Option Addr} {sl__law_cell : Array (Option Value)}
  {r__law_chained : Addr} {oc__law_chained kV__law_chained dc__law_chained pm__law_chained cd__law_chained ct__law_chained : Value} {od__law_chained an__law_chained : Option Addr} {sl__law_chained : Array (Option Value)}
  {r__law_copied : Addr} {oc__law_copied kV__law_copied dc__law_copied pm__law_copied cd__law_copied ct__law_copied : Value} {od__law_copied an__law_copied : Option Addr} {sl__law_copied : Array (Option Value)}
  {r__law_is_paper : Addr} {oc__law_is_paper kV__law_is_paper dc__law_is_paper pm__law_is_paper cd__law_is_paper ct__law_is_paper : Value} {od__law_is_paper an__law_is_paper : Option Addr} {sl__law_is_paper : Array (Option Value)}
  {r__law_best : Addr} {oc__law_best kV__law_best dc__law_best pm__law_best cd__law_best ct__law_best : Value} {od__law_best an__law_best : Option Addr} {sl__law_best : Array (Option Value)}
  {r__law_is_integer : Addr} {oc__law_is_integer kV__law_is_integer dc__law_is_integer pm__law_is_integer cd__law_is_integer ct__law_is_integer : Value} {od__law_is_integer an__law_is_integer : Option Addr} {sl__law_is_integer : Array (Option Value)}
  {r__law_plan_is_right : Addr} {oc__law_plan_is_right kV__law_plan_is_right dc__law_plan_is_right pm__law_plan_is_right cd__law_plan_is_right ct__law_plan_is_right : Value} {od__law_plan_is_right an__law_plan_is_right : Option Addr} {sl__law_plan_is_right : Array (Option Value)}
  {r__law_plan_is_least : Addr} {oc__law_plan_is_least kV__law_plan_is_least dc__law_plan_is_least pm__law_plan_is_least cd__law_plan_is_least ct__law_plan_is_least : Value} {od__law_plan_is_least an__law_plan_is_least : Option Addr} {sl__law_plan_is_least : Array (Option Value)}
  {r__law_is_plan : Addr} {oc__law_is_plan kV__law_is_plan dc__law_is_plan pm__law_is_plan cd__law_is_plan ct__law_is_plan : Value} {od__law_is_plan an__law_is_plan : Option Addr} {sl__law_is_plan : Array (Option Value)}
  {r__law_is_trap : Addr} {oc__law_is_trap kV__law_is_trap dc__law_is_trap pm__law_is_trap cd__law_is_trap ct__law_is_trap : Value} {od__law_is_trap an__law_is_trap : Option Addr} {sl__law_is_trap : Array (Option Value)}
  {r__law_changed_plan : Addr} {oc__law_changed_plan kV__law_changed_plan dc__law_changed_plan pm__law_changed_plan cd__law_changed_plan ct__law_changed_plan : Value} {od__law_changed_plan an__law_changed_plan : Option Addr} {sl__law_changed_plan : Array (Option Value)}
  {r__law_changed_trap : Addr} {oc__law_changed_trap kV__law_changed_trap dc__law_changed_trap pm__law_changed_trap cd__law_changed_trap ct__law_changed_trap : Value} {od__law_changed_trap an__law_changed_trap : Option Addr} {sl__law_changed_trap : Array (Option Value)}
  {r__law_says : Addr} {oc__law_says kV__law_says dc__law_says pm__law_says cd__law_says ct__law_says : Value} {od__law_says an__law_says : Option Addr} {sl__law_says : Array (Option Value)}
  {r__law_trap_is_right : Addr} {oc__law_trap_is_right kV__law_trap_is_right dc__law_trap_is_right pm__law_trap_is_right cd__law_trap_is_right ct__law_trap_is_right : Value} {od__law_trap_is_right an__law_trap_is_right : Option Addr} {sl__law_trap_is_right : Array (Option Value)}
  {r_is_integer : Addr} {oc_is_integer kV_is_integer dc_is_integer pm_is_integer cd_is_integer ct_is_integer : Value} {od_is_integer an_is_integer : Option Addr} {sl_is_integer : Array (Option Value)}
  {r_is_place : Addr} {oc_is_place kV_is_place dc_is_place pm_is_place cd_is_place ct_is_place : Value} {od_is_place an_is_place : Option Addr} {sl_is_place : Array (Option Value)}
  {r_pair_is_right : Addr} {oc_pair_is_right kV_pair_is_right dc_pair_is_right pm_pair_is_right cd_pair_is_right ct_pair_is_right : Value} {od_pair_is_right an_pair_is_right : Option Addr} {sl_pair_is_right : Array (Option Value)}
  {r_shows_plan : Addr} {oc_shows_plan kV_shows_plan dc_shows_plan pm_shows_plan cd_shows_plan ct_shows_plan : Value} {od_shows_plan an_shows_plan : Option Addr} {sl_shows_plan : Array (Option Value)}
  {r_holds_off : Addr} {oc_holds_off kV_holds_off dc_holds_off pm_holds_off cd_holds_off ct_holds_off : Value} {od_holds_off an_holds_off : Option Addr} {sl_holds_off : Array (Option Value)}
  {r_shows_trap : Addr} {oc_shows_trap kV_shows_trap dc_shows_trap pm_shows_trap cd_shows_trap ct_shows_trap : Value} {od_shows_trap an_shows_trap : Option Addr} {sl_shows_trap : Array (Option Value)}
  {r__law_judges_agree : Addr} {oc__law_judges_agree kV__law_judges_agree dc__law_judges_agree pm__law_judges_agree cd__law_judges_agree ct__law_judges_agree : Value} {od__law_judges_agree an__law_judges_agree : Option Addr} {sl__law_judges_agree : Array (Option Value)}
  {r__law_row : Addr} {oc__law_row kV__law_row dc__law_row pm__law_row cd__law_row ct__law_row : Value} {od__law_row an__law_row : Option Addr} {sl__law_row : Array (Option Value)}
  {r__law_targets : Addr} {oc__law_targets kV__law_targets dc__law_targets pm__law_targets cd__law_targets ct__law_targets : Value} {od__law_targets an__law_targets : Option Addr} {sl__law_targets : Array (Option Value)}
  {r__law_moves : Addr} {oc__law_moves kV__law_moves dc__law_moves pm__law_moves cd__law_moves ct__law_moves : Value} {od__law_moves an__law_moves : Option Addr} {sl__law_moves : Array (Option Value)}
  {r_are_places : Addr} {oc_are_places kV_are_places dc_are_places pm_are_places cd_are_places ct_are_places : Value} {od_are_places an_are_places : Option Addr} {sl_are_places : Array (Option Value)}
  {r_is_moves : Addr} {oc_is_moves kV_is_moves dc_is_moves pm_is_moves cd_is_moves ct_is_moves : Value} {od_is_moves an_is_moves : Option Addr} {sl_is_moves : Array (Option Value)}
  {r_demand_question : Addr} {oc_demand_question kV_demand_question dc_demand_question pm_demand_question cd_demand_question ct_demand_question : Value} {od_demand_question an_demand_question : Option Addr} {sl_demand_question : Array (Option Value)}
  {r_forcing_event : Addr} {oc_forcing_event kV_forcing_event dc_forcing_event pm_forcing_event cd_forcing_event ct_forcing_event : Value} {od_forcing_event an_forcing_event : Option Addr} {sl_forcing_event : Array (Option Value)}
  {r_forced_plan : Addr} {oc_forced_plan kV_forced_plan dc_forced_plan pm_forced_plan cd_forced_plan ct_forced_plan : Value} {od_forced_plan an_forced_plan : Option Addr} {sl_forced_plan : Array (Option Value)}
  {r_wish_paper : Addr} {oc_wish_paper kV_wish_paper dc_wish_paper pm_wish_paper cd_wish_paper ct_wish_paper : Value} {od_wish_paper an_wish_paper : Option Addr} {sl_wish_paper : Array (Option Value)}
  {r_law : Addr} {oc_law kV_law dc_law pm_law cd_law ct_law : Value} {od_law an_law : Option Addr} {sl_law : Array (Option Value)}
  {e_HouseError : Addr}
  {e_BadOrder : Addr}
  {e_BadGraph : Addr}
  {tk_MOST_EVENTS : Tok}
  {tk_MOST_RESTS : Tok}
  (a__law_cell : PySem.W.nsIn K mainGlobals "_law_cell" = some (some (.ref r__law_cell)))
  (l__law_cell : K.lookup r__law_cell = some ⟨oc__law_cell, od__law_cell, .func (PySem.W.fnOf "_law_cell" "_law_cell" (defArgs st__law_cell) (defBody st__law_cell) (defScope st__law_cell) .none kV__law_cell dc__law_cell pm__law_cell an__law_cell cd__law_cell ct__law_cell), sl__law_cell⟩)
  (c__law_cell : PySem.W.codeIn K cd__law_cell "_law_cell" = true)
  (k__law_cell : PySem.W.keepIn K (.ref r__law_cell) = true)
  (a__law_chained : PySem.W.nsIn K mainGlobals "_law_chained" = some (some (.ref r__law_chained)))
  (l__law_chained : K.lookup r__law_chained = some ⟨oc__law_chained, od__law_chained, .func (PySem.W.fnOf "_law_chained" "_law_chained" (defArgs st__law_chained) (defBody st__law_chained) (defScope st__law_chained) .none kV__law_chained dc__law_chained pm__law_chained an__law_chained cd__law_chained ct__law_chained), sl__law_chained⟩)
  (c__law_chained : PySem.W.codeIn K cd__law_chained "_law_chained" = true)
  (k__law_chained : PySem.W.keepIn K (.ref r__law_chained) = true)
  (a__law_copied : PySem.W.nsIn K mainGlobals "_law_copied" = some (some (.ref r__law_copied)))
  (l__law_copied : K.lookup r__law_copied = some ⟨oc__law_copied, od__law_copied, .func (PySem.W.fnOf "_law_copied" "_law_copied" (defArgs st__law_copied) (defBody st__law_copied) (defScope st__law_copied) .none kV__law_copied dc__law_copied pm__law_copied an__law_copied cd__law_copied ct__law_copied), sl__law_copied⟩)
  (c__law_copied : PySem.W.codeIn K cd__law_copied "_law_copied" = true)
  (k__law_copied : PySem.W.keepIn K (.ref r__law_copied) = true)
  (a__law_is_paper : PySem.W.nsIn K mainGlobals "_law_is_paper" = some (some (.ref r__law_is_paper)))
  (l__law_is_paper : K.lookup r__law_is_paper = some ⟨oc__law_is_paper, od__law_is_paper, .func (PySem.W.fnOf "_law_is_paper" "_law_is_paper" (defArgs st__law_is_paper) (defBody st__law_is_paper) (defScope st__law_is_paper) .none kV__law_is_paper dc__law_is_paper pm__law_is_paper an__law_is_paper cd__law_is_paper ct__law_is_paper), sl__law_is_paper⟩)
  (c__law_is_paper : PySem.W.codeIn K cd__law_is_paper "_law_is_paper" = true)
  (k__law_is_paper : PySem.W.keepIn K (.ref r__law_is_paper) = true)
  (a__law_best : PySem.W.nsIn K mainGlobals "_law_best" = some (some (.ref r__law_best)))
  (l__law_best : K.lookup r__law_best = some ⟨oc__law_best, od__law_best, .func (PySem.W.fnOf "_law_best" "_law_best" (defArgs st__law_best) (defBody st__law_best) (defScope st__law_best) .none kV__law_best dc__law_best pm__law_best an__law_best cd__law_best ct__law_best), sl__law_best⟩)
  (c__law_best : PySem.W.codeIn K cd__law_best "_law_best" = true)
  (k__law_best : PySem.W.keepIn K (.ref r__law_best) = true)
  (a__law_is_integer : PySem.W.nsIn K mainGlobals "_law_is_integer" = some (some (.ref r__law_is_integer)))
  (l__law_is_integer : K.lookup r__law_is_integer = some ⟨oc__law_is_integer, od__law_is_integer, .func (PySem.W.fnOf "_law_is_integer" "_law_is_integer" (defArgs st__law_is_integer) (defBody st__law_is_integer) (defScope st__law_is_integer) .none kV__law_is_integer dc__law_is_integer pm__law_is_integer an__law_is_integer cd__law_is_integer ct__law_is_integer), sl__law_is_integer⟩)
  (c__law_is_integer : PySem.W.codeIn K cd__law_is_integer "_law_is_integer" = true)
  (k__law_is_integer : PySem.W.keepIn K (.ref r__law_is_integer) = true)
  (a__law_plan_is_right : PySem.W.nsIn K mainGlobals "_law_plan_is_right" = some (some (.ref r__law_plan_is_right)))
  (l__law_plan_is_right : K.lookup r__law_plan_is_right = some ⟨oc__law_plan_is_right, od__law_plan_is_right, .func (PySem.W.fnOf "_law_plan_is_right" "_law_plan_is_right" (defArgs st__law_plan_is_right) (defBody st__law_plan_is_right) (defScope st__law_plan_is_right) .none kV__law_plan_is_right dc__law_plan_is_right pm__law_plan_is_right an__law_plan_is_right cd__law_plan_is_right ct__law_plan_is_right), sl__law_plan_is_right⟩)
  (c__law_plan_is_right : PySem.W.codeIn K cd__law_plan_is_right "_law_plan_is_right" = true)
  (k__law_plan_is_right : PySem.W.keepIn K (.ref r__law_plan_is_right) = true)
  (a__law_plan_is_least : PySem.W.nsIn K mainGlobals "_law_plan_is_least" = some (some (.ref r__law_plan_is_least)))
  (l__law_plan_is_least : K.lookup r__law_plan_is_least = some ⟨oc__law_plan_is_least, od__law_plan_is_least, .func (PySem.W.fnOf "_law_plan_is_least" "_law_plan_is_least" (defArgs st__law_plan_is_least) (defBody st__law_plan_is_least) (defScope st__law_plan_is_least) .none kV__law_plan_is_least dc__law_plan_is_least pm__law_plan_is_least an__law_plan_is_least cd__law_plan_is_least ct__law_plan_is_least), sl__law_plan_is_least⟩)
  (c__law_plan_is_least : PySem.W.codeIn K cd__law_plan_is_least "_law_plan_is_least" = true)
  (k__law_plan_is_least : PySem.W.keepIn K (.ref r__law_plan_is_least) = true)
  (a__law_is_plan : PySem.W.nsIn K mainGlobals "_law_is_plan" = some (some (.ref r__law_is_plan)))
  (l__law_is_plan : K.lookup r__law_is_plan = some ⟨oc__law_is_plan, od__law_is_plan, .func (PySem.W.fnOf "_law_is_plan" "_law_is_plan" (defArgs st__law_is_plan) (defBody st__law_is_plan) (defScope st__law_is_plan) .none kV__law_is_plan dc__law_is_plan pm__law_is_plan an__law_is_plan cd__law_is_plan ct__law_is_plan), sl__law_is_plan⟩)
  (c__law_is_plan : PySem.W.codeIn K cd__law_is_plan "_law_is_plan" = true)
  (k__law_is_plan : PySem.W.keepIn K (.ref r__law_is_plan) = true)
  (a__law_is_trap : PySem.W.nsIn K mainGlobals "_law_is_trap" = some (some (.ref r__law_is_trap)))
  (l__law_is_trap : K.lookup r__law_is_trap = some ⟨oc__law_is_trap, od__law_is_trap, .func (PySem.W.fnOf "_law_is_trap" "_law_is_trap" (defArgs st__law_is_trap) (defBody st__law_is_trap) (defScope st__law_is_trap) .none kV__law_is_trap dc__law_is_trap pm__law_is_trap an__law_is_trap cd__law_is_trap ct__law_is_trap), sl__law_is_trap⟩)
  (c__law_is_trap : PySem.W.codeIn K cd__law_is_trap "_law_is_trap" = true)
  (k__law_is_trap : PySem.W.keepIn K (.ref r__law_is_trap) = true)
  (a__law_changed_plan : PySem.W.nsIn K mainGlobals "_law_changed_plan" = some (some (.ref r__law_changed_plan)))
  (l__law_changed_plan : K.lookup r__law_changed_plan = some ⟨oc__law_changed_plan, od__law_changed_plan, .func (PySem.W.fnOf "_law_changed_plan" "_law_changed_plan" (defArgs st__law_changed_plan) (defBody st__law_changed_plan) (defScope st__law_changed_plan) .none kV__law_changed_plan dc__law_changed_plan pm__law_changed_plan an__law_changed_plan cd__law_changed_plan ct__law_changed_plan), sl__law_changed_plan⟩)
  (c__law_changed_plan : PySem.W.codeIn K cd__law_changed_plan "_law_changed_plan" = true)
  (k__law_changed_plan : PySem.W.keepIn K (.ref r__law_changed_plan) = true)
  (a__law_changed_trap : PySem.W.nsIn K mainGlobals "_law_changed_trap" = some (some (.ref r__law_changed_trap)))
  (l__law_changed_trap : K.lookup r__law_changed_trap = some ⟨oc__law_changed_trap, od__law_changed_trap, .func (PySem.W.fnOf "_law_changed_trap" "_law_changed_trap" (defArgs st__law_changed_trap) (defBody st__law_changed_trap) (defScope st__law_changed_trap) .none kV__law_changed_trap dc__law_changed_trap pm__law_changed_trap an__law_changed_trap cd__law_changed_trap ct__law_changed_trap), sl__law_changed_trap⟩)
  (c__law_changed_trap : PySem.W.codeIn K cd__law_changed_trap "_law_changed_trap" = true)
  (k__law_changed_trap : PySem.W.keepIn K (.ref r__law_changed_trap) = true)
  (a__law_says : PySem.W.nsIn K mainGlobals "_law_says" = some (some (.ref r__law_says)))
  (l__law_says : K.lookup r__law_says = some ⟨oc__law_says, od__law_says, .func (PySem.W.fnOf "_law_says" "_law_says" (defArgs st__law_says) (defBody st__law_says) (defScope st__law_says) .none kV__law_says dc__law_says pm__law_says an__law_says cd__law_says ct__law_says), sl__law_says⟩)
  (c__law_says : PySem.W.codeIn K cd__law_says "_law_says" = true)
  (k__law_says : PySem.W.keepIn K (.ref r__law_says) = true)
  (a__law_trap_is_right : PySem.W.nsIn K mainGlobals "_law_trap_is_right" = some (some (.ref r__law_trap_is_right)))
  (l__law_trap_is_right : K.lookup r__law_trap_is_right = some ⟨oc__law_trap_is_right, od__law_trap_is_right, .func (PySem.W.fnOf "_law_trap_is_right" "_law_trap_is_right" (defArgs st__law_trap_is_right) (defBody st__law_trap_is_right) (defScope st__law_trap_is_right) .none kV__law_trap_is_right dc__law_trap_is_right pm__law_trap_is_right an__law_trap_is_right cd__law_trap_is_right ct__law_trap_is_right), sl__law_trap_is_right⟩)
  (c__law_trap_is_right : PySem.W.codeIn K cd__law_trap_is_right "_law_trap_is_right" = true)
  (k__law_trap_is_right : PySem.W.keepIn K (.ref r__law_trap_is_right) = true)
  (a_is_integer : PySem.W.nsIn K mainGlobals "is_integer" = some (some (.ref r_is_integer)))
  (l_is_integer : K.lookup r_is_integer = some ⟨oc_is_integer, od_is_integer, .func (PySem.W.fnOf "is_integer" "is_integer" (defArgs st_is_integer) (defBody st_is_integer) (defScope st_is_integer) .none kV_is_integer dc_is_integer pm_is_integer an_is_integer cd_is_integer ct_is_integer), sl_is_integer⟩)
  (c_is_integer : PySem.W.codeIn K cd_is_integer "is_integer" = true)
  (k_is_integer : PySem.W.keepIn K (.ref r_is_integer) = true)
  (a_is_place : PySem.W.nsIn K mainGlobals "is_place" = some (some (.ref r_is_place)))
  (l_is_place : K.lookup r_is_place = some ⟨oc_is_place, od_is_place, .func (PySem.W.fnOf "is_place" "is_place" (defArgs st_is_place) (defBody st_is_place) (defScope st_is_place) .none kV_is_place dc_is_place pm_is_place an_is_place cd_is_place ct_is_place), sl_is_place⟩)
  (c_is_place : PySem.W.codeIn K cd_is_place "is_place" = true)
  (k_is_place : PySem.W.keepIn K (.ref r_is_place) = true)
  (a_pair_is_right : PySem.W.nsIn K mainGlobals "pair_is_right" = some (some (.ref r_pair_is_right)))
  (l_pair_is_right : K.lookup r_pair_is_right = some ⟨oc_pair_is_right, od_pair_is_right, .func (PySem.W.fnOf "pair_is_right" "pair_is_right" (defArgs st_pair_is_right) (defBody st_pair_is_right) (defScope st_pair_is_right) .none kV_pair_is_right dc_pair_is_right pm_pair_is_right an_pair_is_right cd_pair_is_right ct_pair_is_right), sl_pair_is_right⟩)
  (c_pair_is_right : PySem.W.codeIn K cd_pair_is_right "pair_is_right" = true)
  (k_pair_is_right : PySem.W.keepIn K (.ref r_pair_is_right) = true)
  (a_shows_plan : PySem.W.nsIn K mainGlobals "shows_plan" = some (some (.ref r_shows_plan)))
  (l_shows_plan : K.lookup r_shows_plan = some ⟨oc_shows_plan, od_shows_plan, .func (PySem.W.fnOf "shows_plan" "shows_plan" (defArgs st_shows_plan) (defBody st_shows_plan) (defScope st_shows_plan) .none kV_shows_plan dc_shows_plan pm_shows_plan an_shows_plan cd_shows_plan ct_shows_plan), sl_shows_plan⟩)
  (c_shows_plan : PySem.W.codeIn K cd_shows_plan "shows_plan" = true)
  (k_shows_plan : PySem.W.keepIn K (.ref r_shows_plan) = true)
  (a_holds_off : PySem.W.nsIn K mainGlobals "holds_off" = some (some (.ref r_holds_off)))
  (l_holds_off : K.lookup r_holds_off = some ⟨oc_holds_off, od_holds_off, .func (PySem.W.fnOf "holds_off" "holds_off" (defArgs st_holds_off) (defBody st_holds_off) (defScope st_holds_off) .none kV_holds_off dc_holds_off pm_holds_off an_holds_off cd_holds_off ct_holds_off), sl_holds_off⟩)
  (c_holds_off : PySem.W.codeIn K cd_holds_off "holds_off" = true)
  (k_holds_off : PySem.W.keepIn K (.ref r_holds_off) = true)
  (a_shows_trap : PySem.W.nsIn K mainGlobals "shows_trap" = some (some (.ref r_shows_trap)))
  (l_shows_trap : K.lookup r_shows_trap = some ⟨oc_shows_trap, od_shows_trap, .func (PySem.W.fnOf "shows_trap" "shows_trap" (defArgs st_shows_trap) (defBody st_shows_trap) (defScope st_shows_trap) .none kV_shows_trap dc_shows_trap pm_shows_trap an_shows_trap cd_shows_trap ct_shows_trap), sl_shows_trap⟩)
  (c_shows_trap : PySem.W.codeIn K cd_shows_trap "shows_trap" = true)
  (k_shows_trap : PySem.W.keepIn K (.ref r_shows_trap) = true)
  (a__law_judges_agree : PySem.W.nsIn K mainGlobals "_law_judges_agree" = some (some (.ref r__law_judges_agree)))
  (l__law_judges_agree : K.lookup r__law_judges_agree = some ⟨oc__law_judges_agree, od__law_judges_agree, .func (PySem.W.fnOf "_law_judges_agree" "_law_judges_agree" (defArgs st__law_judges_agree) (defBody st__law_judges_agree) (defScope st__law_judges_agree) .none kV__law_judges_agree dc__law_judges_agree pm__law_judges_agree an__law_judges_agree cd__law_judges_agree ct__law_judges_agree), sl__law_judges_agree⟩)
  (c__law_judges_agree : PySem.W.codeIn K cd__law_judges_agree "_law_judges_agree" = true)
  (k__law_judges_agree : PySem.W.keepIn K (.ref r__law_judges_agree) = true)
  (a__law_row : PySem.W.nsIn K mainGlobals "_law_row" = some (some (.ref r__law_row)))
  (l__law_row : K.lookup r__law_row = some ⟨oc__law_row, od__law_row, .func (PySem.W.fnOf "_law_row" "_law_row" (defArgs st__law_row) (defBody st__law_row) (defScope st__law_row) .none kV__law_row dc__law_row pm__law_row an__law_row cd__law_row ct__law_row), sl__law_row⟩)
  (c__law_row : PySem.W.codeIn K cd__law_row "_law_row" = true)
  (k__law_row : PySem.W.keepIn K (.ref r__law_row) = true)
  (a__law_targets : PySem.W.nsIn K mainGlobals "_law_targets" = some (some (.ref r__law_targets)))
  (l__law_targets : K.lookup r__law_targets = some ⟨oc__law_targets, od__law_targets, .func (PySem.W.fnOf "_law_targets" "_law_targets" (defArgs st__law_targets) (defBody st__law_targets) (defScope st__law_targets) .none kV__law_targets dc__law_targets pm__law_targets an__law_targets cd__law_targets ct__law_targets), sl__law_targets⟩)
  (c__law_targets : PySem.W.codeIn K cd__law_targets "_law_targets" = true)
  (k__law_targets : PySem.W.keepIn K (.ref r__law_targets) = true)
  (a__law_moves : PySem.W.nsIn K mainGlobals "_law_moves" = some (some (.ref r__law_moves)))
  (l__law_moves : K.lookup r__law_moves = some ⟨oc__law_moves, od__law_moves, .func (PySem.W.fnOf "_law_moves" "_law_moves" (defArgs st__law_moves) (defBody st__law_moves) (defScope st__law_moves) .none kV__law_moves dc__law_moves pm__law_moves an__law_moves cd__law_moves ct__law_moves), sl__law_moves⟩)
  (c__law_moves : PySem.W.codeIn K cd__law_moves "_law_moves" = true)
  (k__law_moves : PySem.W.keepIn K (.ref r__law_moves) = true)
  (a_are_places : PySem.W.nsIn K mainGlobals "are_places" = some (some (.ref r_are_places)))
  (l_are_places : K.lookup r_are_places = some ⟨oc_are_places, od_are_places, .func (PySem.W.fnOf "are_places" "are_places" (defArgs st_are_places) (defBody st_are_places) (defScope st_are_places) .none kV_are_places dc_are_places pm_are_places an_are_places cd_are_places ct_are_places), sl_are_places⟩)
  (c_are_places : PySem.W.codeIn K cd_are_places "are_places" = true)
  (k_are_places : PySem.W.keepIn K (.ref r_are_places) = true)
  (a_is_moves : PySem.W.nsIn K mainGlobals "is_moves" = some (some (.ref r_is_moves)))
  (l_is_moves : K.lookup r_is_moves = some ⟨oc_is_moves, od_is_moves, .func (PySem.W.fnOf "is_moves" "is_moves" (defArgs st_is_moves) (defBody st_is_moves) (defScope st_is_moves) .none kV_is_moves dc_is_moves pm_is_moves an_is_moves cd_is_moves ct_is_moves), sl_is_moves⟩)
  (c_is_moves : PySem.W.codeIn K cd_is_moves "is_moves" = true)
  (k_is_moves : PySem.W.keepIn K (.ref r_is_moves) = true)
  (a_demand_question : PySem.W.nsIn K mainGlobals "demand_question" = some (some (.ref r_demand_question)))
  (l_demand_question : K.lookup r_demand_question = some ⟨oc_demand_question, od_demand_question, .func (PySem.W.fnOf "demand_question" "demand_question" (defArgs st_demand_question) (defBody st_demand_question) (defScope st_demand_question) .none kV_demand_question dc_demand_question pm_demand_question an_demand_question cd_demand_question ct_demand_question), sl_demand_question⟩)
  (c_demand_question : PySem.W.codeIn K cd_demand_question "demand_question" = true)
  (k_demand_question : PySem.W.keepIn K (.ref r_demand_question) = true)
  (a_forcing_event : PySem.W.nsIn K mainGlobals "forcing_event" = some (some (.ref r_forcing_event)))
  (l_forcing_event : K.lookup r_forcing_event = some ⟨oc_forcing_event, od_forcing_event, .func (PySem.W.fnOf "forcing_event" "forcing_event" (defArgs st_forcing_event) (defBody st_forcing_event) (defScope st_forcing_event) .none kV_forcing_event dc_forcing_event pm_forcing_event an_forcing_event cd_forcing_event ct_forcing_event), sl_forcing_event⟩)
  (c_forcing_event : PySem.W.codeIn K cd_forcing_event "forcing_event" = true)
  (k_forcing_event : PySem.W.keepIn K (.ref r_forcing_event) = true)
  (a_forced_plan : PySem.W.nsIn K mainGlobals "forced_plan" = some (some (.ref r_forced_plan)))
  (l_forced_plan : K.lookup r_forced_plan = some ⟨oc_forced_plan, od_forced_plan, .func (PySem.W.fnOf "forced_plan" "forced_plan" (defArgs st_forced_plan) (defBody st_forced_plan) (defScope st_forced_plan) .none kV_forced_plan dc_forced_plan pm_forced_plan an_forced_plan cd_forced_plan ct_forced_plan), sl_forced_plan⟩)
  (c_forced_plan : PySem.W.codeIn K cd_forced_plan "forced_plan" = true)
  (k_forced_plan : PySem.W.keepIn K (.ref r_forced_plan) = true)
  (a_wish_paper : PySem.W.nsIn K mainGlobals "wish_paper" = some (some (.ref r_wish_paper)))
  (l_wish_paper : K.lookup r_wish_paper = some ⟨oc_wish_paper, od_wish_paper, .func (PySem.W.fnOf "wish_paper" "wish_paper" (defArgs st_wish_paper) (defBody st_wish_paper) (defScope st_wish_paper) .none kV_wish_paper dc_wish_paper pm_wish_paper an_wish_paper cd_wish_paper ct_wish_paper), sl_wish_paper⟩)
  (c_wish_paper : PySem.W.codeIn K cd_wish_paper "wish_paper" = true)
  (k_wish_paper : PySem.W.keepIn K (.ref r_wish_paper) = true)
  (a_law : PySem.W.nsIn K mainGlobals "law" = some (some (.ref r_law)))
  (l_law : K.lookup r_law = some ⟨oc_law, od_law, .func (PySem.W.fnOf "law" "law" (defArgs st_law) (defBody st_law) (defScope st_law) .none kV_law dc_law pm_law an_law cd_law ct_law), sl_law⟩)
  (c_law : PySem.W.codeIn K cd_law "law" = true)
  (k_law : PySem.W.keepIn K (.ref r_law) = true)
  (a_HouseError : PySem.W.nsIn K mainGlobals "HouseError" = some (some (.ref e_HouseError)))
  (kc_HouseError : PySem.W.keepIn K (.ref e_HouseError) = true)
  (s_HouseError : PySem.W.subIn K (.ref e_HouseError) (.type "BaseException") = some true)
  (t_HouseError : PySem.W.typeIn K (.ref e_HouseError) = some (.type "type"))
  (i_HouseError : PySem.W.isClsIn K e_HouseError = true)
  (a_BadOrder : PySem.W.nsIn K mainGlobals "BadOrder" = some (some (.ref e_BadOrder)))
  (kc_BadOrder : PySem.W.keepIn K (.ref e_BadOrder) = true)
  (s_BadOrder : PySem.W.subIn K (.ref e_BadOrder) (.type "BaseException") = some true)
  (t_BadOrder : PySem.W.typeIn K (.ref e_BadOrder) = some (.type "type"))
  (i_BadOrder : PySem.W.isClsIn K e_BadOrder = true)
  (a_BadGraph : PySem.W.nsIn K mainGlobals "BadGraph" = some (some (.ref e_BadGraph)))
  (kc_BadGraph : PySem.W.keepIn K (.ref e_BadGraph) = true)
  (s_BadGraph : PySem.W.subIn K (.ref e_BadGraph) (.type "BaseException") = some true)
  (t_BadGraph : PySem.W.typeIn K (.ref e_BadGraph) = some (.type "type"))
  (i_BadGraph : PySem.W.isClsIn K e_BadGraph = true)
  (zsup : PySem.W.nsIn K mainGlobals "super" = some none)
  (z_bool : PySem.W.nsIn K mainGlobals "bool" = some none)
  (z_enumerate : PySem.W.nsIn K mainGlobals "enumerate" = some none)
  (z_int : PySem.W.nsIn K mainGlobals "int" = some none)
  (z_isinstance : PySem.W.nsIn K mainGlobals "isinstance" = some none)
  (z_len : PySem.W.nsIn K mainGlobals "len" = some none)
  (z_list : PySem.W.nsIn K mainGlobals "list" = some none)
  (z_max : PySem.W.nsIn K mainGlobals "max" = some none)
  (z_min : PySem.W.nsIn K mainGlobals "min" = some none)
  (z_range : PySem.W.nsIn K mainGlobals "range" = some none)
  (z_set : PySem.W.nsIn K mainGlobals "set" = some none)
  (z_sorted : PySem.W.nsIn K mainGlobals "sorted" = some none)
  (z_str : PySem.W.nsIn K mainGlobals "str" = some none)
  (z_tuple : PySem.W.nsIn K mainGlobals "tuple" = some none)
  (v_MOST_EVENTS : PySem.W.nsIn K mainGlobals "MOST_EVENTS" = some (some (.int (6) tk_MOST_EVENTS)))
  (v_MOST_RESTS : PySem.W.nsIn K mainGlobals "MOST_RESTS" = some (some (.int (60) tk_MOST_RESTS)))
  (xi_BadOrder : PySem.W.excIn K e_BadOrder bmVE "ValueError.__new__" = true)
  (xi_BadGraph : PySem.W.excIn K e_BadGraph bmVE "ValueError.__new__" = true) :
  ∃ fd : FuncData, (∀ (s : Shared) (v : Value), BindsTo s fd ⟨[v], []⟩ [("script", v)]) ∧ ∀ base : Heap, K.In base → base.Ns mainGlobals mg → ∃ C : Nat → Addr, FnOk P w K mg base (L2N.CX P w) 8 fa fd ["script"] (spF K C f_law) := by
  let A : Ad := { f__law_cell := r__law_cell, f__law_chained := r__law_chained, f__law_copied := r__law_copied, f__law_is_paper := r__law_is_paper, f__law_best := r__law_best, f__law_is_integer := r__law_is_integer, f__law_plan_is_right := r__law_plan_is_right, f__law_plan_is_least := r__law_plan_is_least, f__law_is_plan := r__law_is_plan, f__law_is_trap := r__law_is_trap, f__law_changed_plan := r__law_changed_plan, f__law_changed_trap := r__law_changed_trap, f__law_says := r__law_says, f__law_trap_is_right := r__law_trap_is_right, f_is_integer := r_is_integer, f_is_place := r_is_place, f_pair_is_right := r_pair_is_right, f_shows_plan := r_shows_plan, f_holds_off := r_holds_off, f_shows_trap := r_shows_trap, f__law_judges_agree := r__law_judges_agree, f__law_row := r__law_row, f__law_targets := r__law_targets, f__law_moves := r__law_moves, f_are_places := r_are_places, f_is_moves := r_is_moves, f_demand_question := r_demand_question, f_forcing_event := r_forcing_event, f_forced_plan := r_forced_plan, f_wish_paper := r_wish_paper, f_law := r_law, d__law_cell := PySem.W.fnOf "_law_cell" "_law_cell" (defArgs st__law_cell) (defBody st__law_cell) (defScope st__law_cell) .none kV__law_cell dc__law_cell pm__law_cell an__law_cell cd__law_cell ct__law_cell, d__law_chained := PySem.W.fnOf "_law_chained" "_law_chained" (defArgs st__law_chained) (defBody st__law_chained) (defScope st__law_chained) .none kV__law_chained dc__law_chained pm__law_chained an__law_chained cd__law_chained ct__law_chained, d__law_copied := PySem.W.fnOf "_law_copied" "_law_copied" (defArgs st__law_copied) (defBody st__law_copied) (defScope st__law_copied) .none kV__law_copied dc__law_copied pm__law_copied an__law_copied cd__law_copied ct__law_copied, d__law_is_paper := PySem.W.fnOf "_law_is_paper" "_law_is_paper" (defArgs st__law_is_paper) (defBody st__law_is_paper) (defScope st__law_is_paper) .none kV__law_is_paper dc__law_is_paper pm__law_is_paper an__law_is_paper cd__law_is_paper ct__law_is_paper, d__law_best := PySem.W.fnOf "_law_best" "_law_best" (defArgs st__law_best) (defBody st__law_best) (defScope st__law_best) .none kV__law_best dc__law_best pm__law_best an__law_best cd__law_best ct__law_best, d__law_is_integer := PySem.W.fnOf "_law_is_integer" "_law_is_integer" (defArgs st__law_is_integer) (defBody st__law_is_integer) (defScope st__law_is_integer) .none kV__law_is_integer dc__law_is_integer pm__law_is_integer an__law_is_integer cd__law_is_integer ct__law_is_integer, d__law_plan_is_right := PySem.W.fnOf "_law_plan_is_right" "_law_plan_is_right" (defArgs st__law_plan_is_right) (defBody st__law_plan_is_right) (defScope st__law_plan_is_right) .none kV__law_plan_is_right dc__law_plan_is_right pm__law_plan_is_right an__law_plan_is_right cd__law_plan_is_right ct__law_plan_is_right, d__law_plan_is_least := PySem.W.fnOf "_law_plan_is_least" "_law_plan_is_least" (defArgs st__law_plan_is_least) (defBody st__law_plan_is_least) (defScope st__law_plan_is_least) .none kV__law_plan_is_least dc__law_plan_is_least pm__law_plan_is_least an__law_plan_is_least cd__law_plan_is_least ct__law_plan_is_least, d__law_is_plan := PySem.W.fnOf "_law_is_plan" "_law_is_plan" (defArgs st__law_is_plan) (defBody st__law_is_plan) (defScope st__law_is_plan) .none kV__law_is_plan dc__law_is_plan pm__law_is_plan an__law_is_plan cd__law_is_plan ct__law_is_plan, d__law_is_trap := PySem.W.fnOf "_law_is_trap" "_law_is_trap" (defArgs st__law_is_trap) (defBody st__law_is_trap) (defScope st__law_is_trap) .none kV__law_is_trap dc__law_is_trap pm__law_is_trap an__law_is_trap cd__law_is_trap ct__law_is_trap, d__law_changed_plan := PySem.W.fnOf "_law_changed_plan" "_law_changed_plan" (defArgs st__law_changed_plan) (defBody st__law_changed_plan) (defScope st__law_changed_plan) .none kV__law_changed_plan dc__law_changed_plan pm__law_changed_plan an__law_changed_plan cd__law_changed_plan ct__law_changed_plan, d__law_changed_trap := PySem.W.fnOf "_law_changed_trap" "_law_changed_trap" (defArgs st__law_changed_trap) (defBody st__law_changed_trap) (defScope st__law_changed_trap) .none kV__law_changed_trap dc__law_changed_trap pm__law_changed_trap an__law_changed_trap cd__law_changed_trap ct__law_changed_trap, d__law_says := PySem.W.fnOf "_law_says" "_law_says" (defArgs st__law_says) (defBody st__law_says) (defScope st__law_says) .none kV__law_says dc__law_says pm__law_says an__law_says cd__law_says ct__law_says, d__law_trap_is_right := PySem.W.fnOf "_law_trap_is_right" "_law_trap_is_right" (defArgs st__law_trap_is_right) (defBody st__law_trap_is_right) (defScope st__law_trap_is_right) .none kV__law_trap_is_right dc__law_trap_is_right pm__law_trap_is_right an__law_trap_is_right cd__law_trap_is_right ct__law_trap_is_right, d_is_integer := PySem.W.fnOf "is_integer" "is_integer" (defArgs st_is_integer) (defBody st_is_integer) (defScope st_is_integer) .none kV_is_integer dc_is_integer pm_is_integer an_is_integer cd_is_integer ct_is_integer, d_is_place := PySem.W.fnOf "is_place" "is_place" (defArgs st_is_place) (defBody st_is_place) (defScope st_is_place) .none kV_is_place dc_is_place pm_is_place an_is_place cd_is_place ct_is_place, d_pair_is_right := PySem.W.fnOf "pair_is_right" "pair_is_right" (defArgs st_pair_is_right) (defBody st_pair_is_right) (defScope st_pair_is_right) .none kV_pair_is_right dc_pair_is_right pm_pair_is_right an_pair_is_right cd_pair_is_right ct_pair_is_right, d_shows_plan := PySem.W.fnOf "shows_plan" "shows_plan" (defArgs st_shows_plan) (defBody st_shows_plan) (defScope st_shows_plan) .none kV_shows_plan dc_shows_plan pm_shows_plan an_shows_plan cd_shows_plan ct_shows_plan, d_holds_off := PySem.W.fnOf "holds_off" "holds_off" (defArgs st_holds_off) (defBody st_holds_off) (defScope st_holds_off) .none kV_holds_off dc_holds_off pm_holds_off an_holds_off cd_holds_off ct_holds_off, d_shows_trap := PySem.W.fnOf "shows_trap" "shows_trap" (defArgs st_shows_trap) (defBody st_shows_trap) (defScope st_shows_trap) .none kV_shows_trap dc_shows_trap pm_shows_trap an_shows_trap cd_shows_trap ct_shows_trap, d__law_judges_agree := PySem.W.fnOf "_law_judges_agree" "_law_judges_agree" (defArgs st__law_judges_agree) (defBody st__law_judges_agree) (defScope st__law_judges_agree) .none kV__law_judges_agree dc__law_judges_agree pm__law_judges_agree an__law_judges_agree cd__law_judges_agree ct__law_judges_agree, d__law_row := PySem.W.fnOf "_law_row" "_law_row" (defArgs st__law_row) (defBody st__law_row) (defScope st__law_row) .none kV__law_row dc__law_row pm__law_row an__law_row cd__law_row ct__law_row, d__law_targets := PySem.W.fnOf "_law_targets" "_law_targets" (defArgs st__law_targets) (defBody st__law_targets) (defScope st__law_targets) .none kV__law_targets dc__law_targets pm__law_targets an__law_targets cd__law_targets ct__law_targets, d__law_moves := PySem.W.fnOf "_law_moves" "_law_moves" (defArgs st__law_moves) (defBody st__law_moves) (defScope st__law_moves) .none kV__law_moves dc__law_moves pm__law_moves an__law_moves cd__law_moves ct__law_moves, d_are_places := PySem.W.fnOf "are_places" "are_places" (defArgs st_are_places) (defBody st_are_places) (defScope st_are_places) .none kV_are_places dc_are_places pm_are_places an_are_places cd_are_places ct_are_places, d_is_moves := PySem.W.fnOf "is_moves" "is_moves" (defArgs st_is_moves) (defBody st_is_moves) (defScope st_is_moves) .none kV_is_moves dc_is_moves pm_is_moves an_is_moves cd_is_moves ct_is_moves, d_demand_question := PySem.W.fnOf "demand_question" "demand_question" (defArgs st_demand_question) (defBody st_demand_question) (defScope st_demand_question) .none kV_demand_question dc_demand_question pm_demand_question an_demand_question cd_demand_question ct_demand_question, d_forcing_event := PySem.W.fnOf "forcing_event" "forcing_event" (defArgs st_forcing_event) (defBody st_forcing_event) (defScope st_forcing_event) .none kV_forcing_event dc_forcing_event pm_forcing_event an_forcing_event cd_forcing_event ct_forcing_event, d_forced_plan := PySem.W.fnOf "forced_plan" "forced_plan" (defArgs st_forced_plan) (defBody st_forced_plan) (defScope st_forced_plan) .none kV_forced_plan dc_forced_plan pm_forced_plan an_forced_plan cd_forced_plan ct_forced_plan, d_wish_paper := PySem.W.fnOf "wish_paper" "wish_paper" (defArgs st_wish_paper) (defBody st_wish_paper) (defScope st_wish_paper) .none kV_wish_paper dc_wish_paper pm_wish_paper an_wish_paper cd_wish_paper ct_wish_paper, d_law := PySem.W.fnOf "law" "law" (defArgs st_law) (defBody st_law) (defScope st_law) .none kV_law dc_law pm_law an_law cd_law ct_law, c_HouseError := e_HouseError, c_BadOrder := e_BadOrder, c_BadGraph := e_BadGraph, v_MOST_EVENTS := .int (6) tk_MOST_EVENTS, v_MOST_RESTS := .int (60) tk_MOST_RESTS }
  have F__law_cell : Fun K "_law_cell" "_law_cell" st__law_cell r__law_cell _ := fun_mk (st := st__law_cell) l__law_cell c__law_cell k__law_cell
  have n__law_cell := F__law_cell.binds (ps := ["script", "k"]) fun _ _ _ _ _ _ us hl => match us, hl with | [_, _], _ => rfl
  have F__law_chained : Fun K "_law_chained" "_law_chained" st__law_chained r__law_chained _ := fun_mk (st := st__law_chained) l__law_chained c__law_chained k__law_chained
  have n__law_chained := F__law_chained.binds (ps := ["moves", "keys", "events"]) fun _ _ _ _ _ _ us hl => match us, hl with | [_, _, _], _ => rfl
  have F__law_copied : Fun K "_law_copied" "_law_copied" st__law_copied r__law_copied _ := fun_mk (st := st__law_copied) l__law_copied c__law_copied k__law_copied
  have n__law_copied := F__law_copied.binds (ps := ["moves", "as_tuples"]) fun _ _ _ _ _ _ us hl => match us, hl with | [_, _], _ => rfl
  have F__law_is_paper : Fun K "_law_is_paper" "_law_is_paper" st__law_is_paper r__law_is_paper _ := fun_mk (st := st__law_is_paper) l__law_is_paper c__law_is_paper k__law_is_paper
  have n__law_is_paper := F__law_is_paper.binds (ps := ["actual", "word"]) fun _ _ _ _ _ _ us hl => match us, hl with | [_, _], _ => rfl
  have F__law_best : Fun K "_law_best" "_law_best" st__law_best r__law_best _ := fun_mk (st := st__law_best) l__law_best c__law_best k__law_best
  have n__law_best := F__law_best.binds (ps := ["row", "plan"]) fun _ _ _ _ _ _ us hl => match us, hl with | [_, _], _ => rfl
  have F__law_is_integer : Fun K "_law_is_integer" "_law_is_integer" st__law_is_integer r__law_is_integer _ := fun_mk (st := st__law_is_integer) l__law_is_integer c__law_is_integer k__law_is_integer
  have n__law_is_integer := F__law_is_integer.binds (ps := ["value"]) fun _ _ _ _ _ _ us hl => match us, hl with | [_], _ => rfl
  have F__law_plan_is_right : Fun K "_law_plan_is_right" "_law_plan_is_right" st__law_plan_is_right r__law_plan_is_right _ := fun_mk (st := st__law_plan_is_right) l__law_plan_is_right c__law_plan_is_right k__law_plan_is_right
  have n__law_plan_is_right := F__law_plan_is_right.binds (ps := ["moves", "goals", "start", "plan"]) fun _ _ _ _ _ _ us hl => match us, hl with | [_, _, _, _], _ => rfl
  have F__law_plan_is_least : Fun K "_law_plan_is_least" "_law_plan_is_least" st__law_plan_is_least r__law_plan_is_least _ := fun_mk (st := st__law_plan_is_least) l__law_plan_is_least c__law_plan_is_least k__law_plan_is_least
  have n__law_plan_is_least := F__law_plan_is_least.binds (ps := ["moves", "goals", "plan"]) fun _ _ _ _ _ _ us hl => match us, hl with | [_, _, _], _ => rfl
  have F__law_is_plan : Fun K "_law_is_plan" "_law_is_plan" st__law_is_plan r__law_is_plan _ := fun_mk (st := st__law_is_plan) l__law_is_plan c__law_is_plan k__law_is_plan
  have n__law_is_plan := F__law_is_plan.binds (ps := ["actual", "moves", "goals"]) fun _ _ _ _ _ _ us hl => match us, hl with | [_, _, _], _ => rfl
  have F__law_is_trap : Fun K "_law_is_trap" "_law_is_trap" st__law_is_trap r__law_is_trap _ := fun_mk (st := st__law_is_trap) l__law_is_trap c__law_is_trap k__law_is_trap
  have n__law_is_trap := F__law_is_trap.binds (ps := ["actual", "trap"]) fun _ _ _ _ _ _ us hl => match us, hl with | [_, _], _ => rfl
  have F__law_changed_plan : Fun K "_law_changed_plan" "_law_changed_plan" st__law_changed_plan r__law_changed_plan _ := fun_mk (st := st__law_changed_plan) l__law_changed_plan c__law_changed_plan k__law_changed_plan
  have n__law_changed_plan := F__law_changed_plan.binds (ps := ["plan", "change", "numbers"]) fun _ _ _ _ _ _ us hl => match us, hl with | [_, _, _], _ => rfl
  have F__law_changed_trap : Fun K "_law_changed_trap" "_law_changed_trap" st__law_changed_trap r__law_changed_trap _ := fun_mk (st := st__law_changed_trap) l__law_changed_trap c__law_changed_trap k__law_changed_trap
  have n__law_changed_trap := F__law_changed_trap.binds (ps := ["trap", "change", "numbers", "size"]) fun _ _ _ _ _ _ us hl => match us, hl with | [_, _, _, _], _ => rfl
  have F__law_says : Fun K "_law_says" "_law_says" st__law_says r__law_says _ := fun_mk (st := st__law_says) l__law_says c__law_says k__law_says
  have n__law_says := F__law_says.binds (ps := ["actual", "due"]) fun _ _ _ _ _ _ us hl => match us, hl with | [_, _], _ => rfl
  have F__law_trap_is_right : Fun K "_law_trap_is_right" "_law_trap_is_right" st__law_trap_is_right r__law_trap_is_right _ := fun_mk (st := st__law_trap_is_right) l__law_trap_is_right c__law_trap_is_right k__law_trap_is_right
  have n__law_trap_is_right := F__law_trap_is_right.binds (ps := ["moves", "goals", "start", "trap"]) fun _ _ _ _ _ _ us hl => match us, hl with | [_, _, _, _], _ => rfl
  have F_is_integer : Fun K "is_integer" "is_integer" st_is_integer r_is_integer _ := fun_mk (st := st_is_integer) l_is_integer c_is_integer k_is_integer
  have n_is_integer := F_is_integer.binds (ps := ["value"]) fun _ _ _ _ _ _ us hl => match us, hl with | [_], _ => rfl
  have F_is_place : Fun K "is_place" "is_place" st_is_place r_is_place _ := fun_mk (st := st_is_place) l_is_place c_is_place k_is_place
  have n_is_place := F_is_place.binds (ps := ["value", "size"]) fun _ _ _ _ _ _ us hl => match us, hl with | [_, _], _ => rfl
  have F_pair_is_right : Fun K "pair_is_right" "pair_is_right" st_pair_is_right r_pair_is_right _ := fun_mk (st := st_pair_is_right) l_pair_is_right c_pair_is_right k_pair_is_right
  have n_pair_is_right := F_pair_is_right.binds (ps := ["moves", "plan", "rank", "event", "rest"]) fun _ _ _ _ _ _ us hl => match us, hl with | [_, _, _, _, _], _ => rfl
  have F_shows_plan : Fun K "shows_plan" "shows_plan" st_shows_plan r_shows_plan _ := fun_mk (st := st_shows_plan) l_shows_plan c_shows_plan k_shows_plan
  have n_shows_plan := F_shows_plan.binds (ps := ["moves", "goals", "start", "plan"]) fun _ _ _ _ _ _ us hl => match us, hl with | [_, _, _, _], _ => rfl
  have F_holds_off : Fun K "holds_off" "holds_off" st_holds_off r_holds_off _ := fun_mk (st := st_holds_off) l_holds_off c_holds_off k_holds_off
  have n_holds_off := F_holds_off.binds (ps := ["targets", "endless", "trap"]) fun _ _ _ _ _ _ us hl => match us, hl with | [_, _, _], _ => rfl
  have F_shows_trap : Fun K "shows_trap" "shows_trap" st_shows_trap r_shows_trap _ := fun_mk (st := st_shows_trap) l_shows_trap c_shows_trap k_shows_trap
  have n_shows_trap := F_shows_trap.binds (ps := ["moves", "goals", "start", "trap"]) fun _ _ _ _ _ _ us hl => match us, hl with | [_, _, _, _], _ => rfl
  have F__law_judges_agree : Fun K "_law_judges_agree" "_law_judges_agree" st__law_judges_agree r__law_judges_agree _ := fun_mk (st := st__law_judges_agree) l__law_judges_agree c__law_judges_agree k__law_judges_agree
  have n__law_judges_agree := F__law_judges_agree.binds (ps := ["moves", "goals", "start", "plan", "trap", "row"]) fun _ _ _ _ _ _ us hl => match us, hl with | [_, _, _, _, _, _], _ => rfl
  have F__law_row : Fun K "_law_row" "_law_row" st__law_row r__law_row _ := fun_mk (st := st__law_row) l__law_row c__law_row k__law_row
  have n__law_row := F__law_row.binds (ps := ["cell", "sizes"]) fun _ _ _ _ _ _ us hl => match us, hl with | [_, _], _ => rfl
  have F__law_targets : Fun K "_law_targets" "_law_targets" st__law_targets r__law_targets _ := fun_mk (st := st__law_targets) l__law_targets c__law_targets k__law_targets
  have n__law_targets := F__law_targets.binds (ps := ["row", "size"]) fun _ _ _ _ _ _ us hl => match us, hl with | [_, _], _ => rfl
  have F__law_moves : Fun K "_law_moves" "_law_moves" st__law_moves r__law_moves _ := fun_mk (st := st__law_moves) l__law_moves c__law_moves k__law_moves
  have n__law_moves := F__law_moves.binds (ps := ["script", "size", "many"]) fun _ _ _ _ _ _ us hl => match us, hl with | [_, _, _], _ => rfl
  have F_are_places : Fun K "are_places" "are_places" st_are_places r_are_places _ := fun_mk (st := st_are_places) l_are_places c_are_places k_are_places
  have n_are_places := F_are_places.binds (ps := ["row", "size"]) fun _ _ _ _ _ _ us hl => match us, hl with | [_, _], _ => rfl
  have F_is_moves : Fun K "is_moves" "is_moves" st_is_moves r_is_moves _ := fun_mk (st := st_is_moves) l_is_moves c_is_moves k_is_moves
  have n_is_moves := F_is_moves.binds (ps := ["moves"]) fun _ _ _ _ _ _ us hl => match us, hl with | [_], _ => rfl
  have F_demand_question : Fun K "demand_question" "demand_question" st_demand_question r_demand_question _ := fun_mk (st := st_demand_question) l_demand_question c_demand_question k_demand_question
  have n_demand_question := F_demand_question.binds (ps := ["moves", "goals", "start"]) fun _ _ _ _ _ _ us hl => match us, hl with | [_, _, _], _ => rfl
  have F_forcing_event : Fun K "forcing_event" "forcing_event" st_forcing_event r_forcing_event _ := fun_mk (st := st_forcing_event) l_forcing_event c_forcing_event k_forcing_event
  have n_forcing_event := F_forcing_event.binds (ps := ["row", "plan"]) fun _ _ _ _ _ _ us hl => match us, hl with | [_, _], _ => rfl
  have F_forced_plan : Fun K "forced_plan" "forced_plan" st_forced_plan r_forced_plan _ := fun_mk (st := st_forced_plan) l_forced_plan c_forced_plan k_forced_plan
  have n_forced_plan := F_forced_plan.binds (ps := ["moves", "goals"]) fun _ _ _ _ _ _ us hl => match us, hl with | [_, _], _ => rfl
  have F_wish_paper : Fun K "wish_paper" "wish_paper" st_wish_paper r_wish_paper _ := fun_mk (st := st_wish_paper) l_wish_paper c_wish_paper k_wish_paper
  have n_wish_paper := F_wish_paper.binds (ps := ["moves", "goals", "start"]) fun _ _ _ _ _ _ us hl => match us, hl with | [_, _, _], _ => rfl
  have F_law : Fun K "law" "law" st_law r_law _ := fun_mk (st := st_law) l_law c_law k_law
  have n_law := F_law.binds (ps := ["script"]) fun _ _ _ _ _ _ us hl => match us, hl with | [_], _ => rfl
  have TT : Txt A P w K mg := { sup := PySem.W.mg_none_of X G zsup, b_bool := PySem.W.mg_none_of X G z_bool, b_enumerate := PySem.W.mg_none_of X G z_enumerate, b_int := PySem.W.mg_none_of X G z_int, b_isinstance := PySem.W.mg_none_of X G z_isinstance, b_len := PySem.W.mg_none_of X G z_len, b_list := PySem.W.mg_none_of X G z_list, b_max := PySem.W.mg_none_of X G z_max, b_min := PySem.W.mg_none_of X G z_min, b_range := PySem.W.mg_none_of X G z_range, b_set := PySem.W.mg_none_of X G z_set, b_sorted := PySem.W.mg_none_of X G z_sorted, b_str := PySem.W.mg_none_of X G z_str, b_tuple := PySem.W.mg_none_of X G z_tuple, g_MOST_EVENTS := ⟨PySem.W.mg_of X G v_MOST_EVENTS, ⟨_, rfl⟩⟩, g_MOST_RESTS := ⟨PySem.W.mg_of X G v_MOST_RESTS, ⟨_, rfl⟩⟩, F__law_cell := F__law_cell, m__law_cell := PySem.W.mg_of X G a__law_cell, k__law_cell := k__law_cell, n__law_cell := n__law_cell, F__law_chained := F__law_chained, m__law_chained := PySem.W.mg_of X G a__law_chained, k__law_chained := k__law_chained, n__law_chained := n__law_chained, F__law_copied := F__law_copied, m__law_copied := PySem.W.mg_of X G a__law_copied, k__law_copied := k__law_copied, n__law_copied := n__law_copied, F__law_is_paper := F__law_is_paper, m__law_is_paper := PySem.W.mg_of X G a__law_is_paper, k__law_is_paper := k__law_is_paper, n__law_is_paper := n__law_is_paper, F__law_best := F__law_best, m__law_best := PySem.W.mg_of X G a__law_best, k__law_best := k__law_best, n__law_best := n__law_best, F__law_is_integer := F__law_is_integer, m__law_is_integer := PySem.W.mg_of X G a__law_is_integer, k__law_is_integer := k__law_is_integer, n__law_is_integer := n__law_is_integer, F__law_plan_is_right := F__law_plan_is_right, m__law_plan_is_right := PySem.W.mg_of X G a__law_plan_is_right, k__law_plan_is_right := k__law_plan_is_right, n__law_plan_is_right := n__law_plan_is_right, F__law_plan_is_least := F__law_plan_is_least, m__law_plan_is_least := PySem.W.mg_of X G a__law_plan_is_least, k__law_plan_is_least := k__law_plan_is_least, n__law_plan_is_least := n__law_plan_is_least, F__law_is_plan := F__law_is_plan, m__law_is_plan := PySem.W.mg_of X G a__law_is_plan, k__law_is_plan := k__law_is_plan, n__law_is_plan := n__law_is_plan, F__law_is_trap := F__law_is_trap, m__law_is_trap := PySem.W.mg_of X G a__law_is_trap, k__law_is_trap := k__law_is_trap, n__law_is_trap := n__law_is_trap, F__law_changed_plan := F__law_changed_plan, m__law_changed_plan := PySem.W.mg_of X G a__law_changed_plan, k__law_changed_plan := k__law_changed_plan, n__law_changed_plan := n__law_changed_plan, F__law_changed_trap := F__law_changed_trap, m__law_changed_trap := PySem.W.mg_of X G a__law_changed_trap, k__law_changed_trap := k__law_changed_trap, n__law_changed_trap := n__law_changed_trap, F__law_says := F__law_says, m__law_says := PySem.W.mg_of X G a__law_says, k__law_says := k__law_says, n__law_says := n__law_says, F__law_trap_is_right := F__law_trap_is_right, m__law_trap_is_right := PySem.W.mg_of X G a__law_trap_is_right, k__law_trap_is_right := k__law_trap_is_right, n__law_trap_is_right := n__law_trap_is_right, F_is_integer := F_is_integer, m_is_integer := PySem.W.mg_of X G a_is_integer, k_is_integer := k_is_integer, n_is_integer := n_is_integer, F_is_place := F_is_place, m_is_place := PySem.W.mg_of X G a_is_place, k_is_place := k_is_place, n_is_place := n_is_place, F_pair_is_right := F_pair_is_right, m_pair_is_right := PySem.W.mg_of X G a_pair_is_right, k_pair_is_right := k_pair_is_right, n_pair_is_right := n_pair_is_right, F_shows_plan := F_shows_plan, m_shows_plan := PySem.W.mg_of X G a_shows_plan, k_shows_plan := k_shows_plan, n_shows_plan := n_shows_plan, F_holds_off := F_holds_off, m_holds_off := PySem.W.mg_of X G a_holds_off, k_holds_off := k_holds_off, n_holds_off := n_holds_off, F_shows_trap := F_shows_trap, m_shows_trap := PySem.W.mg_of X G a_shows_trap, k_shows_trap := k_shows_trap, n_shows_trap := n_shows_trap, F__law_judges_agree := F__law_judges_agree, m__law_judges_agree := PySem.W.mg_of X G a__law_judges_agree, k__law_judges_agree := k__law_judges_agree, n__law_judges_agree := n__law_judges_agree, F__law_row := F__law_row, m__law_row := PySem.W.mg_of X G a__law_row, k__law_row := k__law_row, n__law_row := n__law_row, F__law_targets := F__law_targets, m__law_targets := PySem.W.mg_of X G a__law_targets, k__law_targets := k__law_targets, n__law_targets := n__law_targets, F__law_moves := F__law_moves, m__law_moves := PySem.W.mg_of X G a__law_moves, k__law_moves := k__law_moves, n__law_moves := n__law_moves, F_are_places := F_are_places, m_are_places := PySem.W.mg_of X G a_are_places, k_are_places := k_are_places, n_are_places := n_are_places, F_is_moves := F_is_moves, m_is_moves := PySem.W.mg_of X G a_is_moves, k_is_moves := k_is_moves, n_is_moves := n_is_moves, F_demand_question := F_demand_question, m_demand_question := PySem.W.mg_of X G a_demand_question, k_demand_question := k_demand_question, n_demand_question := n_demand_question, F_forcing_event := F_forcing_event, m_forcing_event := PySem.W.mg_of X G a_forcing_event, k_forcing_event := k_forcing_event, n_forcing_event := n_forcing_event, F_forced_plan := F_forced_plan, m_forced_plan := PySem.W.mg_of X G a_forced_plan, k_forced_plan := k_forced_plan, n_forced_plan := n_forced_plan, F_wish_paper := F_wish_paper, m_wish_paper := PySem.W.mg_of X G a_wish_paper, k_wish_paper := k_wish_paper, n_wish_paper := n_wish_paper, F_law := F_law, m_law := PySem.W.mg_of X G a_law, k_law := k_law, n_law := n_law, gc_BadOrder := PySem.W.mg_of X G a_BadOrder, kc_BadOrder := kc_BadOrder, gc_BadGraph := PySem.W.mg_of X G a_BadGraph, kc_BadGraph := kc_BadGraph, ra_BadOrder := raisesK s_BadOrder t_BadOrder, xi_BadOrder := xi_BadOrder, ra_BadGraph := raisesK s_BadGraph t_BadGraph, xi_BadGraph := xi_BadGraph }
  have e := hfa.symm.trans (PySem.W.mg_of X G a_law)
  cases e
  exact ⟨_, fun s v => .of_eq rfl, fun base _ _ => ⟨ca A, ok_law (A := A) TT⟩⟩
end Lw
namespace Lw
open M
theorem cell_ok (ns : List Int) (k : Nat) : ∃ z : Int, f__law_cell [.lst (ns.map .int), .int k] = .ok (.val (.int z)) := by
  rw [f__law_cell, fn_2]
  by_cases h : k < ns.length
  · exact ⟨ns.getD k 0, by simp [startE, List.replicate, h, dIx_getDl h, -List.getD_eq_getElem?_getD]⟩
  · exact ⟨0, by simp [startE, List.replicate, h]⟩
end Lw
namespace Lw
open M
/-! ### _law_row -/
def stR (c s : List Int) : Prop := s.length = c.length ∧ ∀ i, i < c.length → 0 ≤ s.getD i 0 ∧ s.getD i 0 < c.getD i 0
theorem stR_cons {b z : Int} {c s : List Int} (h0 : 0 ≤ z) (h1 : z < b) (h : stR c s) : stR (b :: c) (z :: s) := by
  refine ⟨by simp [h.1], fun i hi => ?_⟩
  cases i with
  | zero => simpa using ⟨h0, h1⟩
  | succ i => simpa using h.2 i (by simpa using hi)
theorem row_loop (cell : Int) (S : D) : ∀ (sizes row : List Int) (t m : Int) (x : Sl), (∀ b ∈ sizes, 0 < b ∧ b < 1073741824) → row.length + sizes.length ≤ 1000 →
    ∃ r t' m' x', forGo (gName 5) (sIf (tVal (eOp2 dGe (eVar 0) (eOp2 dPow (eC (.int 10)) (eC (.int 18))))) (sSeq (sAppend 4 (eOp2 dMod (eB dInt (aCons (eVar 2) aNil)) (eVar 5)))
  (sSet 2 (eOp2 dFdiv (eVar 2) (eVar 5)))) (sSeq (sSet 3 (eOp2 dMod (eB dInt (aCons (eOp2 dAdd (eOp2 dMul (eVar 3) (eC (.int 16807))) (eC (.int 54321))) aNil)) (eC (.int 2147483647))))
  (sAppend 4 (eOp2 dMod (eOp2 dFdiv (eVar 3) (eC (.int 64))) (eVar 5))))) (sizes.map .int) [.val (.int cell), .val S, .val (.int t), .val (.int m), .own (.lst (row.map .int)), x] =
      .next [.val (.int cell), .val S, .val (.int t'), .val (.int m'), .own (.lst ((row ++ r).map .int)), x'] ∧ stR sizes r
  | [], row, t, m, x, _, _ => ⟨[], t, m, x, by simp, rfl, fun i hi => absurd hi (by simp)⟩
  | b :: sizes, row, t, m, x, hb, hl => by
    obtain ⟨b0, b1⟩ := hb b List.mem_cons_self
    have hl' : row.length < 16777216 := by simp at hl; omega
    by_cases hc : big18 ≤ cell
    · obtain ⟨r, t', m', x', h1, h2⟩ := row_loop cell S sizes (row ++ [t % b]) (t / b) m (.val (.int b)) (fun y hy => hb y (List.mem_cons_of_mem _ hy)) (by simp at hl ⊢; omega)
      refine ⟨t % b :: r, t', m', x', ?_, stR_cons (Int.emod_nonneg _ (by omega)) (Int.emod_lt_of_pos _ b0) h2⟩
      rw [List.map_cons, forGo_cons' (e2 := [.val (.int cell), .val S, .val (.int (t / b)), .val (.int m), .own (.lst ((row ++ [t % b]).map .int)), .val (.int b)]) rfl (by simp [hc, dMod_i _ b b0, dFdiv_i _ b b0 b1, line_v, hl']), h1]
      simp
    · obtain ⟨r, t', m', x', h1, h2⟩ := row_loop cell S sizes (row ++ [(m * 16807 + 54321) % 2147483647 / 64 % b]) t ((m * 16807 + 54321) % 2147483647) (.val (.int b)) (fun y hy => hb y (List.mem_cons_of_mem _ hy)) (by simp at hl ⊢; omega)
      refine ⟨(m * 16807 + 54321) % 2147483647 / 64 % b :: r, t', m', x', ?_, stR_cons (Int.emod_nonneg _ (by omega)) (Int.emod_lt_of_pos _ b0) h2⟩
      rw [List.map_cons, forGo_cons' (e2 := [.val (.int cell), .val S, .val (.int t), .val (.int ((m * 16807 + 54321) % 2147483647)), .own (.lst ((row ++ [(m * 16807 + 54321) % 2147483647 / 64 % b]).map .int)), .val (.int b)]) rfl
        (by simp [hc, dMod_i _ b b0, dMod_i _ 2147483647 (by decide), dFdiv_i _ 64 (by decide) (by decide), mulR _ 16807 (by decide), line_v, hl']), h1]
      simp
theorem row_ok (cell : Int) (q : Bool) (sizes : List Int) (hb : ∀ b ∈ sizes, 0 < b ∧ b < 1073741824) (hl : sizes.length ≤ 1000) :
    ∃ r, f__law_row [.int cell, seqD q (sizes.map .int)] = .ok (.own (.lst (r.map .int))) ∧ stR sizes r := by
  rw [f__law_row, fn_2]
  obtain ⟨r, t', m', x', h1, h2⟩ := row_loop cell (seqD q (sizes.map .int)) sizes [] cell ((cell * 48271 + 12345) % 2147483647) .un hb (by simpa using hl)
  refine ⟨r, ?_, h2⟩
  simp only [List.map_nil, List.nil_append] at h1
  simp [startE, List.replicate, dMod_i _ 2147483647 (by decide), mulR _ 48271 (by decide), h1]
end Lw
namespace Lw
open M
theorem cut_mid {α : Type} {xs : List α} {p q : Nat} (h : p ≤ q) (hq : q ≤ xs.length) : cutL xs (some (p : Int)) (some (q : Int)) = (xs.drop p).take (q - p) := by
  unfold cutL sIx
  simp only
  rw [if_neg (by omega), if_neg (by omega), Int.toNat_natCast, Int.toNat_natCast, Nat.min_eq_left (show p ≤ xs.length by omega), Nat.min_eq_left hq]
theorem inD_ints (x : Int) (ns : List Int) : inD (.int x) (ns.map .int) = decide (x ∈ ns) := by
  unfold inD
  rw [List.any_map]
  induction ns with
  | nil => rfl
  | cons n ns ih =>
    rw [List.any_cons, ih]
    show ((n == x) || decide (x ∈ ns)) = decide (x ∈ n :: ns)
    by_cases h : n = x
    · subst h; simp
    · have : ¬ x = n := fun e => h e.symm
      simp [h, this]
theorem dIn_ints (x : Int) (ns : List Int) : dIn (.int x) (.lst (ns.map .int)) = .ok (.bl (decide (x ∈ ns))) := by
  show (if flatD (.int x) = true ∧ _ then _ else _) = _
  rw [if_pos ⟨rfl, allFlat ns⟩, inD_ints]
theorem dNotIn_ints (x : Int) (ns : List Int) : dNotIn (.int x) (.lst (ns.map .int)) = .ok (.bl (!decide (x ∈ ns))) := by
  show (if flatD (.int x) = true ∧ _ then _ else _) = _
  rw [if_pos ⟨rfl, allFlat ns⟩, inD_ints]
theorem lc_const {g : Nat} {v : Int} {l : List D} {env : Env} (hl : l.length ≤ 1000) : lcGo (gName g) tTrue (eC (.int v)) l env [] = .ok ((List.replicate l.length v).map .int) := by
  rw [lc_map (g := gName g) (fun _ => .int v) l (fun d hd => ⟨_, rfl, rfl⟩) hl, List.map_replicate]
  exact congrArg Out.ok (List.eq_replicate_iff.mpr ⟨by simp, fun d hd => by obtain ⟨_, _, rfl⟩ := List.mem_map.mp hd; rfl⟩)
theorem getD_app1 {a b : List Int} {i : Nat} (h : i < a.length) : (a ++ b).getD i 0 = a.getD i 0 := by
  simp only [List.getD_eq_getElem?_getD]
  rw [List.getElem?_append_left h]
theorem getD_app2 {a b : List Int} {i : Nat} : (a ++ b).getD (a.length + i) 0 = b.getD i 0 := by
  simp only [List.getD_eq_getElem?_getD]
  rw [List.getElem?_append_right (by omega)]
  simp
theorem getD_rep {n i : Nat} {v : Int} (h : i < n) : (List.replicate n v).getD i 0 = v := by
  rw [List.getD_eq_getElem?_getD, List.getElem?_replicate, if_pos h]; rfl
theorem getD_memI {a : List Int} {x : Int} (h : x ∈ a) : ∃ i, i < a.length ∧ a.getD i 0 = x := by
  obtain ⟨i, hi, rfl⟩ := List.mem_iff_getElem.mp h
  exact ⟨i, hi, by simp [List.getD_eq_getElem?_getD, List.getElem?_eq_getElem hi]⟩
end Lw
namespace Lw
open M
theorem rep_len (n : Nat) (l : List Int) : ((List.replicate n l).flatten).length = n * l.length := by
  induction n with
  | zero => simp
  | succ n ih => rw [List.replicate_succ, List.flatten_cons, List.length_append, ih, Nat.succ_mul]; omega
theorem rep_map (n : Nat) (l : List Int) : (List.replicate n (l.map D.int)).flatten = ((List.replicate n l).flatten).map .int := by
  induction n with
  | zero => rfl
  | succ n ih => rw [List.replicate_succ, List.replicate_succ, List.flatten_cons, List.flatten_cons, List.map_append, ih]
theorem rep_mem {n : Nat} {l : List Int} {b : Int} (hb : b ∈ (List.replicate n l).flatten) : b ∈ l := by
  obtain ⟨m, h1, h2⟩ := List.mem_flatten.mp hb
  rw [(List.mem_replicate.mp h1).2] at h2
  exact h2
theorem fRep_i {n : Nat} {l : List Int} (hn : n ≤ 1000) (hl : l.length ≤ 1000) : fRep (.lst (l.map .int)) (.int (n : Nat)) = .ok (((List.replicate n l).flatten).map .int) := by
  show (if _ then _ else _) = _
  rw [if_pos ⟨by simpa using hl, by omega, by omega⟩, Int.toNat_natCast, rep_map]
end Lw
namespace Lw
open M
/-! ### the law -/
theorem lc_range {g : Nat} {e : CE} {env : Env} {n : Nat} (f : Nat → D) (h : ∀ i, i < n → e (env.set g (.val (.int (i : Nat)))) = .ok (f i)) (hn : n ≤ 1000) : lcGo (gName g) tTrue e (rangeL 0 (n : Nat)) env [] = .ok ((List.range n).map f) := by
  rw [lc_map (g := gName g) (fun d => match d with | .int k => f k.toNat | d => d) (rangeL 0 (n : Nat)) (fun d hd => by
    obtain ⟨i, hi, rfl⟩ := List.mem_map.mp hd
    have hi' : i < n := by simpa using hi
    refine ⟨_, rfl, ?_⟩
    have := h i hi'
    simp only [Int.zero_add, Int.toNat_natCast]
    exact this) (by rw [rangeL_len]; omega)]
  unfold rangeL
  rw [List.map_map, show ((n : Int) - 0).toNat = n by omega]
  refine congrArg Out.ok (List.map_congr_left fun i hi => ?_)
  show f ((0 + (i : Int)).toNat) = f i
  rw [Int.zero_add, Int.toNat_natCast]
theorem getD_range (f : Nat → Int) {n i : Nat} (h : i < n) : ((List.range n).map f).getD i 0 = f i := by
  rw [List.getD_eq_getElem?_getD, List.getElem?_map, List.getElem?_range h]; rfl
end Lw
namespace Lw
open M
/-! ### machines of sets -/
abbrev Mv := List Int × Bool
def mvD (q : Bool) (m : Mv) : D := .tup [seqD q (m.1.map .int), .bl m.2]
def rwD (q : Bool) (r : List Mv) : D := seqD q (r.map (mvD q))
def msD (q : Bool) (L : List (List Mv)) : D := seqD q (L.map (rwD q))
def plD (q : Bool) (P : List (Int × Int)) : D := seqD q (P.map prD)
theorem dIx_q {q : Bool} {α : Type} {f : α → D} {L : List α} {k : Nat} (d : α) (h : k < L.length) : dIx (seqD q (L.map f)) (.int (k : Nat)) = .ok (f (L.getD k d)) := by
  have e : L.getD k d = L[k] := by rw [List.getD_eq_getElem?_getD, List.getElem?_eq_getElem h]; rfl
  rw [e]
  cases q
  · show dIx (.tup (L.map f)) _ = _
    rw [dIx_t (xs := L.map f) (k := k) (by simpa using h)]
    simp
  · show dIx (.lst (L.map f)) _ = _
    rw [dIx_l (xs := L.map f) (k := k) (by simpa using h)]
    simp
theorem dIx_qi {q : Bool} {α : Type} {f : α → D} {L : List α} {z : Int} (d : α) (h0 : 0 ≤ z) (h : z < L.length) : dIx (seqD q (L.map f)) (.int z) = .ok (f (L.getD z.toNat d)) := by
  have := dIx_q (q := q) (f := f) d (show z.toNat < L.length by omega)
  rw [Int.toNat_of_nonneg h0] at this
  exact this
@[simp] theorem dIx_p0 (p : Int × Int) : dIx (prD p) (.int 0) = .ok (.int p.1) := by
  exact dIx_t (xs := [.int p.1, .int p.2]) (k := 0) (by simp)
@[simp] theorem dIx_p1 (p : Int × Int) : dIx (prD p) (.int 1) = .ok (.int p.2) := by
  exact dIx_t (xs := [.int p.1, .int p.2]) (k := 1) (by simp)
theorem iSeq_q {q : Bool} {xs : List D} {a : CE} {env : Env} (h : a env = .ok (seqD q xs)) : iSeq a env = .ok xs := by
  cases q <;> simp [h, seqD]
theorem dEnum_q (q : Bool) (xs : List D) : dEnum [seqD q xs] = .ok (enumL 0 xs) := by cases q <;> exact eqOf rfl
@[simp] theorem dIn_q (q : Bool) (x : Int) (ns : List Int) : dIn (.int x) (.lst (ns.map .int)) = .ok (.bl (decide (x ∈ ns))) := dIn_ints x ns
/-- what is right -/
def okT (n : Nat) (ts : List Int) : Prop := ts.Pairwise (· < ·) ∧ ∀ t ∈ ts, 0 ≤ t ∧ t < n
def okMs (n many : Nat) (L : List (List Mv)) : Prop := L.length = n ∧ 1 ≤ n ∧ n ≤ 40 ∧ many ≤ 6 ∧ ∀ r ∈ L, r.length = many ∧ ∀ m ∈ r, okT n m.1
theorem is_integer_i (i : Int) : f_is_integer [.int i] = .ok (.val (.bl true)) := by
  rw [f_is_integer, fn_1]; simp [startE, List.replicate, dIsi, tyD, subTy]
theorem is_place_ok (z : Int) (n : Nat) : f_is_place [.int z, .int (n : Nat)] = .ok (.val (.bl (decide (0 ≤ z ∧ z < n)))) := by
  have ii := is_integer_i z
  rw [f_is_place, fn_2]
  by_cases h0 : 0 ≤ z
  · by_cases h1 : z < n
    · simp [startE, List.replicate, ii, h0, h1]
    · simp [startE, List.replicate, ii, h0, h1]
  · simp [startE, List.replicate, ii, h0]
theorem are_loop (S : D) (n : Nat) : ∀ (ts : List Int) (lo : Int) (x3 : Sl), ts.Pairwise (· < ·) → (∀ t ∈ ts, lo < t ∧ 0 ≤ t ∧ t < n) →
    ∃ y2 y3, forGo (gName 3) (sSeq (sIf (tOr (tNot (tVal (eCall f_is_place (aCons (eVar 3) (aCons (eVar 1) aNil))))) (tVal (eOp2 dLe (eVar 3) (eVar 2)))) (sRet (eC (.bl false))) sNext)
  (sSet 2 (eVar 3))) (ts.map .int) [.val S, .val (.int (n : Nat)), .val (.int lo), x3] = .next [.val S, .val (.int (n : Nat)), y2, y3]
  | [], lo, x3, _, _ => ⟨.val (.int lo), x3, rfl⟩
  | t :: ts, lo, x3, h1, h2 => by
    obtain ⟨a, b, c⟩ := h2 t List.mem_cons_self
    have p := List.pairwise_cons.mp h1
    obtain ⟨y2, y3, ih⟩ := are_loop S n ts t (.val (.int t)) p.2 fun u hu => ⟨p.1 u hu, (h2 u (List.mem_cons_of_mem _ hu)).2⟩
    have ip := is_place_ok t n
    rw [decide_eq_true ⟨b, c⟩] at ip
    have nl : ¬ t ≤ lo := by omega
    refine ⟨y2, y3, ?_⟩
    rw [List.map_cons, forGo_go (e1 := [.val S, .val (.int (n : Nat)), .val (.int lo), .val (.int t)]) (e2 := [.val S, .val (.int (n : Nat)), .val (.int t), .val (.int t)]) rfl (.inl (by simp [ip, nl])), ih]
theorem are_ok {n : Nat} {ts : List Int} (q : Bool) (h : okT n ts) : f_are_places [seqD q (ts.map .int), .int (n : Nat)] = .ok (.val (.bl true)) := by
  obtain ⟨y2, y3, lp⟩ := are_loop (seqD q (ts.map .int)) n ts (-1) .un h.1 fun t ht => ⟨by have := (h.2 t ht).1; omega, h.2 t ht⟩
  have it : ∀ x1 x2 x3 : Sl, (iSeq (eVar 0)) [.val (seqD q (ts.map .int)), x1, x2, x3] = .ok (ts.map .int) := fun _ _ _ => iSeq_q (q := q) (by simp)
  rw [f_are_places, fn_2]
  generalize seqD q (ts.map .int) = S at *
  simp [startE, List.replicate, it, lp, -iSeq_a]
theorem mv_loop (q : Bool) (n : Nat) (x0 x2 : Sl) : ∀ (r : List Mv) (x3 x4 : Sl), (∀ m ∈ r, okT n m.1) →
    ∃ y3 y4, forGo (gTup [(gName 3), (gName 4)]) (sIf (tOr (tNot (tVal (eB dIsi (aCons (eVar 4) (aCons (eC (.ty "bool")) aNil))))) (tNot (tVal (eCall f_are_places (aCons (eVar 3) (aCons (eVar 1) aNil)))))) (sRet (eC (.bl false))) sNext) (r.map (mvD q)) [x0, .val (.int (n : Nat)), x2, x3, x4] = .next [x0, .val (.int (n : Nat)), x2, y3, y4]
  | [], x3, x4, _ => ⟨x3, x4, rfl⟩
  | m :: r, x3, x4, h => by
    have ao := are_ok q (h m List.mem_cons_self)
    obtain ⟨y3, y4, ih⟩ := mv_loop q n x0 x2 r (.val (seqD q (m.1.map .int))) (.val (.bl m.2)) fun k hk => h k (List.mem_cons_of_mem _ hk)
    refine ⟨y3, y4, ?_⟩
    rw [List.map_cons]
    have md : mvD q m = .tup [seqD q (m.1.map .int), .bl m.2] := rfl
    rw [md]
    generalize seqD q (m.1.map .int) = T at *
    rw [forGo_go (e1 := [x0, .val (.int (n : Nat)), x2, .val T, .val (.bl m.2)]) (e2 := [x0, .val (.int (n : Nat)), x2, .val T, .val (.bl m.2)]) rfl (.inl (by simp [ao, dIsi, tyD, subTy])), ih]
theorem row_loop2 (q : Bool) {n many : Nat} (L : List (List Mv)) (h0 : ∃ r0, dIx (msD q L) (.int 0) = .ok (rwD q r0) ∧ r0.length = many) : ∀ (rs : List (List Mv)) (x2 x3 x4 : Sl), (∀ r ∈ rs, r.length = many ∧ ∀ m ∈ r, okT n m.1) →
    ∃ y2 y3 y4, forGo (gName 2) (sSeq (sIf (tVal (eOp2 dNe (eB dLen (aCons (eVar 2) aNil)) (eB dLen (aCons (eOp2 dIx (eVar 0) (eC (.int 0))) aNil)))) (sRet (eC (.bl false))) sNext)
  (sFor (iSeq (eVar 2)) (gTup [(gName 3), (gName 4)]) (sIf (tOr (tNot (tVal (eB dIsi (aCons (eVar 4) (aCons (eC (.ty "bool")) aNil))))) (tNot (tVal (eCall f_are_places (aCons (eVar 3) (aCons (eVar 1) aNil)))))) (sRet (eC (.bl false))) sNext))) (rs.map (rwD q)) [.val (msD q L), .val (.int (n : Nat)), x2, x3, x4] = .next [.val (msD q L), .val (.int (n : Nat)), y2, y3, y4]
  | [], x2, x3, x4, _ => ⟨x2, x3, x4, rfl⟩
  | r :: rs, x2, x3, x4, h => by
    obtain ⟨r0, i0, l0⟩ := h0
    have hr := h r List.mem_cons_self
    obtain ⟨z3, z4, lp⟩ := mv_loop q n (.val (msD q L)) (.val (rwD q r)) r x3 x4 hr.2
    obtain ⟨y2, y3, y4, ih⟩ := row_loop2 q L ⟨r0, i0, l0⟩ rs (.val (rwD q r)) z3 z4 fun k hk => h k (List.mem_cons_of_mem _ hk)
    refine ⟨y2, y3, y4, ?_⟩
    have l1 : dLen [rwD q r] = .ok (.int (many : Nat)) := by unfold rwD; rw [dLen_q]; simp [hr.1]
    have l2 : dLen [rwD q r0] = .ok (.int (many : Nat)) := by unfold rwD; rw [dLen_q]; simp [l0]
    have it : ∀ x0 x1 x3 x4 : Sl, (iSeq (eVar 2)) [x0, x1, .val (rwD q r), x3, x4] = .ok (r.map (mvD q)) := fun _ _ _ _ => iSeq_q (q := q) (by simp [rwD])
    rw [List.map_cons]
    generalize rwD q r = RW at *
    generalize rwD q r0 = RW0 at *
    generalize msD q L = MS at *
    generalize r.map (mvD q) = RM at *
    rw [forGo_go (e1 := [.val MS, .val (.int (n : Nat)), .val RW, x3, x4]) (e2 := [.val MS, .val (.int (n : Nat)), .val RW, z3, z4]) rfl (.inl (by
      simp [l1, l2, i0, it, -iSeq_a]
      rw [show forGo _ _ _ _ = _ from lp])), ih]
theorem is_moves_ok (q : Bool) {n many : Nat} {L : List (List Mv)} (h : okMs n many L) : f_is_moves [msD q L] = .ok (.val (.bl true)) := by
  obtain ⟨h1, h2, h3, h4, h5⟩ := h
  have hm : L.getD 0 [] ∈ L := by
    rw [List.getD_eq_getElem?_getD, List.getElem?_eq_getElem (by omega : 0 < L.length)]
    exact List.getElem_mem _
  have i0 : dIx (msD q L) (.int 0) = .ok (rwD q (L.getD 0 [])) := dIx_q (q := q) (f := rwD q) (L := L) (k := 0) [] (by omega)
  obtain ⟨y2, y3, y4, lp⟩ := row_loop2 q (n := n) L ⟨_, i0, (h5 _ hm).1⟩ L .un .un .un h5
  have l0 : dLen [msD q L] = .ok (.int (n : Nat)) := by unfold msD; rw [dLen_q]; simp [h1]
  have l1 : dLen [rwD q (L.getD 0 [])] = .ok (.int (many : Nat)) := by unfold rwD; rw [dLen_q, List.length_map, (h5 _ hm).1]
  have it : ∀ x1 x2 x3 x4 : Sl, (iSeq (eVar 0)) [.val (msD q L), x1, x2, x3, x4] = .ok (L.map (rwD q)) := fun _ _ _ _ => iSeq_q (q := q) (by simp [msD])
  rw [f_is_moves, fn_1]
  have mr : v_MOST_RESTS = eC (.int 60) := rfl
  have me : v_MOST_EVENTS = eC (.int 6) := rfl
  have n1 : (1 : Int) ≤ n := by omega
  have n60 : (n : Int) ≤ 60 := by omega
  have m6 : ¬ (6 : Int) < many := by omega
  generalize rwD q (L.getD 0 []) = RW0 at *
  generalize msD q L = MS at *
  generalize L.map (rwD q) = LM at *
  have n1' : 1 ≤ n := h2
  simp [startE, List.replicate, l0, l1, i0, mr, me, n1, n1', n60, m6, it, lp, -iSeq_a]
theorem demand_ok (q : Bool) {n many : Nat} {L : List (List Mv)} (h : okMs n many L) {gs : List Int} (hg : okT n gs) {st : Nat} (hs : st < n) : f_demand_question [msD q L, .lst (gs.map .int), .int (st : Nat)] = .ok (.val .non) := by
  have im := is_moves_ok q h
  have l0 : dLen [msD q L] = .ok (.int (n : Nat)) := by unfold msD; rw [dLen_q]; simp [h.1]
  have ag : f_are_places [.lst (gs.map .int), .int (n : Nat)] = .ok (.val (.bl true)) := are_ok true hg
  have ip := is_place_ok (st : Nat) n
  rw [decide_eq_true ⟨by omega, by omega⟩] at ip
  rw [f_demand_question, fn_3]
  generalize msD q L = MS at *
  generalize gs.map D.int = GS at *
  simp [startE, List.replicate, im, l0, ag, ip]
end Lw
namespace Lw
open M
/-! ### which event forces -/
def rk (P : List (Int × Int)) (t : Int) : Int := (P.getD t.toNat (-1, -1)).1
def okE (P : List (Int × Int)) (m : Mv) : Bool := !m.2 && (!m.1.isEmpty && m.1.all fun t => decide (0 ≤ rk P t))
def fev (P : List (Int × Int)) (r : List Mv) : Option Nat := r.findIdx? (okE P)
def fevI (P : List (Int × Int)) (r : List Mv) : Int := match fev P r with | some e => (e : Int) | none => -1
theorem lc_filterI {g : Nat} {t : CT} {env : Env} (ts : List Int) (p : Int → Bool) (h : ∀ z ∈ ts, t (env.set g (.val (.int z))) = .ok (p z)) (hg : g < env.length) (hl : ts.length ≤ 1000) : lcGo (gName g) t (eVar g) (ts.map .int) env [] = .ok ((ts.filter p).map .int) := by
  rw [lcGo_go (fun d => match d with | .int z => p z | _ => false) (fun d => d) (ts.map .int) [] (fun d hd => by
    obtain ⟨z, hz, rfl⟩ := List.mem_map.mp hd
    exact ⟨_, rfl, h z hz, fun _ => by simp [hg]⟩) (by simp [line_v]; omega), List.nil_append, List.map_id', List.filter_map]
  rfl
theorem okT_len {n : Nat} {ts : List Int} (h : okT n ts) : ts.length ≤ n := by
  have key : ∀ (ts : List Int) (lo : Int), ts.Pairwise (· < ·) → (∀ t ∈ ts, lo ≤ t ∧ t < n) → (ts.length : Int) ≤ max 0 ((n : Int) - lo) := by
    intro ts
    induction ts with
    | nil => intro lo _ _; simp; omega
    | cons t ts ih =>
      intro lo h1 h2
      have p := List.pairwise_cons.mp h1
      have := ih (t + 1) p.2 fun u hu => ⟨by have := p.1 u hu; omega, (h2 u (List.mem_cons_of_mem _ hu)).2⟩
      have a := h2 t List.mem_cons_self
      rw [List.length_cons]
      omega
  have := key ts 0 h.1 fun t ht => ⟨(h.2 t ht).1, (h.2 t ht).2⟩
  omega
theorem filter_nil {α : Type} (l : List α) (p : α → Bool) : (l.filter fun x => !p x).length = 0 ↔ l.all p = true := by
  rw [List.length_eq_zero_iff, List.filter_eq_nil_iff, List.all_eq_true]
  constructor
  · intro h x hx
    have := h x hx
    simpa using this
  · intro h x hx
    simp [h x hx]
theorem fe_loop (q : Bool) {n : Nat} (hn : n ≤ 40) {P : List (Int × Int)} (hP : P.length = n) (R : D) : ∀ (r : List Mv) (k : Nat) (x2 x3 x4 x5 x6 : Sl), (∀ m ∈ r, okT n m.1) →
    ∃ y2 y3 y4 y5 y6, forGo (gTup [(gName 2), (gTup [(gName 3), (gName 4)])]) (sSeq (sSetF 5 (fComp [6] (iSeq (eVar 3)) (gName 6) (tVal (eOp2 dLt (eOp2 dIx (eOp2 dIx (eVar 1) (eVar 6)) (eC (.int 0))) (eC (.int 0)))) (eVar 6)))
  (sIf (tAnd (tNot (tVal (eVar 4))) (tAnd (tVal (eOp2 dGt (eB dLen (aCons (eVar 3) aNil)) (eC (.int 0)))) (tVal (eOp2 dEq (eB dLen (aCons (ePeek 5) aNil)) (eC (.int 0)))))) (sRet (eVar 2)) sNext)) (enumL k (r.map (mvD q))) [.val R, .val (.lst (P.map prD)), x2, x3, x4, x5, x6] = match fev P r with
      | some e => .ret (.val (.int ((k + e : Nat) : Int))) | none => .next [.val R, .val (.lst (P.map prD)), y2, y3, y4, y5, y6]
  | [], k, x2, x3, x4, x5, x6, _ => ⟨x2, x3, x4, x5, x6, rfl⟩
  | m :: r, k, x2, x3, x4, x5, x6, h => by
    have hm := h m List.mem_cons_self
    have ml := okT_len hm
    obtain ⟨y2, y3, y4, y5, y6, ih⟩ := fe_loop q hn hP R r (k + 1) (.val (.int (k : Nat))) (.val (seqD q (m.1.map .int))) (.val (.bl m.2)) (.own (.lst ((m.1.filter fun t => !decide (0 ≤ rk P t)).map .int))) x6 fun j hj => h j (List.mem_cons_of_mem _ hj)
    have md : mvD q m = .tup [seqD q (m.1.map .int), .bl m.2] := rfl
    have ff : fev P (m :: r) = if okE P m = true then some 0 else (fev P r).map (· + 1) := by
      unfold fev
      rw [List.findIdx?_cons]
    have lc : ∀ x2 x5, lcGo (gName 6) (tVal (eOp2 dLt (eOp2 dIx (eOp2 dIx (eVar 1) (eVar 6)) (eC (.int 0))) (eC (.int 0)))) (eVar 6) (m.1.map .int) [.val R, .val (.lst (P.map prD)), x2, .val (seqD q (m.1.map .int)), .val (.bl m.2), x5, .un] [] = .ok ((m.1.filter fun t => !decide (0 ≤ rk P t)).map .int) := fun x2 x5 =>
      lc_filterI m.1 (fun t => !decide (0 ≤ rk P t)) (fun z hz => by
        have hz' := hm.2 z hz
        have ix : dIx (.lst (P.map prD)) (.int z) = .ok (prD (P.getD z.toNat (-1, -1))) := dIx_qi (q := true) (f := prD) (-1, -1) hz'.1 (by omega)
        have e : rk P z = (P.getD z.toNat (-1, -1)).1 := rfl
        rw [e]
        generalize P.getD z.toNat (-1, -1) = p at *
        by_cases z0 : 0 ≤ p.1
        · have z1 : ¬ p.1 < 0 := by omega
          simp [ix, z0, z1]
        · have z1 : p.1 < 0 := by omega
          simp [ix, z0, z1]) (by simp) (by omega)
    have q2 : ∀ x2 x5 x6, (fComp [6] (iSeq (eVar 3)) (gName 6) (tVal (eOp2 dLt (eOp2 dIx (eOp2 dIx (eVar 1) (eVar 6)) (eC (.int 0))) (eC (.int 0)))) (eVar 6)) [.val R, .val (.lst (P.map prD)), x2, .val (seqD q (m.1.map .int)), .val (.bl m.2), x5, x6] = .ok (.lst ((m.1.filter fun t => !decide (0 ≤ rk P t)).map .int)) := by
      intro x2 x5 x6
      have it : (iSeq (eVar 3)) [.val R, .val (.lst (P.map prD)), x2, .val (seqD q (m.1.map .int)), .val (.bl m.2), x5, x6] = .ok (m.1.map .int) := iSeq_q (q := q) (by simp)
      have w : wipeE [.val R, .val (.lst (P.map prD)), x2, .val (seqD q (m.1.map .int)), .val (.bl m.2), x5, x6] [6] = [.val R, .val (.lst (P.map prD)), x2, .val (seqD q (m.1.map .int)), .val (.bl m.2), x5, .un] := rfl
      rw [fComp_a, w, it]
      have lc := lc x2 x5
      simp only [Out.bind_ok]
      rw [show lcGo _ _ _ _ _ _ = _ from lc]
      simp
    have l1 : dLen [seqD q (m.1.map D.int)] = .ok (.int m.1.length) := by rw [dLen_q]; simp
    have fn := filter_nil m.1 fun t => decide (0 ≤ rk P t)
    have okd : okE P m = (!m.2 && (!m.1.isEmpty && m.1.all fun t => decide (0 ≤ rk P t))) := rfl
    have emp : m.1.isEmpty = decide (m.1.length = 0) := by cases m.1 <;> simp
    generalize hF : (m.1.filter fun t => !decide (0 ≤ rk P t)) = F at *
    have lF : (F.map D.int).length = F.length := by simp
    refine ⟨y2, y3, y4, y5, y6, ?_⟩
    rw [List.map_cons, show enumL k (mvD q m :: r.map (mvD q)) = .tup [.int (k : Nat), mvD q m] :: enumL (k + 1) (r.map (mvD q)) from rfl, md, ff]
    have body : (sSeq (sSetF 5 (fComp [6] (iSeq (eVar 3)) (gName 6) (tVal (eOp2 dLt (eOp2 dIx (eOp2 dIx (eVar 1) (eVar 6)) (eC (.int 0))) (eC (.int 0)))) (eVar 6)))
  (sIf (tAnd (tNot (tVal (eVar 4))) (tAnd (tVal (eOp2 dGt (eB dLen (aCons (eVar 3) aNil)) (eC (.int 0)))) (tVal (eOp2 dEq (eB dLen (aCons (ePeek 5) aNil)) (eC (.int 0)))))) (sRet (eVar 2)) sNext)) [.val R, .val (.lst (P.map prD)), .val (.int (k : Nat)), .val (seqD q (m.1.map .int)), .val (.bl m.2), x5, x6] = if okE P m = true then .ret (.val (.int (k : Nat))) else .next [.val R, .val (.lst (P.map prD)), .val (.int (k : Nat)), .val (seqD q (m.1.map .int)), .val (.bl m.2), .own (.lst (F.map .int)), x6] := by
      rw [okd, emp]
      generalize seqD q (m.1.map D.int) = SD at *
      generalize P.map prD = PP at *
      generalize F.map D.int = FF at *
      cases e : m.2 with
      | true => simp [e, q2, -fComp_a] at *; simp [q2, -fComp_a]
      | false =>
        rw [e] at q2
        by_cases z : m.1.length = 0
        · simp [q2, l1, z, -fComp_a]
        · have zi : (0 : Int) < m.1.length := by omega
          have zn : 0 < m.1.length := by omega
          have zl : ¬ m.1 = [] := fun y => z (by rw [y]; rfl)
          by_cases w : F.length = 0
          · have a := fn.mp w
            simp [q2, l1, zi, zn, zl, z, lF, w, a, -fComp_a, -List.all_eq_true]
          · have a : ¬ (m.1.all fun t => decide (0 ≤ rk P t)) = true := fun y => w (fn.mpr y)
            simp [q2, l1, zi, zn, zl, z, lF, w, a, -fComp_a, -List.all_eq_true]
    cases e : okE P m with
    | true =>
      rw [e] at body
      rw [forGo_ret (e1 := [.val R, .val (.lst (P.map prD)), .val (.int (k : Nat)), .val (seqD q (m.1.map .int)), .val (.bl m.2), x5, x6]) (r := .val (.int (k : Nat))) (by simp) body]
      simp
    | false =>
      rw [e] at body
      rw [forGo_go (e1 := [.val R, .val (.lst (P.map prD)), .val (.int (k : Nat)), .val (seqD q (m.1.map .int)), .val (.bl m.2), x5, x6]) (by simp) (.inl body), ih]
      cases z : fev P r with
      | none => simp
      | some e => simp; omega
end Lw
namespace Lw
open M
/-! ### the forced plan -/
theorem forGo_brk {g : Tg} {body : CS} {d : D} {ds : List D} {env e1 e2 : Env} (h : g d env = some e1) (h2 : body e1 = .brk e2) : forGo g body (d :: ds) env = .next e2 := by rw [forGo_cons h, h2]
theorem forcing_ok (q : Bool) {n : Nat} (hn : n ≤ 40) {P : List (Int × Int)} (hP : P.length = n) {r : List Mv} (h : ∀ m ∈ r, okT n m.1) : f_forcing_event [rwD q r, .lst (P.map prD)] = .ok (.val (.int (fevI P r))) := by
  obtain ⟨y2, y3, y4, y5, y6, lp⟩ := fe_loop q hn hP (rwD q r) r 0 .un .un .un .un .un h
  have de : dEnum [rwD q r] = .ok (enumL 0 (r.map (mvD q))) := dEnum_q q _
  rw [f_forcing_event, fn_2]
  unfold fevI
  generalize rwD q r = R at *
  generalize r.map (mvD q) = RM at *
  generalize P.map prD = PP at *
  cases z : fev P r with
  | none => rw [z] at lp; simp [startE, List.replicate, de, lp]
  | some e => rw [z] at lp; simp [startE, List.replicate, de, lp]
def setG (P : List (Int × Int)) (gs : List Int) : List (Int × Int) := gs.foldl (fun P g => P.set g.toNat (0, -1)) P
theorem setG_len : ∀ (gs : List Int) (P : List (Int × Int)), (setG P gs).length = P.length
  | [], P => rfl
  | g :: gs, P => by show (setG (P.set g.toNat (0, -1)) gs).length = _; rw [setG_len gs]; simp
theorem goal_loop {n : Nat} (x0 x1 x3 x5 x6 x7 x8 x9 : Sl) : ∀ (gs : List Int) (P : List (Int × Int)) (x4 : Sl), P.length = n → (∀ g ∈ gs, 0 ≤ g ∧ g < n) →
    ∃ y4, forGo (gName 4) (sSetIx 2 (eVar 4) (eTup (aCons (eC (.int 0)) (aCons (eOp1 dNeg (eC (.int 1))) aNil)))) (gs.map .int) [x0, x1, .own (.lst (P.map prD)), x3, x4, x5, x6, x7, x8, x9] = .next [x0, x1, .own (.lst ((setG P gs).map prD)), x3, y4, x5, x6, x7, x8, x9]
  | [], P, x4, _, _ => ⟨x4, rfl⟩
  | g :: gs, P, x4, hP, h => by
    obtain ⟨a, b⟩ := h g List.mem_cons_self
    obtain ⟨y4, ih⟩ := goal_loop x0 x1 x3 x5 x6 x7 x8 x9 gs (P.set g.toNat (0, -1)) (.val (.int g)) (by simp [hP]) fun u hu => h u (List.mem_cons_of_mem _ hu)
    refine ⟨y4, ?_⟩
    have ix : ixN (P.map prD).length g = some g.toNat := ixN_i a (by rw [List.length_map]; omega)
    have st : (P.map prD).set g.toNat (.tup [.int 0, .int (-1)]) = (P.set g.toNat (0, -1)).map prD := by rw [List.map_set]; rfl
    rw [List.map_cons, forGo_go (e1 := [x0, x1, .own (.lst (P.map prD)), x3, .val (.int g), x5, x6, x7, x8, x9]) (e2 := [x0, x1, .own (.lst ((P.set g.toNat (0, -1)).map prD)), x3, .val (.int g), x5, x6, x7, x8, x9]) rfl (.inl (by
      rw [← st]
      generalize P.map prD = PP at *
      simp [ix, sized, line_v])), ih]
    rfl
def fndK (P : List (Int × Int)) : Nat → List (List Mv) → List (Int × Int)
  | _, [] => []
  | k, r :: L => (if rk P (k : Nat) < 0 then (match fev P r with | some e => [((k : Int), (e : Int))] | none => []) else []) ++ fndK P (k + 1) L
theorem fndK_len (P : List (Int × Int)) : ∀ (k : Nat) (L : List (List Mv)), (fndK P k L).length ≤ L.length
  | _, [] => Nat.le_refl 0
  | k, r :: L => by
    have ih := fndK_len P (k + 1) L
    unfold fndK
    rw [List.length_append, List.length_cons]
    split
    · split <;> simp <;> omega
    · simp; omega
theorem found_loop (q : Bool) {n : Nat} (hn : n ≤ 40) {P : List (Int × Int)} (hP : P.length = n) (x0 x1 x3 x4 x5 : Sl) : ∀ (L : List (List Mv)) (k : Nat) (acc : List (Int × Int)) (x7 x8 x9 : Sl), k + L.length ≤ n → acc.length + L.length ≤ 1000 → (∀ r ∈ L, ∀ m ∈ r, okT n m.1) →
    ∃ y7 y8 y9, forGo (gTup [(gName 7), (gName 8)]) (sIf (tVal (eOp2 dLt (eOp2 dIx (eOp2 dIx (ePeek 2) (eVar 7)) (eC (.int 0))) (eC (.int 0)))) (sSeq (sSet 9 (eCallP f_forcing_event (aCons (eVar 8) (aCons (ePeekD 2) aNil))))
  (sIf (tVal (eOp2 dGe (ePeek 9) (eC (.int 0)))) (sFreeze 9 (sAppend 6 (eTup (aCons (eVar 7) (aCons (eVar 9) aNil))))) sNext)) sNext) (enumL k (L.map (rwD q))) [x0, x1, .own (.lst (P.map prD)), x3, x4, x5, .own (.lst (acc.map prD)), x7, x8, x9] = .next [x0, x1, .own (.lst (P.map prD)), x3, x4, x5, .own (.lst ((acc ++ fndK P k L).map prD)), y7, y8, y9]
  | [], k, acc, x7, x8, x9, _, _, _ => ⟨x7, x8, x9, by rw [show fndK P k [] = [] from rfl, List.append_nil]; rfl⟩
  | r :: L, k, acc, x7, x8, x9, hk, ha, h => by
    rw [List.length_cons] at hk ha
    have ix : dIx (.lst (P.map prD)) (.int (k : Nat)) = .ok (prD (P.getD k (-1, -1))) := dIx_q (q := true) (f := prD) (-1, -1) (by omega)
    have fo := forcing_ok q hn hP (h r List.mem_cons_self)
    have e : rk P (k : Nat) = (P.getD k (-1, -1)).1 := by unfold rk; rw [Int.toNat_natCast]
    have un : fndK P k (r :: L) = (if rk P (k : Nat) < 0 then (match fev P r with | some e => [((k : Int), (e : Int))] | none => []) else []) ++ fndK P (k + 1) L := rfl
    rw [un, e]
    have la : (acc.map prD).length = acc.length := by simp
    have lt : acc.length < 16777216 := by omega
    have ih := fun acc' x9' h' => found_loop q hn hP x0 x1 x3 x4 x5 L (k + 1) acc' (.val (.int (k : Nat))) (.val (rwD q r)) x9' (by omega) h' fun j hj => h j (List.mem_cons_of_mem _ hj)
    rw [List.map_cons, show enumL k (rwD q r :: L.map (rwD q)) = .tup [.int (k : Nat), rwD q r] :: enumL (k + 1) (L.map (rwD q)) from rfl]
    generalize P.getD k (-1, -1) = p at *
    generalize rwD q r = RW at *
    generalize hPP : P.map prD = PP at *
    by_cases z : p.1 < 0
    · rw [if_pos z]
      unfold fevI at fo
      cases w : fev P r with
      | none =>
        rw [w] at fo
        obtain ⟨y7, y8, y9, ih⟩ := ih acc (.val (.int (-1))) (by omega)
        refine ⟨y7, y8, y9, ?_⟩
        generalize acc.map prD = AA at *
        rw [forGo_go (e1 := [x0, x1, .own (.lst PP), x3, x4, x5, .own (.lst AA), .val (.int (k : Nat)), .val RW, x9]) (e2 := [x0, x1, .own (.lst PP), x3, x4, x5, .own (.lst AA), .val (.int (k : Nat)), .val RW, .val (.int (-1))]) rfl (.inl (by simp [ix, z, fo, Own.shared])), ih]
        rfl
      | some ev =>
        rw [w] at fo
        obtain ⟨y7, y8, y9, ih⟩ := ih (acc ++ [((k : Int), (ev : Int))]) (.val (.int (ev : Nat))) (by simp; omega)
        refine ⟨y7, y8, y9, ?_⟩
        have ap : (acc ++ [((k : Int), (ev : Int))]).map prD = acc.map prD ++ [.tup [.int (k : Nat), .int (ev : Nat)]] := by rw [List.map_append]; rfl
        rw [ap] at ih
        have e3 : acc ++ ([((k : Int), (ev : Int))] ++ fndK P (k + 1) L) = acc ++ [((k : Int), (ev : Int))] ++ fndK P (k + 1) L := by rw [List.append_assoc]
        simp only []
        rw [e3]
        generalize acc.map prD = AA at *
        have fo : f_forcing_event [RW, .lst PP] = .ok (.val (.int (ev : Nat))) := fo
        rw [forGo_go (e1 := [x0, x1, .own (.lst PP), x3, x4, x5, .own (.lst AA), .val (.int (k : Nat)), .val RW, x9]) (e2 := [x0, x1, .own (.lst PP), x3, x4, x5, .own (.lst (AA ++ [.tup [.int (k : Nat), .int (ev : Nat)]])), .val (.int (k : Nat)), .val RW, .val (.int (ev : Nat))]) rfl (.inl (by simp [ix, z, fo, Own.shared, sized, line_v, la, lt])), ih]
    · rw [if_neg z]
      obtain ⟨y7, y8, y9, ih⟩ := ih acc x9 (by omega)
      refine ⟨y7, y8, y9, ?_⟩
      generalize acc.map prD = AA at *
      rw [forGo_go (e1 := [x0, x1, .own (.lst PP), x3, x4, x5, .own (.lst AA), .val (.int (k : Nat)), .val RW, x9]) (e2 := [x0, x1, .own (.lst PP), x3, x4, x5, .own (.lst AA), .val (.int (k : Nat)), .val RW, x9]) rfl (.inl (by simp [ix, z])), ih]
      rfl
def fz (P : List (Int × Int)) (k : Nat) (F : List (Int × Int)) : List (Int × Int) := F.foldl (fun P f => P.set f.1.toNat ((k : Int), f.2)) P
theorem fz_len (k : Nat) : ∀ (F P : List (Int × Int)), (fz P k F).length = P.length
  | [], P => rfl
  | f :: F, P => by show (fz (P.set f.1.toNat ((k : Int), f.2)) k F).length = _; rw [fz_len k F]; simp
theorem upd_loop {n : Nat} (k : Nat) (x0 x1 x3 x4 x6 x8 : Sl) : ∀ (F P : List (Int × Int)) (x7 x9 : Sl), P.length = n → (∀ f ∈ F, 0 ≤ f.1 ∧ f.1 < n) →
    ∃ y7 y9, forGo (gTup [(gName 7), (gName 9)]) (sFreeze 9 (sSetIx 2 (eVar 7) (eTup (aCons (eVar 5) (aCons (eVar 9) aNil))))) (F.map prD) [x0, x1, .own (.lst (P.map prD)), x3, x4, .val (.int (k : Nat)), x6, x7, x8, x9] = .next [x0, x1, .own (.lst ((fz P k F).map prD)), x3, x4, .val (.int (k : Nat)), x6, y7, x8, y9]
  | [], P, x7, x9, _, _ => ⟨x7, x9, rfl⟩
  | f :: F, P, x7, x9, hP, h => by
    obtain ⟨a, b⟩ := h f List.mem_cons_self
    obtain ⟨y7, y9, ih⟩ := upd_loop k x0 x1 x3 x4 x6 x8 F (P.set f.1.toNat ((k : Int), f.2)) (.val (.int f.1)) (.val (.int f.2)) (by simp [hP]) fun u hu => h u (List.mem_cons_of_mem _ hu)
    refine ⟨y7, y9, ?_⟩
    have ix : ixN (P.map prD).length f.1 = some f.1.toNat := ixN_i a (by rw [List.length_map]; omega)
    have st : (P.map prD).set f.1.toNat (.tup [.int (k : Nat), .int f.2]) = (P.set f.1.toNat ((k : Int), f.2)).map prD := by rw [List.map_set]; rfl
    rw [List.map_cons, show prD f = .tup [.int f.1, .int f.2] from rfl, forGo_go (e1 := [x0, x1, .own (.lst (P.map prD)), x3, x4, .val (.int (k : Nat)), x6, .val (.int f.1), x8, .val (.int f.2)]) (e2 := [x0, x1, .own (.lst ((P.set f.1.toNat ((k : Int), f.2)).map prD)), x3, x4, .val (.int (k : Nat)), x6, .val (.int f.1), x8, .val (.int f.2)]) rfl (.inl (by
      rw [← st]
      generalize P.map prD = PP at *
      simp [ix, sized, line_v])), ih]
    rfl
def rnd (L : List (List Mv)) : List (Int × Int) → Nat → Nat → List (Int × Int)
  | P, _, 0 => P
  | P, k, m + 1 => if fndK P 0 L = [] then P else rnd L (fz P k (fndK P 0 L)) (k + 1) m
theorem fndK_in (P : List (Int × Int)) : ∀ (k : Nat) (L : List (List Mv)), ∀ f ∈ fndK P k L, (k : Int) ≤ f.1 ∧ f.1 < k + L.length
  | _, [], f, hf => by cases hf
  | k, r :: L, f, hf => by
    unfold fndK at hf
    rw [List.length_cons]
    rcases List.mem_append.mp hf with e | e
    · split at e
      · split at e
        · rw [List.mem_singleton.mp e]
          exact ⟨Int.le_refl _, by simp; omega⟩
        · cases e
      · cases e
    · have := fndK_in P (k + 1) L f e
      omega
theorem round_loop (q : Bool) {n : Nat} (hn : n ≤ 40) {L : List (List Mv)} (hL : L.length = n) (h : ∀ r ∈ L, ∀ m ∈ r, okT n m.1) (x1 x3 x4 : Sl) : ∀ (m k : Nat) (P : List (Int × Int)) (x5 x6 x7 x8 x9 : Sl), P.length = n →
    ∃ y5 y6 y7 y8 y9, forGo (gName 5) (sSeq (sSetF 6 (fLst aNil))
  (sSeq (sFor (iB dEnum (aCons (eVar 0) aNil)) (gTup [(gName 7), (gName 8)]) (sIf (tVal (eOp2 dLt (eOp2 dIx (eOp2 dIx (ePeek 2) (eVar 7)) (eC (.int 0))) (eC (.int 0)))) (sSeq (sSet 9 (eCallP f_forcing_event (aCons (eVar 8) (aCons (ePeekD 2) aNil))))
  (sIf (tVal (eOp2 dGe (ePeek 9) (eC (.int 0)))) (sFreeze 9 (sAppend 6 (eTup (aCons (eVar 7) (aCons (eVar 9) aNil))))) sNext)) sNext))
  (sSeq (sIf (tVal (eOp2 dEq (eB dLen (aCons (ePeek 6) aNil)) (eC (.int 0)))) sBrk sNext)
  (sFreeze 6 (sFor (iSeq (eVar 6)) (gTup [(gName 7), (gName 9)]) (sFreeze 9 (sSetIx 2 (eVar 7) (eTup (aCons (eVar 5) (aCons (eVar 9) aNil)))))))))) ((List.range' k m).map fun i : Nat => .int (i : Int)) [.val (msD q L), x1, .own (.lst (P.map prD)), x3, x4, x5, x6, x7, x8, x9] = .next [.val (msD q L), x1, .own (.lst ((rnd L P k m).map prD)), x3, x4, y5, y6, y7, y8, y9]
  | 0, k, P, x5, x6, x7, x8, x9, _ => ⟨x5, x6, x7, x8, x9, rfl⟩
  | m + 1, k, P, x5, x6, x7, x8, x9, hP => by
    obtain ⟨z7, z8, z9, lp⟩ := found_loop q hn hP (.val (msD q L)) x1 x3 x4 (.val (.int (k : Nat))) L 0 [] x7 x8 x9 (by omega) (by simp; omega) h
    have de : dEnum [msD q L] = .ok (enumL 0 (L.map (rwD q))) := dEnum_q q _
    rw [List.nil_append, List.map_nil] at lp
    have un : rnd L P k (m + 1) = if fndK P 0 L = [] then P else rnd L (fz P k (fndK P 0 L)) (k + 1) m := rfl
    rw [un, List.range'_succ, List.map_cons]
    have fi := fndK_in P 0 L
    generalize fndK P 0 L = F at *
    by_cases z : F = []
    · subst z
      rw [if_pos rfl]
      refine ⟨.val (.int (k : Nat)), .own (.lst []), z7, z8, z9, ?_⟩
      rw [List.map_nil] at lp
      generalize msD q L = MS at *
      generalize enumL 0 (L.map (rwD q)) = EL at *
      generalize P.map prD = PP at *
      rw [forGo_brk (e1 := [.val MS, x1, .own (.lst PP), x3, x4, .val (.int (k : Nat)), x6, x7, x8, x9]) (e2 := [.val MS, x1, .own (.lst PP), x3, x4, .val (.int (k : Nat)), .own (.lst []), z7, z8, z9]) rfl (by
        simp [de]
        rw [show forGo _ _ _ _ = _ from lp]
        simp)]
    · rw [if_neg z]
      obtain ⟨w7, w9, up⟩ := upd_loop (n := n) k (.val (msD q L)) x1 x3 x4 (.val (.lst (F.map prD))) z8 F P z7 z9 hP fun f hf => by have := fi f hf; omega
      obtain ⟨y5, y6, y7, y8, y9, ih⟩ := round_loop q hn hL h x1 x3 x4 m (k + 1) (fz P k F) (.val (.int (k : Nat))) (.val (.lst (F.map prD))) w7 z8 w9 (by rw [fz_len, hP])
      refine ⟨y5, y6, y7, y8, y9, ?_⟩
      have lF : (F.map prD).length = F.length := by simp
      have nz : ¬ F.length = 0 := fun e => z (List.length_eq_zero_iff.mp e)
      generalize msD q L = MS at *
      generalize enumL 0 (L.map (rwD q)) = EL at *
      generalize P.map prD = PP at *
      generalize F.map prD = FF at *
      rw [forGo_go (e1 := [.val MS, x1, .own (.lst PP), x3, x4, .val (.int (k : Nat)), x6, x7, x8, x9]) (e2 := [.val MS, x1, .own (.lst ((fz P k F).map prD)), x3, x4, .val (.int (k : Nat)), .val (.lst FF), w7, z8, w9]) rfl (.inl (by
        simp [de]
        rw [show forGo _ _ _ _ = _ from lp]
        simp [lF, z, Own.shared]
        rw [show forGo _ _ _ _ = _ from up])), ih]
def plan0 (n : Nat) (gs : List Int) : List (Int × Int) := setG (List.replicate n (-1, -1)) gs
def planOf (L : List (List Mv)) (gs : List Int) : List (Int × Int) := rnd L (plan0 L.length gs) 1 (L.length - 1)
theorem forced_ok (q : Bool) {n many : Nat} {L : List (List Mv)} (h : okMs n many L) {gs : List Int} (hg : okT n gs) : f_forced_plan [msD q L, .lst (gs.map .int)] = .ok (.val (.tup ((planOf L gs).map prD))) := by
  obtain ⟨h1, h2, h3, h4, h5⟩ := h
  have hL : ∀ r ∈ L, ∀ m ∈ r, okT n m.1 := fun r hr => (h5 r hr).2
  obtain ⟨y4, gl⟩ := goal_loop (n := n) (.val (msD q L)) (.val (.lst (gs.map .int))) .un .un .un .un .un .un gs (List.replicate n (-1, -1)) .un (by simp) hg.2
  obtain ⟨y5, y6, y7, y8, y9, rl⟩ := round_loop q h3 h1 hL (.val (.lst (gs.map .int))) .un y4 (n - 1) 1 (plan0 n gs) .un .un .un .un .un (by unfold plan0; rw [setG_len]; simp)
  have rg : dRange2 [.int 1, .int (n : Nat)] = .ok ((List.range' 1 (n - 1)).map fun i : Nat => .int (i : Int)) := by
    rw [dRange2_i (by decide) (by unfold smallI; omega)]
    refine congrArg Out.ok ?_
    unfold rangeL
    rw [show ((n : Int) - 1).toNat = n - 1 by omega, List.range'_eq_map_range, List.map_map]
    refine List.map_congr_left fun i _ => ?_
    show D.int (1 + (i : Int)) = .int ((1 + i : Nat) : Int)
    exact congrArg D.int (by omega)
  have l0 : dLen [msD q L] = .ok (.int (n : Nat)) := by unfold msD; rw [dLen_q]; simp [h1]
  have q1 : ∀ x1 x2 x3 x4 x5 x6 x7 x8 x9, (fComp [3] (iSeq (eVar 0)) (gName 3) tTrue (eTup (aCons (eOp1 dNeg (eC (.int 1))) (aCons (eOp1 dNeg (eC (.int 1))) aNil)))) [.val (msD q L), x1, x2, x3, x4, x5, x6, x7, x8, x9] = .ok (.lst ((List.replicate n (-1, -1)).map prD)) := by
    intro x1 x2 x3 x4 x5 x6 x7 x8 x9
    have it : (iSeq (eVar 0)) [.val (msD q L), x1, x2, x3, x4, x5, x6, x7, x8, x9] = .ok (L.map (rwD q)) := iSeq_q (q := q) (by simp [msD])
    have w : wipeE [.val (msD q L), x1, x2, x3, x4, x5, x6, x7, x8, x9] [3] = [.val (msD q L), x1, x2, .un, x4, x5, x6, x7, x8, x9] := rfl
    rw [fComp_a, w, it]
    simp only [Out.bind_ok]
    rw [lc_map (g := gName 3) (fun _ => prD (-1, -1)) (L.map (rwD q)) (fun d hd => ⟨_, rfl, by simp [sized, line_v, prD]⟩) (by simp; omega)]
    simp only [Out.bind_ok]
    refine congrArg (fun l => Out.ok (Own.lst l)) ?_
    rw [List.map_map, List.map_replicate]
    refine List.eq_replicate_iff.mpr ⟨by simp [h1], fun d hd => ?_⟩
    obtain ⟨_, _, rfl⟩ := List.mem_map.mp hd
    rfl
  have pe : planOf L gs = rnd L (plan0 n gs) 1 (n - 1) := by unfold planOf; rw [h1]
  have p0 : setG (List.replicate n (-1, -1)) gs = plan0 n gs := rfl
  rw [p0] at gl
  rw [f_forced_plan, fn_2, pe]
  generalize msD q L = MS at *
  generalize gs.map D.int = GS at *
  generalize (List.replicate n ((-1 : Int), (-1 : Int))).map prD = R0 at *
  generalize (plan0 n gs).map prD = P0 at *
  generalize ((List.range' 1 (n - 1)).map fun i : Nat => D.int (i : Int)) = RG at *
  simp [startE, List.replicate, q1, gl, l0, rg, -fComp_a]
  rw [show forGo _ _ _ _ = _ from rl]
  simp
end Lw
namespace Lw
open M
/-! ### the forced plan is the least -/
/-- all targets come by rank b -/
def lowE (P : List (Int × Int)) (b : Int) (m : Mv) : Prop := m.2 = false ∧ m.1 ≠ [] ∧ ∀ t ∈ m.1, 0 ≤ rk P t ∧ rk P t ≤ b
theorem okE_iff {P : List (Int × Int)} {m : Mv} : okE P m = true ↔ m.2 = false ∧ m.1 ≠ [] ∧ ∀ t ∈ m.1, 0 ≤ rk P t := by
  unfold okE
  rw [Bool.and_eq_true, Bool.and_eq_true, List.all_eq_true]
  cases m.2 <;> cases m.1 <;> simp
def at2 (P : List (Int × Int)) (i : Nat) : Int × Int := P.getD i (-1, -1)
theorem rk_at (P : List (Int × Int)) (i : Nat) : rk P (i : Nat) = (at2 P i).1 := by unfold rk at2; rw [Int.toNat_natCast]
/-- where rounds below k are done -/
structure Inv (L : List (List Mv)) (gs : List Int) (P : List (Int × Int)) (k : Nat) : Prop where
  len : P.length = L.length
  goal : ∀ i, i < L.length → (i : Int) ∈ gs → at2 P i = (0, -1)
  rest : ∀ i, i < L.length → (i : Int) ∉ gs → at2 P i = (-1, -1) ∨ ∃ r e : Nat, at2 P i = ((r : Int), (e : Int)) ∧ 1 ≤ r ∧ r < k ∧ ∃ m, (L.getD i [])[e]? = some m ∧ lowE P ((r : Int) - 1) m ∧
    (∀ e' m', e' < e → (L.getD i [])[e']? = some m' → ¬ lowE P ((r : Int) - 1) m') ∧ ∀ m' ∈ L.getD i [], ¬ lowE P ((r : Int) - 2) m'
  open_ : ∀ i, i < L.length → (i : Int) ∉ gs → at2 P i = (-1, -1) → ∀ m' ∈ L.getD i [], ¬ lowE P ((k : Int) - 2) m'
theorem at2_set (P : List (Int × Int)) (j : Nat) (v : Int × Int) (i : Nat) (hj : j < P.length) : at2 (P.set j v) i = if i = j then v else at2 P i := by
  unfold at2
  rw [List.getD_eq_getElem?_getD, List.getElem?_set]
  by_cases h : j = i
  · subst h; simp [hj]
  · rw [if_neg h, if_neg fun z => h z.symm, ← List.getD_eq_getElem?_getD]
/-- one round, place by place -/
theorem fz_at {k n : Nat} : ∀ (F P : List (Int × Int)), P.length = n → (∀ f ∈ F, 0 ≤ f.1 ∧ f.1 < n) → F.Pairwise (fun a b => a.1 ≠ b.1) → ∀ i : Nat,
    ((∀ f ∈ F, f.1 ≠ i) → at2 (fz P k F) i = at2 P i) ∧ ∀ e, ((i : Int), e) ∈ F → at2 (fz P k F) i = ((k : Int), e)
  | [], P, _, _, _, i => ⟨fun _ => rfl, fun e h => by cases h⟩
  | f :: F, P, hP, h, hd, i => by
    have hd := List.pairwise_cons.mp hd
    obtain ⟨a, b⟩ := h f List.mem_cons_self
    obtain ⟨i1, i2⟩ := fz_at (k := k) (n := n) F (P.set f.1.toNat ((k : Int), f.2)) (by simp [hP]) (fun u hu => h u (List.mem_cons_of_mem _ hu)) hd.2 i
    have un : fz P k (f :: F) = fz (P.set f.1.toNat ((k : Int), f.2)) k F := rfl
    have st := at2_set P f.1.toNat ((k : Int), f.2) i (by omega)
    rw [un]
    refine ⟨fun hn => ?_, fun e he => ?_⟩
    · rw [i1 fun u hu => hn u (List.mem_cons_of_mem _ hu), st, if_neg]
      have := hn f List.mem_cons_self
      omega
    · rcases List.mem_cons.mp he with z | z
      · rw [i1 fun u hu => by rw [← show ((i : Int), e).1 = i from rfl, z]; exact fun y => hd.1 u hu y.symm, st, if_pos (by rw [← z]; simp)]
        rw [← z]
      · exact i2 e z
theorem fndK_mem (P : List (Int × Int)) : ∀ (k : Nat) (L : List (List Mv)) (i : Nat) (e : Int), (((k + i : Nat) : Int), e) ∈ fndK P k L ↔ i < L.length ∧ (at2 P (k + i)).1 < 0 ∧ ∃ ev : Nat, fev P (L.getD i []) = some ev ∧ (ev : Int) = e
  | k, [], i, e => by simp [fndK]
  | k, r :: L, i, e => by
    unfold fndK
    rw [List.mem_append, List.length_cons]
    cases i with
    | zero =>
      have no : ¬ (((k + 0 : Nat) : Int), e) ∈ fndK P (k + 1) L := fun h => by
        have := fndK_in P (k + 1) L _ h
        simp at this; omega
      rw [Nat.add_zero, rk_at]
      by_cases z : (at2 P k).1 < 0
      · rw [if_pos z]
        cases w : fev P r with
        | none => simp [w]; exact no
        | some ev =>
          simp [w]
          constructor
          · rintro (y | y)
            · exact ⟨z, y.symm⟩
            · exact absurd y no
          · rintro ⟨_, y⟩; exact .inl y.symm
      · rw [if_neg z]
        simp [z]
        exact no
    | succ i =>
      have ih := fndK_mem P (k + 1) L i e
      rw [show k + 1 + i = k + (i + 1) by omega] at ih
      rw [ih]
      have no : ¬ (((k + (i + 1) : Nat) : Int), e) ∈ (if rk P (k : Nat) < 0 then (match fev P r with | some e => [((k : Int), (e : Int))] | none => []) else []) := fun h => by
        split at h
        · split at h
          · have := List.mem_singleton.mp h
            injection this with h1 _
            omega
          · cases h
        · cases h
      constructor
      · rintro (y | y)
        · exact absurd y no
        · exact ⟨by omega, by simpa using y.2⟩
      · rintro ⟨y1, y2⟩
        exact .inr ⟨by omega, by simpa using y2⟩
theorem fndK_nd (P : List (Int × Int)) : ∀ (k : Nat) (L : List (List Mv)), (fndK P k L).Pairwise (fun a b => a.1 ≠ b.1)
  | _, [] => List.Pairwise.nil
  | k, r :: L => by
    have ih := fndK_nd P (k + 1) L
    unfold fndK
    refine List.pairwise_append.mpr ⟨?_, ih, fun a ha b hb e => ?_⟩
    · split
      · split <;> simp
      · simp
    · have hb := fndK_in P (k + 1) L b hb
      split at ha
      · split at ha
        · rw [List.mem_singleton.mp ha] at e
          simp at e
          omega
        · cases ha
      · cases ha
theorem lowE_mono {P : List (Int × Int)} {b b' : Int} {m : Mv} (h : b ≤ b') (x : lowE P b m) : lowE P b' m := ⟨x.1, x.2.1, fun t ht => ⟨(x.2.2 t ht).1, by have := (x.2.2 t ht).2; omega⟩⟩
/-- ranks that stand below k say the same -/
theorem lowE_stay {P P' : List (Int × Int)} {n k : Nat} {b : Int} (hb : b ≤ (k : Int) - 1) (h : ∀ i, i < n → at2 P' i = at2 P i ∨ ((at2 P i).1 < 0 ∧ (at2 P' i).1 = k)) {m : Mv} (hm : okT n m.1) : lowE P' b m ↔ lowE P b m := by
  have key : ∀ t ∈ m.1, (0 ≤ rk P' t ∧ rk P' t ≤ b) ↔ (0 ≤ rk P t ∧ rk P t ≤ b) := by
    intro t ht
    obtain ⟨a, c⟩ := hm.2 t ht
    obtain ⟨i, rfl⟩ : ∃ i : Nat, t = i := ⟨t.toNat, by omega⟩
    rw [rk_at, rk_at]
    rcases h i (by omega) with e | ⟨e1, e2⟩
    · rw [e]
    · rw [e2]; omega
  unfold lowE
  constructor
  · rintro ⟨h1, h2, h3⟩; exact ⟨h1, h2, fun t ht => (key t ht).mp (h3 t ht)⟩
  · rintro ⟨h1, h2, h3⟩; exact ⟨h1, h2, fun t ht => (key t ht).mpr (h3 t ht)⟩
theorem Inv_rk {L : List (List Mv)} {gs : List Int} {P : List (Int × Int)} {k : Nat} (I : Inv L gs P k) (hk : 1 ≤ k) (i : Nat) (hi : i < L.length) : (at2 P i).1 ≤ (k : Int) - 1 := by
  by_cases g : (i : Int) ∈ gs
  · rw [I.goal i hi g]; show (0 : Int) ≤ _; omega
  · rcases I.rest i hi g with e | ⟨r, e, h, _, h2, _⟩
    · rw [e]; show (-1 : Int) ≤ _; omega
    · rw [h]; show (r : Int) ≤ _; omega
theorem okE_low {L : List (List Mv)} {gs : List Int} {P : List (Int × Int)} {k : Nat} (I : Inv L gs P k) (hk : 1 ≤ k) {m : Mv} (hm : okT L.length m.1) : okE P m = true ↔ lowE P ((k : Int) - 1) m := by
  rw [okE_iff]
  unfold lowE
  constructor
  · rintro ⟨h1, h2, h3⟩
    refine ⟨h1, h2, fun t ht => ⟨h3 t ht, ?_⟩⟩
    obtain ⟨a, c⟩ := hm.2 t ht
    obtain ⟨i, rfl⟩ : ∃ i : Nat, t = i := ⟨t.toNat, by omega⟩
    rw [rk_at]; exact Inv_rk I hk i (by omega)
  · rintro ⟨h1, h2, h3⟩; exact ⟨h1, h2, fun t ht => (h3 t ht).1⟩
theorem fev_some {P : List (Int × Int)} {r : List Mv} {e : Nat} (h : fev P r = some e) : ∃ m, r[e]? = some m ∧ okE P m = true ∧ ∀ e' m', e' < e → r[e']? = some m' → okE P m' = false := by
  unfold fev at h
  obtain ⟨he, h1, h2⟩ := List.findIdx?_eq_some_iff_getElem.mp h
  refine ⟨r[e], List.getElem?_eq_getElem he, h1, fun e' m' h3 h4 => ?_⟩
  have l : e' < r.length := by omega
  rw [List.getElem?_eq_getElem l] at h4
  cases h4
  have := h2 e' h3
  simpa using this
theorem fev_none {P : List (Int × Int)} {r : List Mv} (h : fev P r = none) : ∀ m ∈ r, okE P m = false := by
  unfold fev at h
  rw [List.findIdx?_eq_none_iff] at h
  exact fun m hm => by simpa using h m hm
theorem Inv_step {L : List (List Mv)} {gs : List Int} {P : List (Int × Int)} {k : Nat} (ok : ∀ r ∈ L, ∀ m ∈ r, okT L.length m.1) (I : Inv L gs P k) (hk : 1 ≤ k) : Inv L gs (fz P k (fndK P 0 L)) (k + 1) ∧
    ∀ i, i < L.length → at2 (fz P k (fndK P 0 L)) i = at2 P i ∨ ((at2 P i).1 < 0 ∧ (at2 (fz P k (fndK P 0 L)) i).1 = k) := by
  have fi := fndK_in P 0 L
  have fa := fz_at (k := k) (n := L.length) (fndK P 0 L) P I.len (fun f hf => by have := fi f hf; omega) (fndK_nd P 0 L)
  have fm := fndK_mem P 0 L
  generalize hF : fndK P 0 L = F at *
  have okr : ∀ i, ∀ m ∈ L.getD i [], okT L.length m.1 := fun i m hm => by
    by_cases h : i < L.length
    · have e : L.getD i [] ∈ L := by rw [List.getD_eq_getElem?_getD, List.getElem?_eq_getElem h]; exact List.getElem_mem _
      exact ok _ e m hm
    · rw [List.getD_eq_getElem?_getD, List.getElem?_eq_none (by omega)] at hm; cases hm
  -- what becomes of each place
  have cs : ∀ i, i < L.length → (∃ e : Nat, (at2 P i).1 < 0 ∧ fev P (L.getD i []) = some e ∧ at2 (fz P k F) i = ((k : Int), (e : Int))) ∨ (at2 (fz P k F) i = at2 P i ∧ ((at2 P i).1 < 0 → fev P (L.getD i []) = none)) := by
    intro i hi
    by_cases z : (at2 P i).1 < 0
    · cases w : fev P (L.getD i []) with
      | some e =>
        have m := (fm i e).mpr ⟨hi, by simpa using z, e, w, rfl⟩
        rw [Nat.zero_add] at m
        exact .inl ⟨e, z, rfl, (fa i).2 e m⟩
      | none =>
        refine .inr ⟨(fa i).1 fun f hf e => ?_, fun _ => rfl⟩
        have m := (fm i f.2).mp (by rw [Nat.zero_add, ← e]; exact hf)
        obtain ⟨_, _, ev, h1, _⟩ := m
        rw [w] at h1; cases h1
    · refine .inr ⟨(fa i).1 fun f hf e => ?_, fun y => absurd y z⟩
      have m := (fm i f.2).mp (by rw [Nat.zero_add, ← e]; exact hf)
      exact z (by simpa using m.2.1)
  have stay : ∀ i, i < L.length → at2 (fz P k F) i = at2 P i ∨ ((at2 P i).1 < 0 ∧ (at2 (fz P k F) i).1 = k) := fun i hi => by
    rcases cs i hi with ⟨e, h1, _, h2⟩ | ⟨h, _⟩
    · exact .inr ⟨h1, by rw [h2]⟩
    · exact .inl h
  have lw : ∀ {b : Int} {m : Mv} (i : Nat), b ≤ (k : Int) - 1 → m ∈ L.getD i [] → (lowE (fz P k F) b m ↔ lowE P b m) := fun i hb hm => lowE_stay hb stay (okr i _ hm)
  have memG : ∀ {i e : Nat} {m : Mv}, (L.getD i [])[e]? = some m → m ∈ L.getD i [] := fun h => List.mem_of_getElem? h
  refine ⟨⟨by rw [fz_len]; exact I.len, fun i hi g => ?_, fun i hi g => ?_, fun i hi g hn m' hm' => ?_⟩, stay⟩
  · rcases cs i hi with ⟨e, h1, _, _⟩ | ⟨h, _⟩
    · rw [I.goal i hi g] at h1; exact absurd h1 (by decide)
    · rw [h]; exact I.goal i hi g
  · rcases cs i hi with ⟨e, h1, h2, h3⟩ | ⟨h, h'⟩
    · refine .inr ⟨k, e, h3, hk, Nat.lt_succ_self k, ?_⟩
      obtain ⟨m, m1, m2, m3⟩ := fev_some h2
      have un : at2 P i = (-1, -1) := by
        rcases I.rest i hi g with y | ⟨r, e', y, _⟩
        · exact y
        · rw [y] at h1; exact absurd h1 (by show ¬ ((r : Nat) : Int) < 0; omega)
      refine ⟨m, m1, (lw i (Int.le_refl _) (memG m1)).mpr ((okE_low I hk (okr i m (memG m1))).mp m2), fun e' m' he hm' x => ?_, fun m' hm' x => ?_⟩
      · have := m3 e' m' he hm'
        rw [(okE_low I hk (okr i m' (memG hm'))).mpr ((lw i (Int.le_refl _) (memG hm')).mp x)] at this
        cases this
      · exact I.open_ i hi g un m' hm' ((lw i (by omega) hm').mp x)
    · rcases I.rest i hi g with y | ⟨r, e, y, y1, y2, m, m1, m2, m3, m4⟩
      · exact .inl (by rw [h, y])
      · refine .inr ⟨r, e, by rw [h, y], y1, by omega, m, m1, (lw i (by omega) (memG m1)).mpr m2, fun e' m' he hm' x => m3 e' m' he hm' ((lw i (by omega) (memG hm')).mp x), fun m' hm' x => m4 m' hm' ((lw i (by omega) hm').mp x)⟩
  · rcases cs i hi with ⟨e, _, _, h3⟩ | ⟨h, h'⟩
    · rw [h3] at hn; injection hn with hn _; omega
    · rw [h] at hn
      have no := fev_none (h' (by rw [hn]; decide)) m' hm'
      intro x
      rw [show ((k + 1 : Nat) : Int) - 2 = (k : Int) - 1 by omega] at x
      rw [(okE_low I hk (okr i m' hm')).mpr ((lw i (Int.le_refl _) hm').mp x)] at no
      cases no
end Lw
namespace Lw
open M
/-! ### what the plan is in the end -/
theorem plan0_at {n : Nat} : ∀ (gs : List Int) (P : List (Int × Int)), P.length = n → (∀ g ∈ gs, 0 ≤ g ∧ g < n) → ∀ i, i < n → at2 (setG P gs) i = if (i : Int) ∈ gs then (0, -1) else at2 P i
  | [], P, _, _, i, _ => by simp [setG]
  | g :: gs, P, hP, h, i, hi => by
    obtain ⟨a, b⟩ := h g List.mem_cons_self
    have ih := plan0_at gs (P.set g.toNat (0, -1)) (by simp [hP]) (fun u hu => h u (List.mem_cons_of_mem _ hu)) i hi
    rw [show setG P (g :: gs) = setG (P.set g.toNat (0, -1)) gs from rfl, ih, at2_set P _ _ _ (by omega)]
    by_cases z : (i : Int) ∈ gs
    · rw [if_pos z, if_pos (List.mem_cons_of_mem _ z)]
    · rw [if_neg z]
      by_cases y : (i : Int) = g
      · rw [if_pos (by omega), if_pos (by rw [y]; exact List.mem_cons_self)]
      · rw [if_neg (by omega), if_neg]
        intro w
        rcases List.mem_cons.mp w with e | e
        · exact y e
        · exact z e
theorem at2_rep (n i : Nat) : at2 (List.replicate n (-1, -1)) i = (-1, -1) := by
  unfold at2
  rw [List.getD_eq_getElem?_getD, List.getElem?_replicate]
  split <;> rfl
theorem Inv_base {L : List (List Mv)} {gs : List Int} (hg : ∀ g ∈ gs, 0 ≤ g ∧ g < L.length) : Inv L gs (plan0 L.length gs) 1 := by
  have pa := plan0_at (n := L.length) gs (List.replicate L.length (-1, -1)) (by simp) hg
  refine ⟨by unfold plan0; rw [setG_len]; simp, fun i hi g => ?_, fun i hi g => .inl ?_, fun i hi g hn m' hm' x => ?_⟩
  · rw [show plan0 L.length gs = setG _ gs from rfl, pa i hi, if_pos g]
  · rw [show plan0 L.length gs = setG _ gs from rfl, pa i hi, if_neg g, at2_rep]
  · obtain ⟨_, h2, h3⟩ := x
    cases e : m'.1 with
    | nil => exact h2 e
    | cons t ts =>
      have := h3 t (by rw [e]; exact List.mem_cons_self)
      omega
def cnt (P : List (Int × Int)) : Nat := P.countP fun p => decide (p.1 < 0)
theorem at2_s (p : Int × Int) (P : List (Int × Int)) (i : Nat) : at2 (p :: P) (i + 1) = at2 P i := by unfold at2; rw [List.getD_cons_succ]
theorem at2_0 (p : Int × Int) (P : List (Int × Int)) : at2 (p :: P) 0 = p := rfl
theorem cnt_le : ∀ (P P' : List (Int × Int)), P.length = P'.length → (∀ i, i < P.length → (at2 P' i).1 < 0 → (at2 P i).1 < 0) → cnt P' ≤ cnt P
  | [], [], _, _ => Nat.le_refl _
  | [], _ :: _, h, _ => by cases h
  | _ :: _, [], h, _ => by cases h
  | p :: P, p' :: P', hl, h => by
    have ih := cnt_le P P' (by simpa using hl) fun i hi z => by
      have := h (i + 1) (by simp; omega)
      rw [at2_s, at2_s] at this
      exact this z
    have h0 := h 0 (by simp)
    rw [at2_0, at2_0] at h0
    unfold cnt at *
    rw [List.countP_cons, List.countP_cons]
    by_cases z : p'.1 < 0
    · simp [z, h0 z]; omega
    · simp [z]; omega
theorem cnt_lt : ∀ (P P' : List (Int × Int)), P.length = P'.length → (∀ i, i < P.length → (at2 P' i).1 < 0 → (at2 P i).1 < 0) → (∃ i, i < P.length ∧ (at2 P i).1 < 0 ∧ ¬ (at2 P' i).1 < 0) → cnt P' < cnt P
  | [], [], _, _, h => by obtain ⟨i, h, _⟩ := h; cases h
  | [], _ :: _, h, _, _ => by cases h
  | _ :: _, [], h, _, _ => by cases h
  | p :: P, p' :: P', hl, h, hx => by
    have h' : ∀ i, i < P.length → (at2 P' i).1 < 0 → (at2 P i).1 < 0 := fun i hi z => by
      have := h (i + 1) (by simp; omega)
      rw [at2_s, at2_s] at this
      exact this z
    have h0 := h 0 (by simp)
    rw [at2_0, at2_0] at h0
    obtain ⟨i, hi, x1, x2⟩ := hx
    cases i with
    | zero =>
      rw [at2_0] at x1 x2
      have le := cnt_le P P' (by simpa using hl) h'
      unfold cnt at *
      rw [List.countP_cons, List.countP_cons]
      simp [x1, x2]; omega
    | succ i =>
      rw [at2_s] at x1 x2
      have lt := cnt_lt P P' (by simpa using hl) h' ⟨i, by simpa using hi, x1, x2⟩
      unfold cnt at *
      rw [List.countP_cons, List.countP_cons]
      by_cases z : p'.1 < 0
      · simp [z, h0 z]; omega
      · simp [z]; omega
theorem cnt_0 {P : List (Int × Int)} (h : cnt P = 0) (i : Nat) (hi : i < P.length) : ¬ (at2 P i).1 < 0 := by
  unfold cnt at h
  rw [List.countP_eq_zero] at h
  have e : at2 P i = P[i] := by unfold at2; rw [List.getD_eq_getElem?_getD, List.getElem?_eq_getElem hi]; rfl
  rw [e]
  simpa using h P[i] (List.getElem_mem hi)
/-- nothing more is forced -/
def shut (L : List (List Mv)) (P : List (Int × Int)) : Prop := ∀ i, i < L.length → (at2 P i).1 < 0 → ∀ m ∈ L.getD i [], okE P m = false
theorem okr_of {L : List (List Mv)} (ok : ∀ r ∈ L, ∀ m ∈ r, okT L.length m.1) : ∀ i, ∀ m ∈ L.getD i [], okT L.length m.1 := fun i m hm => by
  by_cases h : i < L.length
  · have e : L.getD i [] ∈ L := by rw [List.getD_eq_getElem?_getD, List.getElem?_eq_getElem h]; exact List.getElem_mem _
    exact ok _ e m hm
  · rw [List.getD_eq_getElem?_getD, List.getElem?_eq_none (by omega)] at hm; cases hm
theorem none_ok {L : List (List Mv)} {P : List (Int × Int)} (h : ∀ i, i < L.length → (at2 P i).1 < 0) {m : Mv} (hm : okT L.length m.1) : okE P m = false := by
  cases z : okE P m with
  | false => rfl
  | true =>
    obtain ⟨_, h2, h3⟩ := okE_iff.mp z
    cases e : m.1 with
    | nil => exact absurd e h2
    | cons t ts =>
      have tm : t ∈ m.1 := by rw [e]; exact List.mem_cons_self
      obtain ⟨a, b⟩ := hm.2 t tm
      have := h3 t tm
      obtain ⟨i, rfl⟩ : ∃ i : Nat, t = i := ⟨t.toNat, by omega⟩
      rw [rk_at] at this
      have := h i (by omega)
      omega
theorem rnd_ok {L : List (List Mv)} {gs : List Int} (ok : ∀ r ∈ L, ∀ m ∈ r, okT L.length m.1) : ∀ (m k : Nat) (P : List (Int × Int)), 1 ≤ k → Inv L gs P k → (cnt P ≤ m ∨ ∀ i, i < L.length → (at2 P i).1 < 0) → ∃ k', Inv L gs (rnd L P k m) k' ∧ shut L (rnd L P k m)
  | 0, k, P, hk, I, h => ⟨k, I, fun i hi z m hm => by
    rcases h with h | h
    · exact absurd z (cnt_0 (P := rnd L P k 0) (Nat.le_zero.mp h) i (by show i < P.length; rw [I.len]; exact hi))
    · exact none_ok h (okr_of ok i m hm)⟩
  | m + 1, k, P, hk, I, h => by
    have un : rnd L P k (m + 1) = if fndK P 0 L = [] then P else rnd L (fz P k (fndK P 0 L)) (k + 1) m := rfl
    rw [un]
    by_cases z : fndK P 0 L = []
    · rw [if_pos z]
      refine ⟨k, I, fun i hi hn => fev_none ?_⟩
      cases w : fev P (L.getD i []) with
      | none => rfl
      | some e =>
        have := (fndK_mem P 0 L i e).mpr ⟨hi, by simpa using hn, e, w, rfl⟩
        rw [z] at this; cases this
    · rw [if_neg z]
      obtain ⟨I', st⟩ := Inv_step ok I hk
      refine rnd_ok ok m (k + 1) _ (by omega) I' (.inl ?_)
      obtain ⟨f, hf⟩ := List.exists_mem_of_ne_nil _ z
      obtain ⟨fa, fb⟩ := fndK_in P 0 L f hf
      obtain ⟨i, hi⟩ : ∃ i : Nat, f.1 = i := ⟨f.1.toNat, by omega⟩
      have fm := (fndK_mem P 0 L i f.2).mp (by rw [Nat.zero_add, ← hi]; exact hf)
      rw [Nat.zero_add] at fm
      obtain ⟨f1, f2, ev, f3, f4⟩ := fm
      have new : at2 (fz P k (fndK P 0 L)) i = ((k : Int), f.2) := (fz_at (k := k) (n := L.length) (fndK P 0 L) P I.len (fun f hf => by have := fndK_in P 0 L f hf; omega) (fndK_nd P 0 L) i).2 f.2 (by rw [← hi]; exact hf)
      rcases h with h | h
      · have := cnt_lt P (fz P k (fndK P 0 L)) (by rw [fz_len]) (fun j hj y => by
          rcases st j (by rw [← I.len]; exact hj) with e | e
          · rw [e] at y; exact y
          · exact e.1) ⟨i, by rw [I.len]; exact f1, f2, by rw [new]; show ¬ ((k : Nat) : Int) < 0; omega⟩
        omega
      · exfalso
        obtain ⟨mv, m1, m2, _⟩ := fev_some f3
        rw [none_ok h (okr_of ok i mv (List.mem_of_getElem? m1))] at m2
        cases m2
/-- the plan in the end -/
structure Fin (L : List (List Mv)) (gs : List Int) (P : List (Int × Int)) : Prop where
  len : P.length = L.length
  goal : ∀ i, i < L.length → (i : Int) ∈ gs → at2 P i = (0, -1)
  rest : ∀ i, i < L.length → (i : Int) ∉ gs → (at2 P i = (-1, -1) ∧ ∀ m ∈ L.getD i [], okE P m = false) ∨ ∃ r e : Nat, at2 P i = ((r : Int), (e : Int)) ∧ 1 ≤ r ∧ ∃ m, (L.getD i [])[e]? = some m ∧ lowE P ((r : Int) - 1) m ∧
    (∀ e' m', e' < e → (L.getD i [])[e']? = some m' → ¬ lowE P ((r : Int) - 1) m') ∧ ∀ m' ∈ L.getD i [], ¬ lowE P ((r : Int) - 2) m'
theorem plan_fin {L : List (List Mv)} {gs : List Int} (ok : ∀ r ∈ L, ∀ m ∈ r, okT L.length m.1) (hg : ∀ g ∈ gs, 0 ≤ g ∧ g < L.length) : Fin L gs (planOf L gs) := by
  have I := Inv_base hg
  have c : cnt (plan0 L.length gs) ≤ L.length - 1 ∨ ∀ i, i < L.length → (at2 (plan0 L.length gs) i).1 < 0 := by
    cases e : gs with
    | nil =>
      refine .inr fun i hi => ?_
      show (at2 (List.replicate L.length (-1, -1)) i).1 < 0
      rw [at2_rep]; decide
    | cons g r =>
      refine .inl ?_
      rw [← e]
      obtain ⟨a, b⟩ := hg g (by rw [e]; exact List.mem_cons_self)
      have lt := cnt_lt (List.replicate L.length (-1, -1)) (plan0 L.length gs) (by rw [I.len]; simp) (fun i hi _ => by rw [at2_rep]; decide) ⟨g.toNat, by simp; omega, by rw [at2_rep]; decide, by
        rw [I.goal g.toNat (by omega) (by rw [Int.toNat_of_nonneg a, e]; exact List.mem_cons_self)]; decide⟩
      have : cnt (List.replicate L.length ((-1 : Int), (-1 : Int))) ≤ L.length := by
        unfold cnt
        have := List.countP_le_length (p := fun p : Int × Int => decide (p.1 < 0)) (l := List.replicate L.length ((-1 : Int), (-1 : Int)))
        simpa using this
      omega
  obtain ⟨k', J, sh⟩ := rnd_ok ok (L.length - 1) 1 _ (Nat.le_refl 1) I c
  refine ⟨J.len, J.goal, fun i hi g => ?_⟩
  rcases J.rest i hi g with y | ⟨r, e, y, y1, _, y3⟩
  · exact .inl ⟨y, sh i hi (by rw [show rnd L (plan0 L.length gs) 1 (L.length - 1) = planOf L gs from rfl] at y; rw [show rnd L (plan0 L.length gs) 1 (L.length - 1) = planOf L gs from rfl, y]; decide)⟩
  · exact .inr ⟨r, e, y, y1, y3⟩
end Lw
namespace Lw
open M
/-! ### a plan judged -/
theorem getD_inn {α : Type} {l : List α} {k : Nat} {d : α} (h : k < l.length) : l.getD k d ∈ l := by
  rw [List.getD_eq_getElem?_getD, List.getElem?_eq_getElem h]; exact List.getElem_mem _
def rowT (P : List (Int × Int)) (r : Int) (m : Mv) : Bool := !m.2 && (!m.1.isEmpty && m.1.all fun t => decide (0 ≤ rk P t ∧ rk P t < r))
def pairB (L : List (List Mv)) (gs : List Int) (P : List (Int × Int)) (i : Nat) : Bool :=
  if (i : Int) ∈ gs then decide (at2 P i = (0, -1)) else
  if at2 P i = (-1, -1) then true else
  if (at2 P i).1 < 1 ∨ ¬ (0 ≤ (at2 P i).2 ∧ (at2 P i).2 < (L.getD i []).length) then false else rowT P (at2 P i).1 ((L.getD i []).getD (at2 P i).2.toNat ([], false))
def planB (L : List (List Mv)) (gs : List Int) (st : Int) (P : List (Int × Int)) : Bool :=
  if P.length = L.length ∧ 0 ≤ st ∧ st < L.length then ((List.range L.length).all (pairB L gs P)) && decide (rk P st ≠ -1) else false
theorem aft_body (qP : Bool) {n : Nat} {P : List (Int × Int)} (hP : P.length = n) {t : Int} (a : 0 ≤ t) (b : t < n) : dIx (plD qP P) (.int t) = .ok (prD (P.getD t.toNat (-1, -1))) := dIx_qi (q := qP) (f := prD) (-1, -1) a (by omega)
theorem pr_loop (qP : Bool) {n : Nat} {P : List (Int × Int)} (hP : P.length = n) (x0 x3 x4 x5 x6 : Sl) (r : Int) : ∀ (ts : List Int) (x7 : Sl), (∀ t ∈ ts, 0 ≤ t ∧ t < n) →
    ∃ y7, forGo (gName 7) (sIf (tNot (tVal (eChain dLe dLt (eC (.int 0)) (eOp2 dIx (eOp2 dIx (eVar 1) (eVar 7)) (eC (.int 0))) (eVar 2)))) (sRet (eC (.bl false))) sNext) (ts.map .int) [x0, .val (plD qP P), .val (.int r), x3, x4, x5, x6, x7] = if (ts.all fun t => decide (0 ≤ rk P t ∧ rk P t < r)) = true then .next [x0, .val (plD qP P), .val (.int r), x3, x4, x5, x6, y7] else .ret (.val (.bl false))
  | [], x7, _ => ⟨x7, by simp⟩
  | t :: ts, x7, h => by
    obtain ⟨a, b⟩ := h t List.mem_cons_self
    obtain ⟨y7, ih⟩ := pr_loop qP hP x0 x3 x4 x5 x6 r ts (.val (.int t)) fun u hu => h u (List.mem_cons_of_mem _ hu)
    have ix := aft_body qP hP a b
    have e : rk P t = (P.getD t.toNat (-1, -1)).1 := rfl
    refine ⟨y7, ?_⟩
    rw [List.map_cons, List.all_cons, e]
    generalize P.getD t.toNat (-1, -1) = p at *
    generalize plD qP P = PP at *
    by_cases z0 : 0 ≤ p.1
    · by_cases z1 : p.1 < r
      · rw [forGo_go (e1 := [x0, .val PP, .val (.int r), x3, x4, x5, x6, .val (.int t)]) (e2 := [x0, .val PP, .val (.int r), x3, x4, x5, x6, .val (.int t)]) rfl (.inl (by simp [ix, z0, z1])), ih]
        simp [z0, z1]
      · rw [forGo_ret (e1 := [x0, .val PP, .val (.int r), x3, x4, x5, x6, .val (.int t)]) (r := .val (.bl false)) rfl (by simp [ix, z0, z1])]
        simp [z1]
    · rw [forGo_ret (e1 := [x0, .val PP, .val (.int r), x3, x4, x5, x6, .val (.int t)]) (r := .val (.bl false)) rfl (by simp [ix, z0])]
      simp [z0]
theorem mv_at (q : Bool) {L : List (List Mv)} {i : Nat} (hi : i < L.length) : dIx (msD q L) (.int (i : Nat)) = .ok (rwD q (L.getD i [])) := dIx_q (q := q) (f := rwD q) [] hi
theorem ev_at (q : Bool) {r : List Mv} {e : Int} (h0 : 0 ≤ e) (h : e < r.length) : dIx (rwD q r) (.int e) = .ok (mvD q (r.getD e.toNat ([], false))) := dIx_qi (q := q) (f := mvD q) ([], false) h0 h
theorem lenR (q : Bool) (r : List Mv) : dLen [rwD q r] = .ok (.int r.length) := by unfold rwD; rw [dLen_q]; simp
theorem lenM (q : Bool) (L : List (List Mv)) : dLen [msD q L] = .ok (.int L.length) := by unfold msD; rw [dLen_q]; simp
theorem lenP (q : Bool) (P : List (Int × Int)) : dLen [plD q P] = .ok (.int P.length) := by unfold plD; rw [dLen_q]; simp
def jB (L : List (List Mv)) (P : List (Int × Int)) (i : Nat) (p : Int × Int) : Bool :=
  if p = (-1, -1) then true else if p.1 < 1 ∨ ¬ (0 ≤ p.2 ∧ p.2 < (L.getD i []).length) then false else rowT P p.1 ((L.getD i []).getD p.2.toNat ([], false))
theorem pair_ok (q qP : Bool) {n : Nat} {L : List (List Mv)} (hL : L.length = n) (ok : ∀ i, ∀ m ∈ L.getD i [], okT n m.1) {P : List (Int × Int)} (hP : P.length = n) (i : Nat) (hi : i < n) (p : Int × Int) :
    f_pair_is_right [msD q L, plD qP P, .int p.1, .int p.2, .int (i : Nat)] = .ok (.val (.bl (jB L P i p))) := by
  have mi := mv_at q (L := L) (i := i) (by omega)
  have lr := lenR q (L.getD i [])
  have ip := is_place_ok p.2 (L.getD i []).length
  have okr := ok i
  unfold jB
  rw [f_pair_is_right, fn_5]
  obtain ⟨r, e⟩ := p
  have eqp : ((r, e) = ((-1, -1) : Int × Int)) ↔ (r = -1 ∧ e = -1) := by simp
  show _ = Out.ok (Sl.val (D.bl (if (r, e) = (-1, -1) then true else if r < 1 ∨ ¬ (0 ≤ e ∧ e < (L.getD i []).length) then false else rowT P r ((L.getD i []).getD e.toNat ([], false)))))
  by_cases z1 : r = -1 ∧ e = -1
  · rw [if_pos (eqp.mpr z1), z1.1, z1.2]
    simp [startE, List.replicate]
  · rw [if_neg fun y => z1 (eqp.mp y)]
    have t1 : ∀ env : Env, env = [.val (msD q L), .val (plD qP P), .val (.int r), .val (.int e), .val (.int (i : Nat)), .un, .un, .un] → (tAnd (tVal (eOp2 dEq (eVar 2) (eOp1 dNeg (eC (.int 1))))) (tVal (eOp2 dEq (eVar 3) (eOp1 dNeg (eC (.int 1)))))) env = .ok false := by
      intro env he
      subst he
      by_cases y : r = -1
      · have y2 : ¬ e = -1 := fun w => z1 ⟨y, w⟩
        simp [y, y2]
      · simp [y]
    have t1 := t1 _ rfl
    by_cases z2 : r < 1
    · rw [if_pos (.inl z2)]
      generalize msD q L = MS at *
      generalize plD qP P = PP at *
      simp [startE, List.replicate, t1, z2, -tAnd_a]
    · by_cases z3 : 0 ≤ e ∧ e < (L.getD i []).length
      · rw [if_neg (by rintro (y | y); exact z2 y; exact y z3)]
        have ei := ev_at q z3.1 z3.2
        have hm : (L.getD i []).getD e.toNat ([], false) ∈ L.getD i [] := by
          have l : e.toNat < (L.getD i []).length := by omega
          exact getD_inn l
        have okm := okr _ hm
        rw [decide_eq_true z3] at ip
        generalize (L.getD i []).getD e.toNat ([], false) = m at *
        have md : mvD q m = .tup [seqD q (m.1.map .int), .bl m.2] := rfl
        rw [md] at ei
        have l1 : dLen [seqD q (m.1.map D.int)] = .ok (.int m.1.length) := by rw [dLen_q]; simp
        obtain ⟨y7, lp⟩ := pr_loop qP hP (.val (msD q L)) (.val (.int e)) (.val (.int (i : Nat))) (.val (seqD q (m.1.map .int))) (.val (.bl m.2)) r m.1 .un okm.2
        have it : ∀ x0 x1 x2 x3 x4 x6 x7, (iSeq (eVar 5)) [x0, x1, x2, x3, x4, .val (seqD q (m.1.map .int)), x6, x7] = .ok (m.1.map .int) := fun _ _ _ _ _ _ _ => iSeq_q (q := q) (by simp)
        have emp : m.1.isEmpty = decide (m.1.length = 0) := by cases m.1 <;> simp
        unfold rowT
        rw [emp]
        generalize (m.1.all fun t => decide (0 ≤ rk P t ∧ rk P t < r)) = A at *
        generalize msD q L = MS at *
        generalize plD qP P = PP at *
        generalize rwD q (L.getD i []) = RW at *
        generalize seqD q (m.1.map D.int) = SD at *
        cases e2 : m.2 with
        | true =>
          rw [e2] at ei
          simp [startE, List.replicate, t1, z2, mi, lr, ip, ei, -tAnd_a, -List.getD_eq_getElem?_getD]
        | false =>
          rw [e2] at ei lp
          by_cases z4 : m.1.length = 0
          · simp [startE, List.replicate, t1, z2, mi, lr, ip, ei, l1, z4, -tAnd_a, -List.getD_eq_getElem?_getD]
          · have z5 : ¬ m.1 = [] := fun y => z4 (by rw [y]; rfl)
            cases A with
            | true => simp at lp; simp [startE, List.replicate, t1, z2, mi, lr, ip, ei, l1, z4, z5, it, lp, -tAnd_a, -iSeq_a, -List.getD_eq_getElem?_getD]
            | false => simp at lp; simp [startE, List.replicate, t1, z2, mi, lr, ip, ei, l1, z4, z5, it, lp, -tAnd_a, -iSeq_a, -List.getD_eq_getElem?_getD]
      · rw [if_pos (.inr z3)]
        rw [decide_eq_false z3] at ip
        generalize msD q L = MS at *
        generalize plD qP P = PP at *
        generalize rwD q (L.getD i []) = RW at *
        simp [startE, List.replicate, t1, z2, mi, lr, ip, -tAnd_a, -List.getD_eq_getElem?_getD]
end Lw
namespace Lw
open M
theorem pairB_j (L : List (List Mv)) (gs : List Int) (P : List (Int × Int)) (i : Nat) : pairB L gs P i = if (i : Int) ∈ gs then decide (at2 P i = (0, -1)) else jB L P i (at2 P i) := by
  unfold pairB jB
  rfl
/-- shows_plan's loop -/
theorem sp_loop (q qP : Bool) {n : Nat} {L : List (List Mv)} (hL : L.length = n) (ok : ∀ i, ∀ m ∈ L.getD i [], okT n m.1) (gs : List Int) {P : List (Int × Int)} (hP : P.length = n) (x2 : Sl) : ∀ (ps : List (Int × Int)) (k : Nat) (x4 x5 x6 : Sl), k + ps.length = n → (∀ j, j < ps.length → at2 P (k + j) = at2 ps j) →
    ∃ y4 y5 y6, forGo (gTup [(gName 4), (gTup [(gName 5), (gName 6)])]) (sIf (tVal (eOp2 dIn (eVar 4) (eVar 1))) (sIf (tOr (tVal (eOp2 dNe (eVar 5) (eC (.int 0)))) (tVal (eOp2 dNe (eVar 6) (eOp1 dNeg (eC (.int 1)))))) (sRet (eC (.bl false))) sNext) (sIf (tNot (tVal (eCall f_pair_is_right (aCons (eVar 0) (aCons (eVar 3) (aCons (eVar 5) (aCons (eVar 6) (aCons (eVar 4) aNil)))))))) (sRet (eC (.bl false))) sNext)) (enumL k (ps.map prD)) [.val (msD q L), .val (.lst (gs.map .int)), x2, .val (plD qP P), x4, x5, x6] = if ((List.range' k ps.length).all (pairB L gs P)) = true then .next [.val (msD q L), .val (.lst (gs.map .int)), x2, .val (plD qP P), y4, y5, y6] else .ret (.val (.bl false))
  | [], k, x4, x5, x6, _, _ => ⟨x4, x5, x6, by simp [enumL]⟩
  | p :: ps, k, x4, x5, x6, hk, h => by
    rw [List.length_cons] at hk
    have h0 : at2 P k = p := by have := h 0 (by simp); rw [Nat.add_zero, at2_0] at this; exact this
    obtain ⟨y4, y5, y6, ih⟩ := sp_loop q qP hL ok gs hP x2 ps (k + 1) (.val (.int (k : Nat))) (.val (.int p.1)) (.val (.int p.2)) (by omega) fun j hj => by
      have := h (j + 1) (by simp; omega)
      rw [at2_s, show k + (j + 1) = k + 1 + j by omega] at this; exact this
    have po := pair_ok q qP hL ok hP k (by omega) p
    have ig := dIn_ints (k : Int) gs
    refine ⟨y4, y5, y6, ?_⟩
    rw [List.map_cons, show enumL k (prD p :: ps.map prD) = .tup [.int (k : Nat), .tup [.int p.1, .int p.2]] :: enumL (k + 1) (ps.map prD) from rfl, List.length_cons, List.range'_succ, List.all_cons, pairB_j, h0]
    have tg : gTup [gName 4, gTup [gName 5, gName 6]] (.tup [.int (k : Nat), .tup [.int p.1, .int p.2]]) [.val (msD q L), .val (.lst (gs.map .int)), x2, .val (plD qP P), x4, x5, x6] = some [.val (msD q L), .val (.lst (gs.map .int)), x2, .val (plD qP P), .val (.int (k : Nat)), .val (.int p.1), .val (.int p.2)] := by simp
    have bd : (sIf (tVal (eOp2 dIn (eVar 4) (eVar 1))) (sIf (tOr (tVal (eOp2 dNe (eVar 5) (eC (.int 0)))) (tVal (eOp2 dNe (eVar 6) (eOp1 dNeg (eC (.int 1)))))) (sRet (eC (.bl false))) sNext) (sIf (tNot (tVal (eCall f_pair_is_right (aCons (eVar 0) (aCons (eVar 3) (aCons (eVar 5) (aCons (eVar 6) (aCons (eVar 4) aNil)))))))) (sRet (eC (.bl false))) sNext)) [.val (msD q L), .val (.lst (gs.map .int)), x2, .val (plD qP P), .val (.int (k : Nat)), .val (.int p.1), .val (.int p.2)] = if (if (k : Int) ∈ gs then decide (p = (0, -1)) else jB L P k p) = true then .next [.val (msD q L), .val (.lst (gs.map .int)), x2, .val (plD qP P), .val (.int (k : Nat)), .val (.int p.1), .val (.int p.2)] else .ret (.val (.bl false)) := by
      generalize jB L P k p = J at *
      generalize msD q L = MS at *
      generalize plD qP P = PP at *
      generalize gs.map D.int = GS at *
      by_cases z : (k : Int) ∈ gs
      · rw [if_pos z]
        obtain ⟨r, e⟩ := p
        by_cases z1 : r = 0
        · by_cases z2 : e = -1
          · simp [ig, z, z1, z2]
          · simp [ig, z, z1, z2]
        · simp [ig, z, z1]
      · rw [if_neg z]
        cases J with
        | true => simp [ig, z, po]
        | false => simp [ig, z, po]
    generalize (if (k : Int) ∈ gs then decide (p = (0, -1)) else jB L P k p) = B at *
    cases B with
    | true => rw [forGo_go tg (.inl (by rw [bd]; rfl)), ih, Bool.true_and]
    | false => rw [forGo_ret tg (by rw [bd]; rfl), Bool.false_and]; rfl
theorem rk_ok (qP : Bool) {P : List (Int × Int)} {st : Int} (a : 0 ≤ st) (b : st < P.length) : ∃ e : Int, dIx (plD qP P) (.int st) = .ok (prD (rk P st, e)) := by
  have := dIx_qi (q := qP) (f := prD) (-1, -1) a b
  exact ⟨(P.getD st.toNat (-1, -1)).2, this⟩
theorem shows_plan_ok (q qP : Bool) {n : Nat} {L : List (List Mv)} (hL : L.length = n) (ok : ∀ i, ∀ m ∈ L.getD i [], okT n m.1) (gs : List Int) (st : Int) (P : List (Int × Int)) : f_shows_plan [msD q L, .lst (gs.map .int), .int st, plD qP P] = .ok (.val (.bl (planB L gs st P))) := by
  have lm := lenM q L
  have lp := lenP qP P
  have ip := is_place_ok st L.length
  have de : dEnum [plD qP P] = .ok (enumL 0 (P.map prD)) := dEnum_q qP _
  rw [f_shows_plan, fn_4]
  unfold planB
  by_cases z1 : P.length = L.length
  · have z1i : (P.length : Int) = L.length := by omega
    by_cases z2 : 0 ≤ st ∧ st < L.length
    · rw [if_pos ⟨z1, z2.1, z2.2⟩]
      rw [decide_eq_true z2] at ip
      obtain ⟨y4, y5, y6, lo⟩ := sp_loop q qP hL ok gs (P := P) (show P.length = n by omega) (.val (.int st)) P 0 .un .un .un (by omega) fun j _ => by rw [Nat.zero_add]
      obtain ⟨e, ir⟩ := rk_ok qP (P := P) z2.1 (by omega)
      rw [← List.range_eq_range', z1] at lo
      generalize rk P st = R at *
      generalize (List.range L.length).all (pairB L gs P) = A at *
      generalize msD q L = MS at *
      generalize hPP : plD qP P = PP at *
      generalize gs.map D.int = GS at *
      cases A with
      | true =>
        simp at lo
        simp [startE, List.replicate, lm, lp, z1, z1i, ip, de]
        rw [show forGo _ _ _ _ = _ from lo]
        simp [ir]
      | false =>
        simp at lo
        simp [startE, List.replicate, lm, lp, z1, z1i, ip, de]
        rw [show forGo _ _ _ _ = _ from lo]
        simp
    · rw [if_neg fun y => z2 ⟨y.2.1, y.2.2⟩]
      rw [decide_eq_false z2] at ip
      generalize msD q L = MS at *
      generalize hPP : plD qP P = PP at *
      generalize gs.map D.int = GS at *
      simp [startE, List.replicate, lm, lp, z1, z1i, ip]
  · rw [if_neg fun y => z1 y.1]
    have z1i : ¬ (P.length : Int) = L.length := by omega
    generalize msD q L = MS at *
    generalize hPP : plD qP P = PP at *
    generalize gs.map D.int = GS at *
    simp [startE, List.replicate, lm, lp, z1, z1i]
/-! the law's judge -/
theorem lr_loop (qP : Bool) {n : Nat} {P : List (Int × Int)} (hP : P.length = n) (x0 x1 x2 x4 x6 x7 x8 : Sl) (r : Int) : ∀ (ts : List Int) (x9 : Sl), (∀ t ∈ ts, 0 ≤ t ∧ t < n) →
    ∃ y9, forGo (gName 9) (sIf (tNot (tVal (eChain dLe dLt (eC (.int 0)) (eOp2 dIx (eOp2 dIx (eVar 3) (eVar 9)) (eC (.int 0))) (eVar 5)))) (sRet (eC (.bl false))) sNext) (ts.map .int) [x0, x1, x2, .val (plD qP P), x4, .val (.int r), x6, x7, x8, x9] = if (ts.all fun t => decide (0 ≤ rk P t ∧ rk P t < r)) = true then .next [x0, x1, x2, .val (plD qP P), x4, .val (.int r), x6, x7, x8, y9] else .ret (.val (.bl false))
  | [], x9, _ => ⟨x9, by simp⟩
  | t :: ts, x9, h => by
    obtain ⟨a, b⟩ := h t List.mem_cons_self
    obtain ⟨y9, ih⟩ := lr_loop qP hP x0 x1 x2 x4 x6 x7 x8 r ts (.val (.int t)) fun u hu => h u (List.mem_cons_of_mem _ hu)
    have ix := aft_body qP hP a b
    have e : rk P t = (P.getD t.toNat (-1, -1)).1 := rfl
    refine ⟨y9, ?_⟩
    rw [List.map_cons, List.all_cons, e]
    generalize P.getD t.toNat (-1, -1) = p at *
    generalize plD qP P = PP at *
    by_cases z0 : 0 ≤ p.1
    · by_cases z1 : p.1 < r
      · rw [forGo_go (e1 := [x0, x1, x2, .val PP, x4, .val (.int r), x6, x7, x8, .val (.int t)]) (e2 := [x0, x1, x2, .val PP, x4, .val (.int r), x6, x7, x8, .val (.int t)]) rfl (.inl (by simp [ix, z0, z1])), ih]
        simp [z0, z1]
      · rw [forGo_ret (e1 := [x0, x1, x2, .val PP, x4, .val (.int r), x6, x7, x8, .val (.int t)]) (r := .val (.bl false)) rfl (by simp [ix, z0, z1])]
        simp [z1]
    · rw [forGo_ret (e1 := [x0, x1, x2, .val PP, x4, .val (.int r), x6, x7, x8, .val (.int t)]) (r := .val (.bl false)) rfl (by simp [ix, z0])]
      simp [z0]
theorem lr_body (q qP : Bool) {n : Nat} {L : List (List Mv)} (hL : L.length = n) (ok : ∀ i, ∀ m ∈ L.getD i [], okT n m.1) (gs : List Int) {P : List (Int × Int)} (hP : P.length = n) (x2 : Sl) (i : Nat) (hi : i < n) (x5 x6 x7 x8 x9 : Sl) :
    ∃ y5 y6 y7 y8 y9, (sSeq (sSetTg (gTup [(gName 5), (gName 6)]) (eOp2 dIx (eVar 3) (eVar 4)))
  (sIf (tVal (eOp2 dIn (eVar 4) (eVar 1))) (sIf (tOr (tVal (eOp2 dNe (eVar 5) (eC (.int 0)))) (tVal (eOp2 dNe (eVar 6) (eOp1 dNeg (eC (.int 1)))))) (sRet (eC (.bl false))) sNext) (sIf (tOr (tVal (eOp2 dNe (eVar 5) (eOp1 dNeg (eC (.int 1))))) (tVal (eOp2 dNe (eVar 6) (eOp1 dNeg (eC (.int 1)))))) (sSeq (sIf (tOr (tVal (eOp2 dLt (eVar 5) (eC (.int 1)))) (tNot (tVal (eChain dLe dLt (eC (.int 0)) (eVar 6) (eB dLen (aCons (eOp2 dIx (eVar 0) (eVar 4)) aNil)))))) (sRet (eC (.bl false))) sNext)
  (sSeq (sSetTg (gTup [(gName 7), (gName 8)]) (eOp2 dIx (eOp2 dIx (eVar 0) (eVar 4)) (eVar 6)))
  (sSeq (sIf (tOr (tVal (eVar 8)) (tVal (eOp2 dEq (eB dLen (aCons (eVar 7) aNil)) (eC (.int 0))))) (sRet (eC (.bl false))) sNext)
  (sFor (iSeq (eVar 7)) (gName 9) (sIf (tNot (tVal (eChain dLe dLt (eC (.int 0)) (eOp2 dIx (eOp2 dIx (eVar 3) (eVar 9)) (eC (.int 0))) (eVar 5)))) (sRet (eC (.bl false))) sNext))))) sNext))) [.val (msD q L), .val (.lst (gs.map .int)), x2, .val (plD qP P), .val (.int (i : Nat)), x5, x6, x7, x8, x9] = if pairB L gs P i = true then .next [.val (msD q L), .val (.lst (gs.map .int)), x2, .val (plD qP P), .val (.int (i : Nat)), y5, y6, y7, y8, y9] else .ret (.val (.bl false)) := by
  have mi := mv_at q (L := L) (i := i) (by omega)
  have lr := lenR q (L.getD i [])
  have okr := ok i
  have ix : dIx (plD qP P) (.int (i : Nat)) = .ok (prD (at2 P i)) := dIx_q (q := qP) (f := prD) (-1, -1) (by omega)
  have ig := dIn_ints (i : Int) gs
  unfold pairB
  generalize at2 P i = p at *
  obtain ⟨r, e⟩ := p
  have pd : prD (r, e) = .tup [.int r, .int e] := rfl
  rw [pd] at ix
  have eqp : ((r, e) = ((-1, -1) : Int × Int)) ↔ (r = -1 ∧ e = -1) := by simp
  by_cases zg : (i : Int) ∈ gs
  · rw [if_pos zg]
    refine ⟨.val (.int r), .val (.int e), x7, x8, x9, ?_⟩
    generalize msD q L = MS at *
    generalize plD qP P = PP at *
    generalize gs.map D.int = GS at *
    by_cases z1 : r = 0
    · by_cases z2 : e = -1
      · simp [ix, ig, zg, z1, z2]
      · simp [ix, ig, zg, z1, z2]
    · simp [ix, ig, zg, z1]
  · rw [if_neg zg]
    by_cases z1 : r = -1 ∧ e = -1
    · rw [if_pos (eqp.mpr z1)]
      refine ⟨.val (.int r), .val (.int e), x7, x8, x9, ?_⟩
      generalize msD q L = MS at *
      generalize plD qP P = PP at *
      generalize gs.map D.int = GS at *
      rw [z1.1, z1.2] at ix ⊢
      simp [ix, ig, zg]
    · rw [if_neg fun y => z1 (eqp.mp y)]
      have t1 : ∀ x0 x1 x2 x3 x4 x7 x8 x9, (tOr (tVal (eOp2 dNe (eVar 5) (eOp1 dNeg (eC (.int 1))))) (tVal (eOp2 dNe (eVar 6) (eOp1 dNeg (eC (.int 1)))))) [x0, x1, x2, x3, x4, .val (.int r), .val (.int e), x7, x8, x9] = .ok true := by
        intro x0 x1 x2 x3 x4 x7 x8 x9
        by_cases y : r = -1
        · have y2 : ¬ e = -1 := fun w => z1 ⟨y, w⟩
          simp [y, y2]
        · simp [y]
      show ∃ y5 y6 y7 y8 y9, _ = if (if r < 1 ∨ ¬ (0 ≤ e ∧ e < (L.getD i []).length) then false else rowT P r ((L.getD i []).getD e.toNat ([], false))) = true then _ else _
      by_cases z2 : r < 1
      · rw [if_pos (.inl z2)]
        refine ⟨.val (.int r), .val (.int e), x7, x8, x9, ?_⟩
        generalize msD q L = MS at *
        generalize plD qP P = PP at *
        generalize gs.map D.int = GS at *
        simp [ix, ig, zg, t1, z2, -tOr_a]
        simp [z2]
      · by_cases z3 : 0 ≤ e ∧ e < (L.getD i []).length
        · rw [if_neg (by rintro (y | y); exact z2 y; exact y z3)]
          have ei := ev_at q z3.1 z3.2
          have okm := okr _ (getD_inn (d := (([], false) : Mv)) (show e.toNat < (L.getD i []).length by omega))
          generalize (L.getD i []).getD e.toNat ([], false) = m at *
          have md : mvD q m = .tup [seqD q (m.1.map .int), .bl m.2] := rfl
          rw [md] at ei
          have l1 : dLen [seqD q (m.1.map D.int)] = .ok (.int m.1.length) := by rw [dLen_q]; simp
          obtain ⟨y9, lp⟩ := lr_loop qP hP (.val (msD q L)) (.val (.lst (gs.map .int))) x2 (.val (.int (i : Nat))) (.val (.int e)) (.val (seqD q (m.1.map .int))) (.val (.bl m.2)) r m.1 x9 okm.2
          have it : ∀ x0 x1 x2 x3 x4 x5 x6 x8 x9, (iSeq (eVar 7)) [x0, x1, x2, x3, x4, x5, x6, .val (seqD q (m.1.map .int)), x8, x9] = .ok (m.1.map .int) := fun _ _ _ _ _ _ _ _ _ => iSeq_q (q := q) (by simp)
          have emp : m.1.isEmpty = decide (m.1.length = 0) := by cases m.1 <;> simp
          refine ⟨.val (.int r), .val (.int e), .val (seqD q (m.1.map .int)), .val (.bl m.2), y9, ?_⟩
          unfold rowT
          rw [emp]
          generalize (m.1.all fun t => decide (0 ≤ rk P t ∧ rk P t < r)) = A at *
          generalize msD q L = MS at *
          generalize plD qP P = PP at *
          generalize rwD q (L.getD i []) = RW at *
          generalize seqD q (m.1.map D.int) = SD at *
          generalize gs.map D.int = GS at *
          cases e2 : m.2 with
          | true =>
            rw [e2] at ei
            simp [ix, ig, zg, t1, -tOr_a]
            simp [z2, z3.1, z3.2, mi, lr, ei, -List.getD_eq_getElem?_getD]
          | false =>
            rw [e2] at ei lp
            by_cases z4 : m.1.length = 0
            · have z6 : m.1 = [] := List.length_eq_zero_iff.mp z4
              simp [ix, ig, zg, t1, -tOr_a]
              simp [z2, z3.1, z3.2, mi, lr, ei, l1, z4, z6, -List.getD_eq_getElem?_getD]
            · have z5 : ¬ m.1 = [] := fun y => z4 (by rw [y]; rfl)
              cases A with
              | true =>
                simp at lp
                simp [ix, ig, zg, t1, -tOr_a, -iSeq_a]
                simp [z2, z3.1, z3.2, mi, lr, ei, l1, z4, z5, it, lp, -iSeq_a, -List.getD_eq_getElem?_getD]
              | false =>
                simp at lp
                simp [ix, ig, zg, t1, -tOr_a, -iSeq_a]
                simp [z2, z3.1, z3.2, mi, lr, ei, l1, z4, z5, it, lp, -iSeq_a, -List.getD_eq_getElem?_getD]
        · rw [if_pos (.inr z3)]
          refine ⟨.val (.int r), .val (.int e), x7, x8, x9, ?_⟩
          generalize msD q L = MS at *
          generalize plD qP P = PP at *
          generalize rwD q (L.getD i []) = RW at *
          generalize gs.map D.int = GS at *
          by_cases z4 : 0 ≤ e
          · have z5 : ¬ e < (L.getD i []).length := fun y => z3 ⟨z4, y⟩
            simp [ix, ig, zg, t1, -tOr_a]
            simp [z2, z4, z5, mi, lr, -List.getD_eq_getElem?_getD]
          · simp [ix, ig, zg, t1, -tOr_a]
            simp [z2, z4, mi, lr, -List.getD_eq_getElem?_getD]
theorem forGo_all (q : Nat → Bool) {body : CS} {g : Nat} (ret : Sl) (Ok : Env → Prop) : ∀ (m k : Nat) (env : Env), Ok env → (∀ i env, k ≤ i → i < k + m → Ok env → ∃ e2, Ok e2 ∧ body (env.set g (.val (.int (i : Nat)))) = if q i = true then .next e2 else .ret ret) →
    ∃ e2, Ok e2 ∧ forGo (gName g) body ((List.range' k m).map fun i : Nat => .int (i : Int)) env = if ((List.range' k m).all q) = true then .next e2 else .ret ret
  | 0, k, env, h, _ => ⟨env, h, by simp⟩
  | m + 1, k, env, h, hb => by
    obtain ⟨e1, o1, b1⟩ := hb k env (Nat.le_refl k) (by omega) h
    obtain ⟨e2, o2, b2⟩ := forGo_all q ret Ok m (k + 1) e1 o1 fun i env h1 h2 h3 => hb i env (by omega) (by omega) h3
    refine ⟨e2, o2, ?_⟩
    rw [List.range'_succ, List.map_cons, List.all_cons]
    cases z : q k with
    | true => rw [z] at b1; rw [forGo_go (e1 := env.set g (.val (.int (k : Nat)))) (e2 := e1) rfl (.inl (by simpa using b1)), b2, Bool.true_and]
    | false => rw [z] at b1; rw [forGo_ret (e1 := env.set g (.val (.int (k : Nat)))) (r := ret) rfl (by simpa using b1), Bool.false_and]; rfl
theorem rangeL_nat (n : Nat) : rangeL 0 (n : Nat) = (List.range' 0 n).map fun i : Nat => D.int (i : Int) := by
  unfold rangeL
  rw [show ((n : Int) - 0).toNat = n by omega, ← List.range_eq_range']
  exact List.map_congr_left fun i _ => by rw [Int.zero_add]
theorem lplan_ok (q qP : Bool) {n : Nat} (hn : n ≤ 40) {L : List (List Mv)} (hL : L.length = n) (ok : ∀ i, ∀ m ∈ L.getD i [], okT n m.1) (gs : List Int) (st : Int) (P : List (Int × Int)) : f__law_plan_is_right [msD q L, .lst (gs.map .int), .int st, plD qP P] = .ok (.val (.bl (planB L gs st P))) := by
  have lm := lenM q L
  have lp := lenP qP P
  have rg : dRange1 [.int (L.length : Nat)] = .ok (rangeL 0 (L.length : Nat)) := dRange1_i (by unfold smallI; omega)
  rw [f__law_plan_is_right, fn_4]
  unfold planB
  by_cases z1 : P.length = L.length
  · have z1i : (P.length : Int) = L.length := by omega
    by_cases z2 : 0 ≤ st ∧ st < L.length
    · rw [if_pos ⟨z1, z2.1, z2.2⟩]
      obtain ⟨e2, ⟨y4, y5, y6, y7, y8, y9, he⟩, lo⟩ := forGo_all (pairB L gs P) (body := (sSeq (sSetTg (gTup [(gName 5), (gName 6)]) (eOp2 dIx (eVar 3) (eVar 4)))
  (sIf (tVal (eOp2 dIn (eVar 4) (eVar 1))) (sIf (tOr (tVal (eOp2 dNe (eVar 5) (eC (.int 0)))) (tVal (eOp2 dNe (eVar 6) (eOp1 dNeg (eC (.int 1)))))) (sRet (eC (.bl false))) sNext) (sIf (tOr (tVal (eOp2 dNe (eVar 5) (eOp1 dNeg (eC (.int 1))))) (tVal (eOp2 dNe (eVar 6) (eOp1 dNeg (eC (.int 1)))))) (sSeq (sIf (tOr (tVal (eOp2 dLt (eVar 5) (eC (.int 1)))) (tNot (tVal (eChain dLe dLt (eC (.int 0)) (eVar 6) (eB dLen (aCons (eOp2 dIx (eVar 0) (eVar 4)) aNil)))))) (sRet (eC (.bl false))) sNext)
  (sSeq (sSetTg (gTup [(gName 7), (gName 8)]) (eOp2 dIx (eOp2 dIx (eVar 0) (eVar 4)) (eVar 6)))
  (sSeq (sIf (tOr (tVal (eVar 8)) (tVal (eOp2 dEq (eB dLen (aCons (eVar 7) aNil)) (eC (.int 0))))) (sRet (eC (.bl false))) sNext)
  (sFor (iSeq (eVar 7)) (gName 9) (sIf (tNot (tVal (eChain dLe dLt (eC (.int 0)) (eOp2 dIx (eOp2 dIx (eVar 3) (eVar 9)) (eC (.int 0))) (eVar 5)))) (sRet (eC (.bl false))) sNext))))) sNext)))) (g := 4) (.val (.bl false)) (fun env => ∃ y4 y5 y6 y7 y8 y9, env = [.val (msD q L), .val (.lst (gs.map .int)), .val (.int st), .val (plD qP P), y4, y5, y6, y7, y8, y9]) L.length 0 [.val (msD q L), .val (.lst (gs.map .int)), .val (.int st), .val (plD qP P), .un, .un, .un, .un, .un, .un] ⟨_, _, _, _, _, _, rfl⟩ (fun i env _ hi ⟨y4, y5, y6, y7, y8, y9, e⟩ => by
        subst e
        obtain ⟨z5, z6, z7, z8, z9, b⟩ := lr_body q qP hL ok gs (show P.length = n by omega) (.val (.int st)) i (by omega) y5 y6 y7 y8 y9
        exact ⟨_, ⟨.val (.int (i : Nat)), z5, z6, z7, z8, z9, rfl⟩, b⟩)
      obtain ⟨e, ir⟩ := rk_ok qP (P := P) z2.1 (by omega)
      rw [← rangeL_nat, ← List.range_eq_range'] at lo
      have z2a := z2.1
      have z2b := z2.2
      subst he
      generalize rk P st = R at *
      generalize (List.range L.length).all (pairB L gs P) = A at *
      generalize msD q L = MS at *
      generalize hPP : plD qP P = PP at *
      generalize gs.map D.int = GS at *
      by_cases z3 : R = -1
      · subst z3
        cases A <;> simp [startE, List.replicate, lm, lp, z1, z1i, z2a, z2b, ir]
      · cases A with
        | true => simp at lo; simp [startE, List.replicate, lm, lp, z1, z1i, z2a, z2b, ir, z3, rg, lo]
        | false => simp at lo; simp [startE, List.replicate, lm, lp, z1, z1i, z2a, z2b, ir, z3, rg, lo]
    · rw [if_neg fun y => z2 ⟨y.2.1, y.2.2⟩]
      generalize msD q L = MS at *
      generalize hPP : plD qP P = PP at *
      generalize gs.map D.int = GS at *
      by_cases z3 : 0 ≤ st
      · have z4 : ¬ st < L.length := fun y => z2 ⟨z3, y⟩
        simp [startE, List.replicate, lm, lp, z1, z1i, z3, z4]
      · simp [startE, List.replicate, lm, lp, z1, z1i, z3]
  · rw [if_neg fun y => z1 y.1]
    have z1i : ¬ (P.length : Int) = L.length := by omega
    generalize msD q L = MS at *
    generalize hPP : plD qP P = PP at *
    generalize gs.map D.int = GS at *
    simp [startE, List.replicate, lm, lp, z1, z1i]
end Lw
namespace Lw
open M
/-! ### the best event -/
def mx (P : List (Int × Int)) (m : Mv) : Int := maxI (m.1.map (rk P))
def stepB (P : List (Int × Int)) (m : Mv) (i : Nat) (b : Int × Int) : Int × Int := if okE P m = true then (if b.1 < 0 ∨ mx P m + 1 < b.1 then (mx P m + 1, (i : Int)) else b) else b
def bstN (P : List (Int × Int)) (r : List Mv) : Nat → Int × Int
  | 0 => (-1, -1)
  | k + 1 => stepB P (r.getD k ([], false)) k (bstN P r k)
theorem best_body (q qP : Bool) {n : Nat} (hn : n ≤ 40) {P : List (Int × Int)} (hP : P.length = n) {r : List Mv} (ok : ∀ m ∈ r, okT n m.1) (k : Nat) (hk : k < r.length) (b : Int × Int) (x4 x5 x6 x7 : Sl) :
    ∃ y4 y5 y6 y7, (sSeq (sSetTg (gTup [(gName 4), (gName 5)]) (eOp2 dIx (eVar 0) (eVar 3)))
  (sSeq (sSetF 6 (fComp [7] (iSeq (eVar 4)) (gName 7) tTrue (eOp2 dIx (eOp2 dIx (eVar 1) (eVar 7)) (eC (.int 0)))))
  (sIf (tAnd (tNot (tVal (eVar 5))) (tAnd (tVal (eOp2 dGt (eB dLen (aCons (ePeek 6) aNil)) (eC (.int 0)))) (tVal (eOp2 dGe (eB dMin1 (aCons (ePeek 6) aNil)) (eC (.int 0)))))) (sIf (tOr (tVal (eOp2 dLt (eOp2 dIx (eVar 2) (eC (.int 0))) (eC (.int 0)))) (tVal (eOp2 dLt (eOp2 dAdd (eB dMax1 (aCons (ePeek 6) aNil)) (eC (.int 1))) (eOp2 dIx (eVar 2) (eC (.int 0)))))) (sSet 2 (eTup (aCons (eOp2 dAdd (eB dMax1 (aCons (ePeek 6) aNil)) (eC (.int 1))) (aCons (eVar 3) aNil)))) sNext) sNext))) [.val (rwD q r), .val (plD qP P), .val (prD b), .val (.int (k : Nat)), x4, x5, x6, x7] = .next [.val (rwD q r), .val (plD qP P), .val (prD (stepB P (r.getD k ([], false)) k b)), .val (.int (k : Nat)), y4, y5, y6, y7] := by
  have ei : dIx (rwD q r) (.int (k : Nat)) = .ok (mvD q (r.getD k ([], false))) := dIx_q (q := q) (f := mvD q) ([], false) hk
  have okm := ok _ (getD_inn (d := (([], false) : Mv)) hk)
  unfold stepB mx
  generalize r.getD k ([], false) = m at *
  have md : mvD q m = .tup [seqD q (m.1.map .int), .bl m.2] := rfl
  rw [md] at ei
  have ml := okT_len okm
  refine ⟨.val (seqD q (m.1.map .int)), .val (.bl m.2), .own (.lst ((m.1.map (rk P)).map .int)), x7, ?_⟩
  have q2 : ∀ x2 x6 x7, (fComp [7] (iSeq (eVar 4)) (gName 7) tTrue (eOp2 dIx (eOp2 dIx (eVar 1) (eVar 7)) (eC (.int 0)))) [.val (rwD q r), .val (plD qP P), x2, .val (.int (k : Nat)), .val (seqD q (m.1.map .int)), .val (.bl m.2), x6, x7] = .ok (.lst ((m.1.map (rk P)).map .int)) := by
    intro x2 x6 x7
    have it : (iSeq (eVar 4)) [.val (rwD q r), .val (plD qP P), x2, .val (.int (k : Nat)), .val (seqD q (m.1.map .int)), .val (.bl m.2), x6, x7] = .ok (m.1.map .int) := iSeq_q (q := q) (by simp)
    have w : wipeE [.val (rwD q r), .val (plD qP P), x2, .val (.int (k : Nat)), .val (seqD q (m.1.map .int)), .val (.bl m.2), x6, x7] [7] = [.val (rwD q r), .val (plD qP P), x2, .val (.int (k : Nat)), .val (seqD q (m.1.map .int)), .val (.bl m.2), x6, .un] := rfl
    rw [fComp_a, w, it]
    simp only [Out.bind_ok]
    rw [lc_map (g := gName 7) (fun d => match d with | .int z => .int (rk P z) | d => d) (m.1.map .int) (fun d hd => by
      obtain ⟨z, hz, rfl⟩ := List.mem_map.mp hd
      obtain ⟨a, c⟩ := okm.2 z hz
      have ix := aft_body qP hP a c
      have e : rk P z = (P.getD z.toNat (-1, -1)).1 := rfl
      refine ⟨_, rfl, ?_⟩
      simp only []
      rw [e]
      generalize P.getD z.toNat (-1, -1) = p at *
      simp [ix]) (by simp; omega)]
    simp only [Out.bind_ok]
    rw [List.map_map, List.map_map]
    rfl
  have okd : okE P m = (!m.2 && (!m.1.isEmpty && m.1.all fun t => decide (0 ≤ rk P t))) := rfl
  have emp : m.1.isEmpty = decide (m.1.length = 0) := by cases m.1 <;> simp
  have lR : ((m.1.map (rk P)).map D.int).length = m.1.length := by simp
  have b0 := dIx_p0 b
  have pb : prD b = .tup [.int b.1, .int b.2] := rfl
  rw [okd, emp]
  by_cases z0 : m.1.length = 0
  · have z1 : m.1 = [] := List.length_eq_zero_iff.mp z0
    generalize (m.1.map (rk P)).map D.int = RR at *
    generalize seqD q (m.1.map D.int) = SD at *
    generalize rwD q r = RW at *
    generalize plD qP P = PP at *
    cases e2 : m.2 with
    | true => rw [e2] at ei q2; simp [ei, q2, -fComp_a]
    | false => rw [e2] at ei q2; simp [ei, q2, lR, z0, z1, -fComp_a]
  · have ne : m.1.map (rk P) ≠ [] := by intro y; apply z0; have := congrArg List.length y; simpa using this
    have mi := dMin1_l ne
    have ma := dMax1_l ne
    obtain ⟨g1, g2⟩ := minI_mem ne
    have al : (m.1.all fun t => decide (0 ≤ rk P t)) = decide (0 ≤ minI (m.1.map (rk P))) := by
      by_cases y : 0 ≤ minI (m.1.map (rk P))
      · rw [decide_eq_true y, List.all_eq_true]
        exact fun t ht => decide_eq_true (Int.le_trans y (g2 _ (List.mem_map.mpr ⟨t, ht, rfl⟩)))
      · rw [decide_eq_false y, ← Bool.not_eq_true, List.all_eq_true]
        intro h
        obtain ⟨t, ht, e⟩ := List.mem_map.mp g1
        have := of_decide_eq_true (h t ht)
        rw [e] at this
        exact y this
    rw [al]
    have zi : (0 : Int) < m.1.length := by omega
    have zn : 0 < m.1.length := by omega
    have z1 : ¬ m.1 = [] := fun y => z0 (by rw [y]; rfl)
    have pk : ∀ z : Int, prD (z, (k : Int)) = .tup [.int z, .int (k : Nat)] := fun _ => rfl
    generalize minI (m.1.map (rk P)) = MI at *
    generalize maxI (m.1.map (rk P)) = MA at *
    generalize (m.1.map (rk P)).map D.int = RR at *
    generalize seqD q (m.1.map D.int) = SD at *
    generalize rwD q r = RW at *
    generalize plD qP P = PP at *
    cases e2 : m.2 with
    | true => rw [e2] at ei q2; simp [ei, q2, -fComp_a]
    | false =>
      rw [e2] at ei q2
      by_cases y1 : 0 ≤ MI
      · by_cases y2 : b.1 < 0
        · simp [ei, q2, lR, zi, zn, z0, z1, mi, ma, y1, y2, pk, sized, line_v, -fComp_a]
        · by_cases y3 : MA + 1 < b.1
          · simp [ei, q2, lR, zi, zn, z0, z1, mi, ma, y1, y2, y3, pk, sized, line_v, -fComp_a]
          · simp [ei, q2, lR, zi, zn, z0, z1, mi, ma, y1, y2, y3, pk, sized, line_v, -fComp_a]
      · simp [ei, q2, lR, zi, zn, z0, z1, mi, ma, y1, -fComp_a]
theorem best_ok (q qP : Bool) {n : Nat} (hn : n ≤ 40) {P : List (Int × Int)} (hP : P.length = n) {r : List Mv} (ok : ∀ m ∈ r, okT n m.1) (hr : r.length ≤ 6) : f__law_best [rwD q r, plD qP P] = .ok (.val (prD (bstN P r r.length))) := by
  have rg : dRange1 [.int (r.length : Nat)] = .ok (rangeL 0 (r.length : Nat)) := dRange1_i (by unfold smallI; omega)
  have lr := lenR q r
  obtain ⟨e2, lp, y3, y4, y5, y6, y7, he⟩ := forGo_inv (g := gName 3) (body := (sSeq (sSetTg (gTup [(gName 4), (gName 5)]) (eOp2 dIx (eVar 0) (eVar 3)))
  (sSeq (sSetF 6 (fComp [7] (iSeq (eVar 4)) (gName 7) tTrue (eOp2 dIx (eOp2 dIx (eVar 1) (eVar 7)) (eC (.int 0)))))
  (sIf (tAnd (tNot (tVal (eVar 5))) (tAnd (tVal (eOp2 dGt (eB dLen (aCons (ePeek 6) aNil)) (eC (.int 0)))) (tVal (eOp2 dGe (eB dMin1 (aCons (ePeek 6) aNil)) (eC (.int 0)))))) (sIf (tOr (tVal (eOp2 dLt (eOp2 dIx (eVar 2) (eC (.int 0))) (eC (.int 0)))) (tVal (eOp2 dLt (eOp2 dAdd (eB dMax1 (aCons (ePeek 6) aNil)) (eC (.int 1))) (eOp2 dIx (eVar 2) (eC (.int 0)))))) (sSet 2 (eTup (aCons (eOp2 dAdd (eB dMax1 (aCons (ePeek 6) aNil)) (eC (.int 1))) (aCons (eVar 3) aNil)))) sNext) sNext)))) (all := rangeL 0 (r.length : Nat)) (env := [.val (rwD q r), .val (plD qP P), .val (prD (-1, -1)), .un, .un, .un, .un, .un])
    (P := fun done env => ∃ y3 y4 y5 y6 y7, env = [.val (rwD q r), .val (plD qP P), .val (prD (bstN P r done.length)), y3, y4, y5, y6, y7]) ⟨_, _, _, _, _, rfl⟩ (fun done d rest env he ⟨y3, y4, y5, y6, y7, e1⟩ => by
      obtain ⟨hd, hlt⟩ := range0_at he
      subst hd; subst e1
      obtain ⟨z4, z5, z6, z7, b⟩ := best_body q qP hn hP ok done.length hlt (bstN P r done.length) y4 y5 y6 y7
      refine ⟨_, rfl, _, .inl b, .val (.int (done.length : Nat)), z4, z5, z6, z7, ?_⟩
      rw [List.length_append, List.length_singleton]
      rfl)
  rw [rangeL_len, show ((r.length : Int) - 0).toNat = r.length by omega] at he
  subst he
  rw [f__law_best, fn_2]
  have p1 : prD (-1, -1) = .tup [.int (-1), .int (-1)] := rfl
  rw [p1] at lp
  generalize rwD q r = RW at *
  generalize plD qP P = PP at *
  simp [startE, List.replicate, lr, rg, sized, line_v]
  rw [show forGo _ _ _ _ = _ from lp]
  simp
theorem bst_none {P : List (Int × Int)} {r : List Mv} (h : ∀ m ∈ r, okE P m = false) : ∀ k, k ≤ r.length → bstN P r k = (-1, -1)
  | 0, _ => rfl
  | k + 1, hk => by
    unfold bstN stepB
    rw [h _ (getD_inn (show k < r.length by omega)), bst_none h k (by omega)]
    rfl
theorem mx_le {P : List (Int × Int)} {m : Mv} {b : Int} (hm : m.1 ≠ []) : mx P m ≤ b ↔ ∀ t ∈ m.1, rk P t ≤ b := by
  have ne : m.1.map (rk P) ≠ [] := by intro y; exact hm (List.map_eq_nil_iff.mp y)
  obtain ⟨g1, g2⟩ := maxI_mem ne
  constructor
  · intro h t ht
    exact Int.le_trans (g2 _ (List.mem_map.mpr ⟨t, ht, rfl⟩)) h
  · intro h
    obtain ⟨t, ht, e⟩ := List.mem_map.mp g1
    show maxI _ ≤ b
    rw [← e]; exact h t ht
theorem low_mx {P : List (Int × Int)} {m : Mv} {b : Int} : lowE P b m ↔ okE P m = true ∧ mx P m ≤ b := by
  rw [okE_iff]
  constructor
  · rintro ⟨h1, h2, h3⟩
    exact ⟨⟨h1, h2, fun t ht => (h3 t ht).1⟩, (mx_le h2).mpr fun t ht => (h3 t ht).2⟩
  · rintro ⟨⟨h1, h2, h3⟩, h4⟩
    exact ⟨h1, h2, fun t ht => ⟨h3 t ht, (mx_le h2).mp h4 t ht⟩⟩
theorem bst_some {P : List (Int × Int)} {l : List Mv} {r e : Nat} (hr : 1 ≤ r) {m : Mv} (hm : l[e]? = some m) (h1 : lowE P ((r : Int) - 1) m) (h2 : ∀ e' m', e' < e → l[e']? = some m' → ¬ lowE P ((r : Int) - 1) m') (h3 : ∀ m' ∈ l, ¬ lowE P ((r : Int) - 2) m') :
    ∀ k, k ≤ l.length → (k ≤ e → (bstN P l k).1 < 0 ∨ (bstN P l k).1 > r) ∧ (e < k → bstN P l k = ((r : Int), (e : Int)))
  | 0, _ => ⟨fun _ => .inl (by show (-1 : Int) < 0; decide), fun h => absurd h (Nat.not_lt_zero _)⟩
  | k + 1, hk => by
    obtain ⟨i1, i2⟩ := bst_some hr hm h1 h2 h3 k (by omega)
    have gm : l[k]? = some (l.getD k ([], false)) := by rw [List.getD_eq_getElem?_getD, List.getElem?_eq_getElem (show k < l.length by omega)]; rfl
    have mem := getD_inn (d := (([], false) : Mv)) (show k < l.length by omega)
    have un : bstN P l (k + 1) = stepB P (l.getD k ([], false)) k (bstN P l k) := rfl
    rw [un]
    have n3 := h3 _ mem
    rw [low_mx] at n3
    unfold stepB
    refine ⟨fun h => ?_, fun h => ?_⟩
    · have n2 := h2 k _ (by omega) gm
      rw [low_mx] at n2
      have i1 := i1 (by omega)
      split
      · rename_i o
        have : ¬ mx P (l.getD k ([], false)) ≤ (r : Int) - 1 := fun y => n2 ⟨o, y⟩
        split
        · right
          show mx P (l.getD k ([], false)) + 1 > r
          omega
        · exact i1
      · exact i1
    · by_cases ke : e < k
      · rw [i2 ke]
        split
        · rename_i o
          have : ¬ mx P (l.getD k ([], false)) ≤ (r : Int) - 2 := fun y => n3 ⟨o, y⟩
          rw [if_neg]
          rintro (y | y)
          · have y : ((r : Nat) : Int) < 0 := y; omega
          · have y : mx P (l.getD k ([], false)) + 1 < ((r : Nat) : Int) := y; omega
        · rfl
      · have ee : k = e := by omega
        subst ee
        rw [gm] at hm
        cases hm
        obtain ⟨o, y⟩ := low_mx.mp h1
        have : ¬ mx P (l.getD k ([], false)) ≤ (r : Int) - 2 := fun y => n3 ⟨o, y⟩
        rw [if_pos o, if_pos]
        · exact Prod.ext (by show mx P (l.getD k ([], false)) + 1 = r; omega) rfl
        · rcases i1 (Nat.le_refl k) with z | z
          · exact .inl z
          · exact .inr (by omega)
theorem fin_best {L : List (List Mv)} {gs : List Int} {P : List (Int × Int)} (F : Fin L gs P) (i : Nat) (hi : i < L.length) (g : (i : Int) ∉ gs) : bstN P (L.getD i []) (L.getD i []).length = at2 P i := by
  rcases F.rest i hi g with ⟨h, s⟩ | ⟨r, e, h, h1, m, m1, m2, m3, m4⟩
  · rw [h]; exact bst_none s _ (Nat.le_refl _)
  · rw [h]
    have he : e < (L.getD i []).length := (List.getElem?_eq_some_iff.mp m1).1
    exact (bst_some h1 m1 m2 m3 m4 _ (Nat.le_refl _)).2 he
/-- it is a right plan, too -/
theorem fin_right {L : List (List Mv)} {gs : List Int} {P : List (Int × Int)} (F : Fin L gs P) (ok : ∀ i, ∀ m ∈ L.getD i [], okT L.length m.1) {st : Nat} (hs : st < L.length) (h : (at2 P st).1 ≠ -1) : planB L gs (st : Nat) P = true := by
  unfold planB
  rw [if_pos ⟨F.len, by omega, by omega⟩, rk_at, decide_eq_true h, Bool.and_true, List.all_eq_true]
  intro i hi
  have hi := List.mem_range.mp hi
  unfold pairB
  by_cases g : (i : Int) ∈ gs
  · rw [if_pos g, F.goal i hi g]; rfl
  · rw [if_neg g]
    rcases F.rest i hi g with ⟨h, s⟩ | ⟨r, e, h, h1, m, m1, m2, m3, m4⟩
    · rw [if_pos h]
    · have he : e < (L.getD i []).length := (List.getElem?_eq_some_iff.mp m1).1
      rw [h, if_neg (by intro z; injection z with z _; omega), if_neg (by
        rintro (z | z)
        · have z : ((r : Nat) : Int) < 1 := z; omega
        · exact z ⟨by show (0 : Int) ≤ (e : Nat); omega, by show ((e : Nat) : Int) < _; omega⟩)]
      have gm : (L.getD i []).getD e ([], false) = m := by simp only [List.getD_eq_getElem?_getD] at m1 ⊢; rw [m1]; rfl
      show rowT P (r : Nat) ((L.getD i []).getD ((e : Nat) : Int).toNat ([], false)) = true
      rw [Int.toNat_natCast, gm]
      unfold rowT
      rw [m2.1]
      have : m.1.isEmpty = false := by cases q : m.1 with
        | nil => exact absurd q m2.2.1
        | cons _ _ => rfl
      rw [this]
      simp only [Bool.not_false, Bool.true_and, List.all_eq_true]
      intro t ht
      have := m2.2.2 t ht
      exact decide_eq_true ⟨this.1, by omega⟩
end Lw
namespace Lw
open M
/-! ### the plan and the paper -/
theorem forGo_allF {α : Type} {g : Tg} {body : CS} (f : α → D) (q : α → Bool) (ret : Sl) (Ok : Env → Prop) : ∀ (l : List α) (env : Env), Ok env → (∀ a ∈ l, ∀ env, Ok env → ∃ e1, g (f a) env = some e1 ∧ ∃ e2, Ok e2 ∧ body e1 = if q a = true then .next e2 else .ret ret) →
    ∃ e2, Ok e2 ∧ forGo g body (l.map f) env = if l.all q = true then .next e2 else .ret ret
  | [], env, h, _ => ⟨env, h, by simp⟩
  | a :: l, env, h, hb => by
    obtain ⟨e1, g1, e2, o2, b2⟩ := hb a List.mem_cons_self env h
    obtain ⟨e3, o3, b3⟩ := forGo_allF f q ret Ok l e2 o2 fun b hb' => hb b (List.mem_cons_of_mem _ hb')
    refine ⟨e3, o3, ?_⟩
    rw [List.map_cons, List.all_cons]
    cases z : q a with
    | true => rw [z] at b2; rw [forGo_go g1 (.inl (by simpa using b2)), b3, Bool.true_and]
    | false => rw [z] at b2; rw [forGo_ret g1 (r := ret) (by simpa using b2), Bool.false_and]; rfl
theorem okD_pr (p : Int × Int) : okD (prD p) = true := okN_tup (okNs_ints _ [p.1, p.2])
theorem lis_integer (i : Int) : f__law_is_integer [.int i] = .ok (.val (.bl true)) := by
  rw [f__law_is_integer, fn_1]; simp [startE, List.replicate, dIsi, tyD, subTy]
theorem least_ok {n many : Nat} {L : List (List Mv)} (h : okMs n many L) {gs : List Int} (hg : okT n gs) (hne : gs ≠ []) {P : List (Int × Int)} (F : Fin L gs P) : f__law_plan_is_least [msD true L, .lst (gs.map .int), plD false P] = .ok (.val (.bl true)) := by
  obtain ⟨h1, h2, h3, h4, h5⟩ := h
  have ok : ∀ i, ∀ m ∈ L.getD i [], okT n m.1 := by
    have := okr_of (L := L) (fun r hr m hm => by rw [h1]; exact (h5 r hr).2 m hm)
    rw [h1] at this; exact this
  have hP : P.length = n := by rw [F.len, h1]
  have rg : dRange1 [.int (n : Nat)] = .ok (rangeL 0 (n : Nat)) := dRange1_i (by unfold smallI; omega)
  have lm := lenM true L
  rw [h1] at lm
  have lp := lenP false P
  rw [hP] at lp
  have tp : dIsi [plD false P, .ty "tuple"] = .ok (.bl true) := eqOf rfl
  have ix : ∀ i, i < n → dIx (plD false P) (.int (i : Nat)) = .ok (prD (at2 P i)) := fun i hi => dIx_q (q := false) (f := prD) (-1, -1) (by omega)
  obtain ⟨e2, ⟨y3, y4, he⟩, l1⟩ := forGo_all (fun _ => true) (body := (sSeq (sSet 4 (eOp2 dIx (eVar 2) (eVar 3)))
  (sSeq (sIf (tOr (tNot (tVal (eB dIsi (aCons (eVar 4) (aCons (eC (.ty "tuple")) aNil))))) (tVal (eOp2 dNe (eB dLen (aCons (eVar 4) aNil)) (eC (.int 2))))) (sRet (eC (.bl false))) sNext)
  (sIf (tOr (tNot (tVal (eCall f__law_is_integer (aCons (eOp2 dIx (eVar 4) (eC (.int 0))) aNil)))) (tNot (tVal (eCall f__law_is_integer (aCons (eOp2 dIx (eVar 4) (eC (.int 1))) aNil))))) (sRet (eC (.bl false))) sNext)))) (g := 3) (.val (.bl false)) (fun env => ∃ y3 y4, env = [.val (msD true L), .val (.lst (gs.map .int)), .val (plD false P), y3, y4]) n 0 [.val (msD true L), .val (.lst (gs.map .int)), .val (plD false P), .un, .un] ⟨_, _, rfl⟩ (fun i env _ hi ⟨y3, y4, e⟩ => by
    subst e
    have ix := ix i (by omega)
    have i0 := dIx_p0 (at2 P i)
    have i1 := dIx_p1 (at2 P i)
    have a0 := lis_integer (at2 P i).1
    have a1 := lis_integer (at2 P i).2
    have t2 : dIsi [prD (at2 P i), .ty "tuple"] = .ok (.bl true) := eqOf rfl
    have l2 : dLen [prD (at2 P i)] = .ok (.int 2) := eqOf rfl
    generalize msD true L = MS at *
    generalize plD false P = PP at *
    generalize gs.map D.int = GS at *
    generalize prD (at2 P i) = PR at *
    exact ⟨_, ⟨.val (.int (i : Nat)), .val PR, rfl⟩, by simp [ix, i0, i1, a0, a1, t2, l2]⟩)
  have al : ((List.range' 0 n).all fun _ => true) = true := List.all_eq_true.mpr fun _ _ => rfl
  rw [al, ← rangeL_nat] at l1
  simp only [if_true] at l1
  subst he
  obtain ⟨e3, ⟨z3, he3⟩, l2⟩ := forGo_all (fun _ => true) (body := (sIf (tVal (eOp2 dIn (eVar 3) (eVar 1))) (sIf (tVal (eOp2 dNe (eOp2 dIx (eVar 2) (eVar 3)) (eTup (aCons (eC (.int 0)) (aCons (eOp1 dNeg (eC (.int 1))) aNil))))) (sRet (eC (.bl false))) sNext) (sIf (tVal (eOp2 dNe (eOp2 dIx (eVar 2) (eVar 3)) (eCall f__law_best (aCons (eOp2 dIx (eVar 0) (eVar 3)) (aCons (eVar 2) aNil))))) (sRet (eC (.bl false))) sNext))) (g := 3) (.val (.bl false)) (fun env => ∃ y3, env = [.val (msD true L), .val (.lst (gs.map .int)), .val (plD false P), y3, y4]) n 0 [.val (msD true L), .val (.lst (gs.map .int)), .val (plD false P), y3, y4] ⟨_, rfl⟩ (fun i env _ hi ⟨y3, e⟩ => by
    subst e
    have ix := ix i (by omega)
    have ig := dIn_ints (i : Int) gs
    have mi := mv_at true (L := L) (i := i) (by omega)
    have rl : (L.getD i []).length ≤ 6 := by
      have : L.getD i [] ∈ L := getD_inn (by omega)
      rw [(h5 _ this).1]; exact h4
    have be := best_ok true false h3 hP (ok i) rl
    have d0 := dNe_refl (okD_pr (at2 P i))
    refine ⟨_, ⟨.val (.int (i : Nat)), rfl⟩, ?_⟩
    by_cases g : (i : Int) ∈ gs
    · have e := F.goal i (by omega) g
      rw [e] at ix d0
      have d0 : dNe (prD (0, -1)) (.tup [.int 0, .int (-1)]) = .ok (.bl false) := d0
      generalize msD true L = MS at *
      generalize plD false P = PP at *
      generalize gs.map D.int = GS at *
      simp [ix, ig, g, sized, line_v, d0]
    · have e := fin_best F i (by omega) g
      rw [e] at be
      generalize msD true L = MS at *
      generalize plD false P = PP at *
      generalize gs.map D.int = GS at *
      generalize rwD true (L.getD i []) = RW at *
      simp [ix, ig, g, mi, be, d0])
  rw [al, ← rangeL_nat] at l2
  simp only [if_true] at l2
  subst he3
  obtain ⟨g0, gr, hgs⟩ : ∃ g0 gr, gs = g0 :: gr := by cases gs with
    | nil => exact absurd rfl hne
    | cons a b => exact ⟨a, b, rfl⟩
  have g0m : g0 ∈ gs := by rw [hgs]; exact List.mem_cons_self
  obtain ⟨ga, gb⟩ := hg.2 g0 g0m
  obtain ⟨j, rfl⟩ : ∃ j : Nat, g0 = j := ⟨g0.toNat, by omega⟩
  have gi : dIx (.lst (gs.map .int)) (.int 0) = .ok (.int (j : Nat)) := by rw [hgs]; exact dIx_l (xs := .int (j : Nat) :: gr.map .int) (k := 0) (by simp)
  have lpr := lplan_ok true false h3 h1 ok gs (j : Nat) P
  rw [fin_right F (by rw [h1]; exact ok) (by omega) (by rw [F.goal j (by omega) g0m]; decide)] at lpr
  rw [f__law_plan_is_least, fn_3]
  generalize msD true L = MS at *
  generalize plD false P = PP at *
  generalize gs.map D.int = GS at *
  simp [startE, List.replicate, tp, lp, lm, rg, l1, l2, gi, lpr]
theorem paper_ok (w : String) (hw : strOk (PySem.Str.ofString w) = true) (X : List D) : f__law_is_paper [.tup [.str w, .tup X], .str w] = .ok (.val (.bl true)) := by
  have e : dEq (.str w) (.str w) = .ok (.bl true) := dEq_t true hw hw (beq_self_eq_true _)
  have i0 : dIx (.tup [.str w, .tup X]) (.int 0) = .ok (.str w) := dIx_t (xs := [.str w, .tup X]) (k := 0) (by simp)
  have i1 : dIx (.tup [.str w, .tup X]) (.int 1) = .ok (.tup X) := dIx_t (xs := [.str w, .tup X]) (k := 1) (by simp)
  rw [f__law_is_paper, fn_2]
  simp [startE, List.replicate, i0, i1, e, dIsi, tyD, subTy]
theorem is_plan_ok {n many : Nat} {L : List (List Mv)} (h : okMs n many L) {gs : List Int} (hg : okT n gs) (hne : gs ≠ []) {P : List (Int × Int)} (F : Fin L gs P) : f__law_is_plan [.tup [.str "forced", plD false P], msD true L, .lst (gs.map .int)] = .ok (.val (.bl true)) := by
  have pa := paper_ok "forced" (by decide +kernel) (P.map prD)
  have le := least_ok h hg hne F
  have i1 : dIx (.tup [.str "forced", plD false P]) (.int 1) = .ok (plD false P) := dIx_t (xs := [.str "forced", plD false P]) (k := 1) (by simp)
  have pa : f__law_is_paper [.tup [.str "forced", plD false P], .str "forced"] = .ok (.val (.bl true)) := pa
  rw [f__law_is_plan, fn_3]
  generalize plD false P = PP at *
  generalize msD true L = MS at *
  simp [startE, List.replicate, pa, i1, le]
def trapL (P : List (Int × Int)) (n : Nat) : List Int := ((List.range n).filter fun i => decide ((at2 P i).1 < 0)).map fun i : Nat => (i : Int)
theorem range_nat (n : Nat) : rangeL 0 (n : Nat) = (List.range n).map fun i : Nat => D.int (i : Int) := by rw [rangeL_nat, List.range_eq_range']
theorem lc_filterN {g : Nat} {t : CT} {env : Env} (n : Nat) (p : Nat → Bool) (h : ∀ i, i < n → t (env.set g (.val (.int (i : Nat)))) = .ok (p i)) (hg : g < env.length) (hl : n ≤ 1000) : lcGo (gName g) t (eVar g) (rangeL 0 (n : Nat)) env [] = .ok ((((List.range n).filter p).map fun i : Nat => (i : Int)).map .int) := by
  rw [range_nat, lcGo_go (fun d => match d with | .int z => p z.toNat | _ => false) (fun d => d) _ [] (fun d hd => by
    obtain ⟨i, hi, rfl⟩ := List.mem_map.mp hd
    exact ⟨_, rfl, by simp only [Int.toNat_natCast]; exact h i (List.mem_range.mp hi), fun _ => by simp [hg]⟩) (by simp [line_v]; omega), List.nil_append, List.map_id', List.filter_map, List.map_map]
  rfl
theorem wish_ok (q : Bool) {n many : Nat} {L : List (List Mv)} (h : okMs n many L) {gs : List Int} (hg : okT n gs) {st : Nat} (hs : st < n) : f_wish_paper [msD q L, .lst (gs.map .int), .int (st : Nat)] =
    .ok (.val (if 0 ≤ (at2 (planOf L gs) st).1 then .tup [.str "forced", plD false (planOf L gs)] else .tup [.str "held", .tup ((trapL (planOf L gs) n).map .int)])) := by
  have dq := demand_ok q h hg hs
  have fo := forced_ok q h hg
  have hP : (planOf L gs).length = n := by
    rw [← h.1]
    exact (plan_fin (fun r hr m hm => by rw [h.1]; exact (h.2.2.2.2 r hr).2 m hm) (fun g hgm => by rw [h.1]; exact hg.2 g hgm)).len
  have rg : dRange1 [.int (n : Nat)] = .ok (rangeL 0 (n : Nat)) := dRange1_i (by unfold smallI; have := h.2.2.1; omega)
  have lm := lenM q L
  rw [h.1] at lm
  have n40 := h.2.2.1
  generalize planOf L gs = P at *
  have ix : ∀ i, i < n → dIx (.tup (P.map prD)) (.int (i : Nat)) = .ok (prD (at2 P i)) := fun i hi => dIx_q (q := false) (f := prD) (-1, -1) (by omega)
  have pd : plD false P = .tup (P.map prD) := rfl
  rw [pd, f_wish_paper, fn_3]
  have ist := ix st hs
  have q1 : ∀ x1 x2 x4, (fComp [4] (iB dRange1 (aCons (eB dLen (aCons (eVar 0) aNil)) aNil)) (gName 4) (tVal (eOp2 dLt (eOp2 dIx (eOp2 dIx (ePeek 3) (eVar 4)) (eC (.int 0))) (eC (.int 0)))) (eVar 4)) [.val (msD q L), x1, x2, .val (.tup (P.map prD)), x4] = .ok (.lst ((trapL P n).map .int)) := by
    intro x1 x2 x4
    have w : wipeE [.val (msD q L), x1, x2, .val (.tup (P.map prD)), x4] [4] = [.val (msD q L), x1, x2, .val (.tup (P.map prD)), .un] := rfl
    rw [fComp_a, w]
    simp only [iB_a, aCons_a, aNil_a, eB_a, eVar_a, List.getElem?_cons_zero, Out.bind_ok, lm, rg]
    rw [lc_filterN n (fun i => decide ((at2 P i).1 < 0)) (fun i hi => by
      have ii := ix i hi
      generalize at2 P i = p at *
      generalize P.map prD = PP at *
      simp [ii]) (by simp) (by omega)]
    rfl
  generalize at2 P st = p at *
  generalize msD q L = MS at *
  generalize gs.map D.int = GS at *
  generalize (trapL P n).map D.int = TR at *
  generalize P.map prD = PP at *
  by_cases z : 0 ≤ p.1
  · rw [if_pos z]
    simp [startE, List.replicate, dq, fo, ist, z, sized, line_v]
  · rw [if_neg z]
    simp [startE, List.replicate, dq, fo, ist, z, sized, line_v, q1, -fComp_a]
end Lw
namespace Lw
open M
/-! ### traps -/
def mvT (tr : List Int) (m : Mv) : Bool := m.2 || (m.1.isEmpty || m.1.any fun t => decide (t ∈ tr))
def okZ (L : List (List Mv)) (gs tr : List Int) (z : Int) : Bool := if 0 ≤ z ∧ z < L.length ∧ z ∉ gs then (L.getD z.toNat []).all (mvT tr) else false
def trapB (L : List (List Mv)) (gs : List Int) (st : Int) (tr : List Int) : Bool := decide (st ∈ tr) && tr.all (okZ L gs tr)
theorem ho_loop (S E : D) (tr : List Int) : ∀ (ts : List Int) (x3 : Sl), ∃ y3, forGo (gName 3) (sIf (tVal (eOp2 dIn (eVar 3) (eVar 2))) (sRet (eC (.bl true))) sNext) (ts.map .int) [.val S, .val E, .val (.lst (tr.map .int)), x3] = if (ts.any fun t => decide (t ∈ tr)) = true then .ret (.val (.bl true)) else .next [.val S, .val E, .val (.lst (tr.map .int)), y3]
  | [], x3 => ⟨x3, by simp⟩
  | t :: ts, x3 => by
    obtain ⟨y3, ih⟩ := ho_loop S E tr ts (.val (.int t))
    have it := dIn_ints t tr
    refine ⟨y3, ?_⟩
    rw [List.map_cons, List.any_cons]
    generalize tr.map D.int = TR at *
    by_cases z : t ∈ tr
    · rw [forGo_ret (e1 := [.val S, .val E, .val (.lst TR), .val (.int t)]) (r := .val (.bl true)) rfl (by simp [it, z])]
      simp [z]
    · rw [forGo_go (e1 := [.val S, .val E, .val (.lst TR), .val (.int t)]) (e2 := [.val S, .val E, .val (.lst TR), .val (.int t)]) rfl (.inl (by simp [it, z])), ih]
      simp [z]
theorem ho_ok (q : Bool) (m : Mv) (tr : List Int) : f_holds_off [seqD q (m.1.map .int), .bl m.2, .lst (tr.map .int)] = .ok (.val (.bl (mvT tr m))) := by
  have l1 : dLen [seqD q (m.1.map D.int)] = .ok (.int m.1.length) := by rw [dLen_q]; simp
  obtain ⟨y3, lp⟩ := ho_loop (seqD q (m.1.map .int)) (.bl m.2) tr m.1 .un
  have it : ∀ x1 x2 x3, (iSeq (eVar 0)) [.val (seqD q (m.1.map .int)), x1, x2, x3] = .ok (m.1.map .int) := fun _ _ _ => iSeq_q (q := q) (by simp)
  have emp : m.1.isEmpty = decide (m.1.length = 0) := by cases m.1 <;> simp
  unfold mvT
  rw [emp, f_holds_off, fn_3]
  generalize (m.1.any fun t => decide (t ∈ tr)) = A at *
  generalize seqD q (m.1.map D.int) = SD at *
  generalize tr.map D.int = TR at *
  cases e2 : m.2 with
  | true => simp [startE, List.replicate]
  | false =>
    rw [e2] at lp
    by_cases z : m.1.length = 0
    · have z1 : m.1 = [] := List.length_eq_zero_iff.mp z
      simp [startE, List.replicate, l1, z, z1]
    · have z1 : ¬ m.1 = [] := fun y => z (by rw [y]; rfl)
      cases A with
      | true => simp at lp; simp [startE, List.replicate, l1, z, z1, it, lp, -iSeq_a]
      | false => simp at lp; simp [startE, List.replicate, l1, z, z1, it, lp, -iSeq_a]
/-- shows_trap: one rest -/
theorem st_body (q : Bool) (L : List (List Mv)) (gs : List Int) (x2 : Sl) (tr : List Int) (z : Int) (x5 x6 : Sl) : ∃ y5 y6, (sSeq (sIf (tOr (tNot (tVal (eCall f_is_place (aCons (eVar 4) (aCons (eB dLen (aCons (eVar 0) aNil)) aNil))))) (tVal (eOp2 dIn (eVar 4) (eVar 1)))) (sRet (eC (.bl false))) sNext)
  (sFor (iSeq (eOp2 dIx (eVar 0) (eVar 4))) (gTup [(gName 5), (gName 6)]) (sIf (tNot (tVal (eCall f_holds_off (aCons (eVar 5) (aCons (eVar 6) (aCons (eVar 3) aNil)))))) (sRet (eC (.bl false))) sNext))) [.val (msD q L), .val (.lst (gs.map .int)), x2, .val (.lst (tr.map .int)), .val (.int z), x5, x6] =
    if okZ L gs tr z = true then .next [.val (msD q L), .val (.lst (gs.map .int)), x2, .val (.lst (tr.map .int)), .val (.int z), y5, y6] else .ret (.val (.bl false)) := by
  have ip := is_place_ok z L.length
  have lm := lenM q L
  have ig := dIn_ints z gs
  unfold okZ
  by_cases h : 0 ≤ z ∧ z < L.length
  · rw [decide_eq_true h] at ip
    by_cases g : z ∈ gs
    · rw [if_neg fun y => y.2.2 g]
      refine ⟨x5, x6, ?_⟩
      generalize msD q L = MS at *
      generalize gs.map D.int = GS at *
      generalize tr.map D.int = TR at *
      simp [lm, ip, ig, g]
    · rw [if_pos ⟨h.1, h.2, g⟩]
      obtain ⟨i, rfl⟩ : ∃ i : Nat, z = i := ⟨z.toNat, by omega⟩
      have mi := mv_at q (L := L) (i := i) (by omega)
      rw [Int.toNat_natCast]
      obtain ⟨e2, ⟨y5, y6, he⟩, lp⟩ := forGo_allF (g := gTup [gName 5, gName 6]) (body := (sIf (tNot (tVal (eCall f_holds_off (aCons (eVar 5) (aCons (eVar 6) (aCons (eVar 3) aNil)))))) (sRet (eC (.bl false))) sNext)) (mvD q) (mvT tr) (.val (.bl false)) (fun env => ∃ y5 y6, env = [.val (msD q L), .val (.lst (gs.map .int)), x2, .val (.lst (tr.map .int)), .val (.int (i : Nat)), y5, y6]) (L.getD i []) [.val (msD q L), .val (.lst (gs.map .int)), x2, .val (.lst (tr.map .int)), .val (.int (i : Nat)), x5, x6] ⟨_, _, rfl⟩ (fun m _ env ⟨y5, y6, e⟩ => by
        subst e
        have ho := ho_ok q m tr
        have md : mvD q m = .tup [seqD q (m.1.map .int), .bl m.2] := rfl
        rw [md]
        generalize seqD q (m.1.map D.int) = SD at *
        refine ⟨[.val (msD q L), .val (.lst (gs.map .int)), x2, .val (.lst (tr.map .int)), .val (.int (i : Nat)), .val SD, .val (.bl m.2)], by simp, _, ⟨.val SD, .val (.bl m.2), rfl⟩, ?_⟩
        generalize msD q L = MS at *
        generalize gs.map D.int = GS at *
        generalize tr.map D.int = TR at *
        cases w : mvT tr m with
        | true => rw [w] at ho; simp [ho]
        | false => rw [w] at ho; simp [ho])
      have it : ∀ x1 x2 x3 x5 x6 : Sl, (iSeq (eOp2 dIx (eVar 0) (eVar 4))) [.val (msD q L), x1, x2, x3, .val (.int (i : Nat)), x5, x6] = .ok ((L.getD i []).map (mvD q)) := fun _ _ _ _ _ => iSeq_q (q := q) (by simp [mi, -List.getD_eq_getElem?_getD]; rfl)
      refine ⟨y5, y6, ?_⟩
      subst he
      generalize (L.getD i []).all (mvT tr) = A at *
      generalize (L.getD i []).map (mvD q) = RM at *
      generalize msD q L = MS at *
      generalize gs.map D.int = GS at *
      generalize tr.map D.int = TR at *
      simp [lm, ip, ig, g, it, -iSeq_a]
      rw [show forGo _ _ _ _ = _ from lp]
  · rw [if_neg fun y => h ⟨y.1, y.2.1⟩]
    rw [decide_eq_false h] at ip
    refine ⟨x5, x6, ?_⟩
    generalize msD q L = MS at *
    generalize gs.map D.int = GS at *
    generalize tr.map D.int = TR at *
    simp [lm, ip]
theorem shows_trap_ok (q : Bool) (L : List (List Mv)) (gs : List Int) (st : Int) (tr : List Int) : f_shows_trap [msD q L, .lst (gs.map .int), .int st, .lst (tr.map .int)] = .ok (.val (.bl (trapB L gs st tr))) := by
  obtain ⟨e2, ⟨y4, y5, y6, he⟩, lp⟩ := forGo_allF (g := gName 4) (body := (sSeq (sIf (tOr (tNot (tVal (eCall f_is_place (aCons (eVar 4) (aCons (eB dLen (aCons (eVar 0) aNil)) aNil))))) (tVal (eOp2 dIn (eVar 4) (eVar 1)))) (sRet (eC (.bl false))) sNext)
  (sFor (iSeq (eOp2 dIx (eVar 0) (eVar 4))) (gTup [(gName 5), (gName 6)]) (sIf (tNot (tVal (eCall f_holds_off (aCons (eVar 5) (aCons (eVar 6) (aCons (eVar 3) aNil)))))) (sRet (eC (.bl false))) sNext)))) D.int (okZ L gs tr) (.val (.bl false)) (fun env => ∃ y4 y5 y6, env = [.val (msD q L), .val (.lst (gs.map .int)), .val (.int st), .val (.lst (tr.map .int)), y4, y5, y6]) tr [.val (msD q L), .val (.lst (gs.map .int)), .val (.int st), .val (.lst (tr.map .int)), .un, .un, .un] ⟨_, _, _, rfl⟩ (fun z _ env ⟨y4, y5, y6, e⟩ => by
    subst e
    obtain ⟨z5, z6, b⟩ := st_body q L gs (.val (.int st)) tr z y5 y6
    exact ⟨_, rfl, _, ⟨.val (.int z), z5, z6, rfl⟩, b⟩)
  have ni := dNotIn_ints st tr
  subst he
  unfold trapB
  rw [f_shows_trap, fn_4]
  generalize tr.all (okZ L gs tr) = A at *
  generalize msD q L = MS at *
  generalize gs.map D.int = GS at *
  generalize hTR : tr.map D.int = TR at *
  by_cases z : st ∈ tr
  · cases A with
    | true => simp at lp; simp [startE, List.replicate, ni, z, lp]
    | false => simp at lp; simp [startE, List.replicate, ni, z, lp]
  · simp [startE, List.replicate, ni, z]
/-! the law's judge -/
theorem lt_body (q : Bool) {n : Nat} (hn : n ≤ 40) {L : List (List Mv)} (hL : L.length = n) (ok : ∀ i, ∀ m ∈ L.getD i [], okT n m.1) (gs : List Int) (x2 : Sl) (tr : List Int) (z : Int) (x5 x6 x7 : Sl) : ∃ y5 y6 y7, (sSeq (sIf (tOr (tNot (tVal (eChain dLe dLt (eC (.int 0)) (eVar 4) (eB dLen (aCons (eVar 0) aNil))))) (tVal (eOp2 dIn (eVar 4) (eVar 1)))) (sRet (eC (.bl false))) sNext)
  (sFor (iSeq (eOp2 dIx (eVar 0) (eVar 4))) (gTup [(gName 5), (gName 6)]) (sIf (tAnd (tNot (tVal (eVar 6))) (tAnd (tVal (eOp2 dGt (eB dLen (aCons (eVar 5) aNil)) (eC (.int 0)))) (tVal (eOp2 dEq (eB dLen (aCons (eShare (fComp [7] (iSeq (eVar 5)) (gName 7) (tVal (eOp2 dIn (eVar 7) (eVar 3))) (eVar 7))) aNil)) (eC (.int 0)))))) (sRet (eC (.bl false))) sNext))) [.val (msD q L), .val (.lst (gs.map .int)), x2, .val (.lst (tr.map .int)), .val (.int z), x5, x6, x7] =
    if okZ L gs tr z = true then .next [.val (msD q L), .val (.lst (gs.map .int)), x2, .val (.lst (tr.map .int)), .val (.int z), y5, y6, y7] else .ret (.val (.bl false)) := by
  have lm := lenM q L
  have ig := dIn_ints z gs
  unfold okZ
  by_cases h0 : 0 ≤ z
  · by_cases h1 : z < L.length
    · by_cases g : z ∈ gs
      · rw [if_neg fun y => y.2.2 g]
        refine ⟨x5, x6, x7, ?_⟩
        generalize msD q L = MS at *
        generalize gs.map D.int = GS at *
        generalize tr.map D.int = TR at *
        simp [lm, h0, h1, ig, g]
      · rw [if_pos ⟨h0, h1, g⟩]
        obtain ⟨i, rfl⟩ : ∃ i : Nat, z = i := ⟨z.toNat, by omega⟩
        have mi := mv_at q (L := L) (i := i) (by omega)
        have okr := ok i
        rw [Int.toNat_natCast]
        obtain ⟨e2, ⟨y5, y6, y7, he⟩, lp⟩ := forGo_allF (g := gTup [gName 5, gName 6]) (body := (sIf (tAnd (tNot (tVal (eVar 6))) (tAnd (tVal (eOp2 dGt (eB dLen (aCons (eVar 5) aNil)) (eC (.int 0)))) (tVal (eOp2 dEq (eB dLen (aCons (eShare (fComp [7] (iSeq (eVar 5)) (gName 7) (tVal (eOp2 dIn (eVar 7) (eVar 3))) (eVar 7))) aNil)) (eC (.int 0)))))) (sRet (eC (.bl false))) sNext)) (mvD q) (mvT tr) (.val (.bl false)) (fun env => ∃ y5 y6 y7, env = [.val (msD q L), .val (.lst (gs.map .int)), x2, .val (.lst (tr.map .int)), .val (.int (i : Nat)), y5, y6, y7]) (L.getD i []) [.val (msD q L), .val (.lst (gs.map .int)), x2, .val (.lst (tr.map .int)), .val (.int (i : Nat)), x5, x6, x7] ⟨_, _, _, rfl⟩ (fun m hm env ⟨y5, y6, y7, e⟩ => by
          subst e
          have md : mvD q m = .tup [seqD q (m.1.map .int), .bl m.2] := rfl
          have ml := okT_len (okr m hm)
          have l1 : dLen [seqD q (m.1.map D.int)] = .ok (.int m.1.length) := by rw [dLen_q]; simp
          have emp : m.1.isEmpty = decide (m.1.length = 0) := by cases m.1 <;> simp
          have q3 : ∀ x6 x7, (fComp [7] (iSeq (eVar 5)) (gName 7) (tVal (eOp2 dIn (eVar 7) (eVar 3))) (eVar 7)) [.val (msD q L), .val (.lst (gs.map .int)), x2, .val (.lst (tr.map .int)), .val (.int (i : Nat)), .val (seqD q (m.1.map .int)), x6, x7] = .ok (.lst ((m.1.filter fun t => decide (t ∈ tr)).map .int)) := by
            intro x6 x7
            have it : (iSeq (eVar 5)) [.val (msD q L), .val (.lst (gs.map .int)), x2, .val (.lst (tr.map .int)), .val (.int (i : Nat)), .val (seqD q (m.1.map .int)), x6, x7] = .ok (m.1.map .int) := iSeq_q (q := q) (by simp)
            have w : wipeE [.val (msD q L), .val (.lst (gs.map .int)), x2, .val (.lst (tr.map .int)), .val (.int (i : Nat)), .val (seqD q (m.1.map .int)), x6, x7] [7] = [.val (msD q L), .val (.lst (gs.map .int)), x2, .val (.lst (tr.map .int)), .val (.int (i : Nat)), .val (seqD q (m.1.map .int)), x6, .un] := rfl
            rw [fComp_a, w, it]
            simp only [Out.bind_ok]
            rw [lc_filterI m.1 (fun t => decide (t ∈ tr)) (fun t _ => by
              have ii := dIn_ints t tr
              generalize tr.map D.int = TR at *
              simp [ii]) (by simp) (by omega)]
            rfl
          have fl : (m.1.filter fun t => decide (t ∈ tr)).length = 0 ↔ (m.1.any fun t => decide (t ∈ tr)) = false := by
            rw [List.length_eq_zero_iff, List.filter_eq_nil_iff, ← Bool.not_eq_true, List.any_eq_true]
            constructor
            · rintro h ⟨t, h1, h2⟩; exact h t h1 h2
            · intro h t h1 h2; exact h ⟨t, h1, h2⟩
          rw [md]
          refine ⟨[.val (msD q L), .val (.lst (gs.map .int)), x2, .val (.lst (tr.map .int)), .val (.int (i : Nat)), .val (seqD q (m.1.map .int)), .val (.bl m.2), y7], by simp, _, ⟨.val (seqD q (m.1.map .int)), .val (.bl m.2), y7, rfl⟩, ?_⟩
          unfold mvT
          rw [emp]
          have lF : ((m.1.filter fun t => decide (t ∈ tr)).map D.int).length = (m.1.filter fun t => decide (t ∈ tr)).length := by simp
          generalize (m.1.filter fun t => decide (t ∈ tr)) = FL at *
          generalize FL.map D.int = FD at *
          generalize (m.1.any fun t => decide (t ∈ tr)) = A at *
          generalize seqD q (m.1.map D.int) = SD at *
          generalize msD q L = MS at *
          generalize gs.map D.int = GS at *
          generalize tr.map D.int = TR at *
          cases e2 : m.2 with
          | true => simp
          | false =>
            by_cases z : m.1.length = 0
            · have z1 : m.1 = [] := List.length_eq_zero_iff.mp z
              simp [l1, z, z1]
            · have zi : (0 : Int) < m.1.length := by omega
              have zn : 0 < m.1.length := by omega
              have z1 : ¬ m.1 = [] := fun y => z (by rw [y]; rfl)
              cases A with
              | true =>
                have f0 : ¬ FL.length = 0 := fun y => by have := fl.mp y; cases this
                have f1 : ¬ FL = [] := fun y => f0 (by rw [y]; rfl)
                simp [l1, z, zi, zn, z1, q3, lF, f0, f1, -fComp_a]
              | false =>
                have f0 : FL.length = 0 := fl.mpr rfl
                have f1 : FL = [] := List.length_eq_zero_iff.mp f0
                simp [l1, z, zi, zn, z1, q3, lF, f0, f1, -fComp_a])
        have it : ∀ x1 x2 x3 x5 x6 x7 : Sl, (iSeq (eOp2 dIx (eVar 0) (eVar 4))) [.val (msD q L), x1, x2, x3, .val (.int (i : Nat)), x5, x6, x7] = .ok ((L.getD i []).map (mvD q)) := fun _ _ _ _ _ _ => iSeq_q (q := q) (by simp [mi, -List.getD_eq_getElem?_getD]; rfl)
        refine ⟨y5, y6, y7, ?_⟩
        subst he
        have h1n : i < L.length := by omega
        generalize (L.getD i []).all (mvT tr) = A at *
        generalize (L.getD i []).map (mvD q) = RM at *
        generalize msD q L = MS at *
        generalize gs.map D.int = GS at *
        generalize tr.map D.int = TR at *
        simp [lm, h1, h1n, ig, g, it, -iSeq_a]
        rw [show forGo _ _ _ _ = _ from lp]
    · rw [if_neg fun y => h1 y.2.1]
      refine ⟨x5, x6, x7, ?_⟩
      generalize msD q L = MS at *
      generalize gs.map D.int = GS at *
      generalize tr.map D.int = TR at *
      simp [lm, h0, h1]
  · rw [if_neg fun y => h0 y.1]
    refine ⟨x5, x6, x7, ?_⟩
    generalize msD q L = MS at *
    generalize gs.map D.int = GS at *
    generalize tr.map D.int = TR at *
    simp [lm, h0]
theorem ltrap_ok (q : Bool) {n : Nat} (hn : n ≤ 40) {L : List (List Mv)} (hL : L.length = n) (ok : ∀ i, ∀ m ∈ L.getD i [], okT n m.1) (gs : List Int) (st : Int) (tr : List Int) : f__law_trap_is_right [msD q L, .lst (gs.map .int), .int st, .lst (tr.map .int)] = .ok (.val (.bl (trapB L gs st tr))) := by
  obtain ⟨e2, ⟨y4, y5, y6, y7, he⟩, lp⟩ := forGo_allF (g := gName 4) (body := (sSeq (sIf (tOr (tNot (tVal (eChain dLe dLt (eC (.int 0)) (eVar 4) (eB dLen (aCons (eVar 0) aNil))))) (tVal (eOp2 dIn (eVar 4) (eVar 1)))) (sRet (eC (.bl false))) sNext)
  (sFor (iSeq (eOp2 dIx (eVar 0) (eVar 4))) (gTup [(gName 5), (gName 6)]) (sIf (tAnd (tNot (tVal (eVar 6))) (tAnd (tVal (eOp2 dGt (eB dLen (aCons (eVar 5) aNil)) (eC (.int 0)))) (tVal (eOp2 dEq (eB dLen (aCons (eShare (fComp [7] (iSeq (eVar 5)) (gName 7) (tVal (eOp2 dIn (eVar 7) (eVar 3))) (eVar 7))) aNil)) (eC (.int 0)))))) (sRet (eC (.bl false))) sNext)))) D.int (okZ L gs tr) (.val (.bl false)) (fun env => ∃ y4 y5 y6 y7, env = [.val (msD q L), .val (.lst (gs.map .int)), .val (.int st), .val (.lst (tr.map .int)), y4, y5, y6, y7]) tr [.val (msD q L), .val (.lst (gs.map .int)), .val (.int st), .val (.lst (tr.map .int)), .un, .un, .un, .un] ⟨_, _, _, _, rfl⟩ (fun z _ env ⟨y4, y5, y6, y7, e⟩ => by
    subst e
    obtain ⟨z5, z6, z7, b⟩ := lt_body q hn hL ok gs (.val (.int st)) tr z y5 y6 y7
    exact ⟨_, rfl, _, ⟨.val (.int z), z5, z6, z7, rfl⟩, b⟩)
  have ni := dNotIn_ints st tr
  subst he
  unfold trapB
  rw [f__law_trap_is_right, fn_4]
  generalize tr.all (okZ L gs tr) = A at *
  generalize msD q L = MS at *
  generalize gs.map D.int = GS at *
  generalize hTR : tr.map D.int = TR at *
  by_cases z : st ∈ tr
  · cases A with
    | true => simp at lp; simp [startE, List.replicate, ni, z, lp]
    | false => simp at lp; simp [startE, List.replicate, ni, z, lp]
  · simp [startE, List.replicate, ni, z]
theorem trapL_mem {P : List (Int × Int)} {n : Nat} {z : Int} : z ∈ trapL P n ↔ ∃ i : Nat, i < n ∧ (at2 P i).1 < 0 ∧ (i : Int) = z := by
  unfold trapL
  rw [List.mem_map]
  constructor
  · rintro ⟨i, h, rfl⟩
    obtain ⟨h1, h2⟩ := List.mem_filter.mp h
    exact ⟨i, List.mem_range.mp h1, of_decide_eq_true h2, rfl⟩
  · rintro ⟨i, h1, h2, rfl⟩
    exact ⟨i, List.mem_filter.mpr ⟨List.mem_range.mpr h1, decide_eq_true h2⟩, rfl⟩
theorem fin_trap {n : Nat} {L : List (List Mv)} (hL : L.length = n) (ok : ∀ i, ∀ m ∈ L.getD i [], okT n m.1) {gs : List Int} {P : List (Int × Int)} (F : Fin L gs P) {st : Nat} (hs : st < n) (h : (at2 P st).1 < 0) : trapB L gs (st : Nat) (trapL P n) = true := by
  unfold trapB
  rw [decide_eq_true (trapL_mem.mpr ⟨st, hs, h, rfl⟩), Bool.true_and, List.all_eq_true]
  intro z hz
  obtain ⟨i, hi, h1, rfl⟩ := trapL_mem.mp hz
  have g : (i : Int) ∉ gs := fun g => by rw [F.goal i (by omega) g] at h1; exact absurd h1 (by decide)
  unfold okZ
  rw [if_pos ⟨by omega, by omega, g⟩, Int.toNat_natCast, List.all_eq_true]
  intro m hm
  rcases F.rest i (by omega) g with ⟨_, s⟩ | ⟨r, e, h2, _⟩
  · have no := s m hm
    unfold mvT
    cases e2 : m.2 with
    | true => rfl
    | false =>
      cases e3 : m.1.isEmpty with
      | true => rfl
      | false =>
        simp only [Bool.false_or]
        rw [← Bool.not_eq_true, okE_iff] at no
        have ne : m.1 ≠ [] := fun y => by rw [y] at e3; cases e3
        have : ∃ t ∈ m.1, ¬ 0 ≤ rk P t := by
          apply Classical.byContradiction
          intro w
          exact no ⟨e2, ne, fun t ht => Classical.byContradiction fun v => w ⟨t, ht, v⟩⟩
        obtain ⟨t, ht, hr⟩ := this
        obtain ⟨a, b⟩ := (ok i m hm).2 t ht
        obtain ⟨k, rfl⟩ : ∃ k : Nat, t = k := ⟨t.toNat, by omega⟩
        rw [rk_at] at hr
        exact List.any_eq_true.mpr ⟨_, ht, decide_eq_true (trapL_mem.mpr ⟨k, by omega, by omega, rfl⟩)⟩
  · rw [h2] at h1
    have h1 : ((r : Nat) : Int) < 0 := h1
    omega
theorem is_trap_ok (tr : List Int) (hl : tr.length ≤ 1000) : f__law_is_trap [.tup [.str "held", .tup (tr.map .int)], .lst (tr.map .int)] = .ok (.val (.bl true)) := by
  have pa := paper_ok "held" (by decide +kernel) (tr.map .int)
  have i1 : dIx (.tup [.str "held", .tup (tr.map .int)]) (.int 1) = .ok (.tup (tr.map .int)) := dIx_t (xs := [.str "held", .tup (tr.map .int)]) (k := 1) (by simp)
  have rg : dRange1 [.int (tr.length : Nat)] = .ok (rangeL 0 (tr.length : Nat)) := dRange1_i (by unfold smallI; omega)
  obtain ⟨e2, lp, y2, he⟩ := forGo_inv (g := gName 2) (body := (sIf (tOr (tNot (tVal (eCall f__law_is_integer (aCons (eOp2 dIx (eOp2 dIx (eVar 0) (eC (.int 1))) (eVar 2)) aNil)))) (tVal (eOp2 dNe (eOp2 dIx (eOp2 dIx (eVar 0) (eC (.int 1))) (eVar 2)) (eOp2 dIx (eVar 1) (eVar 2))))) (sRet (eC (.bl false))) sNext)) (all := rangeL 0 (tr.length : Nat)) (env := [.val (.tup [.str "held", .tup (tr.map .int)]), .val (.lst (tr.map .int)), .un])
    (P := fun done env => ∃ y2, env = [.val (.tup [.str "held", .tup (tr.map .int)]), .val (.lst (tr.map .int)), y2]) ⟨_, rfl⟩ (fun done d rest env he ⟨y2, e1⟩ => by
      obtain ⟨hd, hlt⟩ := range0_at he
      subst hd; subst e1
      have ia := dIx_getD (xs := tr) (k := done.length) hlt
      have ib := dIx_getDl (xs := tr) (k := done.length) hlt
      have li := lis_integer (tr.getD done.length 0)
      generalize tr.getD done.length 0 = z at *
      generalize tr.map D.int = TR at *
      exact ⟨_, rfl, [.val (.tup [.str "held", .tup TR]), .val (.lst TR), .val (.int (done.length : Nat))], .inl (by simp [i1, ia, ib, li]), _, rfl⟩)
  subst he
  have lt : (tr.map D.int).length = tr.length := by simp
  rw [f__law_is_trap, fn_2]
  generalize tr.map D.int = TR at *
  simp [startE, List.replicate, pa, i1, lt, rg, lp]
end Lw
namespace Lw
open M
/-! ### the judges -/
def e20 : Int := 100000000000000000000
theorem dPow_20 : dPow (.int 10) (.int 20) = .ok (.int e20) := eqOf rfl
theorem says_b (b : Bool) : f__law_says [.bl b, .bl b] = .ok (.val (.bl true)) := by
  rw [f__law_says, fn_2]
  simp [startE, List.replicate, dIsi, tyD, subTy]
def slL (w : Bool) (xs : List D) : Sl := if w then .own (.lst xs) else .val (.lst xs)
theorem mod_nat (x : Int) {n : Nat} (hn : 0 < n) : ∃ j : Nat, x % n = j ∧ j < n := ⟨(x % n).toNat, by
  have a := Int.emod_nonneg x (show (n : Int) ≠ 0 by omega)
  have b := Int.emod_lt_of_pos x (show (0 : Int) < n by omega)
  omega⟩
theorem chP_ok {P : List (Int × Int)} {n : Nat} (hP : P.length = n) (h1 : 1 ≤ n) (h40 : n ≤ 40) (ch a b c : Int) (hc : 0 ≤ c) : ∃ (P' : List (Int × Int)) (w : Bool), f__law_changed_plan [plD false P, .int ch, .lst [.int a, .int b, .int c]] = .ok (slL w (P'.map prD)) := by
  obtain ⟨i, hi, il⟩ := mod_nat a (show 0 < n by omega)
  obtain ⟨j, hj, jl⟩ := mod_nat b (show 0 < n by omega)
  have ma := dMod_i a n (by omega)
  have mb := dMod_i b n (by omega)
  rw [hi] at ma
  rw [hj] at mb
  have lp := lenP false P
  rw [hP] at lp
  have ixi : dIx (plD false P) (.int (i : Nat)) = .ok (prD (at2 P i)) := dIx_q (q := false) (f := prD) (-1, -1) (by omega)
  have ixj : dIx (plD false P) (.int (j : Nat)) = .ok (prD (at2 P j)) := dIx_q (q := false) (f := prD) (-1, -1) (by omega)
  have n0 : dIx (.lst [.int a, .int b, .int c]) (.int 0) = .ok (.int a) := dIx_l (xs := [.int a, .int b, .int c]) (k := 0) (by simp)
  have n1 : dIx (.lst [.int a, .int b, .int c]) (.int 1) = .ok (.int b) := dIx_l (xs := [.int a, .int b, .int c]) (k := 1) (by simp)
  have n2 : dIx (.lst [.int a, .int b, .int c]) (.int 2) = .ok (.int c) := dIx_l (xs := [.int a, .int b, .int c]) (k := 2) (by simp)
  have dl : dList [plD false P] = .ok (P.map prD) := eqOf rfl
  have xi : ixN (P.map prD).length (i : Nat) = some i := ixN_lt (by rw [List.length_map]; omega)
  have xj : ∀ y, ixN ((P.map prD).set i y).length (j : Nat) = some j := fun y => ixN_lt (by rw [List.length_set, List.length_map]; omega)
  have p4 := dMod_i c 4 (by decide)
  have p9 := dMod_i c 9 (by decide)
  have p3 := dMod_i c 3 (by decide)
  obtain ⟨v, hv⟩ : ∃ v : Int, dIx (.lst [.int 1, .int (-1), .int 2, .int e20]) (.int (c % 4)) = .ok (.int v) := by
    rcases (show c % 4 = 0 ∨ c % 4 = 1 ∨ c % 4 = 2 ∨ c % 4 = 3 by omega) with e | e | e | e <;> rw [e]
    · exact ⟨_, dIx_l (xs := [.int 1, .int (-1), .int 2, .int e20]) (k := 0) (by simp)⟩
    · exact ⟨_, dIx_l (xs := [.int 1, .int (-1), .int 2, .int e20]) (k := 1) (by simp)⟩
    · exact ⟨_, dIx_l (xs := [.int 1, .int (-1), .int 2, .int e20]) (k := 2) (by simp)⟩
    · exact ⟨_, dIx_l (xs := [.int 1, .int (-1), .int 2, .int e20]) (k := 3) (by simp)⟩
  obtain ⟨u, hu⟩ : ∃ u : Int × Int, dIx (.lst [.tup [.int (-1), .int (-1)], .tup [.int 0, .int (-1)], .tup [.int 1, .int 0]]) (.int (c % 3)) = .ok (prD u) := by
    rcases (show c % 3 = 0 ∨ c % 3 = 1 ∨ c % 3 = 2 by omega) with e | e | e <;> rw [e]
    · exact ⟨(-1, -1), dIx_l (xs := [.tup [.int (-1), .int (-1)], .tup [.int 0, .int (-1)], .tup [.int 1, .int 0]]) (k := 0) (by simp)⟩
    · exact ⟨(0, -1), dIx_l (xs := [.tup [.int (-1), .int (-1)], .tup [.int 0, .int (-1)], .tup [.int 1, .int 0]]) (k := 1) (by simp)⟩
    · exact ⟨(1, 0), dIx_l (xs := [.tup [.int (-1), .int (-1)], .tup [.int 0, .int (-1)], .tup [.int 1, .int 0]]) (k := 2) (by simp)⟩
  have pI := dIx_p0 (at2 P i)
  have pI1 := dIx_p1 (at2 P i)
  have setm : ∀ (k : Nat) (p : Int × Int), (P.map prD).set k (prD p) = (P.set k p).map prD := fun k p => by rw [List.map_set]
  have pk : ∀ x y : Int, D.tup [.int x, .int y] = prD (x, y) := fun _ _ => rfl
  have lPm : (P.map prD).length = n := by simpa using hP
  rw [f__law_changed_plan, fn_3]
  generalize plD false P = PP at *
  by_cases c0 : ch = 0
  · refine ⟨P.set i ((at2 P i).1 + v, (at2 P i).2), true, ?_⟩
    rw [← setm, ← pk]
    generalize P.map prD = PM at *
    generalize prD (at2 P i) = PI at *
    simp [startE, List.replicate, lp, n0, n1, n2, ma, mb, dl, c0, ixi, pI, pI1, dPow_20, p4, hv, xi, sized, line_v, slL]
  · by_cases c1 : ch = 1
    · refine ⟨P.set i ((at2 P i).1, c % 9 - 2), true, ?_⟩
      rw [← setm, ← pk]
      generalize P.map prD = PM at *
      generalize prD (at2 P i) = PI at *
      simp [startE, List.replicate, lp, n0, n1, n2, ma, mb, dl, c1, ixi, pI, p9, xi, sized, line_v, slL]
    · by_cases c2 : ch = 2
      · refine ⟨(P.set i (at2 P j)).set j (at2 P i), true, ?_⟩
        have e : ((P.set i (at2 P j)).set j (at2 P i)).map prD = ((P.map prD).set i (prD (at2 P j))).set j (prD (at2 P i)) := by rw [List.map_set, List.map_set]
        rw [e]
        generalize P.map prD = PM at *
        generalize prD (at2 P i) = PI at *
        generalize prD (at2 P j) = PJ at *
        have xj := xj PJ
        rw [List.length_set] at xj
        simp [startE, List.replicate, lp, n0, n1, n2, ma, mb, dl, c2, ixi, ixj, xi, xj, slL]
      · by_cases c3 : ch = 3
        · refine ⟨P.set i u, true, ?_⟩
          rw [← setm]
          generalize P.map prD = PM at *
          generalize prD u = PU at *
          simp [startE, List.replicate, lp, n0, n1, n2, ma, mb, dl, c3, p3, hu, xi, sized, line_v, slL]
        · by_cases c4 : ch = 4
          · refine ⟨P.take i ++ P.drop (i + 1), false, ?_⟩
            have e : (P.take i ++ P.drop (i + 1)).map prD = (P.map prD).take i ++ (P.map prD).drop (i + 1) := by rw [List.map_append, List.map_take, List.map_drop]
            have ct := cut_take (xs := P.map prD) (p := i)
            have cd := cut_drop (xs := P.map prD) (p := i + 1)
            rw [show ((i + 1 : Nat) : Int) = (i : Int) + 1 by omega] at cd
            have ad : dAdd (.lst ((P.map prD).take i)) (.lst ((P.map prD).drop (i + 1))) = .ok (.lst ((P.map prD).take i ++ (P.map prD).drop (i + 1))) := dAdd_l (by rw [line_v, List.length_take, List.length_drop, lPm]; omega)
            rw [e]
            generalize P.map prD = PM at *
            simp [startE, List.replicate, lp, n0, n1, n2, ma, mb, dl, c4, ct, cd, ad, slL]
          · by_cases c5 : ch = 5
            · refine ⟨P ++ [at2 P i], true, ?_⟩
              have e : (P ++ [at2 P i]).map prD = P.map prD ++ [prD (at2 P i)] := by rw [List.map_append]; rfl
              have fc : fCat (.lst (P.map prD)) (.lst [prD (at2 P i)]) = .ok (P.map prD ++ [prD (at2 P i)]) := fCat_l (by rw [line_v, lPm]; simp; omega)
              rw [e]
              generalize P.map prD = PM at *
              generalize prD (at2 P i) = PI at *
              simp [startE, List.replicate, lp, n0, n1, n2, ma, mb, dl, c5, ixi, fc, sized, line_v, slL]
            · refine ⟨P, true, ?_⟩
              generalize P.map prD = PM at *
              simp [startE, List.replicate, lp, n0, n1, n2, ma, mb, dl, c0, c1, c2, c3, c4, c5, slL]
theorem chT_ok {tr : List Int} {n : Nat} (hl : tr.length ≤ 40) (h1 : 1 ≤ n) (h40 : n ≤ 40) (ch a b c : Int) : ∃ (tr' : List Int) (w : Bool), f__law_changed_trap [.lst (tr.map .int), .int ch, .lst [.int a, .int b, .int c], .int (n : Nat)] = .ok (slL w (tr'.map .int)) := by
  obtain ⟨i, hi, il⟩ := mod_nat a (show 0 < tr.length + 1 by omega)
  have ma := dMod_i a ((tr.length + 1 : Nat) : Int) (by omega)
  rw [hi] at ma
  rw [show ((tr.length + 1 : Nat) : Int) = (tr.length : Int) + 1 by omega] at ma
  have mb := dMod_i b n (by omega)
  have p3 := dMod_i c 3 (by decide)
  have n0 : dIx (.lst [.int a, .int b, .int c]) (.int 0) = .ok (.int a) := dIx_l (xs := [.int a, .int b, .int c]) (k := 0) (by simp)
  have n1 : dIx (.lst [.int a, .int b, .int c]) (.int 1) = .ok (.int b) := dIx_l (xs := [.int a, .int b, .int c]) (k := 1) (by simp)
  have n2 : dIx (.lst [.int a, .int b, .int c]) (.int 2) = .ok (.int c) := dIx_l (xs := [.int a, .int b, .int c]) (k := 2) (by simp)
  obtain ⟨v, hv⟩ : ∃ v : Int, dIx (.lst [.int (-1), .int (n : Nat), .int e20]) (.int (c % 3)) = .ok (.int v) := by
    rcases (show c % 3 = 0 ∨ c % 3 = 1 ∨ c % 3 = 2 by omega) with e | e | e <;> rw [e]
    · exact ⟨_, dIx_l (xs := [.int (-1), .int (n : Nat), .int e20]) (k := 0) (by simp)⟩
    · exact ⟨_, dIx_l (xs := [.int (-1), .int (n : Nat), .int e20]) (k := 1) (by simp)⟩
    · exact ⟨_, dIx_l (xs := [.int (-1), .int (n : Nat), .int e20]) (k := 2) (by simp)⟩
  have lt : (tr.map D.int).length = tr.length := by simp
  have ct := cut_take (xs := tr.map D.int) (p := i)
  have cd := cut_drop (xs := tr.map D.int) (p := i)
  have cd1 := cut_drop (xs := tr.map D.int) (p := i + 1)
  rw [show ((i + 1 : Nat) : Int) = (i : Int) + 1 by omega] at cd1
  have dl : dList [.lst (tr.map .int)] = .ok (tr.map .int) := eqOf rfl
  have put : ∀ z : Int, dAdd (.lst ((tr.map D.int).take i)) (.lst [.int z]) = .ok (.lst ((tr.map D.int).take i ++ [.int z])) ∧ fCat (.lst ((tr.map D.int).take i ++ [.int z])) (.lst ((tr.map D.int).drop i)) = .ok ((tr.take i ++ [z] ++ tr.drop i).map .int) := fun z => ⟨dAdd_l (by rw [line_v]; simp; omega), by
    rw [fCat_l (by rw [line_v]; simp; omega)]
    rw [List.map_append, List.map_append, List.map_take, List.map_drop]; rfl⟩
  rw [f__law_changed_trap, fn_4]
  by_cases c01 : ch = 0 ∨ ch = 1
  · refine ⟨tr.take i ++ tr.drop (i + 1), false, ?_⟩
    have e : (tr.take i ++ tr.drop (i + 1)).map D.int = (tr.map D.int).take i ++ (tr.map D.int).drop (i + 1) := by rw [List.map_append, List.map_take, List.map_drop]
    have ad : dAdd (.lst ((tr.map D.int).take i)) (.lst ((tr.map D.int).drop (i + 1))) = .ok (.lst ((tr.map D.int).take i ++ (tr.map D.int).drop (i + 1))) := dAdd_l (by rw [line_v]; simp; omega)
    rw [e]
    generalize tr.map D.int = TR at *
    rcases c01 with c0 | c0
    · simp [startE, List.replicate, lt, n0, ma, dl, c0, ct, cd1, ad, slL]
    · simp [startE, List.replicate, lt, n0, ma, dl, c0, ct, cd1, ad, slL]
  · have c0 : ¬ ch = 0 := fun y => c01 (.inl y)
    have c1 : ¬ ch = 1 := fun y => c01 (.inr y)
    by_cases c23 : ch = 2 ∨ ch = 3
    · obtain ⟨u1, u2⟩ := put (b % n)
      refine ⟨tr.take i ++ [b % n] ++ tr.drop i, true, ?_⟩
      generalize (tr.take i ++ [b % n] ++ tr.drop i).map D.int = RES at *
      generalize tr.map D.int = TR at *
      rcases c23 with c2 | c2
      · simp [startE, List.replicate, lt, n0, n1, ma, mb, dl, c2, ct, cd, u1, u2, sized, line_v, slL]
      · simp [startE, List.replicate, lt, n0, n1, ma, mb, dl, c2, ct, cd, u1, u2, sized, line_v, slL]
    · have c2 : ¬ ch = 2 := fun y => c23 (.inl y)
      have c3 : ¬ ch = 3 := fun y => c23 (.inr y)
      by_cases c4 : ch = 4
      · obtain ⟨u1, u2⟩ := put v
        refine ⟨tr.take i ++ [v] ++ tr.drop i, true, ?_⟩
        generalize (tr.take i ++ [v] ++ tr.drop i).map D.int = RES at *
        generalize tr.map D.int = TR at *
        simp [startE, List.replicate, lt, n0, n2, ma, p3, dl, c4, dPow_20, hv, ct, cd, u1, u2, sized, line_v, slL]
      · refine ⟨tr, true, ?_⟩
        generalize tr.map D.int = TR at *
        simp [startE, List.replicate, lt, n0, ma, dl, c0, c1, c2, c3, c4, slL]
theorem jud_body (q : Bool) {n : Nat} (hn : n ≤ 40) {L : List (List Mv)} (hL : L.length = n) (ok : ∀ i, ∀ m ∈ L.getD i [], okT n m.1) (gs : List Int) (x2 x5 x6 : Sl) (P P' : List (Int × Int)) (tr tr' : List Int) (w7 w8 : Bool) (z : Int) (x10 : Sl) :
    ∃ y10, (sSeq (sFreeze 7 (sFor (iSeq (eShare (fLst (aCons (eShare (fB dList (aCons (eVar 3) aNil))) (aCons (eVar 7) aNil))))) (gName 10) (sIf (tNot (tVal (eCall f__law_says (aCons (eCall f_shows_plan (aCons (eVar 0) (aCons (eVar 1) (aCons (eVar 9) (aCons (eVar 10) aNil))))) (aCons (eCall f__law_plan_is_right (aCons (eVar 0) (aCons (eVar 1) (aCons (eVar 9) (aCons (eVar 10) aNil))))) aNil))))) (sRet (eC (.bl false))) sNext)))
  (sFreeze 8 (sFor (iSeq (eShare (fLst (aCons (eShare (fB dList (aCons (eVar 4) aNil))) (aCons (eVar 8) aNil))))) (gName 10) (sIf (tNot (tVal (eCall f__law_says (aCons (eCall f_shows_trap (aCons (eVar 0) (aCons (eVar 1) (aCons (eVar 9) (aCons (eVar 10) aNil))))) (aCons (eCall f__law_trap_is_right (aCons (eVar 0) (aCons (eVar 1) (aCons (eVar 9) (aCons (eVar 10) aNil))))) aNil))))) (sRet (eC (.bl false))) sNext)))) [.val (msD q L), .val (.lst (gs.map .int)), x2, .val (plD false P), .val (.lst (tr.map .int)), x5, x6, slL w7 (P'.map prD), slL w8 (tr'.map .int), .val (.int z), x10] =
      .next [.val (msD q L), .val (.lst (gs.map .int)), x2, .val (plD false P), .val (.lst (tr.map .int)), x5, x6, slL false (P'.map prD), slL false (tr'.map .int), .val (.int z), y10] := by
  have a1 := shows_plan_ok q true hL ok gs z P
  have a2 := lplan_ok q true hn hL ok gs z P
  have b1 := shows_plan_ok q true hL ok gs z P'
  have b2 := lplan_ok q true hn hL ok gs z P'
  have c1 := shows_trap_ok q L gs z tr
  have c2 := ltrap_ok q hn hL ok gs z tr
  have d1 := shows_trap_ok q L gs z tr'
  have d2 := ltrap_ok q hn hL ok gs z tr'
  have s1 := says_b (planB L gs z P)
  have s2 := says_b (planB L gs z P')
  have s3 := says_b (trapB L gs z tr)
  have s4 := says_b (trapB L gs z tr')
  have dl : dList [plD false P] = .ok (P.map prD) := eqOf rfl
  have dt : dList [.lst (tr.map .int)] = .ok (tr.map .int) := eqOf rfl
  have a1 : f_shows_plan [msD q L, .lst (gs.map .int), .int z, .lst (P.map prD)] = _ := a1
  have a2 : f__law_plan_is_right [msD q L, .lst (gs.map .int), .int z, .lst (P.map prD)] = _ := a2
  have b1 : f_shows_plan [msD q L, .lst (gs.map .int), .int z, .lst (P'.map prD)] = _ := b1
  have b2 : f__law_plan_is_right [msD q L, .lst (gs.map .int), .int z, .lst (P'.map prD)] = _ := b2
  refine ⟨.val (.lst (tr'.map .int)), ?_⟩
  generalize msD q L = MS at *
  generalize plD false P = PF at *
  generalize P.map prD = PM at *
  generalize P'.map prD = PM' at *
  generalize gs.map D.int = GS at *
  generalize tr.map D.int = TR at *
  generalize tr'.map D.int = TR' at *
  cases w7 <;> cases w8 <;> simp [slL, Own.shared, a1, a2, b1, b2, c1, c2, d1, d2, s1, s2, s3, s4, dl, dt, sized, line_v]
theorem judges_ok (q : Bool) {n : Nat} (h1 : 1 ≤ n) (hn : n ≤ 40) {L : List (List Mv)} (hL : L.length = n) (ok : ∀ i, ∀ m ∈ L.getD i [], okT n m.1) (gs : List Int) (st : Int) {P : List (Int × Int)} (hP : P.length = n) {tr : List Int} (ht : tr.length ≤ 40) (row : List Int) (hr : row.length = 10) (r0 : ∀ i, i < 10 → 0 ≤ row.getD i 0) :
    f__law_judges_agree [msD q L, .lst (gs.map .int), .int st, plD false P, .lst (tr.map .int), .lst (row.map .int)] = .ok (.val (.bl true)) := by
  obtain ⟨j, hj, jl⟩ := mod_nat (row.getD 3 0) (show 0 < n by omega)
  have m3 := dMod_i (row.getD 3 0) n (by omega)
  rw [hj] at m3
  have m2 := dMod_i (row.getD 2 0) 2 (by decide)
  have i0 : dIx (.lst (row.map .int)) (.int 0) = .ok (.int (row.getD 0 0)) := dIx_getDl (xs := row) (k := 0) (by omega)
  have i1 : dIx (.lst (row.map .int)) (.int 1) = .ok (.int (row.getD 1 0)) := dIx_getDl (xs := row) (k := 1) (by omega)
  have i2 : dIx (.lst (row.map .int)) (.int 2) = .ok (.int (row.getD 2 0)) := dIx_getDl (xs := row) (k := 2) (by omega)
  have i3 : dIx (.lst (row.map .int)) (.int 3) = .ok (.int (row.getD 3 0)) := dIx_getDl (xs := row) (k := 3) (by omega)
  have cu : ∀ p : Nat, p + 3 ≤ 10 → cutL (row.map D.int) (some (p : Int)) (some ((p + 3 : Nat) : Int)) = [.int (row.getD p 0), .int (row.getD (p + 1) 0), .int (row.getD (p + 2) 0)] := by
    intro p hp
    rw [cut_mid (by omega) (by simp; omega), show p + 3 - p = 3 by omega, ← List.map_drop, ← List.map_take]
    have : (row.drop p).take 3 = [row.getD p 0, row.getD (p + 1) 0, row.getD (p + 2) 0] := by
      apply List.ext_getElem?
      intro i
      rw [List.getElem?_take, List.getElem?_drop]
      simp only [List.getD_eq_getElem?_getD]
      have g : ∀ k, k < row.length → row[k]? = some (row[k]?.getD 0) := fun k hk => by rw [List.getElem?_eq_getElem hk]; rfl
      match i with
      | 0 => rw [if_pos (by decide), g (p + 0) (by omega)]; rfl
      | 1 => rw [if_pos (by decide), g (p + 1) (by omega)]; rfl
      | 2 => rw [if_pos (by decide), g (p + 2) (by omega)]; rfl
      | i + 3 => rw [if_neg (by omega)]; rfl
    rw [this]; rfl
  have cu4 : cutL (row.map D.int) (some 4) (some 7) = [.int (row.getD 4 0), .int (row.getD 5 0), .int (row.getD 6 0)] := cu 4 (by omega)
  have cu7 : cutL (row.map D.int) (some 7) (some 10) = [.int (row.getD 7 0), .int (row.getD 8 0), .int (row.getD 9 0)] := cu 7 (by omega)
  obtain ⟨P', w7, cp⟩ := chP_ok hP h1 hn (row.getD 0 0) (row.getD 4 0) (row.getD 5 0) (row.getD 6 0) (r0 6 (by omega))
  obtain ⟨tr', w8, ctr⟩ := chT_ok ht h1 hn (row.getD 1 0) (row.getD 7 0) (row.getD 8 0) (row.getD 9 0)
  have lm := lenM q L
  rw [hL] at lm
  have b0 := r0 2 (by omega)
  generalize row.getD 0 0 = v0 at *
  generalize row.getD 1 0 = v1 at *
  generalize row.getD 2 0 = v2 at *
  generalize row.getD 3 0 = v3 at *
  generalize row.getD 4 0 = v4 at *
  generalize row.getD 5 0 = v5 at *
  generalize row.getD 6 0 = v6 at *
  generalize row.getD 7 0 = v7 at *
  generalize row.getD 8 0 = v8 at *
  generalize row.getD 9 0 = v9 at *
  generalize row.map D.int = RW at *
  have pl0 : ∃ z : Int, dIx (.lst [.int st, .int (j : Nat), .int (-1), .int (n : Nat)]) (.int (2 + v2 % 2)) = .ok (.int z) := by
    rcases (show v2 % 2 = 0 ∨ v2 % 2 = 1 by omega) with e | e <;> rw [e]
    · exact ⟨_, dIx_l (xs := [.int st, .int (j : Nat), .int (-1), .int (n : Nat)]) (k := 2) (by simp)⟩
    · exact ⟨_, dIx_l (xs := [.int st, .int (j : Nat), .int (-1), .int (n : Nat)]) (k := 3) (by simp)⟩
  obtain ⟨z, hz⟩ := pl0
  have s0 : dIx (.lst [.int st, .int (j : Nat), .int (-1), .int (n : Nat)]) (.int 0) = .ok (.int st) := dIx_l (xs := [.int st, .int (j : Nat), .int (-1), .int (n : Nat)]) (k := 0) (by simp)
  have s1 : dIx (.lst [.int st, .int (j : Nat), .int (-1), .int (n : Nat)]) (.int 1) = .ok (.int (j : Nat)) := dIx_l (xs := [.int st, .int (j : Nat), .int (-1), .int (n : Nat)]) (k := 1) (by simp)
  obtain ⟨e2, ⟨w7', w8', y9, y10, he⟩, lp⟩ := forGo_allF (g := gName 9) (body := (sSeq (sFreeze 7 (sFor (iSeq (eShare (fLst (aCons (eShare (fB dList (aCons (eVar 3) aNil))) (aCons (eVar 7) aNil))))) (gName 10) (sIf (tNot (tVal (eCall f__law_says (aCons (eCall f_shows_plan (aCons (eVar 0) (aCons (eVar 1) (aCons (eVar 9) (aCons (eVar 10) aNil))))) (aCons (eCall f__law_plan_is_right (aCons (eVar 0) (aCons (eVar 1) (aCons (eVar 9) (aCons (eVar 10) aNil))))) aNil))))) (sRet (eC (.bl false))) sNext)))
  (sFreeze 8 (sFor (iSeq (eShare (fLst (aCons (eShare (fB dList (aCons (eVar 4) aNil))) (aCons (eVar 8) aNil))))) (gName 10) (sIf (tNot (tVal (eCall f__law_says (aCons (eCall f_shows_trap (aCons (eVar 0) (aCons (eVar 1) (aCons (eVar 9) (aCons (eVar 10) aNil))))) (aCons (eCall f__law_trap_is_right (aCons (eVar 0) (aCons (eVar 1) (aCons (eVar 9) (aCons (eVar 10) aNil))))) aNil))))) (sRet (eC (.bl false))) sNext))))) D.int (fun _ => true) (.val (.bl false)) (fun env => ∃ w7 w8 y9 y10, env = [.val (msD q L), .val (.lst (gs.map .int)), .val (.int st), .val (plD false P), .val (.lst (tr.map .int)), .val (.lst RW), .own (.lst [.int st, .int (j : Nat), .int (-1), .int (n : Nat)]), slL w7 (P'.map prD), slL w8 (tr'.map .int), y9, y10]) [st, (j : Int), z] [.val (msD q L), .val (.lst (gs.map .int)), .val (.int st), .val (plD false P), .val (.lst (tr.map .int)), .val (.lst RW), .own (.lst [.int st, .int (j : Nat), .int (-1), .int (n : Nat)]), slL w7 (P'.map prD), slL w8 (tr'.map .int), .un, .un] ⟨_, _, _, _, rfl⟩ (fun a _ env ⟨w7, w8, y9, y10, e⟩ => by
    subst e
    obtain ⟨z10, b⟩ := jud_body q hn hL ok gs (.val (.int st)) (.val (.lst RW)) (.own (.lst [.int st, .int (j : Nat), .int (-1), .int (n : Nat)])) P P' tr tr' w7 w8 a y10
    exact ⟨_, rfl, _, ⟨false, false, .val (.int a), z10, rfl⟩, b⟩)
  have al : ([st, (j : Int), z].all fun _ => true) = true := rfl
  rw [al, List.map_cons, List.map_cons, List.map_cons, List.map_nil] at lp
  simp only [if_true] at lp
  rw [f__law_judges_agree, fn_6]
  generalize msD q L = MS at *
  generalize plD false P = PF at *
  generalize P'.map prD = PM' at *
  generalize gs.map D.int = GS at *
  generalize tr.map D.int = TR at *
  generalize tr'.map D.int = TR' at *
  subst he
  cases w7 <;> cases w8 <;> (
    simp only [slL, if_true, Bool.false_eq_true, if_false] at lp cp ctr
    simp [startE, List.replicate, i0, i1, i2, i3, m3, m2, lm, cu4, cu7, cp, ctr, slL, sized, line_v, -forGo_c]
    simp [s0, s1, hz, sized, line_v, -forGo_c]
    rw [show forGo _ _ _ _ = _ from lp]
    simp)
end Lw
namespace Lw
open M
/-! ### drawn -/
theorem dSortSet_l {ns : List Int} (h : ns.length < 60) : dSortSet [.lst (ns.map .int)] = .ok ((sortU ns).map .int) := by
  show (match intL (ns.map .int) with | some ns => if ns.length < 60 then Out.ok ((sortU ns).map D.int) else .stuck | none => .stuck) = _
  rw [intL_ints]
  show (if ns.length < 60 then _ else _) = _
  rw [if_pos h]
theorem okT_U {n : Nat} {ns : List Int} (h : ∀ t ∈ ns, 0 ≤ t ∧ t < n) : okT n (sortU ns) := ⟨sortU_lt ns, fun t ht => h t (sortU_mem.mp ht)⟩
theorem okT_range (n : Nat) : okT n ((List.range n).map fun i : Nat => (i : Int)) := by
  refine ⟨List.Pairwise.map _ (fun a b h => by omega) List.pairwise_lt_range, fun t ht => ?_⟩
  obtain ⟨i, hi, rfl⟩ := List.mem_map.mp ht
  have := List.mem_range.mp hi
  omega
theorem targets_ok {n : Nat} (h1 : 1 ≤ n) (h40 : n ≤ 40) (a b c d : Int) (ha : 0 ≤ a ∧ a < 8) : ∃ ts, f__law_targets [.lst [.int a, .int b, .int c, .int d], .int (n : Nat)] = .ok (.own (.lst (ts.map .int))) ∧ okT n ts := by
  have n0 : dIx (.lst [.int a, .int b, .int c, .int d]) (.int 0) = .ok (.int a) := dIx_l (xs := [.int a, .int b, .int c, .int d]) (k := 0) (by simp)
  have rg : dRange1 [.int (n : Nat)] = .ok (rangeL 0 (n : Nat)) := dRange1_i (by unfold smallI; omega)
  rw [f__law_targets, fn_2]
  by_cases z : a = 7
  · refine ⟨(List.range n).map fun i : Nat => (i : Int), ?_, okT_range n⟩
    have q1 : ∀ x0 x2 x3 x4, (fComp [2] (iB dRange1 (aCons (eVar 1) aNil)) (gName 2) tTrue (eVar 2)) [x0, .val (.int (n : Nat)), x2, x3, x4] = .ok (.lst (((List.range n).map fun i : Nat => (i : Int)).map .int)) := by
      intro x0 x2 x3 x4
      have w : wipeE [x0, .val (.int (n : Nat)), x2, x3, x4] [2] = [x0, .val (.int (n : Nat)), .un, x3, x4] := rfl
      rw [fComp_a, w]
      simp only [iB_a, aCons_a, aNil_a, eVar_a, List.getElem?_cons_succ, List.getElem?_cons_zero, Out.bind_ok, rg]
      rw [lc_map (g := gName 2) (fun d => d) (rangeL 0 (n : Nat)) (fun d hd => ⟨_, rfl, by simp⟩) (by rw [rangeL_len]; omega), range_nat, List.map_id', List.map_map]
      rfl
    rw [z] at n0 ⊢
    simp [startE, List.replicate, n0, q1, -fComp_a, -List.map_map]
  · obtain ⟨k, hk, kl⟩ : ∃ k : Nat, dIx (.lst [.int 0, .int 1, .int 1, .int 1, .int 2, .int 2, .int 3]) (.int a) = .ok (.int (k : Nat)) ∧ k ≤ 3 := by
      rcases (show a = 0 ∨ a = 1 ∨ a = 2 ∨ a = 3 ∨ a = 4 ∨ a = 5 ∨ a = 6 by omega) with e | e | e | e | e | e | e <;> rw [e]
      · exact ⟨0, eqOf rfl, by decide⟩
      · exact ⟨1, eqOf rfl, by decide⟩
      · exact ⟨1, eqOf rfl, by decide⟩
      · exact ⟨1, eqOf rfl, by decide⟩
      · exact ⟨2, eqOf rfl, by decide⟩
      · exact ⟨2, eqOf rfl, by decide⟩
      · exact ⟨3, eqOf rfl, by decide⟩
    obtain ⟨l, hl⟩ : ∃ l : List Int, l = ([b, c, d].take k).map fun z => z % (n : Int) := ⟨_, rfl⟩
    have ll : l.length ≤ 3 := by rw [hl, List.length_map, List.length_take]; simp; omega
    refine ⟨sortU l, ?_, okT_U fun t ht => ?_⟩
    · have cu : cutL [D.int a, .int b, .int c, .int d] (some 1) (some (1 + (k : Int))) = ([b, c, d].take k).map .int := by
        have := cut_mid (xs := [D.int a, .int b, .int c, .int d]) (p := 1) (q := 1 + k) (by omega) (by simp; omega)
        rw [show ((1 + k : Nat) : Int) = 1 + (k : Int) by omega, show ((1 : Nat) : Int) = 1 from rfl] at this
        rw [this, show 1 + k - 1 = k by omega, List.map_take]; rfl
      have q2 : ∀ x2 x4, (fComp [4] (iSeq (eSl (eVar 0) (oSome (eC (.int 1))) (oSome (eOp2 dAdd (eC (.int 1)) (eVar 3))))) (gName 4) tTrue (eOp2 dMod (eB dInt (aCons (eVar 4) aNil)) (eVar 1))) [.val (.lst [.int a, .int b, .int c, .int d]), .val (.int (n : Nat)), x2, .val (.int (k : Nat)), x4] = .ok (.lst (l.map .int)) := by
        intro x2 x4
        have w : wipeE [.val (.lst [.int a, .int b, .int c, .int d]), .val (.int (n : Nat)), x2, .val (.int (k : Nat)), x4] [4] = [.val (.lst [.int a, .int b, .int c, .int d]), .val (.int (n : Nat)), x2, .val (.int (k : Nat)), .un] := rfl
        have it : (iSeq (eSl (eVar 0) (oSome (eC (.int 1))) (oSome (eOp2 dAdd (eC (.int 1)) (eVar 3))))) [.val (.lst [.int a, .int b, .int c, .int d]), .val (.int (n : Nat)), x2, .val (.int (k : Nat)), x4] = .ok (([b, c, d].take k).map .int) := iSeq_q (q := true) (by simp [cu]; rfl)
        rw [fComp_a, w, it]
        simp only [Out.bind_ok]
        rw [lc_map (g := gName 4) (fun d => match d with | .int z => .int (z % (n : Int)) | d => d) (([b, c, d].take k).map .int) (fun d hd => by
          obtain ⟨z, _, rfl⟩ := List.mem_map.mp hd
          have mm := dMod_i z n (by omega)
          exact ⟨_, rfl, by simp [mm]⟩) (by simp; omega)]
        simp only [Out.bind_ok]
        rw [List.map_map, hl, List.map_map]
        rfl
      have ss := dSortSet_l (ns := l) (by omega)
      generalize l.map D.int = LD at *
      simp [startE, List.replicate, n0, z, hk, q2, ss, -fComp_a]
    · rw [hl] at ht
      obtain ⟨z, _, rfl⟩ := List.mem_map.mp ht
      exact ⟨Int.emod_nonneg _ (by omega), Int.emod_lt_of_pos _ (by omega)⟩
theorem four {l : List Int} {p : Nat} (h : p + 4 ≤ l.length) : (l.drop p).take 4 = [l.getD p 0, l.getD (p + 1) 0, l.getD (p + 2) 0, l.getD (p + 3) 0] := by
  apply List.ext_getElem?
  intro i
  rw [List.getElem?_take, List.getElem?_drop]
  simp only [List.getD_eq_getElem?_getD]
  have g : ∀ k, k < l.length → l[k]? = some (l[k]?.getD 0) := fun k hk => by rw [List.getElem?_eq_getElem hk]; rfl
  match i with
  | 0 => rw [if_pos (by decide), g (p + 0) (by omega)]; rfl
  | 1 => rw [if_pos (by decide), g (p + 1) (by omega)]; rfl
  | 2 => rw [if_pos (by decide), g (p + 2) (by omega)]; rfl
  | 3 => rw [if_pos (by decide), g (p + 3) (by omega)]; rfl
  | i + 4 => rw [if_neg (by omega)]; rfl
theorem fl5 (n : Nat) (i : Nat) (h : i < 5 * n) : ((List.replicate n [(8 : Int), 60, 60, 60, 5]).flatten).getD i 0 = [(8 : Int), 60, 60, 60, 5].getD (i % 5) 0 := by
  induction n generalizing i with
  | zero => omega
  | succ n ih =>
    rw [List.replicate_succ, List.flatten_cons]
    by_cases hi : i < 5
    · rw [getD_app1 (by simpa using hi), Nat.mod_eq_of_lt hi]
    · have := getD_app2 (a := [(8 : Int), 60, 60, 60, 5]) (b := (List.replicate n [(8 : Int), 60, 60, 60, 5]).flatten) (i := i - 5)
      rw [show [(8 : Int), 60, 60, 60, 5].length + (i - 5) = i by simp; omega] at this
      rw [this, ih (i - 5) (by omega), show (i - 5) % 5 = i % 5 by omega]
theorem moves_ok {NS : List D} (hc : ∀ k : Nat, ∃ z : Int, f__law_cell [.lst NS, .int (k : Nat)] = .ok (.val (.int z))) {n many : Nat} (h1 : 1 ≤ n) (h40 : n ≤ 40) (hm : many ≤ 6) : ∃ L : List (List Mv), f__law_moves [.lst NS, .int (n : Nat), .int (many : Nat)] = .ok (.own (.lst (L.map (rwD true)))) ∧ okMs n many L := by
  have rg : dRange1 [.int (n : Nat)] = .ok (rangeL 0 (n : Nat)) := dRange1_i (by unfold smallI; omega)
  have rm : dRange1 [.int (many : Nat)] = .ok (rangeL 0 (many : Nat)) := dRange1_i (by unfold smallI; omega)
  obtain ⟨SZ, hSZ⟩ : ∃ SZ : List Int, SZ = (List.replicate many [8, 60, 60, 60, 5]).flatten := ⟨_, rfl⟩
  have szl : SZ.length = 5 * many := by rw [hSZ, rep_len]; simp; omega
  have szp : ∀ b ∈ SZ, 0 < b ∧ b < 1073741824 := fun b hb => by
    rw [hSZ] at hb
    have := rep_mem hb
    simp at this
    omega
  have fr := fRep_i (n := many) (l := [8, 60, 60, 60, 5]) (by omega) (by decide)
  rw [← hSZ] at fr
  have fr : fRep (.lst [.int 8, .int 60, .int 60, .int 60, .int 5]) (.int (many : Nat)) = .ok (SZ.map .int) := fr
  obtain ⟨e2, lp, L, y4, y5, y6, y7, he, g1, g2⟩ := forGo_inv (g := gName 4) (body := (sSeq (sSetCall 5 f__law_row (aCons (eOp2 dAdd (eCall f__law_cell (aCons (eVar 0) (aCons (eOp2 dAdd (eC (.int 3)) (eVar 4)) aNil))) (eOp2 dMul (eC (.int 131)) (eVar 4))) (aCons (eShare (fRepO (fLst (aCons (eC (.int 8)) (aCons (eC (.int 60)) (aCons (eC (.int 60)) (aCons (eC (.int 60)) (aCons (eC (.int 5)) aNil)))))) (eVar 2))) aNil)))
  (sSeq (sSetF 6 (fLst aNil))
  (sSeq (sFor (iB dRange1 (aCons (eVar 2) aNil)) (gName 7) (sAppend 6 (eTup (aCons (eCall f__law_targets (aCons (eSl (ePeek 5) (oSome (eOp2 dMul (eC (.int 5)) (eVar 7))) (oSome (eOp2 dAdd (eOp2 dMul (eC (.int 5)) (eVar 7)) (eC (.int 4))))) (aCons (eVar 1) aNil))) (aCons (eOp2 dEq (eOp2 dIx (ePeek 5) (eOp2 dAdd (eOp2 dMul (eC (.int 5)) (eVar 7)) (eC (.int 4)))) (eC (.int 1))) aNil)))))
  (sFreeze 6 (sAppend 3 (eVar 6))))))) (all := rangeL 0 (n : Nat)) (env := [.val (.lst NS), .val (.int (n : Nat)), .val (.int (many : Nat)), .own (.lst []), .un, .un, .un, .un])
    (P := fun done env => ∃ (L : List (List Mv)) (y4 y5 y6 y7 : Sl), env = [.val (.lst NS), .val (.int (n : Nat)), .val (.int (many : Nat)), .own (.lst (L.map (rwD true))), y4, y5, y6, y7] ∧ L.length = done.length ∧ ∀ r ∈ L, r.length = many ∧ ∀ m ∈ r, okT n m.1)
    ⟨[], _, _, _, _, rfl, rfl, fun r hr => by cases hr⟩ (fun done d rest env he ⟨L, y4, y5, y6, y7, e1, h2, h3⟩ => by
      obtain ⟨hd, hlt⟩ := range0_at he
      subst hd; subst e1
      obtain ⟨z, cz⟩ := hc (3 + done.length)
      rw [show ((3 + done.length : Nat) : Int) = 3 + (done.length : Int) by omega] at cz
      have mk := mulL 131 (done.length : Int) (by decide)
      obtain ⟨row, hr, hr1⟩ := row_ok (z + 131 * (done.length : Int)) true SZ szp (by omega)
      have hr : f__law_row [.int (z + 131 * (done.length : Int)), .lst (SZ.map .int)] = .ok (.own (.lst (row.map .int))) := hr
      have rl : row.length = 5 * many := by rw [hr1.1, szl]
      -- the pairs
      obtain ⟨e3, lp2, R, z7, he3, k1, k2⟩ := forGo_inv (g := gName 7) (body := (sAppend 6 (eTup (aCons (eCall f__law_targets (aCons (eSl (ePeek 5) (oSome (eOp2 dMul (eC (.int 5)) (eVar 7))) (oSome (eOp2 dAdd (eOp2 dMul (eC (.int 5)) (eVar 7)) (eC (.int 4))))) (aCons (eVar 1) aNil))) (aCons (eOp2 dEq (eOp2 dIx (ePeek 5) (eOp2 dAdd (eOp2 dMul (eC (.int 5)) (eVar 7)) (eC (.int 4)))) (eC (.int 1))) aNil))))) (all := rangeL 0 (many : Nat)) (env := [.val (.lst NS), .val (.int (n : Nat)), .val (.int (many : Nat)), .own (.lst (L.map (rwD true))), .val (.int (done.length : Nat)), .own (.lst (row.map .int)), .own (.lst []), y7])
        (P := fun done2 env => ∃ (R : List Mv) (z7 : Sl), env = [.val (.lst NS), .val (.int (n : Nat)), .val (.int (many : Nat)), .own (.lst (L.map (rwD true))), .val (.int (done.length : Nat)), .own (.lst (row.map .int)), .own (.lst (R.map (mvD true))), z7] ∧ R.length = done2.length ∧ ∀ m ∈ R, okT n m.1)
        ⟨[], _, rfl, rfl, fun m hm => by cases hm⟩ (fun done2 d rest env he ⟨R, z7, e1, k1, k2⟩ => by
          obtain ⟨hd, hl2⟩ := range0_at he
          subst hd; subst e1
          have m5 := mulL 5 (done2.length : Int) (by decide)
          have cu : cutL (row.map D.int) (some (5 * (done2.length : Int))) (some (5 * (done2.length : Int) + 4)) = [.int (row.getD (5 * done2.length) 0), .int (row.getD (5 * done2.length + 1) 0), .int (row.getD (5 * done2.length + 2) 0), .int (row.getD (5 * done2.length + 3) 0)] := by
            have := cut_mid (xs := row.map D.int) (p := 5 * done2.length) (q := 5 * done2.length + 4) (by omega) (by simp; omega)
            rw [show ((5 * done2.length + 4 : Nat) : Int) = 5 * (done2.length : Int) + 4 by omega, show ((5 * done2.length : Nat) : Int) = 5 * (done2.length : Int) by omega] at this
            rw [this, show 5 * done2.length + 4 - 5 * done2.length = 4 by omega, ← List.map_drop, ← List.map_take, four (by omega)]; rfl
          have i4 := dIx_getDl (xs := row) (k := 5 * done2.length + 4) (by omega)
          rw [show ((5 * done2.length + 4 : Nat) : Int) = 5 * (done2.length : Int) + 4 by omega] at i4
          have r0 := hr1.2 (5 * done2.length) (by omega)
          have s0 : SZ.getD (5 * done2.length) 0 = 8 := by
            rw [hSZ, fl5 _ _ (by omega), show 5 * done2.length % 5 = 0 by omega]; rfl
          rw [s0] at r0
          obtain ⟨ts, t1, t2⟩ := targets_ok h1 h40 (row.getD (5 * done2.length) 0) (row.getD (5 * done2.length + 1) 0) (row.getD (5 * done2.length + 2) 0) (row.getD (5 * done2.length + 3) 0) r0
          generalize [D.int (row.getD (5 * done2.length) 0), .int (row.getD (5 * done2.length + 1) 0), .int (row.getD (5 * done2.length + 2) 0), .int (row.getD (5 * done2.length + 3) 0)] = R4 at *
          generalize row.getD (5 * done2.length + 4) 0 = v4 at *
          refine ⟨_, rfl, [.val (.lst NS), .val (.int (n : Nat)), .val (.int (many : Nat)), .own (.lst (L.map (rwD true))), .val (.int (done.length : Nat)), .own (.lst (row.map .int)), .own (.lst ((R ++ [(ts, decide (v4 = 1))]).map (mvD true))), .val (.int (done2.length : Nat))], .inl ?_, _, _, rfl, by simp [k1], fun m hm => ?_⟩
          · have lR : (R.map (mvD true)).length = R.length := by simp
            have lt : R.length < 16777216 := by omega
            rw [List.map_append, show [(ts, decide (v4 = 1))].map (mvD true) = [.tup [.lst (ts.map .int), .bl (decide (v4 = 1))]] from rfl]
            generalize R.map (mvD true) = RM at *
            generalize ts.map D.int = TS at *
            generalize L.map (rwD true) = LM at *
            simp [m5, cu, t1, i4, sized, line_v, lR, lt, Sl.shared]
          · rcases List.mem_append.mp hm with e | e
            · exact k2 m e
            · rw [List.mem_singleton.mp e]; exact t2)
      rw [rangeL_len, show ((many : Int) - 0).toNat = many by omega] at k1
      subst he3
      refine ⟨_, rfl, [.val (.lst NS), .val (.int (n : Nat)), .val (.int (many : Nat)), .own (.lst ((L ++ [R]).map (rwD true))), .val (.int (done.length : Nat)), .own (.lst (row.map .int)), .val (.lst (R.map (mvD true))), z7], .inl ?_, _, _, _, _, _, rfl, by simp [h2], fun r hr => ?_⟩
      · have lL : (L.map (rwD true)).length = L.length := by simp
        have lt : L.length < 16777216 := by omega
        rw [List.map_append, show [R].map (rwD true) = [.lst (R.map (mvD true))] from rfl]
        generalize R.map (mvD true) = RM at *
        generalize L.map (rwD true) = LM at *
        generalize SZ.map D.int = SD at *
        generalize row.map D.int = RW at *
        simp [cz, mk, fr, hr, rm, lp2, lL, lt, line_v, Own.shared]
      · rcases List.mem_append.mp hr with e | e
        · exact h3 r e
        · rw [List.mem_singleton.mp e]; exact ⟨k1, k2⟩)
  rw [rangeL_len, show ((n : Int) - 0).toNat = n by omega] at g1
  subst he
  refine ⟨L, ?_, g1, h1, h40, hm, g2⟩
  rw [f__law_moves, fn_3]
  generalize L.map (rwD true) = LM at *
  simp [startE, List.replicate, rg, lp]
theorem copied_ok {n many : Nat} {L : List (List Mv)} (h : okMs n many L) (b : Bool) : f__law_copied [msD true L, .bl b] = .ok (if b then .val (msD false L) else .own (.lst (L.map (rwD true)))) := by
  obtain ⟨h1, h2, h3, h4, h5⟩ := h
  have rin : ∀ (x0 x1 x2 : Sl) (r : List Mv), r ∈ L → (fComp [2] (iSeq (eVar 3)) (gName 2) tTrue (eTup (aCons (eB dTuple (aCons (eOp2 dIx (eVar 2) (eC (.int 0))) aNil)) (aCons (eOp2 dIx (eVar 2) (eC (.int 1))) aNil)))) [x0, x1, x2, .val (rwD true r)] = .ok (.lst (r.map (mvD false))) ∧ (fComp [2] (iSeq (eVar 3)) (gName 2) tTrue (eTup (aCons (eShare (fB dList (aCons (eOp2 dIx (eVar 2) (eC (.int 0))) aNil))) (aCons (eOp2 dIx (eVar 2) (eC (.int 1))) aNil)))) [x0, x1, x2, .val (rwD true r)] = .ok (.lst (r.map (mvD true))) := by
    intro x0 x1 x2 r hr
    have rl := (h5 r hr).1
    have it : (iSeq (eVar 3)) [x0, x1, x2, .val (rwD true r)] = .ok (r.map (mvD true)) := iSeq_q (q := true) (by simp [rwD])
    have w : wipeE [x0, x1, x2, .val (rwD true r)] [2] = [x0, x1, .un, .val (rwD true r)] := rfl
    have ix : ∀ m : Mv, dIx (mvD true m) (.int 0) = .ok (.lst (m.1.map .int)) ∧ dIx (mvD true m) (.int 1) = .ok (.bl m.2) := fun m => ⟨dIx_t (xs := [.lst (m.1.map .int), .bl m.2]) (k := 0) (by simp), dIx_t (xs := [.lst (m.1.map .int), .bl m.2]) (k := 1) (by simp)⟩
    constructor
    · rw [fComp_a, w, it]
      simp only [Out.bind_ok]
      rw [lc_map (g := gName 2) (fun d => match d with | .tup [.lst t, .bl e] => .tup [.tup t, .bl e] | d => d) (r.map (mvD true)) (fun d hd => by
        obtain ⟨m, _, rfl⟩ := List.mem_map.mp hd
        obtain ⟨a, b⟩ := ix m
        refine ⟨_, rfl, ?_⟩
        show _ = Out.ok (D.tup [.tup (m.1.map .int), .bl m.2])
        generalize mvD true m = MM at *
        generalize m.1.map D.int = TS at *
        simp [a, b, sized, line_v]) (by simp; omega)]
      simp only [Out.bind_ok]
      rw [List.map_map]; rfl
    · rw [fComp_a, w, it]
      simp only [Out.bind_ok]
      rw [lc_map (g := gName 2) (fun d => d) (r.map (mvD true)) (fun d hd => by
        obtain ⟨m, _, rfl⟩ := List.mem_map.mp hd
        obtain ⟨a, b⟩ := ix m
        refine ⟨_, rfl, ?_⟩
        have md : mvD true m = .tup [.lst (m.1.map .int), .bl m.2] := rfl
        have dl : dList [.lst (m.1.map .int)] = .ok (m.1.map .int) := eqOf rfl
        rw [md] at a b ⊢
        generalize m.1.map D.int = TS at *
        simp [a, b, dl, sized, line_v]) (by simp; omega)]
      rw [List.map_id']; rfl
  rw [f__law_copied, fn_2]
  have it : ∀ x1 x2 x3 : Sl, (iSeq (eVar 0)) [.val (msD true L), x1, x2, x3] = .ok (L.map (rwD true)) := fun _ _ _ => iSeq_q (q := true) (by simp [msD])
  cases b with
  | true =>
    have q1 : ∀ x1 x2 x3, (fComp [3] (iSeq (eVar 0)) (gName 3) tTrue (eB dTuple (aCons (eShare (fComp [2] (iSeq (eVar 3)) (gName 2) tTrue (eTup (aCons (eB dTuple (aCons (eOp2 dIx (eVar 2) (eC (.int 0))) aNil)) (aCons (eOp2 dIx (eVar 2) (eC (.int 1))) aNil))))) aNil))) [.val (msD true L), x1, x2, x3] = .ok (.lst (L.map (rwD false))) := by
      intro x1 x2 x3
      have w : wipeE [.val (msD true L), x1, x2, x3] [3] = [.val (msD true L), x1, x2, .un] := rfl
      rw [fComp_a, w, it]
      simp only [Out.bind_ok]
      have key : ∀ (l : List (List Mv)) (acc : List D), (∀ r ∈ l, r ∈ L) → acc.length + l.length ≤ 1000 → lcGo (gName 3) tTrue (eB dTuple (aCons (eShare (fComp [2] (iSeq (eVar 3)) (gName 2) tTrue (eTup (aCons (eB dTuple (aCons (eOp2 dIx (eVar 2) (eC (.int 0))) aNil)) (aCons (eOp2 dIx (eVar 2) (eC (.int 1))) aNil))))) aNil)) (l.map (rwD true)) [.val (msD true L), x1, x2, .un] acc = .ok (acc ++ l.map (rwD false)) := by
        intro l
        induction l with
        | nil => intro acc _ _; simp [lcGo]
        | cons r l ih =>
          intro acc hl hn
          rw [List.map_cons]
          unfold lcGo
          have rr := (rin (.val (msD true L)) x1 x2 r (hl r List.mem_cons_self)).1
          have rd : rwD false r = .tup (r.map (mvD false)) := rfl
          simp only [gName_a, List.set_cons_succ, List.set_cons_zero]
          rw [tTrue_a]
          simp only [Out.calm, Out.bind_ok, if_true]
          simp only [eB_a, aCons_a, aNil_a, eShare_a, rr, Out.bind_ok, Own.shared, dTuple_l, Out.calm]
          rw [if_pos (by rw [line_v]; simp at hn; omega), ← rd, ih (acc ++ [rwD false r]) (fun k hk => hl k (List.mem_cons_of_mem _ hk)) (by simp at hn ⊢; omega)]
          simp
      rw [show lcGo _ _ _ _ _ _ = _ from key L [] (fun r hr => hr) (by simp; omega)]
      simp
    generalize msD true L = MS at *
    have md : msD false L = .tup (L.map (rwD false)) := rfl
    rw [md]
    generalize L.map (rwD false) = LF at *
    simp [startE, List.replicate, q1, -fComp_a]
  | false =>
    have q1 : ∀ x1 x2 x3, (fComp [3] (iSeq (eVar 0)) (gName 3) tTrue (eShare (fComp [2] (iSeq (eVar 3)) (gName 2) tTrue (eTup (aCons (eShare (fB dList (aCons (eOp2 dIx (eVar 2) (eC (.int 0))) aNil))) (aCons (eOp2 dIx (eVar 2) (eC (.int 1))) aNil)))))) [.val (msD true L), x1, x2, x3] = .ok (.lst (L.map (rwD true))) := by
      intro x1 x2 x3
      have w : wipeE [.val (msD true L), x1, x2, x3] [3] = [.val (msD true L), x1, x2, .un] := rfl
      rw [fComp_a, w, it]
      simp only [Out.bind_ok]
      have key : ∀ (l : List (List Mv)) (acc : List D), (∀ r ∈ l, r ∈ L) → acc.length + l.length ≤ 1000 → lcGo (gName 3) tTrue (eShare (fComp [2] (iSeq (eVar 3)) (gName 2) tTrue (eTup (aCons (eShare (fB dList (aCons (eOp2 dIx (eVar 2) (eC (.int 0))) aNil))) (aCons (eOp2 dIx (eVar 2) (eC (.int 1))) aNil))))) (l.map (rwD true)) [.val (msD true L), x1, x2, .un] acc = .ok (acc ++ l.map (rwD true)) := by
        intro l
        induction l with
        | nil => intro acc _ _; simp [lcGo]
        | cons r l ih =>
          intro acc hl hn
          rw [List.map_cons]
          unfold lcGo
          have rr := (rin (.val (msD true L)) x1 x2 r (hl r List.mem_cons_self)).2
          have rd : D.lst (r.map (mvD true)) = rwD true r := rfl
          simp only [gName_a, List.set_cons_succ, List.set_cons_zero]
          rw [tTrue_a]
          simp only [Out.calm, Out.bind_ok, if_true]
          simp only [eShare_a, rr, Out.bind_ok, Own.shared, Out.calm]
          rw [if_pos (by rw [line_v]; simp at hn; omega), rd, ih (acc ++ [rwD true r]) (fun k hk => hl k (List.mem_cons_of_mem _ hk)) (by simp at hn ⊢; omega)]
          simp
      rw [show lcGo _ _ _ _ _ _ = _ from key L [] (fun r hr => hr) (by simp; omega)]
      simp
    generalize msD true L = MS at *
    generalize L.map (rwD true) = LF at *
    simp [startE, List.replicate, q1, -fComp_a]
end Lw
namespace Lw
open M
/-! ### a given list: by reckoning -/
theorem fng_1 {n : Nat} {s : CS} {xs : List D} (a : D) (h : 1 < n) : fng 1 n s xs [a] = (s (.own (.lst xs) :: .val a :: List.replicate (n - 2) .un)).out := by unfold fng; rw [if_pos ⟨rfl, h⟩]; rfl
theorem fng_2 {n : Nat} {s : CS} {xs : List D} (a b : D) (h : 2 < n) : fng 2 n s xs [a, b] = (s (.own (.lst xs) :: .val a :: .val b :: List.replicate (n - 3) .un)).out := by unfold fng; rw [if_pos ⟨rfl, h⟩]; rfl
@[simp] theorem sSetCallG_a (x : Nat) (F : FnG) (i : Nat) (al : CA) (env : Env) : sSetCallG x F i al env = match env[i]? with
  | some (.own (.lst xs)) => (al env).fl env fun ds => (match F xs ds with
    | .ok (.val d) => .next ((env.set i .un).set x (.val d))
    | .ok (.own o) => .next ((env.set i .un).set x (.own o))
    | _ => .stuck)
  | _ => .stuck := eqOf rfl
end Lw
namespace Lw
open M
/-! ### chained -/
theorem dSortedP_l (ps : List (Int × Int)) : dSortedP [.lst (ps.map prD)] = .ok ((sortP ps).map prD) := by
  show (match prL (ps.map prD) with | some qs => Out.ok ((sortP qs).map prD) | none => .stuck) = _
  rw [prL_of]
theorem dMinP_l (p : Int × Int) (ps : List (Int × Int)) : dMinP [.lst ((p :: ps).map prD)] = .ok (prD (minP p ps)) := by
  show (match prL ((p :: ps).map prD) with | some (p :: qs) => Out.ok (prD (minP p qs)) | _ => .stuck) = _
  rw [prL_of]
theorem set_ok {n many : Nat} {L : List (List Mv)} (h : ∀ r ∈ L, r.length = many ∧ ∀ m ∈ r, okT n m.1) {R : List Mv} (h1 : R.length = many) (h2 : ∀ m ∈ R, okT n m.1) (i : Nat) : ∀ r ∈ L.set i R, r.length = many ∧ ∀ m ∈ r, okT n m.1 := by
  intro r hr
  rcases List.mem_or_eq_of_mem_set hr with e | e
  · exact h r e
  · rw [e]; exact ⟨h1, h2⟩
theorem range1_at {n : Nat} {done rest : List D} {d : D} (h : rangeL 1 (n : Nat) = done ++ d :: rest) : d = .int ((done.length + 1 : Nat) : Int) ∧ done.length + 1 < n := by
  have e : (rangeL 1 (n : Nat))[done.length]? = some d := by rw [h, List.getElem?_append_right (Nat.le_refl _)]; simp
  have l := congrArg List.length h
  rw [rangeL_len, List.length_append, List.length_cons] at l
  unfold rangeL at e
  rw [List.getElem?_map, List.getElem?_range (by omega)] at e
  injection e with e
  exact ⟨by rw [← e]; exact congrArg D.int (by omega), by omega⟩
theorem ch_body {n many : Nat} (h1 : 1 ≤ n) (h40 : n ≤ 40) (h0 : 0 < many) (hm : many ≤ 6) {ks es ln : List Int} (hk : ks.length = n) (he : es.length = n) (e0 : ∀ i, i < n → 0 ≤ es.getD i 0) (hl : ln.length = n) (l0 : ∀ i, i < n → 0 ≤ ln.getD i 0 ∧ ln.getD i 0 < n)
    (x3 x4 x6 : Sl) (a : Nat) (ha1 : 1 ≤ a) (ha : a < n) (x8 x9 x10 x11 x12 x13 x14 : Sl) (L : List (List Mv)) (hL : L.length = n) (ok : ∀ r ∈ L, r.length = many ∧ ∀ m ∈ r, okT n m.1) :
    ∃ (L' : List (List Mv)) (y8 y9 y10 y11 y12 y13 y14 : Sl), (sSeq (sSet 8 (eOp2 dIx (ePeek 5) (eVar 7)))
  (sSeq (sSet 9 (eOp2 dMod (eOp2 dIx (eVar 2) (eVar 7)) (eB dLen (aCons (eOp2 dIx (ePeek 0) (eVar 8)) aNil))))
  (sSeq (sSetF 10 (fLst aNil))
  (sSeq (sFor (iB dRange1 (aCons (eB dLen (aCons (eOp2 dIx (ePeek 0) (eVar 8)) aNil)) aNil)) (gName 11) (sSeq (sSetTg (gTup [(gName 12), (gName 13)]) (eOp2 dIx (eOp2 dIx (ePeek 0) (eVar 8)) (eVar 11)))
  (sIf (tVal (eOp2 dEq (eVar 11) (eVar 9))) (sSeq (sSetF 14 (fLst (aCons (eOp2 dIx (ePeek 5) (eOp2 dSub (eVar 7) (eC (.int 1)))) (aCons (eOp2 dIx (ePeek 5) (eOp2 dMod (eB dInt (aCons (eOp2 dIx (eVar 1) (eVar 7)) aNil)) (eVar 7))) aNil))))
  (sAppend 10 (eTup (aCons (eShare (fB dSortSet (aCons (eSl (ePeek 14) oNo (oSome (eOp2 dAdd (eC (.int 1)) (eOp2 dMod (eOp2 dFdiv (eOp2 dIx (eVar 2) (eVar 7)) (eC (.int 6))) (eC (.int 2)))))) aNil))) (aCons (eC (.bl false)) aNil))))) (sAppend 10 (eTup (aCons (eShare (fB dSortSet (aCons (eOp2 dAdd (eVar 12) (eShare (fLst (aCons (eOp2 dIx (ePeek 5) (eB dMin2 (aCons (eOp2 dAdd (eVar 7) (eC (.int 1))) (aCons (eOp2 dSub (eB dLen (aCons (ePeek 5) aNil)) (eC (.int 1))) aNil)))) aNil)))) aNil))) (aCons (eVar 13) aNil)))))))
  (sFreeze 10 (sSetIx 0 (eVar 8) (eVar 10))))))) [.own (.lst (L.map (rwD true))), .val (.lst (ks.map .int)), .val (.lst (es.map .int)), x3, x4, .own (.lst (ln.map .int)), x6, .val (.int (a : Nat)), x8, x9, x10, x11, x12, x13, x14] =
      .next [.own (.lst (L'.map (rwD true))), .val (.lst (ks.map .int)), .val (.lst (es.map .int)), x3, x4, .own (.lst (ln.map .int)), x6, .val (.int (a : Nat)), y8, y9, y10, y11, y12, y13, y14] ∧ L'.length = n ∧ ∀ r ∈ L', r.length = many ∧ ∀ m ∈ r, okT n m.1 := by
  obtain ⟨r, hr⟩ : ∃ r : Nat, ln.getD a 0 = r := ⟨(ln.getD a 0).toNat, by have := l0 a ha; omega⟩
  have rn : r < n := by have := l0 a ha; omega
  have ia := dIx_getDl (xs := ln) (k := a) (by omega)
  rw [hr] at ia
  have ie := dIx_getDl (xs := es) (k := a) (by omega)
  have ik := dIx_getDl (xs := ks) (k := a) (by omega)
  have im := mv_at true (L := L) (i := r) (by omega)
  have im : dIx (.lst (L.map (rwD true))) (.int (r : Nat)) = .ok (rwD true (L.getD r [])) := im
  obtain ⟨rl, rok⟩ := ok _ (getD_inn (d := ([] : List Mv)) (show r < L.length by omega))
  generalize hW : L.getD r [] = W at *
  have lr := lenR true W
  rw [rl] at lr
  have me := dMod_i (es.getD a 0) many (by omega)
  have rm : dRange1 [.int (many : Nat)] = .ok (rangeL 0 (many : Nat)) := dRange1_i (by unfold smallI; omega)
  have ev0 := e0 a ha
  generalize es.getD a 0 = ev at *
  generalize ks.getD a 0 = kv at *
  have mk := dMod_i kv a (by omega)
  obtain ⟨kb, hkb, kbl⟩ := mod_nat kv (show 0 < a by omega)
  rw [hkb] at mk
  have ip := dIx_getDl (xs := ln) (k := a - 1) (by omega)
  rw [show ((a - 1 : Nat) : Int) = (a : Int) - 1 by omega] at ip
  have iq := dIx_getDl (xs := ln) (k := kb) (by omega)
  have lp0 := l0 (a - 1) (by omega)
  have lq0 := l0 kb (by omega)
  generalize ln.getD (a - 1) 0 = u at *
  generalize ln.getD kb 0 = v at *
  have f6 := dFdiv_i ev 6 (by decide) (by decide)
  have m2 := dMod_i (ev / 6) 2 (by decide)
  -- the last
  obtain ⟨nx, hnx, nxl⟩ : ∃ nx : Nat, dMin2 [.int ((a : Int) + 1), .int ((n : Int) - 1)] = .ok (.int (nx : Nat)) ∧ nx < n := by
    rw [dMin2_i]
    by_cases z : (n : Int) - 1 < (a : Int) + 1
    · rw [if_pos z]
      exact ⟨n - 1, by rw [show ((n - 1 : Nat) : Int) = (n : Int) - 1 by omega], by omega⟩
    · rw [if_neg z]
      exact ⟨a + 1, by rw [show ((a + 1 : Nat) : Int) = (a : Int) + 1 by omega], by omega⟩
  have inx := dIx_getDl (xs := ln) (k := nx) (by omega)
  have lnx := l0 nx nxl
  generalize ln.getD nx 0 = w at *
  have lln : dLen [.lst (ln.map .int)] = .ok (.int (n : Nat)) := by rw [dLen_l]; simp [hl]
  -- the pairs
  obtain ⟨e3, lp2, R, y11, y12, y13, y14, he3, k1, k2⟩ := forGo_inv (g := gName 11) (body := (sSeq (sSetTg (gTup [(gName 12), (gName 13)]) (eOp2 dIx (eOp2 dIx (ePeek 0) (eVar 8)) (eVar 11)))
  (sIf (tVal (eOp2 dEq (eVar 11) (eVar 9))) (sSeq (sSetF 14 (fLst (aCons (eOp2 dIx (ePeek 5) (eOp2 dSub (eVar 7) (eC (.int 1)))) (aCons (eOp2 dIx (ePeek 5) (eOp2 dMod (eB dInt (aCons (eOp2 dIx (eVar 1) (eVar 7)) aNil)) (eVar 7))) aNil))))
  (sAppend 10 (eTup (aCons (eShare (fB dSortSet (aCons (eSl (ePeek 14) oNo (oSome (eOp2 dAdd (eC (.int 1)) (eOp2 dMod (eOp2 dFdiv (eOp2 dIx (eVar 2) (eVar 7)) (eC (.int 6))) (eC (.int 2)))))) aNil))) (aCons (eC (.bl false)) aNil))))) (sAppend 10 (eTup (aCons (eShare (fB dSortSet (aCons (eOp2 dAdd (eVar 12) (eShare (fLst (aCons (eOp2 dIx (ePeek 5) (eB dMin2 (aCons (eOp2 dAdd (eVar 7) (eC (.int 1))) (aCons (eOp2 dSub (eB dLen (aCons (ePeek 5) aNil)) (eC (.int 1))) aNil)))) aNil)))) aNil))) (aCons (eVar 13) aNil))))))) (all := rangeL 0 (many : Nat)) (env := [.own (.lst (L.map (rwD true))), .val (.lst (ks.map .int)), .val (.lst (es.map .int)), x3, x4, .own (.lst (ln.map .int)), x6, .val (.int (a : Nat)), .val (.int (r : Nat)), .val (.int (ev % many)), .own (.lst []), x11, x12, x13, x14])
    (P := fun done env => ∃ (R : List Mv) (y11 y12 y13 y14 : Sl), env = [.own (.lst (L.map (rwD true))), .val (.lst (ks.map .int)), .val (.lst (es.map .int)), x3, x4, .own (.lst (ln.map .int)), x6, .val (.int (a : Nat)), .val (.int (r : Nat)), .val (.int (ev % many)), .own (.lst (R.map (mvD true))), y11, y12, y13, y14] ∧ R.length = done.length ∧ ∀ m ∈ R, okT n m.1)
    ⟨[], _, _, _, _, rfl, rfl, fun m hm => by cases hm⟩ (fun done d rest env hd ⟨R, y11, y12, y13, y14, e1, k1, k2⟩ => by
      obtain ⟨hd, hl2⟩ := range0_at hd
      subst hd; subst e1
      have ei := ev_at true (r := W) (e := (done.length : Nat)) (by omega) (by omega)
      rw [Int.toNat_natCast] at ei
      have okm := rok _ (getD_inn (d := (([], false) : Mv)) (show done.length < W.length by omega))
      generalize W.getD done.length ([], false) = m at *
      have md : mvD true m = .tup [.lst (m.1.map .int), .bl m.2] := rfl
      rw [md] at ei
      have lR : (R.map (mvD true)).length = R.length := by simp
      have lt : R.length < 16777216 := by omega
      by_cases z : (done.length : Int) = ev % many
      · obtain ⟨ts, hts, tsl, tok⟩ : ∃ ts : List Int, cutL [D.int u, .int v] none (some (1 + ev / 6 % 2)) = ts.map .int ∧ ts.length ≤ 2 ∧ ∀ t ∈ ts, 0 ≤ t ∧ t < n := by
          rcases (show ev / 6 % 2 = 0 ∨ ev / 6 % 2 = 1 by omega) with e | e <;> rw [e]
          · exact ⟨[u], rfl, by simp, fun t ht => by rw [List.mem_singleton.mp ht]; exact lp0⟩
          · refine ⟨[u, v], rfl, by simp, fun t ht => ?_⟩
            rcases List.mem_cons.mp ht with e | e
            · rw [e]; exact lp0
            · rw [List.mem_singleton.mp e]; exact lq0
        have ss := dSortSet_l (ns := ts) (by omega)
        refine ⟨_, rfl, [.own (.lst (L.map (rwD true))), .val (.lst (ks.map .int)), .val (.lst (es.map .int)), x3, x4, .own (.lst (ln.map .int)), x6, .val (.int (a : Nat)), .val (.int (r : Nat)), .val (.int (ev % many)), .own (.lst ((R ++ [(sortU ts, false)]).map (mvD true))), .val (.int (done.length : Nat)), .val (.lst (m.1.map .int)), .val (.bl m.2), .own (.lst [.int u, .int v])], .inl ?_, _, _, _, _, _, rfl, by simp [k1], fun m' hm' => ?_⟩
        · rw [List.map_append, show [(sortU ts, false)].map (mvD true) = [.tup [.lst ((sortU ts).map .int), .bl false]] from rfl]
          generalize R.map (mvD true) = RM at *
          generalize (sortU ts).map D.int = SU at *
          generalize ts.map D.int = TS at *
          generalize m.1.map D.int = M1 at *
          generalize L.map (rwD true) = LM at *
          generalize rwD true W = RW at *
          generalize ln.map D.int = LN at *
          generalize ks.map D.int = KS at *
          generalize es.map D.int = ES at *
          rw [← z]
          simp [im, ei, ip, ik, mk, iq, ie, f6, m2, hts, ss, sized, line_v, lR, lt]
        · rcases List.mem_append.mp hm' with e | e
          · exact k2 m' e
          · rw [List.mem_singleton.mp e]; exact okT_U tok
      · have tl := okT_len okm
        have ad : dAdd (.lst (m.1.map .int)) (.lst [.int w]) = .ok (.lst ((m.1 ++ [w]).map .int)) := by
          rw [dAdd_l (by rw [line_v]; simp; omega), List.map_append]; rfl
        have ss := dSortSet_l (ns := m.1 ++ [w]) (by simp; omega)
        refine ⟨_, rfl, [.own (.lst (L.map (rwD true))), .val (.lst (ks.map .int)), .val (.lst (es.map .int)), x3, x4, .own (.lst (ln.map .int)), x6, .val (.int (a : Nat)), .val (.int (r : Nat)), .val (.int (ev % many)), .own (.lst ((R ++ [(sortU (m.1 ++ [w]), m.2)]).map (mvD true))), .val (.int (done.length : Nat)), .val (.lst (m.1.map .int)), .val (.bl m.2), y14], .inl ?_, _, _, _, _, _, rfl, by simp [k1], fun m' hm' => ?_⟩
        · rw [List.map_append, show [(sortU (m.1 ++ [w]), m.2)].map (mvD true) = [.tup [.lst ((sortU (m.1 ++ [w])).map .int), .bl m.2]] from rfl]
          generalize R.map (mvD true) = RM at *
          generalize (sortU (m.1 ++ [w])).map D.int = SU at *
          generalize (m.1 ++ [w]).map D.int = TS at *
          generalize m.1.map D.int = M1 at *
          generalize L.map (rwD true) = LM at *
          generalize rwD true W = RW at *
          generalize ln.map D.int = LN at *
          generalize ks.map D.int = KS at *
          generalize es.map D.int = ES at *
          generalize ev % many = G at *
          simp [im, ei, z, lln, hnx, inx, ad, ss, sized, line_v, lR, lt]
        · rcases List.mem_append.mp hm' with e | e
          · exact k2 m' e
          · rw [List.mem_singleton.mp e]
            exact okT_U fun t ht => by
              rcases List.mem_append.mp ht with e | e
              · exact okm.2 t e
              · rw [List.mem_singleton.mp e]; exact lnx)
  rw [rangeL_len, show ((many : Int) - 0).toNat = many by omega] at k1
  subst he3
  refine ⟨L.set r R, .val (.int (r : Nat)), .val (.int (ev % many)), .val (.lst (R.map (mvD true))), y11, y12, y13, y14, ?_, by rw [List.length_set, hL], set_ok ok k1 k2 r⟩
  have st : (L.set r R).map (rwD true) = (L.map (rwD true)).set r (.lst (R.map (mvD true))) := by rw [List.map_set]; rfl
  have lL : (L.map (rwD true)).length = n := by rw [List.length_map, hL]
  rw [st]
  generalize R.map (mvD true) = RM at *
  generalize L.map (rwD true) = LM at *
  generalize rwD true W = RW at *
  generalize ln.map D.int = LN at *
  generalize ks.map D.int = KS at *
  generalize es.map D.int = ES at *
  generalize ev % many = G at *
  simp [ia, ie, im, lr, me, rm, lp2, Own.shared, lL, rn, ixN_lt rn, -forGo_c]
end Lw
namespace Lw
open M
theorem line_ok (ks : List Int) (n : Nat) : ((sortP ((List.range n).map fun i => (ks.getD i 0, (i : Int)))).map (·.2)).length = n ∧ ∀ i, i < n → 0 ≤ (((sortP ((List.range n).map fun i => (ks.getD i 0, (i : Int)))).map (·.2)).getD i 0) ∧ (((sortP ((List.range n).map fun i => (ks.getD i 0, (i : Int)))).map (·.2)).getD i 0) < n := by
  have p : (sortP ((List.range n).map fun i => (ks.getD i 0, (i : Int)))).Perm ((List.range n).map fun i => (ks.getD i 0, (i : Int))) := List.mergeSort_perm _ leP
  generalize sortP ((List.range n).map fun i => (ks.getD i 0, (i : Int))) = R at *
  have l : R.length = n := by rw [p.length_eq]; simp
  refine ⟨by simp [l], fun i hi => ?_⟩
  have m := getD_inn (l := R.map (·.2)) (k := i) (d := 0) (by simp [l]; exact hi)
  obtain ⟨q, hq, e⟩ := List.mem_map.mp m
  rw [← e]
  obtain ⟨j, hj, e2⟩ := List.mem_map.mp (p.mem_iff.mp hq)
  have := List.mem_range.mp hj
  rw [← e2]
  show 0 ≤ (j : Int) ∧ (j : Int) < n
  omega
theorem chained_ok {n many : Nat} {L : List (List Mv)} (h : okMs n many L) (h0 : 0 < many) {ks es : List Int} (hk : ks.length = n) (he : es.length = n) (e0 : ∀ i, i < n → 0 ≤ es.getD i 0) : ∃ L', f__law_chained (L.map (rwD true)) [.lst (ks.map .int), .lst (es.map .int)] = .ok (.own (.lst (L'.map (rwD true)))) ∧ okMs n many L' := by
  obtain ⟨h1, h2, h3, h4, h5⟩ := h
  obtain ⟨ll, l0⟩ := line_ok ks n
  have rg : dRange1 [.int (n : Nat)] = .ok (rangeL 0 (n : Nat)) := dRange1_i (by unfold smallI; omega)
  have rg2 : dRange2 [.int 1, .int (n : Nat)] = .ok (rangeL 1 (n : Nat)) := dRange2_i (by unfold smallI; omega) (by unfold smallI; omega)
  have ss := dSortedP_l ((List.range n).map fun i => (ks.getD i 0, (i : Int)))
  have lR : (sortP ((List.range n).map fun i => (ks.getD i 0, (i : Int)))).length = n := by simpa using ll
  have q1 : ∀ x3 x4 x5 x6 x7 x8 x9 x10 x11 x12 x13 x14, (fComp [4] (iB dRange1 (aCons (eB dLen (aCons (ePeek 0) aNil)) aNil)) (gName 4) tTrue (eTup (aCons (eOp2 dIx (eVar 1) (eVar 4)) (aCons (eVar 4) aNil)))) [.own (.lst (L.map (rwD true))), .val (.lst (ks.map .int)), .val (.lst (es.map .int)), x3, x4, x5, x6, x7, x8, x9, x10, x11, x12, x13, x14] = .ok (.lst (((List.range n).map fun i => (ks.getD i 0, (i : Int))).map prD)) := by
    intro x3 x4 x5 x6 x7 x8 x9 x10 x11 x12 x13 x14
    have w : wipeE [.own (.lst (L.map (rwD true))), .val (.lst (ks.map .int)), .val (.lst (es.map .int)), x3, x4, x5, x6, x7, x8, x9, x10, x11, x12, x13, x14] [4] = [.own (.lst (L.map (rwD true))), .val (.lst (ks.map .int)), .val (.lst (es.map .int)), x3, .un, x5, x6, x7, x8, x9, x10, x11, x12, x13, x14] := rfl
    have lL : (L.map (rwD true)).length = n := by simp [h1]
    rw [fComp_a, w]
    generalize L.map (rwD true) = LM at *
    simp only [iB_a, aCons_a, aNil_a, eB_a, ePeek_a, List.getElem?_cons_zero, Out.bind_ok, dLen_l, lL, rg]
    rw [lc_range (fun i => prD (ks.getD i 0, (i : Int))) (fun i hi => by
      have ik := dIx_getDl (xs := ks) (k := i) (by omega)
      show _ = Out.ok (D.tup [.int (ks.getD i 0), .int (i : Nat)])
      generalize ks.getD i 0 = v at *
      generalize ks.map D.int = KS at *
      simp [ik, sized, line_v]) (by omega), List.map_map]
    rfl
  generalize (List.range n).map (fun i => (ks.getD i 0, (i : Int))) = ps at *
  generalize sortP ps = R at *
  have q2 : ∀ x0 x1 x2 x4 x5 x6 x7 x8 x9 x10 x11 x12 x13 x14, (fComp [6] (iSeq (eVar 3)) (gName 6) tTrue (eOp2 dIx (eVar 6) (eC (.int 1)))) [x0, x1, x2, .val (.lst (R.map prD)), x4, x5, x6, x7, x8, x9, x10, x11, x12, x13, x14] = .ok (.lst ((R.map (·.2)).map .int)) := by
    intro x0 x1 x2 x4 x5 x6 x7 x8 x9 x10 x11 x12 x13 x14
    have w : wipeE [x0, x1, x2, .val (.lst (R.map prD)), x4, x5, x6, x7, x8, x9, x10, x11, x12, x13, x14] [6] = [x0, x1, x2, .val (.lst (R.map prD)), x4, x5, .un, x7, x8, x9, x10, x11, x12, x13, x14] := rfl
    have it : (iSeq (eVar 3)) [x0, x1, x2, .val (.lst (R.map prD)), x4, x5, x6, x7, x8, x9, x10, x11, x12, x13, x14] = .ok (R.map prD) := iSeq_q (q := true) (by simp; rfl)
    rw [fComp_a, w, it]
    simp only [Out.bind_ok]
    rw [lc_map (g := gName 6) (fun d => match d with | .tup [_, b] => b | d => d) (R.map prD) (fun d hd => by
      obtain ⟨p, _, rfl⟩ := List.mem_map.mp hd
      refine ⟨_, rfl, ?_⟩
      have i1 := dIx_p1 p
      show _ = Out.ok (D.int p.2)
      generalize prD p = PD at *
      simp [i1]) (by simp; omega)]
    simp only [Out.bind_ok]
    rw [List.map_map, List.map_map]; rfl
  generalize R.map (·.2) = ln at *
  obtain ⟨e2, lp, L', y7, y8, y9, y10, y11, y12, y13, y14, hE, g1, g2⟩ := forGo_inv (g := gName 7) (body := (sSeq (sSet 8 (eOp2 dIx (ePeek 5) (eVar 7)))
  (sSeq (sSet 9 (eOp2 dMod (eOp2 dIx (eVar 2) (eVar 7)) (eB dLen (aCons (eOp2 dIx (ePeek 0) (eVar 8)) aNil))))
  (sSeq (sSetF 10 (fLst aNil))
  (sSeq (sFor (iB dRange1 (aCons (eB dLen (aCons (eOp2 dIx (ePeek 0) (eVar 8)) aNil)) aNil)) (gName 11) (sSeq (sSetTg (gTup [(gName 12), (gName 13)]) (eOp2 dIx (eOp2 dIx (ePeek 0) (eVar 8)) (eVar 11)))
  (sIf (tVal (eOp2 dEq (eVar 11) (eVar 9))) (sSeq (sSetF 14 (fLst (aCons (eOp2 dIx (ePeek 5) (eOp2 dSub (eVar 7) (eC (.int 1)))) (aCons (eOp2 dIx (ePeek 5) (eOp2 dMod (eB dInt (aCons (eOp2 dIx (eVar 1) (eVar 7)) aNil)) (eVar 7))) aNil))))
  (sAppend 10 (eTup (aCons (eShare (fB dSortSet (aCons (eSl (ePeek 14) oNo (oSome (eOp2 dAdd (eC (.int 1)) (eOp2 dMod (eOp2 dFdiv (eOp2 dIx (eVar 2) (eVar 7)) (eC (.int 6))) (eC (.int 2)))))) aNil))) (aCons (eC (.bl false)) aNil))))) (sAppend 10 (eTup (aCons (eShare (fB dSortSet (aCons (eOp2 dAdd (eVar 12) (eShare (fLst (aCons (eOp2 dIx (ePeek 5) (eB dMin2 (aCons (eOp2 dAdd (eVar 7) (eC (.int 1))) (aCons (eOp2 dSub (eB dLen (aCons (ePeek 5) aNil)) (eC (.int 1))) aNil)))) aNil)))) aNil))) (aCons (eVar 13) aNil)))))))
  (sFreeze 10 (sSetIx 0 (eVar 8) (eVar 10)))))))) (all := rangeL 1 (n : Nat)) (env := [.own (.lst (L.map (rwD true))), .val (.lst (ks.map .int)), .val (.lst (es.map .int)), .val (.lst (R.map prD)), .un, .own (.lst (ln.map .int)), .un, .un, .un, .un, .un, .un, .un, .un, .un])
    (P := fun done env => ∃ (L' : List (List Mv)) (y7 y8 y9 y10 y11 y12 y13 y14 : Sl), env = [.own (.lst (L'.map (rwD true))), .val (.lst (ks.map .int)), .val (.lst (es.map .int)), .val (.lst (R.map prD)), .un, .own (.lst (ln.map .int)), .un, y7, y8, y9, y10, y11, y12, y13, y14] ∧ L'.length = n ∧ ∀ r ∈ L', r.length = many ∧ ∀ m ∈ r, okT n m.1)
    ⟨L, _, _, _, _, _, _, _, _, rfl, h1, h5⟩ (fun done d rest env hd ⟨L', y7, y8, y9, y10, y11, y12, y13, y14, e1, g1, g2⟩ => by
      obtain ⟨hd, hlt⟩ := range1_at hd
      subst hd; subst e1
      obtain ⟨L2, z8, z9, z10, z11, z12, z13, z14, b, b1, b2⟩ := ch_body h2 h3 h0 h4 hk he e0 ll l0 (.val (.lst (R.map prD))) .un .un (done.length + 1) (by omega) hlt y8 y9 y10 y11 y12 y13 y14 L' g1 g2
      exact ⟨_, rfl, _, .inl b, L2, _, _, _, _, _, _, _, _, rfl, b1, b2⟩)
  subst hE
  refine ⟨L', ?_, g1, h2, h3, h4, g2⟩
  have ll2 : dLen [.lst (ln.map .int)] = .ok (.int (n : Nat)) := by rw [dLen_l]; simp [ll]
  rw [f__law_chained, fng_2 _ _ (by decide)]
  generalize L.map (rwD true) = LM at *
  generalize L'.map (rwD true) = LM' at *
  generalize ps.map prD = PP at *
  generalize R.map prD = RP at *
  generalize hLN : ln.map D.int = LN at *
  generalize ks.map D.int = KS at *
  generalize es.map D.int = ES at *
  simp [List.replicate, q1, q2, ss, ll2, rg2, Own.shared, -fComp_a, -forGo_c]
  rw [show forGo _ _ _ _ = _ from lp]
  simp
end Lw
namespace Lw
open M
/-! ### the law -/
theorem seq_out {s t : CS} {env e : Env} {r : Out Sl} (h : s env = .next e) (h2 : (t e).out = r) : (sSeq s t env).out = r := by rw [sSeq_a, h]; exact h2
theorem planOf_nil {n many : Nat} {L : List (List Mv)} (h : okMs n many L) : planOf L [] = List.replicate n (-1, -1) := by
  have e : plan0 L.length [] = List.replicate L.length (-1, -1) := rfl
  have none : fndK (List.replicate L.length (-1, -1)) 0 L = [] := by
    cases hf : fndK (List.replicate L.length (-1, -1)) 0 L with
    | nil => rfl
    | cons f r =>
      have fin : f ∈ fndK (List.replicate L.length (-1, -1)) 0 L := by rw [hf]; exact List.mem_cons_self
      obtain ⟨a, b⟩ := fndK_in _ 0 L f fin
      obtain ⟨i, hi⟩ : ∃ i : Nat, f.1 = i := ⟨f.1.toNat, by omega⟩
      obtain ⟨f1, f2, ev, f3, _⟩ := (fndK_mem (List.replicate L.length (-1, -1)) 0 L i f.2).mp (by rw [Nat.zero_add, ← hi]; exact fin)
      obtain ⟨mv, m1, m2, _⟩ := fev_some f3
      have ok : okT L.length mv.1 := by rw [h.1]; exact (h.2.2.2.2 _ (getD_inn f1)).2 mv (List.mem_of_getElem? m1)
      rw [none_ok (fun j _ => by rw [at2_rep]; decide) ok] at m2
      cases m2
  unfold planOf
  rw [e, ← h.1]
  cases L.length - 1 with
  | zero => rfl
  | succ k =>
    show (if fndK _ 0 L = [] then _ else _) = _
    rw [if_pos none]
theorem okD_ms {n many : Nat} {L : List (List Mv)} (q : Bool) : okD (msD q L) = true := by
  have it : ∀ m : Mv, okN 62 (mvD q m) = true := fun m => by
    have : okN 61 (seqD q (m.1.map .int)) = true := by cases q <;> exact okNs_ints _ _
    show (okN 61 (seqD q (m.1.map .int)) && (okN 61 (.bl m.2) && true)) = true
    rw [this]; rfl
  have rw1 : ∀ r : List Mv, okN 63 (rwD q r) = true := fun r => by
    have : okNs 62 (r.map (mvD q)) = true := okNs_all fun x hx => by obtain ⟨m, _, rfl⟩ := List.mem_map.mp hx; exact it m
    cases q <;> exact this
  have : okNs 63 (L.map (rwD q)) = true := okNs_all fun x hx => by obtain ⟨r, _, rfl⟩ := List.mem_map.mp hx; exact rw1 r
  cases q <;> exact this
theorem okT_filter (n : Nat) (p : Nat → Bool) : okT n (((List.range n).filter p).map fun i : Nat => (i : Int)) := by
  refine ⟨List.Pairwise.map _ (fun a b h => by omega) (List.Pairwise.filter _ List.pairwise_lt_range), fun t ht => ?_⟩
  obtain ⟨i, hi, rfl⟩ := List.mem_map.mp ht
  have := List.mem_range.mp (List.mem_filter.mp hi).1
  omega
theorem fin_neg {L : List (List Mv)} {gs : List Int} {P : List (Int × Int)} (F : Fin L gs P) {i : Nat} (hi : i < L.length) : (at2 P i).1 = -1 ↔ (at2 P i).1 < 0 := by
  by_cases g : (i : Int) ∈ gs
  · rw [F.goal i hi g]; decide
  · rcases F.rest i hi g with ⟨e, _⟩ | ⟨r, e, he, _, _⟩
    · rw [e]; decide
    · rw [he]; show (r : Int) = -1 ↔ (r : Int) < 0; omega
theorem trap_len (P : List (Int × Int)) (n : Nat) : (trapL P n).length ≤ n := by
  unfold trapL
  rw [List.length_map]
  have := List.length_filter_le (fun i => decide ((at2 P i).1 < 0)) (List.range n)
  simpa using this
theorem law_true (ns : List Int) (_ : ns.length ≤ 63) (_ : ∀ z ∈ ns, PySem.Builtin.Int.intBits z ≤ 1048576) : f_law [.lst (ns.map .int)] = .ok (.val (.bl true)) := by
  obtain ⟨x0, c0⟩ : ∃ z : Int, f__law_cell [.lst (ns.map .int), .int 0] = .ok (.val (.int z)) := cell_ok ns 0
  obtain ⟨x1, c1⟩ : ∃ z : Int, f__law_cell [.lst (ns.map .int), .int 1] = .ok (.val (.int z)) := cell_ok ns 1
  obtain ⟨x2, c2⟩ : ∃ z : Int, f__law_cell [.lst (ns.map .int), .int 2] = .ok (.val (.int z)) := cell_ok ns 2
  have hc : ∀ k : Nat, ∃ z : Int, f__law_cell [.lst (ns.map .int), .int (k : Nat)] = .ok (.val (.int z)) := fun k => cell_ok ns k
  generalize ns.map D.int = NS at *
  obtain ⟨sh, hr, sl, sb⟩ := row_ok x0 true [4, 40, 16, 7, 2, 2, 60, 3, 6, 5, 2, 60, 60, 60, 12, 60, 60, 6] (fun b hb => by simp at hb; omega) (by simp)
  have hr : f__law_row [.int x0, .lst [.int 4, .int 40, .int 16, .int 7, .int 2, .int 2, .int 60, .int 3, .int 6, .int 5, .int 2, .int 60, .int 60, .int 60, .int 12, .int 60, .int 60, .int 6]] = .ok (.own (.lst (sh.map .int))) := hr
  have ad : dAdd (.lst [.int 4, .int 40, .int 16, .int 7, .int 2, .int 2, .int 60, .int 3]) (.lst [.int 6, .int 5, .int 2, .int 60, .int 60, .int 60, .int 12, .int 60, .int 60, .int 6]) = .ok (.lst [.int 4, .int 40, .int 16, .int 7, .int 2, .int 2, .int 60, .int 3, .int 6, .int 5, .int 2, .int 60, .int 60, .int 60, .int 12, .int 60, .int 60, .int 6]) := dAdd_l (by rw [line_v]; simp)
  have sl : sh.length = 18 := sl
  have i0 : dIx (.lst (sh.map .int)) (.int 0) = .ok (.int (sh.getD 0 0)) := dIx_getDl (xs := sh) (k := 0) (by omega)
  have b0 : 0 ≤ sh.getD 0 0 ∧ sh.getD 0 0 < 4 := sb 0 (by simp)
  have i1 : dIx (.lst (sh.map .int)) (.int 1) = .ok (.int (sh.getD 1 0)) := dIx_getDl (xs := sh) (k := 1) (by omega)
  have b1 : 0 ≤ sh.getD 1 0 ∧ sh.getD 1 0 < 40 := sb 1 (by simp)
  have i2 : dIx (.lst (sh.map .int)) (.int 2) = .ok (.int (sh.getD 2 0)) := dIx_getDl (xs := sh) (k := 2) (by omega)
  have b2 : 0 ≤ sh.getD 2 0 ∧ sh.getD 2 0 < 16 := sb 2 (by simp)
  have i3 : dIx (.lst (sh.map .int)) (.int 3) = .ok (.int (sh.getD 3 0)) := dIx_getDl (xs := sh) (k := 3) (by omega)
  have b3 : 0 ≤ sh.getD 3 0 ∧ sh.getD 3 0 < 7 := sb 3 (by simp)
  have i4 : dIx (.lst (sh.map .int)) (.int 4) = .ok (.int (sh.getD 4 0)) := dIx_getDl (xs := sh) (k := 4) (by omega)
  have b4 : 0 ≤ sh.getD 4 0 ∧ sh.getD 4 0 < 2 := sb 4 (by simp)
  have i5 : dIx (.lst (sh.map .int)) (.int 5) = .ok (.int (sh.getD 5 0)) := dIx_getDl (xs := sh) (k := 5) (by omega)
  have b5 : 0 ≤ sh.getD 5 0 ∧ sh.getD 5 0 < 2 := sb 5 (by simp)
  have i6 : dIx (.lst (sh.map .int)) (.int 6) = .ok (.int (sh.getD 6 0)) := dIx_getDl (xs := sh) (k := 6) (by omega)
  have b6 : 0 ≤ sh.getD 6 0 ∧ sh.getD 6 0 < 60 := sb 6 (by simp)
  have i7 : dIx (.lst (sh.map .int)) (.int 7) = .ok (.int (sh.getD 7 0)) := dIx_getDl (xs := sh) (k := 7) (by omega)
  have b7 : 0 ≤ sh.getD 7 0 ∧ sh.getD 7 0 < 3 := sb 7 (by simp)
  have cu : cutL (sh.map D.int) (some 8) none = (sh.drop 8).map .int := by
    have := cut_drop (xs := sh.map D.int) (p := 8)
    rw [← List.map_drop] at this
    exact this
  have dl : (sh.drop 8).length = 10 := by rw [List.length_drop]; omega
  have d0 : ∀ i, i < 10 → 0 ≤ (sh.drop 8).getD i 0 := fun i hi => by
    have := (sb (8 + i) (by show 8 + i < 18; omega)).1
    simp only [List.getD_eq_getElem?_getD, List.getElem?_drop] at this ⊢
    exact this
  generalize sh.drop 8 = row at *
  generalize sh.getD 0 0 = z0 at *
  generalize sh.getD 1 0 = z1 at *
  generalize sh.getD 2 0 = z2 at *
  generalize sh.getD 3 0 = z3 at *
  generalize sh.getD 4 0 = z4 at *
  generalize sh.getD 5 0 = z5 at *
  generalize sh.getD 6 0 = z6 at *
  generalize sh.getD 7 0 = z7 at *
  generalize sh.map D.int = SH at *
  obtain ⟨n, many, h1, h40, hm, hn, hmy⟩ : ∃ n many : Nat, 1 ≤ n ∧ n ≤ 40 ∧ many ≤ 6 ∧ (if z0 = 0 then 1 + z1 else 1 + z2) = (n : Int) ∧ (if z0 = 0 then 1 + z3 % 2 else z3) = (many : Int) := by
    by_cases z : z0 = 0
    · rw [if_pos z, if_pos z]
      exact ⟨(1 + z1).toNat, (1 + z3 % 2).toNat, by omega, by omega, by omega, by omega, by omega⟩
    · rw [if_neg z, if_neg z]
      exact ⟨(1 + z2).toNat, z3.toNat, by omega, by omega, by omega, by omega, by omega⟩
  obtain ⟨L0, hL0, ok0⟩ := moves_ok hc h1 h40 hm
  obtain ⟨cb, hcb⟩ : ∃ cb : Bool, cb = (decide (z4 = 1) && decide (0 < many)) := ⟨_, rfl⟩
  have rep12 : ∀ b ∈ List.replicate n (12000 : Int), 0 < b ∧ b < 1073741824 := fun b hb => by rw [(List.mem_replicate.mp hb).2]; decide
  obtain ⟨ky, hky, kl, kb⟩ := row_ok x2 true (List.replicate n 12000) rep12 (by simp; omega)
  rw [List.length_replicate] at kl kb
  have hky : f__law_row [.int x2, .lst ((List.replicate n (12000 : Int)).map .int)] = .ok (.own (.lst (ky.map .int))) := hky
  have rg : dRange1 [.int (n : Nat)] = .ok (rangeL 0 (n : Nat)) := dRange1_i (by unfold smallI; omega)
  obtain ⟨L, ok, hch, hnc⟩ : ∃ L, okMs n many L ∧ (cb = true → f__law_chained (L0.map (rwD true)) [.lst ((ky.map fun z => z / 12).map .int), .lst ((ky.map fun z => z % 12).map .int)] = .ok (.own (.lst (L.map (rwD true))))) ∧ (cb = false → L = L0) := by
    cases e : cb with
    | false => exact ⟨L0, ok0, (fun h => nomatch h), fun _ => rfl⟩
    | true =>
      have h0 : 0 < many := by rw [e] at hcb; have := (Bool.and_eq_true _ _ ▸ hcb.symm : _ ∧ _).2; exact of_decide_eq_true this
      obtain ⟨L, a, b⟩ := chained_ok ok0 h0 (ks := ky.map fun z => z / 12) (es := ky.map fun z => z % 12) (by simp [kl]) (by simp [kl]) (fun i hi => by
        have m := getD_inn (l := ky.map fun z => z % 12) (k := i) (d := 0) (by simp [kl]; exact hi)
        obtain ⟨q, _, e⟩ := List.mem_map.mp m
        rw [← e]
        exact Int.emod_nonneg _ (by decide))
      exact ⟨L, b, fun _ => a, (fun h => nomatch h)⟩
  obtain ⟨sv, hsv, sv0⟩ : ∃ sv : Int, dIx (.lst [.int 2, .int 5, .int 12]) (.int z7) = .ok (.int sv) ∧ 0 < sv ∧ sv < 1073741824 := by
    rcases (show z7 = 0 ∨ z7 = 1 ∨ z7 = 2 by omega) with e | e | e <;> rw [e]
    · exact ⟨2, eqOf rfl, by decide, by decide⟩
    · exact ⟨5, eqOf rfl, by decide, by decide⟩
    · exact ⟨12, eqOf rfl, by decide, by decide⟩
  obtain ⟨m0, hm0, ml0, _⟩ := row_ok x1 true (List.replicate n sv) (fun b hb => by rw [(List.mem_replicate.mp hb).2]; exact sv0) (by simp; omega)
  rw [List.length_replicate] at ml0
  have hm0 : f__law_row [.int x1, .lst ((List.replicate n sv).map .int)] = .ok (.own (.lst (m0.map .int))) := hm0
  have m3 := dMod_i z3 2 (by decide)
  rw [f_law, fn_1]
  show (sSeq _ _ [.val (.lst NS), .un, .un, .un, .un, .un, .un, .un, .un, .un, .un, .un, .un, .un, .un, .un, .un, .un, .un, .un]).out = _
  refine seq_out (e := [.val (.lst NS), .own (.lst SH), .un, .un, .un, .un, .un, .un, .un, .un, .un, .un, .un, .un, .un, .un, .un, .un, .un, .un]) (by simp [c0, ad, hr]) ?_
  refine seq_out (e := [.val (.lst NS), .own (.lst SH), .val (.int (1 + z2)), .un, .un, .un, .un, .un, .un, .un, .un, .un, .un, .un, .un, .un, .un, .un, .un, .un]) (by simp [i2]) ?_
  refine seq_out (e := [.val (.lst NS), .own (.lst SH), .val (.int (1 + z2)), .val (.int z3), .un, .un, .un, .un, .un, .un, .un, .un, .un, .un, .un, .un, .un, .un, .un, .un]) (by simp [i3]) ?_
  refine seq_out (e := [.val (.lst NS), .own (.lst SH), .val (.int (n : Nat)), .val (.int (many : Nat)), .un, .un, .un, .un, .un, .un, .un, .un, .un, .un, .un, .un, .un, .un, .un, .un]) (by 
    rw [← hn, ← hmy]
    by_cases z : z0 = 0
    · rw [if_pos z, if_pos z]
      simp [i0, z, i1, i3, m3]
    · rw [if_neg z, if_neg z]
      simp [i0, z]) ?_
  refine seq_out (e := [.val (.lst NS), .own (.lst SH), .val (.int (n : Nat)), .val (.int (many : Nat)), .own (.lst (L0.map (rwD true))), .un, .un, .un, .un, .un, .un, .un, .un, .un, .un, .un, .un, .un, .un, .un]) (by simp [hL0]) ?_
  refine seq_out (e := [.val (.lst NS), .own (.lst SH), .val (.int (n : Nat)), .val (.int (many : Nat)), .own (.lst (L0.map (rwD true))), .val (.bl cb), .un, .un, .un, .un, .un, .un, .un, .un, .un, .un, .un, .un, .un, .un]) (by 
    rw [hcb]
    by_cases z : z4 = 1
    · by_cases y : 0 < many
      · have yi : (0 : Int) < many := by omega
        simp [i4, z, y, yi]
      · have yi : ¬ (0 : Int) < many := by omega
        simp [i4, z, y, yi]
    · simp [i4, z]) ?_
  have q1 : ∀ x0 x1 x3 x4 x5 x6 x7 x8 x9 x10 x11 x12 x13 x14 x15 x16 x17 x18 x19, (fComp [7] (iB dRange1 (aCons (eVar 2) aNil)) (gName 7) tTrue (eC (.int 12000))) [x0, x1, .val (.int (n : Nat)), x3, x4, x5, x6, x7, x8, x9, x10, x11, x12, x13, x14, x15, x16, x17, x18, x19] = .ok (.lst ((List.replicate n (12000 : Int)).map .int)) := by
    intro x0 x1 x3 x4 x5 x6 x7 x8 x9 x10 x11 x12 x13 x14 x15 x16 x17 x18 x19
    have w : wipeE [x0, x1, .val (.int (n : Nat)), x3, x4, x5, x6, x7, x8, x9, x10, x11, x12, x13, x14, x15, x16, x17, x18, x19] [7] = [x0, x1, .val (.int (n : Nat)), x3, x4, x5, x6, .un, x8, x9, x10, x11, x12, x13, x14, x15, x16, x17, x18, x19] := rfl
    rw [fComp_a, w]
    simp only [iB_a, aCons_a, aNil_a, eVar_a, List.getElem?_cons_succ, List.getElem?_cons_zero, Out.bind_ok, rg]
    rw [lc_const (by rw [rangeL_len]; omega), rangeL_len, show ((n : Int) - 0).toNat = n by omega]
    rfl
  have q4 : ∀ x0 x1 x3 x4 x5 x6 x7 x8 x10 x11 x12 x13 x14 x15 x16 x17 x18 x19, (fComp [7] (iB dRange1 (aCons (eVar 2) aNil)) (gName 7) tTrue (eVar 9)) [x0, x1, .val (.int (n : Nat)), x3, x4, x5, x6, x7, x8, .val (.int sv), x10, x11, x12, x13, x14, x15, x16, x17, x18, x19] = .ok (.lst ((List.replicate n sv).map .int)) := by
    intro x0 x1 x3 x4 x5 x6 x7 x8 x10 x11 x12 x13 x14 x15 x16 x17 x18 x19
    have w : wipeE [x0, x1, .val (.int (n : Nat)), x3, x4, x5, x6, x7, x8, .val (.int sv), x10, x11, x12, x13, x14, x15, x16, x17, x18, x19] [7] = [x0, x1, .val (.int (n : Nat)), x3, x4, x5, x6, .un, x8, .val (.int sv), x10, x11, x12, x13, x14, x15, x16, x17, x18, x19] := rfl
    rw [fComp_a, w]
    simp only [iB_a, aCons_a, aNil_a, eVar_a, List.getElem?_cons_succ, List.getElem?_cons_zero, Out.bind_ok, rg]
    rw [lc_range (fun _ => .int sv) (fun i hi => by simp) (by omega)]
    simp only [Out.bind_ok]
    rw [List.map_const', List.length_range, List.map_replicate]
  have q2 : ∀ x0 x1 x2 x3 x4 x5 x7 x8 x9 x10 x11 x12 x13 x14 x15 x16 x17 x18 x19, (fComp [8] (iSeq (eVar 6)) (gName 8) tTrue (eOp2 dFdiv (eVar 8) (eC (.int 12)))) [x0, x1, x2, x3, x4, x5, .val (.lst (ky.map .int)), x7, x8, x9, x10, x11, x12, x13, x14, x15, x16, x17, x18, x19] = .ok (.lst ((ky.map fun z => z / 12).map .int)) := by
    intro x0 x1 x2 x3 x4 x5 x7 x8 x9 x10 x11 x12 x13 x14 x15 x16 x17 x18 x19
    have w : wipeE [x0, x1, x2, x3, x4, x5, .val (.lst (ky.map .int)), x7, x8, x9, x10, x11, x12, x13, x14, x15, x16, x17, x18, x19] [8] = [x0, x1, x2, x3, x4, x5, .val (.lst (ky.map .int)), x7, .un, x9, x10, x11, x12, x13, x14, x15, x16, x17, x18, x19] := rfl
    have it : (iSeq (eVar 6)) [x0, x1, x2, x3, x4, x5, .val (.lst (ky.map .int)), x7, x8, x9, x10, x11, x12, x13, x14, x15, x16, x17, x18, x19] = .ok (ky.map .int) := iSeq_q (q := true) (by simp; rfl)
    rw [fComp_a, w, it]
    simp only [Out.bind_ok]
    rw [lc_map (g := gName 8) (fun d => match d with | .int z => .int (z / 12) | d => d) (ky.map .int) (fun d hd => by
      obtain ⟨z, _, rfl⟩ := List.mem_map.mp hd
      have ff := dFdiv_i z 12 (by decide) (by decide)
      exact ⟨_, rfl, by simp [ff]⟩) (by simp; omega)]
    simp only [Out.bind_ok]
    rw [List.map_map, List.map_map]; rfl
  have q3 : ∀ x0 x1 x2 x3 x4 x5 x7 x8 x9 x10 x11 x12 x13 x14 x15 x16 x17 x18 x19, (fComp [8] (iSeq (eVar 6)) (gName 8) tTrue (eOp2 dMod (eB dInt (aCons (eVar 8) aNil)) (eC (.int 12)))) [x0, x1, x2, x3, x4, x5, .val (.lst (ky.map .int)), x7, x8, x9, x10, x11, x12, x13, x14, x15, x16, x17, x18, x19] = .ok (.lst ((ky.map fun z => z % 12).map .int)) := by
    intro x0 x1 x2 x3 x4 x5 x7 x8 x9 x10 x11 x12 x13 x14 x15 x16 x17 x18 x19
    have w : wipeE [x0, x1, x2, x3, x4, x5, .val (.lst (ky.map .int)), x7, x8, x9, x10, x11, x12, x13, x14, x15, x16, x17, x18, x19] [8] = [x0, x1, x2, x3, x4, x5, .val (.lst (ky.map .int)), x7, .un, x9, x10, x11, x12, x13, x14, x15, x16, x17, x18, x19] := rfl
    have it : (iSeq (eVar 6)) [x0, x1, x2, x3, x4, x5, .val (.lst (ky.map .int)), x7, x8, x9, x10, x11, x12, x13, x14, x15, x16, x17, x18, x19] = .ok (ky.map .int) := iSeq_q (q := true) (by simp; rfl)
    rw [fComp_a, w, it]
    simp only [Out.bind_ok]
    rw [lc_map (g := gName 8) (fun d => match d with | .int z => .int (z % 12) | d => d) (ky.map .int) (fun d hd => by
      obtain ⟨z, _, rfl⟩ := List.mem_map.mp hd
      have ff := dMod_i z 12 (by decide)
      exact ⟨_, rfl, by simp [ff]⟩) (by simp; omega)]
    simp only [Out.bind_ok]
    rw [List.map_map, List.map_map]; rfl
  refine seq_out (e := [.val (.lst NS), .own (.lst SH), .val (.int (n : Nat)), .val (.int (many : Nat)), .own (.lst (L0.map (rwD true))), .val (.bl cb), .own (.lst (ky.map .int)), .un, .un, .un, .un, .un, .un, .un, .un, .un, .un, .un, .un, .un]) (by generalize (List.replicate n (12000 : Int)).map D.int = R12 at *; simp [c2, q1, hky, -fComp_a]) ?_
  refine seq_out (e := [.val (.lst NS), .own (.lst SH), .val (.int (n : Nat)), .val (.int (many : Nat)), .own (.lst (L.map (rwD true))), .val (.bl cb), slL (!cb) (ky.map .int), .un, .un, .un, .un, .un, .un, .un, .un, .un, .un, .un, .un, .un]) (by 
    cases e : cb with
    | true =>
      have hch := hch e
      generalize (ky.map fun z => z / 12).map D.int = K12 at *
      generalize (ky.map fun z => z % 12).map D.int = M12 at *
      generalize ky.map D.int = KY at *
      generalize L0.map (rwD true) = LM0 at *
      generalize L.map (rwD true) = LM at *
      simp [q2, q3, hch, slL, Own.shared, -fComp_a]
    | false =>
      rw [hnc e]
      simp [slL]) ?_
  refine seq_out (e := [.val (.lst NS), .own (.lst SH), .val (.int (n : Nat)), .val (.int (many : Nat)), .own (.lst (L.map (rwD true))), .val (.bl cb), slL (!cb) (ky.map .int), .un, .un, .val (.int sv), .un, .un, .un, .un, .un, .un, .un, .un, .un, .un]) (by simp [i7, hsv]) ?_
  refine seq_out (e := [.val (.lst NS), .own (.lst SH), .val (.int (n : Nat)), .val (.int (many : Nat)), .own (.lst (L.map (rwD true))), .val (.bl cb), slL (!cb) (ky.map .int), .un, .un, .val (.int sv), .own (.lst (m0.map .int)), .un, .un, .un, .un, .un, .un, .un, .un, .un]) (by generalize (List.replicate n sv).map D.int = R12 at *; simp [c1, q4, hm0, -fComp_a]) ?_
  have q5 : ∀ x0 x1 x3 x4 x5 x7 x8 x9 x10 x11 x12 x13 x14 x15 x16 x17 x18 x19, (fComp [7] (iB dRange1 (aCons (eVar 2) aNil)) (gName 7) tTrue (eTup (aCons (eOp2 dFdiv (eOp2 dIx (ePeek 6) (eVar 7)) (eC (.int 12))) (aCons (eVar 7) aNil)))) [x0, x1, .val (.int (n : Nat)), x3, x4, x5, slL (!cb) (ky.map .int), x7, x8, x9, x10, x11, x12, x13, x14, x15, x16, x17, x18, x19] = .ok (.lst (((List.range n).map fun i => (ky.getD i 0 / 12, (i : Int))).map prD)) := by
    intro x0 x1 x3 x4 x5 x7 x8 x9 x10 x11 x12 x13 x14 x15 x16 x17 x18 x19
    have w : wipeE [x0, x1, .val (.int (n : Nat)), x3, x4, x5, slL (!cb) (ky.map .int), x7, x8, x9, x10, x11, x12, x13, x14, x15, x16, x17, x18, x19] [7] = [x0, x1, .val (.int (n : Nat)), x3, x4, x5, slL (!cb) (ky.map .int), .un, x8, x9, x10, x11, x12, x13, x14, x15, x16, x17, x18, x19] := rfl
    rw [fComp_a, w]
    simp only [iB_a, aCons_a, aNil_a, eVar_a, List.getElem?_cons_succ, List.getElem?_cons_zero, Out.bind_ok, rg]
    rw [lc_range (fun i => prD (ky.getD i 0 / 12, (i : Int))) (fun i hi => by
      have ik := dIx_getDl (xs := ky) (k := i) (by omega)
      have ff := dFdiv_i (ky.getD i 0) 12 (by decide) (by decide)
      show _ = Out.ok (D.tup [.int (ky.getD i 0 / 12), .int (i : Nat)])
      generalize ky.getD i 0 = v at *
      generalize ky.map D.int = KY at *
      cases cb <;> simp [slL, ik, ff, sized, line_v]) (by omega), List.map_map]
    rfl
  obtain ⟨bp, br, hbp⟩ : ∃ bp br, (List.range n).map (fun i => (ky.getD i 0 / 12, (i : Int))) = bp :: br := by
    cases hh : (List.range n).map (fun i => (ky.getD i 0 / 12, (i : Int))) with
    | nil => have := congrArg List.length hh; simp at this; omega
    | cons a b => exact ⟨a, b, rfl⟩
  rw [hbp] at q5
  have mp := dMinP_l bp br
  obtain ⟨ms, y10, y11, mlen, hms⟩ : ∃ (ms : List Int) (y10 y11 : Sl), ms.length = n ∧ (y10 = .own (.lst (ms.map .int))) ∧ (if cb = true ∧ z7 = 2 then y11 = .val (.int (minP bp br).2) ∧ ms = (List.range n).map (fun i : Nat => if (i : Int) = (minP bp br).2 then 1 else 0) else y11 = .un ∧ ms = m0) := by
    by_cases c : cb = true ∧ z7 = 2
    · exact ⟨(List.range n).map (fun i : Nat => if (i : Int) = (minP bp br).2 then 1 else 0), _, _, by simp, rfl, by rw [if_pos c]; exact ⟨rfl, rfl⟩⟩
    · exact ⟨m0, _, _, ml0, rfl, by rw [if_neg c]; exact ⟨rfl, rfl⟩⟩
  obtain ⟨hy10, hms⟩ := hms
  generalize minP bp br = bst at *
  have q6 : ∀ x0 x1 x3 x4 x5 x6 x7 x8 x9 x10 x12 x13 x14 x15 x16 x17 x18 x19, (fComp [7] (iB dRange1 (aCons (eVar 2) aNil)) (gName 7) tTrue (eB dInt (aCons (eOp2 dEq (eVar 7) (eVar 11)) aNil))) [x0, x1, .val (.int (n : Nat)), x3, x4, x5, x6, x7, x8, x9, x10, .val (.int bst.2), x12, x13, x14, x15, x16, x17, x18, x19] = .ok (.lst (((List.range n).map (fun i : Nat => if (i : Int) = bst.2 then 1 else 0)).map .int)) := by
    intro x0 x1 x3 x4 x5 x6 x7 x8 x9 x10 x12 x13 x14 x15 x16 x17 x18 x19
    have w : wipeE [x0, x1, .val (.int (n : Nat)), x3, x4, x5, x6, x7, x8, x9, x10, .val (.int bst.2), x12, x13, x14, x15, x16, x17, x18, x19] [7] = [x0, x1, .val (.int (n : Nat)), x3, x4, x5, x6, .un, x8, x9, x10, .val (.int bst.2), x12, x13, x14, x15, x16, x17, x18, x19] := rfl
    rw [fComp_a, w]
    simp only [iB_a, aCons_a, aNil_a, eVar_a, List.getElem?_cons_succ, List.getElem?_cons_zero, Out.bind_ok, rg]
    rw [lc_range (fun i => .int (if (i : Int) = bst.2 then 1 else 0)) (fun i hi => by
      have db : ∀ b : Bool, dInt [.bl b] = .ok (.int (if b = true then 1 else 0)) := fun b => by cases b <;> exact eqOf rfl
      by_cases z : (i : Int) = bst.2
      · simp [z, db]
      · simp [z, db]) (by omega), List.map_map]
    rfl
  refine seq_out (e := [.val (.lst NS), .own (.lst SH), .val (.int (n : Nat)), .val (.int (many : Nat)), .own (.lst (L.map (rwD true))), .val (.bl cb), slL (!cb) (ky.map .int), .un, .un, .val (.int sv), y10, y11, .un, .un, .un, .un, .un, .un, .un, .un]) (by 
    subst hy10
    by_cases c : cb = true ∧ z7 = 2
    · rw [if_pos c] at hms
      obtain ⟨h1, h2⟩ := hms
      obtain ⟨c1, c2⟩ := c
      subst h1
      rw [h2]
      rw [c1] at q5 ⊢
      simp only [Bool.not_true] at q5 ⊢
      rw [c2] at i7
      have i1 := dIx_p1 bst
      generalize prD bst = PB at *
      generalize ((List.range n).map (fun i : Nat => if (i : Int) = bst.2 then 1 else 0)).map D.int = MS at *
      generalize (bp :: br).map prD = BP at *
      simp [i7, q5, q6, mp, i1, -fComp_a]
    · rw [if_neg c] at hms
      obtain ⟨h1, h2⟩ := hms
      subst h1
      rw [h2]
      cases e : cb with
      | false => simp
      | true =>
        have z : ¬ z7 = 2 := fun y => c ⟨e, y⟩
        simp [i7, z]) ?_
  subst hy10
  obtain ⟨gs, hgs⟩ : ∃ gs, gs = ((List.range n).filter fun i => decide (ms.getD i 0 = 1)).map fun i : Nat => (i : Int) := ⟨_, rfl⟩
  have hg : okT n gs := by rw [hgs]; exact okT_filter n _
  have q7 : ∀ x0 x1 x3 x4 x5 x6 x7 x8 x9 x11 x12 x13 x14 x15 x16 x17 x18 x19, (fComp [7] (iB dRange1 (aCons (eVar 2) aNil)) (gName 7) (tVal (eOp2 dEq (eOp2 dIx (ePeek 10) (eVar 7)) (eC (.int 1)))) (eVar 7)) [x0, x1, .val (.int (n : Nat)), x3, x4, x5, x6, x7, x8, x9, .own (.lst (ms.map .int)), x11, x12, x13, x14, x15, x16, x17, x18, x19] = .ok (.lst (gs.map .int)) := by
    intro x0 x1 x3 x4 x5 x6 x7 x8 x9 x11 x12 x13 x14 x15 x16 x17 x18 x19
    have w : wipeE [x0, x1, .val (.int (n : Nat)), x3, x4, x5, x6, x7, x8, x9, .own (.lst (ms.map .int)), x11, x12, x13, x14, x15, x16, x17, x18, x19] [7] = [x0, x1, .val (.int (n : Nat)), x3, x4, x5, x6, .un, x8, x9, .own (.lst (ms.map .int)), x11, x12, x13, x14, x15, x16, x17, x18, x19] := rfl
    rw [fComp_a, w]
    simp only [iB_a, aCons_a, aNil_a, eVar_a, List.getElem?_cons_succ, List.getElem?_cons_zero, Out.bind_ok, rg]
    rw [lc_filterN n (fun i => decide (ms.getD i 0 = 1)) (fun i hi => by
      have ik := dIx_getDl (xs := ms) (k := i) (by omega)
      generalize ms.getD i 0 = v at *
      generalize ms.map D.int = KY at *
      simp [ik]) (by simp) (by omega), hgs]
    rfl
  refine seq_out (e := [.val (.lst NS), .own (.lst SH), .val (.int (n : Nat)), .val (.int (many : Nat)), .own (.lst (L.map (rwD true))), .val (.bl cb), slL (!cb) (ky.map .int), .un, .un, .val (.int sv), .own (.lst (ms.map .int)), y11, .own (.lst (gs.map .int)), .un, .un, .un, .un, .un, .un, .un]) (by simp [q7, -fComp_a]) ?_
  obtain ⟨st, hst, stn⟩ := mod_nat z6 (show 0 < n by omega)
  have ms6 := dMod_i z6 n (by omega)
  rw [hst] at ms6
  refine seq_out (e := [.val (.lst NS), .own (.lst SH), .val (.int (n : Nat)), .val (.int (many : Nat)), .own (.lst (L.map (rwD true))), .val (.bl cb), slL (!cb) (ky.map .int), .un, .un, .val (.int sv), .own (.lst (ms.map .int)), y11, .own (.lst (gs.map .int)), .val (.int (st : Nat)), .un, .un, .un, .un, .un, .un]) (by simp [i6, ms6]) ?_
  have cpy := copied_ok ok (decide (z5 = 1))
  generalize hq : (decide (z5 = 1)) = qb at *
  refine seq_out (e := [.val (.lst NS), .own (.lst SH), .val (.int (n : Nat)), .val (.int (many : Nat)), .val (msD true L), .val (.bl cb), slL (!cb) (ky.map .int), .un, .un, .val (.int sv), .own (.lst (ms.map .int)), y11, .own (.lst (gs.map .int)), .val (.int (st : Nat)), (if qb = true then .val (msD false L) else .own (.lst (L.map (rwD true)))), .un, .un, .un, .un, .un]) (by 
    have ml : D.lst (L.map (rwD true)) = msD true L := rfl
    generalize msD true L = MS at *
    generalize msD false L = MF at *
    generalize L.map (rwD true) = LM at *
    cases qb <;> simp at cpy <;> simp [Own.shared, i5, hq, ml, cpy]) ?_
  have im := is_moves_ok (!qb) ok
  refine seq_out (e := [.val (.lst NS), .own (.lst SH), .val (.int (n : Nat)), .val (.int (many : Nat)), .val (msD true L), .val (.bl cb), slL (!cb) (ky.map .int), .un, .un, .val (.int sv), .own (.lst (ms.map .int)), y11, .own (.lst (gs.map .int)), .val (.int (st : Nat)), .val (msD (!qb) L), .un, .un, .un, .un, .un]) (by 
    have ml : D.lst (L.map (rwD true)) = msD true L := rfl
    generalize L.map (rwD true) = LM at *
    cases qb
    · simp only [Bool.not_false] at im ⊢
      generalize msD true L = MS at *
      generalize msD false L = MF at *
      simp [Own.shared, ml, im]
    · simp only [Bool.not_true] at im ⊢
      generalize msD true L = MS at *
      generalize msD false L = MF at *
      simp [im]) ?_
  have q8 : ∀ x0 x1 x3 x4 x5 x6 x7 x8 x9 x10 x11 x12 x13 x14 x15 x16 x17 x18 x19, (fComp [7] (iB dRange1 (aCons (eVar 2) aNil)) (gName 7) tTrue (eTup (aCons (eOp1 dNeg (eC (.int 1))) (aCons (eOp1 dNeg (eC (.int 1))) aNil)))) [x0, x1, .val (.int (n : Nat)), x3, x4, x5, x6, x7, x8, x9, x10, x11, x12, x13, x14, x15, x16, x17, x18, x19] = .ok (.lst ((List.replicate n ((-1 : Int), (-1 : Int))).map prD)) := by
    intro x0 x1 x3 x4 x5 x6 x7 x8 x9 x10 x11 x12 x13 x14 x15 x16 x17 x18 x19
    have w : wipeE [x0, x1, .val (.int (n : Nat)), x3, x4, x5, x6, x7, x8, x9, x10, x11, x12, x13, x14, x15, x16, x17, x18, x19] [7] = [x0, x1, .val (.int (n : Nat)), x3, x4, x5, x6, .un, x8, x9, x10, x11, x12, x13, x14, x15, x16, x17, x18, x19] := rfl
    rw [fComp_a, w]
    simp only [iB_a, aCons_a, aNil_a, eVar_a, List.getElem?_cons_succ, List.getElem?_cons_zero, Out.bind_ok, rg]
    rw [lc_range (fun _ => prD (-1, -1)) (fun i hi => by
      show _ = Out.ok (D.tup [.int (-1), .int (-1)])
      simp [sized, line_v]) (by omega)]
    simp only [Out.bind_ok]
    rw [List.map_const', List.length_range, List.map_replicate]
  refine seq_out (e := [.val (.lst NS), .own (.lst SH), .val (.int (n : Nat)), .val (.int (many : Nat)), .val (msD true L), .val (.bl cb), slL (!cb) (ky.map .int), .un, .un, .val (.int sv), .own (.lst (ms.map .int)), y11, .own (.lst (gs.map .int)), .val (.int (st : Nat)), .val (msD (!qb) L), .val (.tup ((List.replicate n ((-1 : Int), (-1 : Int))).map prD)), .un, .un, .un, .un]) (by generalize (List.replicate n ((-1 : Int), (-1 : Int))).map prD = RR at *; simp [q8, -fComp_a]) ?_
  have okL : ∀ r ∈ L, ∀ m ∈ r, okT L.length m.1 := fun r hr m hm => by rw [ok.1]; exact (ok.2.2.2.2 r hr).2 m hm
  have okL2 := okr_of okL
  rw [ok.1] at okL2
  have F := plan_fin okL (gs := gs) fun g hgm => by rw [ok.1]; exact hg.2 g hgm
  have pl := F.len
  rw [ok.1] at pl
  have nilP := planOf_nil ok
  have wo := fun st hs => wish_ok (!qb) ok hg (st := st) hs
  have ipl := fun hne => is_plan_ok ok hg hne F
  generalize hP : planOf L gs = P at *
  have y16 : ∃ y12 y16 : Sl, (y12 = .own (.lst (gs.map .int)) ∨ y12 = .val (.lst (gs.map .int))) ∧ (if gs = [] then y12 = .own (.lst (gs.map .int)) ∧ y16 = .un else y12 = .val (.lst (gs.map .int)) ∧ y16 = .val (.tup [.str "forced", plD false P])) := by
    by_cases c : gs = []
    · exact ⟨_, _, .inl rfl, by rw [if_pos c]; exact ⟨rfl, rfl⟩⟩
    · exact ⟨_, _, .inr rfl, by rw [if_neg c]; exact ⟨rfl, rfl⟩⟩
  obtain ⟨y12, y16, hy12, hy⟩ := y16
  refine seq_out (e := [.val (.lst NS), .own (.lst SH), .val (.int (n : Nat)), .val (.int (many : Nat)), .val (msD true L), .val (.bl cb), slL (!cb) (ky.map .int), .un, .un, .val (.int sv), .own (.lst (ms.map .int)), y11, y12, .val (.int (st : Nat)), .val (msD (!qb) L), .val (plD false P), y16, .un, .un, .un]) (by 
    by_cases c : gs = []
    · rw [if_pos c] at hy
      have pn : plD false P = .tup ((List.replicate n ((-1 : Int), (-1 : Int))).map prD) := by rw [← hP, c, nilP]; rfl
      rw [hy.1, hy.2, pn]
      generalize (List.replicate n ((-1 : Int), (-1 : Int))).map prD = RR at *
      rw [c]
      simp
    · rw [if_neg c] at hy
      rw [hy.1, hy.2]
      obtain ⟨g, gr, hgg⟩ : ∃ g gr, gs = g :: gr := by
        cases e : gs with
        | nil => exact absurd e c
        | cons g gr => exact ⟨g, gr, rfl⟩
      have gm : g ∈ gs := by rw [hgg]; exact List.mem_cons_self
      obtain ⟨ga, gb⟩ := hg.2 g gm
      obtain ⟨gn, rfl⟩ : ∃ k : Nat, g = k := ⟨g.toNat, by omega⟩
      have w0 := wo gn (by omega)
      have at0 := F.goal gn (by rw [ok.1]; omega) gm
      rw [at0, if_pos (by decide)] at w0
      have ipl := ipl c
      have ig : dIx (.lst (gs.map .int)) (.int 0) = .ok (.int (gn : Nat)) := by
        have := dIx_getDl (xs := gs) (k := 0) (by rw [hgg]; simp)
        rw [hgg] at this ⊢
        exact this
      have lg : (gs.map D.int).length = gs.length := by simp
      have lp : (0 : Int) < gs.length := by rw [hgg, List.length_cons]; omega
      have lpn : 0 < gs.length := by rw [hgg]; simp
      have i1 : dIx (.tup [.str "forced", plD false P]) (.int 1) = .ok (plD false P) := dIx_t (xs := [.str "forced", plD false P]) (k := 1) (by simp)
      have dg : dList [.lst (gs.map .int)] = .ok (gs.map .int) := eqOf rfl
      generalize (List.replicate n ((-1 : Int), (-1 : Int))).map prD = RR at *
      generalize plD false P = PF at *
      generalize msD (!qb) L = MQ at *
      generalize msD true L = MS at *
      generalize gs.map D.int = GS at *
      simp [Own.shared, lg, lp, lpn, c, ig, dg, w0, ipl, i1, sized, line_v]) ?_
  have q9 : ∀ x0 x1 x3 x4 x5 x6 x7 x8 x9 x10 x11 x12 x13 x14 x16 x17 x18 x19, (fComp [7] (iB dRange1 (aCons (eVar 2) aNil)) (gName 7) (tVal (eOp2 dEq (eOp2 dIx (eOp2 dIx (eVar 15) (eVar 7)) (eC (.int 0))) (eOp1 dNeg (eC (.int 1))))) (eVar 7)) [x0, x1, .val (.int (n : Nat)), x3, x4, x5, x6, x7, x8, x9, x10, x11, x12, x13, x14, .val (plD false P), x16, x17, x18, x19] = .ok (.lst ((trapL P n).map .int)) := by
    intro x0 x1 x3 x4 x5 x6 x7 x8 x9 x10 x11 x12 x13 x14 x16 x17 x18 x19
    have w : wipeE [x0, x1, .val (.int (n : Nat)), x3, x4, x5, x6, x7, x8, x9, x10, x11, x12, x13, x14, .val (plD false P), x16, x17, x18, x19] [7] = [x0, x1, .val (.int (n : Nat)), x3, x4, x5, x6, .un, x8, x9, x10, x11, x12, x13, x14, .val (plD false P), x16, x17, x18, x19] := rfl
    rw [fComp_a, w]
    simp only [iB_a, aCons_a, aNil_a, eVar_a, List.getElem?_cons_succ, List.getElem?_cons_zero, Out.bind_ok, rg]
    rw [lc_filterN n (fun i => decide ((at2 P i).1 < 0)) (fun i hi => by
      have ii : dIx (plD false P) (.int (i : Nat)) = .ok (prD (at2 P i)) := dIx_q (q := false) (f := prD) (-1, -1) (by omega)
      have fn := fin_neg F (i := i) (by rw [ok.1]; exact hi)
      generalize at2 P i = p at *
      generalize plD false P = PP at *
      by_cases z : p.1 < 0
      · simp [ii, z, fn.mpr z]
      · have y : ¬ p.1 = -1 := fun e => z (fn.mp e)
        simp [ii, z, y]) (by simp) (by omega)]
    rfl
  refine seq_out (e := [.val (.lst NS), .own (.lst SH), .val (.int (n : Nat)), .val (.int (many : Nat)), .val (msD true L), .val (.bl cb), slL (!cb) (ky.map .int), .un, .un, .val (.int sv), .own (.lst (ms.map .int)), y11, y12, .val (.int (st : Nat)), .val (msD (!qb) L), .val (plD false P), y16, .own (.lst ((trapL P n).map .int)), .un, .un]) (by simp [q9, -fComp_a]) ?_
  refine seq_out (e := [.val (.lst NS), .own (.lst SH), .val (.int (n : Nat)), .val (.int (many : Nat)), .val (msD true L), .val (.bl cb), slL (!cb) (ky.map .int), .un, .un, .val (.int sv), .own (.lst (ms.map .int)), y11, y12, .val (.int (st : Nat)), .val (msD (!qb) L), .val (plD false P), y16, .own (.lst ((trapL P n).map .int)), .own (.lst (gs.map .int)), .un]) (by 
    have dg : dList [.lst (gs.map .int)] = .ok (gs.map .int) := eqOf rfl
    generalize gs.map D.int = GS at *
    rcases hy12 with e | e <;> rw [e] <;> simp [dg]) ?_
  refine seq_out (e := [.val (.lst NS), .own (.lst SH), .val (.int (n : Nat)), .val (.int (many : Nat)), .val (msD true L), .val (.bl cb), slL (!cb) (ky.map .int), .un, .un, .val (.int sv), .own (.lst (ms.map .int)), y11, y12, .val (.int (st : Nat)), .val (msD (!qb) L), .val (plD false P), y16, .own (.lst ((trapL P n).map .int)), .val (.lst (gs.map .int)), .val (if 0 ≤ (at2 P st).1 then .tup [.str "forced", plD false P] else .tup [.str "held", .tup ((trapL P n).map .int)])]) (by 
    have w1 := wo st stn
    generalize (if 0 ≤ (at2 P st).1 then D.tup [.str "forced", plD false P] else D.tup [.str "held", .tup ((trapL P n).map .int)]) = SEC at *
    generalize msD (!qb) L = MQ at *
    generalize gs.map D.int = GS at *
    simp [Own.shared, w1]) ?_
  have tm : (st : Int) ∈ trapL P n ↔ (at2 P st).1 < 0 := by
    rw [trapL_mem]
    exact ⟨fun ⟨i, _, a, b⟩ => by rw [show st = i by omega]; exact a, fun a => ⟨st, stn, a, rfl⟩⟩
  have tl := trap_len P n
  have tr1 := ltrap_ok true h40 ok.1 okL2 gs st (trapL P n)
  have it := is_trap_ok (trapL P n) (by omega)
  have di := dIn_ints st (trapL P n)
  have gne : ¬ (at2 P st).1 < 0 → gs ≠ [] := fun h e => h (by rw [← hP, e, nilP, at2_rep]; decide)
  -- how the slots stand after
  have hz : ∃ y12 y17 y19 : Sl, y12 = .val (.lst (gs.map .int)) ∧ (if (at2 P st).1 < 0 then y17 = .val (.lst ((trapL P n).map .int)) else y17 = .own (.lst ((trapL P n).map .int))) := by
    by_cases z : (at2 P st).1 < 0
    · exact ⟨_, _, .un, rfl, by rw [if_pos z]⟩
    · exact ⟨_, _, .un, rfl, by rw [if_neg z]⟩
  obtain ⟨y12b, y17, _, hyb, hy17⟩ := hz
  refine seq_out (e := [.val (.lst NS), .own (.lst SH), .val (.int (n : Nat)), .val (.int (many : Nat)), .val (msD true L), .val (.bl cb), slL (!cb) (ky.map .int), .un, .un, .val (.int sv), .own (.lst (ms.map .int)), y11, y12b, .val (.int (st : Nat)), .val (msD (!qb) L), .val (plD false P), y16, y17, .val (.lst (gs.map .int)), .val (if 0 ≤ (at2 P st).1 then .tup [.str "forced", plD false P] else .tup [.str "held", .tup ((trapL P n).map .int)])]) (by 
    subst hyb
    by_cases z : (at2 P st).1 < 0
    · rw [if_pos z] at hy17
      subst hy17
      have ft := fin_trap ok.1 okL2 F stn z
      rw [ft] at tr1
      have nz : ¬ 0 ≤ (at2 P st).1 := by omega
      rw [decide_eq_true (tm.mpr z)] at di
      rw [if_neg nz]
      generalize (trapL P n).map D.int = TR at *
      generalize gs.map D.int = GS at *
      generalize msD true L = MS at *
      generalize plD false P = PF at *
      rcases hy12 with e | e <;> rw [e] <;> simp [Own.shared, di, tr1, it]
    · rw [if_neg z] at hy17
      subst hy17
      have ipl := ipl (gne z)
      have nz : 0 ≤ (at2 P st).1 := by omega
      rw [decide_eq_false fun y => z (tm.mp y)] at di
      rw [if_pos nz]
      generalize (trapL P n).map D.int = TR at *
      generalize gs.map D.int = GS at *
      generalize msD true L = MS at *
      generalize plD false P = PF at *
      rcases hy12 with e | e <;> rw [e] <;> simp [Own.shared, di, ipl]) ?_
  have jo := judges_ok (!qb) h1 h40 ok.1 okL2 gs st (P := P) pl (tr := trapL P n) (by omega) row dl d0
  have hy17 : y17 = .val (.lst ((trapL P n).map .int)) ∨ y17 = .own (.lst ((trapL P n).map .int)) := by
    by_cases z : (at2 P st).1 < 0
    · rw [if_pos z] at hy17; exact .inl hy17
    · rw [if_neg z] at hy17; exact .inr hy17
  subst hyb
  refine seq_out (e := [.val (.lst NS), .own (.lst SH), .val (.int (n : Nat)), .val (.int (many : Nat)), .val (msD true L), .val (.bl cb), slL (!cb) (ky.map .int), .un, .un, .val (.int sv), .own (.lst (ms.map .int)), y11, .val (.lst (gs.map .int)), .val (.int (st : Nat)), .val (msD (!qb) L), .val (plD false P), y16, .val (.lst ((trapL P n).map .int)), .val (.lst (gs.map .int)), .val (if 0 ≤ (at2 P st).1 then .tup [.str "forced", plD false P] else .tup [.str "held", .tup ((trapL P n).map .int)])]) (by 
    generalize (if 0 ≤ (at2 P st).1 then D.tup [.str "forced", plD false P] else D.tup [.str "held", .tup ((trapL P n).map .int)]) = SEC at *
    generalize (trapL P n).map D.int = TR at *
    generalize gs.map D.int = GS at *
    generalize msD (!qb) L = MQ at *
    generalize plD false P = PF at *
    generalize row.map D.int = RW at *
    rcases hy17 with e | e <;> rw [e] <;> simp [Own.shared, cu, jo]) ?_
  have rf : dEq (msD (!qb) L) (msD (!qb) L) = .ok (.bl true) := dEq_refl (okD_ms (n := n) (many := many) (!qb))
  have rg2 : dEq (.lst (gs.map .int)) (.lst (gs.map .int)) = .ok (.bl true) := dEq_refl (okD_intsl gs)
  generalize (if 0 ≤ (at2 P st).1 then D.tup [.str "forced", plD false P] else D.tup [.str "held", .tup ((trapL P n).map .int)]) = SEC at *
  generalize (trapL P n).map D.int = TR at *
  generalize gs.map D.int = GS at *
  generalize plD false P = PF at *
  have ml : D.lst (L.map (rwD true)) = msD true L := rfl
  generalize L.map (rwD true) = LM at *
  cases qb
  · simp only [Bool.not_false] at rf ⊢
    simp only [Bool.false_eq_true, if_false] at cpy
    generalize msD true L = MS at *
    simp [i5, hq, cpy, ml, rf, rg2]
  · simp only [Bool.not_true] at rf ⊢
    simp only [if_true] at cpy
    generalize msD true L = MS at *
    generalize msD false L = MF at *
    simp [i5, hq, cpy, rf, rg2]
end Lw
open PySem PySem.W PyProof.Rows in
set_option maxRecDepth 100000 in
set_option maxHeartbeats 0 in
theorem PySem.Challenge.cw_calmhouse_k61_wish_paper_holds : PySem.Challenge.rw_calmhouse_k61_wish_paper.Holds := by
  w_on; o_law; k_head; (case hw => w_witness2)
  k_fill
  refine M.walk_end (l := PySem.Challenge.rw_calmhouse_k61_wish_paper) (k := 8) rfl rfl ⟨rfl, by decide, by decide⟩ (fun w h Y => PySem.W.kIn_of Y) ?F Lw.law_true
  case F =>
    intro w mg fa h KX G hmg
    refine' Lw.all_mk KX G hmg ?a__law_cell ?l__law_cell ?c__law_cell ?k__law_cell ?a__law_chained ?l__law_chained ?c__law_chained ?k__law_chained ?a__law_copied ?l__law_copied ?c__law_copied ?k__law_copied ?a__law_is_paper ?l__law_is_paper ?c__law_is_paper ?k__law_is_paper ?a__law_best ?l__law_best ?c__law_best ?k__law_best ?a__law_is_integer ?l__law_is_integer ?c__law_is_integer ?k__law_is_integer ?a__law_plan_is_right ?l__law_plan_is_right ?c__law_plan_is_right ?k__law_plan_is_right ?a__law_plan_is_least ?l__law_plan_is_least ?c__law_plan_is_least ?k__law_plan_is_least ?a__law_is_plan ?l__law_is_plan ?c__law_is_plan ?k__law_is_plan ?a__law_is_trap ?l__law_is_trap ?c__law_is_trap ?k__law_is_trap ?a__law_changed_plan ?l__law_changed_plan ?c__law_changed_plan ?k__law_changed_plan ?a__law_changed_trap ?l__law_changed_trap ?c__law_changed_trap ?k__law_changed_trap ?a__law_says ?l__law_says ?c__law_says ?k__law_says ?a__law_trap_is_right ?l__law_trap_is_right ?c__law_trap_is_right ?k__law_trap_is_right ?a_is_integer ?l_is_integer ?c_is_integer ?k_is_integer ?a_is_place ?l_is_place ?c_is_place ?k_is_place ?a_pair_is_right ?l_pair_is_right ?c_pair_is_right ?k_pair_is_right ?a_shows_plan ?l_shows_plan ?c_shows_plan ?k_shows_plan ?a_holds_off ?l_holds_off ?c_holds_off ?k_holds_off ?a_shows_trap ?l_shows_trap ?c_shows_trap ?k_shows_trap ?a__law_judges_agree ?l__law_judges_agree ?c__law_judges_agree ?k__law_judges_agree ?a__law_row ?l__law_row ?c__law_row ?k__law_row ?a__law_targets ?l__law_targets ?c__law_targets ?k__law_targets ?a__law_moves ?l__law_moves ?c__law_moves ?k__law_moves ?a_are_places ?l_are_places ?c_are_places ?k_are_places ?a_is_moves ?l_is_moves ?c_is_moves ?k_is_moves ?a_demand_question ?l_demand_question ?c_demand_question ?k_demand_question ?a_forcing_event ?l_forcing_event ?c_forcing_event ?k_forcing_event ?a_forced_plan ?l_forced_plan ?c_forced_plan ?k_forced_plan ?a_wish_paper ?l_wish_paper ?c_wish_paper ?k_wish_paper ?a_law ?l_law ?c_law ?k_law ?a_HouseError ?kc_HouseError ?s_HouseError ?t_HouseError ?i_HouseError ?a_BadOrder ?kc_BadOrder ?s_BadOrder ?t_BadOrder ?i_BadOrder ?a_BadGraph ?kc_BadGraph ?s_BadGraph ?t_BadGraph ?i_BadGraph ?zsup ?z_bool ?z_enumerate ?z_int ?z_isinstance ?z_len ?z_list ?z_max ?z_min ?z_range ?z_set ?z_sorted ?z_str ?z_tuple ?v_MOST_EVENTS ?v_MOST_RESTS ?xi_BadOrder ?xi_BadGraph
    (case a__law_cell => k_is)
    (case l__law_cell => k_is)
    (case c__law_cell => k_is)
    (case k__law_cell => k_is)
    (case a__law_chained => k_is)
    (case l__law_chained => k_is)
    (case c__law_chained => k_is)
    (case k__law_chained => k_is)
    (case a__law_copied => k_is)
    (case l__law_copied => k_is)
    (case c__law_copied => k_is)
    (case k__law_copied => k_is)
    (case a__law_is_paper => k_is)
    (case l__law_is_paper => k_is)
    (case c__law_is_paper => k_is)
    (case k__law_is_paper => k_is)
    (case a__law_best => k_is)
    (case l__law_best => k_is)
    (case c__law_best => k_is)
    (case k__law_best => k_is)
    (case a__law_is_integer => k_is)
    (case l__law_is_integer => k_is)
    (case c__law_is_integer => k_is)
    (case k__law_is_integer => k_is)
    (case a__law_plan_is_right => k_is)
    (case l__law_plan_is_right => k_is)
    (case c__law_plan_is_right => k_is)
    (case k__law_plan_is_right => k_is)
    (case a__law_plan_is_least => k_is)
    (case l__law_plan_is_least => k_is)
    (case c__law_plan_is_least => k_is)
    (case k__law_plan_is_least => k_is)
    (case a__law_is_plan => k_is)
    (case l__law_is_plan => k_is)
    (case c__law_is_plan => k_is)
    (case k__law_is_plan => k_is)
    (case a__law_is_trap => k_is)
    (case l__law_is_trap => k_is)
    (case c__law_is_trap => k_is)
    (case k__law_is_trap => k_is)
    (case a__law_changed_plan => k_is)
    (case l__law_changed_plan => k_is)
    (case c__law_changed_plan => k_is)
    (case k__law_changed_plan => k_is)
    (case a__law_changed_trap => k_is)
    (case l__law_changed_trap => k_is)
    (case c__law_changed_trap => k_is)
    (case k__law_changed_trap => k_is)
    (case a__law_says => k_is)
    (case l__law_says => k_is)
    (case c__law_says => k_is)
    (case k__law_says => k_is)
    (case a__law_trap_is_right => k_is)
    (case l__law_trap_is_right => k_is)
    (case c__law_trap_is_right => k_is)
    (case k__law_trap_is_right => k_is)
    (case a_is_integer => k_is)
    (case l_is_integer => k_is)
    (case c_is_integer => k_is)
    (case k_is_integer => k_is)
    (case a_is_place => k_is)
    (case l_is_place => k_is)
    (case c_is_place => k_is)
    (case k_is_place => k_is)
    (case a_pair_is_right => k_is)
    (case l_pair_is_right => k_is)
    (case c_pair_is_right => k_is)
    (case k_pair_is_right => k_is)
    (case a_shows_plan => k_is)
    (case l_shows_plan => k_is)
    (case c_shows_plan => k_is)
    (case k_shows_plan => k_is)
    (case a_holds_off => k_is)
    (case l_holds_off => k_is)
    (case c_holds_off => k_is)
    (case k_holds_off => k_is)
    (case a_shows_trap => k_is)
    (case l_shows_trap => k_is)
    (case c_shows_trap => k_is)
    (case k_shows_trap => k_is)
    (case a__law_judges_agree => k_is)
    (case l__law_judges_agree => k_is)
    (case c__law_judges_agree => k_is)
    (case k__law_judges_agree => k_is)
    (case a__law_row => k_is)
    (case l__law_row => k_is)
    (case c__law_row => k_is)
    (case k__law_row => k_is)
    (case a__law_targets => k_is)
    (case l__law_targets => k_is)
    (case c__law_targets => k_is)
    (case k__law_targets => k_is)
    (case a__law_moves => k_is)
    (case l__law_moves => k_is)
    (case c__law_moves => k_is)
    (case k__law_moves => k_is)
    (case a_are_places => k_is)
    (case l_are_places => k_is)
    (case c_are_places => k_is)
    (case k_are_places => k_is)
    (case a_is_moves => k_is)
    (case l_is_moves => k_is)
    (case c_is_moves => k_is)
    (case k_is_moves => k_is)
    (case a_demand_question => k_is)
    (case l_demand_question => k_is)
    (case c_demand_question => k_is)
    (case k_demand_question => k_is)
    (case a_forcing_event => k_is)
    (case l_forcing_event => k_is)
    (case c_forcing_event => k_is)
    (case k_forcing_event => k_is)
    (case a_forced_plan => k_is)
    (case l_forced_plan => k_is)
    (case c_forced_plan => k_is)
    (case k_forced_plan => k_is)
    (case a_wish_paper => k_is)
    (case l_wish_paper => k_is)
    (case c_wish_paper => k_is)
    (case k_wish_paper => k_is)
    (case a_law => k_is)
    (case l_law => k_is)
    (case c_law => k_is)
    (case k_law => k_is)
    (case a_HouseError => k_is)
    (case kc_HouseError => k_is)
    (case s_HouseError => k_is)
    (case t_HouseError => k_is)
    (case i_HouseError => k_is)
    (case a_BadOrder => k_is)
    (case kc_BadOrder => k_is)
    (case s_BadOrder => k_is)
    (case t_BadOrder => k_is)
    (case i_BadOrder => k_is)
    (case a_BadGraph => k_is)
    (case kc_BadGraph => k_is)
    (case s_BadGraph => k_is)
    (case t_BadGraph => k_is)
    (case i_BadGraph => k_is)
    (case zsup => k_is)
    (case z_bool => k_is)
    (case z_enumerate => k_is)
    (case z_int => k_is)
    (case z_isinstance => k_is)
    (case z_len => k_is)
    (case z_list => k_is)
    (case z_max => k_is)
    (case z_min => k_is)
    (case z_range => k_is)
    (case z_set => k_is)
    (case z_sorted => k_is)
    (case z_str => k_is)
    (case z_tuple => k_is)
    (case v_MOST_EVENTS => k_is)
    (case v_MOST_RESTS => k_is)
    (case xi_BadOrder => kernel_rfl)
    (case xi_BadGraph => kernel_rfl)
