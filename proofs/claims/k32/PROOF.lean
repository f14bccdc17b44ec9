import PyProof.Rows.All
import Wide.All
import OpenK.AllK
import Wide.FinOn
import PySem.Str
import PySem.PyData
import HandS.ForMost
import HandS.ForExc
import HandS.ExcCtx
import HandS.HotCalls
import HandS.Zip
import HandS.Rev
import KE.KExcSuper
import HandS.ExcInit
import PyProof.P3Statements
import HandS.TupAny
import HandS.TupMul
import HandS.TupLe
import HandS.IsInst
import HandS.Strs
import HandS.Text
import HandS.Wide
import HandS.Deep
import HandS.Style
import HandS.Dict
import HandS.DictComp
import HandS.More
import HandS.ExcIs
import HandS.ExcField
import HandS.EndBits
import HandS.SortInts
import HandS.Gcd
import HandS.Conv
import KE.GoesMore
import KE.KMathGC
import KE.RegKSuper
import PySem.Challenge.RW_calmhouse_k32_orders_clash_or_join
set_option Elab.async false
set_option linter.all false
set_option maxRecDepth 100000
set_option maxHeartbeats 4000000
/-! MCore: values without a heap, and what a def of the text computes on them. -/
namespace M
open PySem (Str)

/-- data: what a value means, lists and tuples written out -/
inductive D where
  | non | bl (b : Bool) | int (i : Int) | str (s : Str) | tup (xs : List D) | lst (xs : List D)
  | ty (n : String) | cls (n : Nat) | dct (ks vs : List D)

/-- what a local list (dict, ..) holds that nobody else holds -/
inductive Own where
  | lst (xs : List D)
  | lst2 (xss : List (List D))
  | dct (ks vs : List D)

/-- an exception: its class, its fields -/
structure ExcV where
  cls : Nat
  fs : List (Str × D)

/-- a local name's slot -/
inductive Sl where
  | un | val (d : D) | own (o : Own) | exc (x : ExcV)

abbrev Env := List Sl

/-- an equation that simp shall not take for one by reckoning -/
theorem eqOf {α : Sort _} {a b : α} (h : a = b) : a = b := h
inductive Out (α : Type) where
  | ok (a : α) | exc (x : ExcV) | stuck

namespace Out
variable {α β : Type}
def bind (x : Out α) (f : α → Out β) : Out β := match x with
  | .ok a => f a | .exc e => .exc e | .stuck => .stuck
@[simp] theorem bind_ok (a : α) (f : α → Out β) : (Out.ok a).bind f = f a := eqOf rfl
@[simp] theorem bind_exc (e : ExcV) (f : α → Out β) : (Out.exc e : Out α).bind f = .exc e := eqOf rfl
@[simp] theorem bind_stuck (f : α → Out β) : (Out.stuck : Out α).bind f = .stuck := eqOf rfl
end Out

/-- what a statement comes to -/
inductive Fl where
  | next (e : Env) | ret (r : Sl) | brk (e : Env) | cont (e : Env) | exc (x : ExcV) (e : Env) | stuck

abbrev CE := Env → Out D
abbrev CT := Env → Out Bool
abbrev CA := Env → Out (List D)
abbrev CF := Env → Out Own
abbrev CS := Env → Fl
abbrev CP := Env → Out (Option Int)

/-- the longest list, tuple, text -/
def line : Nat := 16777216

/-! ### expressions -/
def eC (d : D) : CE := fun _ => .ok d
def eVar (i : Nat) : CE := fun env => match env[i]? with | some (.val d) => .ok d | _ => .stuck
/-- a name that is only looked at -/
def ePeek (i : Nat) : CE := fun env => match env[i]? with
  | some (.val d) => .ok d | some (.own (.lst xs)) => .ok (.lst xs) | some (.own (.dct ks vs)) => .ok (.dct ks vs) | _ => .stuck
def eOp1 (f : D → Out D) (a : CE) : CE := fun env => (a env).bind f
def eOp2 (f : D → D → Out D) (a b : CE) : CE := fun env => (a env).bind fun x => (b env).bind fun y => f x y
def eIf (t : CT) (a b : CE) : CE := fun env => (t env).bind fun c => if c then a env else b env
def eAnd (a b : CE) : CE := fun env => (a env).bind fun x => match x with | .bl true => b env | .bl false => .ok (.bl false) | _ => .stuck
def eOr (a b : CE) : CE := fun env => (a env).bind fun x => match x with | .bl true => .ok (.bl true) | .bl false => b env | _ => .stuck
def eNot (a : CE) : CE := fun env => (a env).bind fun x => match x with | .bl c => .ok (.bl (!c)) | _ => .stuck
/-- a < b < c -/
def eChain (f g : D → D → Out D) (a b c : CE) : CE := fun env => (a env).bind fun x => (b env).bind fun y => (f x y).bind fun z => match z with
  | .bl true => (c env).bind fun w => g y w
  | .bl false => .ok (.bl false)
  | _ => .stuck
def aNil : CA := fun _ => .ok []
def aCons (a : CE) (r : CA) : CA := fun env => (a env).bind fun x => (r env).bind fun xs => .ok (x :: xs)
def sized (n : Nat) {α : Type} (x : α) : Out α := if n ≤ line then .ok x else .stuck
def eTup (a : CA) : CE := fun env => (a env).bind fun xs => sized xs.length (.tup xs)
/-- a call of a built-in, by values -/
def eB (f : List D → Out D) (a : CA) : CE := fun env => (a env).bind f
/-- what is handed on is nobody's own any more -/
def Sl.shared : Sl → Out D
  | .val d => .ok d | .own (.lst xs) => .ok (.lst xs) | .own (.lst2 xss) => .ok (.lst (xss.map .lst)) | .own (.dct ks vs) => .ok (.dct ks vs) | _ => .stuck
abbrev Fn := List D → Out Sl
def eCall (F : Fn) (a : CA) : CE := fun env => (a env).bind fun ds => (F ds).bind Sl.shared
def Own.shared : Own → D
  | .lst xs => .lst xs | .lst2 xss => .lst (xss.map .lst) | .dct ks vs => .dct ks vs
def eShare (f : CF) : CE := fun env => (f env).bind fun o => .ok o.shared
/-- fresh lists -/
def fLst (a : CA) : CF := fun env => (a env).bind fun xs => sized xs.length (.lst xs)
def fB (f : List D → Out (List D)) (a : CA) : CF := fun env => (a env).bind fun xs => (f xs).bind fun ys => .ok (.lst ys)
def fOp2 (f : D → D → Out (List D)) (a b : CE) : CF := fun env => (a env).bind fun x => (b env).bind fun y => (f x y).bind fun ys => .ok (.lst ys)

/-! ### tests -/
def tVal (a : CE) : CT := fun env => (a env).bind fun x => match x with | .bl c => .ok c | _ => .stuck
def tNot (t : CT) : CT := fun env => (t env).bind fun c => .ok (!c)
def tAnd (t u : CT) : CT := fun env => (t env).bind fun c => if c then u env else .ok false
def tOr (t u : CT) : CT := fun env => (t env).bind fun c => if c then .ok true else u env

/-! ### statements -/
def Out.fl {α : Type} (x : Out α) (env : Env) (k : α → Fl) : Fl := match x with | .ok a => k a | .exc e => .exc e env | .stuck => .stuck
section
variable {α : Type}
@[simp] theorem fl_ok (a : α) (env : Env) (k : α → Fl) : (Out.ok a).fl env k = k a := eqOf rfl
@[simp] theorem fl_exc (e : ExcV) (env : Env) (k : α → Fl) : (Out.exc e : Out α).fl env k = .exc e env := eqOf rfl
@[simp] theorem fl_stuck (env : Env) (k : α → Fl) : (Out.stuck : Out α).fl env k = .stuck := eqOf rfl
end
def sNext : CS := fun env => .next env
def sSeq (s t : CS) : CS := fun env => match s env with | .next e => t e | r => r
def sSet (i : Nat) (a : CE) : CS := fun env => (a env).fl env fun d => .next (env.set i (.val d))
def sSetF (i : Nat) (a : CF) : CS := fun env => (a env).fl env fun o => .next (env.set i (.own o))
/-- y = f(..): what f made stays ours -/
def sSetCall (i : Nat) (F : Fn) (a : CA) : CS := fun env => ((a env).bind fun ds => F ds).fl env fun s => match s with
  | .val d => .next (env.set i (.val d)) | .own o => .next (env.set i (.own o)) | _ => .stuck
def sDrop (a : CE) : CS := fun env => (a env).fl env fun _ => .next env
def sRet (a : CE) : CS := fun env => (a env).fl env fun d => .ret (.val d)
def sRetN : CS := fun _ => .ret (.val .non)
/-- return x, x a list of our own -/
def sRetOwn (i : Nat) : CS := fun env => match env[i]? with | some (.val d) => .ret (.val d) | some (.own o) => .ret (.own o) | _ => .stuck
def sRetF (a : CF) : CS := fun env => (a env).fl env fun o => .ret (.own o)
def sRetCall (F : Fn) (a : CA) : CS := fun env => ((a env).bind fun ds => F ds).fl env fun s => match s with | .val d => .ret (.val d) | .own o => .ret (.own o) | _ => .stuck
def sIf (t : CT) (a b : CS) : CS := fun env => (t env).fl env fun c => if c then a env else b env
def sBrk : CS := fun env => .brk env
def sCont : CS := fun env => .cont env
/-- x is nobody's own any more -/
def sFreeze (i : Nat) (s : CS) : CS := fun env => match env[i]? with
  | some (.own o) => s (env.set i (.val o.shared))
  | _ => s env
/-- x.append(e), x our own list -/
def sAppend (i : Nat) (a : CE) : CS := fun env => match env[i]? with
  | some (.own (.lst xs)) => (a env).fl env fun d => if xs.length < line then .next (env.set i (.own (.lst (xs ++ [d])))) else .stuck
  | _ => .stuck
/-- the place of an index -/
def ixN (n : Nat) (i : Int) : Option Nat := if 0 ≤ i then (if i < n then some i.toNat else none) else if -(n : Int) ≤ i then some (i + n).toNat else none
/-- x[e] = v -/
def sSetIx (i : Nat) (e v : CE) : CS := fun env => (v env).fl env fun d => match env[i]? with
  | some (.own (.lst xs)) => (e env).fl env fun k => match k with
    | .int k => (match ixN xs.length k with | some j => .next (env.set i (.own (.lst (xs.set j d)))) | none => .stuck)
    | _ => .stuck
  | _ => .stuck
def sAug (i : Nat) (f : D → D → Out D) (a : CE) : CS := fun env => match env[i]? with
  | some (.val x) => (a env).fl env fun y => (f x y).fl env fun d => .next (env.set i (.val d))
  | _ => .stuck
/-- a loop's targets: what a turn's item does to the slots -/
abbrev Tg := D → Env → Option Env
def gName (i : Nat) : Tg := fun d env => some (env.set i (.val d))
def gMany : List Tg → List D → Env → Option Env
  | [], [], env => some env
  | g :: gs, d :: ds, env => (g d env).bind (gMany gs ds)
  | _, _, _ => none
def gTup (gs : List Tg) : Tg := fun d env => match d with | .tup ds => gMany gs ds env | _ => none
def sSetTg (g : Tg) (a : CE) : CS := fun env => (a env).fl env fun d => match g d env with | some e => .next e | none => .stuck
def forGo (g : Tg) (body : CS) : List D → CS
  | [], env => .next env
  | d :: ds, env => match g d env with
    | none => .stuck
    | some e1 => match body e1 with
      | .next e => forGo g body ds e
      | .cont e => forGo g body ds e
      | .brk e => .next e
      | r => r
/-- for g in items: body -/
def sFor (it : CA) (g : Tg) (body : CS) : CS := fun env => (it env).fl env fun ds => forGo g body ds env
def whileGo (t : CT) (body : CS) : Nat → CS
  | 0, _ => .stuck
  | n + 1, env => (t env).fl env fun c => if c then (match body env with
      | .next e => whileGo t body n e
      | .cont e => whileGo t body n e
      | .brk e => .next e
      | r => r) else .next env
def sWhile (n : Nat) (t : CT) (body : CS) : CS := whileGo t body n
/-- [e for g in items if t] : the slots behind it are as before -/
def Out.calm {α : Type} : Out α → Out α
  | .exc _ => .stuck | r => r
def lcGo (g : Tg) (t : CT) (e : CE) : List D → Env → List D → Out (List D)
  | [], _, acc => .ok acc
  | d :: ds, env, acc => match g d env with
    | none => .stuck
    | some env1 => (t env1).calm.bind fun c => if c then (e env1).calm.bind fun x => (if acc.length < line then lcGo g t e ds env (acc ++ [x]) else .stuck) else lcGo g t e ds env acc
def wipeE (env : Env) : List Nat → Env
  | [] => env
  | v :: vs => (wipeE env vs).set v .un
/-- vs: the slots of the comprehension's own names -/
def fComp (vs : List Nat) (it : CA) (g : Tg) (t : CT) (e : CE) : CF := fun env => (it env).bind fun ds => (lcGo g t e ds (wipeE env vs) []).bind fun xs => .ok (.lst xs)
def tTrue : CT := fun _ => .ok true
/-- raise C(..) -/
def sRaise (c : Nat) (fs : List Str) (a : CA) : CS := fun env => (a env).fl env fun ds => if ds.length = fs.length then .exc ⟨c, fs.zip ds⟩ env else .stuck
/-- try: body except C as x: suite; sub c: is a raised c a C (none: not asked). The slot of x is empty behind the suite -/
def clr (e : Env) : Env := e.map fun s => match s with | .exc _ => .un | s => s
/-- nothing may be raised here -/
def Fl.calm : Fl → Fl
  | .exc _ _ => .stuck | r => r
def Fl.unset (i : Nat) : Fl → Fl
  | .next e => .next ((clr e).set i .un) | .brk e => .brk ((clr e).set i .un) | .cont e => .cont ((clr e).set i .un) | r => r
abbrev Sub := Nat → Option Bool
def sTryAs (body : CS) (sub : Sub) (i : Nat) (suite : CS) : CS := fun env => match body env with
  | .exc x e => (match sub x.cls with
    | some true => (suite ((clr e).set i (.exc x))).calm.unset i
    | some false => .exc x e
    | none => .stuck)
  | r => r
/-- several clauses, without names -/
def tryGo : List (Sub × CS) → ExcV → CS
  | [], x, e => .exc x e
  | h :: hs, x, e => match h.1 x.cls with
    | some true => (h.2 (clr e)).calm
    | some false => tryGo hs x e
    | none => .stuck
def sTry (body : CS) (hs : List (Sub × CS)) : CS := fun env => match body env with
  | .exc x e => tryGo hs x e
  | r => r
/-- e.f, isinstance(e, C) of the exception that a suite holds -/
def eXf (i : Nat) (ok : Nat → Bool) (f : Str) : CE := fun env => match env[i]? with
  | some (.exc x) => if ok x.cls = true then (match x.fs.lookup f with | some d => .ok d | none => .stuck) else .stuck
  | _ => .stuck
def eXis (i : Nat) (sub : Sub) : CE := fun env => match env[i]? with | some (.exc x) => (match sub x.cls with | some b => .ok (.bl b) | none => .stuck) | _ => .stuck

/-! ### what is walked -/
def dItems : D → Out (List D)
  | .lst xs => .ok xs
  | .tup xs => .ok xs
  | .str s => .ok (s.cps.toList.map fun c => .str ⟨#[c]⟩)
  | _ => .stuck
/-- for x in a (a list or tuple that is shared, a text) -/
def iSeq (a : CE) : CA := fun env => (a env).bind dItems
def rangeL (lo hi : Int) : List D := (List.range (hi - lo).toNat).map fun i => .int (lo + (i : Nat))
def smallI (i : Int) : Prop := -(2 ^ 62) ≤ i ∧ i < 2 ^ 62
instance (i : Int) : Decidable (smallI i) := inferInstanceAs (Decidable (_ ∧ _))
def dRange1 : List D → Out (List D)
  | [.int j] => if smallI j then .ok (rangeL 0 j) else .stuck
  | _ => .stuck
def dRange2 : List D → Out (List D)
  | [.int i, .int j] => if smallI i ∧ smallI j then .ok (rangeL i j) else .stuck
  | _ => .stuck
def iB (f : List D → Out (List D)) (a : CA) : CA := fun env => (a env).bind f
def pairL : List D → List D → List D
  | x :: xs, y :: ys => .tup [x, y] :: pairL xs ys
  | _, _ => []
def dZip : List D → Out (List D)
  | [.lst xs, .lst ys] => .ok (pairL xs ys)
  | [.tup xs, .tup ys] => .ok (pairL xs ys)
  | _ => .stuck
def dRev : List D → Out (List D)
  | [.lst xs] => .ok xs.reverse
  | [.tup xs] => .ok xs.reverse
  | _ => .stuck
def enumL (i : Nat) : List D → List D
  | [] => []
  | x :: xs => .tup [.int (i : Nat), x] :: enumL (i + 1) xs
def dEnum : List D → Out (List D)
  | [.lst xs] => .ok (enumL 0 xs)
  | [.tup xs] => .ok (enumL 0 xs)
  | _ => .stuck

/-! ### a def -/
def Fl.out : Fl → Out Sl
  | .next _ => .ok (.val .non) | .ret r => .ok r | .exc x _ => .exc x | _ => .stuck
def startE (n : Nat) (ds : List D) : Env := ds.map .val ++ List.replicate (n - ds.length) .un
/-- a def with p parameters and n slots -/
def fn (p n : Nat) (body : CS) : Fn := fun ds => if ds.length = p then (body (startE n ds)).out else .stuck

end M
/-! MRel: how data stand in the heap; what an expression, a statement, a def means by its mirror. -/
namespace M
open PySem PySem.Spec PyProof.Rows L2

/-- the keys of a dict: ints, texts -/
def keyD : L2.Key → D
  | .inl i => .int i | .inr x => .str x
def DctAt (H : Hp) (a : Addr) (ks : List D) (us : List V) : Prop := ∃ kvs : List (L2.Key × V), H a = some (.dK kvs) ∧ ks = kvs.map (fun p => keyD p.1) ∧ us = kvs.map (·.2)
section
variable (K : PySem.W.Frag) (ca : Nat → Addr)
mutual
def Rep (H : Hp) : D → V → Prop
  | .non, v => v = .non
  | .bl b, v => v = .bl b
  | .int i, v => v = .int i
  | .str s, v => v = .str s
  | .ty n, v => v = .ty n
  | .cls n, v => v = .ref (ca n)
  | .tup xs, v => ∃ a vs, v = .ref a ∧ SqT K H a vs ∧ RepL H xs vs
  | .lst xs, v => ∃ a vs, v = .ref a ∧ SqL K H a vs ∧ RepL H xs vs
  | .dct ks vs, v => ∃ a us, v = .ref a ∧ DctAt H a ks us ∧ RepL H vs us
def RepL (H : Hp) : List D → List V → Prop
  | [], vs => vs = []
  | x :: xs, vs => ∃ v r, vs = v :: r ∧ Rep H x v ∧ RepL H xs r
end
/-- .. of a thing that may be a local list of our own: its items are shared -/
def PRep (Hf H : Hp) : D → V → Prop
  | .lst xs, v => ∃ a vs, v = .ref a ∧ SqL K H a vs ∧ RepL K ca Hf xs vs
  | .dct ks vs, v => ∃ a us, v = .ref a ∧ DctAt H a ks us ∧ RepL K ca Hf vs us
  | d, v => Rep K ca Hf d v
def RepF (H : Hp) : List (Str × D) → List (Str × V) → Prop
  | [], gs => gs = []
  | x :: xs, gs => ∃ v r, gs = (x.1, v) :: r ∧ Rep K ca H x.2 v ∧ RepF H xs r
def RepX (H : Hp) (x : ExcV) (cls : Value) (d : Option Addr) : Prop :=
  cls = .ref (ca x.cls) ∧ ((x.fs = [] ∧ d = none) ∨ ∃ dd gs, d = some dd ∧ H dd = some (.xd gs) ∧ RepF K ca H x.fs gs)
end

/-- what was there stands, the shared part grows by new things alone -/
structure Post (Hf H Hf' H' : Hp) : Prop where
  sh : Same Hf Hf'
  all : Same H H'
  sub : Same Hf' H'
  new : ∀ a, Hf' a ≠ none → Hf a ≠ none ∨ H a = none

/-- the entry of the def at hand; the exception that is handled -/
structure Gh where
  Hf : Hp
  H : Hp
/-- where a judgement stands: the classes' addresses, the exception that is handled, what is wanted of an exception -/
structure Jc where
  ca : Nat → Addr
  ea : Option (Addr × Value × Option Addr)
  W : WX

section
variable (K : PySem.W.Frag) (ca : Nat → Addr)
/-- what our own thing at p is; fp: the addresses that are ours alone -/
def OwnR (Hf H : Hp) (p : Addr) (fp : List Addr) : Own → Prop
  | .lst xs => ∃ vs, H p = some (.lst vs) ∧ RepL K ca Hf xs vs ∧ fp = [p]
  | .lst2 xss => ∃ ps, H p = some (.lst (ps.map .ref)) ∧ fp = p :: ps ∧ ps.length = xss.length ∧ ∀ (i : Nat) q xs, ps[i]? = some q → xss[i]? = some xs → ∃ vs, H q = some (.lst vs) ∧ RepL K ca Hf xs vs
  | .dct ks vs => ∃ us, DctAt H p ks us ∧ RepL K ca Hf vs us ∧ fp = [p]
def SlR (ea : Option (Addr × Value × Option Addr)) (Hf H : Hp) (fp : List Addr) : Sl → Option V → Prop
  | .un, _ => True
  | .val d, o => ∃ v, o = some v ∧ Rep K ca Hf d v
  | .own w, o => ∃ p, o = some (.ref p) ∧ OwnR K ca Hf H p fp w
  | .exc x, o => ∃ a cls d, ea = some (a, cls, d) ∧ o = some (.ref a) ∧ RepX K ca Hf x cls d
/-- the addresses of l are apart, and nobody else's -/
def Mine (G Hf H : Hp) (l : List Addr) : Prop := l.Nodup ∧ ∀ a ∈ l, Hf a = none ∧ G a = none ∧ H a ≠ none
structure RR (ea : Option (Addr × Value × Option Addr)) (G : Gh) (Hf : Hp) (env : M.Env) (σ : L2.St) (H : Hp) : Prop where
  post : Post G.Hf G.H Hf H
  len : env.length = σ.length
  slots : ∃ fps : List (List Addr), fps.length = env.length ∧ Mine G.H Hf H fps.flatten ∧ ∀ (i : Nat) s o fp, env[i]? = some s → σ[i]? = some o → fps[i]? = some fp → SlR K ca ea Hf H fp s o
def OwnV (G Hf H : Hp) (o : Own) (v : V) : Prop := ∃ p fp, v = .ref p ∧ OwnR K ca Hf H p fp o ∧ Mine G Hf H fp

/-- what an outcome asks: of a value with the heap behind it, of an exception -/
def OutP (W : WX) (σ : L2.St) {α : Type} (Hf H : Hp) (o : Out α) (k : α → Hp → Hp → Prop) : Prop := match o with
  | .ok a => ∀ Hf' H', Post Hf H Hf' H' → k a Hf' H'
  | .exc x => ∀ cls dd Hf' H', Post Hf H Hf' H' → RepX K ca Hf' x cls dd → W cls dd σ H'
  | .stuck => False
/-- the readings -/
def TM (j : Jc) (c : CE) : TE := fun σ H Q => ∃ G Hf env, RR K j.ca j.ea G Hf env σ H ∧ OutP K j.ca j.W σ Hf H (c env) fun d Hf' H' => ∀ v, Rep K j.ca Hf' d v → Q v H'
def TP (j : Jc) (c : CE) : TE := fun σ H Q => ∃ G Hf env, RR K j.ca j.ea G Hf env σ H ∧ OutP K j.ca j.W σ Hf H (c env) fun d Hf' H' => ∀ v, PRep K j.ca Hf' H' d v → Q v H'
def TF (j : Jc) (c : CF) : TE := fun σ H Q => ∃ G Hf env, RR K j.ca j.ea G Hf env σ H ∧ OutP K j.ca j.W σ Hf H (c env) fun o Hf' H' => ∀ v, OwnV K j.ca H Hf' H' o v → Q v H'
def TMT (j : Jc) (c : CT) : TT := fun σ H Q => ∃ G Hf env, RR K j.ca j.ea G Hf env σ H ∧ OutP K j.ca j.W σ Hf H (c env) fun b _ H' => Q b H'
def PRepL (Hf H : Hp) : List D → List V → Prop
  | [], vs => vs = []
  | x :: xs, vs => ∃ v r, vs = v :: r ∧ PRep K ca Hf H x v ∧ PRepL Hf H xs r
def TMA (j : Jc) (c : CA) : TA := fun σ H Q => ∃ G Hf env, RR K j.ca j.ea G Hf env σ H ∧ OutP K j.ca j.W σ Hf H (c env) fun ds Hf' H' => ∀ vs, RepL K j.ca Hf' ds vs → Q vs H'
def TPA (j : Jc) (c : CA) : TA := fun σ H Q => ∃ G Hf env, RR K j.ca j.ea G Hf env σ H ∧ OutP K j.ca j.W σ Hf H (c env) fun ds Hf' H' => ∀ vs, PRepL K j.ca Hf' H' ds vs → Q vs H'
def TFl (j : Jc) (G : Gh) (D : Ends) : Fl → Prop
  | .next e => ∀ σ Hf H, RR K j.ca j.ea G Hf e σ H → D.nx σ H
  | .brk e => ∀ σ Hf H, RR K j.ca j.ea G Hf e σ H → D.bk σ H
  | .cont e => ∀ σ Hf H, RR K j.ca j.ea G Hf e σ H → D.ct σ H
  | .ret (.val d) => ∀ v Hf H, Post G.Hf G.H Hf H → Rep K j.ca Hf d v → D.rt v H
  | .ret (.own o) => ∀ v Hf H, Post G.Hf G.H Hf H → OwnV K j.ca G.H Hf H o v → D.rt v H
  | .ret _ => False
  | .exc x e => ∀ cls dd σ Hf H, RR K j.ca j.ea G Hf e σ H → RepX K j.ca Hf x cls dd → j.W cls dd σ H
  | .stuck => False
def TMS (j : Jc) (c : CS) : TS := fun D σ H => ∃ G Hf env, RR K j.ca j.ea G Hf env σ H ∧ TFl K j G D (c env)
/-- a def's promise by its mirror -/
def spF (F : Fn) : Sp := fun vs H Q E => ∃ Hf ds, Same Hf H ∧ RepL K ca Hf ds vs ∧ match F ds with
  | .ok (.val d) => ∀ v Hf' H', Post Hf H Hf' H' → Rep K ca Hf' d v → Q v H'
  | .ok (.own o) => ∀ v Hf' H', Post Hf H Hf' H' → OwnV K ca H Hf' H' o v → Q v H'
  | .exc x => ∀ cls dd Hf' H', Post Hf H Hf' H' → RepX K ca Hf' x cls dd → E cls dd H'
  | _ => False
end

/-! ### judgements -/
def ME (X : Cx) (j : Jc) (e : Expr) (c : CE) : Prop := PE X e (TM X.K j c)
def MP (X : Cx) (j : Jc) (e : Expr) (c : CE) : Prop := PE X e (TP X.K j c)
def MF (X : Cx) (j : Jc) (e : Expr) (c : CF) : Prop := PE X e (TF X.K j c)
def MT (X : Cx) (j : Jc) (e : Expr) (c : CT) : Prop := PT X e (TMT X.K j c)
def MA (X : Cx) (j : Jc) (es : List Expr) (c : CA) : Prop := PA X es (TMA X.K j c)
def MPA (X : Cx) (j : Jc) (es : List Expr) (c : CA) : Prop := PA X es (TPA X.K j c)
def MS (X : Cx) (j : Jc) (s : Stmt) (c : CS) : Prop := PS X s (TMS X.K j c)
def MSs (X : Cx) (j : Jc) (s : List Stmt) (c : CS) : Prop := PSs X s (TMS X.K j c)

/-! ### heaps -/
theorem Post.refl {Hf H : Hp} (h : Same Hf H) : Post Hf H Hf H := ⟨Same.refl _, Same.refl _, h, fun _ q => .inl q⟩
theorem Post.trans {Hf H Hf1 H1 Hf2 H2 : Hp} (a : Post Hf H Hf1 H1) (b : Post Hf1 H1 Hf2 H2) : Post Hf H Hf2 H2 :=
  ⟨a.sh.trans b.sh, a.all.trans b.all, b.sub, fun x q => by
    rcases b.new x q with h | h
    · exact a.new x h
    · exact .inr (a.all.free h)⟩
theorem Same.rd {H H' : Hp} {a : Addr} {u : HO} (e : Same H H') (h : Rd H a u) : Rd H' a u := h.elim (fun h => .inl (e _ _ h)) fun ⟨o, h⟩ => .inr ⟨o, e _ _ h⟩
theorem Same.seqT {K : PySem.W.Frag} {H H' : Hp} {a : Addr} {xs : List V} (e : Same H H') (h : SqT K H a xs) : SqT K H' a xs := by
  rcases h with (h | ⟨o, h⟩) | h
  · exact .inl (.inl (e _ _ h))
  · exact .inl (.inr ⟨o, e _ _ h⟩)
  · exact .inr h
theorem DctAt.mono {H H' : Hp} (e : Same H H') {a : Addr} {ks : List D} {us : List V} (h : DctAt H a ks us) : DctAt H' a ks us := by
  obtain ⟨kvs, h1, h2⟩ := h
  exact ⟨kvs, e _ _ h1, h2⟩
section
variable {K : PySem.W.Frag} {ca : Nat → Addr} {H H' Hf Hf' : Hp}
mutual
theorem Rep.mono (e : Same H H') : ∀ (d : D) (v : V), Rep K ca H d v → Rep K ca H' d v
  | .non, _, h => h
  | .bl _, _, h => h
  | .int _, _, h => h
  | .str _, _, h => h
  | .ty _, _, h => h
  | .cls _, _, h => h
  | .tup xs, v, h => by
    unfold Rep at h ⊢
    obtain ⟨a, vs, e1, h1, h2⟩ := h
    exact ⟨a, vs, e1, Same.seqT e h1, RepL.mono e xs vs h2⟩
  | .lst xs, v, h => by
    unfold Rep at h ⊢
    obtain ⟨a, vs, e1, h1, h2⟩ := h
    exact ⟨a, vs, e1, e.seq h1, RepL.mono e xs vs h2⟩
  | .dct ks vs, v, h => by
    unfold Rep at h ⊢
    obtain ⟨a, us, e1, h1, h2⟩ := h
    exact ⟨a, us, e1, h1.mono e, RepL.mono e vs us h2⟩
theorem RepL.mono (e : Same H H') : ∀ (ds : List D) (vs : List V), RepL K ca H ds vs → RepL K ca H' ds vs
  | [], _, h => h
  | x :: xs, vs, h => by
    unfold RepL at h ⊢
    obtain ⟨v, r, e1, h1, h2⟩ := h
    exact ⟨v, r, e1, Rep.mono e x v h1, RepL.mono e xs r h2⟩
end
theorem RepF.mono (e : Same H H') : ∀ (fs : List (Str × D)) (gs : List (Str × V)), RepF K ca H fs gs → RepF K ca H' fs gs
  | [], _, h => h
  | x :: xs, vs, h => by
    unfold RepF at h ⊢
    obtain ⟨v, r, e1, h1, h2⟩ := h
    exact ⟨v, r, e1, Rep.mono e _ v h1, RepF.mono e xs r h2⟩
theorem RepX.mono (e : Same H H') {x : ExcV} {cls : Value} {d : Option Addr} (h : RepX K ca H x cls d) : RepX K ca H' x cls d := by
  obtain ⟨h1, h2⟩ := h
  refine ⟨h1, ?_⟩
  rcases h2 with h2 | ⟨dd, gs, e1, e2, h2⟩
  · exact .inl h2
  · exact .inr ⟨dd, gs, e1, e _ _ e2, RepF.mono e _ _ h2⟩
theorem PRep.of (s : Same Hf H) {d : D} {v : V} (h : Rep K ca Hf d v) : PRep K ca Hf H d v := by
  cases d <;> try exact h
  · obtain ⟨a, vs, e1, h1, h2⟩ := h
    exact ⟨a, vs, e1, s.seq h1, h2⟩
  · unfold Rep at h
    obtain ⟨a, vs, e1, h1, h2⟩ := h
    exact ⟨a, vs, e1, h1.mono s, h2⟩
theorem PRep.rep (s : Same Hf H) {d : D} {v : V} (h : PRep K ca Hf H d v) : Rep K ca H d v := by
  cases d <;> try exact Rep.mono s _ _ h
  · obtain ⟨a, vs, e1, h1, h2⟩ := h
    exact ⟨a, vs, e1, h1, RepL.mono s _ _ h2⟩
  · obtain ⟨a, vs, e1, h1, h2⟩ := h
    unfold Rep
    exact ⟨a, vs, e1, h1, RepL.mono s _ _ h2⟩
theorem PRep.grow (p : Post Hf H Hf' H') {d : D} {v : V} (h : PRep K ca Hf H d v) : PRep K ca Hf' H' d v := by
  cases d <;> try exact Rep.mono p.sh _ _ h
  · obtain ⟨a, vs, e1, h1, h2⟩ := h
    exact ⟨a, vs, e1, p.all.seq h1, RepL.mono p.sh _ _ h2⟩
  · obtain ⟨a, vs, e1, h1, h2⟩ := h
    exact ⟨a, vs, e1, h1.mono p.all, RepL.mono p.sh _ _ h2⟩
theorem RepL.length : ∀ {ds : List D} {vs : List V}, RepL K ca H ds vs → ds.length = vs.length
  | [], _, h => by unfold RepL at h; subst h; rfl
  | x :: xs, vs, h => by
    unfold RepL at h
    obtain ⟨v, r, e1, h1, h2⟩ := h
    subst e1
    simp [RepL.length h2]
theorem RepL.get : ∀ {ds : List D} {vs : List V} {i : Nat} {d : D}, RepL K ca H ds vs → ds[i]? = some d → ∃ v, vs[i]? = some v ∧ Rep K ca H d v
  | [], _, i, d, h, e => by simp at e
  | x :: xs, vs, 0, d, h, e => by
    unfold RepL at h
    obtain ⟨v, r, e1, h1, h2⟩ := h
    subst e1
    simp at e; subst e
    exact ⟨v, by simp, h1⟩
  | x :: xs, vs, i + 1, d, h, e => by
    unfold RepL at h
    obtain ⟨v, r, e1, h1, h2⟩ := h
    subst e1
    obtain ⟨u, q1, q2⟩ := RepL.get (i := i) h2 (by simpa using e)
    exact ⟨u, by simpa using q1, q2⟩
theorem RepL.append : ∀ {ds es : List D} {vs us : List V}, RepL K ca H ds vs → RepL K ca H es us → RepL K ca H (ds ++ es) (vs ++ us)
  | [], _, vs, us, h, g => by unfold RepL at h; subst h; simpa using g
  | x :: xs, es, vs, us, h, g => by
    unfold RepL at h
    obtain ⟨v, r, e1, h1, h2⟩ := h
    subst e1
    show RepL K ca H (x :: (xs ++ es)) _
    unfold RepL
    exact ⟨v, r ++ us, rfl, h1, RepL.append h2 g⟩
theorem RepL.one {d : D} {v : V} (h : Rep K ca H d v) : RepL K ca H [d] [v] := by
  unfold RepL
  exact ⟨v, [], rfl, h, by unfold RepL; rfl⟩
theorem RepL.set : ∀ {ds : List D} {vs : List V} {d : D} {v : V} (i : Nat), RepL K ca H ds vs → Rep K ca H d v → RepL K ca H (ds.set i d) (vs.set i v)
  | [], vs, d, v, i, h, g => by unfold RepL at h; subst h; simp; unfold RepL; rfl
  | x :: xs, vs, d, v, 0, h, g => by
    unfold RepL at h
    obtain ⟨u, r, e1, h1, h2⟩ := h
    subst e1
    show RepL K ca H (d :: xs) _
    unfold RepL
    exact ⟨v, r, rfl, g, h2⟩
  | x :: xs, vs, d, v, i + 1, h, g => by
    unfold RepL at h
    obtain ⟨u, r, e1, h1, h2⟩ := h
    subst e1
    show RepL K ca H (x :: xs.set i d) _
    unfold RepL
    exact ⟨u, r.set i v, rfl, h1, RepL.set i h2 g⟩
theorem PRepL.grow (p : Post Hf H Hf' H') : ∀ {ds : List D} {vs : List V}, PRepL K ca Hf H ds vs → PRepL K ca Hf' H' ds vs
  | [], _, h => h
  | x :: xs, vs, h => by
    unfold PRepL at h ⊢
    obtain ⟨v, r, e1, h1, h2⟩ := h
    exact ⟨v, r, e1, h1.grow p, PRepL.grow p h2⟩
theorem OwnR.grow (p : Post Hf H Hf' H') {q : Addr} {fp : List Addr} {o : Own} (h : OwnR K ca Hf H q fp o) : OwnR K ca Hf' H' q fp o := by
  cases o with
  | lst xs =>
    obtain ⟨vs, h1, h2, h3⟩ := h
    exact ⟨vs, p.all _ _ h1, RepL.mono p.sh _ _ h2, h3⟩
  | lst2 xss =>
    obtain ⟨ps, h1, h2, h3, h4⟩ := h
    refine ⟨ps, p.all _ _ h1, h2, h3, fun i q' xs e1 e2 => ?_⟩
    obtain ⟨vs, k1, k2⟩ := h4 i q' xs e1 e2
    exact ⟨vs, p.all _ _ k1, RepL.mono p.sh _ _ k2⟩
  | dct ks vs =>
    obtain ⟨us, h1, h2, h3⟩ := h
    exact ⟨us, h1.mono p.all, RepL.mono p.sh _ _ h2, h3⟩
theorem Mine.grow {G : Hp} (p : Post Hf H Hf' H') {l : List Addr} (h : Mine G Hf H l) : Mine G Hf' H' l := by
  refine ⟨h.1, fun a ha => ?_⟩
  obtain ⟨h1, h2, h3⟩ := h.2 a ha
  refine ⟨?_, h2, ?_⟩
  · cases e : Hf' a with
    | none => rfl
    | some o =>
      rcases p.new a (by rw [e]; simp) with z | z
      · exact absurd h1 z
      · exact absurd z h3
  · cases e : H a with
    | none => exact absurd e h3
    | some o => rw [p.all _ _ e]; simp
theorem RR.grow {ea : Option (Addr × Value × Option Addr)} {G : Gh} {env : M.Env} {σ : L2.St} (r : RR K ca ea G Hf env σ H) (p : Post Hf H Hf' H') : RR K ca ea G Hf' env σ H' := by
  refine ⟨r.post.trans p, r.len, ?_⟩
  obtain ⟨fps, l, m, h⟩ := r.slots
  refine ⟨fps, l, m.grow p, fun i s o fp e1 e2 e3 => ?_⟩
  have q := h i s o fp e1 e2 e3
  cases s with
  | un => trivial
  | val d =>
    obtain ⟨v, k1, k2⟩ := q
    exact ⟨v, k1, Rep.mono p.sh _ _ k2⟩
  | own w =>
    obtain ⟨a, k1, k2⟩ := q
    exact ⟨a, k1, k2.grow p⟩
  | exc x =>
    obtain ⟨a, cls, d, k1, k2, k3⟩ := q
    exact ⟨a, cls, d, k1, k2, k3.mono p.sh⟩
theorem RR.sub {ea : Option (Addr × Value × Option Addr)} {G : Gh} {env : M.Env} {σ : L2.St} (r : RR K ca ea G Hf env σ H) : Same Hf H := r.post.sub
/-- a new object that is shared from the start -/
theorem post_new (s : Same Hf H) {p : Addr} {o : HO} (hp : H p = none) : Post Hf H (upd Hf p o) (upd H p o) := by
  have hf : Hf p = none := s.free hp
  refine ⟨fun b x e => ?_, fun b x e => ?_, fun b x e => ?_, fun a q => ?_⟩
  · rw [upd_ne (ne_of_none e hf)]; exact e
  · rw [upd_ne (ne_of_none e hp)]; exact e
  · by_cases h : b = p
    · subst h; rw [upd_same] at e ⊢; exact e
    · rw [upd_ne h] at e ⊢; exact s _ _ e
  · by_cases h : a = p
    · subst h; exact .inr hp
    · rw [upd_ne h] at q; exact .inl q
/-- .. that is ours -/
theorem post_own (s : Same Hf H) {p : Addr} {o : HO} (hp : H p = none) : Post Hf H Hf (upd H p o) := by
  refine ⟨Same.refl _, fun b x e => ?_, fun b x e => ?_, fun a q => .inl q⟩
  · rw [upd_ne (ne_of_none e hp)]; exact e
  · rw [upd_ne (ne_of_none (s _ _ e) hp)]; exact s _ _ e
theorem ownV_new {Hf H : Hp} (s : Same Hf H) {p : Addr} {vs : List V} {xs : List D} (hp : H p = none) (r : RepL K ca Hf xs vs) : OwnV K ca H Hf (upd H p (.lst vs)) (.lst xs) (.ref p) :=
  ⟨p, [p], rfl, ⟨vs, upd_same, r, rfl⟩, by simp, fun a ha => by
    have e : a = p := by simpa using ha
    subst e
    exact ⟨s.free hp, hp, by rw [upd_same]; simp⟩⟩
end

section
variable {K : PySem.W.Frag} {ca : Nat → Addr} {H H' Hf Hf' : Hp} {W : WX} {σ : L2.St} {α β : Type}
theorem OutP.imp {o : Out α} {k k' : α → Hp → Hp → Prop} (h : OutP K ca W σ Hf H o k) (i : ∀ a Hf' H', o = .ok a → Post Hf H Hf' H' → k a Hf' H' → k' a Hf' H') : OutP K ca W σ Hf H o k' := by
  cases o with
  | ok a => exact fun Hf' H' p => i a Hf' H' rfl p (h Hf' H' p)
  | exc x => exact h
  | stuck => exact h
theorem OutP.grow {o : Out α} {k : α → Hp → Hp → Prop} (h : OutP K ca W σ Hf H o k) (p : Post Hf H Hf' H') : OutP K ca W σ Hf' H' o k := by
  cases o with
  | ok a => exact fun Hf2 H2 p2 => h Hf2 H2 (p.trans p2)
  | exc x => exact fun cls dd Hf2 H2 p2 r => h cls dd Hf2 H2 (p.trans p2) r
  | stuck => exact h
theorem OutP.bind {o : Out α} {f : α → Out β} {k : β → Hp → Hp → Prop} (h : OutP K ca W σ Hf H (o.bind f) k) : OutP K ca W σ Hf H o fun a Hf' H' => OutP K ca W σ Hf' H' (f a) k := by
  cases o with
  | ok a => exact fun Hf' H' p => OutP.grow (o := f a) h p
  | exc x => exact h
  | stuck => exact h
theorem OutP.ok {a : α} {k : α → Hp → Hp → Prop} (h : OutP K ca W σ Hf H (.ok a) k) (s : Same Hf H) : k a Hf H := h Hf H (Post.refl s)
theorem OutP.no {k : α → Hp → Hp → Prop} (h : OutP K ca W σ Hf H (.stuck : Out α) k) : False := h
end

/-! ### weakening -/
theorem PE.imp {X : Cx} {e : Expr} {t t' : TE} (h : PE X e t) (i : ∀ σ H Q, t' σ H Q → t σ H Q) : PE X e t' := ⟨fun pins s σ H Q I q => h.run pins s σ H Q I (i _ _ _ q)⟩
theorem PT.imp {X : Cx} {e : Expr} {t t' : TT} (h : PT X e t) (i : ∀ σ H Q, t' σ H Q → t σ H Q) : PT X e t' := ⟨fun pins s σ H Q I q => h.run pins s σ H Q I (i _ _ _ q)⟩
theorem PA.imp {X : Cx} {e : List Expr} {t t' : TA} (h : PA X e t) (i : ∀ σ H Q, t' σ H Q → t σ H Q) : PA X e t' := ⟨fun pos pins s σ H Q I q => h.run pos pins s σ H Q I (i _ _ _ q)⟩
theorem PS.imp {X : Cx} {e : Stmt} {t t' : TS} (h : PS X e t) (i : ∀ D σ H, t' D σ H → t D σ H) : PS X e t' := ⟨fun pins s σ H Q I q => h.run pins s σ H Q I (i _ _ _ q)⟩
theorem PSs.imp {X : Cx} {e : List Stmt} {t t' : TS} (h : PSs X e t) (i : ∀ D σ H, t' D σ H → t D σ H) : PSs X e t' := ⟨fun pins s σ H Q I q => h.run pins s σ H Q I (i _ _ _ q)⟩
end M
/-! MRules: the mirror's forms are sound. -/
namespace M
open PySem PySem.Spec PyProof.Rows L2
section
variable {K : PySem.W.Frag} {ca : Nat → Addr}
/-- what is ours becomes shared -/
theorem own_share {Hf H : Hp} {p : Addr} {fp : List Addr} {o : Own} (s : Same Hf H) (ow : OwnR K ca Hf H p fp o) (m : ∀ a ∈ fp, Hf a = none ∧ H a ≠ none) :
    ∃ Hf2 : Hp, Same Hf Hf2 ∧ Same Hf2 H ∧ (∀ a, Hf2 a ≠ none → Hf a ≠ none ∨ a ∈ fp) ∧ (∀ a, a ∉ fp → Hf2 a = Hf a) ∧ Rep K ca Hf2 o.shared (.ref p) := by
  refine ⟨fun a => if a ∈ fp then H a else Hf a, fun b x e => ?_, fun b x e => ?_, fun a h => ?_, fun a h => by simp [h], ?_⟩
  · have nb : b ∉ fp := fun z => by rw [(m b z).1] at e; cases e
    simp [nb, e]
  · by_cases hb : b ∈ fp
    · simpa [hb] using e
    · exact s _ _ (by simpa [hb] using e)
  · by_cases hb : a ∈ fp
    · exact .inr hb
    · exact .inl (by simpa [hb] using h)
  · have sm : Same Hf (fun a => if a ∈ fp then H a else Hf a) := fun b x e => by
      have nb : b ∉ fp := fun z => by rw [(m b z).1] at e; cases e
      simp [nb, e]
    cases o with
    | dct ks vs =>
      obtain ⟨us, ⟨kvs, h0, h1⟩, h2, h3⟩ := ow
      subst h3
      show Rep K ca _ (.dct ks vs) _
      unfold Rep
      exact ⟨p, us, rfl, ⟨kvs, by simpa using h0, h1⟩, RepL.mono sm _ _ h2⟩
    | lst xs =>
      obtain ⟨vs, h1, h2, h3⟩ := ow
      subst h3
      show Rep K ca _ (.lst xs) _
      unfold Rep
      exact ⟨p, vs, rfl, .inl (.inl (by simpa using h1)), RepL.mono sm _ _ h2⟩
    | lst2 xss =>
      obtain ⟨ps, h1, h2, h3, h4⟩ := ow
      subst h2
      show Rep K ca _ (.lst (xss.map .lst)) _
      unfold Rep
      refine ⟨p, ps.map .ref, rfl, .inl (.inl (by simpa using h1)), ?_⟩
      have all : ∀ (qs : List Addr) (yss : List (List D)), (∀ q ∈ qs, q ∈ p :: ps) → qs.length = yss.length →
          (∀ (i : Nat) q xs, qs[i]? = some q → yss[i]? = some xs → ∃ vs, H q = some (.lst vs) ∧ RepL K ca Hf xs vs) →
          RepL K ca (fun a => if a ∈ p :: ps then H a else Hf a) (yss.map .lst) (qs.map .ref) := by
        intro qs
        induction qs with
        | nil =>
          intro yss _ hl _
          cases yss with
          | nil => unfold RepL; rfl
          | cons y ys => simp at hl
        | cons q qs ih =>
          intro yss hm hl hh
          cases yss with
          | nil => simp at hl
          | cons y ys =>
            obtain ⟨vs, k1, k2⟩ := hh 0 q y (by simp) (by simp)
            show RepL K ca _ (.lst y :: ys.map .lst) (.ref q :: qs.map .ref)
            unfold RepL
            refine ⟨.ref q, qs.map .ref, rfl, ?_, ih ys (fun q' h => hm q' (List.mem_cons_of_mem _ h)) (by simpa using hl) fun i q' xs e1 e2 => hh (i + 1) q' xs (by simpa using e1) (by simpa using e2)⟩
            unfold Rep
            refine ⟨q, vs, rfl, .inl (.inl ?_), RepL.mono sm _ _ k2⟩
            have : q ∈ p :: ps := hm q List.mem_cons_self
            simp only [this, if_true]
            exact k1
      exact all ps xss (fun q h => List.mem_cons_of_mem _ h) h3 h4
theorem OwnV.share {G Hf H : Hp} {o : Own} {v : V} (s : Same Hf H) (h : OwnV K ca G Hf H o v) : ∃ Hf2 : Hp, Same Hf Hf2 ∧ Same Hf2 H ∧ (∀ a, Hf2 a ≠ none → Hf a ≠ none ∨ G a = none) ∧ Rep K ca Hf2 o.shared v := by
  obtain ⟨p, fp, rfl, ow, mi⟩ := h
  obtain ⟨Hf2, h1, h2, h3, _, h4⟩ := own_share s ow fun a ha => ⟨(mi.2 a ha).1, (mi.2 a ha).2.2⟩
  exact ⟨Hf2, h1, h2, fun a q => (h3 a q).imp_right fun z => (mi.2 a z).2.1, h4⟩
end
section
variable {X : Cx} {j : Jc} {e a b c : Expr} {es : List Expr} {ce cf cg : CE} {t u : CT} {al : CA} {pos : Pos}

/-! ### between the judgements -/
theorem me_p (h : ME X j e ce) : MP X j e ce := PE.imp h fun σ H Q ⟨G, Hf, env, r, m⟩ => ⟨G, Hf, env, r, m.imp fun d Hf' H' _ p k v rv => k v (PRep.of p.sub rv)⟩
theorem mf_e {ff : CF} (h : MF X j e ff) : ME X j e (eShare ff) := by
  refine PE.imp h fun σ H Q ⟨G, Hf, env, r, m⟩ => ⟨G, Hf, env, r, ?_⟩
  unfold eShare at m
  cases q : ff env with
  | ok o =>
    rw [q] at m
    intro Hf' H' p v ov
    obtain ⟨Hf2, h1, h2, h3, h4⟩ := ov.share p.sub
    exact m Hf2 H' ⟨p.sh.trans h1, p.all, h2, fun a z => (h3 a z).elim (p.new a) .inr⟩ v h4
  | exc x => rw [q] at m; exact m
  | stuck => rw [q] at m; exact m

/-! ### names, constants -/
theorem me_c {d : D} {v : V} (h : PE X e (tC v)) (r : ∀ Hf, Rep X.K j.ca Hf d v) : ME X j e (eC d) :=
  PE.imp h fun σ H Q ⟨G, Hf, env, rr, m⟩ => m Hf H (Post.refl rr.sub) v (r Hf)
theorem me_int {i : Int} {u : Nat} : ME X j (.Constant (.int i) u pos) (eC (.int i)) := me_c pe_int fun _ => rfl
theorem me_bl {i : Bool} {u : Nat} : ME X j (.Constant (.bool i) u pos) (eC (.bl i)) := me_c pe_bl fun _ => rfl
theorem me_non {u : Nat} : ME X j (.Constant .none u pos) (eC .non) := me_c pe_non fun _ => rfl
theorem me_str {x : Str} {u : Nat} : ME X j (.Constant (.str x) u pos) (eC (.str x)) := me_c pe_str fun _ => rfl
theorem slot_val {G : Gh} {Hf H : Hp} {env : M.Env} {σ : L2.St} {i : Nat} {d : D} (r : RR X.K j.ca j.ea G Hf env σ H) (h : env[i]? = some (.val d)) : ∃ v, σ[i]? = some (some v) ∧ Rep X.K j.ca Hf d v := by
  obtain ⟨fps, l, m, k⟩ := r.slots
  obtain ⟨hi, _⟩ := List.getElem?_eq_some_iff.mp h
  have h1 : i < σ.length := by rw [← r.len]; exact hi
  have h2 : i < fps.length := by rw [l]; exact hi
  obtain ⟨v, e1, e2⟩ := k i _ σ[i] fps[i] h (List.getElem?_eq_getElem h1) (List.getElem?_eq_getElem h2)
  exact ⟨v, by rw [List.getElem?_eq_getElem h1, e1], e2⟩
theorem slot_own {G : Gh} {Hf H : Hp} {env : M.Env} {σ : L2.St} {i : Nat} {o : Own} (r : RR X.K j.ca j.ea G Hf env σ H) (h : env[i]? = some (.own o)) :
    ∃ p fp, σ[i]? = some (some (.ref p)) ∧ OwnR X.K j.ca Hf H p fp o := by
  obtain ⟨fps, l, m, k⟩ := r.slots
  obtain ⟨hi, _⟩ := List.getElem?_eq_some_iff.mp h
  have h1 : i < σ.length := by rw [← r.len]; exact hi
  have h2 : i < fps.length := by rw [l]; exact hi
  obtain ⟨p, e1, e2⟩ := k i _ σ[i] fps[i] h (List.getElem?_eq_getElem h1) (List.getElem?_eq_getElem h2)
  exact ⟨p, fps[i], by rw [List.getElem?_eq_getElem h1, e1], e2⟩
theorem me_var {i : Nat} (h : PE X e (tVar i)) : ME X j e (eVar i) := by
  refine PE.imp h fun σ H Q ⟨G, Hf, env, r, m⟩ => ?_
  unfold eVar at m
  split at m
  · rename_i d hd
    obtain ⟨v, h1, h2⟩ := slot_val r hd
    exact ⟨v, h1, m Hf H (Post.refl r.sub) v h2⟩
  · exact m.no.elim
theorem mp_var {i : Nat} (h : PE X e (tVar i)) : MP X j e (ePeek i) := by
  refine PE.imp h fun σ H Q ⟨G, Hf, env, r, m⟩ => ?_
  unfold ePeek at m
  split at m
  · rename_i d hd
    obtain ⟨v, h1, h2⟩ := slot_val r hd
    exact ⟨v, h1, m Hf H (Post.refl r.sub) v (PRep.of r.sub h2)⟩
  · rename_i xs hd
    obtain ⟨p, fp, h1, vs, h2, h3, _⟩ := slot_own r hd
    exact ⟨.ref p, h1, m Hf H (Post.refl r.sub) _ ⟨p, vs, rfl, .inl (.inl h2), h3⟩⟩
  · rename_i ks vs hd
    obtain ⟨p, fp, h1, us, h2, h3, _⟩ := slot_own r hd
    exact ⟨.ref p, h1, m Hf H (Post.refl r.sub) _ ⟨p, us, rfl, h2, h3⟩⟩
  · exact m.no.elim

/-! ### operators, by values -/
/-- g is what the operator f makes -/
def Op2 (X : Cx) (ca : Nat → Addr) (f : Value → Value → Sem Value) (g : D → D → Out D) : Prop := ∃ r : R2, OpR X f r ∧
  ∀ (W : WX) (σ : L2.St) (Hf H : Hp) (x y : D) (v u : V) (Q : VK), Same Hf H → PRep X.K ca Hf H x v → PRep X.K ca Hf H y u → OutP X.K ca W σ Hf H (g x y) (fun d Hf' H' => ∀ v, Rep X.K ca Hf' d v → Q v H') → r v u H Q
theorem me_op {op : Operator} {g : D → D → Out D} (o : Op2 X j.ca (binaryOp op) g) (ha : MP X j a ce) (hb : MP X j b cf) : ME X j (.BinOp a op b pos) (eOp2 g ce cf) := by
  obtain ⟨r, h, k⟩ := o
  refine PE.imp (pe_op h ha hb) fun σ H Q ⟨G, Hf, env, rr, m⟩ => ⟨G, Hf, env, rr, m.bind.imp fun x Hf1 H1 _ p1 m1 v rv => ⟨G, Hf1, env, rr.grow p1, m1.bind.imp fun y Hf2 H2 _ p2 m2 u ru => ?_⟩⟩
  exact k j.W σ Hf2 H2 x y v u Q p2.sub (rv.grow p2) ru m2
theorem me_cmp {op : CmpOp} {g : D → D → Out D} (o : Op2 X j.ca (compareOp op) g) (ha : MP X j a ce) (hb : MP X j b cf) (hm : behindInMarks op b = false) : ME X j (.Compare a [op] [b] pos) (eOp2 g ce cf) := by
  obtain ⟨r, h, k⟩ := o
  refine PE.imp (pe_cmpR h ha hb hm) fun σ H Q ⟨G, Hf, env, rr, m⟩ => ⟨G, Hf, env, rr, m.bind.imp fun x Hf1 H1 _ p1 m1 v rv => ⟨G, Hf1, env, rr.grow p1, m1.bind.imp fun y Hf2 H2 _ p2 m2 u ru => ?_⟩⟩
  exact k j.W σ Hf2 H2 x y v u Q p2.sub (rv.grow p2) ru m2

/-! ### tests -/
theorem mt_val (h : ME X j e ce) (he : ∀ whole, isTrue e X.env whole = (do let v ← whole; standAt e.pos; holding [v] (truthy v)) := by intro _; rfl) : MT X j e (tVal ce) := by
  refine PT.imp (pt_val h he) fun σ H Q ⟨G, Hf, env, rr, m⟩ => ⟨G, Hf, env, rr, m.bind.imp fun x Hf1 H1 _ p1 m1 v rv => ?_⟩
  cases x with
  | bl c => exact ⟨c, rv, OutP.ok m1 p1.sub⟩
  | _ => exact (OutP.no m1).elim
theorem mt_cmp {op : CmpOp} {g : D → D → Out D} (o : Op2 X j.ca (compareOp op) g) (ha : MP X j a ce) (hb : MP X j b cf) (hm : behindInMarks op b = false) : MT X j (.Compare a [op] [b] pos) (tVal (eOp2 g ce cf)) := by
  obtain ⟨r, h, k⟩ := o
  refine PT.imp (pt_cmpR h ha hb hm) fun σ H Q ⟨G, Hf, env, rr, m⟩ => ?_
  have m' : OutP X.K j.ca j.W σ Hf H (eOp2 g ce cf env) fun d Hf' H' => ∀ v, Rep X.K j.ca Hf' d v → ∃ k, v = .bl k ∧ Q k H' := by
    refine m.bind.imp fun x Hf1 H1 _ p1 m1 v rv => ?_
    cases x with
    | bl c => exact ⟨c, rv, OutP.ok m1 p1.sub⟩
    | _ => exact (OutP.no m1).elim
  refine ⟨G, Hf, env, rr, m'.bind.imp fun x Hf1 H1 _ p1 m1 v rv => ⟨G, Hf1, env, rr.grow p1, m1.bind.imp fun y Hf2 H2 _ p2 m2 u ru => ?_⟩⟩
  exact k j.W σ Hf2 H2 x y v u _ p2.sub (rv.grow p2) ru m2
theorem mt_not (h : MT X j a t) : MT X j (.UnaryOp .Not a pos) (tNot t) :=
  PT.imp (pt_not h) fun σ H Q ⟨G, Hf, env, rr, m⟩ => ⟨G, Hf, env, rr, m.bind.imp fun x Hf1 H1 _ p1 m1 => OutP.ok m1 p1.sub⟩
def MW (X : Cx) (j : Jc) (e : Expr) (c : CT) : Prop := PW X e (TMT X.K j c)
theorem mw_and1 (h : MT X j a t) : MW X j (.BoolOp .And [a] pos) t := pw_and1 h
theorem mw_or1 (h : MT X j a t) : MW X j (.BoolOp .Or [a] pos) t := pw_or1 h
theorem PW.imp {e : Expr} {t t' : TT} (h : PW X e t) (i : ∀ σ H Q, t' σ H Q → t σ H Q) : PW X e t' := ⟨fun wh pins s σ H Q I q => h.run wh pins s σ H Q I (i _ _ _ q)⟩
theorem mw_and (ha : MT X j a t) (hb : MW X j (.BoolOp .And (b :: es) pos) u) : MW X j (.BoolOp .And (a :: b :: es) pos) (tAnd t u) := by
  refine PW.imp (pw_and ha hb) fun σ H Q ⟨G, Hf, env, rr, m⟩ => ⟨G, Hf, env, rr, m.bind.imp fun x Hf1 H1 _ p1 m1 => ?_⟩
  cases x with
  | true => exact ⟨G, Hf1, env, rr.grow p1, m1⟩
  | false => exact OutP.ok m1 p1.sub
theorem mw_or (ha : MT X j a t) (hb : MW X j (.BoolOp .Or (b :: es) pos) u) : MW X j (.BoolOp .Or (a :: b :: es) pos) (tOr t u) := by
  refine PW.imp (pw_or ha hb) fun σ H Q ⟨G, Hf, env, rr, m⟩ => ⟨G, Hf, env, rr, m.bind.imp fun x Hf1 H1 _ p1 m1 => ?_⟩
  cases x with
  | false => exact ⟨G, Hf1, env, rr.grow p1, m1⟩
  | true => exact OutP.ok m1 p1.sub
theorem mt_w (h : MW X j e t) : MT X j e t := PW.pt h

/-! ### and, or, not as values; if-expressions; chains -/
theorem me_one {op} (h : ME X j a ce) : ME X j (.BoolOp op [a] pos) ce := pe_one h
theorem me_and (ha : ME X j a ce) (hb : ME X j (.BoolOp .And (b :: es) pos) cf) : ME X j (.BoolOp .And (a :: b :: es) pos) (eAnd ce cf) := by
  refine PE.imp (pe_and ha hb) fun σ H Q ⟨G, Hf, env, rr, m⟩ => ⟨G, Hf, env, rr, m.bind.imp fun x Hf1 H1 _ p1 m1 v rv => ?_⟩
  cases x with
  | bl c =>
    refine ⟨c, rv, ?_⟩
    cases c with
    | true => exact ⟨G, Hf1, env, rr.grow p1, m1⟩
    | false => exact OutP.ok m1 p1.sub _ rfl
  | _ => exact (OutP.no m1).elim
theorem me_or (ha : ME X j a ce) (hb : ME X j (.BoolOp .Or (b :: es) pos) cf) : ME X j (.BoolOp .Or (a :: b :: es) pos) (eOr ce cf) := by
  refine PE.imp (pe_or ha hb) fun σ H Q ⟨G, Hf, env, rr, m⟩ => ⟨G, Hf, env, rr, m.bind.imp fun x Hf1 H1 _ p1 m1 v rv => ?_⟩
  cases x with
  | bl c =>
    refine ⟨c, rv, ?_⟩
    cases c with
    | false => exact ⟨G, Hf1, env, rr.grow p1, m1⟩
    | true => exact OutP.ok m1 p1.sub _ rfl
  | _ => exact (OutP.no m1).elim
theorem me_not (ha : ME X j a ce) : ME X j (.UnaryOp .Not a pos) (eNot ce) := by
  refine PE.imp (pe_not ha) fun σ H Q ⟨G, Hf, env, rr, m⟩ => ⟨G, Hf, env, rr, m.bind.imp fun x Hf1 H1 _ p1 m1 v rv => ?_⟩
  cases x with
  | bl c => exact ⟨c, rv, OutP.ok m1 p1.sub _ rfl⟩
  | _ => exact (OutP.no m1).elim
theorem me_if (hc : MT X j c t) (ha : ME X j a ce) (hb : ME X j b cf) : ME X j (.IfExp c a b pos) (eIf t ce cf) := by
  refine PE.imp (pe_ifExp hc ha hb) fun σ H Q ⟨G, Hf, env, rr, m⟩ => ⟨G, Hf, env, rr, m.bind.imp fun x Hf1 H1 _ p1 m1 => ?_⟩
  cases x with
  | true => exact ⟨G, Hf1, env, rr.grow p1, m1⟩
  | false => exact ⟨G, Hf1, env, rr.grow p1, m1⟩
theorem me_chain {op op' : CmpOp} {f g : D → D → Out D} (o : Op2 X j.ca (compareOp op) f) (o' : Op2 X j.ca (compareOp op') g) (ha : MP X j a ce) (hb : MP X j b cf) (hc : MP X j c cg)
    (hm : lastMarks [op, op'] [b, c] = false := by with_unfolding_all rfl) : ME X j (.Compare a [op, op'] [b, c] pos) (eChain f g ce cf cg) := by
  obtain ⟨r, h, k⟩ := o
  obtain ⟨r', h', k'⟩ := o'
  refine PE.imp (pe_chain h h' ha hb hc hm) fun σ H Q ⟨G, Hf, env, rr, m⟩ => ⟨G, Hf, env, rr, m.bind.imp fun x Hf1 H1 _ p1 m1 v rv => ⟨G, Hf1, env, rr.grow p1, m1.bind.imp fun y Hf2 H2 _ p2 m2 u ru => ?_⟩⟩
  refine k j.W σ Hf2 H2 x y v u _ p2.sub (rv.grow p2) ru (m2.bind.imp fun z Hf3 H3 _ p3 m3 w rw => ?_)
  cases z with
  | bl z =>
    refine ⟨z, rw, ?_⟩
    cases z with
    | true => exact ⟨G, Hf3, env, ((rr.grow p1).grow p2).grow p3, m3.bind.imp fun z Hf4 H4 _ p4 m4 w' rw' => k' j.W σ Hf4 H4 y z u w' _ p4.sub ((ru.grow p3).grow p4) rw' m4⟩
    | false => exact OutP.ok m3 p3.sub _ rfl
  | _ => exact (OutP.no m3).elim
theorem mt_chain {op op' : CmpOp} {f g : D → D → Out D} (o : Op2 X j.ca (compareOp op) f) (o' : Op2 X j.ca (compareOp op') g) (ha : MP X j a ce) (hb : MP X j b cf) (hc : MP X j c cg)
    (hm : lastMarks [op, op'] [b, c] = false := by with_unfolding_all rfl) : MT X j (.Compare a [op, op'] [b, c] pos) (tVal (eChain f g ce cf cg)) := by
  obtain ⟨r, h, k⟩ := o
  obtain ⟨r', h', k'⟩ := o'
  refine PT.imp (pt_chain h h' ha hb hc hm) fun σ H Q ⟨G, Hf, env, rr, m⟩ => ?_
  have m' : OutP X.K j.ca j.W σ Hf H (eChain f g ce cf cg env) fun d Hf' H' => ∀ v, Rep X.K j.ca Hf' d v → ∃ k, v = .bl k ∧ Q k H' := by
    refine m.bind.imp fun x Hf1 H1 _ p1 m1 v rv => ?_
    cases x with
    | bl c => exact ⟨c, rv, OutP.ok m1 p1.sub⟩
    | _ => exact (OutP.no m1).elim
  refine ⟨G, Hf, env, rr, m'.bind.imp fun x Hf1 H1 _ p1 m1 v rv => ⟨G, Hf1, env, rr.grow p1, m1.bind.imp fun y Hf2 H2 _ p2 m2 u ru => ?_⟩⟩
  refine k j.W σ Hf2 H2 x y v u _ p2.sub (rv.grow p2) ru (m2.bind.imp fun z Hf3 H3 _ p3 m3 w rw => ?_)
  cases z with
  | bl z =>
    refine ⟨z, rw, ?_⟩
    cases z with
    | true => exact ⟨G, Hf3, env, ((rr.grow p1).grow p2).grow p3, m3.bind.imp fun z Hf4 H4 _ p4 m4 w' rw' => k' j.W σ Hf4 H4 y z u w' _ p4.sub ((ru.grow p3).grow p4) rw' m4⟩
    | false => exact OutP.ok m3 p3.sub _ rfl
  | _ => exact (OutP.no m3).elim

/-! ### arguments, displays, built-ins -/
theorem ma_nil : MA X j [] aNil := PA.imp pa_nil fun σ H Q ⟨G, Hf, env, rr, m⟩ => OutP.ok m rr.sub [] (by unfold RepL; rfl)
theorem ma_cons (ha : ME X j e ce) (hr : MA X j es al) (hs : starEach (e :: es) X.env = (false, eval e X.env) :: starEach es X.env := by rfl) : MA X j (e :: es) (aCons ce al) := by
  refine PA.imp (pa_cons ha hr hs) fun σ H Q ⟨G, Hf, env, rr, m⟩ => ⟨G, Hf, env, rr, m.bind.imp fun x Hf1 H1 _ p1 m1 v rv => ⟨G, Hf1, env, rr.grow p1, m1.bind.imp fun y Hf2 H2 _ p2 m2 u ru => ?_⟩⟩
  exact OutP.ok m2 p2.sub _ (by unfold RepL; exact ⟨v, u, rfl, Rep.mono p2.sh _ _ rv, ru⟩)
theorem mpa_nil : MPA X j [] aNil := PA.imp pa_nil fun σ H Q ⟨G, Hf, env, rr, m⟩ => OutP.ok m rr.sub [] (by unfold PRepL; rfl)
theorem mpa_cons (ha : MP X j e ce) (hr : MPA X j es al) (hs : starEach (e :: es) X.env = (false, eval e X.env) :: starEach es X.env := by rfl) : MPA X j (e :: es) (aCons ce al) := by
  refine PA.imp (pa_cons ha hr hs) fun σ H Q ⟨G, Hf, env, rr, m⟩ => ⟨G, Hf, env, rr, m.bind.imp fun x Hf1 H1 _ p1 m1 v rv => ⟨G, Hf1, env, rr.grow p1, m1.bind.imp fun y Hf2 H2 _ p2 m2 u ru => ?_⟩⟩
  exact OutP.ok m2 p2.sub _ (by unfold PRepL; exact ⟨v, u, rfl, rv.grow p2, ru⟩)
theorem line_eq : line = sizeLine := by rw [sizeLine_eq]; rfl
theorem me_tup {x1} (h : MA X j es al) : ME X j (.Tuple es x1 pos) (eTup al) := by
  refine PE.imp (pe_tup h) fun σ H Q ⟨G, Hf, env, rr, m⟩ => ⟨G, Hf, env, rr, m.bind.imp fun xs Hf1 H1 _ p1 m1 vs rv => ?_⟩
  unfold sized at m1
  split at m1
  · rename_i hz
    refine ⟨by rw [← rv.length, ← line_eq]; exact hz, fun p hp => m1 _ _ (post_new p1.sub hp) _ ?_⟩
    unfold Rep
    exact ⟨p, vs, rfl, .inl (.inl upd_same), RepL.mono (post_new (o := .tup vs) p1.sub hp).sh _ _ rv⟩
  · exact (OutP.no m1).elim
theorem mf_lst (h : MA X j es al) : MF X j (.List es pos) (fLst al) := by
  refine PE.imp (pe_lst h) fun σ H Q ⟨G, Hf, env, rr, m⟩ => ⟨G, Hf, env, rr, m.bind.imp fun xs Hf1 H1 _ p1 m1 vs rv => ?_⟩
  unfold sized at m1
  split at m1
  · rename_i hz
    refine ⟨by rw [← rv.length, ← line_eq]; exact hz, fun p hp => m1 _ _ (post_own p1.sub hp) _ ?_⟩
    obtain ⟨q, fp, e, o, mi⟩ := ownV_new (K := X.K) (ca := j.ca) p1.sub hp rv
    exact ⟨q, fp, e, o, mi.1, fun a ha => ⟨(mi.2 a ha).1, p1.all.free (mi.2 a ha).2.1, (mi.2 a ha).2.2⟩⟩
  · exact (OutP.no m1).elim
/-- a built-in, by values -/
def BC (X : Cx) (ca : Nat → Addr) (f : Value) (g : List D → Out D) : Prop := ∃ r : List V → Hp → VK → Prop, CallR X f r ∧
  ∀ (W : WX) (σ : L2.St) (Hf H : Hp) (xs : List D) (vs : List V) (Q : VK), Same Hf H → PRepL X.K ca Hf H xs vs → OutP X.K ca W σ Hf H (g xs) (fun d Hf' H' => ∀ v, Rep X.K ca Hf' d v → Q v H') → r vs H Q
theorem me_b {id : String} {g : List D → Out D} {x : Str} {q : Pos} (o : BC X j.ca (.builtin id) g) (hg : Gl X x) (hm : X.mg x = none) (hv : bootBuiltins x = some (.builtin id)) (ha : MPA X j (e :: es) al)
    (hn : x ≠ "__name__" := by decide) (hdb : (x == ("__debug__" : Str)) = false := by decide) (he : starEach (e :: es) X.env = (false, eval e X.env) :: starEach es X.env := by rfl) (hpl : (backTo pos (starEach es X.env)).any (·.1) = false := by rfl) :
    ME X j (.Call (.Name x q) (e :: es) [] pos) (eB g al) := by
  obtain ⟨r, h, k⟩ := o
  exact PE.imp (pe_callB h hg hm hv ha hn hdb he hpl) fun σ H Q ⟨G, Hf, env, rr, m⟩ => ⟨G, Hf, env, rr, m.bind.imp fun xs Hf1 H1 _ p1 m1 vs rv => k j.W σ Hf1 H1 xs vs Q p1.sub rv m1⟩
theorem me_ty {T : String} {g : List D → Out D} {x : Str} {q : Pos} (o : BC X j.ca (.type T) g) (hg : Gl X x) (hm : X.mg x = none) (hv : bootBuiltins x = some (.type T)) (ha : MPA X j (e :: es) al)
    (hn : x ≠ "__name__" := by decide) (hdb : (x == ("__debug__" : Str)) = false := by decide) (he : starEach (e :: es) X.env = (false, eval e X.env) :: starEach es X.env := by rfl) (hpl : (backTo pos (starEach es X.env)).any (·.1) = false := by rfl) :
    ME X j (.Call (.Name x q) (e :: es) [] pos) (eB g al) := by
  obtain ⟨r, h, k⟩ := o
  exact PE.imp (pe_callTy h hg hm hv ha hn hdb he hpl) fun σ H Q ⟨G, Hf, env, rr, m⟩ => ⟨G, Hf, env, rr, m.bind.imp fun xs Hf1 H1 _ p1 m1 vs rv => k j.W σ Hf1 H1 xs vs Q p1.sub rv m1⟩
/-- .. that makes a new list -/
def BF (X : Cx) (ca : Nat → Addr) (f : Value) (g : List D → Out (List D)) : Prop := ∃ r : List V → Hp → VK → Prop, CallR X f r ∧
  ∀ (W : WX) (σ : L2.St) (Hf H : Hp) (xs : List D) (vs : List V) (Q : VK), Same Hf H → PRepL X.K ca Hf H xs vs → OutP X.K ca W σ Hf H (g xs) (fun ys Hf' H' => ∀ p us, H' p = none → RepL X.K ca Hf' ys us → Q (.ref p) (upd H' p (.lst us))) → r vs H Q
theorem own_step {K : PySem.W.Frag} {Hf H Hf1 H1 : Hp} {p : Addr} {us : List V} {ys : List D} (p1 : Post Hf H Hf1 H1) (hp : H1 p = none) (r : RepL K ca Hf1 ys us) : OwnV K ca H Hf1 (upd H1 p (.lst us)) (.lst ys) (.ref p) := by
  obtain ⟨q, fp, e, o, mi⟩ := ownV_new (K := K) (ca := ca) p1.sub hp r
  exact ⟨q, fp, e, o, mi.1, fun a ha => ⟨(mi.2 a ha).1, p1.all.free (mi.2 a ha).2.1, (mi.2 a ha).2.2⟩⟩
theorem mf_ty {T : String} {g : List D → Out (List D)} {x : Str} {q : Pos} (o : BF X j.ca (.type T) g) (hg : Gl X x) (hm : X.mg x = none) (hv : bootBuiltins x = some (.type T)) (ha : MPA X j (e :: es) al)
    (hn : x ≠ "__name__" := by decide) (hdb : (x == ("__debug__" : Str)) = false := by decide) (he : starEach (e :: es) X.env = (false, eval e X.env) :: starEach es X.env := by rfl) (hpl : (backTo pos (starEach es X.env)).any (·.1) = false := by rfl) :
    MF X j (.Call (.Name x q) (e :: es) [] pos) (fB g al) := by
  obtain ⟨r, h, k⟩ := o
  refine PE.imp (pe_callTy h hg hm hv ha hn hdb he hpl) fun σ H Q ⟨G, Hf, env, rr, m⟩ => ⟨G, Hf, env, rr, m.bind.imp fun xs Hf1 H1 _ p1 m1 vs rv => k j.W σ Hf1 H1 xs vs Q p1.sub rv (m1.bind.imp fun ys Hf2 H2 _ p2 m2 p us hp ru => ?_)⟩
  exact m2 _ _ (post_own p2.sub hp) _ (own_step (p1.trans p2) hp ru)
theorem mf_b {T : String} {g : List D → Out (List D)} {x : Str} {q : Pos} (o : BF X j.ca (.builtin T) g) (hg : Gl X x) (hm : X.mg x = none) (hv : bootBuiltins x = some (.builtin T)) (ha : MPA X j (e :: es) al)
    (hn : x ≠ "__name__" := by decide) (hdb : (x == ("__debug__" : Str)) = false := by decide) (he : starEach (e :: es) X.env = (false, eval e X.env) :: starEach es X.env := by rfl) (hpl : (backTo pos (starEach es X.env)).any (·.1) = false := by rfl) :
    MF X j (.Call (.Name x q) (e :: es) [] pos) (fB g al) := by
  obtain ⟨r, h, k⟩ := o
  refine PE.imp (pe_callB h hg hm hv ha hn hdb he hpl) fun σ H Q ⟨G, Hf, env, rr, m⟩ => ⟨G, Hf, env, rr, m.bind.imp fun xs Hf1 H1 _ p1 m1 vs rv => k j.W σ Hf1 H1 xs vs Q p1.sub rv (m1.bind.imp fun ys Hf2 H2 _ p2 m2 p us hp ru => ?_)⟩
  exact m2 _ _ (post_own p2.sub hp) _ (own_step (p1.trans p2) hp ru)

/-! ### calls of defs -/
section
variable {k : Nat} {f : Addr} {fd : FuncData} {ps : List Str} {F : Fn} {x : Str} {q : Pos}
theorem spF_read {G : Gh} {Hf H : Hp} {env : M.Env} {σ : L2.St} {ds : List D} {vs : List V} {Q : VK} (s : Same Hf H) (r : RepL X.K j.ca Hf ds vs)
    (m : OutP X.K j.ca j.W σ Hf H (F ds) fun s Hf' H' => ∀ v, (match s with | .val d => Rep X.K j.ca Hf' d v → Q v H' | .own o => OwnV X.K j.ca H Hf' H' o v → Q v H' | _ => False)) : spF X.K j.ca F vs H Q (WE j.W σ) := by
  refine ⟨Hf, ds, s, r, ?_⟩
  cases e : F ds with
  | ok sl =>
    rw [e] at m
    cases sl with
    | val d => exact fun v Hf' H' p rv => m Hf' H' p v rv
    | own o => exact fun v Hf' H' p rv => m Hf' H' p v rv
    | un => exact m Hf H (Post.refl s) .non
    | exc x => exact m Hf H (Post.refl s) .non
  | exc x => rw [e] at m; exact m
  | stuck => rw [e] at m; exact m
theorem call_tm {σ : L2.St} {H : Hp} {Q : VK} (h : TM X.K j (eCall F al) σ H Q) : tCallS (spF X.K j.ca F) (WE j.W) (TMA X.K j al) σ H Q := by
  obtain ⟨G, Hf, env, rr, m⟩ := h
  refine ⟨G, Hf, env, rr, m.bind.imp fun ds Hf1 H1 _ p1 m1 vs rv => spF_read (G := G) (env := env) p1.sub rv ?_⟩
  cases q : F ds with
  | ok sl =>
    rw [q] at m1
    intro Hf2 H2 p2 v
    cases sl with
    | val d => exact fun rv => m1 Hf2 H2 p2 v rv
    | own o =>
      intro ov
      obtain ⟨Hf3, h1, h2, h3, h4⟩ := ov.share p2.sub
      have e : (Out.ok (Sl.own o)).bind Sl.shared = .ok o.shared := by cases o <;> rfl
      rw [e] at m1
      exact m1 Hf3 H2 ⟨p2.sh.trans h1, p2.all, h2, fun a z => (h3 a z).elim (p2.new a) .inr⟩ v h4
    | un => exact m1.elim
    | exc x => exact m1.elim
  | exc x => rw [q] at m1; exact m1
  | stuck => rw [q] at m1; exact m1
theorem me_call (Fo : FnOk X.prog X.w X.K X.mg X.base (L2N.CX X.prog X.w) k f fd ps (spF X.K j.ca F)) (hr : Room k X.A) (hg : Gl X x) (hm : X.mg x = some (.ref f)) (hk : PySem.W.keepIn X.K (.ref f) = true) (hb : Binds X.K fd ps []) (tk : L2N.Takes X j.W)
    (ha : MA X j (e :: es) al) (hdb : (x == ("__debug__" : Str)) = false := by decide) (he : starEach (e :: es) X.env = (false, eval e X.env) :: starEach es X.env := by rfl) (hpl : (backTo pos (starEach es X.env)).any (·.1) = false := by rfl) :
    ME X j (.Call (.Name x q) (e :: es) [] pos) (eCall F al) :=
  PE.imp (pe_callS Fo hr hg hm hk hb (fun σ => L2N.passAt tk σ) ha hdb he hpl) fun σ H Q h => call_tm h
end
end
end M
/-! MStmt: statements, loops, comprehensions, defs. -/
namespace M
open PySem PySem.Spec PyProof.Rows L2
abbrev Ea := Option (Addr × Value × Option Addr)
section
variable {K : PySem.W.Frag} {ca : Nat → Addr} {ea : Ea} {G : Gh} {Hf H : Hp} {env : M.Env} {σ : L2.St}
theorem flatten_set_sub : ∀ {l : List (List Addr)} {i : Nat} {a : Addr}, a ∈ (l.set i []).flatten → a ∈ l.flatten := fun {l i a} h => by
  rw [List.mem_flatten] at h ⊢
  obtain ⟨m, h1, h2⟩ := h
  rcases List.mem_or_eq_of_mem_set h1 with q | q
  · exact ⟨m, q, h2⟩
  · subst q; simp at h2
theorem flatten_set_sublist : ∀ (l : List (List Addr)) (i : Nat), ((l.set i []).flatten).Sublist l.flatten
  | [], i => by simp
  | x :: l, 0 => by simp
  | x :: l, i + 1 => by simpa using flatten_set_sublist l i
theorem Mine.sub {G Hf H : Hp} {l l' : List Addr} (h : Mine G Hf H l) (s : l'.Sublist l) : Mine G Hf H l' := ⟨h.1.sublist s, fun a ha => h.2 a (s.subset ha)⟩
/-- a slot is stored -/
theorem RR.put (r : RR K ca ea G Hf env σ H) (i : Nat) {s : Sl} {o : Option V} (h : SlR K ca ea Hf H [] s o) : RR K ca ea G Hf (env.set i s) (σ.set i o) H := by
  obtain ⟨fps, l, m, k⟩ := r.slots
  refine ⟨r.post, by simp [r.len], fps.set i [], by simp [l], m.sub (flatten_set_sublist _ _), fun j s' o' fp e1 e2 e3 => ?_⟩
  by_cases hj : i = j
  · subst hj
    have h1 : i < env.length := by
      have := (List.getElem?_eq_some_iff.mp e1).1
      simpa using this
    have h2 : i < σ.length := by rw [← r.len]; exact h1
    have h3 : i < fps.length := by rw [l]; exact h1
    rw [List.getElem?_set_self h1] at e1
    rw [List.getElem?_set_self h2] at e2
    rw [List.getElem?_set_self h3] at e3
    cases e1; cases e2; cases e3
    exact h
  · rw [List.getElem?_set_ne hj] at e1 e2 e3
    exact k j s' o' fp e1 e2 e3
theorem RR.val (r : RR K ca ea G Hf env σ H) (i : Nat) {d : D} {v : V} (h : Rep K ca Hf d v) : RR K ca ea G Hf (env.set i (.val d)) (σ.set i (some v)) H := r.put i ⟨v, rfl, h⟩
theorem RR.un (r : RR K ca ea G Hf env σ H) (i : Nat) : RR K ca ea G Hf (env.set i .un) (σ.set i none) H := r.put i trivial
theorem mem_flatten_set : ∀ {l : List (List Addr)} {i : Nat} {fp : List Addr} {a : Addr}, a ∈ (l.set i fp).flatten → a ∈ fp ∨ a ∈ (l.set i []).flatten
  | [], i, fp, a, h => by simp at h
  | x :: l, 0, fp, a, h => by simpa using h
  | x :: l, i + 1, fp, a, h => by
    have h : a ∈ x ∨ a ∈ (l.set i fp).flatten := by simpa using h
    rcases h with h | h
    · exact .inr (by simp [h])
    · rcases mem_flatten_set h with q | q
      · exact .inl q
      · have q' := List.mem_flatten.mp q
        exact .inr (by simp only [List.set_cons_succ, List.flatten_cons, List.mem_append]; exact .inr q)
theorem nodup_flatten_set : ∀ {l : List (List Addr)} {i : Nat} {fp : List Addr}, l.flatten.Nodup → fp.Nodup → (∀ a ∈ fp, a ∉ (l.set i []).flatten) → (l.set i fp).flatten.Nodup
  | [], i, fp, _, _, _ => by simp
  | x :: l, 0, fp, h, hf, hd => by
    simp only [List.set_cons_zero, List.flatten_cons] at hd ⊢
    simp only [List.flatten_cons] at h
    rw [List.nodup_append] at h ⊢
    exact ⟨hf, h.2.1, fun a ha b hb e => by subst e; exact hd a ha (by simpa using hb)⟩
  | x :: l, i + 1, fp, h, hf, hd => by
    simp only [List.set_cons_succ, List.flatten_cons] at hd ⊢
    simp only [List.flatten_cons] at h
    rw [List.nodup_append] at h ⊢
    refine ⟨h.1, nodup_flatten_set h.2.1 hf fun a ha hb => hd a ha (by simp [List.mem_append]; exact .inr (by simpa using hb)), fun a ha b hb e => ?_⟩
    subst e
    rcases mem_flatten_set hb with q | q
    · exact hd a q (by simp only [List.mem_append]; exact .inl ha)
    · exact h.2.2 a ha a (flatten_set_sub q) rfl
/-- a new thing of ours is stored -/
theorem RR.putOwn {Hf' H' : Hp} (r : RR K ca ea G Hf env σ H) (p : Post Hf H Hf' H') (i : Nat) {o : Own} {v : V} (h : OwnV K ca H Hf' H' o v) : RR K ca ea G Hf' (env.set i (.own o)) (σ.set i (some v)) H' := by
  obtain ⟨q, fp, rfl, ow, mi⟩ := h
  have r' := r.grow p
  obtain ⟨fps, l, m, k⟩ := r.slots
  have hd : ∀ a ∈ fp, a ∉ fps.flatten := fun a ha hb => (m.2 a hb).2.2 (mi.2 a ha).2.1
  have k' : ∀ (i : Nat) s o fp, env[i]? = some s → σ[i]? = some o → fps[i]? = some fp → SlR K ca ea Hf' H' fp s o := fun i s o fp e1 e2 e3 => by
    have z := k i s o fp e1 e2 e3
    cases s with
    | un => trivial
    | val d => obtain ⟨v, k1, k2⟩ := z; exact ⟨v, k1, Rep.mono p.sh _ _ k2⟩
    | own w => obtain ⟨a, k1, k2⟩ := z; exact ⟨a, k1, k2.grow p⟩
    | exc x => obtain ⟨a, cls, d, k1, k2, k3⟩ := z; exact ⟨a, cls, d, k1, k2, k3.mono p.sh⟩
  have m' := m.grow p
  refine ⟨r'.post, by simp [r.len], fps.set i fp, by simp [l], ⟨nodup_flatten_set m.1 mi.1 fun a ha hb => hd a ha (flatten_set_sub hb), fun a ha => ?_⟩, fun j s' o' fp' e1 e2 e3 => ?_⟩
  · rcases mem_flatten_set ha with z | z
    · exact ⟨(mi.2 a z).1, r.post.all.free (mi.2 a z).2.1, (mi.2 a z).2.2⟩
    · exact m'.2 a (flatten_set_sub z)
  · by_cases hj : i = j
    · subst hj
      have h1 : i < env.length := by
        have := (List.getElem?_eq_some_iff.mp e1).1
        simpa using this
      have h2 : i < σ.length := by rw [← r.len]; exact h1
      have h3 : i < fps.length := by rw [l]; exact h1
      rw [List.getElem?_set_self h1] at e1
      rw [List.getElem?_set_self h2] at e2
      rw [List.getElem?_set_self h3] at e3
      cases e1; cases e2; cases e3
      exact ⟨q, rfl, ow⟩
    · rw [List.getElem?_set_ne hj] at e1 e2 e3
      exact k' j s' o' fp' e1 e2 e3
theorem nodup_flat_ne : ∀ {l : List (List Addr)} {i j : Nat} {a b : List Addr} {x : Addr}, l.flatten.Nodup → l[i]? = some a → l[j]? = some b → i ≠ j → x ∈ a → x ∉ b
  | [], i, j, a, b, x, h, e1, e2, ne, h1 => by simp at e1
  | c :: l, 0, 0, a, b, x, h, e1, e2, ne, h1 => absurd rfl ne
  | c :: l, 0, j + 1, a, b, x, h, e1, e2, ne, h1 => fun h2 => by
    simp only [List.flatten_cons] at h
    rw [List.nodup_append] at h
    simp at e1 e2; subst e1
    exact h.2.2 x h1 x (List.mem_flatten.mpr ⟨b, List.mem_of_getElem? e2, h2⟩) rfl
  | c :: l, i + 1, 0, a, b, x, h, e1, e2, ne, h1 => fun h2 => by
    simp only [List.flatten_cons] at h
    rw [List.nodup_append] at h
    simp at e1 e2; subst e2
    exact h.2.2 x h2 x (List.mem_flatten.mpr ⟨a, List.mem_of_getElem? e1, h1⟩) rfl
  | c :: l, i + 1, j + 1, a, b, x, h, e1, e2, ne, h1 => by
    simp only [List.flatten_cons] at h
    rw [List.nodup_append] at h
    exact nodup_flat_ne h.2.1 (by simpa using e1) (by simpa using e2) (fun z => ne (by rw [z])) h1
/-- our own list is changed -/
theorem RR.upd (r : RR K ca ea G Hf env σ H) {i : Nat} {xs ys : List D} {us : List V} {p : Addr} (he : env[i]? = some (.own (.lst xs))) (hs : σ[i]? = some (some (.ref p))) (ru : RepL K ca Hf ys us) :
    RR K ca ea G Hf (env.set i (.own (.lst ys))) σ (upd H p (.lst us)) ∧ (∃ vs, H p = some (.lst vs) ∧ RepL K ca Hf xs vs) := by
  obtain ⟨fps, l, m, k⟩ := r.slots
  have h1 : i < env.length := (List.getElem?_eq_some_iff.mp he).1
  have h3 : i < fps.length := by rw [l]; exact h1
  obtain ⟨p', e0, vs, hp, rv, ef⟩ := k i _ _ _ he hs (List.getElem?_eq_getElem h3)
  cases e0
  have hpm : p ∈ fps.flatten := List.mem_flatten.mpr ⟨fps[i], List.getElem_mem h3, by rw [ef]; simp⟩
  obtain ⟨m1, m2, m3⟩ := m.2 p hpm
  refine ⟨⟨⟨r.post.sh, fun b x e => ?_, fun b x e => ?_, r.post.new⟩, by simp [r.len], fps, by simp [l], ⟨m.1, fun a ha => ?_⟩, fun j s' o' fp' e1 e2 e3 => ?_⟩, vs, hp, rv⟩
  · rw [upd_ne (ne_of_none e m2)]; exact r.post.all _ _ e
  · rw [upd_ne (ne_of_none e m1)]; exact r.post.sub _ _ e
  · obtain ⟨z1, z2, z3⟩ := m.2 a ha
    refine ⟨z1, z2, ?_⟩
    by_cases hb : a = p
    · subst hb; rw [upd_same]; simp
    · rw [upd_ne hb]; exact z3
  · by_cases hj : i = j
    · subst hj
      rw [List.getElem?_set_self h1] at e1
      cases e1
      rw [hs] at e2; cases e2
      rw [List.getElem?_eq_getElem h3] at e3; cases e3
      exact ⟨p, rfl, us, upd_same, ru, ef⟩
    · rw [List.getElem?_set_ne hj] at e1
      have z := k j s' o' fp' e1 e2 e3
      cases s' with
      | un => trivial
      | val d => exact z
      | exc x => exact z
      | own w =>
        obtain ⟨q, k1, k2⟩ := z
        have np : p ∉ fp' := nodup_flat_ne m.1 (List.getElem?_eq_getElem h3) e3 hj (by rw [ef]; simp)
        refine ⟨q, k1, ?_⟩
        cases w with
        | dct ks' vs' =>
          obtain ⟨us', ⟨kvs, q0, q1⟩, q2, q3⟩ := k2
          subst q3
          exact ⟨us', ⟨kvs, by rw [upd_ne (fun z => np (by simp [z]))]; exact q0, q1⟩, q2, rfl⟩
        | lst xs' =>
          obtain ⟨vs', q1, q2, q3⟩ := k2
          subst q3
          exact ⟨vs', by rw [upd_ne (fun z => np (by simp [z]))]; exact q1, q2, rfl⟩
        | lst2 xss =>
          obtain ⟨ps, q1, q2, q3, q4⟩ := k2
          subst q2
          refine ⟨ps, by rw [upd_ne (fun z => np (by simp [z]))]; exact q1, rfl, q3, fun n q' xs'' w1 w2 => ?_⟩
          obtain ⟨vs', y1, y2⟩ := q4 n q' xs'' w1 w2
          exact ⟨vs', by rw [upd_ne (fun z => np (by rw [← z]; exact List.mem_cons_of_mem _ (List.mem_of_getElem? w1)))]; exact y1, y2⟩
/-- what is ours becomes shared -/
theorem RR.freeze (r : RR K ca ea G Hf env σ H) {i : Nat} {o : Own} (he : env[i]? = some (.own o)) : ∃ Hf2, Same Hf Hf2 ∧ RR K ca ea G Hf2 (env.set i (.val o.shared)) σ H := by
  obtain ⟨fps, l, m, k⟩ := r.slots
  have h1 : i < env.length := (List.getElem?_eq_some_iff.mp he).1
  have h2 : i < σ.length := by rw [← r.len]; exact h1
  have h3 : i < fps.length := by rw [l]; exact h1
  obtain ⟨p, e0, ow⟩ := k i _ _ _ he (List.getElem?_eq_getElem h2) (List.getElem?_eq_getElem h3)
  have hin : ∀ a ∈ fps[i], a ∈ fps.flatten := fun a ha => List.mem_flatten.mpr ⟨fps[i], List.getElem_mem h3, ha⟩
  obtain ⟨Hf2, s1, s2, s3, s4, s5⟩ := own_share r.sub ow fun a ha => ⟨(m.2 a (hin a ha)).1, (m.2 a (hin a ha)).2.2⟩
  refine ⟨Hf2, s1, ⟨r.post.sh.trans s1, r.post.all, s2, fun a ha => ?_⟩, by simp [r.len], fps.set i [], by simp [l], ⟨m.1.sublist (flatten_set_sublist _ _), fun a ha => ?_⟩, fun j s' o' fp' e1 e2 e3 => ?_⟩
  · rcases s3 a ha with z | z
    · exact r.post.new a z
    · exact .inr (m.2 a (hin a z)).2.1
  · obtain ⟨z1, z2, z3⟩ := m.2 a (flatten_set_sub ha)
    refine ⟨?_, z2, z3⟩
    have na : a ∉ fps[i] := fun hm => by
      rw [List.mem_flatten] at ha
      obtain ⟨c, c1, c2⟩ := ha
      obtain ⟨n, hn, en⟩ := List.mem_iff_getElem.mp c1
      by_cases hni : i = n
      · subst hni
        rw [List.getElem_set_self] at en
        subst en; simp at c2
      · rw [List.getElem_set_ne hni] at en
        have hn' : n < fps.length := by simpa using hn
        exact nodup_flat_ne m.1 (List.getElem?_eq_getElem h3) (List.getElem?_eq_getElem hn') hni hm (by rw [en]; exact c2)
    rw [s4 a na]; exact z1
  · by_cases hj : i = j
    · subst hj
      rw [List.getElem?_set_self h1] at e1
      rw [List.getElem?_set_self h3] at e3
      cases e1; cases e3
      rw [List.getElem?_eq_getElem h2] at e2; cases e2
      exact ⟨.ref p, e0, s5⟩
    · rw [List.getElem?_set_ne hj] at e1 e3
      have z := k j s' o' fp' e1 e2 e3
      cases s' with
      | un => trivial
      | val d => obtain ⟨v, k1, k2⟩ := z; exact ⟨v, k1, Rep.mono s1 _ _ k2⟩
      | exc x => obtain ⟨a, cls, d, k1, k2, k3⟩ := z; exact ⟨a, cls, d, k1, k2, k3.mono s1⟩
      | own w =>
        obtain ⟨q, k1, k2⟩ := z
        refine ⟨q, k1, ?_⟩
        cases w with
        | lst xs' => obtain ⟨vs', q1, q2, q3⟩ := k2; exact ⟨vs', q1, RepL.mono s1 _ _ q2, q3⟩
        | dct ks' vs' => obtain ⟨vs', q1, q2, q3⟩ := k2; exact ⟨vs', q1, RepL.mono s1 _ _ q2, q3⟩
        | lst2 xss =>
          obtain ⟨ps, q1, q2, q3, q4⟩ := k2
          refine ⟨ps, q1, q2, q3, fun n q' xs'' w1 w2 => ?_⟩
          obtain ⟨vs', y1, y2⟩ := q4 n q' xs'' w1 w2
          exact ⟨vs', y1, RepL.mono s1 _ _ y2⟩
/-- our own thing, as a value -/
theorem RR.ownV (r : RR K ca ea G Hf env σ H) {i : Nat} {o : Own} {v : V} (he : env[i]? = some (.own o)) (hs : σ[i]? = some (some v)) : OwnV K ca G.H Hf H o v := by
  obtain ⟨fps, l, m, k⟩ := r.slots
  have h1 : i < env.length := (List.getElem?_eq_some_iff.mp he).1
  have h3 : i < fps.length := by rw [l]; exact h1
  obtain ⟨p, e0, ow⟩ := k i _ _ _ he hs (List.getElem?_eq_getElem h3)
  cases e0
  refine ⟨p, fps[i], rfl, ow, ?_, fun a ha => m.2 a (List.mem_flatten.mpr ⟨fps[i], List.getElem_mem h3, ha⟩)⟩
  have := m.1
  exact List.Nodup.sublist (List.sublist_flatten_of_mem (List.getElem_mem h3)) this
/-- the ghost moves on -/
theorem RR.ghost (r : RR K ca ea G Hf env σ H) : RR K ca ea ⟨Hf, G.H⟩ Hf env σ H :=
  ⟨⟨Same.refl _, r.post.all, r.post.sub, fun a h => .inl h⟩, r.len, r.slots⟩
theorem Post.back {A B C E F : Hp} (p : Post A B C E) {C' E' : Hp} (q : Post C B C' E') : Post A B C' E' :=
  ⟨p.sh.trans q.sh, q.all, q.sub, fun a h => (q.new a h).elim (p.new a) .inr⟩
theorem RR.unghost {Hf' H' : Hp} {env' : M.Env} {σ' : L2.St} (p : Post G.Hf G.H Hf H) (r : RR K ca ea ⟨Hf, G.H⟩ Hf' env' σ' H') : RR K ca ea G Hf' env' σ' H' := ⟨p.back (E := H) (F := H) r.post, r.len, r.slots⟩
end
end M
/-! MStmt2: statements, loops. -/
namespace M
open PySem PySem.Spec PyProof.Rows L2
theorem Mine.back {G G' Hf H : Hp} {l : List Addr} (s : Same G' G) (h : Mine G Hf H l) : Mine G' Hf H l := ⟨h.1, fun a ha => ⟨(h.2 a ha).1, s.free (h.2 a ha).2.1, (h.2 a ha).2.2⟩⟩
theorem OwnV.back {K : PySem.W.Frag} {ca : Nat → Addr} {G G' Hf H : Hp} {o : Own} {v : V} (s : Same G' G) (h : OwnV K ca G Hf H o v) : OwnV K ca G' Hf H o v := by
  obtain ⟨p, fp, e, ow, mi⟩ := h
  exact ⟨p, fp, e, ow, mi.back s⟩
section
variable {K : PySem.W.Frag} {j : Jc} {G : Gh} {Hf H : Hp} {env : M.Env} {σ : L2.St} {D : Ends} {α : Type}
theorem TFl.back (p : Post G.Hf G.H Hf H) : ∀ {f : Fl}, TFl K j G D f → TFl K j ⟨Hf, G.H⟩ D f
  | .next e, h => fun σ Hf' H' r => h σ Hf' H' (r.unghost p)
  | .brk e, h => fun σ Hf' H' r => h σ Hf' H' (r.unghost p)
  | .cont e, h => fun σ Hf' H' r => h σ Hf' H' (r.unghost p)
  | .ret (.val d), h => fun v Hf' H' q rv => h v Hf' H' (p.back (E := H) (F := H) q) rv
  | .ret (.own o), h => fun v Hf' H' q rv => h v Hf' H' (p.back (E := H) (F := H) q) rv
  | .ret .un, h => h
  | .ret (.exc _), h => h
  | .exc x e, h => fun cls dd σ Hf' H' r rx => h cls dd σ Hf' H' (r.unghost p) rx
  | .stuck, h => h
theorem TFl.fl {o : Out α} {k : α → Fl} (r : RR K j.ca j.ea G Hf env σ H) (h : TFl K j G D (o.fl env k)) : OutP K j.ca j.W σ Hf H o fun a _ _ => TFl K j G D (k a) := by
  cases o with
  | ok a => exact fun _ _ _ => h
  | exc x => exact fun cls dd Hf' H' p rx => h cls dd σ Hf' H' (r.grow p) rx
  | stuck => exact h
end
section
variable {X : Cx} {j : Jc} {e : Expr} {es : List Expr} {ce : CE} {cf : CF} {t : CT} {al : CA} {pos : Pos} {s : Stmt} {ss rest : List Stmt} {c d : CS}
theorem ms_imp {tt : TS} (h : PS X s tt) (i : ∀ D σ H G Hf env, RR X.K j.ca j.ea G Hf env σ H → TFl X.K j G D (c env) → tt D σ H) : MS X j s c :=
  PS.imp h fun D σ H ⟨G, Hf, env, r, m⟩ => i D σ H G Hf env r m
theorem mss_nil : MSs X j [] sNext := PSs.imp pss_nil fun D σ H ⟨G, Hf, env, r, m⟩ => m σ Hf H r
theorem mss_one (h : MS X j s c) : MSs X j [s] c := pss_one h
theorem mss_cons (h1 : MS X j s c) (h2 : MSs X j rest d) : MSs X j (s :: rest) (sSeq c d) := by
  refine PSs.imp (pss_cons h1 h2) fun D σ H ⟨G, Hf, env, r, m⟩ => ⟨G, Hf, env, r, ?_⟩
  unfold sSeq at m
  split at m
  · rename_i e2 he
    rw [he]
    exact fun σ' Hf' H' r' => ⟨G, Hf', e2, r', m⟩
  · rename_i f hf
    cases q : c env with
    | next e2 => exact absurd q (hf e2)
    | ret sl =>
      rw [q] at m
      cases sl <;> exact m
    | brk e2 => rw [q] at m; exact m
    | cont e2 => rw [q] at m; exact m
    | exc x e2 => rw [q] at m; exact m
    | stuck => rw [q] at m; exact m
theorem ms_pass : MS X j (.Pass pos) sNext := ms_imp ps_pass fun D σ H G Hf env r m => m σ Hf H r
theorem ms_doc {x u q q'} : MS X j (.Expr (.Constant (.str x) u q) q') sNext := ms_imp ps_doc fun D σ H G Hf env r m => m σ Hf H r
theorem ms_break : MS X j (.Break pos) sBrk := ms_imp ps_break fun D σ H G Hf env r m => m σ Hf H r
theorem ms_continue : MS X j (.Continue pos) sCont := ms_imp ps_continue fun D σ H G Hf env r m => m σ Hf H r
theorem ms_expr (he : ME X j e ce) (hs : swapsWith e none pos.line X.env = pure false := by rfl) : MS X j (.Expr e pos) (sDrop ce) :=
  ms_imp (ps_expr he hs) fun D σ H G Hf env r m => ⟨G, Hf, env, r, (TFl.fl r m).imp fun d Hf' H' _ p m1 v rv => m1 σ Hf' H' (r.grow p)⟩
theorem ms_ret (he : ME X j e ce) : MS X j (.Return (some e) pos) (sRet ce) :=
  ms_imp (ps_ret he) fun D σ H G Hf env r m => ⟨G, Hf, env, r, (TFl.fl r m).imp fun d Hf' H' _ p m1 v rv => m1 v Hf' H' (r.post.trans p) rv⟩
theorem ms_retN : MS X j (.Return none pos) sRetN := ms_imp ps_retN fun D σ H G Hf env r m => m .non Hf H r.post rfl
theorem ms_retF (he : MF X j e cf) : MS X j (.Return (some e) pos) (sRetF cf) :=
  ms_imp (ps_ret he) fun D σ H G Hf env r m => ⟨G, Hf, env, r, (TFl.fl r m).imp fun d Hf' H' _ p m1 v rv => m1 v Hf' H' (r.post.trans p) (rv.back r.post.all)⟩
theorem ms_retOwn {i : Nat} (he : PE X e (tVar i)) : MS X j (.Return (some e) pos) (sRetOwn i) := by
  refine ms_imp (ps_ret he) fun D σ H G Hf env r m => ?_
  unfold sRetOwn at m
  split at m
  · rename_i d hd
    obtain ⟨v, h1, h2⟩ := slot_val r hd
    exact ⟨v, h1, m v Hf H r.post h2⟩
  · rename_i o hd
    obtain ⟨p, fp, h1, _⟩ := slot_own r hd
    exact ⟨.ref p, h1, m _ Hf H r.post (r.ownV hd h1)⟩
  · exact m.elim
theorem ms_if {a b : List Stmt} {ct : CT} {ca cb : CS} {q : Expr} (hc : MT X j q ct) (ha : MSs X j a ca) (hb : MSs X j b cb) : MS X j (.If q a b pos) (sIf ct ca cb) := by
  refine ms_imp (ps_if hc ha hb) fun D σ H G Hf env r m => ⟨G, Hf, env, r, (TFl.fl r m).imp fun k Hf' H' _ p m1 => ?_⟩
  cases k with
  | true => exact ⟨G, Hf', env, r.grow p, m1⟩
  | false => exact ⟨G, Hf', env, r.grow p, m1⟩
theorem ms_freeze {i : Nat} (h : MS X j s c) : MS X j s (sFreeze i c) := by
  refine ms_imp h fun D σ H G Hf env r m => ?_
  unfold sFreeze at m
  split at m
  · rename_i o ho
    obtain ⟨Hf2, s1, r2⟩ := r.freeze ho
    exact ⟨G, Hf2, _, r2, m⟩
  · exact ⟨G, Hf, env, r, m⟩
section
variable {i : Nat} {x : Str} {pos' : Pos}
theorem ms_set (hN : X.N.Nodup) (hi : X.N[i]? = some x) (hx : Loc X.env.scope x) (he : ME X j e ce) (hs : swapsWith e (some (.Name x pos')) pos.line X.env = pure false := by rfl)
    (hf : X.fn x = true ∨ X.env.scope.names.lookup x = some .local := by first | exact .inl rfl | exact .inr rfl | assumption) : MS X j (.Assign [.Name x pos'] e pos) (sSet i ce) :=
  ms_imp (ps_set hN hi hx he hs hf) fun D σ H G Hf env r m => ⟨G, Hf, env, r, (TFl.fl r m).imp fun d Hf' H' _ p m1 v rv => m1 _ _ _ ((r.grow p).val i rv)⟩
theorem ms_setF (hN : X.N.Nodup) (hi : X.N[i]? = some x) (hx : Loc X.env.scope x) (he : MF X j e cf) (hs : swapsWith e (some (.Name x pos')) pos.line X.env = pure false := by rfl)
    (hf : X.fn x = true ∨ X.env.scope.names.lookup x = some .local := by first | exact .inl rfl | exact .inr rfl | assumption) : MS X j (.Assign [.Name x pos'] e pos) (sSetF i cf) :=
  ms_imp (ps_set hN hi hx he hs hf) fun D σ H G Hf env r m => ⟨G, Hf, env, r, (TFl.fl r m).imp fun d Hf' H' _ p m1 v rv => m1 _ _ _ (r.putOwn p i rv)⟩
/-- a call of a def, what it makes may be ours -/
def MC (X : Cx) (j : Jc) (e : Expr) (F : Fn) (al : CA) : Prop := PE X e (tCallS (spF X.K j.ca F) (WE j.W) (TMA X.K j al))
theorem mc_call {k : Nat} {f : Addr} {fd : FuncData} {ps : List Str} {F : Fn} {q : Pos} (Fo : FnOk X.prog X.w X.K X.mg X.base (L2N.CX X.prog X.w) k f fd ps (spF X.K j.ca F)) (hr : Room k X.A) (hg : Gl X x) (hm : X.mg x = some (.ref f)) (hk : PySem.W.keepIn X.K (.ref f) = true) (hb : Binds X.K fd ps []) (tk : L2N.Takes X j.W)
    (ha : MA X j (e :: es) al) (hdb : (x == ("__debug__" : Str)) = false := by decide) (he : starEach (e :: es) X.env = (false, eval e X.env) :: starEach es X.env := by rfl) (hpl : (backTo pos (starEach es X.env)).any (·.1) = false := by rfl) :
    MC X j (.Call (.Name x q) (e :: es) [] pos) F al := pe_callS Fo hr hg hm hk hb (fun σ => L2N.passAt tk σ) ha hdb he hpl
theorem mc_e {F : Fn} (h : MC X j e F al) : ME X j e (eCall F al) := PE.imp h fun σ H Q h => call_tm h
theorem call_fl {F : Fn} {G : Gh} {Hf H : Hp} {env : M.Env} {σ : L2.St} {D : Ends} {k : Sl → Fl} {Q : VK} (r : RR X.K j.ca j.ea G Hf env σ H) (m : TFl X.K j G D (((al env).bind fun ds => F ds).fl env k)) (hu : k .un = .stuck) (hx : ∀ x, k (.exc x) = .stuck)
    (q : ∀ sl Hf' H' v, Post Hf H Hf' H' → TFl X.K j G D (k sl) → (match sl with | .val d => Rep X.K j.ca Hf' d v | .own o => OwnV X.K j.ca H Hf' H' o v | _ => False) → Q v H') : tCallS (spF X.K j.ca F) (WE j.W) (TMA X.K j al) σ H Q := by
  have m' := (TFl.fl r m).bind
  refine ⟨G, Hf, env, r, m'.imp fun ds Hf1 H1 _ p1 m1 vs rv => spF_read (G := G) (env := env) p1.sub rv (m1.imp fun sl Hf2 H2 _ p2 m2 v => ?_)⟩
  cases sl with
  | val d => exact fun rv => q (.val d) Hf2 H2 v (p1.trans p2) m2 rv
  | own o => exact fun ov => q (.own o) Hf2 H2 v (p1.trans p2) m2 (ov.back p1.all)
  | un => rw [hu] at m2; exact m2.elim
  | exc x => rw [hx] at m2; exact m2.elim
theorem ms_setCall {F : Fn} (hN : X.N.Nodup) (hi : X.N[i]? = some x) (hx : Loc X.env.scope x) (he : MC X j e F al) (hs : swapsWith e (some (.Name x pos')) pos.line X.env = pure false := by rfl)
    (hf : X.fn x = true ∨ X.env.scope.names.lookup x = some .local := by first | exact .inl rfl | exact .inr rfl | assumption) : MS X j (.Assign [.Name x pos'] e pos) (sSetCall i F al) := by
  refine ms_imp (ps_set hN hi hx he hs hf) fun D σ H G Hf env r m => call_fl r m rfl (fun _ => rfl) fun sl Hf' H' v p m1 rv => ?_
  cases sl with
  | val d => exact m1 _ _ _ ((r.grow p).val i rv)
  | own o => exact m1 _ _ _ (r.putOwn p i rv)
  | un => exact rv.elim
  | exc x => exact rv.elim
theorem ms_retCall {F : Fn} (he : MC X j e F al) : MS X j (.Return (some e) pos) (sRetCall F al) := by
  refine ms_imp (ps_ret he) fun D σ H G Hf env r m => call_fl r m rfl (fun _ => rfl) fun sl Hf' H' v p m1 rv => ?_
  cases sl with
  | val d => exact m1 v _ _ (r.post.trans p) rv
  | own o => exact m1 v _ _ (r.post.trans p) (rv.back r.post.all)
  | un => exact rv.elim
  | exc x => exact rv.elim
/-- xs.append(e) -/
theorem ms_append (hm : PE X e (tBM X.K "list" rAppend (tVar i) (tCons (TM X.K j ce) tNil))) (hs : swapsWith e none pos.line X.env = pure false := by rfl) : MS X j (.Expr e pos) (sAppend i ce) := by
  refine ms_imp (ps_expr hm hs) fun D σ H G Hf env r m => ?_
  unfold sAppend at m
  split at m
  · rename_i xs hx
    obtain ⟨p, fp, h1, vs0, h2, h3, _⟩ := slot_own r hx
    refine ⟨.ref p, h1, .inl ⟨rfl, vs0, .inl (.inl h2)⟩, ?_⟩
    refine ⟨G, Hf, env, r, (TFl.fl r m).imp fun d Hf1 H1 _ p1 m1 v rv => ?_⟩
    split at m1
    · rename_i hz
      have hp : H1 p = some (.lst vs0) := p1.all _ _ h2
      refine ⟨p, vs0, v, rfl, rfl, hp, by rw [← h3.length, ← line_eq]; exact hz, ?_⟩
      have r1 := r.grow p1
      exact m1 _ _ _ (r1.upd hx h1 (RepL.append (RepL.mono p1.sh _ _ h3) (RepL.one rv))).1
    · exact m1.elim
  · exact m.elim
/-- xs[e] = v -/
theorem ms_setIx {s : Stmt} {ci : CE} (hm : PS X s (tAsg (TM X.K j ce) (gSub (tVar i) (TP X.K j ci) rSetL))) : MS X j s (sSetIx i ci ce) := by
  refine ms_imp hm fun D σ H G Hf env r m => ?_
  unfold sSetIx at m
  refine ⟨G, Hf, env, r, (TFl.fl r m).imp fun d Hf1 H1 _ p1 m1 v rv => ?_⟩
  split at m1
  · rename_i xs hx
    obtain ⟨p, fp, h1, vs0, h2, h3, _⟩ := slot_own r hx
    refine ⟨.ref p, h1, ?_⟩
    have r1 := r.grow p1
    refine ⟨G, Hf1, env, r1, (TFl.fl r1 m1).imp fun k Hf2 H2 _ p2 m2 u ru => ?_⟩
    split at m2
    · rename_i _ kk _
      split at m2
      · rename_i jj hj
        have e : u = .int kk := ru
        subst e
        have hl : xs.length = vs0.length := h3.length
        refine ⟨p, vs0, kk, jj, rfl, rfl, (p1.trans p2).all _ _ h2, by rw [← hl]; exact hj, ?_⟩
        exact m2 _ _ _ ((r1.grow p2).upd hx h1 (RepL.set jj (RepL.mono (p1.trans p2).sh _ _ h3) (Rep.mono p2.sh _ _ rv))).1
      · exact m2.elim
    · exact m2.elim
  · exact m1.elim
end
end

/-! ### targets -/
section
variable {X : Cx} {j : Jc} {e : Expr} {es : List Expr} {pos : Pos} {vs : List Nat} {g : Tg} {gs : List Tg}
def tMG (K : PySem.W.Frag) (j : Jc) (vs : List Nat) (g : Tg) : TG := fun v σ H Q => ∃ G Hf env d e', RR K j.ca j.ea G Hf env σ H ∧ Rep K j.ca Hf d v ∧ g d env = some e' ∧ ∀ σ', RR K j.ca j.ea G Hf e' σ' H → wipe σ' vs = wipe σ vs → Q σ' H
def tMGs (K : PySem.W.Frag) (j : Jc) (vs : List Nat) (gs : List Tg) : TGs := fun us σ H Q => ∃ G Hf env ds e', RR K j.ca j.ea G Hf env σ H ∧ RepL K j.ca Hf ds us ∧ gMany gs ds env = some e' ∧ ∀ σ', RR K j.ca j.ea G Hf e' σ' H → wipe σ' vs = wipe σ vs → Q σ' H
/-- a target; it writes slots of vs alone -/
def MG (X : Cx) (j : Jc) (vs : List Nat) (e : Expr) (g : Tg) : Prop := PG X e (tMG X.K j vs g)
def MGs (X : Cx) (j : Jc) (vs : List Nat) (es : List Expr) (gs : List Tg) : Prop := PGs X es (tMGs X.K j vs gs)
theorem PG.imp {e : Expr} {t t' : TG} (h : PG X e t) (i : ∀ v σ H Q, t' v σ H Q → t v σ H Q) : PG X e t' := ⟨fun pins s σ H v u Q I r q => h.run pins s σ H v u Q I r (i _ _ _ _ q)⟩
theorem PGs.imp {e : List Expr} {t t' : TGs} (h : PGs X e t) (i : ∀ v σ H Q, t' v σ H Q → t v σ H Q) : PGs X e t' := ⟨fun pins s σ H v u Q I r q => h.run pins s σ H v u Q I r (i _ _ _ _ q)⟩
theorem wipe_get {σ : L2.St} {n : Nat} : ∀ {vs : List Nat}, (wipe σ vs)[n]? = if n ∈ vs then σ[n]?.map (fun _ => none) else σ[n]?
  | [] => by simp [wipe]
  | v :: vs => by
    show ((wipe σ vs).set v none)[n]? = _
    by_cases h : v = n
    · subst h
      rw [List.getElem?_set_self']
      rw [wipe_get (vs := vs)]
      by_cases hv : v ∈ vs
      · simp only [hv, if_true, List.mem_cons, true_or]
        cases σ[v]? <;> rfl
      · simp only [hv, if_false, List.mem_cons, true_or, if_true]
        rfl
    · rw [List.getElem?_set_ne h, wipe_get (vs := vs)]
      have : (n ∈ v :: vs) ↔ n ∈ vs := ⟨fun z => (List.mem_cons.mp z).resolve_left fun e => h e.symm, fun z => List.mem_cons_of_mem _ z⟩
      simp only [this]
theorem wipe_set_in {σ : L2.St} {i : Nat} {v : Option V} {vs : List Nat} (h : i ∈ vs) : wipe (σ.set i v) vs = wipe σ vs := by
  apply List.ext_getElem?
  intro n
  rw [wipe_get, wipe_get]
  by_cases hn : n ∈ vs
  · simp only [hn, if_true]
    by_cases hi : i = n
    · subst hi
      rw [List.getElem?_set_self']
      cases σ[i]? <;> rfl
    · rw [List.getElem?_set_ne hi]
  · simp only [hn, if_false]
    rw [List.getElem?_set_ne (fun e : i = n => hn (by rw [← e]; exact h))]
theorem mg_name {i : Nat} {x : Str} (hN : X.N.Nodup) (hi : X.N[i]? = some x) (hx : Loc X.env.scope x) (hv : i ∈ vs) (hf : X.fn x = true ∨ X.env.scope.names.lookup x = some .local := by first | exact .inl rfl | exact .inr rfl | assumption) : MG X j vs (.Name x pos) (gName i) := by
  refine PG.imp (pg_name hN hi hx hf) fun v σ H Q ⟨G, Hf, env, d, e', r, rv, he, q⟩ => ?_
  cases he
  exact q _ (r.val i rv) (wipe_set_in hv)
theorem mgs_nil : MGs X j vs [] [] := by
  refine PGs.imp pgs_nil fun us σ H Q ⟨G, Hf, env, ds, e', r, rv, he, q⟩ => ?_
  cases ds with
  | nil => cases he; unfold RepL at rv; exact ⟨rv, q _ r rfl⟩
  | cons d ds => cases he
theorem mgs_cons (h1 : MG X j vs e g) (h2 : MGs X j vs es gs) (hs : (assignEach (e :: es) X.env).map (·.2) = assign e X.env :: (assignEach es X.env).map (·.2) := by rfl) : MGs X j vs (e :: es) (g :: gs) := by
  refine PGs.imp (pgs_cons h1 h2 hs) fun us σ H Q ⟨G, Hf, env, ds, e', r, rv, he, q⟩ => ?_
  cases ds with
  | nil => cases he
  | cons d ds =>
    unfold RepL at rv
    obtain ⟨v, us', e1, h1, h2⟩ := rv
    have he : (g d env).bind (gMany gs ds) = some e' := he
    cases q1 : g d env with
    | none => rw [q1] at he; cases he
    | some e1' =>
      rw [q1] at he
      exact ⟨v, us', e1, G, Hf, env, d, e1', r, h1, q1, fun σ' r' w' => ⟨G, Hf, e1', ds, e', r', h2, he, fun σ2 r2 w2 => q σ2 r2 (w2.trans w')⟩⟩
theorem gMany_len : ∀ {gs : List Tg} {ds : List D} {env e' : M.Env}, gMany gs ds env = some e' → ds.length = gs.length
  | [], [], _, _, _ => rfl
  | [], d :: ds, _, _, h => by cases h
  | g :: gs, [], _, _, h => by cases h
  | g :: gs, d :: ds, env, e', h => by
    have h : (g d env).bind (gMany gs ds) = some e' := h
    cases q : g d env with
    | none => rw [q] at h; cases h
    | some e1 => rw [q] at h; simp [gMany_len (show gMany gs ds e1 = some e' from h)]
theorem mg_tup {k : Nat} (hc : X.calm = true) (h : MGs X j vs es gs) (hn : (assignEach es X.env).length = gs.length := by rfl) (hst : (assignEach es X.env).findIdx? (·.1) = none := by rfl) : MG X j vs (.Tuple es k pos) (gTup gs) := by
  refine PG.imp (pg_tup hc h hn hst) fun v σ H Q ⟨G, Hf, env, d, e', r, rv, he, q⟩ => ?_
  cases d with
  | tup ds =>
    unfold Rep at rv
    obtain ⟨a, us, e1, h1, h2⟩ := rv
    have he : gMany gs ds env = some e' := he
    exact ⟨a, us, e1, Same.seqT r.sub h1, by rw [← h2.length]; exact gMany_len he, G, Hf, env, ds, e', r, h2, he, q⟩
  | _ => cases he
theorem ms_setTg {ce : CE} {tg : Expr} (he : ME X j e ce) (hg : MG X j vs tg g) (hs : swapsWithSole [tg] e pos.line X.env = pure false := by rfl) (hw : swappedStores [tg] e X.env = pure none := by rfl)
    (h1 : (assignEach [tg] X.env).map (·.2) = [assign tg X.env] := by rfl) : MS X j (.Assign [tg] e pos) (sSetTg g ce) := by
  refine ms_imp (ps_asg he hg hs hw h1) fun D σ H G Hf env r m => ⟨G, Hf, env, r, (TFl.fl r m).imp fun d Hf' H' _ p m1 v rv => ?_⟩
  split at m1
  · rename_i e' he'
    exact ⟨G, Hf', env, d, e', r.grow p, rv, he', fun σ' r' _ => m1 _ _ _ r'⟩
  · exact m1.elim

/-! ### loops -/
/-- J walks ds, from a heap whose shared part is Hf0 on -/
structure ItOk (K : PySem.W.Frag) (ca : Nat → Addr) (Hf0 : Hp) (ds : List D) (J : It) : Prop where
  go : ∀ i Hf H, Same Hf0 Hf → Same Hf H → i < ds.length → J.go i H
  yld : ∀ i Hf H x H' d, Same Hf0 Hf → Same Hf H → ds[i]? = some d → J.yld i H x H' → ∃ Hf', Post Hf H Hf' H' ∧ Rep K ca Hf' d x
  stop : ∀ i Hf H, Same Hf0 Hf → Same Hf H → ds.length ≤ i → J.stop i H
def TIt (K : PySem.W.Frag) (j : Jc) (c : CA) : TI := fun σ H R => ∃ G Hf env, RR K j.ca j.ea G Hf env σ H ∧ OutP K j.ca j.W σ Hf H (c env) fun ds Hf' H' => ∀ J, ItOk K j.ca Hf' ds J → R J H'
def MI (X : Cx) (j : Jc) (tg e : Expr) (c : CA) : Prop := PI X tg e (TIt X.K j c)
theorem PI.imp {tg e : Expr} {t t' : TI} (h : PI X tg e t) (i : ∀ σ H Q, t' σ H Q → t σ H Q) : PI X tg e t' := ⟨fun pins s σ H R I q => h.run pins s σ H R I (i _ _ _ q)⟩
theorem drop_at {α : Type} {l : List α} {i : Nat} (h : i < l.length) : l.drop i = l[i] :: l.drop (i + 1) := by rw [List.drop_eq_getElem_cons h]
theorem ms_for {iter tg : Expr} {body : List Stmt} {it : CA} {sb : CS} (hp : PassesOwn (model X.prog X.w) X.A X.env X.xe) (hc : X.calm = true) (hi : MI X j tg iter it) (hg : MG X j vs tg g) (hb : MSs X j body sb)
    (hs : ∀ x, foldedSetIterable iter X.env x = pure x := by intro _; rfl) : MS X j (.For tg iter body [] pos) (sFor it g sb) := by
  refine ms_imp (ps_for hp hc hi hg hb hs) fun D σ H G Hf env r m => ⟨G, Hf, env, r, (TFl.fl r m).imp fun ds Hf0 H0 _ p0 m0 J hJ => ?_⟩
  refine ⟨fun i mm σ H => mm = ds.length - i ∧ ∃ Hf env, RR X.K j.ca j.ea G Hf env σ H ∧ Same Hf0 Hf ∧ TFl X.K j G D (forGo g sb (ds.drop i) env), ⟨_, rfl, Hf0, env, r.grow p0, Same.refl _, by simpa using m0⟩, ?_⟩
  rintro i mm σ1 H1 ⟨rfl, Hf1, env1, r1, s1, m1⟩
  by_cases hlt : i < ds.length
  · refine .inr ⟨hJ.go i Hf1 H1 s1 r1.sub hlt, fun σ' H' => ∃ Hf env, RR X.K j.ca j.ea G Hf env σ' H' ∧ Same Hf0 Hf ∧ TFl X.K j G D (forGo g sb (ds.drop (i + 1)) env), fun σ' H' h => ⟨ds.length - (i + 1), by omega, rfl, h⟩, fun x H' y => ?_⟩
    obtain ⟨Hf2, p2, rx⟩ := hJ.yld i Hf1 H1 x H' ds[i] s1 r1.sub (List.getElem?_eq_getElem hlt) y
    rw [drop_at hlt] at m1
    unfold forGo at m1
    split at m1
    · exact m1.elim
    · rename_i e1 he1
      refine ⟨G, Hf2, env1, ds[i], e1, r1.grow p2, rx, he1, fun σ2 r2 _ => ?_⟩
      refine ⟨⟨Hf2, G.H⟩, Hf2, e1, r2.ghost, ?_⟩
      have sm : Same Hf0 Hf2 := s1.trans p2.sh
      have back : ∀ {f : Fl}, TFl X.K j G D f → TFl X.K j ⟨Hf2, G.H⟩ D f := fun {f} h => TFl.back r2.post h
      split at m1
      · rename_i e3 h3
        rw [h3]
        exact fun σ3 Hf3 H3 r3 => ⟨Hf3, e3, r3.unghost r2.post, sm.trans r3.post.sh, m1⟩
      · rename_i e3 h3
        rw [h3]
        exact fun σ3 Hf3 H3 r3 => ⟨Hf3, e3, r3.unghost r2.post, sm.trans r3.post.sh, m1⟩
      · rename_i e3 h3
        rw [h3]
        exact fun σ3 Hf3 H3 r3 => m1 σ3 Hf3 H3 (r3.unghost r2.post)
      · rename_i f h1 h2 h3
        cases q : sb e1 with
        | next e2 => exact absurd q (h1 e2)
        | cont e2 => exact absurd q (h2 e2)
        | brk e2 => exact absurd q (h3 e2)
        | ret sl => rw [q] at m1; have := back m1; cases sl <;> exact this
        | exc x e2 => rw [q] at m1; exact back m1
        | stuck => rw [q] at m1; exact m1
  · refine .inl ⟨hJ.stop i Hf1 H1 s1 r1.sub (by omega), ?_⟩
    rw [List.drop_eq_nil_of_le (by omega)] at m1
    exact m1 σ1 Hf1 H1 r1
theorem ms_while {c : Expr} {body : List Stmt} {t : CT} {sb : CS} {n : Nat} (hp : PassesOwn (model X.prog X.w) X.A X.env X.xe) (hc : MT X j c t) (hb : MSs X j body sb) : MS X j (.While c body [] pos) (sWhile n t sb) := by
  refine ms_imp (ps_while hp hc hb) fun D σ H G Hf env r m => ?_
  refine ⟨fun mm σ H => ∃ Hf env, RR X.K j.ca j.ea G Hf env σ H ∧ TFl X.K j G D (whileGo t sb mm env), ⟨n, Hf, env, r, m⟩, ?_⟩
  rintro mm σ1 H1 ⟨Hf1, env1, r1, m1⟩
  cases mm with
  | zero => exact m1.elim
  | succ mm =>
    unfold whileGo at m1
    refine ⟨G, Hf1, env1, r1, (TFl.fl r1 m1).imp fun k Hf2 H2 _ p2 m2 => ?_⟩
    cases k with
    | false => exact m2 σ1 Hf2 H2 (r1.grow p2)
    | true =>
      refine ⟨fun σ' H' => ∃ Hf env, RR X.K j.ca j.ea G Hf env σ' H' ∧ TFl X.K j G D (whileGo t sb mm env), fun σ' H' h => ⟨mm, by omega, h⟩, G, Hf2, env1, r1.grow p2, ?_⟩
      simp only [if_true] at m2
      split at m2
      · rename_i e3 h3
        rw [h3]
        exact fun σ3 Hf3 H3 r3 => ⟨Hf3, e3, r3, m2⟩
      · rename_i e3 h3
        rw [h3]
        exact fun σ3 Hf3 H3 r3 => ⟨Hf3, e3, r3, m2⟩
      · rename_i e3 h3
        rw [h3]
        exact m2
      · rename_i f h1 h2 h3
        cases q : sb env1 with
        | next e2 => exact absurd q (h1 e2)
        | cont e2 => exact absurd q (h2 e2)
        | brk e2 => exact absurd q (h3 e2)
        | ret sl => rw [q] at m2; cases sl <;> exact m2
        | exc x e2 => rw [q] at m2; exact m2
        | stuck => rw [q] at m2; exact m2
end
end M
/-! MStmt3: list comprehensions. -/
namespace M
open PySem PySem.Spec PyProof.Rows L2
def Jc.dry (j : Jc) : Jc := ⟨j.ca, j.ea, fun _ _ _ _ => False⟩
theorem wipe_wipe {σ : L2.St} {vs : List Nat} : wipe (wipe σ vs) vs = wipe σ vs := by
  apply List.ext_getElem?
  intro n
  rw [wipe_get, wipe_get]
  by_cases h : n ∈ vs
  · simp only [h, if_true]
    cases σ[n]? <;> rfl
  · simp only [h, if_false]
section
variable {K : PySem.W.Frag} {ca : Nat → Addr} {ea : Ea} {G : Gh} {Hf H : Hp} {env : M.Env} {σ : L2.St}
theorem RR.wipe (r : RR K ca ea G Hf env σ H) : ∀ vs : List Nat, RR K ca ea G Hf (wipeE env vs) (L2.wipe σ vs) H
  | [] => r
  | v :: vs => (RR.wipe r vs).un v
theorem RR.push (r : RR K ca ea G Hf env σ H) {D : Addr} (hD : H D = none) : RR K ca ea G Hf (env ++ [.own (.lst [])]) (σ ++ [some (.ref D)]) (L2.upd H D (.lst [])) := by
  have p : Post Hf H Hf (L2.upd H D (.lst [])) := post_own r.sub hD
  have r1 := r.grow p
  obtain ⟨fps, l, m, k⟩ := r1.slots
  obtain ⟨fps0, l0, m0, k0⟩ := r.slots
  have g0 : G.H D = none := r.post.all.free hD
  have nD : ∀ a, (a ∈ fps0.flatten) → a ≠ D := fun a ha e => by subst e; exact (m0.2 a ha).2.2 hD
  refine ⟨r1.post, by simp [r.len], fps0 ++ [[D]], by simp [l0], ?_, ?_⟩
  · have mg := m0.grow p
    refine ⟨?_, fun a ha => ?_⟩
    · rw [List.flatten_append]
      refine List.nodup_append.mpr ⟨m0.1, by simp, fun a ha b hb e => ?_⟩
      have : b = D := by simpa using hb
      subst this
      exact nD a ha e
    · rw [List.flatten_append] at ha
      rcases List.mem_append.mp ha with z | z
      · exact mg.2 a z
      · have : a = D := by simpa using z
        subst this
        exact ⟨r.sub.free hD, g0, by rw [upd_same]; simp⟩
  · intro i s o fp e1 e2 e3
    by_cases hi : i < env.length
    · rw [List.getElem?_append_left hi] at e1
      rw [List.getElem?_append_left (by rw [← r.len]; exact hi)] at e2
      rw [List.getElem?_append_left (by rw [l0]; exact hi)] at e3
      have z := k0 i s o fp e1 e2 e3
      cases s with
      | un => trivial
      | val d => obtain ⟨v, k1, k2⟩ := z; exact ⟨v, k1, k2⟩
      | own w => obtain ⟨a, k1, k2⟩ := z; exact ⟨a, k1, k2.grow p⟩
      | exc x => obtain ⟨a, cls, d, k1, k2, k3⟩ := z; exact ⟨a, cls, d, k1, k2, k3⟩
    · have hle : i = env.length := by
        have := (List.getElem?_eq_some_iff.mp e1).1
        simp at this; omega
      subst hle
      rw [List.getElem?_append_right (Nat.le_refl _)] at e1
      rw [List.getElem?_append_right (by rw [r.len]; exact Nat.le_refl _), r.len, Nat.sub_self] at e2
      rw [List.getElem?_append_right (by rw [l0]; exact Nat.le_refl _), l0, Nat.sub_self] at e3
      simp at e1 e2 e3
      subst e1; subst e2; subst e3
      exact ⟨D, rfl, [], upd_same, by unfold RepL; rfl, rfl⟩
theorem RR.pop {s : Sl} {o : Option V} (r : RR K ca ea G Hf (env ++ [s]) (σ ++ [o]) H) : RR K ca ea G Hf env σ H := by
  obtain ⟨fps, l, m, k⟩ := r.slots
  have hl : env.length = σ.length := by have := r.len; simpa using this
  have hf : fps.length = env.length + 1 := by simpa using l
  refine ⟨r.post, hl, fps.take env.length, by simp [hf], m.sub ?_, fun i s' o' fp e1 e2 e3 => ?_⟩
  · have : fps.flatten = (fps.take env.length).flatten ++ (fps.drop env.length).flatten := by rw [← List.flatten_append, List.take_append_drop]
    rw [this]
    exact List.sublist_append_left _ _
  · have hi : i < env.length := (List.getElem?_eq_some_iff.mp e1).1
    rw [List.getElem?_take_of_lt hi] at e3
    exact k i s' o' fp (by rw [List.getElem?_append_left hi]; exact e1) (by rw [List.getElem?_append_left (by omega)]; exact e2) e3
theorem RR.last {D : Addr} {xs : List M.D} (r : RR K ca ea G Hf (env ++ [.own (.lst xs)]) (σ ++ [some (.ref D)]) H) : ∃ vs, H D = some (.lst vs) ∧ RepL K ca Hf xs vs ∧ Hf D = none := by
  have hl : env.length = σ.length := by have := r.len; simpa using this
  obtain ⟨p, fp, e, ow, mi⟩ := r.ownV (i := env.length) (o := .lst xs) (v := .ref D) (by rw [List.getElem?_append_right (Nat.le_refl _)]; simp) (by rw [List.getElem?_append_right (by omega), hl]; simp)
  cases e
  obtain ⟨vs, h1, h2, h3⟩ := ow
  subst h3
  exact ⟨vs, h1, h2, (mi.2 D (by simp)).1⟩
theorem RR.updLast {D : Addr} {xs : List M.D} {d : M.D} {y : V} {vs : List V} (r : RR K ca ea G Hf (env ++ [.own (.lst xs)]) (σ ++ [some (.ref D)]) H) (hv : H D = some (.lst vs)) (rv : RepL K ca Hf xs vs) (ry : Rep K ca Hf d y) :
    RR K ca ea G Hf (env ++ [.own (.lst (xs ++ [d]))]) (σ ++ [some (.ref D)]) (L2.upd H D (.lst (vs ++ [y]))) := by
  have hl : env.length = σ.length := by have := r.len; simpa using this
  have z := (r.upd (i := env.length) (xs := xs) (ys := xs ++ [d]) (us := vs ++ [y]) (p := D) (by rw [List.getElem?_append_right (Nat.le_refl _)]; simp) (by rw [List.getElem?_append_right (by omega), hl]; simp) (RepL.append rv (RepL.one ry))).1
  have e : (env ++ [Sl.own (.lst xs)]).set env.length (.own (.lst (xs ++ [d]))) = env ++ [.own (.lst (xs ++ [d]))] := by
    rw [List.set_append_right _ _ (Nat.le_refl _), Nat.sub_self]
    rfl
  rw [e] at z
  exact z
theorem Post.updNew {Hf1 H1 : Hp} (p : Post Hf1 H1 Hf H) {D : Addr} {o : HO} (h1 : H1 D = none) (h2 : Hf D = none) : Post Hf1 H1 Hf (L2.upd H D o) :=
  ⟨p.sh, fun b x e => by rw [upd_ne (ne_of_none e h1)]; exact p.all _ _ e, fun b x e => by rw [upd_ne (ne_of_none e h2)]; exact p.sub _ _ e, p.new⟩
end
theorem calm_ok {α : Type} {o : Out α} {β : Type} {f : α → Out β} {b : β} (h : o.calm.bind f = .ok b) : ∃ a, o = .ok a ∧ f a = .ok b := by
  cases o with
  | ok a => exact ⟨a, rfl, h⟩
  | exc x => cases h
  | stuck => cases h
theorem calm_bind {α : Type} {o : Out α} {β : Type} {f : α → Out β} (h : ∀ a x, f a ≠ .exc x) (x : ExcV) : o.calm.bind f ≠ .exc x := by
  cases o with
  | ok a => exact h a x
  | exc x => exact fun e => nomatch e
  | stuck => exact fun e => nomatch e
theorem lcGo_calm {g : Tg} {t : CT} {e : CE} : ∀ {ds : List D} {env : Env} {acc : List D} (x : ExcV), lcGo g t e ds env acc ≠ .exc x
  | [], env, acc, x => fun h => nomatch h
  | d :: ds, env, acc, x => by
    unfold lcGo
    cases g d env with
    | none => exact fun h => nomatch h
    | some e1 =>
      refine calm_bind (fun c x => ?_) x
      cases c with
      | true =>
        refine calm_bind (fun y x => ?_) x
        show (if acc.length < line then _ else _) ≠ _
        by_cases h : acc.length < line
        · rw [if_pos h]; exact lcGo_calm x
        · rw [if_neg h]; exact fun h => nomatch h
      | false => exact lcGo_calm x
theorem comp_read {K : PySem.W.Frag} {j : Jc} {vs : List Nat} {it : CA} {g : Tg} {t : CT} {e : CE} {σ : L2.St} {H : Hp} {Q : VK} (h : TF K j (fComp vs it g t e) σ H Q) :
    tLc (TIt K j it) (tMG K j.dry vs g) (TMT K j.dry t) (TM K j.dry e) vs σ H Q := by
  obtain ⟨G, Hf, env, r, m⟩ := h
  refine ⟨G, Hf, env, r, m.bind.imp fun ds Hf1 H1 _ p1 m1 J hJ D hD => ?_⟩
  obtain ⟨xs, hxs⟩ : ∃ xs, lcGo g t e ds (wipeE env vs) [] = .ok xs := by
    cases q : lcGo g t e ds (wipeE env vs) [] with
    | ok xs => exact ⟨xs, rfl⟩
    | exc x => exact absurd q (lcGo_calm x)
    | stuck => rw [q] at m1; exact m1.elim
  rw [hxs] at m1
  have r1 := r.grow p1
  have hw := (r1.wipe vs).push hD
  refine ⟨fun i mm H => mm = ds.length - i ∧ ∃ Hf acc, RR K j.ca j.ea G Hf (wipeE env vs ++ [.own (.lst acc)]) (L2.wipe σ vs ++ [some (.ref D)]) H ∧ Same Hf1 Hf ∧ Post Hf1 H1 Hf H ∧ lcGo g t e (ds.drop i) (wipeE env vs) acc = .ok xs,
    ⟨_, rfl, Hf1, [], hw, Same.refl _, post_own p1.sub hD, by simpa using hxs⟩, ?_⟩
  rintro i mm H2 ⟨rfl, Hf2, acc, r2, s2, q2, e2⟩
  by_cases hlt : i < ds.length
  · refine .inr ⟨hJ.go i Hf2 H2 s2 r2.sub hlt, fun H => ∃ Hf acc, RR K j.ca j.ea G Hf (wipeE env vs ++ [.own (.lst acc)]) (L2.wipe σ vs ++ [some (.ref D)]) H ∧ Same Hf1 Hf ∧ Post Hf1 H1 Hf H ∧ lcGo g t e (ds.drop (i + 1)) (wipeE env vs) acc = .ok xs, fun H' h => ⟨ds.length - (i + 1), by omega, rfl, h⟩, fun x H' y => ?_⟩
    obtain ⟨Hf3, p3, rx⟩ := hJ.yld i Hf2 H2 x H' ds[i] s2 r2.sub (List.getElem?_eq_getElem hlt) y
    rw [drop_at hlt] at e2
    unfold lcGo at e2
    cases hg : g ds[i] (wipeE env vs) with
    | none => rw [hg] at e2; cases e2
    | some e1 =>
      rw [hg] at e2
      obtain ⟨c, hc, e3⟩ := calm_ok e2
      have r3 := r2.grow p3
      refine ⟨G, Hf3, _, ds[i], e1, r3.pop, rx, hg, fun σ2 rt hwt => ⟨hwt.trans wipe_wipe, ?_⟩⟩
      refine ⟨G, Hf3, e1, rt, ?_⟩
      show OutP K j.ca _ _ _ _ (t e1) _
      rw [hc]
      intro Hf4 H4 p4
      cases c with
      | false => exact ⟨Hf4, acc, r3.grow p4, (s2.trans p3.sh).trans p4.sh, (q2.trans p3).trans p4, e3⟩
      | true =>
        have e3 : ((e e1).calm.bind fun x => if acc.length < line then lcGo g t e (ds.drop (i + 1)) (wipeE env vs) (acc ++ [x]) else .stuck) = .ok xs := e3
        obtain ⟨yd, hy, e4⟩ := calm_ok e3
        refine ⟨G, Hf4, e1, rt.grow p4, ?_⟩
        show OutP K j.ca _ _ _ _ (e e1) _
        rw [hy]
        intro Hf5 H5 p5 v rv
        have r5 := (r3.grow p4).grow p5
        obtain ⟨us, u1, u2, u3⟩ := r5.last
        have hz : acc.length < line := by
          by_cases h : acc.length < line
          · exact h
          · rw [if_neg h] at e4; cases e4
        rw [if_pos hz] at e4
        refine ⟨us, u1, by rw [← u2.length, ← line_eq]; exact hz, Hf5, acc ++ [yd], r5.updLast u1 u2 rv, ((s2.trans p3.sh).trans p4.sh).trans p5.sh, (((q2.trans p3).trans p4).trans p5).updNew hD u3, e4⟩
  · refine .inl ⟨hJ.stop i Hf2 H2 s2 r2.sub (by omega), ?_⟩
    rw [List.drop_eq_nil_of_le (by omega)] at e2
    cases e2
    obtain ⟨us, u1, u2, u3⟩ := r2.last
    exact m1 Hf2 H2 q2 _ ⟨D, [D], rfl, ⟨us, u1, u2, rfl⟩, by simp, fun a ha => by
      have : a = D := by simpa using ha
      subst this
      exact ⟨u3, p1.all.free hD, by rw [u1]; simp⟩⟩
section
variable {X : Cx} {j : Jc} {elt tg iter : Expr} {ifs : List Expr} {scope : Scope} {own : List (Str × Nat)} {vs : List Nat} {pos : Pos} {it : CA} {g : Tg} {t : CT} {e : CE}
theorem mts_nil : PTs X [] (TMT X.K j tTrue) := ⟨fun pins s σ H Q I ⟨G, Hf, env, r, m⟩ => pts_nil.run pins s σ H Q I (OutP.ok m r.sub)⟩
theorem mts_one {c : Expr} (h : MT X j c t) : PTs X [c] (TMT X.K j t) := pts_one h
theorem mf_comp (hc : X.calm = true) (hN : X.N.Nodup) (hi : MI X j tg iter it) (ok : BlkOk X.N X.env.scope scope own) (hv : own.map (·.2) = vs)
    (hg : ∀ (s : Shared) (H : Hp) (C : Addr) (cl : List (Str × Addr)) (fp : List Addr), MG (X.blk s H scope (compEnvC scope cl C X.env) fp) j.dry vs tg g) (ht : ∀ (s : Shared) (H : Hp) (C : Addr) (cl : List (Str × Addr)) (fp : List Addr), PTs (X.blk s H scope (compEnvC scope cl C X.env) fp) ifs (TMT X.K j.dry t))
    (he : ∀ (s : Shared) (H : Hp) (C : Addr) (cl : List (Str × Addr)) (fp : List Addr), ME (X.blk s H scope (compEnvC scope cl C X.env) fp) j.dry elt e) (hs : ∀ x, foldedSetIterable iter X.env x = pure x := by intro _; rfl) :
    MF X j (.ListComp elt [⟨tg, iter, ifs, 0⟩] scope pos) (fComp vs it g t e) := by
  subst hv
  exact PE.imp (pe_lc (g := tMG X.K j.dry _ g) (tt := TMT X.K j.dry t) (te := TM X.K j.dry e) hc hN hi ok hg ht he hs) fun σ H Q h => comp_read h
theorem ms_setComp {i : Nat} {y : Str} {py spos : Pos} (hc : X.calm = true) (hN : X.N.Nodup) (hy : X.N[i]? = some y) (hyl : X.env.scope.names.lookup y = some .local)
    (hsw : swapsWith (.ListComp elt [⟨tg, iter, ifs, 0⟩] scope pos) (some (.Name y py)) spos.line X.env = pure true) (hi : MI X j tg iter it) (ok : BlkOk X.N X.env.scope scope own) (hv : own.map (·.2) = vs)
    (hg : ∀ (s : Shared) (H : Hp) (C : Addr) (cl : List (Str × Addr)) (fp : List Addr), MG (X.blk s H scope (compEnvC scope cl C X.env) fp) j.dry vs tg g) (ht : ∀ (s : Shared) (H : Hp) (C : Addr) (cl : List (Str × Addr)) (fp : List Addr), PTs (X.blk s H scope (compEnvC scope cl C X.env) fp) ifs (TMT X.K j.dry t))
    (he : ∀ (s : Shared) (H : Hp) (C : Addr) (cl : List (Str × Addr)) (fp : List Addr), ME (X.blk s H scope (compEnvC scope cl C X.env) fp) j.dry elt e) (hs : ∀ x, foldedSetIterable iter X.env x = pure x := by intro _; rfl) :
    MS X j (.Assign [.Name y py] (.ListComp elt [⟨tg, iter, ifs, 0⟩] scope pos) spos) (sSetF i (fComp vs it g t e)) := by
  subst hv
  exact ms_imp (ps_setLc (g := tMG X.K j.dry _ g) (tt := TMT X.K j.dry t) (te := TM X.K j.dry e) hc hN hy hyl hsw hi ok hg ht he hs) fun D σ H G Hf env r m => comp_read ⟨G, Hf, env, r, (TFl.fl r m).imp fun d Hf' H' _ p m1 v rv => m1 _ _ _ (r.putOwn p i rv)⟩
end
end M
/-! MIter: what is walked. -/
namespace M
open PySem PySem.Spec PyProof.Rows L2
section
variable {K : PySem.W.Frag} {ca : Nat → Addr} {Hf0 : Hp} {ds es : List D} {vs us : List V} {a b : Addr}
theorem RepL.at {K : PySem.W.Frag} {ca : Nat → Addr} {H : Hp} {ds : List D} {vs : List V} {i : Nat} {x : V} {d : D} (h : RepL K ca H ds vs) (e : ds[i]? = some d) (q : vs[i]? = some x) : Rep K ca H d x := by
  obtain ⟨v, h1, h2⟩ := RepL.get h e
  rw [h1] at q
  cases q
  exact h2
theorem it_list (hs : SqL K Hf0 a vs) (hr : RepL K ca Hf0 ds vs) : ItOk K ca Hf0 ds (Itl K a) := by
  refine ⟨fun i Hf H s1 s2 h => ?_, fun i Hf H x H' d s1 s2 h ⟨e, q⟩ => ?_, fun i Hf H s1 s2 h => ?_⟩
  · have hl := hr.length
    exact ⟨vs, vs[i]'(by omega), (s1.trans s2).seq hs, List.getElem?_eq_getElem (by omega)⟩
  · subst e
    exact ⟨Hf, Post.refl s2, Rep.mono s1 _ _ (RepL.at hr h (q vs ((s1.trans s2).seq hs)))⟩
  · exact ⟨vs, (s1.trans s2).seq hs, by rw [← hr.length]; exact h⟩
theorem it_tup (hs : SqT K Hf0 a vs) (hr : RepL K ca Hf0 ds vs) : ItOk K ca Hf0 ds (Itt K a) := by
  refine ⟨fun i Hf H s1 s2 h => ?_, fun i Hf H x H' d s1 s2 h ⟨e, q⟩ => ?_, fun i Hf H s1 s2 h => ?_⟩
  · have hl := hr.length
    exact ⟨vs, vs[i]'(by omega), Same.seqT (s1.trans s2) hs, List.getElem?_eq_getElem (by omega)⟩
  · subst e
    exact ⟨Hf, Post.refl s2, Rep.mono s1 _ _ (RepL.at hr h (q vs (Same.seqT (s1.trans s2) hs)))⟩
  · exact ⟨vs, Same.seqT (s1.trans s2) hs, by rw [← hr.length]; exact h⟩
theorem it_str {x : Str} : ItOk K ca Hf0 (x.cps.toList.map fun c => D.str ⟨#[c]⟩) (Its x) := by
  refine ⟨fun i Hf H s1 s2 h => (show i < x.cps.size by simpa using h), fun i Hf H v H' d s1 s2 h ⟨e, c, q1, q2⟩ => ?_, fun i Hf H s1 s2 h => (show x.cps.size ≤ i by simpa using h)⟩
  subst e; subst q2
  refine ⟨Hf, Post.refl s2, ?_⟩
  have : x.cps.toList[i]? = some c := by simpa using q1
  rw [List.getElem?_map, this] at h
  cases h
  rfl
theorem it_range {lo hi : Int} : ItOk K ca Hf0 (rangeL lo hi) (Itr lo (hi - lo).toNat) := by
  refine ⟨fun i Hf H s1 s2 h => (show i < (hi - lo).toNat by unfold rangeL at h; rwa [List.length_map, List.length_range] at h), fun i Hf H v H' d s1 s2 h ⟨e, q⟩ => ?_, fun i Hf H s1 s2 h => (show (hi - lo).toNat ≤ i by unfold rangeL at h; rwa [List.length_map, List.length_range] at h)⟩
  subst e; subst q
  refine ⟨Hf, Post.refl s2, ?_⟩
  unfold rangeL at h
  rw [List.getElem?_map] at h
  cases q : (List.range (hi - lo).toNat)[i]? with
  | none => rw [q] at h; cases h
  | some n =>
    rw [q] at h
    have : n = i := by
      obtain ⟨h1, h2⟩ := List.getElem?_eq_some_iff.mp q
      simpa using h2.symm
    subst this
    cases h
    rfl
theorem rev_get {α : Type} {l : List α} {i : Nat} (h : i < l.length) : l.reverse[i]? = l[l.length - 1 - i]? := by
  rw [List.getElem?_reverse h]
theorem RepL.rev {K : PySem.W.Frag} {ca : Nat → Addr} {H : Hp} : ∀ {ds : List D} {vs : List V}, RepL K ca H ds vs → RepL K ca H ds.reverse vs.reverse
  | [], _, h => by unfold RepL at h; subst h; unfold RepL; rfl
  | x :: xs, vs, h => by
    unfold RepL at h
    obtain ⟨v, r, e1, h1, h2⟩ := h
    subst e1
    rw [List.reverse_cons, List.reverse_cons]
    exact RepL.append (RepL.rev h2) (RepL.one h1)
theorem it_rev (hs : SqL K Hf0 a vs) (hr : RepL K ca Hf0 ds vs) : ItOk K ca Hf0 ds.reverse (Itv K a vs.length) := by
  have hl := hr.length
  refine ⟨fun i Hf H s1 s2 h => ?_, fun i Hf H x H' d s1 s2 h ⟨e, q⟩ => ?_, fun i Hf H s1 s2 h => by rw [List.length_reverse] at h; show vs.length ≤ i; omega⟩
  · rw [List.length_reverse] at h
    exact ⟨by omega, vs, vs[vs.length - 1 - i]'(by omega), (s1.trans s2).seq hs, List.getElem?_eq_getElem (by omega)⟩
  · subst e
    have hi : i < vs.length := by have := (List.getElem?_eq_some_iff.mp h).1; rw [List.length_reverse] at this; omega
    exact ⟨Hf, Post.refl s2, Rep.mono s1 _ _ (RepL.at (RepL.rev hr) h (by rw [rev_get hi]; exact q vs ((s1.trans s2).seq hs)))⟩
theorem it_revT (hs : SqT K Hf0 a vs) (hr : RepL K ca Hf0 ds vs) : ItOk K ca Hf0 ds.reverse (RT.ItvT K a vs.length) := by
  have hl := hr.length
  refine ⟨fun i Hf H s1 s2 h => ?_, fun i Hf H x H' d s1 s2 h ⟨e, q⟩ => ?_, fun i Hf H s1 s2 h => by rw [List.length_reverse] at h; show vs.length ≤ i; omega⟩
  · rw [List.length_reverse] at h
    exact ⟨by omega, vs, vs[vs.length - 1 - i]'(by omega), Same.seqT (s1.trans s2) hs, List.getElem?_eq_getElem (by omega)⟩
  · subst e
    have hi : i < vs.length := by have := (List.getElem?_eq_some_iff.mp h).1; rw [List.length_reverse] at this; omega
    exact ⟨Hf, Post.refl s2, Rep.mono s1 _ _ (RepL.at (RepL.rev hr) h (by rw [rev_get hi]; exact q vs (Same.seqT (s1.trans s2) hs)))⟩
theorem pairL_get : ∀ {xs ys : List D} {i : Nat} {d : D}, (pairL xs ys)[i]? = some d → ∃ x y, xs[i]? = some x ∧ ys[i]? = some y ∧ d = .tup [x, y]
  | [], ys, i, d, h => by cases ys <;> simp [pairL] at h
  | x :: xs, [], i, d, h => by simp [pairL] at h
  | x :: xs, y :: ys, 0, d, h => by simp [pairL] at h; exact ⟨x, y, rfl, rfl, h.symm⟩
  | x :: xs, y :: ys, i + 1, d, h => by
    have h : (pairL xs ys)[i]? = some d := by simpa [pairL] using h
    obtain ⟨u, v, h1, h2, h3⟩ := pairL_get h
    exact ⟨u, v, by simpa using h1, by simpa using h2, h3⟩
theorem pairL_len : ∀ {xs ys : List D}, (pairL xs ys).length = min xs.length ys.length
  | [], ys => by cases ys <;> simp [pairL]
  | x :: xs, [] => by simp [pairL]
  | x :: xs, y :: ys => by simp only [pairL, List.length_cons, pairL_len]; omega
theorem rep_pair {K : PySem.W.Frag} {ca : Nat → Addr} {Hf H : Hp} {x y : D} {u v : V} {T : Addr} (s : Same Hf H) (hT : H T = none) (h1 : Rep K ca Hf x u) (h2 : Rep K ca Hf y v) :
    ∃ Hf', Post Hf H Hf' (L2.upd H T (.tup [u, v])) ∧ Rep K ca Hf' (.tup [x, y]) (.ref T) := by
  have p := post_new (o := .tup [u, v]) s hT
  refine ⟨_, p, ?_⟩
  unfold Rep
  refine ⟨T, [u, v], rfl, .inl (.inl upd_same), ?_⟩
  unfold RepL
  exact ⟨u, [v], rfl, Rep.mono p.sh _ _ h1, RepL.one (Rep.mono p.sh _ _ h2)⟩
theorem it_zip (hs : SqL K Hf0 a vs) (hr : RepL K ca Hf0 ds vs) (hs' : SqL K Hf0 b us) (hr' : RepL K ca Hf0 es us) : ItOk K ca Hf0 (pairL ds es) (Itz K a b) := by
  have hl := hr.length
  have hl' := hr'.length
  refine ⟨fun i Hf H s1 s2 h => ?_, fun i Hf H x H' d s1 s2 h ⟨T, x1, y1, e1, e2, e3, q1, q2⟩ => ?_, fun i Hf H s1 s2 h => ?_⟩
  · rw [pairL_len] at h
    exact ⟨vs, us, vs[i]'(by omega), us[i]'(by omega), (s1.trans s2).seq hs, (s1.trans s2).seq hs', List.getElem?_eq_getElem (by omega), List.getElem?_eq_getElem (by omega)⟩
  · subst e1; subst e3
    obtain ⟨dx, dy, h1, h2, h3⟩ := pairL_get h
    subst h3
    exact rep_pair s2 e2 (Rep.mono s1 _ _ (RepL.at hr h1 (q1 vs ((s1.trans s2).seq hs)))) (Rep.mono s1 _ _ (RepL.at hr' h2 (q2 us ((s1.trans s2).seq hs'))))
  · rw [pairL_len] at h
    exact ⟨vs, us, (s1.trans s2).seq hs, (s1.trans s2).seq hs', by omega⟩
theorem it_zipT (hs : SqT K Hf0 a vs) (hr : RepL K ca Hf0 ds vs) (hs' : SqT K Hf0 b us) (hr' : RepL K ca Hf0 es us) : ItOk K ca Hf0 (pairL ds es) (RZ.ItzT K a b) := by
  have hl := hr.length
  have hl' := hr'.length
  refine ⟨fun i Hf H s1 s2 h => ?_, fun i Hf H x H' d s1 s2 h ⟨T, x1, y1, e1, e2, e3, q1, q2⟩ => ?_, fun i Hf H s1 s2 h => ?_⟩
  · rw [pairL_len] at h
    exact ⟨vs, us, vs[i]'(by omega), us[i]'(by omega), Same.seqT (s1.trans s2) hs, Same.seqT (s1.trans s2) hs', List.getElem?_eq_getElem (by omega), List.getElem?_eq_getElem (by omega)⟩
  · subst e1; subst e3
    obtain ⟨dx, dy, h1, h2, h3⟩ := pairL_get h
    subst h3
    exact rep_pair s2 e2 (Rep.mono s1 _ _ (RepL.at hr h1 (q1 vs (Same.seqT (s1.trans s2) hs)))) (Rep.mono s1 _ _ (RepL.at hr' h2 (q2 us (Same.seqT (s1.trans s2) hs'))))
  · rw [pairL_len] at h
    exact ⟨vs, us, Same.seqT (s1.trans s2) hs, Same.seqT (s1.trans s2) hs', by omega⟩
theorem enumL_len : ∀ {xs : List D} {k : Nat}, (enumL k xs).length = xs.length
  | [], k => rfl
  | x :: xs, k => by simp [enumL, enumL_len (xs := xs)]
theorem enumL_get : ∀ {xs : List D} {k i : Nat} {d : D}, (enumL k xs)[i]? = some d → ∃ x, xs[i]? = some x ∧ d = .tup [.int ((k + i : Nat) : Int), x]
  | [], k, i, d, h => by simp [enumL] at h
  | x :: xs, k, 0, d, h => by simp [enumL] at h; exact ⟨x, rfl, h.symm⟩
  | x :: xs, k, i + 1, d, h => by
    have h : (enumL (k + 1) xs)[i]? = some d := by simpa [enumL] using h
    obtain ⟨u, h1, h2⟩ := enumL_get h
    refine ⟨u, by simpa using h1, ?_⟩
    rw [h2, show k + 1 + i = k + (i + 1) by omega]
theorem it_enum (hs : SqL K Hf0 a vs) (hr : RepL K ca Hf0 ds vs) : ItOk K ca Hf0 (enumL 0 ds) (Ite K a) := by
  have hl := hr.length
  refine ⟨fun i Hf H s1 s2 h => ?_, fun i Hf H x H' d s1 s2 h ⟨T, x1, e1, e2, e3, q1⟩ => ?_, fun i Hf H s1 s2 h => ?_⟩
  · rw [enumL_len] at h
    exact ⟨vs, vs[i]'(by omega), (s1.trans s2).seq hs, List.getElem?_eq_getElem (by omega)⟩
  · subst e1; subst e3
    obtain ⟨dx, h1, h3⟩ := enumL_get h
    subst h3
    rw [Nat.zero_add]
    exact rep_pair s2 e2 rfl (Rep.mono s1 _ _ (RepL.at hr h1 (q1 vs ((s1.trans s2).seq hs))))
  · rw [enumL_len] at h
    exact ⟨vs, (s1.trans s2).seq hs, by omega⟩
end
theorem repL1 {K : PySem.W.Frag} {ca : Nat → Addr} {H : Hp} {d : D} {vs : List V} (h : RepL K ca H [d] vs) : ∃ v, vs = [v] ∧ Rep K ca H d v := by
  unfold RepL at h
  obtain ⟨v, r, e, h1, h2⟩ := h
  unfold RepL at h2
  subst h2
  exact ⟨v, e, h1⟩
theorem repL2 {K : PySem.W.Frag} {ca : Nat → Addr} {H : Hp} {d d' : D} {vs : List V} (h : RepL K ca H [d, d'] vs) : ∃ v u, vs = [v, u] ∧ Rep K ca H d v ∧ Rep K ca H d' u := by
  unfold RepL at h
  obtain ⟨v, r, e, h1, h2⟩ := h
  obtain ⟨u, e2, h3⟩ := repL1 h2
  subst e2
  exact ⟨v, u, e, h1, h3⟩
theorem repL_cons {K : PySem.W.Frag} {ca : Nat → Addr} {H : Hp} {d : D} {ds : List D} {vs : List V} (h : RepL K ca H (d :: ds) vs) : ∃ v r, vs = v :: r ∧ Rep K ca H d v ∧ RepL K ca H ds r := by
  unfold RepL at h
  exact h
theorem PI.or {X : Cx} {tg e : Expr} {t t' : TI} (h : PI X tg e t) (h' : PI X tg e t') : PI X tg e (fun σ H R => t σ H R ∨ t' σ H R) :=
  ⟨fun pins s σ H R I q => q.elim (h.run pins s σ H R I) (h'.run pins s σ H R I)⟩
section
variable {X : Cx} {j : Jc} {tg e e2 : Expr} {ce : CE} {al : CA} {pos p : Pos}
theorem mi_seq (he : ME X j e ce) : MI X j tg e (iSeq ce) := by
  refine PI.imp (PI.or (PI.or (pi_list he) (pi_tup he)) (pi_str he)) fun σ H R ⟨G, Hf, env, r, m⟩ => ?_
  have m1 := m.bind
  cases q : ce env with
  | stuck => rw [q] at m1; exact m1.elim
  | exc x =>
    refine .inl (.inl ⟨G, Hf, env, r, ?_⟩)
    rw [q] at m1 ⊢
    exact m1
  | ok d =>
    rw [q] at m1
    cases d with
    | lst xs =>
      refine .inl (.inl ⟨G, Hf, env, r, ?_⟩)
      rw [q]
      intro Hf' H' p v rv
      unfold Rep at rv
      obtain ⟨a, vs, e1, h1, h2⟩ := rv
      exact ⟨a, e1, ⟨vs, p.sub.seq h1⟩, OutP.ok (m1 Hf' H' p) p.sub _ (it_list h1 h2)⟩
    | tup xs =>
      refine .inl (.inr ⟨G, Hf, env, r, ?_⟩)
      rw [q]
      intro Hf' H' p v rv
      unfold Rep at rv
      obtain ⟨a, vs, e1, h1, h2⟩ := rv
      exact ⟨a, e1, ⟨vs, Same.seqT p.sub h1⟩, OutP.ok (m1 Hf' H' p) p.sub _ (it_tup h1 h2)⟩
    | str x =>
      refine .inr ⟨G, Hf, env, r, ?_⟩
      rw [q]
      intro Hf' H' p v rv
      exact ⟨x, rv, OutP.ok (m1 Hf' H' p) p.sub _ it_str⟩
    | _ => exact (OutP.no (m1 Hf H (Post.refl r.sub))).elim
theorem mi_range1 {a : Expr} (hg : Gl X "range") (hm : X.mg "range" = none) (ha : MA X j [a] al) (hs : starEach [a] X.env = [(false, eval a X.env)] := by rfl) : MI X j tg (.Call (.Name "range" p) [a] [] pos) (iB dRange1 al) := by
  refine PI.imp (pi_range1 hg hm ha hs) fun σ H R ⟨G, Hf, env, r, m⟩ => ⟨G, Hf, env, r, m.bind.imp fun ds Hf1 H1 _ p1 m1 vs rv => ?_⟩
  unfold dRange1 at m1
  split at m1
  · rename_i _ i _
    split at m1
    · rename_i hi
      obtain ⟨v, e1, e2⟩ := repL1 rv
      have e2 : v = .int i := e2
      subst e2
      have z := OutP.ok m1 p1.sub _ it_range
      rw [show (i - 0).toNat = i.toNat by rw [Int.sub_zero]] at z
      exact ⟨i, e1, hi.1, hi.2, z⟩
    · exact (OutP.no m1).elim
  · exact (OutP.no m1).elim
theorem mi_range2 {a b : Expr} (hg : Gl X "range") (hm : X.mg "range" = none) (ha : MA X j [a, b] al) (hs : starEach [a, b] X.env = [(false, eval a X.env), (false, eval b X.env)] := by rfl) (hs2 : starEach [b] X.env = [(false, eval b X.env)] := by rfl) :
    MI X j tg (.Call (.Name "range" p) [a, b] [] pos) (iB dRange2 al) := by
  refine PI.imp (pi_range2 hg hm ha hs hs2) fun σ H R ⟨G, Hf, env, r, m⟩ => ⟨G, Hf, env, r, m.bind.imp fun ds Hf1 H1 _ p1 m1 vs rv => ?_⟩
  unfold dRange2 at m1
  split at m1
  · rename_i _ i k _
    split at m1
    · rename_i hi
      obtain ⟨v, u, e1, e2, e3⟩ := repL2 rv
      have e2 : v = .int i := e2
      have e3 : u = .int k := e3
      subst e2; subst e3
      exact ⟨i, k, e1, ⟨hi.1.1, hi.1.2, hi.2.1, hi.2.2⟩, OutP.ok m1 p1.sub _ it_range⟩
    · exact (OutP.no m1).elim
  · exact (OutP.no m1).elim
theorem mi_zip {elts : List Expr} {kk : Nat} {tpos : Pos} (hg : Gl X "zip") (hm : X.mg "zip" = none) (ha : MA X j [e, e2] al) (hs : starEach [e, e2] X.env = (false, eval e X.env) :: starEach [e2] X.env := by rfl) (hpl : (backTo pos (starEach [e2] X.env)).any (·.1) = false := by rfl) :
    MI X j (.Tuple elts kk tpos) (.Call (.Name "zip" p) [e, e2] [] pos) (iB dZip al) := by
  refine PI.imp (RZ.pi_zipA hg hm ha hs hpl) fun σ H R ⟨G, Hf, env, r, m⟩ => ⟨G, Hf, env, r, m.bind.imp fun ds Hf1 H1 _ p1 m1 vs rv => ?_⟩
  unfold dZip at m1
  split at m1
  · rename_i _ xs ys _
    obtain ⟨v, u, e1, e2, e3⟩ := repL2 rv
    unfold Rep at e2 e3
    obtain ⟨a, vs', f1, f2, f3⟩ := e2
    obtain ⟨b, us', g1, g2, g3⟩ := e3
    subst f1; subst g1
    exact ⟨a, b, vs', us', e1, .inl ⟨p1.sub.seq f2, p1.sub.seq g2, OutP.ok m1 p1.sub _ (it_zip f2 f3 g2 g3)⟩⟩
  · rename_i _ xs ys _
    obtain ⟨v, u, e1, e2, e3⟩ := repL2 rv
    unfold Rep at e2 e3
    obtain ⟨a, vs', f1, f2, f3⟩ := e2
    obtain ⟨b, us', g1, g2, g3⟩ := e3
    subst f1; subst g1
    exact ⟨a, b, vs', us', e1, .inr ⟨Same.seqT p1.sub f2, Same.seqT p1.sub g2, OutP.ok m1 p1.sub _ (it_zipT f2 f3 g2 g3)⟩⟩
  · exact (OutP.no m1).elim
theorem bind_assoc' {α β γ : Type} (o : Out α) (f : α → Out β) (g : β → Out γ) : (o.bind f).bind g = o.bind fun a => (f a).bind g := by cases o <;> rfl
theorem mi_rev (hg : Gl X "reversed") (hm : X.mg "reversed" = none) (he : ME X j e ce) (hs : starEach [e] X.env = (false, eval e X.env) :: starEach [] X.env := by rfl) :
    MI X j tg (.Call (.Name "reversed" p) [e] [] pos) (iB dRev (aCons ce aNil)) := by
  refine PI.imp (RT.pi_revA hg hm he hs) fun σ H R ⟨G, Hf, env, r, m⟩ => ⟨G, Hf, env, r, ?_⟩
  unfold iB aCons at m
  rw [bind_assoc'] at m
  refine m.bind.imp fun d Hf1 H1 _ p1 m1 v rv => ?_
  have m1 : OutP X.K j.ca j.W σ Hf1 H1 (dRev [d]) _ := m1
  unfold dRev at m1
  split at m1
  · rename_i xs h
    cases h
    unfold Rep at rv
    obtain ⟨a, vs', f1, f2, f3⟩ := rv
    subst f1
    exact ⟨a, vs', rfl, .inl ⟨p1.sub.seq f2, OutP.ok m1 p1.sub _ (it_rev f2 f3)⟩⟩
  · rename_i xs h
    cases h
    unfold Rep at rv
    obtain ⟨a, vs', f1, f2, f3⟩ := rv
    subst f1
    exact ⟨a, vs', rfl, .inr ⟨Same.seqT p1.sub f2, OutP.ok m1 p1.sub _ (it_revT f2 f3)⟩⟩
  · exact (OutP.no m1).elim
end
end M
/-! MDef: a def by its mirror. -/
namespace M
open PySem PySem.Spec PyProof.Rows L2
section
variable {K : PySem.W.Frag} {ca : Nat → Addr} {ea : Ea}
theorem RR.start {Hf H : Hp} {ds : List D} {vs : List V} {N : List Str} {n : Nat} (s : Same Hf H) (h : RepL K ca Hf ds vs) (hn : N.length = n) (hl : ds.length ≤ n) : RR K ca ea ⟨Hf, H⟩ Hf (startE n ds) (L2.start N vs) H := by
  have hv := h.length
  refine ⟨Post.refl s, ?_, List.replicate n [], ?_, ?_, ?_⟩
  · simp [startE, L2.start, hn, ← hv]
  · simp [startE]; omega
  · have : (List.replicate n ([] : List Addr)).flatten = [] := by simp
    rw [this]
    exact ⟨List.nodup_nil, fun a ha => by simp at ha⟩
  · intro i sl o fp e1 e2 e3
    unfold startE at e1
    by_cases hi : i < ds.length
    · rw [List.getElem?_append_left (by simpa using hi)] at e1
      rw [List.getElem?_map, List.getElem?_eq_getElem hi] at e1
      cases e1
      obtain ⟨v, h1, h2⟩ := RepL.get h (List.getElem?_eq_getElem hi)
      refine ⟨v, ?_, h2⟩
      unfold L2.start at e2
      rw [List.getElem?_append_left (by simp; omega), List.getElem?_map, h1] at e2
      cases e2
      rfl
    · rw [List.getElem?_append_right (by simp; omega)] at e1
      have := List.mem_of_getElem? e1
      have : sl = .un := (List.mem_replicate.mp this).2
      subst this
      trivial
end
section
variable {P : Program} {w : World} {K : PySem.W.Frag} {ca : Nat → Addr} {mg : Str → Option Value} {base : Heap}
theorem fn_ok {x qual : Str} {st : Stmt} {f : Addr} {fd : FuncData} {N ps : List Str} {k p n : Nat} {sb : CS} (F : Fun K x qual st f fd) (S : FnScope N ps (defScope st)) (hp : ps.length = p) (hn : N.length = n) (hpn : p ≤ n)
    (hbody : ∀ (cdv : Value) (A : Around) (outer : List PySem.Env) (s : Shared) (H : Hp) (E : XK), Room k (A.deeper (envOfC qual (defScope st) s.heap.objs.size f cdv)) →
      L2N.Takes (cxOf (L2N.CX P w) P w K mg base N qual (defScope st) f cdv A outer s H E) (fun cls d _ H => E cls d H) →
      PassesOwn (model P w) (cxOf (L2N.CX P w) P w K mg base N qual (defScope st) f cdv A outer s H E).A (cxOf (L2N.CX P w) P w K mg base N qual (defScope st) f cdv A outer s H E).env (cxOf (L2N.CX P w) P w K mg base N qual (defScope st) f cdv A outer s H E).xe →
      MSs (cxOf (L2N.CX P w) P w K mg base N qual (defScope st) f cdv A outer s H E) ⟨ca, none, fun cls d _ H => E cls d H⟩ (defBody st) sb) :
    FnOk P w K mg base (L2N.CX P w) (k + 1) f fd ps (spF K ca (fn p n sb)) := by
  obtain ⟨oc, od, kV, doc, pm, an, cdv, ct, osl, rfl, lk, hcd⟩ := F.ex
  refine fn_of lk hcd S (fun vs H Q E h => ?_) fun A outer s H vs Q E hr hsp => ?_
  · obtain ⟨Hf, ds, s1, r1, m⟩ := h
    by_cases hl : ds.length = p
    · rw [hp, ← hl, r1.length]
    · simp [fn, hl] at m
  · have tk : L2N.Takes (cxOf (L2N.CX P w) P w K mg base N qual (defScope st) f cdv A outer s H E) (fun cls d _ H => E cls d H) := L2N.takes_of rfl rfl rfl rfl
    have b := hbody cdv A outer s H E hr tk (L2.passes_of rfl)
    refine ⟨_, b, ?_⟩
    obtain ⟨Hf, ds, s1, r1, m⟩ := hsp
    by_cases hl : ds.length = p
    · have e : fn p n sb ds = (sb (startE n ds)).out := by unfold fn; rw [if_pos hl]
      rw [e] at m
      refine ⟨⟨Hf, H⟩, Hf, startE n ds, RR.start s1 r1 hn (by omega), ?_⟩
      generalize sb (startE n ds) = fl at m
      cases fl with
      | next e2 => exact fun σ Hf' H' r => m .non Hf' H' r.post rfl
      | ret sl =>
        cases sl with
        | val d => exact fun v Hf' H' p rv => m v Hf' H' p rv
        | own o => exact fun v Hf' H' p rv => m v Hf' H' p rv
        | un => exact m
        | exc x => exact m
      | exc x e2 => exact fun cls dd σ Hf' H' r rx => m cls dd Hf' H' r.post rx
      | brk e2 => exact m.elim
      | cont e2 => exact m.elim
      | stuck => exact m.elim
    · have e : fn p n sb ds = .stuck := by unfold fn; rw [if_neg hl]
      rw [e] at m
      exact m.elim
end
end M
/-! MSuper: an own exception over ValueError whose __init__ says super().__init__('..'), then self.f = f. -/
namespace PySem
namespace SupX
open PySem.W PySem.Calls PyProof.Rows PySem.HandSPX
/-- what the written part says of the class at C; its __init__ is fI, that the class at D wrote -/
structure SupC (prog : Program) (K : Frag) (C fI D : Addr) : Prop where
  cls : ∃ nm q N bs bm sn sub ab col dd k0 k1 k2 k3 k5, K.lookup C = some (excClassObj nm q C N bs bm true sn sub ab col dd k0 k1 k2 k3 k5 "ValueError.__new__") ∧ refsVE bm = true
  sa : findIn K (.ref C) "__setattr__" = some (some (.builtin "object.__setattr__"))
  iC : findIn K (.ref C) "__init__" = some (some (.ref fI))
  tI : typeIn K (.ref fI) = some (.type "function")
  sup : ks_superIn K C D "__init__" = some (some (.builtin "ValueError.__init__"))
  ve : subIn K (.ref C) (.type "ValueError") = some true
  mD : mroIn K C (.ref D) = some true
  cD : isClsIn K D = true
  opq : nsIn K cStatics "thirdparty.any" = some none
  kC : keepIn K (.ref C) = true
  exC : subIn K (.ref C) (.type "BaseException") = some true
  tyC : typeIn K (.ref C) = some (.type "type")
  top : (prog.main.scope.names.lookup ("super" : Str)).isSome = false
/-- its text -/
structure SupTxt (prog : Program) (K : Frag) (fI D : Addr) (qual : Str) (params : Arguments) (body : List Stmt) (sc : Scope) : Prop where
  fn : ∃ (oc : Value) (od : Option Addr) (kV doc pm : Value) (an : Option Addr) (cda cc : Addr) (ct : Value) (osl : Array (Option Value)),
    K.lookup fI = some ⟨oc, od, .func (ksFn "__init__" qual params body sc .none kV doc pm an (.ref cda) ct cc), osl⟩ ∧ codeIn K (.ref cda) qual = true ∧
    (∃ (ccl : Value) (cdd : Option Addr) (vs : Array Value) (ccs : Array (Option Value)) (file : Str) (tf : Tok), K.lookup cda = some ⟨ccl, cdd, .fields vs, ccs⟩ ∧ vs[2]? = some (.str file tf) ∧ ((prog.main.file : Str) == file) = true) ∧
    ∃ (cl : Value) (cld : Option Addr) (csl : Array (Option Value)), K.lookup cc = some ⟨cl, cld, .cell (some (.ref D)), csl⟩
abbrev supS (p0 p1 p2 p3 p4 p5 : Pos) (t : Str) (u : Nat) : Stmt := .Expr (.Call (.Attribute (.Call (.Name "super" p0) [] [] p1) "__init__" p2) [.Constant (.str t) u p3] [] p4) p5
abbrev setS (q1 q2 q3 q4 : Pos) (f : Str) : Stmt := .Assign [.Attribute (.Name "self" q1) f q2] (.Name f q3) q4
/-- the heap's ground: the module's names -/
structure Grd (mg : Str → Option Value) (h : Heap) : Prop where
  g : h.Ns mainGlobals mg
  s : mg "super" = none
  b : ∃ mb, h.Ns builtinsNs mb ∧ ∀ x : Str, x ≠ "__name__" → mb x = bootBuiltins x
  lim : h.NoLimit
theorem Grd.keeps {mg : Str → Option Value} {h h' : Heap} (G : Grd mg h) (k : ∀ b o, h.get? b = some o → h'.get? b = some o) : Grd mg h' :=
  ⟨G.g.keeps k, G.s, G.b.elim fun mb q => ⟨mb, q.1.keeps k, q.2⟩, G.lim.keeps k⟩
theorem one_size (v : Value) : [v].length ≤ sizeLine := by
  rw [sizeLine_eq]
  exact (by decide : 1 ≤ 16777216)
section
variable {prog : Program} {w : World} {A : Around} {E : Value → Shared → Prop} {K : Frag} {mg : Str → Option Value} {C fI D : Addr} {h : Heap} {g : Array GenState} {d : Drawn} {t : Nat} {os : OsState}
theorem call_mw {u e t0 : Addr} {rest : List Value} {Q : Value → Shared → Prop} (T : SupC prog K C fI D) (X : K.In h) (he : h.get? e = some (excO C t0)) (hu : h.get? u = some (kxs_mw "ValueError.__init__" e)) (hrest : rest.length ≤ sizeLine)
    (hq : ∀ h' t1, (∀ b o, b ≠ e → h.get? b = some o → h'.get? b = some o) → h'.get? e = some (excO C t1) → Q .none ⟨h', g, d, t, os⟩) :
    wpAny (model prog w) A (call (.ref u) rest) Q E ⟨h, g, d, t, os⟩ := by
  obtain ⟨nm, q, N, bs, bm, sn, sub, ab, col, dd, k0, k1, k2, k3, k5, hC, hbm⟩ := T.cls
  refine wpAny_call (codeAny_of_tree ?_)
  show wpAny _ A.in1 (callAny (.ref u) ⟨rest, []⟩) _ _ _
  simp only [callAny]
  refine wpAny_bind (wpAny_load hu ?_)
  simp only [kxs_mw, show (Value.type "method-wrapper" == Value.type "method" || Value.type "method-wrapper" == Value.type "builtin_function_or_method" || Value.type "method-wrapper" == Value.type "method-wrapper") = true by decide, if_true]
  refine KFB.if_so (by decide) ?_
  refine wpAny_bind (check_bound_init F.excBase_ValueError.toExcCallFacts (X _ _ hC) he rfl ?_)
  refine wpAny_bind (wpAny_pure (wpAny_pure ?_))
  refine ⟨plainId_quiet F.excBase_ValueError.init.plain _, codeAny_builtin F.excBase_ValueError.initEntry ?_⟩
  rw [Around.under_plainId F.excBase_ValueError.init.plain _]
  exact exc_init_tree (cls := .ref C) (t0 := t0) (dv := none) (c2 := .none) (c3 := .none) (b4 := .bool false) he hrest fun h' k e' _ => hq h' _ k e'
theorem sup_head {x t0 L cda cc : Addr} {oc kV doc pm ct : Value} {od an : Option Addr} {osl : Array (Option Value)} {qual : Str} {params : Arguments} {body rest : List Stmt} {sc : Scope} {m : Str → Option Value} {p0 p1 p2 p3 p4 p5 : Pos} {tx : Str} {u : Nat} {ar : Arg} {Q : Flow → Shared → Prop}
    (T : SupC prog K C fI D) (X : K.In h) (G : Grd mg h) (hx : h.get? x = some (excO C t0))
    (ho : K.lookup fI = some ⟨oc, od, .func (ksFn "__init__" qual params body sc .none kV doc pm an (.ref cda) ct cc), osl⟩)
    (hcode : ∃ (ccl : Value) (cdd : Option Addr) (vs : Array Value) (ccs : Array (Option Value)) (file : Str) (tf : Tok), K.lookup cda = some ⟨ccl, cdd, .fields vs, ccs⟩ ∧ vs[2]? = some (.str file tf) ∧ ((prog.main.file : Str) == file) = true)
    (hcell : ∃ (cl : Value) (cld : Option Addr) (csl : Array (Option Value)), K.lookup cc = some ⟨cl, cld, .cell (some (.ref D)), csl⟩)
    (hn : h.Ns L m) (hp : (params.posonlyargs ++ params.args).head? = some ar) (hself : m ar.arg = some (.ref x))
    (hks : sc.names.lookup ("super" : Str) = some .globalImplicit) (hkc : sc.names.lookup ("__class__" : Str) = some .free) (hka : sc.names.lookup ar.arg = some .local) (hk : sc.kind = .function)
    (hq : ∀ h' t1 tk', (∀ b o, b ≠ x → h.get? b = some o → h'.get? b = some o) → h'.get? x = some (excO C t1) → wpAny (model prog w) A (execs rest (ksEnv qual sc L fI (.ref cda) cc)) Q E ⟨h', g, d, tk', os⟩)
    (hin : interactive (ksEnv qual sc L fI (.ref cda) cc) = false) {pl : Sem Bool}
    (hev : eval (.Call (.Attribute (.Call (.Name "super" p0) [] [] p1) "__init__" p2) [.Constant (.str tx) u p3] [] p4) (ksEnv qual sc L fI (.ref cda) cc) = (do
      let ov ← attributeBase (.Call (.Name "super" p0) [] [] p1) "__init__" (ksEnv qual sc L fI (.ref cda) cc) (eval (.Call (.Name "super" p0) [] [] p1) (ksEnv qual sc L fI (.ref cda) cc))
      standAt p2.atName
      let (f, first) ← holding [ov] (getMethod ov "__init__" pl)
      callWith p4 f first (backTo p4 (starEach [.Constant (.str tx) u p3] (ksEnv qual sc L fI (.ref cda) cc))) [])) :
    PySem.wpAt (model prog w) A (.func body (ksEnv qual sc L fI (.ref cda) cc)) (execs (supS p0 p1 p2 p3 p4 p5 tx u :: rest) (ksEnv qual sc L fI (.ref cda) cc)) Q E ⟨h, g, d, t, os⟩ := by
  obtain ⟨ccl, cdd, vs, ccs, file, tf, hcode, hvs, hfile⟩ := hcode
  obtain ⟨cl, cld, csl, hcell⟩ := hcell
  obtain ⟨mb, hb, hbb⟩ := G.b
  obtain ⟨cdD, hD⟩ := Option.isSome_iff_exists.mp (show (clsIn K D).isSome = true from T.cD)
  obtain ⟨oD, hD1, hD2⟩ : ∃ oD, h.get? D = some oD ∧ oD.data = .cls cdD := by
    unfold clsIn at hD
    split at hD
    · rename_i c d cd' sl ho
      cases hD
      exact ⟨_, X _ _ ho, rfl⟩
    · cases hD
  obtain ⟨nm, q, N, bs, bm, sn, sub, ab, col, dd, k0, k1, k2, k3, k5, hC, hbm⟩ := T.cls
  have hcl : clsIn K C = some { name := nm, bases := bs, mro := .ref C :: bm, ns := N, qualname := q, hasDict := true, slotNames := sn, subclasses := sub, abstract := ab, collection := col, hasDel := false } := by unfold clsIn; rw [hC] <;> rfl
  have hm := T.sup
  unfold ks_superIn at hm
  rw [hcl] at hm
  have I : InstAt h x (excO C t0) C none := ⟨hx, rfl, rfl, trivial⟩
  have hxC : x ≠ C := ks_ne X I hcl
  refine ks_wpAt_execs_cons (ks_wpAt_Expr_any (ks_wpAt_MethodCall (ks_wpAt_super_base (env := ksEnv qual sc L fI (.ref cda) cc) hks hkc rfl rfl (X _ _ ho) rfl hp rfl (X _ _ hcode) rfl hvs hfile T.top ?_) hev) hin)
  refine ks_loadName_global hk hks (loadGlobal_builtin (env := ksEnv qual sc L fI (.ref cda) cc) G.g G.s hb ((hbb _ (by decide +kernel)).trans (show bootBuiltins "super" = some (.type "super") by first | rfl | kernel_rfl)) ⟨rfl, ?_⟩)
  refine wpAny_loadName_free hk hkc rfl ⟨_, X _ _ hcell, rfl⟩ ?_
  refine wpAny_loadName_local hk hka hn hself ?_
  refine ks_wpAny_isType_cls hD1 hD2 ⟨rfl, ?_⟩
  refine ks_wpAny_call_super hD1 hD2 hx rfl (fun c e => nomatch e) (looks_mroIn X T.mD) (fun h1 e1 k1 => ?_)
  have X1 : K.In h1 := X.keeps k1
  have hx1 := k1 _ _ hx
  have I1 : InstAt h1 x (excO C t0) C none := ⟨hx1, rfl, rfl, trivial⟩
  have hI : Looks (model prog w) h1 (isInstance (.ref x) (.type "ValueError")) true := I1.type.andThen (looks_subIn X1 T.ve)
  refine kxs_getMethod kxs_ValueError e1 (looks_opaque X1 T.opq) (l₀ := .ref C :: bm) ?_ rfl X1 hm hI hxC rfl ?_
  · exact fun A Q E s k q => wpAny_bind ((looks_clsIn X1 hcl) A _ E s k (wpAny_pure q))
  have k2 : ∀ b o, h1.get? b = some o → (h1.push (kxs_mw "ValueError.__init__" x)).get? b = some o := fun b o e => Heap.get?_push_of_some _ e
  have hu : (h1.push (kxs_mw "ValueError.__init__" x)).get? h1.objs.size = some (kxs_mw "ValueError.__init__" x) := Heap.get?_push_at rfl rfl
  refine kxs_callWith (i := "ValueError.__init__") (x := x) rfl (evalArgs_plain ?_)
  refine spliced_cons (Constant_str (k := u) (pos := p3) (spliced_nil ⟨hu, ?_⟩))
  refine call_mw T (X1.keeps k2) (k2 _ _ hx1) hu (one_size _) fun h3 t3 k3 e3 => ?_
  exact wpAt_of_wpAny (hq h3 t3 _ (fun b o hb e => k3 b o hb (k2 _ _ (k1 _ _ e))) e3)
theorem kept_but {K : Frag} {h h' : Heap} {x : Addr} (X : K.In h) (hx : K.lookup x = none) (k : ∀ b o, b ≠ x → h.get? b = some o → h'.get? b = some o) : K.In h' := fun a o e =>
  k a o (fun z => by rw [z, hx] at e; cases e) (X a o e)
theorem ldK {M : Model} {A : Around} {E : Value → Shared → Prop} {s : Shared} {qual : Str} {sc : Scope} {L a cc : Addr} {cd : Value} {m : Str → Option Value} {x : Str} {pos : Pos} {v : Value} {Q : Value → Shared → Prop} (hn : s.heap.Ns L m) (hv : m x = some v) (hk : sc.kind = .function)
    (hl : sc.names.lookup x = some .local) (hd : (x == ("__debug__" : Str)) = false) (h : Q v s) : wpAny M A (eval (.Name x pos) (ksEnv qual sc L a cd cc)) Q E s := wpAny_Name (wpAny_loadName_local hk hl hn hv h) hd
theorem ns_but {h h' : Heap} {L x : Addr} {m : Str → Option Value} (hn : h.Ns L m) (hL : L ≠ x) (k : ∀ b o, b ≠ x → h.get? b = some o → h'.get? b = some o) : h'.Ns L m := by
  obtain ⟨oL, es, ep, hL', r⟩ := hn
  exact ⟨oL, es, ep, k _ _ hL hL', r⟩
/-- self.f = f, the first one -/
theorem set_first {x t0 L cc : Addr} {cd : Value} {qual f : Str} {rest : List Stmt} {sc : Scope} {m : Str → Option Value} {v : Value} {q1 q2 q3 q4 : Pos} {Q : Flow → Shared → Prop}
    (T : SupC prog K C fI D) (X : K.In h) (hx : h.get? x = some (excO C t0)) (hn : h.Ns L m) (hself : m "self" = some (.ref x)) (hf : m f = some v) (hno : findIn K (.ref C) f = some none)
    (hk : sc.kind = .function) (l1 : sc.names.lookup ("self" : Str) = some .local) (l2 : sc.names.lookup f = some .local) (hd : (f == ("__debug__" : Str)) = false)
    (hq : ∀ h' tk' dx, (∀ b o, b ≠ x → h.get? b = some o → h'.get? b = some o) → h.objs.size ≤ dx → dx ≠ x → h'.get? x = some { cls := .ref C, dict := some dx, data := .fields #[.ref t0, .none, .none, .none, .bool false, .none] } →
      h'.Ns1 dx (fun y => if y = f then some v else none) → wpAny (model prog w) A (execs rest (ksEnv qual sc L fI cd cc)) Q E ⟨h', g, d, tk', os⟩) :
    wpAny (model prog w) A (execs (setS q1 q2 q3 q4 f :: rest) (ksEnv qual sc L fI cd cc)) Q E ⟨h, g, d, t, os⟩ := by
  obtain ⟨nm, q, N, bs, bm, sn, sub, ab, col, dd, k0, k1, k2, k3, k5, hC, hbm⟩ := T.cls
  have hcl : clsIn K C = some { name := nm, bases := bs, mro := .ref C :: bm, ns := N, qualname := q, hasDict := true, slotNames := sn, subclasses := sub, abstract := ab, collection := col, hasDel := false } := by unfold clsIn; rw [hC] <;> rfl
  refine wpAny_execs_cons (plainObj_wpAny_Assign_Attribute ?_)
  refine ldK (v := v) hn hf hk l2 hd (ldK (v := .ref x) hn hself hk l1 (by decide) ?_)
  refine set_plain X (ox := excO C t0) (od := none) ⟨hx, rfl, rfl, trivial⟩ T.sa ?_
  exact exc_osa X hx hcl (show refsVE (.ref C :: bm) = true from hbm) rfl hno hq
/-- .. a further one -/
theorem set_next {x t0 L cc dx : Addr} {cd : Value} {qual f : Str} {rest : List Stmt} {sc : Scope} {m m0 : Str → Option Value} {nl : List Str} {v : Value} {q1 q2 q3 q4 : Pos} {Q : Flow → Shared → Prop}
    (T : SupC prog K C fI D) (X : K.In h) (hx : h.get? x = some { cls := .ref C, dict := some dx, data := .fields #[.ref t0, .none, .none, .none, .bool false, .none] }) (hns : h.Ns1 dx m0) (hw : Within m0 nl) (hz : nl.length ≤ 1000)
    (hn : h.Ns L m) (hself : m "self" = some (.ref x)) (hf : m f = some v) (hno : findIn K (.ref C) f = some none)
    (hk : sc.kind = .function) (l1 : sc.names.lookup ("self" : Str) = some .local) (l2 : sc.names.lookup f = some .local) (hd : (f == ("__debug__" : Str)) = false)
    (hq : ∀ h' tk', (∀ b o, b ≠ dx → h.get? b = some o → h'.get? b = some o) → h'.Ns1 dx (fun y => if y = f then some v else m0 y) → wpAny (model prog w) A (execs rest (ksEnv qual sc L fI cd cc)) Q E ⟨h', g, d, tk', os⟩) :
    wpAny (model prog w) A (execs (setS q1 q2 q3 q4 f :: rest) (ksEnv qual sc L fI cd cc)) Q E ⟨h, g, d, t, os⟩ := by
  obtain ⟨nm, q, N, bs, bm, sn, sub, ab, col, dd, k0, k1, k2, k3, k5, hC, hbm⟩ := T.cls
  have hcl : clsIn K C = some { name := nm, bases := bs, mro := .ref C :: bm, ns := N, qualname := q, hasDict := true, slotNames := sn, subclasses := sub, abstract := ab, collection := col, hasDel := false } := by unfold clsIn; rw [hC] <;> rfl
  refine wpAny_execs_cons (plainObj_wpAny_Assign_Attribute ?_)
  refine ldK (v := v) hn hf hk l2 hd (ldK (v := .ref x) hn hself hk l1 (by decide) ?_)
  obtain ⟨oD, esD, epD, hoD, hdD, _⟩ := hns.count hw
  refine set_plain X (ox := { cls := .ref C, dict := some dx, data := .fields #[.ref t0, .none, .none, .none, .bool false, .none] }) (od := some oD) ⟨hx, rfl, rfl, hoD⟩ T.sa ?_
  exact OEX.osa_old X hx hns hw hz hcl (show refsVE (.ref C :: bm) = true from hbm) rfl hno hq
/-- what __init__ leaves of a fresh exception at x -/
structure InitEnd (h h' : Heap) (x C dx : Addr) (mA : Str → Option Value) : Prop where
  keep : ∀ b o, b ≠ x → h.get? b = some o → h'.get? b = some o
  obj : ∃ t1 : Addr, h'.get? x = some { cls := .ref C, dict := some dx, data := .fields #[.ref t1, .none, .none, .none, .bool false, .none] }
  dbig : h.objs.size ≤ dx
  dne : dx ≠ x
  ns : h'.Ns1 dx mA
structure OwnMade (h h' : Heap) (e C d : Addr) (mA : Str → Option Value) : Prop where
  keep : ∀ b o, h.get? b = some o → h'.get? b = some o
  new : h.objs.size ≤ e
  obj : ∃ t1 : Addr, h'.get? e = some { cls := .ref C, dict := some d, data := .fields #[.ref t1, .none, .none, .none, .bool false, .none] }
  dbig : h.objs.size ≤ d
  dne : d ≠ e
  ns : h'.Ns1 d mA
/-- what the text's rows say by looking -/
structure ScC (sc : Scope) (fs : List Str) : Prop where
  kind : sc.kind = .function
  co : sc.isCoroutine = false
  gen : sc.isGenerator = false
  cell : ∀ x ∈ sc.names, x.2 ≠ .cell
  s : sc.names.lookup ("super" : Str) = some .globalImplicit
  c : sc.names.lookup ("__class__" : Str) = some .free
  self : sc.names.lookup ("self" : Str) = some .local
  fs : ∀ f ∈ fs, sc.names.lookup f = some .local ∧ (f == ("__debug__" : Str)) = false ∧ ("self" == f) = false
def Hev (qual : Str) (sc : Scope) (p0 p1 p2 p3 p4 : Pos) (tx : Str) (u : Nat) : Prop := ∃ pl : Sem Bool, ∀ L fI cda cc : Addr, interactive (ksEnv qual sc L fI (.ref cda) cc) = false ∧ eval (.Call (.Attribute (.Call (.Name "super" p0) [] [] p1) "__init__" p2) [.Constant (.str tx) u p3] [] p4) (ksEnv qual sc L fI (.ref cda) cc) = (do
      let ov ← attributeBase (.Call (.Name "super" p0) [] [] p1) "__init__" (ksEnv qual sc L fI (.ref cda) cc) (eval (.Call (.Name "super" p0) [] [] p1) (ksEnv qual sc L fI (.ref cda) cc))
      standAt p2.atName
      let (f, first) ← holding [ov] (getMethod ov "__init__" pl)
      callWith p4 f first (backTo p4 (starEach [.Constant (.str tx) u p3] (ksEnv qual sc L fI (.ref cda) cc))) [])
section
variable {R : Result → Shared → Prop} {qual f f2 : Str} {params : Arguments} {sc : Scope} {p0 p1 p2 p3 p4 p5 q1 q2 q3 q4 r1 r2 r3 r4 : Pos} {tx : Str} {u : Nat} {ar : Arg}
theorem sup_init1 {x t0 : Addr} {v : Value} (T : SupC prog K C fI D) (TX : SupTxt prog K fI D qual params [supS p0 p1 p2 p3 p4 p5 tx u, setS q1 q2 q3 q4 f] sc) (S : ScC sc [f]) (hev : Hev qual sc p0 p1 p2 p3 p4 tx u)
    (hp : (params.posonlyargs ++ params.args).head? = some ar) (har : ar.arg = "self")
    (hbind : ∀ (kV doc pm : Value) (an : Option Addr) (cdv ct : Value) (cc : Addr) (a b : Value), bindArgs (ksFn "__init__" qual params [supS p0 p1 p2 p3 p4 p5 tx u, setS q1 q2 q3 q4 f] sc .none kV doc pm an cdv ct cc) ⟨[a, b], []⟩ = pure [(("self" : Str), a), (f, b)])
    (hno : findIn K (.ref C) f = some none)
    (X : K.In h) (G : Grd mg h) (hx : h.get? x = some (excO C t0)) (hnx : K.lookup x = none) (hroom : A.depth < recursionLimit)
    (hq : ∀ h' tk dx, InitEnd h h' x C dx (fun y => if y = f then some v else none) → R (.ok (.ret .none)) ⟨h', g, d, tk, os⟩) :
    codeAny (model prog w) A (.call (.ref fI) ⟨[.ref x, v], []⟩) R ⟨h, g, d, t, os⟩ := by
  obtain ⟨oc, od, kV, doc, pm, an, cda, cc, ct, osl, ho, hcd, hcode, hcell⟩ := TX.fn
  obtain ⟨pl, hev⟩ := hev
  obtain ⟨lf, df, sf⟩ := S.fs f (by simp)
  refine ks_codeAny_call_defAt (fd := ksFn "__init__" qual params [supS p0 p1 p2 p3 p4 p5 tx u, setS q1 q2 q3 q4 f] sc .none kV doc pm an (.ref cda) ct cc) (binds := [("self", .ref x), (f, v)]) hroom (X _ _ ho) rfl G.lim (codeRec_of X hcd) rfl
    (BindsTo.of_eq (hbind _ _ _ _ _ _ _ _ _)) S.cell (fun y hy => ?_) (fun h₁ hn k => ?_) S.co S.gen S.kind
  · rcases List.mem_cons.mp hy with e | hy
    · subst e; exact S.self
    · have e := List.mem_singleton.mp hy
      subst e; exact lf
  have hs1 : (fun y => ([("self", Value.ref x), (f, v)] : List (Str × Value)).reverse.lookup y) "self" = some (.ref x) := by
    show (match (("self" : Str) == f) with | true => some v | false => List.lookup ("self" : Str) [(("self" : Str), Value.ref x)]) = _
    rw [sf]
    rfl
  have hs2 : (fun y => ([("self", Value.ref x), (f, v)] : List (Str × Value)).reverse.lookup y) f = some v := by
    show (match (f == f) with | true => some v | false => List.lookup f [(("self" : Str), Value.ref x)]) = _
    rw [beq_self_eq_true]
  have hLx : h.objs.size ≠ x := Nat.ne_of_gt (Heap.lt_size hx)
  refine sup_head T (X.keeps k) (G.keeps k) (k _ _ hx) ho hcode hcell hn hp (by rw [har]; exact hs1) S.s S.c (by rw [har]; exact S.self) S.kind (fun h2 t1 tk2 k2 e2 => ?_) (hev _ _ _ _).1 (hev _ _ _ _).2
  have X2 : K.In h2 := kept_but (X.keeps k) hnx k2
  refine set_first T X2 e2 (ns_but hn hLx k2) hs1 hs2 hno S.kind S.self lf df (fun h3 tk3 dx k3 dn dne e3 n3 => ?_)
  refine wpAny_execs_nil (hq h3 tk3 dx ⟨fun b o hb e => k3 b o hb (k2 b o hb (k b o e)), ⟨t1, e3⟩, ?_, dne, n3⟩)
  have z : h.objs.size < h2.objs.size := (ns_but hn hLx k2).lt
  exact Nat.le_of_lt (Nat.lt_of_lt_of_le z dn)
theorem sup_init2 {x t0 : Addr} {v v2 : Value} (T : SupC prog K C fI D) (TX : SupTxt prog K fI D qual params [supS p0 p1 p2 p3 p4 p5 tx u, setS q1 q2 q3 q4 f, setS r1 r2 r3 r4 f2] sc) (S : ScC sc [f, f2]) (hev : Hev qual sc p0 p1 p2 p3 p4 tx u)
    (hp : (params.posonlyargs ++ params.args).head? = some ar) (har : ar.arg = "self") (hff : (f == f2) = false)
    (hbind : ∀ (kV doc pm : Value) (an : Option Addr) (cdv ct : Value) (cc : Addr) (a b c : Value), bindArgs (ksFn "__init__" qual params [supS p0 p1 p2 p3 p4 p5 tx u, setS q1 q2 q3 q4 f, setS r1 r2 r3 r4 f2] sc .none kV doc pm an cdv ct cc) ⟨[a, b, c], []⟩ = pure [(("self" : Str), a), (f, b), (f2, c)])
    (hno : findIn K (.ref C) f = some none) (hno2 : findIn K (.ref C) f2 = some none)
    (X : K.In h) (G : Grd mg h) (hx : h.get? x = some (excO C t0)) (hnx : K.lookup x = none) (hroom : A.depth < recursionLimit)
    (hq : ∀ h' tk dx, InitEnd h h' x C dx (fun y => if y = f2 then some v2 else if y = f then some v else none) → R (.ok (.ret .none)) ⟨h', g, d, tk, os⟩) :
    codeAny (model prog w) A (.call (.ref fI) ⟨[.ref x, v, v2], []⟩) R ⟨h, g, d, t, os⟩ := by
  obtain ⟨oc, od, kV, doc, pm, an, cda, cc, ct, osl, ho, hcd, hcode, hcell⟩ := TX.fn
  obtain ⟨pl, hev⟩ := hev
  obtain ⟨lf, df, sf⟩ := S.fs f (by simp)
  obtain ⟨lf2, df2, sf2⟩ := S.fs f2 (by simp)
  refine ks_codeAny_call_defAt (fd := ksFn "__init__" qual params [supS p0 p1 p2 p3 p4 p5 tx u, setS q1 q2 q3 q4 f, setS r1 r2 r3 r4 f2] sc .none kV doc pm an (.ref cda) ct cc) (binds := [("self", .ref x), (f, v), (f2, v2)]) hroom (X _ _ ho) rfl G.lim (codeRec_of X hcd) rfl
    (BindsTo.of_eq (hbind _ _ _ _ _ _ _ _ _ _)) S.cell (fun y hy => ?_) (fun h₁ hn k => ?_) S.co S.gen S.kind
  · rcases List.mem_cons.mp hy with e | hy
    · subst e; exact S.self
    · rcases List.mem_cons.mp hy with e | hy
      · subst e; exact lf
      · have e := List.mem_singleton.mp hy
        subst e; exact lf2
  have hs1 : (fun y => ([("self", Value.ref x), (f, v), (f2, v2)] : List (Str × Value)).reverse.lookup y) "self" = some (.ref x) := by
    show (match (("self" : Str) == f2) with | true => some v2 | false => match (("self" : Str) == f) with | true => some v | false => List.lookup ("self" : Str) [(("self" : Str), Value.ref x)]) = _
    rw [sf, sf2]
    rfl
  have hs2 : (fun y => ([("self", Value.ref x), (f, v), (f2, v2)] : List (Str × Value)).reverse.lookup y) f = some v := by
    show (match (f == f2) with | true => some v2 | false => match (f == f) with | true => some v | false => List.lookup f [(("self" : Str), Value.ref x)]) = _
    rw [hff, beq_self_eq_true]
  have hs3 : (fun y => ([("self", Value.ref x), (f, v), (f2, v2)] : List (Str × Value)).reverse.lookup y) f2 = some v2 := by
    show (match (f2 == f2) with | true => some v2 | false => _) = _
    rw [beq_self_eq_true]
  have hLx : h.objs.size ≠ x := Nat.ne_of_gt (Heap.lt_size hx)
  refine sup_head T (X.keeps k) (G.keeps k) (k _ _ hx) ho hcode hcell hn hp (by rw [har]; exact hs1) S.s S.c (by rw [har]; exact S.self) S.kind (fun h2 t1 tk2 k2 e2 => ?_) (hev _ _ _ _).1 (hev _ _ _ _).2
  have X2 : K.In h2 := kept_but (X.keeps k) hnx k2
  have hn2 := ns_but hn hLx k2
  refine set_first T X2 e2 hn2 hs1 hs2 hno S.kind S.self lf df (fun h3 tk3 dx k3 dn dne e3 n3 => ?_)
  have z : h.objs.size < h2.objs.size := hn2.lt
  have X3 : K.In h3 := kept_but X2 hnx k3
  have hn3 := ns_but hn2 hLx k3
  have hLd : h.objs.size ≠ dx := Nat.ne_of_lt (Nat.lt_of_lt_of_le z dn)
  have hw : Within (fun y => if y = f then some v else none) [f] := fun y hy => by
    by_cases e : y = f
    · simp [e]
    · simp [e] at hy
  have hdx : K.lookup dx = none := by
    cases e : K.lookup dx with
    | none => rfl
    | some o => exact absurd (Heap.lt_size (X2 _ _ e)) (Nat.not_lt.mpr dn)
  refine set_next T X3 e3 n3 hw (show 1 ≤ 1000 by decide) hn3 hs1 hs3 hno2 S.kind S.self lf2 df2 (fun h4 tk4 k4 n4 => ?_)
  exact wpAny_execs_nil (hq h4 tk4 dx ⟨fun b o hb e => k4 b o (fun eb => by
      have : b < h2.objs.size := Heap.lt_size (k2 b o hb (k b o e))
      exact absurd dn (Nat.not_le.mpr (eb ▸ this))) (k3 b o hb (k2 b o hb (k b o e))), ⟨t1, k4 x _ (Ne.symm dne) e3⟩, Nat.le_of_lt (Nat.lt_of_lt_of_le z dn), dne, n4⟩)
/-- C(v, ..): from what __init__ does -/
theorem sup_made {vs : List Value} {mA : Str → Option Value} (T : SupC prog K C fI D) (hz : vs.length ≤ sizeLine)
    (hi : ∀ (A' : Around) (h : Heap) (t t0 : Nat) (x : Addr) (R' : Result → Shared → Prop), K.In h → Grd mg h → h.get? x = some (excO C t0) → K.lookup x = none → A'.depth < recursionLimit →
      (∀ h' tk dx, InitEnd h h' x C dx mA → R' (.ok (.ret .none)) ⟨h', g, d, tk, os⟩) → codeAny (model prog w) A' (.call (.ref fI) ⟨.ref x :: vs, []⟩) R' ⟨h, g, d, t, os⟩)
    (X : K.In h) (G : Grd mg h) (hroom : A.depth + 1 < recursionLimit)
    (hq : ∀ h' tk e dd, OwnMade h h' e C dd mA → R (.ok (.ret (.ref e))) ⟨h', g, d, tk, os⟩) :
    codeAny (model prog w) A (.call (.ref C) ⟨vs, []⟩) R ⟨h, g, d, t, os⟩ := by
  obtain ⟨nm, q, N, bs, bm, sn, sub, ab, col, dd, k0, k1, k2, k3, k5, hC, hbm⟩ := T.cls
  have k : ∀ b o, h.get? b = some o → ((h.push (kdv_tup vs)).push (excO C h.objs.size)).get? b = some o := fun b o e => Heap.get?_push_of_some _ (Heap.get?_push_of_some _ e)
  have hget : ((h.push (kdv_tup vs)).push (excO C h.objs.size)).get? (h.objs.size + 1) = some (excO C h.objs.size) := by heap_get
  have hnx : K.lookup (h.objs.size + 1) = none := by
    cases e : K.lookup (h.objs.size + 1) with
    | none => rfl
    | some o =>
      have z : h.get? (h.objs.size + 1) = some o := X _ _ e
      exact absurd (Nat.lt_of_succ_lt (Heap.lt_size z)) (Nat.lt_irrefl _)
  refine call_own F.excBase_ValueError (fun X => refsVE_contains X bm hbm) (X _ _ hC) (looks_findIn X T.iC) (fun self => bind_fn X self T.tI) hz ?_
  refine hi _ _ _ _ _ _ (X.keeps k) (G.keeps k) hget hnx ?_ fun h' tk' dx ⟨k', hx, dn, dne, hns⟩ => ?_
  · show A.depth + 1 < recursionLimit
    exact hroom
  · have old : ∀ b o, h.get? b = some o → h'.get? b = some o := fun b o e => k' b o (Nat.ne_of_lt (Nat.lt_succ_of_lt (Heap.lt_size e))) (k b o e)
    have z : h.objs.size + 1 + 1 ≤ dx := by
      first
        | (simpa only [Heap.size_push] using dn)
        | exact dn
        | (have q := dn; rw [Heap.size_push, Heap.size_push] at q; exact q)
    exact ⟨rfl, hq h' tk' (h.objs.size + 1) dx ⟨old, Nat.le_succ _, hx, Nat.le_trans (Nat.le_trans (Nat.le_succ _) (Nat.le_succ _)) z, dne, hns⟩⟩
end
end
end SupX
end PySem
/-! MRaise: raise C(..). -/
namespace PySem
namespace SupX
open PySem.W PySem.Calls PyProof.Rows PySem.HandSPX
/-- C(us): an exception with the fields ps -/
structure MkS (prog : Program) (w : World) (K : Frag) (mg : Str → Option Value) (C : Addr) (ps : List Str) : Prop where
  made : ∀ (A : Around) (us : List Value) (h : Heap) (g : Array GenState) (d : Drawn) (t : Nat) (os : OsState) (R : Result → Shared → Prop), us.length = ps.length → K.In h → Grd mg h → A.depth + 1 < recursionLimit →
    (∀ h' tk e dd mA, (∀ y, mA y = (ps.zip us).lookup y) → OwnMade h h' e C dd mA → R (.ok (.ret (.ref e))) ⟨h', g, d, tk, os⟩) → codeAny (model prog w) A (.call (.ref C) ⟨us, []⟩) R ⟨h, g, d, t, os⟩
section
variable {prog : Program} {w : World} {K : Frag} {mg : Str → Option Value} {C fI D : Addr} {qual f f2 : Str} {params : Arguments} {sc : Scope} {p0 p1 p2 p3 p4 p5 q1 q2 q3 q4 r1 r2 r3 r4 : Pos} {tx : Str} {u : Nat} {ar : Arg}
theorem two_size (v u : Value) : [v, u].length ≤ sizeLine := by
  rw [sizeLine_eq]
  exact (by decide : 2 ≤ 16777216)
theorem mks1 (T : SupC prog K C fI D) (TX : SupTxt prog K fI D qual params [supS p0 p1 p2 p3 p4 p5 tx u, setS q1 q2 q3 q4 f] sc) (S : ScC sc [f]) (hev : Hev qual sc p0 p1 p2 p3 p4 tx u)
    (hp : (params.posonlyargs ++ params.args).head? = some ar) (har : ar.arg = "self")
    (hbind : ∀ (kV doc pm : Value) (an : Option Addr) (cdv ct : Value) (cc : Addr) (a b : Value), bindArgs (ksFn "__init__" qual params [supS p0 p1 p2 p3 p4 p5 tx u, setS q1 q2 q3 q4 f] sc .none kV doc pm an cdv ct cc) ⟨[a, b], []⟩ = pure [(("self" : Str), a), (f, b)])
    (hno : findIn K (.ref C) f = some none) : MkS prog w K mg C [f] := by
  refine ⟨fun A us h g d t os R hl X G hr hq => ?_⟩
  match us, hl with
  | [v], _ =>
    refine sup_made (mA := fun y => if y = f then some v else none) T (one_size v) (fun A' h t t0 x R' X G hx hnx hr' hq' => sup_init1 T TX S hev hp har hbind hno X G hx hnx hr' hq') X G hr (fun h' tk e dd M => hq h' tk e dd _ (fun y => ?_) M)
    show _ = (match (y == f) with | true => some v | false => none)
    by_cases e : y = f
    · subst e; simp
    · have : (y == f) = false := by simpa using e
      rw [this, if_neg e]
theorem mks2 (T : SupC prog K C fI D) (TX : SupTxt prog K fI D qual params [supS p0 p1 p2 p3 p4 p5 tx u, setS q1 q2 q3 q4 f, setS r1 r2 r3 r4 f2] sc) (S : ScC sc [f, f2]) (hev : Hev qual sc p0 p1 p2 p3 p4 tx u)
    (hp : (params.posonlyargs ++ params.args).head? = some ar) (har : ar.arg = "self") (hff : (f == f2) = false)
    (hbind : ∀ (kV doc pm : Value) (an : Option Addr) (cdv ct : Value) (cc : Addr) (a b c : Value), bindArgs (ksFn "__init__" qual params [supS p0 p1 p2 p3 p4 p5 tx u, setS q1 q2 q3 q4 f, setS r1 r2 r3 r4 f2] sc .none kV doc pm an cdv ct cc) ⟨[a, b, c], []⟩ = pure [(("self" : Str), a), (f, b), (f2, c)])
    (hno : findIn K (.ref C) f = some none) (hno2 : findIn K (.ref C) f2 = some none) : MkS prog w K mg C [f, f2] := by
  refine ⟨fun A us h g d t os R hl X G hr hq => ?_⟩
  match us, hl with
  | [v, v2], _ =>
    refine sup_made (mA := fun y => if y = f2 then some v2 else if y = f then some v else none) T (two_size v v2) (fun A' h t t0 x R' X G hx hnx hr' hq' => sup_init2 T TX S hev hp har hff hbind hno hno2 X G hx hnx hr' hq') X G hr (fun h' tk e dd M => hq h' tk e dd _ (fun y => ?_) M)
    show _ = (match (y == f) with | true => some v | false => match (y == f2) with | true => some v2 | false => none)
    by_cases e : y = f
    · subst e
      have : ¬ (y = f2) := by simpa using hff
      simp [this]
    · have : (y == f) = false := by simpa using e
      rw [this, if_neg e]
      by_cases e2 : y = f2
      · subst e2; simp
      · have : (y == f2) = false := by simpa using e2
        rw [this, if_neg e2]
end
end SupX
end PySem
namespace M
open PySem PySem.Spec PyProof.Rows L2
theorem relO_zip : ∀ {ps : List Str} {vs : List V} {us : List Value} (y : Str), Vals vs us → RelO ((ps.zip vs).lookup y) ((ps.zip us).lookup y)
  | [], vs, us, y, r => trivial
  | p :: ps, vs, us, y, r => by
    cases r with
    | nil => trivial
    | cons h r =>
      rename_i v u vs us
      show RelO (match (y == p) with | true => some v | false => (ps.zip vs).lookup y) (match (y == p) with | true => some u | false => (ps.zip us).lookup y)
      cases y == p with
      | true => exact h
      | false => exact relO_zip y r
section
variable {X : Cx} {j : Jc} {C : Addr} {ps : List Str} {e : Expr} {es : List Expr} {ta : TA} {x : Str} {p pos pos2 : Pos} {k : Nat}
def tMkS (C : Addr) (ps : List Str) (ta : TA) : L2.St → Hp → XK → Prop := fun σ H Q => ta σ H fun vs H1 => vs.length = ps.length ∧ ∀ d, H1 d = none → Q (.ref C) (some d) (L2.upd H1 d (.xd (ps.zip vs)))
theorem inv_grd {pins : List (Addr × Obj)} {σ : L2.St} {H : Hp} {s : Shared} (I : Inv X pins σ H s) (hs : X.mg "super" = none) : SupX.Grd X.mg s.heap :=
  ⟨I.mod.glob.keeps I.bk, hs, I.mod.blt.elim fun mb q => ⟨mb, q.1.keeps I.bk, q.2⟩, I.nolimit⟩
theorem pmk_sup (Mk : SupX.MkS X.prog X.w X.K X.mg C ps) (gC : X.mg x = some (.ref C)) (kC : PySem.W.keepIn X.K (.ref C) = true) (ra : Raises X (.ref C)) (hs : X.mg "super" = none) (hr : Room k X.A) (hk : 1 ≤ k) (ha : PA X (e :: es) ta) (hg : Gl X x)
    (hdb : (x == ("__debug__" : Str)) = false := by decide) (he : starEach (e :: es) X.env = (false, eval e X.env) :: starEach es X.env := by rfl) (hpl : (backTo pos (starEach es X.env)).any (·.1) = false := by rfl) :
    L2N.PMk X (.Call (.Name x p) (e :: es) [] pos) (tMkS C ps ta) := by
  intro pins s σ H Q I h
  refine wpAny_Call_Name_kw (ld_glob I hg gC ?_ hdb)
  refine PySem.W.callWith_K (h₀ := X.base) I.ok.mod.kin kC (thn (ha.run pos pins s σ H _ I h) fun us s1 hh => ?_) he hpl
  obtain ⟨vs, H1, I1, r1, hl, q1⟩ := hh
  refine ⟨I1.kIn, ?_⟩
  show wpAny _ _ (call (.ref C) us) _ _ _
  have G := inv_grd I1 hs
  obtain ⟨hp, g, dr, tk, os⟩ := s1
  refine wpAny_call (Mk.made _ us hp g dr tk os _ (by rw [← r1.length]; exact hl) I1.kIn G (by have := hr.dp; omega) fun h' tk' e d mA hmA Md => ?_)
  show L2N.MkP X pins σ Q (.ref e) ⟨h', g, dr, tk', os⟩
  obtain ⟨t1, hoe⟩ := Md.obj
  have hns := Md.ns
  obtain ⟨G', g1, g2⟩ := restrict h' fun b => decide (b ≠ e)
  have gk : ∀ b, b ≠ e → G'.get? b = h'.get? b := fun b hb => g1 b (decide_eq_true hb)
  have ge : G'.get? e = none := g2 e (by simp)
  have old : ∀ b o, hp.get? b = some o → G'.get? b = some o := fun b o q => (gk b (Nat.ne_of_lt (Nat.lt_of_lt_of_le (Heap.lt_size q) Md.new))).trans (Md.keep b o q)
  have ob : ObjOk X.prog X.w (L2.upd H1 d (.xd (ps.zip vs))) G' d (.xd (ps.zip vs)) :=
    ⟨_, hns.at (fun o q => (gk d Md.dne).trans q), fun f => by rw [hmA]; exact relO_zip f r1⟩
  have J : Inv X pins σ (L2.upd H1 d (.xd (ps.zip vs))) ⟨G', g, dr, tk', os⟩ := I1.laid (t' := tk') old Md.dbig ob
  refine ⟨e, _, _, ⟨G', g, dr, tk', os⟩, _, .ref C, some d, rfl, J, fun b o q => ?_, ge, hoe, ⟨rfl, rfl, fun vs' e' => ?_⟩, rfl, rfl, ?_, rfl, I1.bare, ra, q1 d (I1.hok.fresh Md.dbig)⟩
  · by_cases hb : b = e
    · have q' : G'.get? b = some o := q
      rw [hb, ge] at q'; cases q'
    · exact (gk b hb).symm.trans q
  · cases e'; rfl
  · rw [upd_ne (Ne.symm Md.dne)]
    exact I1.hok.fresh Md.new
theorem repF_zip {K : PySem.W.Frag} {ca : Nat → Addr} {H : Hp} : ∀ {ps : List Str} {ds : List D} {vs : List V}, RepL K ca H ds vs → RepF K ca H (ps.zip ds) (ps.zip vs)
  | [], ds, vs, r => by simp; unfold RepF; rfl
  | p :: ps, ds, vs, r => by
    cases ds with
    | nil =>
      unfold RepL at r
      subst r
      simp; unfold RepF; rfl
    | cons d ds =>
      obtain ⟨v, vs', e, h1, h2⟩ := repL_cons r
      subst e
      show RepF K ca H ((p, d) :: ps.zip ds) ((p, v) :: ps.zip vs')
      unfold RepF
      exact ⟨v, _, rfl, h1, repF_zip h2⟩
/-- raise C(e, ..), C with fields of its own -/
theorem ms_raise {c : Nat} {al : CA} (hcalm : X.calm = true) (tk : L2N.Takes X j.W) (hm : L2N.PMk X e (tMkS (j.ca c) ps (TMA X.K j al))) (hps : ps ≠ []) : MS X j (.Raise (some e) none pos) (sRaise c ps al) := by
  refine ms_imp (L2N.ps_raise hcalm tk hm) fun D σ H G Hf env r m => ⟨G, Hf, env, r, (TFl.fl r m).imp fun ds Hf1 H1 _ p1 m1 vs rv => ?_⟩
  split at m1
  · rename_i hl
    refine ⟨by rw [← rv.length]; exact hl, fun d hd => ?_⟩
    have p2 : Post Hf1 H1 (L2.upd Hf1 d (.xd (ps.zip vs))) (L2.upd H1 d (.xd (ps.zip vs))) := post_new p1.sub hd
    refine m1 _ _ σ _ _ ((r.grow p1).grow p2) ⟨rfl, .inr ⟨d, _, rfl, upd_same, ?_⟩⟩
    exact RepF.mono p2.sh _ _ (repF_zip rv)
  · exact m1.elim
/-- .. without -/
theorem ms_raise0 {c : Nat} (hcalm : X.calm = true) (tk : L2N.Takes X j.W) (hm : L2N.PMk X e (fun _ H Q => Q (.ref (j.ca c)) none H)) : MS X j (.Raise (some e) none pos) (sRaise c [] aNil) :=
  ms_imp (L2N.ps_raise hcalm tk hm) fun D σ H G Hf env r m => m _ _ σ Hf H r ⟨rfl, .inl ⟨rfl, rfl⟩⟩
end
end M
/-! MTry: try .. except. -/
namespace M
open PySem PySem.Spec PyProof.Rows L2
section
variable {K : PySem.W.Frag} {ca : Nat → Addr} {ea ea2 : Ea} {G : Gh} {Hf H : Hp} {env : M.Env} {σ : L2.St}
theorem RR.clr (r : RR K ca ea G Hf env σ H) : RR K ca ea2 G Hf (clr env) σ H := by
  obtain ⟨fps, l, m, k⟩ := r.slots
  refine ⟨r.post, by simp [M.clr, r.len], fps, by simp [M.clr, l], m, fun i s o fp e1 e2 e3 => ?_⟩
  unfold M.clr at e1
  rw [List.getElem?_map] at e1
  cases q : env[i]? with
  | none => rw [q] at e1; cases e1
  | some s0 =>
    rw [q] at e1
    have z := k i s0 o fp q e2 e3
    cases s0 <;> cases e1 <;> first | exact z | trivial
theorem RR.exc (r : RR K ca ea G Hf env σ H) {x : ExcV} {a : Addr} {cls : Value} {d : Option Addr} (i : Nat) (rx : RepX K ca Hf x cls d) : RR K ca (some (a, cls, d)) G Hf ((M.clr env).set i (.exc x)) (σ.set i (some (.ref a))) H :=
  (RR.clr r).put i ⟨a, cls, d, rfl, rfl, rx⟩
end
section
variable {X : Cx} {j : Jc} {x n : Str} {c : Value} {i : Nat} {body suite : List Stmt} {b₀ : Stmt} {np pos pos' : Pos} {sb ss : CS} {sub : Sub}
theorem ms_tryAs (hs : X.stack = X.env :: X.outer) (hf : X.env.frame = some X.env.locals) (hN : X.N.Nodup) (hi : X.N[i]? = some n) (hln : X.env.kindOf n = some .local) (hc : Names X x c) (tk : L2N.Takes X j.W) (hea : j.ea = none)
    (hsub : ∀ n b, sub n = some b → PySem.W.exmOne X.K (.ref (j.ca n)) c = some b)
    (hb : ∀ (W : WX) (pn : List (Addr × Obj)) (xe : Value → Shared → Prop), L2N.Takes (X.tr pn xe) W → PassesOwn (model X.prog X.w) X.A X.env xe → MSs (X.tr pn xe) ⟨j.ca, none, W⟩ body sb)
    (hsu : ∀ (a : Addr) (oe : Obj) (cls : Value) (d : Option Addr) (pn : List (Addr × Obj)), L2N.Zn cls d oe → (∃ vs, oe.data = .fields vs) → MSs (X.suite a ((a, oe) :: pn)) ⟨j.ca, some (a, cls, d), fun _ _ _ _ => False⟩ (b₀ :: suite) ss) :
    MS X j (.Try body [.ExceptHandler (some (.Name x np)) (some n) (b₀ :: suite) pos'] [] [] pos) (sTryAs sb sub i ss) := by
  refine ms_imp (L2N.ps_try_as (tb := fun W => TMS X.K ⟨j.ca, none, W⟩ sb) (ts := fun a cls d => TMS X.K ⟨j.ca, some (a, cls, d), fun _ _ _ _ => False⟩ ss) hs hf hN hi hln hc tk hb hsu) fun D σ H G Hf env r m => ?_
  obtain ⟨ca, ea, W⟩ := j
  have hea : ea = none := hea
  subst hea
  refine ⟨G, Hf, env, r, ?_⟩
  unfold sTryAs at m
  cases q : sb env with
  | next e2 => rw [q] at m; exact m
  | brk e2 => rw [q] at m; exact m
  | cont e2 => rw [q] at m; exact m
  | ret sl => rw [q] at m; cases sl <;> exact m
  | stuck => rw [q] at m; exact m
  | exc x e2 =>
    rw [q] at m
    intro cls dd σ2 Hf2 H2 r2 rx
    cases hs2 : sub x.cls with
    | none => simp only [hs2] at m; exact m.elim
    | some b =>
      have hb2 : PySem.W.exmOne X.K cls c = some b := by rw [rx.1]; exact hsub _ _ hs2
      cases b with
      | false =>
        simp only [hs2] at m
        exact ⟨false, hb2, (fun z => nomatch z), fun _ => m cls dd σ2 Hf2 H2 r2 rx⟩
      | true =>
        simp only [hs2] at m
        refine ⟨true, hb2, fun _ a ha => ⟨G, Hf2, _, RR.exc (a := a) r2 i rx, ?_⟩, fun z => nomatch z⟩
        cases q3 : ss ((clr e2).set i (.exc x)) with
        | next e3 => rw [q3] at m; exact fun σ3 Hf3 H3 r3 => m _ _ _ ((RR.clr r3).un i)
        | brk e3 => rw [q3] at m; exact fun σ3 Hf3 H3 r3 => m _ _ _ ((RR.clr r3).un i)
        | cont e3 => rw [q3] at m; exact fun σ3 Hf3 H3 r3 => m _ _ _ ((RR.clr r3).un i)
        | ret sl => rw [q3] at m; cases sl <;> exact m
        | exc x3 e3 => rw [q3] at m; exact m.elim
        | stuck => rw [q3] at m; exact m.elim
inductive MHds (X : Cx) (ca : Nat → Addr) : List ExceptHandler → List (Value × (Addr → Value → Option Addr → TS)) → List (Sub × CS) → Prop
  | nil : MHds X ca [] [] []
  | cons {x : Str} {c : Value} {b₀ : Stmt} {suite : List Stmt} {np pos' : Pos} {hds : List ExceptHandler} {l : List (Value × (Addr → Value → Option Addr → TS))} {ms : List (Sub × CS)} {sub : Sub} {ss : CS} (hc : Names X x c)
      (hsub : ∀ n b, sub n = some b → PySem.W.exmOne X.K (.ref (ca n)) c = some b)
      (hsu : ∀ (a : Addr) (oe : Obj) (cls : Value) (d : Option Addr) (pn : List (Addr × Obj)), L2N.Zn cls d oe → (∃ vs, oe.data = .fields vs) → MSs (X.suite a ((a, oe) :: pn)) ⟨ca, none, fun _ _ _ _ => False⟩ (b₀ :: suite) ss) (r : MHds X ca hds l ms) :
      MHds X ca (.ExceptHandler (some (.Name x np)) none (b₀ :: suite) pos' :: hds) ((c, fun _ _ _ => TMS X.K ⟨ca, none, fun _ _ _ _ => False⟩ ss) :: l) ((sub, ss) :: ms)
theorem MHds.ok {ca : Nat → Addr} {hds : List ExceptHandler} {l : List (Value × (Addr → Value → Option Addr → TS))} {ms : List (Sub × CS)} (h : MHds X ca hds l ms) : L2N.HdsOk X hds l := by
  induction h with
  | nil => exact .nil
  | cons hc hsub hsu r ih => exact .cons hc hsu ih
theorem MHds.wish {ca : Nat → Addr} {W : WX} {hds : List ExceptHandler} {l : List (Value × (Addr → Value → Option Addr → TS))} {ms : List (Sub × CS)} (h : MHds X ca hds l ms) {G : Gh} {D : Ends} {x : ExcV} {e : M.Env} (m : TFl X.K ⟨ca, none, W⟩ G D (tryGo ms x e))
    {cls : Value} {dd : Option Addr} {σ : L2.St} {Hf H : Hp} (r : RR X.K ca none G Hf e σ H) (rx : RepX X.K ca Hf x cls dd) : wMany X.K W D l cls dd σ H := by
  induction h with
  | nil => exact m cls dd σ Hf H r rx
  | cons hc hsub hsu r' ih =>
    rename_i sub ss
    unfold tryGo at m
    cases hs2 : sub x.cls with
    | none => simp only [hs2] at m; exact m.elim
    | some b =>
      have hb2 := hsub _ _ hs2
      rw [← rx.1] at hb2
      cases b with
      | false =>
        simp only [hs2] at m
        exact ⟨false, hb2, (fun z => nomatch z), fun _ => ih m⟩
      | true =>
        simp only [hs2] at m
        refine ⟨true, hb2, fun _ a ha => ⟨G, Hf, _, RR.clr r, ?_⟩, fun z => nomatch z⟩
        cases q3 : ss (clr e) with
        | next e3 => rw [q3] at m; exact m
        | brk e3 => rw [q3] at m; exact m
        | cont e3 => rw [q3] at m; exact m
        | ret sl => rw [q3] at m; cases sl <;> exact m
        | exc x3 e3 => rw [q3] at m; exact m.elim
        | stuck => rw [q3] at m; exact m.elim
theorem ms_try {h₀ : ExceptHandler} {hds : List ExceptHandler} {l : List (Value × (Addr → Value → Option Addr → TS))} {ms : List (Sub × CS)} (hs : X.stack = X.env :: X.outer) (hf : X.env.frame = some X.env.locals) (tk : L2N.Takes X j.W) (hea : j.ea = none)
    (hb : ∀ (W : WX) (pn : List (Addr × Obj)) (xe : Value → Shared → Prop), L2N.Takes (X.tr pn xe) W → PassesOwn (model X.prog X.w) X.A X.env xe → MSs (X.tr pn xe) ⟨j.ca, none, W⟩ body sb)
    (hh : MHds X j.ca (h₀ :: hds) l ms) : MS X j (.Try body (h₀ :: hds) [] [] pos) (sTry sb ms) := by
  refine ms_imp (L2N.ps_try_many (tb := fun W => TMS X.K ⟨j.ca, none, W⟩ sb) hs hf tk hb hh.ok) fun D σ H G Hf env r m => ?_
  obtain ⟨ca, ea, W⟩ := j
  have hea : ea = none := hea
  subst hea
  refine ⟨G, Hf, env, r, ?_⟩
  unfold sTry at m
  cases q : sb env with
  | next e2 => rw [q] at m; exact m
  | brk e2 => rw [q] at m; exact m
  | cont e2 => rw [q] at m; exact m
  | ret sl => rw [q] at m; cases sl <;> exact m
  | stuck => rw [q] at m; exact m
  | exc x e2 =>
    rw [q] at m
    intro cls dd σ2 Hf2 H2 r2 rx
    exact hh.wish m r2 rx
end
end M
/-! MOpsD: what the operators and built-ins do, by values. -/
namespace M
open PySem (Str PyData)
/-- how often a while loop may turn -/
def FUEL : Nat := 100000
def dAdd : D → D → Out D
  | .int i, .int j => .ok (.int (i + j))
  | .str a, .str b => if a.length + b.length ≤ line then .ok (.str (a ++ b)) else .stuck
  | .tup xs, .tup ys => if xs.length + ys.length ≤ line then .ok (.tup (xs ++ ys)) else .stuck
  | .lst xs, .lst ys => if xs.length + ys.length ≤ line then .ok (.lst (xs ++ ys)) else .stuck
  | _, _ => .stuck
def fCat : D → D → Out (List D)
  | .lst xs, .lst ys => if xs.length + ys.length ≤ line then .ok (xs ++ ys) else .stuck
  | _, _ => .stuck
def dSub : D → D → Out D
  | .int i, .int j => .ok (.int (i - j))
  | _, _ => .stuck
def smallM (i : Int) : Prop := -(2 ^ 64) < i ∧ i < 2 ^ 64
instance (i : Int) : Decidable (smallM i) := inferInstanceAs (Decidable (_ ∧ _))
def repS (x : Str) (n : Int) : Str := if n < 1 then Str.empty else if (n == 1 || x.length == 0) = true then x else ⟨(List.replicate n.toNat x.cps).foldl (· ++ ·) #[]⟩
def dMul : D → D → Out D
  | .int i, .int j => if smallM i ∨ smallM j then .ok (.int (i * j)) else .stuck
  | .str x, .int n => if -1000 ≤ n ∧ n ≤ 1000 ∧ x.length ≤ 1000 then .ok (.str (repS x n)) else .stuck
  | .tup xs, .int k => if xs ≠ [] ∧ 2 ≤ k ∧ k ≤ 1000 ∧ xs.length ≤ 1000 then .ok (.tup (List.replicate k.toNat xs).flatten) else .stuck
  | _, _ => .stuck
def fRep : D → D → Out (List D)
  | .lst xs, .int k => if xs.length ≤ 1000 ∧ k ≤ 1000 ∧ -(2 ^ 63) ≤ k then .ok (List.replicate k.toNat xs).flatten else .stuck
  | _, _ => .stuck
/-- [..] * k -/
def fRepO (a : CF) (b : CE) : CF := fun env => (a env).bind fun o => (b env).bind fun y => match o with
  | .lst xs => (fRep (.lst xs) y).bind fun ys => .ok (.lst ys)
  | _ => .stuck
def dFdiv : D → D → Out D
  | .int i, .int j => if 0 < j ∧ j.natAbs.log2 < 9000 then .ok (.int (i / j)) else .stuck
  | _, _ => .stuck
/-- tuple(reversed(a list)) -/
def dTupRev : D → Out D
  | .lst xs => .ok (.tup xs.reverse)
  | _ => .stuck
def dMod : D → D → Out D
  | .int i, .int j => if j ≠ 0 then .ok (.int (i.fmod j)) else .stuck
  | _, _ => .stuck
def dPow : D → D → Out D
  | .int i, .int j => if 0 ≤ j ∧ j ≤ 1000000 ∧ i.natAbs < 2 ^ 64 then .ok (.int (i ^ j.toNat)) else .stuck
  | _, _ => .stuck
def dNeg : D → Out D
  | .int i => .ok (.int (-i))
  | _ => .stuck
def intL : List D → Option (List Int)
  | [] => some []
  | d :: r => match d, intL r with
    | .int i, some ns => some (i :: ns)
    | _, _ => none
def ltI : List Int → List Int → Bool
  | [], [] => false
  | [], _ :: _ => true
  | _ :: _, [] => false
  | x :: xs, y :: ys => if x = y then ltI xs ys else decide (x < y)
def dLt : D → D → Out D
  | .int i, .int j => .ok (.bl (decide (i < j)))
  | .str a, .str b => .ok (.bl (decide (a.cps.toList < b.cps.toList)))
  | .tup xs, .tup ys => match intL xs, intL ys with | some ns, some ms => .ok (.bl (ltI ns ms)) | _, _ => .stuck
  | _, _ => .stuck
def dLe : D → D → Out D
  | .int i, .int j => .ok (.bl (decide (i ≤ j)))
  | .str a, .str b => .ok (.bl (!decide (b.cps.toList < a.cps.toList)))
  | _, _ => .stuck
def dGt : D → D → Out D
  | .int i, .int j => .ok (.bl (decide (j < i)))
  | .str a, .str b => .ok (.bl (decide (b.cps.toList < a.cps.toList)))
  | _, _ => .stuck
def dGe : D → D → Out D
  | .int i, .int j => .ok (.bl (decide (j ≤ i)))
  | .str a, .str b => .ok (.bl (!decide (a.cps.toList < b.cps.toList)))
  | _, _ => .stuck
/-! ### == -/
mutual
def eqD : D → D → Bool
  | .non, .non => true
  | .bl a, .bl b => a == b
  | .bl a, .int j => (if a then 1 else 0) == j
  | .int i, .bl b => i == (if b then 1 else 0)
  | .int i, .int j => i == j
  | .str x, .str y => x == y
  | .lst xs, .lst ys => eqDs xs ys
  | .tup xs, .tup ys => eqDs xs ys
  | _, _ => false
def eqDs : List D → List D → Bool
  | [], [] => true
  | x :: xs, y :: ys => eqD x y && eqDs xs ys
  | _, _ => false
end
def strOk (x : Str) : Bool := x.cps.all (· < 0x110000)
mutual
/-- data that == is asked of; n: how deep it may be -/
def okN : Nat → D → Bool
  | _, .non => true
  | _, .bl _ => true
  | _, .int _ => true
  | _, .str x => strOk x
  | n + 1, .tup xs => okNs n xs
  | n + 1, .lst xs => okNs n xs
  | _, _ => false
def okNs : Nat → List D → Bool
  | _, [] => true
  | n, x :: xs => okN n x && okNs n xs
end
def okD (d : D) : Bool := okN 64 d
def dEq (x y : D) : Out D := if okD x = true ∧ okD y = true then .ok (.bl (eqD x y)) else .stuck
def dNe (x y : D) : Out D := if okD x = true ∧ okD y = true then .ok (.bl (!eqD x y)) else .stuck
/-! ### in, is -/
def flatD : D → Bool
  | .non => true | .bl _ => true | .int _ => true | .str _ => true | _ => false
def inD (x : D) (xs : List D) : Bool := xs.any fun y => eqD y x
/-! dicts: keys are ints or texts -/
def keyOk : D → Bool
  | .int _ => true | .str _ => true | _ => false
def getV : List D → List D → D → Option D
  | k' :: ks, v :: vs, k => if eqD k' k = true then some v else getV ks vs k
  | _, _, _ => none
def hasK (ks : List D) (k : D) : Bool := ks.any fun k' => eqD k' k
def setV : List D → List D → D → D → List D
  | k' :: ks, v :: vs, k, d => (if eqD k' k = true then d else v) :: setV ks vs k d
  | _, _, _, _ => []
def putKs (ks : List D) (k : D) : List D := if hasK ks k = true then ks else ks ++ [k]
def putVs (ks vs : List D) (k d : D) : List D := if hasK ks k = true then setV ks vs k d else vs ++ [d]
def dropKs (ks : List D) (k : D) : List D := ks.filter fun k' => !eqD k' k
def dropVs : List D → List D → D → List D
  | k' :: ks, v :: vs, k => if eqD k' k = true then dropVs ks vs k else v :: dropVs ks vs k
  | _, _, _ => []
def signIn (a z : Str) : Option Bool := match a.cps.toList with
  | [c] => some (decide (c ∈ z.cps.toList))
  | _ => none
def dIn : D → D → Out D
  | x, .dct ks vs => if keyOk x = true then .ok (.bl (getV ks vs x).isSome) else .stuck
  | .str a, .str z => match signIn a z with | some b => .ok (.bl b) | none => .stuck
  | x, .lst xs => if flatD x = true ∧ xs.all flatD = true then .ok (.bl (inD x xs)) else if okD x = true ∧ okD (.lst xs) = true then .ok (.bl (inD x xs)) else .stuck
  | x, .tup xs => if flatD x = true ∧ xs.all flatD = true then .ok (.bl (inD x xs)) else .stuck
  | _, _ => .stuck
def dNotIn : D → D → Out D
  | x, .dct ks vs => if keyOk x = true then .ok (.bl (!(getV ks vs x).isSome)) else .stuck
  | .str a, .str z => match signIn a z with | some b => .ok (.bl (!b)) | none => .stuck
  | x, .lst xs => if flatD x = true ∧ xs.all flatD = true then .ok (.bl (!inD x xs)) else if okD x = true ∧ okD (.lst xs) = true then .ok (.bl (!inD x xs)) else .stuck
  | x, .tup xs => if flatD x = true ∧ xs.all flatD = true then .ok (.bl (!inD x xs)) else .stuck
  | _, _ => .stuck
def isNon : D → Bool
  | .non => true | _ => false
def dIs : D → D → Out D
  | x, .non => .ok (.bl (isNon x))
  | .bl a, .bl b => .ok (.bl (decide (a = b)))
  | _, _ => .stuck
def dIsNot : D → D → Out D
  | x, .non => .ok (.bl (!isNon x))
  | .bl a, .bl b => .ok (.bl (!decide (a = b)))
  | _, _ => .stuck
/-! ### subscripts, slices -/
def dIx : D → D → Out D
  | .dct ks vs, k => if keyOk k = true then (match getV ks vs k with | some d => .ok d | none => .stuck) else .stuck
  | .lst xs, .int k => match ixN xs.length k with | some j => (match xs[j]? with | some d => .ok d | none => .stuck) | none => .stuck
  | .tup xs, .int k => match ixN xs.length k with | some j => (match xs[j]? with | some d => .ok d | none => .stuck) | none => .stuck
  | .str z, .int k => if z.length ≤ line then (match ixN z.cps.toList.length k with | some j => (match z.cps.toList[j]? with | some c => .ok (.str ⟨#[c]⟩) | none => .stuck) | none => .stuck) else .stuck
  | _, _ => .stuck
def sIx (n d : Nat) : Option Int → Nat
  | none => d
  | some v => if v < 0 then (v + (n : Int)).toNat else min v.toNat n
def cutL {α : Type} (xs : List α) (lo hi : Option Int) : List α := (xs.drop (sIx xs.length 0 lo)).take (sIx xs.length xs.length hi - sIx xs.length 0 lo)
abbrev CO := Env → Out (Option Int)
def oNo : CO := fun _ => .ok none
def oSome (a : CE) : CO := fun env => (a env).bind fun x => match x with | .int i => .ok (some i) | _ => .stuck
def dSl : D → Option Int → Option Int → Out D
  | .lst xs, lo, hi => .ok (.lst (cutL xs lo hi))
  | .tup xs, lo, hi => .ok (.tup (cutL xs lo hi))
  | .str z, lo, hi => if z.length ≤ line then .ok (.str ⟨(cutL z.cps.toList lo hi).toArray⟩) else .stuck
  | _, _, _ => .stuck
def eSl (a : CE) (lo hi : CO) : CE := fun env => (a env).bind fun x => (lo env).bind fun l => (hi env).bind fun h => dSl x l h
def lSl : D → Option Int → Option Int → Out (List D)
  | .lst xs, lo, hi => .ok (cutL xs lo hi)
  | _, _, _ => .stuck
def fSl (a : CE) (lo hi : CO) : CF := fun env => (a env).bind fun x => (lo env).bind fun l => (hi env).bind fun h => (lSl x l h).bind fun xs => .ok (.lst xs)
def strL : List D → Option (List Str)
  | [] => some []
  | .str x :: r => match strL r with | some ys => some (x :: ys) | none => none
  | _ :: _ => none
def joinS (a : Str) (ys : List Str) : Str := ⟨(ys.drop 1).foldl (fun acc p => acc ++ a.cps ++ p.cps) (ys.headD Str.empty).cps⟩
def joinD (a : Str) (xs : List D) : Out D := match strL xs with
  | some ys => if (ys.map (·.length)).sum + ys.length * a.length ≤ line then .ok (.str (joinS a ys)) else .stuck
  | none => .stuck
def dJoin (a : Str) : D → Out D
  | .lst xs => joinD a xs
  | .tup xs => joinD a xs
  | _ => .stuck
/-- 'a'.join(b) -/
def eJoin (a b : CE) : CE := fun env => (a env).bind fun x => match x with
  | .str s => (b env).bind fun y => dJoin s y
  | _ => .stuck
/-- d[k] = v -/
def sPut (i : Nat) (k v : CE) : CS := fun env => (v env).fl env fun dv => match env[i]? with
  | some (.own (.dct ks vs)) => (k env).fl env fun dk => if keyOk dk = true ∧ ks.length < line then .next (env.set i (.own (.dct (putKs ks dk) (putVs ks vs dk dv)))) else .stuck
  | _ => .stuck
/-- d.pop(k) -/
def sPop (i : Nat) (k : CE) : CS := fun env => match env[i]? with
  | some (.own (.dct ks vs)) => (k env).fl env fun dk => if keyOk dk = true ∧ hasK ks dk = true then .next (env.set i (.own (.dct (dropKs ks dk) (dropVs ks vs dk)))) else .stuck
  | _ => .stuck
def fDct0 : CF := fun _ => .ok (.dct [] [])
def dcGo (g : Tg) (t : CT) (k e : CE) : List D → Env → List D → List D → Out Own
  | [], _, ks, vs => .ok (.dct ks vs)
  | d :: ds, env, ks, vs => match g d env with
    | none => .stuck
    | some env1 => (t env1).calm.bind fun c => if c then (k env1).calm.bind fun x => (e env1).calm.bind fun y => (if keyOk x = true ∧ ks.length < line then dcGo g t k e ds env (putKs ks x) (putVs ks vs x y) else .stuck) else dcGo g t k e ds env ks vs
/-- {k: e for g in items if t} -/
def fDC (vs : List Nat) (it : CA) (g : Tg) (t : CT) (k e : CE) : CF := fun env => (it env).bind fun ds => dcGo g t k e ds (wipeE env vs) [] []
def sortI (ns : List Int) : List Int := ns.mergeSort fun a b => decide (a ≤ b)
def dSorted : List D → Out (List D)
  | [.lst xs] => match intL xs with | some ns => .ok ((sortI ns).map .int) | none => .stuck
  | [.dct ks _] => match intL ks with | some ns => if ns.length < 64 then .ok ((sortI ns).map .int) else .stuck | none => .stuck
  | _ => .stuck
/-! ### built-ins -/
def dLen : List D → Out D
  | [.lst xs] => .ok (.int xs.length)
  | [.tup xs] => .ok (.int xs.length)
  | [.str z] => if z.length ≤ line then .ok (.int z.length) else .stuck
  | _ => .stuck
def dInt : List D → Out D
  | [.int i] => .ok (.int i)
  | [.bl b] => .ok (.int (if b then 1 else 0))
  | _ => .stuck
def dAbs : List D → Out D
  | [.int i] => .ok (.int (if i < 0 then -i else i))
  | _ => .stuck
def dMax2 : List D → Out D
  | [.int i, .int j] => .ok (.int (if j > i then j else i))
  | _ => .stuck
def dMin2 : List D → Out D
  | [.int i, .int j] => .ok (.int (if j < i then j else i))
  | _ => .stuck
def dList : List D → Out (List D)
  | [.lst xs] => .ok xs
  | [.tup xs] => .ok xs
  | _ => .stuck
def dTuple : List D → Out D
  | [.lst xs] => .ok (.tup xs)
  | [.tup xs] => .ok (.tup xs)
  | _ => .stuck
def dStr : List D → Out D
  | [.int i] => if i.natAbs < 2 ^ 1900 then .ok (.str (toString i)) else .stuck
  | _ => .stuck
def tyD : D → Option String
  | .non => some "NoneType" | .bl _ => some "bool" | .int _ => some "int" | .str _ => some "str" | .tup _ => some "tuple" | .lst _ => some "list" | _ => none
def subTy (t n : String) : Option Bool :=
  if ["int", "bool", "str", "tuple", "list", "dict"].contains n then some (t == n || (t == "bool" && n == "int")) else none
def dIsi : List D → Out D
  | [x, .ty n] => match tyD x with | some t => (match subTy t n with | some b => .ok (.bl b) | none => .stuck) | none => .stuck
  | _ => .stuck
def dSum : List D → Out D
  | [.lst xs] => match intL xs with | some ns => .ok (.int ns.sum) | none => .stuck
  | _ => .stuck
end M
/-! MMoreD: more that is done, by values. -/
namespace M
open PySem (Str PyData)
/-- what is taken out of a list of our own, what is left -/
abbrev Pop := Env → List D → Out (D × List D)
def pLast : Pop := fun _ xs => match xs.getLast? with
  | some d => .ok (d, xs.dropLast)
  | none => .stuck
def pAt (k : CE) : Pop := fun env xs => if xs.length < line then (k env).bind fun z => match z with
  | .int z => (match ixN xs.length z with
    | some n => (match xs[n]? with
      | some d => .ok (d, xs.eraseIdx n)
      | none => .stuck)
    | none => .stuck)
  | _ => .stuck
  else .stuck
/-- xs.pop(..) -/
def sDropPop (i : Nat) (P : Pop) : CS := fun env => match env[i]? with
  | some (.own (.lst xs)) => (P env xs).fl env fun q => .next (env.set i (.own (.lst q.2)))
  | _ => .stuck
/-- x = xs.pop(..) -/
def sSetPop (x i : Nat) (P : Pop) : CS := fun env => match env[i]? with
  | some (.own (.lst xs)) => (P env xs).fl env fun q => .next ((env.set i (.own (.lst q.2))).set x (.val q.1))
  | _ => .stuck
/-- o.append(xs.pop(..)) -/
def sAppPop (o i : Nat) (P : Pop) : CS := fun env => match env[i]? with
  | some (.own (.lst xs)) => (match env[o]? with
    | some (.own (.lst ys)) => (P env xs).fl env fun q => if o ≠ i ∧ ys.length < line then .next ((env.set i (.own (.lst q.2))).set o (.own (.lst (ys ++ [q.1])))) else .stuck
    | _ => .stuck)
  | _ => .stuck
/-- xs.index(y) -/
def idxD (y : D) : List D → Option Nat
  | [] => none
  | x :: xs => if eqD x y = true then some 0 else (idxD y xs).map (· + 1)
def dIndex : D → D → Out D
  | .lst xs, y => if okD y = true ∧ okD (.lst xs) = true then (match idxD y xs with | some n => .ok (.int n) | none => .stuck) else .stuck
  | _, _ => .stuck
def eIndex (a b : CE) : CE := fun env => (a env).bind fun x => match x with
  | .lst xs => (b env).bind fun y => dIndex (.lst xs) y
  | _ => .stuck
def minI : List Int → Int
  | [] => 0
  | [x] => x
  | x :: xs => let m := minI xs; if x ≤ m then x else m
def maxI : List Int → Int
  | [] => 0
  | [x] => x
  | x :: xs => let m := maxI xs; if m ≤ x then x else m
def dMin1 : List D → Out D
  | [.lst xs] => match intL xs with | some [] => .stuck | some ns => .ok (.int (minI ns)) | none => .stuck
  | _ => .stuck
def dMax1 : List D → Out D
  | [.lst xs] => match intL xs with | some [] => .stuck | some ns => .ok (.int (maxI ns)) | none => .stuck
  | _ => .stuck
def dGcd : List D → Out D
  | [.int a, .int b] => .ok (.int (Nat.gcd a.natAbs b.natAbs : Nat))
  | _ => .stuck
def dLcm : List D → Out D
  | [.int a, .int b] => if a.natAbs < 2 ^ 64 ∧ b.natAbs < 2 ^ 64 then .ok (.int (Nat.lcm a.natAbs b.natAbs : Nat)) else .stuck
  | _ => .stuck
/-- lo, lo + c, .. -/
def rangeC (lo c : Int) (n : Nat) : List D := (List.range n).map fun i => .int (lo + (i : Nat) * c)
/-- range(i, j, -1) -/
def dRange3 : List D → Out (List D)
  | [.int i, .int j, .int c] => if c = -1 ∧ smallI i ∧ smallI j then .ok (rangeC i (-1) (i - j).toNat) else .stuck
  | _ => .stuck
def dListRg : D → D → Out (List D)
  | .int i, .int j => if smallI i ∧ smallI j ∧ j - i ≤ 1000000 then .ok (rangeL i j) else .stuck
  | _, _ => .stuck
def dTupRg : D → D → Out D
  | .int i, .int j => if smallI i ∧ smallI j ∧ j - i ≤ 1000000 then .ok (.tup (rangeL i j)) else .stuck
  | _, _ => .stuck
theorem minI_mem : ∀ {ns : List Int}, ns ≠ [] → minI ns ∈ ns ∧ ∀ y ∈ ns, minI ns ≤ y
  | [], h => absurd rfl h
  | [x], _ => ⟨by simp [minI], fun y hy => by rw [List.mem_singleton.mp hy]; exact Int.le_refl _⟩
  | x :: z :: r, _ => by
    obtain ⟨h1, h2⟩ := minI_mem (ns := z :: r) (by simp)
    have e : minI (x :: z :: r) = if x ≤ minI (z :: r) then x else minI (z :: r) := rfl
    rw [e]
    by_cases h : x ≤ minI (z :: r)
    · rw [if_pos h]
      refine ⟨List.mem_cons_self, fun y hy => ?_⟩
      rcases List.mem_cons.mp hy with q | q
      · rw [q]; exact Int.le_refl _
      · have := h2 y q; omega
    · rw [if_neg h]
      refine ⟨List.mem_cons_of_mem _ h1, fun y hy => ?_⟩
      rcases List.mem_cons.mp hy with q | q
      · rw [q]; omega
      · exact h2 y q
theorem maxI_mem : ∀ {ns : List Int}, ns ≠ [] → maxI ns ∈ ns ∧ ∀ y ∈ ns, y ≤ maxI ns
  | [], h => absurd rfl h
  | [x], _ => ⟨by simp [maxI], fun y hy => by rw [List.mem_singleton.mp hy]; exact Int.le_refl _⟩
  | x :: z :: r, _ => by
    obtain ⟨h1, h2⟩ := maxI_mem (ns := z :: r) (by simp)
    have e : maxI (x :: z :: r) = if maxI (z :: r) ≤ x then x else maxI (z :: r) := rfl
    rw [e]
    by_cases h : maxI (z :: r) ≤ x
    · rw [if_pos h]
      refine ⟨List.mem_cons_self, fun y hy => ?_⟩
      rcases List.mem_cons.mp hy with q | q
      · rw [q]; exact Int.le_refl _
      · have := h2 y q; omega
    · rw [if_neg h]
      refine ⟨List.mem_cons_of_mem _ h1, fun y hy => ?_⟩
      rcases List.mem_cons.mp hy with q | q
      · rw [q]; omega
      · exact h2 y q
end M
/-! MOps: the operators and built-ins are as MOpsD says. -/
namespace M
open PySem PySem.Spec PyProof.Rows L2
section
variable {K : PySem.W.Frag} {ca : Nat → Addr} {Hf H : Hp} {d : D} {v : V}
theorem pInt {i : Int} (h : PRep K ca Hf H (.int i) v) : v = .int i := h
theorem pBl {i : Bool} (h : PRep K ca Hf H (.bl i) v) : v = .bl i := h
theorem pNon (h : PRep K ca Hf H .non v) : v = .non := h
theorem pStr {i : Str} (h : PRep K ca Hf H (.str i) v) : v = .str i := h
theorem pTup {xs : List D} (s : Same Hf H) (h : PRep K ca Hf H (.tup xs) v) : ∃ a vs, v = .ref a ∧ SqT K H a vs ∧ RepL K ca Hf xs vs := by
  have h : Rep K ca Hf (.tup xs) v := h
  unfold Rep at h
  obtain ⟨a, vs, e, h1, h2⟩ := h
  exact ⟨a, vs, e, Same.seqT s h1, h2⟩
theorem pLst {xs : List D} (h : PRep K ca Hf H (.lst xs) v) : ∃ a vs, v = .ref a ∧ SqL K H a vs ∧ RepL K ca Hf xs vs := h
theorem rTup {xs : List D} {vs : List V} {a : Addr} (h1 : SqT K Hf a vs) (h2 : RepL K ca Hf xs vs) : Rep K ca Hf (.tup xs) (.ref a) := by
  unfold Rep; exact ⟨a, vs, rfl, h1, h2⟩
theorem rLst {xs : List D} {vs : List V} {a : Addr} (h1 : SqL K Hf a vs) (h2 : RepL K ca Hf xs vs) : Rep K ca Hf (.lst xs) (.ref a) := by
  unfold Rep; exact ⟨a, vs, rfl, h1, h2⟩
theorem repL_nil {vs : List V} (h : RepL K ca H [] vs) : vs = [] := by unfold RepL at h; exact h
theorem RepL.flatten {ds : List D} {vs : List V} (h : RepL K ca H ds vs) : ∀ k : Nat, RepL K ca H (List.replicate k ds).flatten (List.replicate k vs).flatten
  | 0 => by simp; unfold RepL; rfl
  | k + 1 => by
    rw [List.replicate_succ, List.replicate_succ, List.flatten_cons, List.flatten_cons]
    exact RepL.append h (RepL.flatten h k)
theorem RepL.drop : ∀ {ds : List D} {vs : List V} (k : Nat), RepL K ca H ds vs → RepL K ca H (ds.drop k) (vs.drop k)
  | ds, vs, 0, h => by simpa using h
  | [], vs, k + 1, h => by rw [repL_nil h]; simp; unfold RepL; rfl
  | x :: xs, vs, k + 1, h => by
    obtain ⟨v, r, e, h1, h2⟩ := repL_cons h
    subst e
    exact RepL.drop k h2
theorem RepL.take : ∀ {ds : List D} {vs : List V} (k : Nat), RepL K ca H ds vs → RepL K ca H (ds.take k) (vs.take k)
  | ds, vs, 0, h => by simp; unfold RepL; rfl
  | [], vs, k + 1, h => by rw [repL_nil h]; simp; unfold RepL; rfl
  | x :: xs, vs, k + 1, h => by
    obtain ⟨v, r, e, h1, h2⟩ := repL_cons h
    subst e
    show RepL K ca H (x :: xs.take k) _
    unfold RepL
    exact ⟨v, r.take k, rfl, h1, RepL.take k h2⟩
/-- a new shared tuple, list -/
theorem newT {xs : List D} {vs : List V} {p : Addr} (s : Same Hf H) (hp : H p = none) (h : RepL K ca Hf xs vs) : ∃ Hf', Post Hf H Hf' (L2.upd H p (.tup vs)) ∧ Rep K ca Hf' (.tup xs) (.ref p) :=
  have z := post_new (o := .tup vs) s hp
  ⟨_, z, rTup (.inl (.inl upd_same)) (RepL.mono z.sh _ _ h)⟩
theorem newL {xs : List D} {vs : List V} {p : Addr} (s : Same Hf H) (hp : H p = none) (h : RepL K ca Hf xs vs) : ∃ Hf', Post Hf H Hf' (L2.upd H p (.lst vs)) ∧ Rep K ca Hf' (.lst xs) (.ref p) :=
  have z := post_new (o := .lst vs) s hp
  ⟨_, z, rLst (.inl (.inl upd_same)) (RepL.mono z.sh _ _ h)⟩
end
section
variable {X : Cx} {ca : Nat → Addr}
theorem OutP.newT {K : PySem.W.Frag} {W : WX} {σ : L2.St} {Hf H : Hp} {xs : List D} {vs : List V} {Q : VK} (m : OutP K ca W σ Hf H (.ok (.tup xs)) (fun d Hf' H' => ∀ v, Rep K ca Hf' d v → Q v H')) (s : Same Hf H) (h : RepL K ca Hf xs vs) (p : Addr) (hp : H p = none) : Q (.ref p) (L2.upd H p (.tup vs)) := by
  obtain ⟨Hf', z, r⟩ := M.newT s hp h
  exact m _ _ z _ r
theorem OutP.newL {K : PySem.W.Frag} {W : WX} {σ : L2.St} {Hf H : Hp} {xs : List D} {vs : List V} {Q : VK} (m : OutP K ca W σ Hf H (.ok (.lst xs)) (fun d Hf' H' => ∀ v, Rep K ca Hf' d v → Q v H')) (s : Same Hf H) (h : RepL K ca Hf xs vs) (p : Addr) (hp : H p = none) : Q (.ref p) (L2.upd H p (.lst vs)) := by
  obtain ⟨Hf', z, r⟩ := M.newL s hp h
  exact m _ _ z _ r
theorem OutP.rep {K : PySem.W.Frag} {W : WX} {σ : L2.St} {Hf H : Hp} {d : D} {v : V} {Q : VK} (m : OutP K ca W σ Hf H (.ok d) (fun d Hf' H' => ∀ v, Rep K ca Hf' d v → Q v H')) (s : Same Hf H) (h : Rep K ca Hf d v) : Q v H := OutP.ok m s v h

/-! ### + on lists that are read -/
def rCatL (K : PySem.W.Frag) : R2 := fun x y H Q => ∃ l b xs zs, x = .ref l ∧ y = .ref b ∧ SqL K H l xs ∧ SqL K H b zs ∧ xs.length + zs.length ≤ sizeLine ∧ ∀ p, H p = none → Q (.ref p) (L2.upd H p (.lst (xs ++ zs)))
theorem op_catL : OpR X (binaryOp .Add) (rCatL X.K) := by
  intro pins s σ H x y v u Q I rx ry h
  obtain ⟨l, b, xs, ys, rfl, rfl, h1, h2, hz, q⟩ := h
  cases rx
  cases ry
  obtain ⟨us, r, ⟨⟨cl, dd, da, sl⟩, n, e, c1, c2, c3⟩, _⟩ := I.list h1
  obtain ⟨ws, r2, ⟨⟨cl', dd', da', sl'⟩, n', e', c1', c2', c3'⟩, _⟩ := I.list h2
  simp only at c1 c2 c3 c1' c2' c3'
  subst c1 c2 c3 c1' c2' c3'
  have k1 := r.length
  have k2 := r2.length
  have ea : us.toArray ++ ws.toArray = (us ++ ws).toArray := by simp
  refine concat_meets ⟨_, e, rfl⟩ ⟨_, e', rfl⟩ noFill_list_add seq_list_add PySem.F.slot_list_add PySem.F.entry_list_add (PySem.F.args_list_add_2 _ _) (list_addW l b us.toArray ws.toArray n n' none none sl sl' (by simpa using (by omega : us.length + ws.length ≤ sizeLine))) ⟨e, e', ?_⟩
  rw [ea]
  exact ⟨.ref s.heap.objs.size, _, I.lnew (t' := s.toks) (r.append r2) (by rw [List.length_append]; omega), rfl, q _ I.fresh⟩
theorem op2_add : Op2 X ca (binaryOp .Add) dAdd := by
  refine ⟨_, ((op_add.or op_add_str).or op_catA).or op_catL, fun W σ Hf H x y v u Q s h1 h2 m => ?_⟩
  unfold dAdd at m
  split at m
  · rw [pInt h1, pInt h2]; exact .inl (.inl (.inl ⟨_, _, rfl, rfl, m.rep s rfl⟩))
  · split at m
    · rename_i hz
      rw [pStr h1, pStr h2]; exact .inl (.inl (.inr ⟨_, _, rfl, rfl, by rw [← line_eq]; exact hz, m.rep s rfl⟩))
    · exact m.no.elim
  · split at m
    · rename_i hz
      obtain ⟨a, vs, rfl, a1, a2⟩ := pTup s h1
      obtain ⟨b, us, rfl, b1, b2⟩ := pTup s h2
      refine .inl (.inr ⟨a, b, vs, us, rfl, rfl, a1, b1, by rw [← a2.length, ← b2.length, ← line_eq]; exact hz, fun e => ?_, fun _ e => ?_, fun _ _ p hp => m.newT s (RepL.append a2 b2) p hp⟩)
      · subst e
        have : _ = [] := List.length_eq_zero_iff.mp a2.length
        subst this
        exact m.rep s h2
      · subst e
        have : _ = [] := List.length_eq_zero_iff.mp b2.length
        subst this
        rw [List.append_nil] at m
        exact m.rep s h1
    · exact m.no.elim
  · split at m
    · rename_i hz
      obtain ⟨a, vs, rfl, a1, a2⟩ := pLst h1
      obtain ⟨b, us, rfl, b1, b2⟩ := pLst h2
      exact .inr ⟨a, b, vs, us, rfl, rfl, a1, b1, by rw [← a2.length, ← b2.length, ← line_eq]; exact hz, fun p hp => m.newL s (RepL.append a2 b2) p hp⟩
    · exact m.no.elim
  · exact m.no.elim
theorem op2_sub : Op2 X ca (binaryOp .Sub) dSub := by
  refine ⟨_, op_sub, fun W σ Hf H x y v u Q s h1 h2 m => ?_⟩
  unfold dSub at m
  split at m
  · rw [pInt h1, pInt h2]; exact ⟨_, _, rfl, rfl, m.rep s rfl⟩
  · exact m.no.elim
theorem op_mul_str : OpR X (binaryOp .Mult) (fun x y H Q => ∃ a n, x = .str a ∧ y = .int n ∧ (-1000 ≤ n ∧ n ≤ 1000 ∧ a.length ≤ 1000) ∧ Q (.str (repS a n)) H) := by
  intro pins s σ H x y v u Q I rx ry h
  obtain ⟨a, n, rfl, rfl, ⟨n0, n1, al⟩, q⟩ := h
  obtain ⟨t, rfl⟩ := rx
  obtain ⟨t', rfl⟩ := ry
  have nl : ∀ h1 : ¬ n < 1, a.length * n.toNat ≤ 1000 * 1000 := fun h1 => Nat.mul_le_mul al (by omega)
  refine PySem.P.mul_str (by
      have h1 : ¬ n < -(2 ^ 63 : Int) := by omega
      have h2 : ¬ n ≥ 2 ^ 63 := by omega
      rw [decide_eq_false h1, decide_eq_false h2]; rfl) (fun h1 _ => ?_) (fun h1 _ => ?_) ?_
  · have h3 : (1000 : Int) * n ≤ 2 ^ 63 - 1 := by omega
    have h4 := Int.le_ediv_of_mul_le (by omega : 0 < n) h3
    omega
  · have := nl h1
    show decide (_ > PySem.sizeLine) = false
    exact decide_eq_false (by show ¬ _ > 16777216; omega)
  · unfold repS at q
    by_cases h1 : n < 1
    · rw [if_pos h1] at q ⊢
      exact ⟨by decide, .str Str.empty, H, I.tok _, ⟨_, rfl⟩, q⟩
    · rw [if_neg h1] at q ⊢
      by_cases h2 : (n == 1 || a.length == 0) = true
      · rw [if_pos h2] at q ⊢
        exact ⟨.str a, H, I, ⟨_, rfl⟩, q⟩
      · rw [if_neg h2] at q ⊢
        refine ⟨?_, .str _, H, I.tok _, ⟨_, rfl⟩, q⟩
        have e : ∀ (k : Nat) (z : Array Nat), ((List.replicate k a.cps).foldl (· ++ ·) z).size = z.size + k * a.cps.size := by
          intro k
          induction k with
          | zero => intro z; simp
          | succ k ih => intro z; rw [List.replicate_succ, List.foldl_cons, ih, Array.size_append, Nat.succ_mul]; omega
        show ((List.replicate n.toNat a.cps).foldl (· ++ ·) #[]).size ≤ 16777216
        rw [e, Nat.mul_comm]
        have := nl h1
        have z : a.cps.size = a.length := rfl
        rw [z]
        simp
        omega
theorem op2_mul : Op2 X ca (binaryOp .Mult) dMul := by
  refine ⟨_, (op_mul.or op_repT).or op_mul_str, fun W σ Hf H x y v u Q s h1 h2 m => ?_⟩
  unfold dMul at m
  split at m
  · split at m
    · rename_i hz
      rw [pInt h1, pInt h2]; exact .inl (.inl ⟨_, _, rfl, rfl, hz, m.rep s rfl⟩)
    · exact m.no.elim
  · split at m
    · rename_i hz
      rw [pStr h1, pInt h2]; exact .inr ⟨_, _, rfl, rfl, hz, m.rep s rfl⟩
    · exact m.no.elim
  · split at m
    · rename_i hz
      obtain ⟨a, vs, rfl, a1, a2⟩ := pTup s h1
      have hl := a2.length
      rw [pInt h2]
      refine .inl (.inr ⟨a, _, vs, rfl, rfl, a1, fun e => hz.1 (List.length_eq_zero_iff.mp (by rw [hl, e]; rfl)), hz.2.1, hz.2.2.1, by rw [← hl]; exact hz.2.2.2, fun p hp => m.newT s (RepL.flatten a2 _) p hp⟩)
    · exact m.no.elim
  · exact m.no.elim
theorem op2_fdiv : Op2 X ca (binaryOp .FloorDiv) dFdiv := by
  refine ⟨_, op_fdivW, fun W σ Hf H x y v u Q s h1 h2 m => ?_⟩
  unfold dFdiv at m
  split at m
  · split at m
    · rename_i hz
      rw [pInt h1, pInt h2]; exact ⟨_, _, rfl, rfl, hz, m.rep s rfl⟩
    · exact m.no.elim
  · exact m.no.elim
theorem op2_mod : Op2 X ca (binaryOp .Mod) dMod := by
  refine ⟨_, op_modN, fun W σ Hf H x y v u Q s h1 h2 m => ?_⟩
  unfold dMod at m
  split at m
  · split at m
    · rename_i hz
      rw [pInt h1, pInt h2]; exact ⟨_, _, rfl, rfl, hz, m.rep s rfl⟩
    · exact m.no.elim
  · exact m.no.elim
theorem op2_pow : Op2 X ca (binaryOp .Pow) dPow := by
  refine ⟨_, op_pow, fun W σ Hf H x y v u Q s h1 h2 m => ?_⟩
  unfold dPow at m
  split at m
  · split at m
    · rename_i hz
      rw [pInt h1, pInt h2]; exact ⟨_, _, rfl, rfl, hz, m.rep s rfl⟩
    · exact m.no.elim
  · exact m.no.elim
/-! ### comparisons -/
theorem intL_ok {K : PySem.W.Frag} {Hf : Hp} : ∀ {xs : List D} {vs : List V} {ns : List Int}, intL xs = some ns → RepL K ca Hf xs vs → vs = ns.map V.int
  | [], vs, ns, h, r => by cases h; rw [repL_nil r]; rfl
  | d :: xs, vs, ns, h, r => by
    unfold intL at h
    split at h
    · rename_i i ms q
      cases h
      obtain ⟨v, vs', e, h1, h2⟩ := repL_cons r
      have h1 : v = .int i := h1
      rw [e, h1, intL_ok q h2]
      rfl
    · cases h
theorem ltI_eq : ∀ (xs ys : List Int), ltI xs ys = HT.lexLt xs ys
  | [], [] => rfl
  | [], _ :: _ => rfl
  | _ :: _, [] => rfl
  | x :: xs, y :: ys => by rw [HT.lexLt_cons, ← ltI_eq xs ys]; rfl
theorem op2_lt (hu : X.A.units < cLine) : Op2 X ca (compareOp .Lt) dLt := by
  refine ⟨_, (op_lt.or op_lt_str).or (op_ltT hu), fun W σ Hf H x y v u Q s h1 h2 m => ?_⟩
  unfold dLt at m
  split at m
  · rw [pInt h1, pInt h2]; exact .inl (.inl ⟨_, _, rfl, rfl, m.rep s rfl⟩)
  · rw [pStr h1, pStr h2]; exact .inl (.inr ⟨_, _, rfl, rfl, m.rep s rfl⟩)
  · split at m
    · rename_i ns ms hn hm
      obtain ⟨a, vs, rfl, a1, a2⟩ := pTup s h1
      obtain ⟨c, us, rfl, b1, b2⟩ := pTup s h2
      rw [intL_ok hn a2] at a1
      rw [intL_ok hm b2] at b1
      exact .inr ⟨a, c, ns, ms, rfl, rfl, a1, b1, by rw [← ltI_eq]; exact m.rep s rfl⟩
    · exact m.no.elim
  · exact m.no.elim
theorem op2_le : Op2 X ca (compareOp .LtE) dLe := by
  refine ⟨_, op_le.or op_le_str, fun W σ Hf H x y v u Q s h1 h2 m => ?_⟩
  unfold dLe at m
  split at m
  · rw [pInt h1, pInt h2]; exact .inl ⟨_, _, rfl, rfl, m.rep s rfl⟩
  · rw [pStr h1, pStr h2]; exact .inr ⟨_, _, rfl, rfl, m.rep s rfl⟩
  · exact m.no.elim
theorem op2_gt : Op2 X ca (compareOp .Gt) dGt := by
  refine ⟨_, op_gt.or op_gt_str, fun W σ Hf H x y v u Q s h1 h2 m => ?_⟩
  unfold dGt at m
  split at m
  · rw [pInt h1, pInt h2]; exact .inl ⟨_, _, rfl, rfl, m.rep s rfl⟩
  · rw [pStr h1, pStr h2]; exact .inr ⟨_, _, rfl, rfl, m.rep s rfl⟩
  · exact m.no.elim
theorem op2_ge : Op2 X ca (compareOp .GtE) dGe := by
  refine ⟨_, op_ge.or op_ge_str, fun W σ Hf H x y v u Q s h1 h2 m => ?_⟩
  unfold dGe at m
  split at m
  · rw [pInt h1, pInt h2]; exact .inl ⟨_, _, rfl, rfl, m.rep s rfl⟩
  · rw [pStr h1, pStr h2]; exact .inr ⟨_, _, rfl, rfl, m.rep s rfl⟩
  · exact m.no.elim
end
end M
/-! MOps2: ==, in, is, subscripts, slices, built-ins. -/
namespace M
open PySem PySem.Spec PyProof.Rows L2
mutual
def toPy : D → PyData
  | .non => .none
  | .bl b => .bool b
  | .int i => .int i
  | .str x => .str x
  | .lst xs => .list (toPys xs)
  | .tup xs => .tuple (toPys xs)
  | .ty _ => .none
  | .cls _ => .none
  | .dct _ _ => .none
def toPys : List D → List PyData
  | [] => []
  | x :: xs => toPy x :: toPys xs
end
mutual
theorem eqv_toPy : ∀ (x y : D) (n m : Nat), okN n x = true → okN m y = true → PyData.eqv (toPy x) (toPy y) = eqD x y
  | .lst xs, .lst ys, n, m, h1, h2 => by
    cases n with
    | zero => cases h1
    | succ n =>
      cases m with
      | zero => cases h2
      | succ m =>
        show PyData.eqvAll (toPys xs) (toPys ys) = eqDs xs ys
        exact eqvs_toPy xs ys n m h1 h2
  | .tup xs, .tup ys, n, m, h1, h2 => by
    cases n with
    | zero => cases h1
    | succ n =>
      cases m with
      | zero => cases h2
      | succ m =>
        show PyData.eqvAll (toPys xs) (toPys ys) = eqDs xs ys
        exact eqvs_toPy xs ys n m h1 h2
  | .ty _, _, n, m, h1, h2 => by cases n <;> cases h1
  | .cls _, _, n, m, h1, h2 => by cases n <;> cases h1
  | .dct _ _, _, n, m, h1, h2 => by cases n <;> cases h1
  | _, .dct _ _, n, m, h1, h2 => by cases m <;> cases h2
  | _, .ty _, n, m, h1, h2 => by cases m <;> cases h2
  | _, .cls _, n, m, h1, h2 => by cases m <;> cases h2
  | .non, .non, _, _, _, _ => rfl
  | .non, .bl _, _, _, _, _ => rfl
  | .non, .int _, _, _, _, _ => rfl
  | .non, .str _, _, _, _, _ => rfl
  | .non, .lst _, _, _, _, _ => rfl
  | .non, .tup _, _, _, _, _ => rfl
  | .bl _, .non, _, _, _, _ => rfl
  | .bl _, .bl _, _, _, _, _ => rfl
  | .bl _, .int _, _, _, _, _ => rfl
  | .bl _, .str _, _, _, _, _ => rfl
  | .bl _, .lst _, _, _, _, _ => rfl
  | .bl _, .tup _, _, _, _, _ => rfl
  | .int _, .non, _, _, _, _ => rfl
  | .int _, .bl _, _, _, _, _ => rfl
  | .int _, .int _, _, _, _, _ => rfl
  | .int _, .str _, _, _, _, _ => rfl
  | .int _, .lst _, _, _, _, _ => rfl
  | .int _, .tup _, _, _, _, _ => rfl
  | .str _, .non, _, _, _, _ => rfl
  | .str _, .bl _, _, _, _, _ => rfl
  | .str _, .int _, _, _, _, _ => rfl
  | .str _, .str _, _, _, _, _ => rfl
  | .str _, .lst _, _, _, _, _ => rfl
  | .str _, .tup _, _, _, _, _ => rfl
  | .lst _, .non, _, _, _, _ => rfl
  | .lst _, .bl _, _, _, _, _ => rfl
  | .lst _, .int _, _, _, _, _ => rfl
  | .lst _, .str _, _, _, _, _ => rfl
  | .lst _, .tup _, _, _, _, _ => rfl
  | .tup _, .non, _, _, _, _ => rfl
  | .tup _, .bl _, _, _, _, _ => rfl
  | .tup _, .int _, _, _, _, _ => rfl
  | .tup _, .str _, _, _, _, _ => rfl
  | .tup _, .lst _, _, _, _, _ => rfl
theorem eqvs_toPy : ∀ (xs ys : List D) (n m : Nat), okNs n xs = true → okNs m ys = true → PyData.eqvAll (toPys xs) (toPys ys) = eqDs xs ys
  | [], [], _, _, _, _ => rfl
  | [], _ :: _, _, _, _, _ => rfl
  | _ :: _, [], _, _, _, _ => rfl
  | x :: xs, y :: ys, n, m, h1, h2 => by
    unfold okNs at h1 h2
    rw [Bool.and_eq_true] at h1 h2
    show (PyData.eqv (toPy x) (toPy y) && PyData.eqvAll (toPys xs) (toPys ys)) = (eqD x y && eqDs xs ys)
    rw [eqv_toPy x y n m h1.1 h2.1, eqvs_toPy xs ys n m h1.2 h2.2]
end
mutual
theorem lay_toPy : ∀ (x : D) (n : Nat), okN n x = true → (toPy x).canLay0 = true ∧ (toPy x).depth ≤ n
  | .lst xs, n, h1 => by
    cases n with
    | zero => cases h1
    | succ n =>
      obtain ⟨a, b⟩ := lays_toPy xs n h1
      exact ⟨a, Nat.succ_le_succ b⟩
  | .tup xs, n, h1 => by
    cases n with
    | zero => cases h1
    | succ n =>
      obtain ⟨a, b⟩ := lays_toPy xs n h1
      exact ⟨a, Nat.succ_le_succ b⟩
  | .ty _, n, h1 => by cases n <;> cases h1
  | .cls _, n, h1 => by cases n <;> cases h1
  | .non, n, h => ⟨rfl, Nat.zero_le _⟩
  | .bl _, n, h => ⟨rfl, Nat.zero_le _⟩
  | .int _, n, h => ⟨rfl, Nat.zero_le _⟩
  | .str x, n, h => ⟨by cases n <;> exact h, Nat.zero_le _⟩
theorem lays_toPy : ∀ (xs : List D) (n : Nat), okNs n xs = true → PyData.canLayAll0 (toPys xs) = true ∧ PyData.depthAll (toPys xs) ≤ n
  | [], n, h => ⟨rfl, Nat.zero_le _⟩
  | x :: xs, n, h1 => by
    unfold okNs at h1
    rw [Bool.and_eq_true] at h1
    obtain ⟨a, b⟩ := lay_toPy x n h1.1
    obtain ⟨c, d⟩ := lays_toPy xs n h1.2
    exact ⟨Bool.and_eq_true_iff.mpr ⟨a, c⟩, Nat.max_le.mpr ⟨b, d⟩⟩
end
theorem shaped_toPy {x : D} (h : okD x = true) : SeqAt.shaped (toPy x) = true := by
  obtain ⟨a, b⟩ := lay_toPy x 64 h
  exact Bool.and_eq_true_iff.mpr ⟨a, decide_eq_true b⟩
section
variable {K : PySem.W.Frag} {ca : Nat → Addr} {Hf H : Hp}
mutual
theorem dp_of : ∀ (x : D) (v : V) (n : Nat), okN n x = true → Rep K ca H x v → Dp K H v (toPy x)
  | .lst xs, v, n, h1, r => by
    cases n with
    | zero => cases h1
    | succ n =>
      unfold Rep at r
      obtain ⟨a, vs, e, r1, r2⟩ := r
      subst e
      exact .lst r1 (dps_of xs vs n h1 r2)
  | .tup xs, v, n, h1, r => by
    cases n with
    | zero => cases h1
    | succ n =>
      unfold Rep at r
      obtain ⟨a, vs, e, r1, r2⟩ := r
      subst e
      exact .tup r1 (dps_of xs vs n h1 r2)
  | .ty _, v, n, h1, r => by cases n <;> cases h1
  | .cls _, v, n, h1, r => by cases n <;> cases h1
  | .non, v, n, h, r => by have r : v = .non := r; subst r; exact .non
  | .bl b, v, n, h, r => by have r : v = .bl b := r; subst r; exact .bl b
  | .int b, v, n, h, r => by have r : v = .int b := r; subst r; exact .int b
  | .str b, v, n, h, r => by have r : v = .str b := r; subst r; exact .str b
theorem dps_of : ∀ (xs : List D) (vs : List V) (n : Nat), okNs n xs = true → RepL K ca H xs vs → DpAll K H vs (toPys xs)
  | [], vs, n, h, r => by rw [repL_nil r]; exact .nil
  | x :: xs, vs, n, h1, r => by
    unfold okNs at h1
    rw [Bool.and_eq_true] at h1
    obtain ⟨v, vs', e, r1, r2⟩ := repL_cons r
    subst e
    exact .cons (dp_of x v n h1.1 r1) (dps_of xs vs' n h1.2 r2)
end
/-! ### flat things -/
theorem flat_of {d : D} {v : V} (f : flatD d = true) (r : Rep K ca H d v) : flatV v = true := by
  cases d <;> first | cases f | skip
  all_goals (have r := r; unfold Rep at r; subst r; rfl)
theorem eqV_of {x y : D} {u v : V} (fx : flatD x = true) (fy : flatD y = true) (r1 : Rep K ca H x u) (r2 : Rep K ca H y v) : eqV u v = eqD x y := by
  cases x <;> first | cases fx | skip
  all_goals (cases y <;> first | cases fy | skip)
  all_goals (unfold Rep at r1 r2; subst r1; subst r2; rfl)
theorem flats_of : ∀ {xs : List D} {vs : List V}, xs.all flatD = true → RepL K ca H xs vs → vs.all flatV = true
  | [], vs, _, r => by rw [repL_nil r]; rfl
  | x :: xs, vs, f, r => by
    obtain ⟨v, vs', e, r1, r2⟩ := repL_cons r
    subst e
    rw [List.all_cons, Bool.and_eq_true] at f ⊢
    exact ⟨flat_of f.1 r1, flats_of f.2 r2⟩
theorem inV_of {x : D} {u : V} (fx : flatD x = true) (rx : Rep K ca H x u) : ∀ {xs : List D} {vs : List V}, xs.all flatD = true → RepL K ca H xs vs → inV u vs = inD x xs
  | [], vs, _, r => by rw [repL_nil r]; rfl
  | y :: xs, vs, f, r => by
    obtain ⟨v, vs', e, r1, r2⟩ := repL_cons r
    subst e
    rw [List.all_cons, Bool.and_eq_true] at f
    show (eqV v u || inV u vs') = (eqD y x || inD x xs)
    rw [eqV_of f.1 fx r1 rx, inV_of fx rx f.2 r2]
end
section
variable {X : Cx} {ca : Nat → Addr}
theorem op2_eq (hu : X.A.units + 80 < cLine) : Op2 X ca (compareOp .Eq) dEq := by
  refine ⟨_, op_eqD (by omega), fun W σ Hf H x y v u Q s h1 h2 m => ?_⟩
  unfold dEq at m
  split at m
  · rename_i ok
    exact ⟨_, _, dp_of x v 64 ok.1 (h1.rep s), dp_of y u 64 ok.2 (h2.rep s), shaped_toPy ok.1, shaped_toPy ok.2, by rw [eqv_toPy x y 64 64 ok.1 ok.2]; exact m.rep s rfl⟩
  · exact m.no.elim
theorem op2_ne (hu : X.A.units + 80 < cLine) : Op2 X ca (compareOp .NotEq) dNe := by
  refine ⟨_, op_neD (by omega), fun W σ Hf H x y v u Q s h1 h2 m => ?_⟩
  unfold dNe at m
  split at m
  · rename_i ok
    exact ⟨_, _, dp_of x v 64 ok.1 (h1.rep s), dp_of y u 64 ok.2 (h2.rep s), shaped_toPy ok.1, shaped_toPy ok.2, by rw [eqv_toPy x y 64 64 ok.1 ok.2]; exact m.rep s rfl⟩
  · exact m.no.elim
/-! ### dicts -/
theorem keyD_eq (a b : L2.Key) : eqD (keyD a) (keyD b) = decide (a = b) := by
  cases a with
  | inl i =>
    cases b with
    | inl j => show (i == j) = _; by_cases h : i = j <;> simp [h]
    | inr y => show false = _; simp
  | inr x =>
    cases b with
    | inl j => show false = _; simp
    | inr y => show (x == y) = _; by_cases h : x = y <;> simp [h]
theorem keyOk_is {k : D} (h : keyOk k = true) : ∃ a : L2.Key, k = keyD a := by
  cases k with
  | int i => exact ⟨.inl i, rfl⟩
  | str x => exact ⟨.inr x, rfl⟩
  | _ => cases h
theorem key_v {K : PySem.W.Frag} {H : Hp} {a : L2.Key} {v : V} (h : Rep K ca H (keyD a) v) : v = L2.kV a := by
  cases a with
  | inl i => exact h
  | inr x => exact h
theorem key_p {K : PySem.W.Frag} {Hf H : Hp} {a : L2.Key} {v : V} (h : PRep K ca Hf H (keyD a) v) : v = L2.kV a := by
  cases a with
  | inl i => exact h
  | inr x => exact h
theorem get_rep {K : PySem.W.Frag} {H : Hp} (a : L2.Key) : ∀ {kvs : List (L2.Key × V)} {vs : List D}, RepL K ca H vs (kvs.map (·.2)) →
    (∀ d, getV (kvs.map fun p => keyD p.1) vs (keyD a) = some d → ∃ v, valV kvs a = some v ∧ Rep K ca H d v) ∧ (getV (kvs.map fun p => keyD p.1) vs (keyD a)).isSome = (valV kvs a).isSome
  | [], vs, _ => ⟨fun d h => (by cases vs <;> cases h), (by cases vs <;> rfl)⟩
  | p :: kvs, vs, h => by
    cases vs with
    | nil => unfold RepL at h; cases h
    | cons x vs =>
      unfold RepL at h
      obtain ⟨v, r, e, h1, h2⟩ := h
      rw [List.map_cons] at e
      injection e with e1 e2
      subst e1; subst e2
      obtain ⟨i1, i2⟩ := get_rep a h2
      rw [List.map_cons, getV, keyD_eq]
      by_cases q : p.1 = a
      · rw [valV_pos q]
        simp only [q, decide_true, if_true]
        exact ⟨fun d hd => by cases hd; exact ⟨_, rfl, h1⟩, rfl⟩
      · rw [valV_neg q]
        simp only [q, decide_false, Bool.false_eq_true, if_false]
        exact ⟨i1, i2⟩
theorem has_any (a : L2.Key) (kvs : List (L2.Key × V)) : hasK (kvs.map fun p => keyD p.1) (keyD a) = kvs.any fun p => decide (p.1 = a) := by
  unfold hasK
  rw [List.any_map]
  congr 1
  funext p
  exact keyD_eq _ _
theorem put_ks (a : L2.Key) (v : V) (kvs : List (L2.Key × V)) : putKs (kvs.map fun p => keyD p.1) (keyD a) = (putK kvs a v).map fun p => keyD p.1 := by
  unfold putKs putK
  rw [has_any]
  by_cases h : (kvs.any fun p => decide (p.1 = a)) = true
  · rw [if_pos h, if_pos h, List.map_map]
    refine List.map_congr_left fun p _ => ?_
    show keyD p.1 = keyD (if p.1 = a then (p.1, v) else p).1
    split <;> rfl
  · rw [if_neg h, if_neg h, List.map_append]; rfl
theorem set_rep {K : PySem.W.Frag} {H : Hp} (a : L2.Key) {d : D} {v : V} (rd : Rep K ca H d v) : ∀ {kvs : List (L2.Key × V)} {vs : List D}, RepL K ca H vs (kvs.map (·.2)) →
    RepL K ca H (setV (kvs.map fun p => keyD p.1) vs (keyD a) d) ((kvs.map fun p => if p.1 = a then (p.1, v) else p).map (·.2))
  | [], vs, h => by show RepL K ca H [] []; unfold RepL; rfl
  | p :: kvs, vs, h => by
    cases vs with
    | nil => unfold RepL at h; cases h
    | cons x vs =>
      unfold RepL at h
      obtain ⟨w, r, e, h1, h2⟩ := h
      rw [List.map_cons] at e
      injection e with e1 e2
      subst e1; subst e2
      rw [List.map_cons, List.map_cons, List.map_cons, setV, keyD_eq]
      unfold RepL
      refine ⟨_, _, rfl, ?_, set_rep a rd h2⟩
      by_cases q : p.1 = a
      · simp only [q, decide_true, if_true]; exact rd
      · simp only [q, decide_false, Bool.false_eq_true, if_false]; exact h1
theorem put_rep {K : PySem.W.Frag} {H : Hp} (a : L2.Key) {d : D} {v : V} (rd : Rep K ca H d v) {kvs : List (L2.Key × V)} {vs : List D} (h : RepL K ca H vs (kvs.map (·.2))) :
    RepL K ca H (putVs (kvs.map fun p => keyD p.1) vs (keyD a) d) ((putK kvs a v).map (·.2)) := by
  unfold putVs putK
  rw [has_any]
  by_cases q : (kvs.any fun p => decide (p.1 = a)) = true
  · rw [if_pos q, if_pos q]; exact set_rep a rd h
  · rw [if_neg q, if_neg q, List.map_append]; exact RepL.append h (RepL.one rd)
theorem drop_ks (a : L2.Key) (kvs : List (L2.Key × V)) : dropKs (kvs.map fun p => keyD p.1) (keyD a) = (dropK kvs a).map fun p => keyD p.1 := by
  unfold dropKs dropK
  rw [List.filter_map]
  congr 1
  refine List.filter_congr fun p _ => ?_
  show (!eqD (keyD p.1) (keyD a)) = _
  rw [keyD_eq]
  simp
theorem drop_rep {K : PySem.W.Frag} {H : Hp} (a : L2.Key) : ∀ {kvs : List (L2.Key × V)} {vs : List D}, RepL K ca H vs (kvs.map (·.2)) →
    RepL K ca H (dropVs (kvs.map fun p => keyD p.1) vs (keyD a)) ((dropK kvs a).map (·.2))
  | [], vs, h => by show RepL K ca H [] []; unfold RepL; rfl
  | p :: kvs, vs, h => by
    cases vs with
    | nil => unfold RepL at h; cases h
    | cons x vs =>
      unfold RepL at h
      obtain ⟨w, r, e, h1, h2⟩ := h
      rw [List.map_cons] at e
      injection e with e1 e2
      subst e1; subst e2
      have ih := drop_rep a h2
      rw [List.map_cons, dropVs, keyD_eq]
      unfold dropK at ih ⊢
      rw [List.filter_cons]
      by_cases q : p.1 = a
      · simp only [q, ne_eq, not_true_eq_false, decide_false, decide_true, Bool.false_eq_true, if_true, if_false]; exact ih
      · simp only [q, ne_eq, not_false_eq_true, decide_false, decide_true, Bool.false_eq_true, if_true, if_false]
        rw [List.map_cons]
        unfold RepL
        exact ⟨_, _, rfl, h1, ih⟩
theorem pDct {K : PySem.W.Frag} {Hf H : Hp} {ks vs : List D} {v : V} (h : PRep K ca Hf H (.dct ks vs) v) : ∃ a kvs, v = .ref a ∧ H a = some (.dK kvs) ∧ ks = kvs.map (fun p => keyD p.1) ∧ RepL K ca Hf vs (kvs.map (·.2)) := by
  obtain ⟨a, us, e, ⟨kvs, h1, h2, h3⟩, h4⟩ := h
  subst h3
  exact ⟨a, kvs, e, h1, h2, h4⟩
theorem op_din (hu : X.A.units + 80 < cLine) : OpR X (compareOp .In) (fun y x H Q => ∃ a o, x = .ref a ∧ DGet H a y o ∧ Q (.bl o.isSome) H) := by
  intro pins s σ H y x v u Q I ry rx h
  obtain ⟨a, o, rfl, g, q⟩ := h
  obtain rfl : u = Value.ref a := rx
  exact d_in (by omega) I g ry fun s3 I3 => ⟨.bl o.isSome, H, I3, rfl, q⟩
theorem op_dnotin (hu : X.A.units + 80 < cLine) : OpR X (compareOp .NotIn) (fun y x H Q => ∃ a o, x = .ref a ∧ DGet H a y o ∧ Q (.bl (!o.isSome)) H) := by
  intro pins s σ H y x v u Q I ry rx h
  obtain ⟨a, o, rfl, g, q⟩ := h
  obtain rfl : u = Value.ref a := rx
  exact d_notIn (by omega) I g ry fun s3 I3 => ⟨.bl (!o.isSome), H, I3, rfl, q⟩
theorem okNs_mem {n : Nat} : ∀ {xs : List D} {z : D}, okNs n xs = true → z ∈ xs → okN n z = true
  | x :: xs, z, h, hz => by
    unfold okNs at h
    rw [Bool.and_eq_true] at h
    rcases List.mem_cons.mp hz with e | e
    · subst e; exact h.1
    · exact okNs_mem h.2 e
theorem any_toPy {x : D} {n m : Nat} (hx : okN n x = true) : ∀ {xs : List D}, okNs m xs = true → (toPys xs).any (fun z => PyData.eqv z (toPy x)) = inD x xs
  | [], _ => rfl
  | y :: ys, h => by
    unfold okNs at h
    rw [Bool.and_eq_true] at h
    show (PyData.eqv (toPy y) (toPy x) || (toPys ys).any _) = (eqD y x || inD x ys)
    rw [eqv_toPy y x m n h.1 hx, any_toPy hx h.2]
theorem deep_in {K : PySem.W.Frag} {ca : Nat → Addr} {Hf H : Hp} {x : D} {xs : List D} {v u : V} (s : Same Hf H) (h1 : PRep K ca Hf H x v) (h2 : PRep K ca Hf H (.lst xs) u) (o1 : okD x = true) (o2 : okD (.lst xs) = true) :
    Dp K H v (toPy x) ∧ Dp K H u (.list (toPys xs)) ∧ SeqAt.shaped (toPy x) = true ∧ SeqAt.shaped (.list (toPys xs)) = true ∧ (toPys xs).any (fun z => PyData.eqv z (toPy x)) = inD x xs :=
  ⟨dp_of x v 64 o1 (h1.rep s), dp_of (.lst xs) u 64 o2 (h2.rep s), shaped_toPy o1, shaped_toPy (x := .lst xs) o2, any_toPy (n := 64) (m := 63) o1 o2⟩
theorem op2_in (hu : X.A.units + 80 < cLine) : Op2 X ca (compareOp .In) dIn := by
  refine ⟨_, ((op_in_seq.or op_in_sign).or (op_din (by omega))).or (op_inD (by omega)), fun W σ Hf H x y v u Q s h1 h2 m => ?_⟩
  unfold dIn at m
  split at m
  · split at m
    · rename_i hk
      obtain ⟨k, rfl⟩ := keyOk_is hk
      obtain ⟨a, kvs, rfl, a1, rfl, a3⟩ := pDct h2
      rw [key_p h1]
      refine .inl (.inr ⟨a, _, rfl, DGet.k a1, ?_⟩)
      have e := (get_rep k a3).2
      rw [← e]
      exact m.rep s rfl
    · exact m.no.elim
  · unfold signIn at m
    rename_i a z
    obtain ⟨⟨cs⟩⟩ := a
    rcases cs with _ | ⟨c, _ | ⟨c2, r⟩⟩
    · exact m.no.elim
    · rw [pStr h1, pStr h2]; exact .inl (.inl (.inr ⟨c, z, rfl, rfl, m.rep s rfl⟩))
    · exact m.no.elim
  · split at m
    · rename_i f
      obtain ⟨b, us, rfl, b1, b2⟩ := pLst h2
      have b3 := RepL.mono s _ _ b2
      refine .inl (.inl (.inl ⟨b, us, rfl, .inl b1, flat_of f.1 (h1.rep s), flats_of f.2 b3, ?_⟩))
      have e := inV_of f.1 (h1.rep s) f.2 b3
      simp only [Bool.false_eq_true, if_false, e]
      exact m.rep s rfl
    · split at m
      · rename_i _ f
        obtain ⟨d1, d2, d3, d4, d5⟩ := deep_in s h1 h2 f.1 f.2
        refine .inr ⟨_, _, d1, d2, d3, d4, ?_⟩
        rw [d5]
        exact m.rep s rfl
      · exact m.no.elim
  · split at m
    · rename_i f
      obtain ⟨b, us, rfl, b1, b2⟩ := pTup s h2
      have b3 := RepL.mono s _ _ b2
      refine .inl (.inl (.inl ⟨b, us, rfl, .inr b1, flat_of f.1 (h1.rep s), flats_of f.2 b3, ?_⟩))
      have e := inV_of f.1 (h1.rep s) f.2 b3
      simp only [Bool.false_eq_true, if_false, e]
      exact m.rep s rfl
    · exact m.no.elim
  · exact m.no.elim
theorem op2_notIn (hu : X.A.units + 80 < cLine) : Op2 X ca (compareOp .NotIn) dNotIn := by
  refine ⟨_, ((op_notIn_seq.or op_notIn_sign).or (op_dnotin (by omega))).or (op_notInD (by omega)), fun W σ Hf H x y v u Q s h1 h2 m => ?_⟩
  unfold dNotIn at m
  split at m
  · split at m
    · rename_i hk
      obtain ⟨k, rfl⟩ := keyOk_is hk
      obtain ⟨a, kvs, rfl, a1, rfl, a3⟩ := pDct h2
      rw [key_p h1]
      refine .inl (.inr ⟨a, _, rfl, DGet.k a1, ?_⟩)
      have e := (get_rep k a3).2
      rw [← e]
      exact m.rep s rfl
    · exact m.no.elim
  · unfold signIn at m
    rename_i a z
    obtain ⟨⟨cs⟩⟩ := a
    rcases cs with _ | ⟨c, _ | ⟨c2, r⟩⟩
    · exact m.no.elim
    · rw [pStr h1, pStr h2]; exact .inl (.inl (.inr ⟨c, z, rfl, rfl, m.rep s rfl⟩))
    · exact m.no.elim
  · split at m
    · rename_i f
      obtain ⟨b, us, rfl, b1, b2⟩ := pLst h2
      have b3 := RepL.mono s _ _ b2
      refine .inl (.inl (.inl ⟨b, us, rfl, .inl b1, flat_of f.1 (h1.rep s), flats_of f.2 b3, ?_⟩))
      have e := inV_of f.1 (h1.rep s) f.2 b3
      simp only [if_true, e]
      exact m.rep s rfl
    · split at m
      · rename_i _ f
        obtain ⟨d1, d2, d3, d4, d5⟩ := deep_in s h1 h2 f.1 f.2
        refine .inr ⟨_, _, d1, d2, d3, d4, ?_⟩
        rw [d5]
        exact m.rep s rfl
      · exact m.no.elim
  · split at m
    · rename_i f
      obtain ⟨b, us, rfl, b1, b2⟩ := pTup s h2
      have b3 := RepL.mono s _ _ b2
      refine .inl (.inl (.inl ⟨b, us, rfl, .inr b1, flat_of f.1 (h1.rep s), flats_of f.2 b3, ?_⟩))
      have e := inV_of f.1 (h1.rep s) f.2 b3
      simp only [if_true, e]
      exact m.rep s rfl
    · exact m.no.elim
  · exact m.no.elim
theorem isNon_of {K : PySem.W.Frag} {H : Hp} {x : D} {v : V} (r : Rep K ca H x v) : decide (v = .non) = isNon x := by
  cases x with
  | non => have r : v = .non := r; subst r; rfl
  | bl b => have r : v = .bl b := r; subst r; rfl
  | int b => have r : v = .int b := r; subst r; rfl
  | str b => have r : v = .str b := r; subst r; rfl
  | ty b => have r : v = .ty b := r; subst r; rfl
  | cls b => have r : v = .ref _ := r; subst r; rfl
  | dct ks vs => unfold Rep at r; obtain ⟨a, vs, rfl, _⟩ := r; rfl
  | tup xs => unfold Rep at r; obtain ⟨a, vs, rfl, _⟩ := r; rfl
  | lst xs => unfold Rep at r; obtain ⟨a, vs, rfl, _⟩ := r; rfl
theorem op2_is : Op2 X ca (compareOp .Is) dIs := by
  refine ⟨_, op_isN.or op_isBl, fun W σ Hf H x y v u Q s h1 h2 m => ?_⟩
  unfold dIs at m
  split at m
  · exact .inl ⟨pNon h2, by rw [isNon_of (h1.rep s)]; exact m.rep s rfl⟩
  · exact .inr ⟨_, _, pBl h1, pBl h2, m.rep s rfl⟩
  · exact m.no.elim
theorem op2_isNot : Op2 X ca (compareOp .IsNot) dIsNot := by
  refine ⟨_, op_notN.or op_notBl, fun W σ Hf H x y v u Q s h1 h2 m => ?_⟩
  unfold dIsNot at m
  split at m
  · exact .inl ⟨pNon h2, by rw [isNon_of (h1.rep s)]; exact m.rep s rfl⟩
  · exact .inr ⟨_, _, pBl h1, pBl h2, m.rep s rfl⟩
  · exact m.no.elim
/-! ### subscripts -/
theorem ixN_eq (n : Nat) (i : Int) : M.ixN n i = L2.ixN n i := rfl
def rIxD : R2 := fun x y H Q => ∃ a v, x = .ref a ∧ DGet H a y (some v) ∧ Q v H
theorem ix_dict (hu : X.A.units + 80 < cLine) : IxR X rIxD := by
  intro value slice pins s σ H x y v u Q I rx ry h hs
  obtain ⟨a, w, rfl, g, q⟩ := h
  obtain rfl : v = Value.ref a := rx
  have hT := dict_typeIs I g
  have h2 : wpAny (model X.prog X.w) X.A (getItem (.ref a) u) (EP X pins σ Q) X.xe s := d_getItem (by omega) I g ry fun w' s3 I3 rw' => ⟨w, H, I3, rw', q⟩
  unfold subscriptTail
  refine wpAny_bind ?_
  rw [getitemInPython_of_ne hT.not_modules]
  refine wpAny_bind (wpAny_specialOf hT PySem.F.slot_dict_getitem.lookup ?_)
  have fin : wpAny (model X.prog X.w) X.A (subscripted slice false (.ref a) u) (fun r s3 => wpAny (model X.prog X.w) X.A (letTemporaryGo value (.ref a) r >>= fun _ => pure r) (EP X pins σ Q) X.xe s3) X.xe s := by
    rw [hs]
    exact wpAny_operating (wpAny_mono h2 (fun r s3 h3 => wpAny_bind (wpAny_letTemporaryGo (wpAny_pure h3))) fun _ _ x => x)
  first
    | exact wpAny_pure (wpAny_bind fin)
    | exact wpAny_bind (wpAny_pure (wpAny_bind fin))
    | exact wpAny_bind fin
theorem me_ix {j : Jc} {a b : Expr} {pos : Pos} {ce cf : CE} (hu : X.A.units + 80 < cLine) (ha : MP X j a ce) (hb : MP X j b cf) (hs : PlainIx b) : ME X j (.Subscript a b pos) (eOp2 dIx ce cf) := by
  refine PE.imp (pe_ix ((ix_dict hu).or ix_seq) ha hb hs) fun σ H Q ⟨G, Hf, env, rr, m⟩ => ⟨G, Hf, env, rr, m.bind.imp fun x Hf1 H1 _ p1 m1 v rv => ⟨G, Hf1, env, rr.grow p1, m1.bind.imp fun y Hf2 H2 _ p2 m2 u ru => ?_⟩⟩
  have rv := rv.grow p2
  unfold dIx at m2
  split at m2
  · split at m2
    · rename_i hk
      obtain ⟨k, rfl⟩ := keyOk_is hk
      split at m2
      · rename_i d hd
        obtain ⟨p, kvs, rfl, a1, rfl, a3⟩ := pDct rv
        obtain ⟨w, w1, w2⟩ := (get_rep k a3).1 d hd
        rw [key_p ru]
        refine .inl ⟨p, w, rfl, ?_, m2.rep p2.sub w2⟩
        rw [← w1]
        exact DGet.k a1
      · exact m2.no.elim
    · exact m2.no.elim
  · split at m2
    · rename_i k hk
      split at m2
      · rename_i d hd
        obtain ⟨p, vs, rfl, a1, a2⟩ := pLst rv
        obtain ⟨w, w1, w2⟩ := RepL.get a2 hd
        refine .inr (.inl ⟨p, vs, _, w, rfl, pInt ru, a1, ?_, m2.rep p2.sub w2⟩)
        unfold atI
        rw [← ixN_eq, ← a2.length, hk]
        exact w1
      · exact m2.no.elim
    · exact m2.no.elim
  · split at m2
    · rename_i k hk
      split at m2
      · rename_i d hd
        obtain ⟨p, vs, rfl, a1, a2⟩ := pTup p2.sub rv
        obtain ⟨w, w1, w2⟩ := RepL.get a2 hd
        refine .inr (.inr (.inl ⟨p, vs, _, w, rfl, pInt ru, a1, ?_, m2.rep p2.sub w2⟩))
        unfold atI
        rw [← ixN_eq, ← a2.length, hk]
        exact w1
      · exact m2.no.elim
    · exact m2.no.elim
  · split at m2
    · rename_i hz
      split at m2
      · rename_i k hk
        split at m2
        · rename_i c hc
          refine .inr (.inr (.inr ⟨_, _, c, pStr rv, pInt ru, by rw [← line_eq]; exact hz, ?_, m2.rep p2.sub rfl⟩))
          unfold atI
          rw [← ixN_eq, hk]
          exact hc
        · exact m2.no.elim
      · exact m2.no.elim
    · exact m2.no.elim
  · exact m2.no.elim
end
end M
/-! MOps3: slices, built-ins. -/
namespace M
open PySem PySem.Spec PyProof.Rows L2
section
variable {X : Cx} {j : Jc} {a b e : Expr} {lo hi : Option Expr} {pos p2 : Pos} {ce cf : CE} {cl ch : CO}
def tMO (K : PySem.W.Frag) (j : Jc) (c : CO) : TO := fun σ H Q => ∃ G Hf env, RR K j.ca j.ea G Hf env σ H ∧ OutP K j.ca j.W σ Hf H (c env) fun o Hf' H' => Q o H'
def MO (X : Cx) (j : Jc) (e : Option Expr) (c : CO) : Prop := PO X e (tMO X.K j c)
theorem PO.imp {e : Option Expr} {t t' : TO} (h : PO X e t) (i : ∀ σ H Q, t' σ H Q → t σ H Q) : PO X e t' := ⟨fun pins s σ H Q I q => h.run pins s σ H Q I (i _ _ _ q)⟩
theorem mo_no : MO X j none oNo := PO.imp po_none fun σ H Q ⟨G, Hf, env, r, m⟩ => OutP.ok m r.sub
theorem mo_some (h : ME X j e ce) : MO X j (some e) (oSome ce) := by
  refine PO.imp (po_some h) fun σ H Q ⟨G, Hf, env, r, m⟩ => ⟨G, Hf, env, r, m.bind.imp fun x Hf1 H1 _ p1 m1 v rv => ?_⟩
  cases x with
  | int i => exact ⟨i, rv, OutP.ok m1 p1.sub⟩
  | _ => exact (OutP.no m1).elim
theorem sIx_eq (n d : Nat) (o : Option Int) : M.sIx n d o = HT.sIx n d o := by cases o <;> rfl
theorem cut_rep {K : PySem.W.Frag} {ca : Nat → Addr} {H : Hp} {xs : List D} {vs : List V} (r : RepL K ca H xs vs) (lo hi : Option Int) : RepL K ca H (cutL xs lo hi) (cutV vs lo hi) := by
  unfold cutL cutV
  rw [← r.length, sIx_eq, sIx_eq]
  exact RepL.take _ (RepL.drop _ r)
theorem cut_all {α : Type} {xs : List α} {lo hi : Option Int} (h1 : HT.sIx xs.length 0 lo = 0) (h2 : HT.sIx xs.length xs.length hi = xs.length) : cutL xs lo hi = xs := by
  unfold cutL
  rw [sIx_eq, sIx_eq, h1, h2, List.drop_zero, Nat.sub_zero, List.take_length]
theorem cutS_eq (z : Str) (l h : Option Int) : cutS z l h = ⟨(cutL z.cps.toList l h).toArray⟩ := by
  unfold cutS cutL
  simp only [sIx_eq]
  rfl
theorem me_sl (he : MP X j e ce) (hl : MO X j lo cl) (hu : MO X j hi ch) : ME X j (.Subscript e (.Slice lo hi none p2) pos) (eSl ce cl ch) := by
  refine PE.imp (pe_slice ((sl_list.or sl_tupA).or sl_str) he hl hu) fun σ H Q ⟨G, Hf, env, rr, m⟩ => ⟨G, Hf, env, rr, m.bind.imp fun x Hf1 H1 _ p1 m1 v rv => ⟨G, Hf1, env, rr.grow p1, m1.bind.imp fun l Hf2 H2 _ p2 m2 => ⟨G, Hf2, env, (rr.grow p1).grow p2, m2.bind.imp fun h Hf3 H3 _ p3 m3 => ?_⟩⟩⟩
  have rv := (rv.grow p2).grow p3
  unfold dSl at m3
  split at m3
  · obtain ⟨p, vs, rfl, a1, a2⟩ := pLst rv
    exact .inl (.inl ⟨p, vs, rfl, a1, fun q hq => m3.newL p3.sub (cut_rep a2 l h) q hq⟩)
  · obtain ⟨p, vs, rfl, a1, a2⟩ := pTup p3.sub rv
    refine .inl (.inr ⟨p, vs, rfl, a1, fun hw => ?_, fun _ q hq => m3.newT p3.sub (cut_rep a2 l h) q hq⟩)
    rw [cut_all (by rw [a2.length]; exact hw.1) (by rw [a2.length]; exact hw.2)] at m3
    exact m3.rep p3.sub rv
  · split at m3
    · rename_i hz
      refine .inr ⟨_, pStr rv, by rw [← line_eq]; exact hz, ?_⟩
      rw [cutS_eq]
      exact m3.rep p3.sub rfl
    · exact m3.no.elim
  · exact m3.no.elim
theorem mf_sl (he : MP X j e ce) (hl : MO X j lo cl) (hu : MO X j hi ch) : MF X j (.Subscript e (.Slice lo hi none p2) pos) (fSl ce cl ch) := by
  refine PE.imp (pe_slice sl_list he hl hu) fun σ H Q ⟨G, Hf, env, rr, m⟩ => ⟨G, Hf, env, rr, m.bind.imp fun x Hf1 H1 _ p1 m1 v rv => ⟨G, Hf1, env, rr.grow p1, m1.bind.imp fun l Hf2 H2 _ p2 m2 => ⟨G, Hf2, env, (rr.grow p1).grow p2, m2.bind.imp fun h Hf3 H3 _ p3 m3 => ?_⟩⟩⟩
  have rv := (rv.grow p2).grow p3
  unfold lSl at m3
  split at m3
  · obtain ⟨p, vs, rfl, a1, a2⟩ := pLst rv
    refine ⟨p, vs, rfl, a1, fun q hq => ?_⟩
    exact m3 _ _ (post_own p3.sub hq) _ (own_step ((p1.trans p2).trans p3) hq (cut_rep a2 l h))
  · exact m3.no.elim
theorem me_neg (ha : ME X j a ce) : ME X j (.UnaryOp .USub a pos) (eOp1 dNeg ce) := by
  refine PE.imp (pe_un un_neg ha) fun σ H Q ⟨G, Hf, env, r, m⟩ => ⟨G, Hf, env, r, m.bind.imp fun x Hf1 H1 _ p1 m1 v rv => ?_⟩
  cases x with
  | int i => exact ⟨i, rv, m1.rep p1.sub rfl⟩
  | _ => exact (OutP.no m1).elim
/-- a op b that makes a new list -/
def OF (X : Cx) (ca : Nat → Addr) (f : Value → Value → Sem Value) (g : D → D → Out (List D)) : Prop := ∃ r : R2, OpR X f r ∧
  ∀ (W : WX) (σ : L2.St) (Hf H : Hp) (x y : D) (v u : V) (Q : VK), Same Hf H → PRep X.K ca Hf H x v → PRep X.K ca Hf H y u → OutP X.K ca W σ Hf H (g x y) (fun ys Hf' H' => ∀ p us, H' p = none → RepL X.K ca Hf' ys us → Q (.ref p) (L2.upd H' p (.lst us))) → r v u H Q
theorem mf_op {op : Operator} {g : D → D → Out (List D)} (o : OF X j.ca (binaryOp op) g) (ha : MP X j a ce) (hb : MP X j b cf) : MF X j (.BinOp a op b pos) (fOp2 g ce cf) := by
  obtain ⟨r, h, k⟩ := o
  refine PE.imp (pe_op h ha hb) fun σ H Q ⟨G, Hf, env, rr, m⟩ => ⟨G, Hf, env, rr, m.bind.imp fun x Hf1 H1 _ p1 m1 v rv => ⟨G, Hf1, env, rr.grow p1, m1.bind.imp fun y Hf2 H2 _ p2 m2 u ru => ?_⟩⟩
  exact k j.W σ Hf2 H2 x y v u Q p2.sub (rv.grow p2) ru (m2.bind.imp fun ys Hf3 H3 _ p3 m3 p us hp ru => m3 _ _ (post_own p3.sub hp) _ (own_step ((p1.trans p2).trans p3) hp ru))
theorem of_cat {ca : Nat → Addr} : OF X ca (binaryOp .Add) fCat := by
  refine ⟨_, op_catL, fun W σ Hf H x y v u Q s h1 h2 m => ?_⟩
  unfold fCat at m
  split at m
  · split at m
    · rename_i hz
      obtain ⟨a, vs, rfl, a1, a2⟩ := pLst h1
      obtain ⟨b, us, rfl, b1, b2⟩ := pLst h2
      exact ⟨a, b, vs, us, rfl, rfl, a1, b1, by rw [← a2.length, ← b2.length, ← line_eq]; exact hz, fun p hp => OutP.ok m s p _ hp (RepL.append a2 b2)⟩
    · exact m.no.elim
  · exact m.no.elim
/-- a new list times an int -/
theorem mf_rep {ff : CF} (ha : MF X j a ff) (hb : ME X j b cf) : MF X j (.BinOp a .Mult b pos) (fRepO ff cf) := by
  refine PE.imp (pe_op op_rep ha hb) fun σ H Q ⟨G, Hf, env, rr, m⟩ => ⟨G, Hf, env, rr, m.bind.imp fun o Hf1 H1 _ p1 m1 v ov => ⟨G, Hf1, env, rr.grow p1, m1.bind.imp fun y Hf2 H2 _ p2 m2 u ru => ?_⟩⟩
  obtain ⟨p, fp, rfl, ow, mi⟩ := ov
  cases o with
  | lst2 xss => exact (OutP.no m2).elim
  | dct ks vs => exact (OutP.no m2).elim
  | lst xs =>
    obtain ⟨vs, h1, h2, _⟩ := ow
    cases y with
    | int k =>
      have m2 : OutP X.K j.ca j.W σ Hf2 H2 ((if xs.length ≤ 1000 ∧ k ≤ 1000 ∧ -(2 ^ 63) ≤ k then Out.ok (List.replicate k.toNat xs).flatten else .stuck).bind fun ys => Out.ok (Own.lst ys)) _ := m2
      split at m2
      · rename_i hz
        have ru : u = .int k := ru
        refine ⟨p, k, vs, rfl, ru, p2.all _ _ h1, hz.2.2, Int.lt_of_le_of_lt hz.2.1 (by decide), ?_, fun q hq => ?_⟩
        · rw [← line_eq, ← h2.length]
          exact Nat.le_trans (Nat.mul_le_mul hz.1 (Int.toNat_le.mpr hz.2.1)) (by decide)
        · exact m2 _ _ (post_own p2.sub hq) _ (own_step (p1.trans p2) hq (RepL.flatten (RepL.mono p2.sh _ _ h2) _))
      · exact m2.elim
    | _ => exact m2.elim
/-! ### built-ins -/
theorem pRepL1 {K : PySem.W.Frag} {ca : Nat → Addr} {Hf H : Hp} {d : D} {vs : List V} (h : PRepL K ca Hf H [d] vs) : ∃ v, vs = [v] ∧ PRep K ca Hf H d v := by
  unfold PRepL at h
  obtain ⟨v, r, e, h1, h2⟩ := h
  unfold PRepL at h2
  subst h2
  exact ⟨v, e, h1⟩
theorem pRepL2 {K : PySem.W.Frag} {ca : Nat → Addr} {Hf H : Hp} {d d' : D} {vs : List V} (h : PRepL K ca Hf H [d, d'] vs) : ∃ v u, vs = [v, u] ∧ PRep K ca Hf H d v ∧ PRep K ca Hf H d' u := by
  unfold PRepL at h
  obtain ⟨v, r, e, h1, h2⟩ := h
  obtain ⟨u, e2, h3⟩ := pRepL1 h2
  subst e2
  exact ⟨v, u, e, h1, h3⟩
variable {ca : Nat → Addr}
theorem bc_len : BC X ca (.builtin "len") dLen := by
  refine ⟨_, call_len, fun W σ Hf H xs vs Q s h m => ?_⟩
  unfold dLen at m
  split at m
  · obtain ⟨v, rfl, h1⟩ := pRepL1 h
    obtain ⟨a, us, rfl, a1, a2⟩ := pLst h1
    exact ⟨_, _, rfl, .inl ⟨us, a1, rfl⟩, by rw [← a2.length]; exact m.rep s rfl⟩
  · obtain ⟨v, rfl, h1⟩ := pRepL1 h
    obtain ⟨a, us, rfl, a1, a2⟩ := pTup s h1
    exact ⟨_, _, rfl, .inr ⟨us, a1, rfl⟩, by rw [← a2.length]; exact m.rep s rfl⟩
  · split at m
    · rename_i hz
      obtain ⟨v, rfl, h1⟩ := pRepL1 h
      rw [pStr h1]
      exact ⟨_, _, rfl, ⟨by rw [← line_eq]; exact hz, rfl⟩, m.rep s rfl⟩
    · exact m.no.elim
  · exact m.no.elim
theorem bc_int : BC X ca (.type "int") dInt := by
  refine ⟨_, call_int1, fun W σ Hf H xs vs Q s h m => ?_⟩
  unfold dInt at m
  split at m
  · obtain ⟨v, rfl, h1⟩ := pRepL1 h
    rw [pInt h1]
    exact .inl ⟨_, rfl, m.rep s rfl⟩
  · obtain ⟨v, rfl, h1⟩ := pRepL1 h
    rw [pBl h1]
    exact .inr ⟨_, rfl, m.rep s rfl⟩
  · exact m.no.elim
theorem bc_abs : BC X ca (.builtin "abs") dAbs := by
  refine ⟨_, call_abs, fun W σ Hf H xs vs Q s h m => ?_⟩
  unfold dAbs at m
  split at m
  · obtain ⟨v, rfl, h1⟩ := pRepL1 h
    rw [pInt h1]
    exact ⟨_, rfl, m.rep s rfl⟩
  · exact m.no.elim
theorem bc_max2 (hc : X.calm = true) : BC X ca (.builtin "max") dMax2 := by
  refine ⟨_, call_max2 hc, fun W σ Hf H xs vs Q s h m => ?_⟩
  unfold dMax2 at m
  split at m
  · obtain ⟨v, u, rfl, h1, h2⟩ := pRepL2 h
    rw [pInt h1, pInt h2]
    exact ⟨_, _, rfl, m.rep s rfl⟩
  · exact m.no.elim
theorem bc_min2 (hc : X.calm = true) : BC X ca (.builtin "min") dMin2 := by
  refine ⟨_, call_min2 hc, fun W σ Hf H xs vs Q s h m => ?_⟩
  unfold dMin2 at m
  split at m
  · obtain ⟨v, u, rfl, h1, h2⟩ := pRepL2 h
    rw [pInt h1, pInt h2]
    exact ⟨_, _, rfl, m.rep s rfl⟩
  · exact m.no.elim
theorem bf_list : BF X ca (.type "list") dList := by
  refine ⟨_, call_list_of, fun W σ Hf H xs vs Q s h m => ?_⟩
  unfold dList at m
  split at m
  · obtain ⟨v, rfl, h1⟩ := pRepL1 h
    obtain ⟨a, us, rfl, a1, a2⟩ := pLst h1
    exact ⟨a, us, rfl, .inl a1, fun p hp => OutP.ok m s p us hp a2⟩
  · obtain ⟨v, rfl, h1⟩ := pRepL1 h
    obtain ⟨a, us, rfl, a1, a2⟩ := pTup s h1
    exact ⟨a, us, rfl, .inr a1, fun p hp => OutP.ok m s p us hp a2⟩
  · exact m.no.elim
theorem bc_tuple : BC X ca (.type "tuple") dTuple := by
  refine ⟨_, call_tuple_of, fun W σ Hf H xs vs Q s h m => ?_⟩
  unfold dTuple at m
  split at m
  · obtain ⟨v, rfl, h1⟩ := pRepL1 h
    obtain ⟨a, us, rfl, a1, a2⟩ := pLst h1
    exact ⟨a, us, rfl, .inl ⟨a1, fun p hp => m.newT s a2 p hp⟩⟩
  · obtain ⟨v, rfl, h1⟩ := pRepL1 h
    obtain ⟨a, us, rfl, a1, a2⟩ := pTup s h1
    exact ⟨a, us, rfl, .inr ⟨a1, m.rep s h1⟩⟩
  · exact m.no.elim
theorem bc_str : BC X ca (.type "str") dStr := by
  refine ⟨_, call_str_int, fun W σ Hf H xs vs Q s h m => ?_⟩
  unfold dStr at m
  split at m
  · split at m
    · rename_i i hz
      obtain ⟨v, rfl, h1⟩ := pRepL1 h
      rw [pInt h1]
      refine ⟨_, rfl, ?_, m.rep s rfl⟩
      by_cases z : i.natAbs = 0
      · rw [z]; decide
      · exact Nat.lt_of_lt_of_le ((Nat.log2_lt z).mpr hz) (by decide)
    · exact m.no.elim
  · exact m.no.elim
theorem bc_sum (hc : X.calm = true) : BC X ca (.builtin "sum") dSum := by
  refine ⟨_, cr_sum hc, fun W σ Hf H xs vs Q s h m => ?_⟩
  unfold dSum at m
  split at m
  · split at m
    · rename_i ns hn
      obtain ⟨v, rfl, h1⟩ := pRepL1 h
      obtain ⟨a, us, rfl, a1, a2⟩ := pLst h1
      rw [intL_ok hn a2] at a1
      exact ⟨a, ns, rfl, a1, m.rep s rfl⟩
    · exact m.no.elim
  · exact m.no.elim
theorem kit_ty (K : PySem.W.Frag) {t n : String} {b : Bool} (ht : t = "NoneType" ∨ t = "bool" ∨ t = "int" ∨ t = "str" ∨ t = "tuple" ∨ t = "list") (h : subTy t n = some b) : PySem.W.kitOne K (.type t) (.type n) = some b := by
  unfold subTy at h
  split at h
  · rename_i hn
    have hn : n = "int" ∨ n = "bool" ∨ n = "str" ∨ n = "tuple" ∨ n = "list" ∨ n = "dict" := by simpa using hn
    rcases ht with rfl | rfl | rfl | rfl | rfl | rfl <;> rcases hn with rfl | rfl | rfl | rfl | rfl | rfl <;> cases h <;> (with_unfolding_all rfl)
  · cases h
theorem tyX_of {K : PySem.W.Frag} {Hf H : Hp} {x : D} {v : V} {t : String} (s : Same Hf H) (r : PRep K ca Hf H x v) (h : tyD x = some t) : TyX K H v (.type t) ∧ (t = "NoneType" ∨ t = "bool" ∨ t = "int" ∨ t = "str" ∨ t = "tuple" ∨ t = "list") := by
  cases x <;> cases h
  · rw [pNon r]; exact ⟨.base .non, by simp⟩
  · rw [pBl r]; exact ⟨.base (.bl _), by simp⟩
  · rw [pInt r]; exact ⟨.base (.int _), by simp⟩
  · rw [pStr r]; exact ⟨.base (.str _), by simp⟩
  · obtain ⟨a, us, rfl, a1, a2⟩ := pTup s r
    refine ⟨?_, by simp⟩
    rcases a1 with (h | ⟨o, h⟩) | ⟨o, its, n, h1, h2, _⟩
    · exact .base (.tup h)
    · exact .fTuple h
    · exact .kTuple h1 h2
  · obtain ⟨a, us, rfl, a1, a2⟩ := pLst r
    refine ⟨?_, by simp⟩
    rcases a1 with (h | ⟨o, h⟩) | ⟨o, its, n, h1, h2, _⟩
    · exact .base (.lst h)
    · exact .base (.frz h)
    · exact .kList h1 h2
theorem bc_isi : BC X ca (.builtin "isinstance") dIsi := by
  refine ⟨_, call_isi, fun W σ Hf H xs vs Q s h m => ?_⟩
  unfold dIsi at m
  split at m
  · split at m
    · rename_i t ht
      split at m
      · rename_i b hb
        obtain ⟨v, u, rfl, h1, h2⟩ := pRepL2 h
        have h2 : u = .ty _ := h2
        subst h2
        obtain ⟨k1, k2⟩ := tyX_of s h1 ht
        exact ⟨v, _, _, _, b, rfl, .ty _, k1, kit_ty X.K k2 hb, m.rep s rfl⟩
      · exact m.no.elim
    · exact m.no.elim
  · exact m.no.elim
theorem me_tyName {T : String} {x : Str} (hg : Gl X x) (hm : X.mg x = none) (hv : bootBuiltins x = some (.type T)) (hn : x ≠ "__name__" := by decide) (hd : (x == ("__debug__" : Str)) = false := by decide) : ME X j (.Name x pos) (eC (.ty T)) :=
  me_c (v := .ty T) (pe_bltn hg hm hv rfl hn hd) fun _ => rfl
/-- a name of the module: an int, a text, None, a bool -/
theorem me_glob {x : Str} {v : V} {u : Value} {d : D} (hg : Gl X x) (hm : X.mg x = some u) (r : RelV v u) (rd : ∀ Hf, Rep X.K j.ca Hf d v) (hd : (x == ("__debug__" : Str)) = false := by decide) : ME X j (.Name x pos) (eC d) := me_c (pe_glob hg hm r hd) rd
end
end M
/-! MExc: what a suite asks of the exception that it holds: isinstance, a field. -/
namespace PySem.W
open PySem PySem.Spec PySem.Calls PyProof.Rows
section
variable {prog : Program} {w : World} {A : Around} {E : Value → Shared → Prop} {s : Shared} {K : Frag} {x D : Addr} {ox : Obj}
theorem findObj_dataD {C : Addr} {od : Option Obj} {name : Str} {a g : Value} (hc : (clsIn K C).isSome = true) (h1 : findIn K (.ref C) name = some (some a)) (h2 : specialIn K a "__get__" = some (some g)) (h3 : takesIn K a = some true) : findObj K C od name = some (.bind g a) := by
  cases q : clsIn K C with
  | none => rw [q] at hc; cases hc
  | some cd =>
    unfold findObj
    rw [q, Option.bind_some, h1, Option.bind_some]
    simp [h2, h3]
/-- e.__class__, with an own dict or without -/
theorem kin_classX {od : Option Obj} {Q : Option Value → Shared → Prop} (c : L2.ExcC K D) (X : K.In s.heap) (I : InstAt s.heap x ox D od) (h : Q (some (.ref D)) { s with toks := s.toks + 1 }) : wpAny (model prog w) A (getAttr? (.ref x) "__class__") Q E s := by
  have hcls : (clsIn K D).isSome = true := by
    obtain ⟨cd, hc, _⟩ := any_some c.hd
    rw [hc]; rfl
  have hf : findObj K D od "__class__" = some (.bind (.builtin "getset_descriptor.__get__") (.builtin "object.__class__")) := findObj_dataD hcls c.ha c.hn c.ht
  obtain ⟨hp, g, d, t, os⟩ := s
  have K0 := I.type (M := model prog w)
  have K1 := looks_findIn (M := model prog w) X c.hg
  have K2 := looks_findIn (M := model prog w) X c.hk
  have K3 := looks_find (M := model prog w) X I hf
  have hsub : Looks (model prog w) hp (isInstance (.ref x) (.type "BaseException")) true := K0.andThen (looks_subIn X c.hs)
  have n0 : (false && onTheHeap (Value.builtin "BaseException.__getattribute__")) = false := rfl
  have n2 : (Value.builtin "BaseException.__getattribute__" == Value.builtin "object.__getattribute__") = false := by decide +kernel
  have n1 : (onTheHeap (Value.ref D) && Value.builtin "BaseException.__getattribute__" == Value.builtin "object.__getattribute__") = false := by rw [n2]; rfl
  unfold getAttr? getAttrBy? getAttrBy
  refine wpAny_bind (wpAny_mkText (wpAny_bind (wpAny_attempt (wpAny_holding (wpAny_bind (K0.at (wpAny_bind (K1.at ?_))))))))
  show wpAny _ _ (if (onTheHeap (Value.ref D) && Value.builtin "BaseException.__getattribute__" == Value.builtin "object.__getattribute__") = true then _ else _) _ _ _
  rw [n1, if_neg Bool.false_ne_true]
  unfold getAttrByItsOwn hookBefore
  refine wpAny_bind ?_
  rw [if_pos (show onTheHeap (Value.ref D) = true from rfl)]
  refine K2.at ?_
  refine wpAny_bind (wpAny_attempt (wpAny_holding ?_))
  unfold callGetattribute
  rw [n0, if_neg Bool.false_ne_true]
  unfold boundAndCalled
  rw [PySem.F.excAttr_ValueError.ga.bind (.ref x)]
  refine wpAny_bind (wpAny_pure ?_)
  show wpAny _ _ (call (.builtin "BaseException.__getattribute__") [.ref x, .str "__class__" t]) _ _ _
  refine wpAny_call (codeAny_call_builtin PySem.F.excAttr_ValueError.ga.plain PySem.F.entry_bexc_ga ?_)
  refine @check_slot (model prog w) _ _ ⟨hp, g, d, t + 1, os⟩ "BaseException.__getattribute__" "BaseException" "__getattribute__" (.ref x) [.str "__class__" t] [] _ (by decide +kernel) (by decide +kernel) hsub (PySem.F.args_bexc_ga (.ref x) (.str "__class__" t)) ?_
  unfold Builtin.«object.__getattribute__»
  refine wpAny_bind (wpAny_of_eq (a := ((Value.ref x : Value), [Value.str "__class__" t])) (by first | rfl | (simp only [slotArgs]; rfl)) ?_)
  refine wpAny_bind (wpAny_pure (wpAny_bind (K0.at (wpAny_bind (K3.at ?_)))))
  show wpAny _ _ (holding [Value.builtin "object.__class__"] (call (.builtin "getset_descriptor.__get__") [.builtin "object.__class__", .ref x, .ref D]) >>= ret) _ _ _
  refine wpAny_bind (wpAny_holding (wpAny_call (class_get (s := ⟨hp, g, d, t + 1, os⟩) (ox := ox) (od := od) X I c.hm ?_)))
  refine wpAny_pure ?_
  show wpAny _ _ (handedOut (.ref D)) _ _ _
  rw [handedOut_of (v := .ref D) rfl]
  first
    | exact wpAny_pure (wpAny_pure h)
    | exact wpAny_pure h
    | exact wpAny_pure (wpAny_bind (wpAny_pure (wpAny_pure h)))
theorem kitx_excX (c : L2.ExcC K D) : KitX K (.ref x) (.ref D) (fun h => ∃ od, InstAt h x ox D od) where
  ty := fun _ _ _ ⟨_, I⟩ => I.type
  it := fun _ _ X _ => by
    obtain ⟨cd, hcD, _⟩ := any_some c.hd
    unfold clsIn at hcD
    split at hcD
    · rename_i ho
      intro A' Q' E' s' k q
      unfold isType loadHead
      exact wpAny_bind (wpAny_loadPart (k _ _ (X _ _ ho)) (wpAny_pure q))
    · cases hcD
  ne := fun h tp dd its n sl X htp => by
    obtain ⟨cd, hcD, _⟩ := any_some c.hd
    refine Bool.eq_false_iff.mpr fun q => ?_
    have e : D = tp := Value.ref.inj (beq_iff_eq.mp q)
    subst e
    unfold clsIn at hcD
    split at hcD
    · rename_i ho
      have z := (X _ _ ho).symm.trans htp
      cases z
    · cases hcD
  ca := fun X ⟨_, I⟩ k => kin_classX c X I k
end
end PySem.W
namespace M
open PySem PySem.Spec PyProof.Rows L2
/-- isinstance(e, c), e the exception at a that the suite holds -/
def rIsX (K : PySem.W.Frag) (a : Addr) (cls : Value) (d : Option Addr) : List V → Hp → VK → Prop := fun xs H Q => ∃ (c : V) (cv : Value) (D : Addr) (b : Bool), xs = [.ref a, c] ∧ (∀ u, RelV c u → u = cv) ∧ cls = .ref D ∧ ExcC K D ∧
  (d = none ∨ ∃ dd fs, d = some dd ∧ H dd = some (.xd fs)) ∧ PySem.W.kitOne K (.ref D) cv = some b ∧ Q (.bl b) H
theorem call_isX {X : Cx} {a : Addr} {cls : Value} {d : Option Addr} {oe : Obj} {pn : List (Addr × Obj)} (hz : L2N.Zn cls d oe) (hf : ∃ vs, oe.data = .fields vs) : CallR (X.suite a ((a, oe) :: pn)) (.builtin "isinstance") (rIsX X.K a cls d) := by
  intro pins s σ H xs us Q I r h
  obtain ⟨c, cv, D, b, rfl, hcv, ec, hC, hd, e, q⟩ := h
  subst ec
  cases r with
  | cons rx rr =>
    cases rr with
    | cons rt rr =>
      cases rr
      cases rx
      cases hcv _ rt
      obtain ⟨hget, _⟩ := I.pin (a, oe) (List.mem_append.mpr (.inl List.mem_cons_self))
      obtain ⟨vs, hv⟩ := hf
      obtain ⟨od, J⟩ : ∃ od, PySem.W.InstAt s.heap a oe D od := by
        obtain ⟨oc, od, oda, osl⟩ := oe
        obtain ⟨h1, h2, _⟩ := hz
        dsimp only at h1 h2 hv
        subst h1 h2 hv
        rcases hd with hd | ⟨dd, fs, hd, hx⟩
        · subst hd
          exact ⟨none, hget, rfl, rfl, trivial⟩
        · subst hd
          have hx : ObjOk X.prog X.w H s.heap dd (.xd fs) := I.hok dd _ hx
          obtain ⟨mA, hns, hr⟩ := hx
          obtain ⟨o, ho, _⟩ := lookIn_ns hns
          exact ⟨some o, hget, rfl, rfl, ho⟩
      exact PySem.W.kia_one (PySem.W.kitx_excX hC) I.kIn ⟨od, J⟩ e (fun z => nomatch z) fun tk => ⟨.bl b, H, I.kept (t' := tk) fun _ _ z => z, rfl, q⟩
section
variable {X : Cx} {ca : Nat → Addr} {a : Addr} {cls : Value} {d : Option Addr} {oe : Obj} {pn : List (Addr × Obj)} {W : WX} {i : Nat} {eE eK : Expr} {pos q : Pos}
theorem slot_exc {K : PySem.W.Frag} {G : Gh} {Hf H : Hp} {env : M.Env} {σ : L2.St} {x : ExcV} (r : RR K ca (some (a, cls, d)) G Hf env σ H) (h : env[i]? = some (.exc x)) : σ[i]? = some (some (.ref a)) ∧ RepX K ca Hf x cls d := by
  obtain ⟨fps, l, m, k⟩ := r.slots
  have hi := (List.getElem?_eq_some_iff.mp h).1
  have h1 : i < σ.length := by rw [← r.len]; exact hi
  have h2 : i < fps.length := by rw [l]; exact hi
  obtain ⟨a', cls', d', e0, e1, e2⟩ := k i _ σ[i] fps[i] h (List.getElem?_eq_getElem h1) (List.getElem?_eq_getElem h2)
  cases e0
  exact ⟨by rw [List.getElem?_eq_getElem h1, e1], e2⟩
theorem repX_d {K : PySem.W.Frag} {Hf H : Hp} {x : ExcV} (s : Same Hf H) (h : RepX K ca Hf x cls d) : d = none ∨ ∃ dd fs, d = some dd ∧ H dd = some (.xd fs) := by
  rcases h.2 with h | ⟨dd, gs, e1, e2, _⟩
  · exact .inl h.2
  · exact .inr ⟨dd, gs, e1, s _ _ e2⟩
/-- isinstance(e, C) -/
theorem me_xis {sub : Sub} {c : V} {cv : Value} (hz : L2N.Zn cls d oe) (hf : ∃ vs, oe.data = .fields vs) (hv : PE (X.suite a ((a, oe) :: pn)) eE (tVar i)) (hC : PE (X.suite a ((a, oe) :: pn)) eK (tC c)) (hcv : ∀ u, RelV c u → u = cv)
    (hk : ∀ n b, sub n = some b → ExcC X.K (ca n) ∧ PySem.W.kitOne X.K (.ref (ca n)) cv = some b) (hg : Gl X "isinstance") (hm : X.mg "isinstance" = none)
    (h1 : starEach [eE, eK] X.env = (false, eval eE X.env) :: starEach [eK] X.env := by rfl) (h2 : starEach [eK] X.env = (false, eval eK X.env) :: starEach [] X.env := by rfl) (h3 : (backTo pos (starEach [eK] X.env)).any (·.1) = false := by rfl) :
    ME (X.suite a ((a, oe) :: pn)) ⟨ca, some (a, cls, d), W⟩ (.Call (.Name "isinstance" q) [eE, eK] [] pos) (eXis i sub) := by
  refine PE.imp (pe_callB (call_isX hz hf) hg hm rfl (pa_cons hv (pa_cons hC pa_nil h2) h1) (by decide) (by decide) h1 h3) fun σ H Q ⟨G, Hf, env, r, m⟩ => ?_
  unfold eXis at m
  split at m
  · rename_i x hx
    split at m
    · rename_i b hb
      obtain ⟨s1, rx⟩ := slot_exc r hx
      obtain ⟨k1, k2⟩ := hk _ _ hb
      exact ⟨.ref a, s1, c, cv, ca x.cls, b, rfl, hcv, rx.1, k1, repX_d r.sub rx, k2, m.rep r.sub rfl⟩
    · exact m.no.elim
  · exact m.no.elim
/-- e.f -/
theorem me_xf {ok : Nat → Bool} {f : Str} (hz : L2N.Zn cls d oe) (hf : ∃ vs, oe.data = .fields vs) (hv : PE (X.suite a ((a, oe) :: pn)) eE (tVar i)) (hk : ∀ n, ok n = true → XfC X.K (ca n) ∧ PySem.W.findIn X.K (.ref (ca n)) f = some none)
    (hb : attributeBase eE f X.env (eval eE X.env) = eval eE X.env := by rfl) : ME (X.suite a ((a, oe) :: pn)) ⟨ca, some (a, cls, d), W⟩ (.Attribute eE f pos) (eXf i ok f) := by
  refine ⟨fun pins s σ H Q I h => ?_⟩
  obtain ⟨G, Hf, env, r, m⟩ := h
  unfold eXf at m
  split at m
  · rename_i x hx
    split at m
    · rename_i ho
      split at m
      · rename_i y hy
        obtain ⟨s1, rx⟩ := slot_exc r hx
        obtain ⟨k1, k2⟩ := hk _ ho
        refine (pe_xf k1 k2 hz.zc hf hv hb).run pins s σ H Q I ⟨.ref a, s1, rfl, rx.1, ?_⟩
        rcases rx.2 with ⟨e, _⟩ | ⟨dd, gs, e1, e2, e3⟩
        · rw [e] at hy; cases hy
        · have look : ∀ {fs : List (Str × D)} {gs : List (Str × V)}, RepF X.K ca Hf fs gs → fs.lookup f = some y → ∃ v, gs.lookup f = some v ∧ Rep X.K ca Hf y v := by
            intro fs
            induction fs with
            | nil => intro gs _ e; cases e
            | cons p fs ih =>
              intro gs r e
              unfold RepF at r
              obtain ⟨v, gs', rfl, r1, r2⟩ := r
              obtain ⟨pf, pd⟩ := p
              simp only [List.lookup] at e ⊢
              cases hq : f == pf with
              | true => rw [hq] at e; cases e; exact ⟨v, rfl, r1⟩
              | false => rw [hq] at e; exact ih r2 e
          obtain ⟨v, l1, l2⟩ := look e3 hy
          exact ⟨dd, gs, v, e1, r.sub _ _ e2, l1, m.rep r.sub l2⟩
      · exact m.no.elim
    · exact m.no.elim
  · exact m.no.elim
end
end M
namespace M
/-- a table of classes -/
def subT (l : List (Nat × Bool)) : Sub := fun n => l.lookup n
end M
/-! MUse2: what the printed walks lean on. -/
namespace M
open PySem PySem.Spec PyProof.Rows L2
def AllB : List (Nat × Bool) → (Nat → Bool → Prop) → Prop
  | [], _ => True
  | p :: r, f => f p.1 p.2 ∧ AllB r f
theorem allB {l : List (Nat × Bool)} {f : Nat → Bool → Prop} (h : AllB l f) : ∀ (n : Nat) (b : Bool), subT l n = some b → f n b := by
  induction l with
  | nil => intro n b e; cases e
  | cons p r ih =>
    intro n b e
    obtain ⟨k, c⟩ := p
    unfold subT List.lookup at e
    by_cases q : n = k
    · subst q
      rw [show (n == n) = true from beq_self_eq_true n] at e
      cases e
      exact h.1
    · have q' : (n == k) = false := by simpa using q
      rw [q'] at e
      exact ih h.2 n b e
theorem exmOk {l : List (Nat × Bool)} {K : PySem.W.Frag} {ca : Nat → Addr} {c : Value} (h : AllB l fun n b => PySem.W.exmOne K (.ref (ca n)) c = some b) : ∀ (n : Nat) (b : Bool), subT l n = some b → PySem.W.exmOne K (.ref (ca n)) c = some b := allB h
theorem isiOk {l : List (Nat × Bool)} {K : PySem.W.Frag} {ca : Nat → Addr} {c : Value} (h : AllB l fun n b => ExcC K (ca n) ∧ PySem.W.kitOne K (.ref (ca n)) c = some b) : ∀ (n : Nat) (b : Bool), subT l n = some b → ExcC K (ca n) ∧ PySem.W.kitOne K (.ref (ca n)) c = some b := allB h
def AllN : List Nat → (Nat → Prop) → Prop
  | [], _ => True
  | p :: r, f => f p ∧ AllN r f
theorem allN {l : List Nat} {f : Nat → Prop} (h : AllN l f) : ∀ n, l.contains n = true → f n := by
  induction l with
  | nil => intro n e; cases e
  | cons p r ih =>
    intro n e
    rw [List.contains_cons, Bool.or_eq_true] at e
    rcases e with e | e
    · have : n = p := by simpa using e
      subst this; exact h.1
    · exact ih h.2 n e
theorem xfOk {l : List Nat} {K : PySem.W.Frag} {ca : Nat → Addr} {f : Str} (h : AllN l fun n => XfC K (ca n) ∧ PySem.W.findIn K (.ref (ca n)) f = some none) : ∀ n, l.contains n = true → XfC K (ca n) ∧ PySem.W.findIn K (.ref (ca n)) f = some none := allN h
def RaisesK (K : PySem.W.Frag) (cls : Value) : Prop := ∀ (M : Model) (h : Heap), K.In h → PySem.W.Looks M h (isSubtype cls (.type "BaseException")) true ∧ PySem.W.Looks M h (typeOf cls) (.type "type")
theorem raisesK {K : PySem.W.Frag} {cls : Value} (h1 : PySem.W.subIn K cls (.type "BaseException") = some true) (h2 : PySem.W.typeIn K cls = some (.type "type")) : RaisesK K cls := fun _ _ k => ⟨PySem.W.looks_subIn k h1, PySem.W.looks_typeIn k h2⟩
abbrev bmVE : List Value := [.type "ValueError", .type "Exception", .type "BaseException", .type "object"]
theorem fnOk_stuck {P : Program} {w : World} {K : PySem.W.Frag} {mg : Str → Option Value} {base : Heap} {CX : CXT} {k : Nat} {f : Addr} {fd : FuncData} {ps : List Str} {ca : Nat → Addr} : FnOk P w K mg base CX k f fd ps (spF K ca fun _ => .stuck) :=
  ⟨fun vs H Q E ⟨Hf, ds, _, _, m⟩ => m.elim, fun A outer s H args us vs Q E _ _ _ _ ⟨Hf, ds, _, _, m⟩ => m.elim⟩
theorem hu64 {A : Around} {k : Nat} (hr : Room k A) : A.units + 80 < cLine := by have := hr.un; omega
theorem hu2 {A : Around} {k : Nat} (hr : Room k A) : A.units < cLine := by have := hr.un; omega
theorem takesF {X : Cx} : L2N.Takes X (fun _ _ _ _ => False) := fun u s' ⟨a, B, sI, pins, σ, H, cls, d, e, I, nb, up, sky, na, os, ag, w⟩ => w.elim
theorem kit_ref {K : PySem.W.Frag} {c d : Addr} {b : Bool} (h1 : PySem.W.isClsIn K d = true) (h2 : PySem.W.typeIn K (.ref d) = some (.type "type")) (h3 : PySem.W.subIn K (.ref c) (.ref d) = some b) (h4 : c = d → b = true) : PySem.W.kitOne K (.ref c) (.ref d) = some b := by
  unfold PySem.W.kitOne
  by_cases e : c = d
  · subst e
    rw [h4 rfl]
    simp
  · have n : ((Value.ref c : Value) == .ref d) = false := by simpa using e
    rw [n, if_neg Bool.false_ne_true]
    have h1' : (PySem.W.clsIn K d).isSome = true := h1
    unfold PySem.W.kitCls
    simp only [h1', h2, h3]
    rfl
theorem kit_bt {K : PySem.W.Frag} {c : Addr} {T : String} {b : Bool} (h1 : PySem.W.kitMeta T = true) (h3 : PySem.W.subIn K (.ref c) (.type T) = some b) : PySem.W.kitOne K (.ref c) (.type T) = some b := by
  unfold PySem.W.kitOne
  have n : ((Value.ref c : Value) == .type T) = false := rfl
  rw [n, if_neg Bool.false_ne_true]
  unfold PySem.W.kitCls
  simp only [h1, h3]
  rfl
/-- the end -/
theorem walk_end {l : PySem.W.OpenLaw} {k : Nat} {q : Program} {loose : List Str} {XP : (Str → Option Value) → Heap → Prop} {YP : World → Heap → Prop} {d : DefRec} {K : Params → PySem.W.Frag} {F0 : M.Fn} (hn : l.most = some 63) (hdf : d.params.defaults = []) (hr : Room k callerA)
    (hY : ∀ (w : World) (h : Heap), YP w h → (K w.params).In h)
    (F : ∀ (w : World) (mg : Str → Option Value) (fa : Addr) (h : Heap), (K w.params).In h → h.Ns mainGlobals mg → mg d.name = some (.ref fa) →
      ∃ fd : FuncData, (∀ (s : Shared) (u : Value), BindsTo s fd ⟨[u], []⟩ [("script", u)]) ∧ ∀ base : Heap, (K w.params).In base → base.Ns mainGlobals mg → ∃ C : Nat → Addr, FnOk l.prog w (K w.params) mg base (L2N.CX l.prog w) k fa fd ["script"] (spF (K w.params) C F0))
    (hF : ∀ ns : List Int, ns.length ≤ 63 → (∀ z ∈ ns, Builtin.Int.intBits z ≤ 1048576) → F0 [.lst (ns.map .int)] = .ok (.val (.bl true))) :
    PySem.W.WalkO q loose XP YP l.row.toRowW d [] (fun f vs => PySem.call f vs) := by
  refine L2.walk_ofB (l := l) (n := 63) (k := k) (x := "script") (CX := fun w => L2N.CX l.prog w) (sp := fun w vs H Q _ => ∃ (a : Addr) (ns : List Int), vs = [.ref a] ∧ ns.length ≤ 63 ∧ (∀ z ∈ ns, Builtin.Int.intBits z ≤ 1048576) ∧ SqL (K w.params) H a (ns.map V.int) ∧ ∀ v H', v = .bl true → Q v H') hn (by decide) hdf hr hY
    (fun w mg fa h KX G hm => ?_) (fun w H a ns h1 h2 h3 h4 => ⟨a, ns, rfl, h1, h2, h4, fun v _ e => e⟩) fun w H s e s' h => ?_
  · obtain ⟨fd, hb, hf⟩ := F w mg fa h KX G hm
    refine ⟨fd, hb, fun base k1 k2 => ?_⟩
    obtain ⟨C, ok⟩ := hf base k1 k2
    refine ok.imp fun vs H Q E ⟨a, ns, e1, h1, h2, h3, q⟩ => ?_
    subst e1
    have intsR : ∀ ns : List Int, RepL (K w.params) C H (ns.map .int) (ns.map V.int) := by
      intro ns
      induction ns with
      | nil => unfold RepL; rfl
      | cons n r ih =>
        show RepL _ C H (.int n :: r.map .int) _
        unfold RepL
        exact ⟨.int n, r.map V.int, rfl, rfl, ih⟩
    refine ⟨H, [.lst (ns.map .int)], Same.refl _, RepL.one ?_, ?_⟩
    · unfold Rep
      exact ⟨a, _, rfl, h3, intsR ns⟩
    · rw [hF ns h1 h2]
      exact fun v Hf' H' _ rv => q v H' rv
  · obtain ⟨a, B, H', cls, d, _, _, _, _, _, _, _, hE⟩ := h
    exact hE
end M
/-! MPure: the mirrors are reckoned with. -/
namespace M
open PySem (Str)
section
variable (env : Env) (i : Nat) (a b c : CE) (t u : CT) (al : CA) (s s' : CS) (d : D) (f g : D → D → Out D) (h : D → Out D) (F : Fn)
@[simp] theorem eC_a : eC d env = .ok d := eqOf rfl
@[simp] theorem eVar_a : eVar i env = match env[i]? with | some (.val d) => .ok d | _ => .stuck := eqOf rfl
@[simp] theorem ePeek_a : ePeek i env = match env[i]? with | some (.val d) => .ok d | some (.own (.lst xs)) => .ok (.lst xs) | some (.own (.dct ks vs)) => .ok (.dct ks vs) | _ => .stuck := eqOf rfl
@[simp] theorem eOp1_a : eOp1 h a env = (a env).bind h := eqOf rfl
@[simp] theorem eOp2_a : eOp2 f a b env = (a env).bind fun x => (b env).bind fun y => f x y := eqOf rfl
@[simp] theorem eIf_a : eIf t a b env = (t env).bind fun c => if c then a env else b env := eqOf rfl
@[simp] theorem eAnd_a : eAnd a b env = (a env).bind fun x => match x with | .bl true => b env | .bl false => .ok (.bl false) | _ => .stuck := eqOf rfl
@[simp] theorem eOr_a : eOr a b env = (a env).bind fun x => match x with | .bl true => .ok (.bl true) | .bl false => b env | _ => .stuck := eqOf rfl
@[simp] theorem eNot_a : eNot a env = (a env).bind fun x => match x with | .bl c => .ok (.bl (!c)) | _ => .stuck := eqOf rfl
@[simp] theorem eChain_a : eChain f g a b c env = (a env).bind fun x => (b env).bind fun y => (f x y).bind fun z => match z with
  | .bl true => (c env).bind fun w => g y w
  | .bl false => .ok (.bl false)
  | _ => .stuck := eqOf rfl
@[simp] theorem aNil_a : aNil env = .ok [] := eqOf rfl
@[simp] theorem aCons_a : aCons a al env = (a env).bind fun x => (al env).bind fun xs => .ok (x :: xs) := eqOf rfl
@[simp] theorem eTup_a : eTup al env = (al env).bind fun xs => sized xs.length (.tup xs) := eqOf rfl
@[simp] theorem eB_a (k : List D → Out D) : eB k al env = (al env).bind k := eqOf rfl
@[simp] theorem eCall_a : eCall F al env = (al env).bind fun ds => (F ds).bind Sl.shared := eqOf rfl
@[simp] theorem eShare_a (k : CF) : eShare k env = (k env).bind fun o => .ok o.shared := eqOf rfl
@[simp] theorem fLst_a : fLst al env = (al env).bind fun xs => sized xs.length (.lst xs) := eqOf rfl
@[simp] theorem fB_a (k : List D → Out (List D)) : fB k al env = (al env).bind fun xs => (k xs).bind fun ys => .ok (.lst ys) := eqOf rfl
@[simp] theorem fOp2_a (k : D → D → Out (List D)) : fOp2 k a b env = (a env).bind fun x => (b env).bind fun y => (k x y).bind fun ys => .ok (.lst ys) := eqOf rfl
@[simp] theorem fRepO_a (k : CF) : fRepO k b env = (k env).bind fun o => (b env).bind fun y => match o with
  | .lst xs => (fRep (.lst xs) y).bind fun ys => .ok (.lst ys)
  | _ => .stuck := eqOf rfl
@[simp] theorem tVal_a : tVal a env = (a env).bind fun x => match x with | .bl c => .ok c | _ => .stuck := eqOf rfl
@[simp] theorem tNot_a : tNot t env = (t env).bind fun c => .ok (!c) := eqOf rfl
@[simp] theorem tAnd_a : tAnd t u env = (t env).bind fun c => if c then u env else .ok false := eqOf rfl
@[simp] theorem tOr_a : tOr t u env = (t env).bind fun c => if c then .ok true else u env := eqOf rfl
@[simp] theorem tTrue_a : tTrue env = .ok true := eqOf rfl
@[simp] theorem sNext_a : sNext env = .next env := eqOf rfl
@[simp] theorem sSeq_a : sSeq s s' env = match s env with | .next e => s' e | r => r := eqOf rfl
@[simp] theorem sSet_a : sSet i a env = (a env).fl env fun d => .next (env.set i (.val d)) := eqOf rfl
@[simp] theorem sSetF_a (k : CF) : sSetF i k env = (k env).fl env fun o => .next (env.set i (.own o)) := eqOf rfl
@[simp] theorem sSetCall_a : sSetCall i F al env = ((al env).bind fun ds => F ds).fl env fun s => match s with
  | .val d => .next (env.set i (.val d)) | .own o => .next (env.set i (.own o)) | _ => .stuck := eqOf rfl
@[simp] theorem sDrop_a : sDrop a env = (a env).fl env fun _ => .next env := eqOf rfl
@[simp] theorem sRet_a : sRet a env = (a env).fl env fun d => .ret (.val d) := eqOf rfl
@[simp] theorem sRetN_a : sRetN env = .ret (.val .non) := eqOf rfl
@[simp] theorem sRetOwn_a : sRetOwn i env = match env[i]? with | some (.val d) => .ret (.val d) | some (.own o) => .ret (.own o) | _ => .stuck := eqOf rfl
@[simp] theorem sRetF_a (k : CF) : sRetF k env = (k env).fl env fun o => .ret (.own o) := eqOf rfl
@[simp] theorem sRetCall_a : sRetCall F al env = ((al env).bind fun ds => F ds).fl env fun s => match s with | .val d => .ret (.val d) | .own o => .ret (.own o) | _ => .stuck := eqOf rfl
@[simp] theorem sIf_a : sIf t s s' env = (t env).fl env fun c => if c then s env else s' env := eqOf rfl
@[simp] theorem sBrk_a : sBrk env = .brk env := eqOf rfl
@[simp] theorem sCont_a : sCont env = .cont env := eqOf rfl
@[simp] theorem sFreeze_a : sFreeze i s env = match env[i]? with | some (.own o) => s (env.set i (.val o.shared)) | _ => s env := eqOf rfl
@[simp] theorem sAppend_a : sAppend i a env = match env[i]? with
  | some (.own (.lst xs)) => (a env).fl env fun d => if xs.length < line then .next (env.set i (.own (.lst (xs ++ [d])))) else .stuck
  | _ => .stuck := eqOf rfl
@[simp] theorem sSetTg_a (k : Tg) : sSetTg k a env = (a env).fl env fun d => match k d env with | some e => .next e | none => .stuck := eqOf rfl
@[simp] theorem gName_a : gName i d env = some (env.set i (.val d)) := eqOf rfl
@[simp] theorem gTup_a (gs : List Tg) (ds : List D) : gTup gs (.tup ds) env = gMany gs ds env := eqOf rfl
@[simp] theorem gMany_n : gMany [] [] env = some env := eqOf rfl
@[simp] theorem gMany_c (k : Tg) (gs : List Tg) (ds : List D) : gMany (k :: gs) (d :: ds) env = (k d env).bind (gMany gs ds) := eqOf rfl
@[simp] theorem sFor_a (it : CA) (k : Tg) : sFor it k s env = (it env).fl env fun ds => forGo k s ds env := eqOf rfl
@[simp] theorem iSeq_a : iSeq a env = (a env).bind dItems := eqOf rfl
@[simp] theorem iB_a (k : List D → Out (List D)) : iB k al env = (al env).bind k := eqOf rfl
@[simp] theorem dItems_l (xs : List D) : dItems (.lst xs) = .ok xs := eqOf rfl
@[simp] theorem dItems_t (xs : List D) : dItems (.tup xs) = .ok xs := eqOf rfl
@[simp] theorem sRaise_a (n : Nat) (fs : List Str) : sRaise n fs al env = (al env).fl env fun ds => if ds.length = fs.length then .exc ⟨n, fs.zip ds⟩ env else .stuck := eqOf rfl
@[simp] theorem sTryAs_a (k : Sub) : sTryAs s k i s' env = match s env with
  | .exc x e => (match k x.cls with
    | some true => (s' ((clr e).set i (.exc x))).calm.unset i
    | some false => .exc x e
    | none => .stuck)
  | r => r := eqOf rfl
@[simp] theorem eXis_a (k : Sub) : eXis i k env = match env[i]? with | some (.exc x) => (match k x.cls with | some b => .ok (.bl b) | none => .stuck) | _ => .stuck := eqOf rfl
@[simp] theorem eXf_a (k : Nat → Bool) (n : Str) : eXf i k n env = match env[i]? with
  | some (.exc x) => if k x.cls = true then (match x.fs.lookup n with | some d => .ok d | none => .stuck) else .stuck
  | _ => .stuck := eqOf rfl
@[simp] theorem fComp_a (vs : List Nat) (it : CA) (k : Tg) : fComp vs it k t a env = (it env).bind fun ds => (lcGo k t a ds (wipeE env vs) []).bind fun xs => .ok (.lst xs) := eqOf rfl
@[simp] theorem oNo_a : oNo env = .ok none := eqOf rfl
@[simp] theorem oSome_a : oSome a env = (a env).bind fun x => match x with | .int i => .ok (some i) | _ => .stuck := eqOf rfl
@[simp] theorem eSl_a (lo hi : CO) : eSl a lo hi env = (a env).bind fun x => (lo env).bind fun l => (hi env).bind fun h => dSl x l h := eqOf rfl
@[simp] theorem fSl_a (lo hi : CO) : fSl a lo hi env = (a env).bind fun x => (lo env).bind fun l => (hi env).bind fun h => (lSl x l h).bind fun xs => .ok (.lst xs) := eqOf rfl
end
@[simp] theorem wipeE_n (env : Env) : wipeE env [] = env := eqOf rfl
@[simp] theorem wipeE_c (env : Env) (v : Nat) (vs : List Nat) : wipeE env (v :: vs) = (wipeE env vs).set v .un := eqOf rfl
@[simp] theorem shared_val (d : D) : Sl.shared (.val d) = .ok d := eqOf rfl
@[simp] theorem shared_lst (xs : List D) : Sl.shared (.own (.lst xs)) = .ok (.lst xs) := eqOf rfl
@[simp] theorem oshared_lst (xs : List D) : Own.shared (.lst xs) = .lst xs := eqOf rfl
@[simp] theorem shared_dct (ks vs : List D) : Sl.shared (.own (.dct ks vs)) = .ok (.dct ks vs) := eqOf rfl
@[simp] theorem oshared_dct (ks vs : List D) : Own.shared (.dct ks vs) = .dct ks vs := eqOf rfl
@[simp] theorem out_ret (r : Sl) : (Fl.ret r).out = .ok r := eqOf rfl
@[simp] theorem out_next (e : Env) : (Fl.next e).out = .ok (.val .non) := eqOf rfl
@[simp] theorem out_exc (x : ExcV) (e : Env) : (Fl.exc x e).out = .exc x := eqOf rfl
@[simp] theorem unset_ret (i : Nat) (r : Sl) : Fl.unset i (.ret r) = .ret r := eqOf rfl
@[simp] theorem unset_next (i : Nat) (e : Env) : Fl.unset i (.next e) = .next ((clr e).set i .un) := eqOf rfl
@[simp] theorem calm_ret (r : Sl) : Fl.calm (.ret r) = .ret r := eqOf rfl
@[simp] theorem calm_next (e : Env) : Fl.calm (.next e) = .next e := eqOf rfl
@[simp] theorem clr_n : clr [] = [] := eqOf rfl
@[simp] theorem clr_v (d : D) (e : Env) : clr (.val d :: e) = .val d :: clr e := eqOf rfl
@[simp] theorem clr_o (d : Own) (e : Env) : clr (.own d :: e) = .own d :: clr e := eqOf rfl
@[simp] theorem clr_u (e : Env) : clr (.un :: e) = .un :: clr e := eqOf rfl
@[simp] theorem clr_x (x : ExcV) (e : Env) : clr (.exc x :: e) = .un :: clr e := eqOf rfl
theorem fn_a {p n : Nat} {b : CS} {ds : List D} (h : ds.length = p) : fn p n b ds = (b (startE n ds)).out := by unfold fn; rw [if_pos h]
theorem sized_a {α : Type} (n : Nat) (x : α) (h : n ≤ line) : sized n x = .ok x := by unfold sized; rw [if_pos h]
@[simp] theorem sized_0 {α : Type} (x : α) : sized 0 x = .ok x := sized_a _ _ (by decide)
@[simp] theorem sized_1 {α : Type} (x : α) : sized 1 x = .ok x := sized_a _ _ (by decide)
@[simp] theorem sized_2 {α : Type} (x : α) : sized 2 x = .ok x := sized_a _ _ (by decide)
@[simp] theorem sized_3 {α : Type} (x : α) : sized 3 x = .ok x := sized_a _ _ (by decide)
@[simp] theorem sized_4 {α : Type} (x : α) : sized 4 x = .ok x := sized_a _ _ (by decide)
@[simp] theorem sized_5 {α : Type} (x : α) : sized 5 x = .ok x := sized_a _ _ (by decide)
@[simp] theorem sized_6 {α : Type} (x : α) : sized 6 x = .ok x := sized_a _ _ (by decide)
@[simp] theorem sized_7 {α : Type} (x : α) : sized 7 x = .ok x := sized_a _ _ (by decide)
@[simp] theorem sized_8 {α : Type} (x : α) : sized 8 x = .ok x := sized_a _ _ (by decide)
@[simp] theorem sized_9 {α : Type} (x : α) : sized 9 x = .ok x := sized_a _ _ (by decide)
@[simp] theorem sized_10 {α : Type} (x : α) : sized 10 x = .ok x := sized_a _ _ (by decide)
@[simp] theorem sized_11 {α : Type} (x : α) : sized 11 x = .ok x := sized_a _ _ (by decide)
@[simp] theorem sized_12 {α : Type} (x : α) : sized 12 x = .ok x := sized_a _ _ (by decide)
@[simp] theorem sized_13 {α : Type} (x : α) : sized 13 x = .ok x := sized_a _ _ (by decide)
@[simp] theorem sized_14 {α : Type} (x : α) : sized 14 x = .ok x := sized_a _ _ (by decide)
@[simp] theorem sized_15 {α : Type} (x : α) : sized 15 x = .ok x := sized_a _ _ (by decide)
@[simp] theorem sized_16 {α : Type} (x : α) : sized 16 x = .ok x := sized_a _ _ (by decide)
@[simp] theorem sized_17 {α : Type} (x : α) : sized 17 x = .ok x := sized_a _ _ (by decide)
@[simp] theorem sized_18 {α : Type} (x : α) : sized 18 x = .ok x := sized_a _ _ (by decide)
@[simp] theorem sized_19 {α : Type} (x : α) : sized 19 x = .ok x := sized_a _ _ (by decide)
@[simp] theorem sized_20 {α : Type} (x : α) : sized 20 x = .ok x := sized_a _ _ (by decide)
@[simp] theorem sized_21 {α : Type} (x : α) : sized 21 x = .ok x := sized_a _ _ (by decide)
@[simp] theorem sized_22 {α : Type} (x : α) : sized 22 x = .ok x := sized_a _ _ (by decide)
@[simp] theorem sized_23 {α : Type} (x : α) : sized 23 x = .ok x := sized_a _ _ (by decide)
@[simp] theorem sized_24 {α : Type} (x : α) : sized 24 x = .ok x := sized_a _ _ (by decide)
@[simp] theorem sized_25 {α : Type} (x : α) : sized 25 x = .ok x := sized_a _ _ (by decide)
@[simp] theorem sized_26 {α : Type} (x : α) : sized 26 x = .ok x := sized_a _ _ (by decide)
@[simp] theorem sized_27 {α : Type} (x : α) : sized 27 x = .ok x := sized_a _ _ (by decide)
@[simp] theorem sized_28 {α : Type} (x : α) : sized 28 x = .ok x := sized_a _ _ (by decide)
@[simp] theorem sized_29 {α : Type} (x : α) : sized 29 x = .ok x := sized_a _ _ (by decide)
@[simp] theorem sized_30 {α : Type} (x : α) : sized 30 x = .ok x := sized_a _ _ (by decide)
@[simp] theorem sized_31 {α : Type} (x : α) : sized 31 x = .ok x := sized_a _ _ (by decide)
@[simp] theorem sized_32 {α : Type} (x : α) : sized 32 x = .ok x := sized_a _ _ (by decide)
@[simp] theorem sized_33 {α : Type} (x : α) : sized 33 x = .ok x := sized_a _ _ (by decide)
@[simp] theorem sized_34 {α : Type} (x : α) : sized 34 x = .ok x := sized_a _ _ (by decide)
@[simp] theorem sized_35 {α : Type} (x : α) : sized 35 x = .ok x := sized_a _ _ (by decide)
@[simp] theorem sized_36 {α : Type} (x : α) : sized 36 x = .ok x := sized_a _ _ (by decide)
theorem fn_1 {n : Nat} {s : CS} (a : D) : fn 1 n s [a] = (s (startE n [a])).out := eqOf rfl
theorem fn_2 {n : Nat} {s : CS} (a b : D) : fn 2 n s [a, b] = (s (startE n [a, b])).out := eqOf rfl
theorem fn_3 {n : Nat} {s : CS} (a b c : D) : fn 3 n s [a, b, c] = (s (startE n [a, b, c])).out := eqOf rfl
theorem fn_4 {n : Nat} {s : CS} (a b c d : D) : fn 4 n s [a, b, c, d] = (s (startE n [a, b, c, d])).out := eqOf rfl
theorem fn_5 {n : Nat} {s : CS} (a b c d e : D) : fn 5 n s [a, b, c, d, e] = (s (startE n [a, b, c, d, e])).out := eqOf rfl
theorem fn_6 {n : Nat} {s : CS} (a b c d e f : D) : fn 6 n s [a, b, c, d, e, f] = (s (startE n [a, b, c, d, e, f])).out := eqOf rfl
theorem fn_7 {n : Nat} {s : CS} (a b c d e f g : D) : fn 7 n s [a, b, c, d, e, f, g] = (s (startE n [a, b, c, d, e, f, g])).out := eqOf rfl
theorem fn_8 {n : Nat} {s : CS} (a b c d e f g h : D) : fn 8 n s [a, b, c, d, e, f, g, h] = (s (startE n [a, b, c, d, e, f, g, h])).out := eqOf rfl
theorem line_v : line = 16777216 := rfl
/-! ### ints -/
section
variable (i j : Int)
@[simp] theorem dAdd_i : dAdd (.int i) (.int j) = .ok (.int (i + j)) := eqOf rfl
@[simp] theorem dSub_i : dSub (.int i) (.int j) = .ok (.int (i - j)) := eqOf rfl
theorem dMul_i (h : smallM i ∨ smallM j) : dMul (.int i) (.int j) = .ok (.int (i * j)) := by show (if _ then _ else _) = _; rw [if_pos h]
@[simp] theorem dLt_i : dLt (.int i) (.int j) = .ok (.bl (decide (i < j))) := eqOf rfl
@[simp] theorem dLe_i : dLe (.int i) (.int j) = .ok (.bl (decide (i ≤ j))) := eqOf rfl
@[simp] theorem dGt_i : dGt (.int i) (.int j) = .ok (.bl (decide (j < i))) := eqOf rfl
@[simp] theorem dGe_i : dGe (.int i) (.int j) = .ok (.bl (decide (j ≤ i))) := eqOf rfl
theorem okD_i : okD (.int i) = true := rfl
@[simp] theorem dEq_i : dEq (.int i) (.int j) = .ok (.bl (decide (i = j))) := by
  show Out.ok (D.bl (i == j)) = _
  exact eqOf rfl
@[simp] theorem dNe_i : dNe (.int i) (.int j) = .ok (.bl (!decide (i = j))) := by
  show Out.ok (D.bl (!(i == j))) = _
  exact eqOf rfl
theorem dMod_i (h : 0 < j) : dMod (.int i) (.int j) = .ok (.int (i % j)) := by
  show (if _ then _ else _) = _
  rw [if_pos (by omega), Int.fmod_eq_emod_of_nonneg _ (by omega)]
theorem dFdiv_w (h : 0 < j) (h2 : j < 2 ^ 200) : dFdiv (.int i) (.int j) = .ok (.int (i / j)) := by
  show (if _ then _ else _) = _
  have e : j.natAbs < 2 ^ 200 := by omega
  rw [if_pos ⟨h, Nat.lt_of_lt_of_le ((Nat.log2_lt (by omega)).mpr e) (by decide)⟩]
theorem dFdiv_i (h : 0 < j) (h2 : j < 1073741824) : dFdiv (.int i) (.int j) = .ok (.int (i / j)) := by
  show (if _ then _ else _) = _
  have e : j.natAbs < 2 ^ 30 := by omega
  rw [if_pos ⟨h, Nat.lt_of_lt_of_le ((Nat.log2_lt (by omega)).mpr e) (by decide)⟩]
/-- 10 ** 18, as a name -/
def big18 : Int := (10 : Int) ^ 18
@[simp] theorem dPow_18 : dPow (.int 10) (.int 18) = .ok (.int big18) := eqOf rfl
@[simp] theorem dNeg_i : dNeg (.int i) = .ok (.int (-i)) := eqOf rfl
@[simp] theorem dInt_i : dInt [.int i] = .ok (.int i) := eqOf rfl
theorem dMax2_i : dMax2 [.int i, .int j] = .ok (.int (if j > i then j else i)) := eqOf rfl
theorem dMin2_i : dMin2 [.int i, .int j] = .ok (.int (if j < i then j else i)) := eqOf rfl
@[simp] theorem dLen_l (xs : List D) : dLen [.lst xs] = .ok (.int xs.length) := eqOf rfl
@[simp] theorem dLen_t (xs : List D) : dLen [.tup xs] = .ok (.int xs.length) := eqOf rfl
@[simp] theorem dList_l (xs : List D) : dList [.lst xs] = .ok xs := eqOf rfl
@[simp] theorem dList_t (xs : List D) : dList [.tup xs] = .ok xs := eqOf rfl
@[simp] theorem dTuple_l (xs : List D) : dTuple [.lst xs] = .ok (.tup xs) := eqOf rfl
@[simp] theorem dTuple_t (xs : List D) : dTuple [.tup xs] = .ok (.tup xs) := eqOf rfl
end
/-! ### literals -/
section
open Lean.Parser.Tactic
theorem mulL (i j : Int) (h : -(2 ^ 64) < i ∧ i < 2 ^ 64) : dMul (.int i) (.int j) = .ok (.int (i * j)) := dMul_i i j (.inl h)
theorem mulR (i j : Int) (h : -(2 ^ 64) < j ∧ j < 2 ^ 64) : dMul (.int i) (.int j) = .ok (.int (i * j)) := dMul_i i j (.inr h)
end
theorem ixN_lt {n k : Nat} (h : k < n) : ixN n (k : Int) = some k := by
  unfold ixN
  rw [if_pos (Int.natCast_nonneg k), if_pos (by omega), Int.toNat_natCast]
theorem ixN_i {n : Nat} {k : Int} (h0 : 0 ≤ k) (h : k < n) : ixN n k = some k.toNat := by
  unfold ixN
  rw [if_pos h0, if_pos h]
theorem dIx_l {xs : List D} {k : Nat} (h : k < xs.length) : dIx (.lst xs) (.int (k : Int)) = .ok xs[k] := by
  show (match ixN xs.length (k : Int) with | some j => (match xs[j]? with | some d => Out.ok d | none => .stuck) | none => .stuck) = _
  rw [ixN_lt h]
  simp [List.getElem?_eq_getElem h]
theorem dIx_t {xs : List D} {k : Nat} (h : k < xs.length) : dIx (.tup xs) (.int (k : Int)) = .ok xs[k] := by
  show (match ixN xs.length (k : Int) with | some j => (match xs[j]? with | some d => Out.ok d | none => .stuck) | none => .stuck) = _
  rw [ixN_lt h]
  simp [List.getElem?_eq_getElem h]
theorem dIx_li {xs : List D} {k : Int} (h0 : 0 ≤ k) (h : k < xs.length) : dIx (.lst xs) (.int k) = .ok (xs[k.toNat]'(by omega)) := by
  obtain ⟨n, rfl⟩ := Int.eq_ofNat_of_zero_le h0
  exact dIx_l (by omega)
theorem dIx_ti {xs : List D} {k : Int} (h0 : 0 ≤ k) (h : k < xs.length) : dIx (.tup xs) (.int k) = .ok (xs[k.toNat]'(by omega)) := by
  obtain ⟨n, rfl⟩ := Int.eq_ofNat_of_zero_le h0
  exact dIx_t (by omega)
/-! ### loops -/
section
variable {g : Tg} {body : CS}
@[simp] theorem forGo_nil {env : Env} : forGo g body [] env = .next env := eqOf rfl
theorem forGo_cons {d : D} {ds : List D} {env e1 : Env} (h : g d env = some e1) : forGo g body (d :: ds) env = match body e1 with
  | .next e => forGo g body ds e | .cont e => forGo g body ds e | .brk e => .next e | r => r := by
  show (match g d env with | none => Fl.stuck | some e1 => _) = _
  rw [h] <;> rfl
/-- each turn goes on: a fold -/
theorem forGo_fold {S : Type} (mk : S → Env) (f : S → D → S) : ∀ (ds : List D) (s : S), (∀ d ∈ ds, ∀ s, ∃ e1, g d (mk s) = some e1 ∧ (body e1 = .next (mk (f s d)) ∨ body e1 = .cont (mk (f s d)))) → forGo g body ds (mk s) = .next (mk (ds.foldl f s))
  | [], s, _ => rfl
  | d :: ds, s, h => by
    obtain ⟨e1, h1, h2⟩ := h d List.mem_cons_self s
    rw [forGo_cons h1, List.foldl_cons, ← forGo_fold mk f ds (f s d) fun d hd => h d (List.mem_cons_of_mem _ hd)]
    rcases h2 with h2 | h2 <;> rw [h2]
/-- .. keeping P -/
theorem forGo_inv' {all : List D} (P : List D → Env → Prop) : ∀ (done ds : List D) (env : Env), all = done ++ ds → P done env → (∀ done d rest env, all = done ++ d :: rest → P done env → ∃ e1, g d env = some e1 ∧ ∃ e2, (body e1 = .next e2 ∨ body e1 = .cont e2) ∧ P (done ++ [d]) e2) → ∃ e2, forGo g body ds env = .next e2 ∧ P all e2
  | done, [], env, e, h0, _ => ⟨env, rfl, by rw [e, List.append_nil]; exact h0⟩
  | done, d :: ds, env, e, h0, h => by
    obtain ⟨e1, h1, e2, h2, h3⟩ := h done d ds env e h0
    obtain ⟨e3, k1, k2⟩ := forGo_inv' P (done ++ [d]) ds e2 (by rw [e]; simp) h3 h
    refine ⟨e3, ?_, k2⟩
    rw [forGo_cons h1]
    rcases h2 with h2 | h2 <;> rw [h2] <;> exact k1
theorem forGo_inv {all : List D} {env : Env} (P : List D → Env → Prop) (h0 : P [] env) (h : ∀ done d rest env, all = done ++ d :: rest → P done env → ∃ e1, g d env = some e1 ∧ ∃ e2, (body e1 = .next e2 ∨ body e1 = .cont e2) ∧ P (done ++ [d]) e2) : ∃ e2, forGo g body all env = .next e2 ∧ P all e2 := forGo_inv' P [] all env rfl h0 h
/-- the first one that p holds of ends it -/
theorem forGo_find (mk : Sl → Env) (p : D → Bool) (r : D → Fl) (hr : ∀ d, ∀ e, r d ≠ .next e ∧ r d ≠ .cont e ∧ r d ≠ .brk e) : ∀ (ds : List D) (x : Sl), (∀ d ∈ ds, ∀ x, g d (mk x) = some (mk (.val d)) ∧ body (mk (.val d)) = if p d = true then r d else .next (mk (.val d))) →
    forGo g body ds (mk x) = match ds.find? p with | some d => r d | none => .next (mk (ds.foldl (fun _ d => .val d) x))
  | [], x, _ => rfl
  | d :: ds, x, h => by
    obtain ⟨h1, h2⟩ := h d List.mem_cons_self x
    rw [forGo_cons h1, h2, List.find?_cons]
    cases q : p d with
    | true =>
      simp only [if_true]
      have z := hr d
      cases q2 : r d with
      | next e => exact absurd q2 (z e).1
      | cont e => exact absurd q2 (z e).2.1
      | brk e => exact absurd q2 (z e).2.2
      | ret s => rfl
      | exc x e => rfl
      | stuck => rfl
    | false =>
      simp only [Bool.false_eq_true, if_false]
      rw [forGo_find mk p r hr ds (.val d) fun d hd => h d (List.mem_cons_of_mem _ hd)]
      rfl
end
@[simp] theorem rangeL_len (lo hi : Int) : (rangeL lo hi).length = (hi - lo).toNat := by simp [rangeL]
theorem rangeL_at {lo hi : Int} {done rest : List D} {d : D} (h : rangeL lo hi = done ++ d :: rest) : d = .int (lo + (done.length : Nat)) ∧ done.length < (hi - lo).toNat := by
  have hl : done.length < (hi - lo).toNat := by
    have := congrArg List.length h
    simp at this; omega
  refine ⟨?_, hl⟩
  have e : (rangeL lo hi)[done.length]? = some d := by rw [h]; simp
  unfold rangeL at e
  rw [List.getElem?_map, List.getElem?_range hl] at e
  exact (Option.some.inj e).symm
theorem range0_at {n : Nat} {done rest : List D} {d : D} (h : rangeL 0 n = done ++ d :: rest) : d = .int (done.length : Nat) ∧ done.length < n := by
  obtain ⟨h1, h2⟩ := rangeL_at h
  exact ⟨by rw [h1, Int.zero_add], by omega⟩
theorem dRange1_i {j : Int} (h : smallI j) : dRange1 [.int j] = .ok (rangeL 0 j) := by
  show (if _ then _ else _) = _
  rw [if_pos h]
theorem dRange2_i {i j : Int} (h : smallI i) (h2 : smallI j) : dRange2 [.int i, .int j] = .ok (rangeL i j) := by
  show (if _ then _ else _) = _
  rw [if_pos ⟨h, h2⟩]
theorem smallI_n {n : Nat} (h : n ≤ 1000000) : smallI (n : Int) := ⟨by omega, by omega⟩
/-! ### comprehensions -/
theorem lcGo_go {g : Tg} {t : CT} {e : CE} {env : Env} (p : D → Bool) (f : D → D) : ∀ (ds acc : List D), (∀ d ∈ ds, ∃ e1, g d env = some e1 ∧ t e1 = .ok (p d) ∧ (p d = true → e e1 = .ok (f d))) → acc.length + ds.length ≤ line → lcGo g t e ds env acc = .ok (acc ++ (ds.filter p).map f)
  | [], acc, _, _ => by simp [lcGo]
  | d :: ds, acc, h, hl => by
    obtain ⟨e1, h1, h2, h3⟩ := h d List.mem_cons_self
    have hl' : acc.length + (ds.length + 1) ≤ line := hl
    unfold lcGo
    rw [h1]
    simp only [h2, Out.calm, Out.bind_ok]
    cases q : p d with
    | true =>
      simp only [if_true, h3 q, Out.bind_ok]
      rw [if_pos (by omega), lcGo_go p f ds (acc ++ [f d]) (fun d hd => h d (List.mem_cons_of_mem _ hd)) (by simp; omega)]
      simp [q]
    | false =>
      simp only [Bool.false_eq_true, if_false]
      rw [lcGo_go p f ds acc (fun d hd => h d (List.mem_cons_of_mem _ hd)) (by omega)]
      simp [q]
/-! ### == of a thing with itself -/
mutual
theorem eqD_refl : ∀ (x : D) (n : Nat), okN n x = true → eqD x x = true
  | .non, _, _ => rfl
  | .bl b, _, _ => by cases b <;> rfl
  | .int i, _, _ => by show (i == i) = true; exact beq_self_eq_true i
  | .str x, _, _ => by show (x == x) = true; exact beq_self_eq_true x
  | .lst xs, n, h => by
    cases n with
    | zero => cases h
    | succ n => exact eqDs_refl xs n h
  | .tup xs, n, h => by
    cases n with
    | zero => cases h
    | succ n => exact eqDs_refl xs n h
  | .ty _, n, h => by cases n <;> cases h
  | .cls _, n, h => by cases n <;> cases h
theorem eqDs_refl : ∀ (xs : List D) (n : Nat), okNs n xs = true → eqDs xs xs = true
  | [], _, _ => rfl
  | x :: xs, n, h => by
    unfold okNs at h
    rw [Bool.and_eq_true] at h
    show (eqD x x && eqDs xs xs) = true
    rw [eqD_refl x n h.1, eqDs_refl xs n h.2]
    rfl
end
theorem dEq_refl {x : D} (h : okD x = true) : dEq x x = .ok (.bl true) := by
  show (if _ then _ else _) = _
  rw [if_pos ⟨h, h⟩, eqD_refl x 64 h]
theorem dNe_refl {x : D} (h : okD x = true) : dNe x x = .ok (.bl false) := by
  show (if _ then _ else _) = _
  rw [if_pos ⟨h, h⟩, eqD_refl x 64 h]
  rfl
theorem okNs_ints (n : Nat) : ∀ ns : List Int, okNs n (ns.map .int) = true
  | [] => rfl
  | i :: r => by
    show (okN n (.int i) && okNs n (r.map .int)) = true
    rw [okNs_ints n r]
    cases n <;> rfl
/-- flat ints -/
theorem allFlat : ∀ ns : List Int, (ns.map D.int).all flatD = true
  | [] => rfl
  | i :: r => by simp [flatD]
/-- a list or a tuple -/
def seqD (b : Bool) (xs : List D) : D := if b then .lst xs else .tup xs
@[simp] theorem dItems_q (b : Bool) (xs : List D) : dItems (seqD b xs) = .ok xs := by cases b <;> exact eqOf rfl
@[simp] theorem dLen_q (b : Bool) (xs : List D) : dLen [seqD b xs] = .ok (.int xs.length) := by cases b <;> exact eqOf rfl
/-- the search loop, where all that are found say the same -/
theorem forGo_any {g : Tg} {body : CS} (mk : Sl → Env) (p : D → Bool) (r : Sl) (ds : List D) (x : Sl) (h : ∀ d ∈ ds, ∀ x, g d (mk x) = some (mk (.val d)) ∧ body (mk (.val d)) = if p d = true then .ret r else .next (mk (.val d))) :
    (ds.any p = true → forGo g body ds (mk x) = .ret r) ∧ (ds.any p = false → ∃ y, forGo g body ds (mk x) = .next (mk y)) := by
  have e := forGo_find (g := g) (body := body) mk p (fun _ => .ret r) (fun d e => ⟨fun z => (nomatch z), fun z => (nomatch z), fun z => (nomatch z)⟩) ds x h
  constructor
  · intro ha
    obtain ⟨d, hd, hp⟩ := List.any_eq_true.mp ha
    cases q : ds.find? p with
    | none => exact absurd hp (by simpa using List.find?_eq_none.mp q d hd)
    | some d => rw [e, q]
  · intro ha
    cases q : ds.find? p with
    | none => exact ⟨_, by rw [e, q]⟩
    | some d =>
      have h1 := List.find?_some q
      have h2 := List.mem_of_find?_eq_some q
      rw [List.any_eq_true.mpr ⟨d, h2, h1⟩] at ha
      cases ha
/-- .. that raise the same -/
theorem forGo_raise {g : Tg} {body : CS} (mk : Sl → Env) (p : D → Bool) (r : ExcV) (ds : List D) (x : Sl) (h : ∀ d ∈ ds, ∀ x, g d (mk x) = some (mk (.val d)) ∧ body (mk (.val d)) = if p d = true then .exc r (mk (.val d)) else .next (mk (.val d))) :
    (ds.any p = true → ∃ y, forGo g body ds (mk x) = .exc r (mk y)) ∧ (ds.any p = false → ∃ y, forGo g body ds (mk x) = .next (mk y)) := by
  have e := forGo_find (g := g) (body := body) mk p (fun d => .exc r (mk (.val d))) (fun d e => ⟨fun z => (nomatch z), fun z => (nomatch z), fun z => (nomatch z)⟩) ds x h
  constructor
  · intro ha
    obtain ⟨d, hd, hp⟩ := List.any_eq_true.mp ha
    cases q : ds.find? p with
    | none => exact absurd hp (by simpa using List.find?_eq_none.mp q d hd)
    | some d => exact ⟨_, by rw [e, q]⟩
  · intro ha
    cases q : ds.find? p with
    | none => exact ⟨_, by rw [e, q]⟩
    | some d =>
      have h1 := List.find?_some q
      have h2 := List.mem_of_find?_eq_some q
      rw [List.any_eq_true.mpr ⟨d, h2, h1⟩] at ha
      cases ha
/-- what an int says of itself -/
def onI (p : Int → Bool) : D → Bool
  | .int z => p z | _ => false
theorem any_ints (p : Int → Bool) (ns : List Int) : (ns.map D.int).any (onI p) = ns.any p := by
  rw [List.any_map]; rfl
theorem filter_ints (p : Int → Bool) (ns : List Int) : (ns.map D.int).filter (onI p) = (ns.filter p).map .int := by
  rw [List.filter_map]; rfl
@[simp] theorem forGo_c {i : Nat} {body : CS} {d : D} {ds : List D} {env : Env} : forGo (gName i) body (d :: ds) env = match body (env.set i (.val d)) with
  | .next e => forGo (gName i) body ds e | .cont e => forGo (gName i) body ds e | .brk e => .next e | r => r := eqOf (forGo_cons rfl)
@[simp] theorem dIsi_tt (xs : List D) : dIsi [.tup xs, .ty "tuple"] = .ok (.bl true) := eqOf rfl
@[simp] theorem dIsi_ll (xs : List D) : dIsi [.lst xs, .ty "list"] = .ok (.bl true) := eqOf rfl
@[simp] theorem dIsi_ii (i : Int) : dIsi [.int i, .ty "int"] = .ok (.bl true) := eqOf rfl
@[simp] theorem dIsi_ib (i : Int) : dIsi [.int i, .ty "bool"] = .ok (.bl false) := eqOf rfl
@[simp] theorem dIsi_bb (i : Bool) : dIsi [.bl i, .ty "bool"] = .ok (.bl true) := eqOf rfl
@[simp] theorem dIsi_bi (i : Bool) : dIsi [.bl i, .ty "int"] = .ok (.bl true) := eqOf rfl
@[simp] theorem dIsi_ss (i : Str) : dIsi [.str i, .ty "str"] = .ok (.bl true) := eqOf rfl
@[simp] theorem dIsi_it (i : Int) : dIsi [.int i, .ty "tuple"] = .ok (.bl false) := eqOf rfl
theorem okD_tup2 {a b : D} (h1 : okN 63 a = true) (h2 : okN 63 b = true) : okD (.tup [a, b]) = true := by
  show (okN 63 a && (okN 63 b && true)) = true
  rw [h1, h2]; rfl
theorem okN_lst {n : Nat} {xs : List D} (h : okNs n xs = true) : okN (n + 1) (.lst xs) = true := h
theorem okN_tup {n : Nat} {xs : List D} (h : okNs n xs = true) : okN (n + 1) (.tup xs) = true := h
theorem okN_str {n : Nat} {s : Str} (h : strOk s = true) : okN n (.str s) = true := by cases n <;> exact h
theorem okN_int {n : Nat} {i : Int} : okN n (.int i) = true := by cases n <;> rfl
@[simp] theorem sSetIx_a (i : Nat) (e v : CE) (env : Env) : sSetIx i e v env = (v env).fl env fun d => match env[i]? with
  | some (.own (.lst xs)) => (e env).fl env fun k => match k with
    | .int k => (match ixN xs.length k with | some j => .next (env.set i (.own (.lst (xs.set j d)))) | none => .stuck)
    | _ => .stuck
  | _ => .stuck := eqOf rfl
theorem set_ints (ns : List Int) (j : Nat) (y : Int) : (ns.map D.int).set j (.int y) = (ns.set j y).map .int := by rw [List.map_set]
theorem dIx_ints {ns : List Int} {k : Int} (h0 : 0 ≤ k) (h : k < ns.length) : ∃ y ∈ ns, dIx (.lst (ns.map .int)) (.int k) = .ok (.int y) := by
  have hk : k < (ns.map D.int).length := by simpa using h
  refine ⟨ns[k.toNat]'(by omega), List.getElem_mem _, ?_⟩
  rw [dIx_li h0 hk]
  simp
theorem forGo_cons' {g : Tg} {body : CS} {d : D} {ds : List D} {env e1 e2 : Env} (h : g d env = some e1) (h2 : body e1 = .next e2) : forGo g body (d :: ds) env = forGo g body ds e2 := by rw [forGo_cons h, h2]
theorem forGo_ret {g : Tg} {body : CS} {d : D} {ds : List D} {env e1 : Env} {r : Sl} (h : g d env = some e1) (h2 : body e1 = .ret r) : forGo g body (d :: ds) env = .ret r := by rw [forGo_cons h, h2]
theorem seqN {s t : CS} {env e : Env} (h : s env = .next e) : sSeq s t env = t e := by rw [sSeq_a, h]
theorem seqR {s t : CS} {env : Env} {r : Sl} (h : s env = .ret r) : sSeq s t env = .ret r := by rw [sSeq_a, h]
/-- what has a type: no class -/
def plainD (d : D) : Bool := (tyD d).isSome
@[simp] theorem gTup3 {i j k : Nat} {a b c : D} {env : Env} : gTup [gName i, gName j, gName k] (.tup [a, b, c]) env = some (((env.set i (.val a)).set j (.val b)).set k (.val c)) := eqOf rfl
@[simp] theorem gTup2 {i j : Nat} {a b : D} {env : Env} : gTup [gName i, gName j] (.tup [a, b]) env = some ((env.set i (.val a)).set j (.val b)) := eqOf rfl
theorem dEq_s {a b : Str} (h1 : strOk a = true) (h2 : strOk b = true) : dEq (.str a) (.str b) = .ok (.bl (a == b)) := by
  show (if okD (.str a) = true ∧ okD (.str b) = true then _ else _) = _
  rw [if_pos ⟨okN_str h1, okN_str h2⟩]
  exact eqOf rfl
@[simp] theorem dIsNot_bb (a b : Bool) : dIsNot (.bl a) (.bl b) = .ok (.bl (!decide (a = b))) := eqOf rfl
@[simp] theorem dIs_bb (a b : Bool) : dIs (.bl a) (.bl b) = .ok (.bl (decide (a = b))) := eqOf rfl
@[simp] theorem dIs_non (a : D) : dIs a .non = .ok (.bl (isNon a)) := eqOf (by cases a <;> rfl)
@[simp] theorem dIsNot_non (a : D) : dIsNot a .non = .ok (.bl (!isNon a)) := eqOf (by cases a <;> rfl)
theorem dIx_getD {xs : List Int} {k : Nat} (h : k < xs.length) : dIx (.tup (xs.map .int)) (.int (k : Int)) = .ok (.int (xs.getD k 0)) := by
  rw [dIx_t (by simpa using h)]
  simp [List.getD_eq_getElem?_getD, List.getElem?_eq_getElem h]
theorem dIx_getDl {xs : List Int} {k : Nat} (h : k < xs.length) : dIx (.lst (xs.map .int)) (.int (k : Int)) = .ok (.int (xs.getD k 0)) := by
  rw [dIx_l (by simpa using h)]
  simp [List.getD_eq_getElem?_getD, List.getElem?_eq_getElem h]
theorem dIx_getDi {xs : List Int} {k : Int} (h0 : 0 ≤ k) (h : k < xs.length) : dIx (.tup (xs.map .int)) (.int k) = .ok (.int (xs.getD k.toNat 0)) := by
  obtain ⟨n, rfl⟩ := Int.eq_ofNat_of_zero_le h0
  exact dIx_getD (by omega)
@[simp] theorem dIx30 {a b c : D} : dIx (.tup [a, b, c]) (.int 0) = .ok a := eqOf rfl
@[simp] theorem dIx31 {a b c : D} : dIx (.tup [a, b, c]) (.int 1) = .ok b := eqOf rfl
@[simp] theorem dIx32 {a b c : D} : dIx (.tup [a, b, c]) (.int 2) = .ok c := eqOf rfl
@[simp] theorem dIx20 {a b : D} : dIx (.tup [a, b]) (.int 0) = .ok a := eqOf rfl
@[simp] theorem dIx21 {a b : D} : dIx (.tup [a, b]) (.int 1) = .ok b := eqOf rfl
theorem dAdd_l {xs ys : List D} (h : xs.length + ys.length ≤ line) : dAdd (.lst xs) (.lst ys) = .ok (.lst (xs ++ ys)) := by
  show (if _ then _ else _) = _
  rw [if_pos h]
theorem dAdd_t {xs ys : List D} (h : xs.length + ys.length ≤ line) : dAdd (.tup xs) (.tup ys) = .ok (.tup (xs ++ ys)) := by
  show (if _ then _ else _) = _
  rw [if_pos h]
theorem fCat_l {xs ys : List D} (h : xs.length + ys.length ≤ line) : fCat (.lst xs) (.lst ys) = .ok (xs ++ ys) := by
  show (if _ then _ else _) = _
  rw [if_pos h]
theorem cut_take {α : Type} {xs : List α} {p : Nat} : cutL xs none (some (p : Int)) = xs.take p := by
  unfold cutL sIx
  simp only [List.drop_zero, Nat.sub_zero]
  rw [if_neg (by omega), Int.toNat_natCast]
  by_cases h : p ≤ xs.length
  · rw [Nat.min_eq_left h]
  · rw [Nat.min_eq_right (by omega), List.take_of_length_le (by omega), List.take_of_length_le (by omega)]
theorem cut_drop {α : Type} {xs : List α} {p : Nat} : cutL xs (some (p : Int)) none = xs.drop p := by
  unfold cutL sIx
  simp only
  rw [if_neg (by omega), Int.toNat_natCast]
  by_cases h : p ≤ xs.length
  · rw [Nat.min_eq_left h, List.take_of_length_le (by simp)]
  · rw [Nat.min_eq_right (by omega), List.drop_of_length_le (Nat.le_refl _), List.drop_of_length_le (by omega)]
    simp
@[simp] theorem dSl_l (xs : List D) (lo hi : Option Int) : dSl (.lst xs) lo hi = .ok (.lst (cutL xs lo hi)) := eqOf rfl
@[simp] theorem dSl_t (xs : List D) (lo hi : Option Int) : dSl (.tup xs) lo hi = .ok (.tup (cutL xs lo hi)) := eqOf rfl
/-- the rows as tuples -/
theorem lc_tuples {i : Nat} {env : Env} (hi : i < env.length) (rows : List (List D)) (hl : rows.length ≤ 1000) : lcGo (gName i) tTrue (eB dTuple (aCons (eVar i) aNil)) (rows.map .lst) env [] = .ok (rows.map .tup) := by
  have h := lcGo_go (g := gName i) (t := tTrue) (e := eB dTuple (aCons (eVar i) aNil)) (env := env) (fun _ => true) (fun d => match d with | .lst xs => .tup xs | d => d) (rows.map .lst) [] (fun d hd => by
    obtain ⟨r, _, rfl⟩ := List.mem_map.mp hd
    exact ⟨_, rfl, rfl, fun _ => by simp [hi]⟩) (by simp [line_v]; omega)
  rw [h, List.nil_append, List.filter_eq_self.mpr (by simp), List.map_map]
  rfl
theorem lc_map {g : Tg} {e : CE} {env : Env} (f : D → D) (ds : List D) (h : ∀ d ∈ ds, ∃ e1, g d env = some e1 ∧ e e1 = .ok (f d)) (hl : ds.length ≤ 1000) : lcGo g tTrue e ds env [] = .ok (ds.map f) := by
  rw [lcGo_go (g := g) (t := tTrue) (e := e) (env := env) (fun _ => true) f ds [] (fun d hd => by
    obtain ⟨e1, h1, h2⟩ := h d hd
    exact ⟨e1, h1, rfl, fun _ => h2⟩) (by simp [line_v]; omega), List.nil_append, List.filter_eq_self.mpr (by simp)]
/-- a loop that lengthens a list -/
theorem flat_loop {R : Type} {tg : Tg} {body : CS} (mk : List D → R → Env) (g : D → List D) (B : Nat) : ∀ (ds l : List D) (r : R), l.length + (ds.flatMap g).length ≤ B →
    (∀ d ∈ ds, ∀ l r, l.length + (g d).length ≤ B → ∃ e1, tg d (mk l r) = some e1 ∧ ∃ r', body e1 = .next (mk (l ++ g d) r')) → ∃ r', forGo tg body ds (mk l r) = .next (mk (l ++ ds.flatMap g) r')
  | [], l, r, _, _ => ⟨r, by simp⟩
  | d :: ds, l, r, hl, h => by
    have e0 : (d :: ds).flatMap g = g d ++ ds.flatMap g := List.flatMap_cons
    rw [e0, List.length_append] at hl
    obtain ⟨e1, h1, r1, h2⟩ := h d List.mem_cons_self l r (by omega)
    obtain ⟨r', ih⟩ := flat_loop mk g B ds (l ++ g d) r1 (by rw [List.length_append]; omega) fun x hx => h x (List.mem_cons_of_mem _ hx)
    exact ⟨r', by rw [forGo_cons' h1 h2, ih, e0, List.append_assoc]⟩
end M
namespace M
open PySem (Str)
/-! ### texts by their signs -/
@[simp] theorem eJoin_a (a b : CE) (env : Env) : eJoin a b env = (a env).bind fun x => match x with
  | .str s => (b env).bind fun y => dJoin s y
  | _ => .stuck := eqOf rfl
def S (l : List Nat) : Str := ⟨l.toArray⟩
theorem S_list (l : List Nat) : (S l).cps.toList = l := by simp [S]
theorem S_len (l : List Nat) : (S l).length = l.length := by
  show (S l).cps.size = _
  simp [S]
theorem S_inj {a b : List Nat} : S a = S b ↔ a = b := ⟨fun h => by rw [← S_list a, h, S_list], fun h => by rw [h]⟩
theorem dLen_s {l : List Nat} (h : l.length ≤ line) : dLen [.str (S l)] = .ok (.int l.length) := by
  show (if (S l).length ≤ line then Out.ok (D.int (S l).length) else .stuck) = _
  rw [S_len, if_pos h]
theorem dIx_s {l : List Nat} {k : Nat} (h : l.length ≤ line) (hk : k < l.length) : dIx (.str (S l)) (.int (k : Int)) = .ok (.str (S [l.getD k 0])) := by
  show (if (S l).length ≤ line then (match ixN (S l).cps.toList.length (k : Int) with | some j => (match (S l).cps.toList[j]? with | some c => Out.ok (D.str ⟨#[c]⟩) | none => .stuck) | none => .stuck) else .stuck) = _
  rw [S_len, if_pos h, S_list, ixN_lt hk]
  simp [List.getElem?_eq_getElem hk, S, List.getD_eq_getElem?_getD]
theorem dSl_s {l : List Nat} (h : l.length ≤ line) (lo hi : Option Int) : dSl (.str (S l)) lo hi = .ok (.str (S (cutL l lo hi))) := by
  show (if (S l).length ≤ line then Out.ok (D.str ⟨(cutL (S l).cps.toList lo hi).toArray⟩) else .stuck) = _
  rw [S_len, if_pos h, S_list]; rfl
theorem dAdd_s {a b : List Nat} (h : a.length + b.length ≤ line) : dAdd (.str (S a)) (.str (S b)) = .ok (.str (S (a ++ b))) := by
  show (if (S a).length + (S b).length ≤ line then Out.ok (D.str (S a ++ S b)) else .stuck) = _
  rw [S_len, S_len, if_pos h]
  have : S a ++ S b = S (a ++ b) := by
    show (⟨(S a).cps ++ (S b).cps⟩ : Str) = _
    simp [S]
  rw [this]
theorem dIn_s (c : Nat) (z : List Nat) : dIn (.str (S [c])) (.str (S z)) = .ok (.bl (decide (c ∈ z))) := by
  show (match signIn (S [c]) (S z) with | some b => Out.ok (D.bl b) | none => .stuck) = _
  unfold signIn
  rw [S_list, S_list]
def okS (l : List Nat) : Bool := l.all (· < 0x110000)
theorem strOk_S {l : List Nat} (h : okS l = true) : strOk (S l) = true := by
  unfold strOk
  rw [← Array.all_toList, S_list]; exact h
theorem okS_app {a b : List Nat} : okS (a ++ b) = (okS a && okS b) := by simp [okS]
theorem dEq_S {a b : List Nat} (h1 : okS a = true) (h2 : okS b = true) : dEq (.str (S a)) (.str (S b)) = .ok (.bl (decide (a = b))) := by
  rw [dEq_s (strOk_S h1) (strOk_S h2)]
  have : (S a == S b) = decide (a = b) := by
    by_cases e : a = b
    · subst e; simp
    · have : ¬ S a = S b := fun h => e (S_inj.mp h)
      simp [e, this]
  rw [this]
theorem foldl_app (x : Array Nat) (n : Nat) : ∀ z : Array Nat, ((List.replicate n x).foldl (· ++ ·) z).toList = z.toList ++ (List.replicate n x.toList).flatten := by
  induction n with
  | zero => intro z; simp
  | succ n ih => intro z; rw [List.replicate_succ, List.foldl_cons, ih, List.replicate_succ, List.flatten_cons]; simp
theorem dMul_s {a : List Nat} {n : Int} (h0 : -1000 ≤ n) (h1 : n ≤ 1000) (h2 : a.length ≤ 1000) : dMul (.str (S a)) (.int n) = .ok (.str (S (List.replicate n.toNat a).flatten)) := by
  show (if -1000 ≤ n ∧ n ≤ 1000 ∧ (S a).length ≤ 1000 then Out.ok (D.str (repS (S a) n)) else .stuck) = _
  rw [if_pos ⟨h0, h1, by rw [S_len]; exact h2⟩]
  have : repS (S a) n = S (List.replicate n.toNat a).flatten := by
    unfold repS
    by_cases e1 : n < 1
    · rw [if_pos e1]
      have : n.toNat = 0 := by omega
      rw [this]; rfl
    · rw [if_neg e1]
      by_cases e2 : (n == 1 || (S a).length == 0) = true
      · rw [if_pos e2]
        rw [S_len] at e2
        simp only [Bool.or_eq_true, beq_iff_eq] at e2
        rcases e2 with e2 | e2
        · subst e2; simp
        · have : a = [] := List.length_eq_zero_iff.mp e2
          subst this
          simp
      · rw [if_neg e2]
        have z := foldl_app (S a).cps n.toNat #[]
        rw [S_list] at z
        show (⟨_⟩ : Str) = ⟨_⟩
        congr 1
        rw [← Array.toList_inj, z]
        simp
  rw [this]
theorem strL_S : ∀ ys : List (List Nat), strL (ys.map fun y => D.str (S y)) = some (ys.map S)
  | [] => rfl
  | y :: ys => by
    show (match strL (ys.map fun y => D.str (S y)) with | some zs => some (S y :: zs) | none => none) = _
    rw [strL_S ys]; rfl
theorem join_fold : ∀ (ys : List (List Nat)) (z : Array Nat), (((ys.map S).foldl (fun acc p => acc ++ (S []).cps ++ p.cps) z)).toList = z.toList ++ ys.flatten
  | [], z => by simp
  | y :: ys, z => by
    rw [List.map_cons, List.foldl_cons, join_fold ys, List.flatten_cons]
    simp [S]
theorem dJoin_S {ys : List (List Nat)} (h : (ys.map List.length).sum ≤ line) : dJoin (S []) (.lst (ys.map fun y => .str (S y))) = .ok (.str (S ys.flatten)) := by
  show joinD (S []) (ys.map fun y => D.str (S y)) = _
  unfold joinD
  rw [strL_S]
  have e : ((ys.map S).map (·.length)).sum + (ys.map S).length * (S []).length = (ys.map List.length).sum := by
    rw [List.map_map, S_len]
    have : (fun x => Str.length x) ∘ S = List.length := by funext x; exact S_len x
    rw [this]; simp
  simp only [e, if_pos h]
  have : joinS (S []) (ys.map S) = S ys.flatten := by
    unfold joinS
    show (⟨_⟩ : Str) = ⟨_⟩
    congr 1
    rw [← Array.toList_inj]
    cases ys with
    | nil => rfl
    | cons y ys =>
      show (((ys.map S).foldl (fun acc p => acc ++ (S []).cps ++ p.cps) (S y).cps)).toList = _
      rw [join_fold, S_list]; simp
  rw [this]
end M
/-! MHot: defs called within an except suite; tuple(reversed(..)). -/
namespace M
open PySem PySem.Spec PyProof.Rows L2
section
variable {X : Cx} {a : Addr} {cls : Value} {d : Option Addr} {oe : Obj} {pn : List (Addr × Obj)}
/-- a suite is hot -/
theorem hot_suite (hz : L2N.Zn cls d oe) (hf : ∃ vs, oe.data = .fields vs) : L2H.HotC (X.suite a ((a, oe) :: pn)) := by
  obtain ⟨vs, hv⟩ := hf
  exact ⟨(a, oe), ⟨rfl, vs, hv, hz.2.2 vs hv⟩, List.mem_cons_self⟩
theorem roomH_suite {k : Nat} {j : Nat} (hr : Room k X.A) (h : j ≤ k) : L2H.RoomH j (X.suite a ((a, oe) :: pn)).A :=
  ⟨by have := hr.dp; show X.A.depth + 3 * j + 5 < _; omega, by have := hr.un; show X.A.units + 16 * j + 200 < _; omega⟩
theorem takes_no {X : Cx} : L2N.Takes X (fun _ _ _ _ => False) := fun _ _ ⟨_, _, _, _, _, _, _, _, _, _, _, _, _, _, _, _, w⟩ => w.elim
end
theorem hu64S {X : Cx} {a : Addr} {pn : List (Addr × Obj)} {k : Nat} (hr : Room k X.A) : (X.suite a pn).A.units + 80 < cLine := by have := hr.un; show X.A.units + 80 < _; omega
theorem hu2S {X : Cx} {a : Addr} {pn : List (Addr × Obj)} {k : Nat} (hr : Room k X.A) : (X.suite a pn).A.units < cLine := by have := hr.un; show X.A.units < _; omega
theorem hu64H {A : Around} {k : Nat} (hr : L2H.RoomH k A) : A.units + 80 < cLine := by have := hr.un; omega
theorem hu2H {A : Around} {k : Nat} (hr : L2H.RoomH k A) : A.units < cLine := by have := hr.un; omega
section
variable {X : Cx} {j : Jc} {e : Expr} {es : List Expr} {al : CA} {x : Str} {pos : Pos}
theorem mc_callH {k : Nat} {f : Addr} {fd : FuncData} {ps : List Str} {F : Fn} {q : Pos} (Fo : L2H.FnH X.prog X.w X.K X.mg X.base (L2N.CX X.prog X.w) k f fd ps (spF X.K j.ca F)) (hr : L2H.RoomH k X.A) (hc : L2H.HotC X) (hg : Gl X x) (hm : X.mg x = some (.ref f)) (hk : PySem.W.keepIn X.K (.ref f) = true) (hb : Binds X.K fd ps []) (tk : L2N.Takes X j.W)
    (ha : MA X j (e :: es) al) (hdb : (x == ("__debug__" : Str)) = false := by decide) (he : starEach (e :: es) X.env = (false, eval e X.env) :: starEach es X.env := by rfl) (hpl : (backTo pos (starEach es X.env)).any (·.1) = false := by rfl) :
    MC X j (.Call (.Name x q) (e :: es) [] pos) F al := L2H.pe_callH Fo hr hc hg hm hk hb (fun σ => L2N.passAt tk σ) ha hdb he hpl
end
section
variable {X : Cx} {j : Jc} {e : Expr} {ce : CE} {p p2 pos pos2 : Pos}
theorem me_tupRev (hc : X.calm = true) (hg : Gl X "tuple") (hm : X.mg "tuple" = none) (hg2 : Gl X "reversed") (hm2 : X.mg "reversed" = none) (he : ME X j e ce)
    (hs : starEach [e] X.env = (false, eval e X.env) :: starEach [] X.env := by rfl)
    (hs2 : starEach [.Call (.Name "reversed" p2) [e] [] pos2] X.env = (false, eval (.Call (.Name "reversed" p2) [e] [] pos2) X.env) :: starEach [] X.env := by rfl) :
    ME X j (.Call (.Name "tuple" p) [.Call (.Name "reversed" p2) [e] [] pos2] [] pos) (eOp1 dTupRev ce) := by
  refine PE.imp (RT.pe_tupRev hc hg hm hg2 hm2 he hs hs2) fun σ H Q ⟨G, Hf, env, r, m⟩ => ⟨G, Hf, env, r, m.bind.imp fun x Hf1 H1 _ p1 m1 v rv => ?_⟩
  cases x with
  | lst xs =>
    unfold Rep at rv
    obtain ⟨a, us, rfl, a1, a2⟩ := rv
    have m1 : OutP X.K j.ca j.W σ Hf1 H1 (.ok (D.tup xs.reverse)) _ := m1
    exact ⟨a, us, rfl, p1.sub.seq a1, fun q hq => m1.newT p1.sub (RepL.rev a2) q hq⟩
  | _ => exact (OutP.no m1).elim
end
section
theorem strL_rep {K : PySem.W.Frag} {ca : Nat → Addr} {H : Hp} : ∀ {xs : List D} {ys : List Str} {vs : List V}, strL xs = some ys → RepL K ca H xs vs → vs = ys.map V.str
  | [], ys, vs, h, r => by cases h; unfold RepL at r; rw [r]; rfl
  | x :: xs, ys, vs, h, r => by
    unfold RepL at r
    obtain ⟨v, rr, rfl, h1, h2⟩ := r
    cases x with
    | str z =>
      unfold strL at h
      cases q : strL xs with
      | none => rw [q] at h; cases h
      | some zs =>
        rw [q] at h
        cases h
        have h1 : v = .str z := h1
        rw [h1, strL_rep q h2]; rfl
    | _ => cases h
variable {X : Cx} {j : Jc} {o e : Expr} {co ce : CE} {apos pos : Pos}
theorem me_join (ho : ME X j o co) (he : MP X j e ce) (hs : starEach [e] X.env = [(false, eval e X.env)] := by rfl) (hbase : attributeBase o "join" X.env (eval o X.env) = eval o X.env := by rfl) (hline : (apos.endLine == pos.line) = true := by rfl) :
    ME X j (.Call (.Attribute o "join" apos) [e] [] pos) (eJoin co ce) := by
  refine PE.imp (pe_join ho he hs hbase hline) fun σ H Q ⟨G, Hf, env, r, m⟩ => ⟨G, Hf, env, r, m.bind.imp fun x Hf1 H1 _ p1 m1 v rv => ?_⟩
  cases x with
  | str a =>
    have rv : v = .str a := rv
    refine ⟨⟨a, rv⟩, G, Hf1, env, r.grow p1, m1.bind.imp fun y Hf2 H2 _ p2 m2 u ru => ?_⟩
    have done : ∀ (xs : List D) (p : Addr) (vs : List V), OutP X.K j.ca j.W σ Hf2 H2 (joinD a xs) (fun d Hf' H' => ∀ v, Rep X.K j.ca Hf' d v → Q v H') → RepL X.K j.ca Hf2 xs vs → (SqL X.K H2 p vs ∨ SqT X.K H2 p vs) → u = .ref p →
        ∃ a p, ∃ ys : List Str, v = .str a ∧ [u] = [.ref p] ∧ (SqL X.K H2 p (ys.map V.str) ∨ SqT X.K H2 p (ys.map V.str)) ∧ (ys.map (·.length)).sum + ys.length * a.length ≤ 16777216 ∧ Q (.str (Txt.join a ys)) H2 := fun xs p vs m2 hr hq eu => by
      unfold joinD at m2
      split at m2
      · rename_i ys hy
        split at m2
        · rename_i hz
          have := strL_rep hy hr
          subst this
          exact ⟨a, p, ys, rv, by rw [eu], hq, hz, m2.rep p2.sub rfl⟩
        · exact m2.no.elim
      · exact m2.no.elim
    cases y with
    | lst xs =>
      obtain ⟨p, vs, rfl, a1, a2⟩ := pLst ru
      exact done xs p vs m2 a2 (.inl a1) rfl
    | tup xs =>
      obtain ⟨p, vs, rfl, a1, a2⟩ := pTup p2.sub ru
      exact done xs p vs m2 a2 (.inr a1) rfl
    | _ => exact (OutP.no m2).elim
  | _ => exact (OutP.no m1).elim
end
section
variable {P : Program} {w : World} {K : PySem.W.Frag} {ca : Nat → Addr} {mg : Str → Option Value} {base : Heap}
theorem fn_okH {x qual : Str} {st : Stmt} {f : Addr} {fd : FuncData} {N ps : List Str} {k p n : Nat} {sb : CS} (F : Fun K x qual st f fd) (S : FnScope N ps (defScope st)) (hp : ps.length = p) (hn : N.length = n) (hpn : p ≤ n)
    (hbody : ∀ (cdv : Value) (A : Around) (outer : List PySem.Env) (s : Shared) (H : Hp) (E : XK) (pn : Addr × Obj), L2H.RoomH k (A.deeper (envOfC qual (defScope st) s.heap.objs.size f cdv)) →
      L2H.HotC (L2H.cxH (L2N.CX P w) P w K mg base N qual (defScope st) f cdv A outer s H E pn) →
      L2N.Takes (L2H.cxH (L2N.CX P w) P w K mg base N qual (defScope st) f cdv A outer s H E pn) (fun cls d _ H => E cls d H) →
      PassesOwn (model P w) (L2H.cxH (L2N.CX P w) P w K mg base N qual (defScope st) f cdv A outer s H E pn).A (L2H.cxH (L2N.CX P w) P w K mg base N qual (defScope st) f cdv A outer s H E pn).env (L2H.cxH (L2N.CX P w) P w K mg base N qual (defScope st) f cdv A outer s H E pn).xe →
      MSs (L2H.cxH (L2N.CX P w) P w K mg base N qual (defScope st) f cdv A outer s H E pn) ⟨ca, none, fun cls d _ H => E cls d H⟩ (defBody st) sb) :
    L2H.FnH P w K mg base (L2N.CX P w) (k + 1) f fd ps (spF K ca (fn p n sb)) := by
  obtain ⟨oc, od, kV, doc, pm, an, cdv, ct, osl, rfl, lk, hcd⟩ := F.ex
  refine L2H.fn_ofH lk hcd S (fun vs H Q E h => ?_) fun A outer s H vs Q E pn hot hr hsp => ?_
  · obtain ⟨Hf, ds, s1, r1, m⟩ := h
    by_cases hl : ds.length = p
    · rw [hp, ← hl, r1.length]
    · simp [fn, hl] at m
  · have tk : L2N.Takes (L2H.cxH (L2N.CX P w) P w K mg base N qual (defScope st) f cdv A outer s H E pn) (fun cls d _ H => E cls d H) := L2N.takes_of rfl rfl rfl rfl
    have hc : L2H.HotC (L2H.cxH (L2N.CX P w) P w K mg base N qual (defScope st) f cdv A outer s H E pn) := ⟨pn, hot, List.mem_cons_self⟩
    have b := hbody cdv A outer s H E pn hr hc tk (L2.passes_of rfl)
    refine ⟨_, b, ?_⟩
    obtain ⟨Hf, ds, s1, r1, m⟩ := hsp
    by_cases hl : ds.length = p
    · have e : fn p n sb ds = (sb (startE n ds)).out := by unfold fn; rw [if_pos hl]
      rw [e] at m
      refine ⟨⟨Hf, H⟩, Hf, startE n ds, RR.start s1 r1 hn (by omega), ?_⟩
      generalize sb (startE n ds) = fl at m
      cases fl with
      | next e2 => exact fun σ Hf' H' r => m .non Hf' H' r.post rfl
      | ret sl =>
        cases sl with
        | val d => exact fun v Hf' H' p rv => m v Hf' H' p rv
        | own o => exact fun v Hf' H' p rv => m v Hf' H' p rv
        | un => exact m
        | exc x => exact m
      | exc x e2 => exact fun cls dd σ Hf' H' r rx => m cls dd Hf' H' r.post rx
      | brk e2 => exact m.elim
      | cont e2 => exact m.elim
      | stuck => exact m.elim
    · have e : fn p n sb ds = .stuck := by unfold fn; rw [if_neg hl]
      rw [e] at m
      exact m.elim
end
end M
namespace M
open PySem PySem.Spec PyProof.Rows L2
/-! ### global tuples -/
def GlobC (K : PySem.W.Frag) (ca : Nat → Addr) (mg : Str → Option Value) (x : Str) (d : D) : Prop := ∃ u v, mg x = some u ∧ RelV v u ∧ ∀ H, Rep K ca H d v
theorem me_globC {X : Cx} {j : Jc} {x : Str} {d : D} {pos : Pos} (hg : Gl X x) (h : GlobC X.K j.ca X.mg x d) (hd : (x == ("__debug__" : Str)) = false := by decide) : ME X j (.Name x pos) (eC d) := by
  obtain ⟨u, v, h1, h2, h3⟩ := h
  exact me_glob hg h1 h2 h3 hd
theorem globT {K : PySem.W.Frag} {ca : Nat → Addr} {mg : Str → Option Value} {x : Str} {a : Addr} {od : Option Addr} {its : Array Value} {n : Nat} {sl : Array (Option Value)} {ds : List D} {vs : List V} (hm : mg x = some (.ref a)) (hl : K.lookup a = some ⟨.type "tuple", od, .seq its n, sl⟩) (hs : its.size ≤ sizeLine)
    (hv : Vals vs its.toList) (hr : ∀ H, RepL K ca H ds vs) : GlobC K ca mg x (.tup ds) :=
  ⟨_, .ref a, hm, rfl, fun H => by unfold Rep; exact ⟨a, vs, rfl, .inr ⟨_, its, n, hl, rfl, rfl, hs, hv⟩, hr H⟩⟩
theorem repL_strs {K : PySem.W.Frag} {ca : Nat → Addr} {H : Hp} : ∀ zs : List Str, RepL K ca H (zs.map .str) (zs.map .str)
  | [] => by show RepL K ca H [] []; unfold RepL; rfl
  | z :: zs => by show RepL K ca H (.str z :: zs.map .str) _; unfold RepL; exact ⟨.str z, zs.map .str, rfl, rfl, repL_strs zs⟩
theorem repL_ints {K : PySem.W.Frag} {ca : Nat → Addr} {H : Hp} : ∀ zs : List Int, RepL K ca H (zs.map .int) (zs.map .int)
  | [] => by show RepL K ca H [] []; unfold RepL; rfl
  | z :: zs => by show RepL K ca H (.int z :: zs.map .int) _; unfold RepL; exact ⟨.int z, zs.map .int, rfl, rfl, repL_ints zs⟩
end M
/-! MDict: dicts, sorted. -/
namespace M
open PySem PySem.Spec PyProof.Rows L2
section
variable {K : PySem.W.Frag} {ca : Nat → Addr} {ea : Option (Addr × Value × Option Addr)} {G : Gh} {Hf H : Hp} {env : M.Env} {σ : L2.St}
theorem RR.pushO (r : RR K ca ea G Hf env σ H) {D : Addr} {o0 : Own} {ho : HO} (hD : H D = none) (how : OwnR K ca Hf (L2.upd H D ho) D [D] o0) : RR K ca ea G Hf (env ++ [.own o0]) (σ ++ [some (.ref D)]) (L2.upd H D ho) := by
  have p : Post Hf H Hf (L2.upd H D ho) := post_own r.sub hD
  have r1 := r.grow p
  obtain ⟨fps, l, m, k⟩ := r1.slots
  obtain ⟨fps0, l0, m0, k0⟩ := r.slots
  have g0 : G.H D = none := r.post.all.free hD
  have nD : ∀ a, (a ∈ fps0.flatten) → a ≠ D := fun a ha e => by subst e; exact (m0.2 a ha).2.2 hD
  refine ⟨r1.post, by simp [r.len], fps0 ++ [[D]], by simp [l0], ?_, ?_⟩
  · have mg := m0.grow p
    refine ⟨?_, fun a ha => ?_⟩
    · rw [List.flatten_append]
      refine List.nodup_append.mpr ⟨m0.1, by simp, fun a ha b hb e => ?_⟩
      have : b = D := by simpa using hb
      subst this
      exact nD a ha e
    · rw [List.flatten_append] at ha
      rcases List.mem_append.mp ha with z | z
      · exact mg.2 a z
      · have : a = D := by simpa using z
        subst this
        exact ⟨r.sub.free hD, g0, by rw [upd_same]; simp⟩
  · intro i s o fp e1 e2 e3
    by_cases hi : i < env.length
    · rw [List.getElem?_append_left hi] at e1
      rw [List.getElem?_append_left (by rw [← r.len]; exact hi)] at e2
      rw [List.getElem?_append_left (by rw [l0]; exact hi)] at e3
      have z := k0 i s o fp e1 e2 e3
      cases s with
      | un => trivial
      | val d => obtain ⟨v, k1, k2⟩ := z; exact ⟨v, k1, k2⟩
      | own w => obtain ⟨a, k1, k2⟩ := z; exact ⟨a, k1, k2.grow p⟩
      | exc x => obtain ⟨a, cls, d, k1, k2, k3⟩ := z; exact ⟨a, cls, d, k1, k2, k3⟩
    · have hle : i = env.length := by
        have := (List.getElem?_eq_some_iff.mp e1).1
        simp at this; omega
      subst hle
      rw [List.getElem?_append_right (Nat.le_refl _)] at e1
      rw [List.getElem?_append_right (by rw [r.len]; exact Nat.le_refl _), r.len, Nat.sub_self] at e2
      rw [List.getElem?_append_right (by rw [l0]; exact Nat.le_refl _), l0, Nat.sub_self] at e3
      simp at e1 e2 e3
      subst e1; subst e2; subst e3
      exact ⟨D, rfl, how⟩
/-- our own thing is changed -/
theorem RR.updO (r : RR K ca ea G Hf env σ H) {i : Nat} {o o2 : Own} {ho : HO} {p : Addr} (he : env[i]? = some (.own o)) (hs : σ[i]? = some (some (.ref p))) (hfp : ∀ fp, OwnR K ca Hf H p fp o → fp = [p]) (how : OwnR K ca Hf (L2.upd H p ho) p [p] o2) :
    RR K ca ea G Hf (env.set i (.own o2)) σ (L2.upd H p ho) := by
  obtain ⟨fps, l, m, k⟩ := r.slots
  have h1 : i < env.length := (List.getElem?_eq_some_iff.mp he).1
  have h3 : i < fps.length := by rw [l]; exact h1
  obtain ⟨p', e0, ow⟩ := k i _ _ _ he hs (List.getElem?_eq_getElem h3)
  cases e0
  have ef := hfp _ ow
  have hpm : p ∈ fps.flatten := List.mem_flatten.mpr ⟨fps[i], List.getElem_mem h3, by rw [ef]; simp⟩
  obtain ⟨m1, m2, m3⟩ := m.2 p hpm
  refine ⟨⟨r.post.sh, fun b x e => ?_, fun b x e => ?_, r.post.new⟩, by simp [r.len], fps, by simp [l], ⟨m.1, fun a ha => ?_⟩, fun j s' o' fp' e1 e2 e3 => ?_⟩
  · rw [upd_ne (ne_of_none e m2)]; exact r.post.all _ _ e
  · rw [upd_ne (ne_of_none e m1)]; exact r.post.sub _ _ e
  · obtain ⟨z1, z2, z3⟩ := m.2 a ha
    refine ⟨z1, z2, ?_⟩
    by_cases hb : a = p
    · subst hb; rw [upd_same]; simp
    · rw [upd_ne hb]; exact z3
  · by_cases hj : i = j
    · subst hj
      rw [List.getElem?_set_self h1] at e1
      cases e1
      rw [hs] at e2; cases e2
      rw [List.getElem?_eq_getElem h3] at e3; cases e3
      rw [ef]
      exact ⟨p, rfl, how⟩
    · rw [List.getElem?_set_ne hj] at e1
      have z := k j s' o' fp' e1 e2 e3
      cases s' with
      | un => trivial
      | val d => exact z
      | exc x => exact z
      | own w =>
        obtain ⟨q, k1, k2⟩ := z
        have np : p ∉ fp' := nodup_flat_ne m.1 (List.getElem?_eq_getElem h3) e3 hj (by rw [ef]; simp)
        refine ⟨q, k1, ?_⟩
        cases w with
        | dct ks' vs' =>
          obtain ⟨us', ⟨kvs, q0, q1⟩, q2, q3⟩ := k2
          subst q3
          exact ⟨us', ⟨kvs, by rw [upd_ne (fun z => np (by simp [z]))]; exact q0, q1⟩, q2, rfl⟩
        | lst xs' =>
          obtain ⟨vs', q1, q2, q3⟩ := k2
          subst q3
          exact ⟨vs', by rw [upd_ne (fun z => np (by simp [z]))]; exact q1, q2, rfl⟩
        | lst2 xss =>
          obtain ⟨ps, q1, q2, q3, q4⟩ := k2
          subst q2
          refine ⟨ps, by rw [upd_ne (fun z => np (by simp [z]))]; exact q1, rfl, q3, fun n q' xs'' w1 w2 => ?_⟩
          obtain ⟨vs', y1, y2⟩ := q4 n q' xs'' w1 w2
          exact ⟨vs', by rw [upd_ne (fun z => np (by rw [← z]; exact List.mem_cons_of_mem _ (List.mem_of_getElem? w1)))]; exact y1, y2⟩
theorem ownD {Hf H : Hp} {p : Addr} {kvs : List (L2.Key × V)} {vs : List D} (h : H p = some (.dK kvs)) (r : RepL K ca Hf vs (kvs.map (·.2))) : OwnR K ca Hf H p [p] (.dct (kvs.map fun q => keyD q.1) vs) :=
  ⟨_, ⟨kvs, h, rfl, rfl⟩, r, rfl⟩
theorem ownD_fp {Hf H : Hp} {p : Addr} {ks vs : List D} : ∀ fp, OwnR K ca Hf H p fp (.dct ks vs) → fp = [p] := fun fp ⟨_, _, _, h⟩ => h
end
section
variable {X : Cx} {j : Jc} {e : Expr} {ce ck : CE} {pos pos' : Pos}
/-- {} -/
theorem mf_dict0 : MF X j (.Dict [] [] pos) fDct0 := by
  refine PE.imp pe_dnewK fun σ H Q ⟨G, Hf, env, r, m⟩ p hp => ?_
  have m : OutP X.K j.ca j.W σ Hf H (.ok (Own.dct [] [])) _ := m
  exact m _ _ (post_own r.sub hp) _ ⟨p, [p], rfl, ownD (kvs := []) upd_same (by unfold RepL; rfl), by simp, fun a ha => by
    have e : a = p := by simpa using ha
    subst e
    exact ⟨r.sub.free hp, hp, by rw [upd_same]; simp⟩⟩
/-- d[k] = v -/
theorem ms_put {i : Nat} {o k v : Expr} (hu : X.A.units + 80 < cLine) (ho : PE X o (tVar i)) (hk : ME X j k ck) (hv : ME X j v ce) (hs : swapsWith v (some (.Subscript o k pos')) pos.line X.env = pure false := by rfl) :
    MS X j (.Assign [.Subscript o k pos'] v pos) (sPut i ck ce) := by
  refine ms_imp (ps_dput (by omega) ho hk hv hs) fun D σ H G Hf env r m => ?_
  unfold sPut at m
  refine ⟨G, Hf, env, r, (TFl.fl r m).imp fun d Hf1 H1 _ p1 m1 v rv => ?_⟩
  split at m1
  · rename_i ks vs hx
    obtain ⟨p, fp, h1, us, ⟨kvs, h2, e1, e2⟩, h3, _⟩ := slot_own r hx
    subst e1; subst e2
    refine ⟨.ref p, h1, ?_⟩
    have r1 := r.grow p1
    refine ⟨G, Hf1, env, r1, (TFl.fl r1 m1).imp fun dk Hf2 H2 _ p2 m2 u ru => ?_⟩
    split at m2
    · rename_i hz
      obtain ⟨a, rfl⟩ := keyOk_is hz.1
      rw [key_v ru]
      have pp := p1.trans p2
      have r2 := r1.grow p2
      have hp : H2 p = some (.dK kvs) := pp.all _ _ h2
      have h3' := RepL.mono pp.sh _ _ h3
      refine ⟨p, L2.upd H2 p (.dK (putK kvs a v)), rfl, DPut.k hp (by rw [← line_eq]; have := hz.2; rw [List.length_map] at this; exact this), ?_⟩
      have q := put_rep a (Rep.mono p2.sh _ _ rv) h3'
      rw [put_ks a v] at m2
      exact m2 _ _ _ (r2.updO (ho := .dK (putK kvs a v)) hx h1 ownD_fp (ownD upd_same q))
    · exact m2.elim
  · exact m1.elim
/-- d.pop(k) -/
theorem ms_pop {i : Nat} {o k : Expr} {apos cpos : Pos} (ho : PE X o (tVar i)) (hk : ME X j k ck) (hm : M1 X o "pop" apos k cpos) (hs : swapsWith (.Call (.Attribute o "pop" apos) [k] [] cpos) none pos.line X.env = pure false := by rfl) :
    MS X j (.Expr (.Call (.Attribute o "pop" apos) [k] [] cpos) pos) (sPop i ck) := by
  refine ms_imp (ps_expr (pe_dpop1 ho hk hm) hs) fun D σ H G Hf env r m => ?_
  unfold sPop at m
  split at m
  · rename_i ks vs hx
    obtain ⟨p, fp, h1, us, ⟨kvs, h2, e1, e2⟩, h3, _⟩ := slot_own r hx
    subst e1; subst e2
    refine ⟨.ref p, h1, p, rfl, .inl ⟨kvs, .inl h2⟩, ?_⟩
    refine ⟨G, Hf, env, r, (TFl.fl r m).imp fun dk Hf2 H2 _ p2 m2 u ru => ?_⟩
    split at m2
    · rename_i hz
      obtain ⟨a, rfl⟩ := keyOk_is hz.1
      rw [key_v ru]
      have hp : H2 p = some (.dK kvs) := p2.all _ _ h2
      have h3' := RepL.mono p2.sh _ _ h3
      have hh := hz.2
      rw [has_any, valV_any] at hh
      obtain ⟨w, hw⟩ := Option.isSome_iff_exists.mp hh
      refine ⟨kvs, a, w, hp, rfl, hw, ?_⟩
      have q := drop_rep a h3'
      rw [drop_ks a] at m2
      exact m2 _ _ _ ((r.grow p2).updO (ho := .dK (dropK kvs a)) hx h1 ownD_fp (ownD upd_same q))
    · exact m2.elim
  · exact m.elim
end
/-! ### sorted -/
theorem sortI_eq {ns ys : List Int} (h1 : ys.Perm ns) (h2 : ys.Pairwise (· ≤ ·)) : ys = sortI ns := by
  refine List.Perm.eq_of_pairwise (le := fun a b : Int => a ≤ b) (fun a b _ _ h1 h2 => by omega) h2 ?_ (h1.trans (List.mergeSort_perm ns _).symm)
  have := List.pairwise_mergeSort (le := fun a b : Int => decide (a ≤ b)) (fun a b c h1 h2 => by simp at *; omega) (fun a b => by simp; omega) ns
  exact this.imp fun h => by simpa using h
theorem intL_map : ∀ {xs : List D} {ns : List Int}, intL xs = some ns → xs = ns.map .int
  | [], ns, h => by cases h; rfl
  | x :: xs, ns, h => by
    unfold intL at h
    cases x with
    | int i =>
      cases q : intL xs with
      | none => rw [q] at h; cases h
      | some ms => rw [q] at h; cases h; rw [intL_map q]; rfl
    | _ => cases q : intL xs <;> rw [q] at h <;> cases h
theorem repL_is {K : PySem.W.Frag} {ca : Nat → Addr} {H : Hp} : ∀ {ns : List Int} {vs : List V}, RepL K ca H (ns.map .int) vs → vs = ns.map V.int
  | [], vs, h => by
    have h : RepL K ca H [] vs := h
    unfold RepL at h; rw [h]; rfl
  | i :: ns, vs, h => by
    have h : RepL K ca H (.int i :: ns.map .int) vs := h
    unfold RepL at h
    obtain ⟨v, r, rfl, h1, h2⟩ := h
    have h1 : v = .int i := h1
    rw [h1, repL_is h2]; rfl
theorem repL_of_ints {K : PySem.W.Frag} {ca : Nat → Addr} {H : Hp} : ∀ zs : List Int, RepL K ca H (zs.map .int) (zs.map .int)
  | [] => by show RepL K ca H [] []; unfold RepL; rfl
  | z :: zs => by show RepL K ca H (.int z :: zs.map .int) _; unfold RepL; exact ⟨.int z, zs.map .int, rfl, rfl, repL_of_ints zs⟩
theorem keys_ints : ∀ {kvs : List (L2.Key × V)} {ns : List Int}, kvs.map (fun p => keyD p.1) = ns.map D.int → kvs.map (·.1) = ns.map Sum.inl
  | [], ns, h => by
    cases ns with
    | nil => rfl
    | cons n ns => cases h
  | p :: kvs, ns, h => by
    cases ns with
    | nil => cases h
    | cons n ns =>
      rw [List.map_cons, List.map_cons] at h
      injection h with h1 h2
      rw [List.map_cons, List.map_cons, keys_ints h2]
      congr 1
      cases q : p.1 with
      | inl i => rw [q] at h1; cases h1; rfl
      | inr x => rw [q] at h1; cases h1
theorem bf_sorted {X : Cx} {ca : Nat → Addr} (hc : X.calm = true) : BF X ca (.builtin "sorted") dSorted := by
  refine ⟨_, cr_sortedI.or (call_sortedDI hc), fun W σ Hf H xs vs Q s h m => ?_⟩
  unfold dSorted at m
  split at m
  · split at m
    · rename_i ns hn
      obtain ⟨v, rfl, h1⟩ := pRepL1 h
      obtain ⟨a, us, rfl, a1, a2⟩ := pLst h1
      rw [intL_map hn] at a2
      have := repL_is a2
      subst this
      refine .inl ⟨a, ns, rfl, a1, fun ns' p q1 q2 hp => ?_⟩
      rw [sortI_eq q1 q2]
      exact OutP.ok m s p _ hp (repL_of_ints _)
    · exact m.no.elim
  · split at m
    · rename_i ns hn
      split at m
      · rename_i hz
        obtain ⟨v, rfl, h1⟩ := pRepL1 h
        obtain ⟨a, kvs, rfl, a1, a2, a3⟩ := pDct h1
        rw [intL_map hn] at a2
        refine .inr ⟨a, kvs, ns, rfl, .inl a1, keys_ints a2.symm, hz, fun ns' p q1 q2 hp => ?_⟩
        rw [sortI_eq q1 q2]
        exact OutP.ok m s p _ hp (repL_of_ints _)
      · exact m.no.elim
    · exact m.no.elim
  · exact m.no.elim
/-! ### dict comprehensions -/
section
variable {K : PySem.W.Frag} {ca : Nat → Addr} {ea : Option (Addr × Value × Option Addr)} {G : Gh} {Hf H : Hp} {env : M.Env} {σ : L2.St}
theorem RR.lastD {D : Addr} {ks vs : List M.D} (r : RR K ca ea G Hf (env ++ [.own (.dct ks vs)]) (σ ++ [some (.ref D)]) H) : ∃ kvs, H D = some (.dK kvs) ∧ ks = kvs.map (fun p => keyD p.1) ∧ RepL K ca Hf vs (kvs.map (·.2)) ∧ Hf D = none := by
  have hl : env.length = σ.length := by have := r.len; simpa using this
  obtain ⟨p, fp, e, ow, mi⟩ := r.ownV (i := env.length) (o := .dct ks vs) (v := .ref D) (by rw [List.getElem?_append_right (Nat.le_refl _)]; simp) (by rw [List.getElem?_append_right (by omega), hl]; simp)
  cases e
  obtain ⟨us, ⟨kvs, h1, h2, h3⟩, h4, h5⟩ := ow
  subst h3; subst h5
  exact ⟨kvs, h1, h2, h4, (mi.2 D (by simp)).1⟩
theorem RR.updLastD {D : Addr} {o o2 : Own} {ho : HO} (r : RR K ca ea G Hf (env ++ [.own o]) (σ ++ [some (.ref D)]) H) (hfp : ∀ fp, OwnR K ca Hf H D fp o → fp = [D]) (how : OwnR K ca Hf (L2.upd H D ho) D [D] o2) :
    RR K ca ea G Hf (env ++ [.own o2]) (σ ++ [some (.ref D)]) (L2.upd H D ho) := by
  have hl : env.length = σ.length := by have := r.len; simpa using this
  have z := r.updO (i := env.length) (p := D) (by rw [List.getElem?_append_right (Nat.le_refl _)]; simp) (by rw [List.getElem?_append_right (by omega), hl]; simp) hfp how
  have e : (env ++ [Sl.own o]).set env.length (.own o2) = env ++ [.own o2] := by
    rw [List.set_append_right _ _ (Nat.le_refl _), Nat.sub_self]
    rfl
  rw [e] at z
  exact z
end
theorem dcGo_calm {g : Tg} {t : CT} {k e : CE} : ∀ {ds : List D} {env : Env} {ks vs : List D} (x : ExcV), dcGo g t k e ds env ks vs ≠ .exc x
  | [], env, ks, vs, x => fun h => nomatch h
  | d :: ds, env, ks, vs, x => by
    unfold dcGo
    cases g d env with
    | none => exact fun h => nomatch h
    | some e1 =>
      refine calm_bind (fun c x => ?_) x
      cases c with
      | true =>
        refine calm_bind (fun y x => ?_) x
        refine calm_bind (fun z x => ?_) x
        show (if keyOk y = true ∧ ks.length < line then _ else _) ≠ _
        by_cases h : keyOk y = true ∧ ks.length < line
        · rw [if_pos h]; exact dcGo_calm x
        · rw [if_neg h]; exact fun h => nomatch h
      | false => exact dcGo_calm x
theorem dc_read {K : PySem.W.Frag} {j : Jc} {vs : List Nat} {it : CA} {g : Tg} {t : CT} {k e : CE} {σ : L2.St} {H : Hp} {Q : VK} (h : TF K j (fDC vs it g t k e) σ H Q) :
    tDc (TIt K j it) (tMG K j.dry vs g) (TMT K j.dry t) (TM K j.dry k) (TM K j.dry e) vs σ H Q := by
  obtain ⟨G, Hf, env, r, m⟩ := h
  refine ⟨G, Hf, env, r, m.bind.imp fun ds Hf1 H1 _ p1 m1 J hJ D hD => ?_⟩
  obtain ⟨xs, hxs⟩ : ∃ xs, dcGo g t k e ds (wipeE env vs) [] [] = .ok xs := by
    cases q : dcGo g t k e ds (wipeE env vs) [] [] with
    | ok xs => exact ⟨xs, rfl⟩
    | exc x => exact absurd q (dcGo_calm x)
    | stuck => rw [q] at m1; exact m1.elim
  rw [hxs] at m1
  have r1 := r.grow p1
  have hw := (r1.wipe vs).pushO (o0 := .dct [] []) (ho := .dK []) hD (ownD (kvs := []) upd_same (by unfold RepL; rfl))
  refine ⟨fun i mm H => mm = ds.length - i ∧ ∃ Hf ks us, RR K j.ca j.ea G Hf (wipeE env vs ++ [.own (.dct ks us)]) (L2.wipe σ vs ++ [some (.ref D)]) H ∧ Same Hf1 Hf ∧ Post Hf1 H1 Hf H ∧ dcGo g t k e (ds.drop i) (wipeE env vs) ks us = .ok xs,
    ⟨_, rfl, Hf1, [], [], hw, Same.refl _, post_own p1.sub hD, by simpa using hxs⟩, ?_⟩
  rintro i mm H2 ⟨rfl, Hf2, ks, us, r2, s2, q2, e2⟩
  by_cases hlt : i < ds.length
  · refine .inr ⟨hJ.go i Hf2 H2 s2 r2.sub hlt, fun H => ∃ Hf ks us, RR K j.ca j.ea G Hf (wipeE env vs ++ [.own (.dct ks us)]) (L2.wipe σ vs ++ [some (.ref D)]) H ∧ Same Hf1 Hf ∧ Post Hf1 H1 Hf H ∧ dcGo g t k e (ds.drop (i + 1)) (wipeE env vs) ks us = .ok xs, fun H' h => ⟨ds.length - (i + 1), by omega, rfl, h⟩, fun x H' y => ?_⟩
    obtain ⟨Hf3, p3, rx⟩ := hJ.yld i Hf2 H2 x H' ds[i] s2 r2.sub (List.getElem?_eq_getElem hlt) y
    rw [drop_at hlt] at e2
    unfold dcGo at e2
    cases hg : g ds[i] (wipeE env vs) with
    | none => rw [hg] at e2; cases e2
    | some e1 =>
      rw [hg] at e2
      obtain ⟨c, hc, e3⟩ := calm_ok e2
      have r3 := r2.grow p3
      refine ⟨G, Hf3, _, ds[i], e1, r3.pop, rx, hg, fun σ2 rt hwt => ⟨hwt.trans wipe_wipe, ?_⟩⟩
      refine ⟨G, Hf3, e1, rt, ?_⟩
      show OutP K j.ca _ _ _ _ (t e1) _
      rw [hc]
      intro Hf4 H4 p4
      cases c with
      | false => exact ⟨Hf4, ks, us, r3.grow p4, (s2.trans p3.sh).trans p4.sh, (q2.trans p3).trans p4, e3⟩
      | true =>
        have e3 : ((k e1).calm.bind fun x => (e e1).calm.bind fun y => if keyOk x = true ∧ ks.length < line then dcGo g t k e (ds.drop (i + 1)) (wipeE env vs) (putKs ks x) (putVs ks us x y) else .stuck) = .ok xs := e3
        obtain ⟨kd, hk, e4⟩ := calm_ok e3
        obtain ⟨yd, hy, e5⟩ := calm_ok e4
        refine ⟨G, Hf4, e1, rt.grow p4, ?_⟩
        show OutP K j.ca _ _ _ _ (k e1) _
        rw [hk]
        intro Hf5 H5 p5 kv rk
        refine ⟨G, Hf5, e1, (rt.grow p4).grow p5, ?_⟩
        show OutP K j.ca _ _ _ _ (e e1) _
        rw [hy]
        intro Hf6 H6 p6 v rv
        have r6 := ((r3.grow p4).grow p5).grow p6
        obtain ⟨kvs, u1, u2, u3, u4⟩ := r6.lastD
        subst u2
        have hz : keyOk kd = true ∧ (kvs.map fun p => keyD p.1).length < line := by
          by_cases h : keyOk kd = true ∧ (kvs.map fun p => keyD p.1).length < line
          · exact h
          · rw [if_neg h] at e5; cases e5
        rw [if_pos hz] at e5
        obtain ⟨a, rfl⟩ := keyOk_is hz.1
        rw [put_ks a v] at e5
        refine ⟨kvs, a, key_v rk, u1, by rw [← line_eq]; have := hz.2; rw [List.length_map] at this; exact this, Hf6, _, _, r6.updLastD (ho := .dK (putK kvs a v)) ownD_fp (ownD upd_same (put_rep a rv u3)), (((s2.trans p3.sh).trans p4.sh).trans p5.sh).trans p6.sh, ((((q2.trans p3).trans p4).trans p5).trans p6).updNew hD u4, e5⟩
  · refine .inl ⟨hJ.stop i Hf2 H2 s2 r2.sub (by omega), ?_⟩
    rw [List.drop_eq_nil_of_le (by omega)] at e2
    cases e2
    obtain ⟨kvs, u1, u2, u3, u4⟩ := r2.lastD
    subst u2
    exact m1 Hf2 H2 q2 _ ⟨D, [D], rfl, ownD u1 u3, by simp, fun a ha => by
      have : a = D := by simpa using ha
      subst this
      exact ⟨u4, p1.all.free hD, by rw [u1]; simp⟩⟩
section
variable {X : Cx} {j : Jc} {kx vx tg iter : Expr} {ifs : List Expr} {scope : Scope} {own : List (Str × Nat)} {vs : List Nat} {pos : Pos} {it : CA} {g : Tg} {t : CT} {k e : CE}
theorem mf_dc (hc : X.calm = true) (hN : X.N.Nodup) (hi : MI X j tg iter it) (ok : BlkOk X.N X.env.scope scope own) (hv : own.map (·.2) = vs)
    (hg : ∀ (s : Shared) (H : Hp) (C : Addr) (cl : List (Str × Addr)) (fp : List Addr), MG (X.blk s H scope (compEnvC scope cl C X.env) fp) j.dry vs tg g) (ht : ∀ (s : Shared) (H : Hp) (C : Addr) (cl : List (Str × Addr)) (fp : List Addr), PTs (X.blk s H scope (compEnvC scope cl C X.env) fp) ifs (TMT X.K j.dry t))
    (hk : ∀ (s : Shared) (H : Hp) (C : Addr) (cl : List (Str × Addr)) (fp : List Addr), ME (X.blk s H scope (compEnvC scope cl C X.env) fp) j.dry kx k)
    (he : ∀ (s : Shared) (H : Hp) (C : Addr) (cl : List (Str × Addr)) (fp : List Addr), ME (X.blk s H scope (compEnvC scope cl C X.env) fp) j.dry vx e) (hs : ∀ x, foldedSetIterable iter X.env x = pure x := by intro _; rfl) :
    MF X j (.DictComp kx vx [⟨tg, iter, ifs, 0⟩] scope pos) (fDC vs it g t k e) := by
  subst hv
  exact PE.imp (pe_dc (g := tMG X.K j.dry _ g) (tt := TMT X.K j.dry t) (tk := TM X.K j.dry k) (tv := TM X.K j.dry e) hc hN hi ok hg ht hk he hs) fun σ H Q h => dc_read h
end
end M
/-! MDv: dicts as rows of pairs. -/
namespace M
open PySem (Str)
section
variable {κ α β : Type} [DecidableEq κ]
def look : List (κ × α) → κ → Option α
  | [], _ => none
  | p :: l, k => if p.1 = k then some p.2 else look l k
def putL (l : List (κ × α)) (k : κ) (v : α) : List (κ × α) := if (look l k).isSome = true then l.map fun p => if p.1 = k then (p.1, v) else p else l ++ [(k, v)]
def popL (l : List (κ × α)) (k : κ) : List (κ × α) := l.filter fun p => !decide (p.1 = k)
theorem look_cons (p : κ × α) (l : List (κ × α)) (k : κ) : look (p :: l) k = if p.1 = k then some p.2 else look l k := rfl
theorem look_app (a b : List (κ × α)) (k : κ) : look (a ++ b) k = (look a k).orElse fun _ => look b k := by
  induction a with
  | nil => rfl
  | cons p a ih =>
    show (if p.1 = k then some p.2 else look (a ++ b) k) = (if p.1 = k then some p.2 else look a k).orElse _
    by_cases h : p.1 = k
    · rw [if_pos h, if_pos h]; rfl
    · rw [if_neg h, if_neg h, ih]
theorem look_map (f : α → β) (l : List (κ × α)) (k : κ) : look (l.map fun p => (p.1, f p.2)) k = (look l k).map f := by
  induction l with
  | nil => rfl
  | cons p l ih =>
    show (if p.1 = k then some (f p.2) else look (l.map fun p => (p.1, f p.2)) k) = (if p.1 = k then some p.2 else look l k).map f
    by_cases h : p.1 = k
    · rw [if_pos h, if_pos h]; rfl
    · rw [if_neg h, if_neg h, ih]
theorem look_set (l : List (κ × α)) (k : κ) (v : α) (j : κ) : look (l.map fun p => if p.1 = k then (p.1, v) else p) j = if k = j then (look l j).map fun _ => v else look l j := by
  induction l with
  | nil => by_cases h : k = j <;> simp [h, look]
  | cons p l ih =>
    show look ((if p.1 = k then (p.1, v) else p) :: _) j = _
    by_cases h : p.1 = k
    · rw [if_pos h]
      show (if p.1 = j then some v else look _ j) = _
      rw [ih]
      by_cases hj : k = j
      · rw [if_pos (h.trans hj), if_pos hj]
        show _ = (if p.1 = j then some p.2 else _).map _
        rw [if_pos (h.trans hj)]; rfl
      · rw [if_neg (fun e => hj (h.symm.trans e)), if_neg hj, if_neg hj]
        show _ = if p.1 = j then _ else _
        rw [if_neg (fun e => hj (h.symm.trans e))]
    · rw [if_neg h]
      show (if p.1 = j then some p.2 else look _ j) = _
      rw [ih]
      by_cases hj : p.1 = j
      · have : ¬ k = j := fun e => h (hj.trans e.symm)
        rw [if_pos hj, if_neg this]
        show _ = if p.1 = j then _ else _
        rw [if_pos hj]
      · rw [if_neg hj, look_cons, if_neg hj]
theorem look_put (l : List (κ × α)) (k : κ) (v : α) (j : κ) : look (putL l k v) j = if k = j then some v else look l j := by
  unfold putL
  by_cases h : (look l k).isSome = true
  · rw [if_pos h, look_set]
    by_cases hj : k = j
    · subst hj
      rw [if_pos rfl, if_pos rfl]
      obtain ⟨w, hw⟩ := Option.isSome_iff_exists.mp h
      rw [hw]; rfl
    · rw [if_neg hj, if_neg hj]
  · rw [if_neg h, look_app]
    have hn : look l k = none := by simpa using h
    show (look l j).orElse (fun _ => if k = j then some v else none) = _
    by_cases hj : k = j
    · subst hj; simp [hn]
    · rw [if_neg hj, if_neg hj]; cases look l j <;> rfl
theorem look_pop (l : List (κ × α)) (k j : κ) : look (popL l k) j = if k = j then none else look l j := by
  induction l with
  | nil => by_cases h : k = j <;> simp [h, look, popL]
  | cons p l ih =>
    have e : popL (p :: l) k = if p.1 = k then popL l k else p :: popL l k := by
      unfold popL
      by_cases h : p.1 = k <;> simp [h]
    rw [e]
    by_cases h : p.1 = k
    · rw [if_pos h, ih]
      by_cases hj : k = j
      · rw [if_pos hj, if_pos hj]
      · rw [if_neg hj, if_neg hj]
        show _ = if p.1 = j then _ else _
        rw [if_neg fun e => hj (h.symm.trans e)]
    · rw [if_neg h]
      show (if p.1 = j then some p.2 else look (popL l k) j) = _
      rw [ih]
      by_cases hj : p.1 = j
      · rw [if_pos hj, if_neg fun e => h (hj.trans e.symm)]
        show _ = if p.1 = j then _ else _
        rw [if_pos hj]
      · rw [if_neg hj]
        show _ = if k = j then none else if p.1 = j then _ else _
        rw [if_neg hj]
def keysL (l : List (κ × α)) : List κ := l.map (·.1)
theorem look_none {l : List (κ × α)} {k : κ} : look l k = none ↔ k ∉ keysL l := by
  induction l with
  | nil => simp [look, keysL]
  | cons p l ih =>
    show (if p.1 = k then some p.2 else look l k) = none ↔ k ∉ p.1 :: keysL l
    by_cases h : p.1 = k
    · rw [if_pos h]; simp [h]
    · rw [if_neg h, ih]
      have : ¬ k = p.1 := fun e => h e.symm
      simp [this]
theorem look_some {l : List (κ × α)} {k : κ} : (look l k).isSome = true ↔ k ∈ keysL l := by
  cases h : look l k with
  | none => simpa using look_none.mp h
  | some v =>
    simp only [Option.isSome_some, true_iff]
    by_cases q : k ∈ keysL l
    · exact q
    · rw [look_none.mpr q] at h; cases h
theorem look_mem {l : List (κ × α)} {k : κ} {v : α} (h : look l k = some v) : (k, v) ∈ l := by
  induction l with
  | nil => cases h
  | cons p l ih =>
    have h : (if p.1 = k then some p.2 else look l k) = some v := h
    by_cases q : p.1 = k
    · rw [if_pos q] at h
      cases h; subst q; exact List.mem_cons_self
    · rw [if_neg q] at h
      exact List.mem_cons_of_mem _ (ih h)
theorem look_of_mem {l : List (κ × α)} {k : κ} {v : α} (hn : (keysL l).Nodup) (h : (k, v) ∈ l) : look l k = some v := by
  induction l with
  | nil => cases h
  | cons p l ih =>
    have hn : (p.1 :: keysL l).Nodup := hn
    show (if p.1 = k then some p.2 else look l k) = some v
    rcases List.mem_cons.mp h with e | e
    · subst e; rw [if_pos rfl]
    · have hk : k ∈ keysL l := List.mem_map.mpr ⟨_, e, rfl⟩
      rw [if_neg fun q : p.1 = k => (List.nodup_cons.mp hn).1 (q ▸ hk)]
      exact ih (List.nodup_cons.mp hn).2 e
theorem keys_put (l : List (κ × α)) (k : κ) (v : α) : keysL (putL l k v) = if k ∈ keysL l then keysL l else keysL l ++ [k] := by
  unfold putL
  by_cases h : k ∈ keysL l
  · rw [if_pos (look_some.mpr h), if_pos h]
    unfold keysL
    rw [List.map_map]
    apply List.map_congr_left
    intro p _
    show (if p.1 = k then (p.1, v) else p).1 = p.1
    by_cases q : p.1 = k <;> simp [q]
  · rw [if_neg (fun q => h (look_some.mp q)), if_neg h]
    simp [keysL]
theorem nodup_put {l : List (κ × α)} (k : κ) (v : α) (h : (keysL l).Nodup) : (keysL (putL l k v)).Nodup := by
  rw [keys_put]
  by_cases q : k ∈ keysL l
  · rw [if_pos q]; exact h
  · rw [if_neg q]
    exact List.nodup_append.mpr ⟨h, by simp, fun a ha b hb e => by
      rw [List.mem_singleton.mp hb] at e; exact q (e ▸ ha)⟩
theorem nodup_pop {l : List (κ × α)} (k : κ) (h : (keysL l).Nodup) : (keysL (popL l k)).Nodup := by
  unfold keysL popL
  exact List.Sublist.nodup (List.Sublist.map _ List.filter_sublist) h
/-! in the heap's words -/
variable (kd : κ → D) (pv : α → D)
def dK (l : List (κ × α)) : List D := l.map fun p => kd p.1
def dV (l : List (κ × α)) : List D := l.map fun p => pv p.2
def Keys : Prop := ∀ a b, eqD (kd a) (kd b) = decide (a = b)
variable {kd}
theorem getV_l (hk : Keys kd) (l : List (κ × α)) (k : κ) : getV (dK kd l) (dV pv l) (kd k) = (look l k).map pv := by
  induction l with
  | nil => rfl
  | cons p l ih =>
    show (if eqD (kd p.1) (kd k) = true then some (pv p.2) else getV (dK kd l) (dV pv l) (kd k)) = (if p.1 = k then some p.2 else look l k).map pv
    rw [hk, ih]
    by_cases h : p.1 = k <;> simp [h]
theorem hasK_l (hk : Keys kd) (l : List (κ × α)) (k : κ) : hasK (dK kd l) (kd k) = (look l k).isSome := by
  induction l with
  | nil => rfl
  | cons p l ih =>
    show (eqD (kd p.1) (kd k) || hasK (dK kd l) (kd k)) = (if p.1 = k then some p.2 else look l k).isSome
    rw [hk, ih]
    by_cases h : p.1 = k <;> simp [h]
theorem setV_l (hk : Keys kd) (l : List (κ × α)) (k : κ) (v : α) : setV (dK kd l) (dV pv l) (kd k) (pv v) = dV pv (l.map fun p => if p.1 = k then (p.1, v) else p) := by
  induction l with
  | nil => rfl
  | cons p l ih =>
    show (if eqD (kd p.1) (kd k) = true then pv v else pv p.2) :: setV (dK kd l) (dV pv l) (kd k) (pv v) = pv (if p.1 = k then (p.1, v) else p).2 :: dV pv (l.map fun p => if p.1 = k then (p.1, v) else p)
    rw [hk, ih]
    by_cases h : p.1 = k <;> simp [h]
theorem putKs_l (hk : Keys kd) (l : List (κ × α)) (k : κ) (v : α) : putKs (dK kd l) (kd k) = dK kd (putL l k v) := by
  unfold putKs putL
  rw [hasK_l hk]
  by_cases h : (look l k).isSome = true
  · rw [if_pos h, if_pos h]
    unfold dK
    rw [List.map_map]
    apply List.map_congr_left
    intro p _
    show kd p.1 = kd (if p.1 = k then (p.1, v) else p).1
    by_cases q : p.1 = k <;> simp [q]
  · rw [if_neg h, if_neg h]
    simp [dK]
theorem putVs_l (hk : Keys kd) (l : List (κ × α)) (k : κ) (v : α) : putVs (dK kd l) (dV pv l) (kd k) (pv v) = dV pv (putL l k v) := by
  unfold putVs putL
  rw [hasK_l hk]
  by_cases h : (look l k).isSome = true
  · rw [if_pos h, if_pos h, setV_l pv hk]
  · rw [if_neg h, if_neg h]
    simp [dV]
theorem dropKs_l (hk : Keys kd) (l : List (κ × α)) (k : κ) : dropKs (dK kd l) (kd k) = dK kd (popL l k) := by
  unfold dropKs popL dK
  rw [List.filter_map]
  congr 1
  apply List.filter_congr
  intro p _
  show (!eqD (kd p.1) (kd k)) = _
  rw [hk]
theorem dropVs_l (hk : Keys kd) (l : List (κ × α)) (k : κ) : dropVs (dK kd l) (dV pv l) (kd k) = dV pv (popL l k) := by
  induction l with
  | nil => rfl
  | cons p l ih =>
    show (if eqD (kd p.1) (kd k) = true then dropVs (dK kd l) (dV pv l) (kd k) else pv p.2 :: dropVs (dK kd l) (dV pv l) (kd k)) = _
    rw [hk, ih]
    by_cases h : p.1 = k <;> simp [h, popL, dV]
end
section
variable {κ α : Type} [DecidableEq κ] {kd : κ → D} (pv : α → D)
@[simp] theorem sPut_a (i : Nat) (k v : CE) (env : Env) : sPut i k v env = (v env).fl env fun dv => match env[i]? with
  | some (.own (.dct ks vs)) => (k env).fl env fun dk => if keyOk dk = true ∧ ks.length < line then .next (env.set i (.own (.dct (putKs ks dk) (putVs ks vs dk dv)))) else .stuck
  | _ => .stuck := eqOf rfl
@[simp] theorem sPop_a (i : Nat) (k : CE) (env : Env) : sPop i k env = match env[i]? with
  | some (.own (.dct ks vs)) => (k env).fl env fun dk => if keyOk dk = true ∧ hasK ks dk = true then .next (env.set i (.own (.dct (dropKs ks dk) (dropVs ks vs dk)))) else .stuck
  | _ => .stuck := eqOf rfl
@[simp] theorem fDct0_a (env : Env) : fDct0 env = .ok (.dct [] []) := eqOf rfl
@[simp] theorem dK_len (l : List (κ × α)) : (dK kd l).length = l.length := by simp [dK]
theorem sPut_l (hk : Keys kd) (ho : ∀ k, keyOk (kd k) = true) {i : Nat} {k v : CE} {env : Env} {l : List (κ × α)} {d : κ} {w : α} (h1 : v env = .ok (pv w)) (h2 : env[i]? = some (.own (.dct (dK kd l) (dV pv l)))) (h3 : k env = .ok (kd d)) (h4 : l.length < line) :
    sPut i k v env = .next (env.set i (.own (.dct (dK kd (putL l d w)) (dV pv (putL l d w))))) := by
  rw [sPut_a, h1, fl_ok, h2]
  simp only [h3, fl_ok]
  rw [if_pos ⟨ho d, by rw [dK_len]; exact h4⟩, putKs_l hk l d w, putVs_l pv hk]
theorem sPop_l (hk : Keys kd) (ho : ∀ k, keyOk (kd k) = true) {i : Nat} {k : CE} {env : Env} {l : List (κ × α)} {d : κ} (h2 : env[i]? = some (.own (.dct (dK kd l) (dV pv l)))) (h3 : k env = .ok (kd d)) (h4 : (look l d).isSome = true) :
    sPop i k env = .next (env.set i (.own (.dct (dK kd (popL l d)) (dV pv (popL l d))))) := by
  rw [sPop_a, h2]
  simp only [h3, fl_ok]
  rw [if_pos ⟨ho d, by rw [hasK_l hk]; exact h4⟩, dropKs_l hk, dropVs_l pv hk]
theorem dIn_l (hk : Keys kd) (ho : ∀ k, keyOk (kd k) = true) (l : List (κ × α)) (d : κ) : dIn (kd d) (.dct (dK kd l) (dV pv l)) = .ok (.bl (look l d).isSome) := by
  have e : ∀ x : D, keyOk x = true → ∀ ks vs, dIn x (.dct ks vs) = .ok (.bl (getV ks vs x).isSome) := by
    intro x hx ks vs
    cases x <;> first | (cases hx; done) | exact eqOf rfl
  rw [e _ (ho d), getV_l pv hk]
  simp
theorem dNotIn_l (hk : Keys kd) (ho : ∀ k, keyOk (kd k) = true) (l : List (κ × α)) (d : κ) : dNotIn (kd d) (.dct (dK kd l) (dV pv l)) = .ok (.bl (!(look l d).isSome)) := by
  have e : ∀ x : D, keyOk x = true → ∀ ks vs, dNotIn x (.dct ks vs) = .ok (.bl (!(getV ks vs x).isSome)) := by
    intro x hx ks vs
    cases x <;> first | (cases hx; done) | exact eqOf rfl
  rw [e _ (ho d), getV_l pv hk]
  simp
theorem dIx_d (hk : Keys kd) (ho : ∀ k, keyOk (kd k) = true) {l : List (κ × α)} {d : κ} {v : α} (h : look l d = some v) : dIx (.dct (dK kd l) (dV pv l)) (kd d) = .ok (pv v) := by
  show (if keyOk (kd d) = true then (match getV (dK kd l) (dV pv l) (kd d) with | some d => Out.ok d | none => .stuck) else .stuck) = _
  rw [if_pos (ho d), getV_l pv hk, h]
  rfl
end
theorem forGo_go {g : Tg} {body : CS} {d : D} {ds : List D} {env e1 e2 : Env} (h : g d env = some e1) (h2 : body e1 = .next e2 ∨ body e1 = .cont e2) : forGo g body (d :: ds) env = forGo g body ds e2 := by
  rw [forGo_cons h]
  rcases h2 with h2 | h2 <;> rw [h2]
/-- whole numbers as keys -/
def kN (n : Nat) : D := .int n
def kI (n : Int) : D := .int n
theorem keysN : Keys kN := fun a b => by
  show ((a : Int) == (b : Int)) = _
  by_cases h : a = b
  · subst h; simp
  · have : ¬ (a : Int) = b := by omega
    simp [h, this]
theorem keysI : Keys kI := fun a b => by
  show (a == b) = _
  by_cases h : a = b
  · subst h; simp
  · simp [h]
theorem okKN (n : Nat) : keyOk (kN n) = true := rfl
theorem okKI (n : Int) : keyOk (kI n) = true := rfl
@[simp] theorem dNe_b (a b : Bool) : dNe (.bl a) (.bl b) = .ok (.bl (a != b)) := by cases a <;> cases b <;> exact eqOf rfl
@[simp] theorem dEq_b (a b : Bool) : dEq (.bl a) (.bl b) = .ok (.bl (a == b)) := by cases a <;> cases b <;> exact eqOf rfl
theorem dNe_s {a b : Str} (h1 : strOk a = true) (h2 : strOk b = true) : dNe (.str a) (.str b) = .ok (.bl (!(a == b))) := by
  show (if okD (.str a) = true ∧ okD (.str b) = true then _ else _) = _
  rw [if_pos ⟨okN_str h1, okN_str h2⟩]
  exact eqOf rfl
theorem dEq_t {a b : Str} (r : Bool) (h1 : strOk a = true) (h2 : strOk b = true) (h : (a == b) = r) : dEq (.str a) (.str b) = .ok (.bl r) := by rw [dEq_s h1 h2, h]
theorem dNe_t {a b : Str} (r : Bool) (h1 : strOk a = true) (h2 : strOk b = true) (h : (a == b) = r) : dNe (.str a) (.str b) = .ok (.bl (!r)) := by rw [dNe_s h1 h2, h]
theorem okD_ints (ns : List Int) : okD (.tup (ns.map .int)) = true := okN_tup (okNs_ints 63 ns)
theorem okD_intsl (ns : List Int) : okD (.lst (ns.map .int)) = true := okN_lst (okNs_ints 63 ns)
theorem okNs_all {n : Nat} {xs : List D} (h : ∀ x ∈ xs, okN n x = true) : okNs n xs = true := by
  induction xs with
  | nil => cases n <;> rfl
  | cons x xs ih =>
    show (okN n x && okNs n xs) = true
    rw [h x List.mem_cons_self, ih fun y hy => h y (List.mem_cons_of_mem _ hy)]
    rfl
/-! ### sorted rows of ints -/
theorem sortI_perm (l : List Int) : (sortI l).Perm l := List.mergeSort_perm _ _
theorem sortI_le (l : List Int) : (sortI l).Pairwise (· ≤ ·) := by
  have h := List.pairwise_mergeSort (le := fun a b : Int => decide (a ≤ b)) (fun a b c h1 h2 => by simp at h1 h2 ⊢; omega) (fun a b => by simp; omega) l
  exact h.imp fun h => by simpa using h
theorem sortI_len (l : List Int) : (sortI l).length = l.length := (sortI_perm l).length_eq
theorem sortI_mem {l : List Int} {x : Int} : x ∈ sortI l ↔ x ∈ l := (sortI_perm l).mem_iff
theorem sortI_lt {l : List Int} (h : l.Nodup) : (sortI l).Pairwise (· < ·) := by
  have h1 := sortI_le l
  have h2 : (sortI l).Nodup := (sortI_perm l).nodup_iff.mpr h
  exact (h1.and h2).imp fun ⟨a, b⟩ => by
    have : ¬ _ = _ := b
    omega
theorem rise_len : ∀ {l : List Int} {lo hi : Int}, l.Pairwise (· < ·) → (∀ x ∈ l, lo ≤ x ∧ x < hi) → lo ≤ hi → (l.length : Int) ≤ hi - lo
  | [], lo, hi, _, _, h => by simp; omega
  | x :: l, lo, hi, h, hb, hl => by
    have p := List.pairwise_cons.mp h
    have hx := hb x List.mem_cons_self
    have := rise_len (l := l) (lo := x + 1) (hi := hi) p.2 (fun y hy => ⟨by have := p.1 y hy; omega, (hb y (List.mem_cons_of_mem _ hy)).2⟩) (by omega)
    simp only [List.length_cons]
    omega
theorem intL_ints (ns : List Int) : intL (ns.map .int) = some ns := by
  induction ns with
  | nil => rfl
  | cons n ns ih =>
    show (match D.int n, intL (ns.map .int) with | .int i, some ns => some (i :: ns) | _, _ => none) = _
    rw [ih]
theorem dSorted_l (ns : List Int) : dSorted [.lst (ns.map .int)] = .ok ((sortI ns).map .int) := by
  show (match intL (ns.map .int) with | some ns => Out.ok ((sortI ns).map D.int) | none => .stuck) = _
  rw [intL_ints]
theorem dSorted_d (ns : List Int) (vs : List D) (h : ns.length < 64) : dSorted [.dct (ns.map .int) vs] = .ok ((sortI ns).map .int) := by
  show (match intL (ns.map .int) with | some ns => (if ns.length < 64 then Out.ok ((sortI ns).map D.int) else .stuck) | none => .stuck) = _
  rw [intL_ints]
  simp only [if_pos h]
/-! ### more forms, reckoned with -/
section
variable (env : Env) (i o : Nat) (a b c : CE) (P : Pop)
@[simp] theorem eIndex_a : eIndex a b env = (a env).bind fun x => match x with
  | .lst xs => (b env).bind fun y => dIndex (.lst xs) y
  | _ => .stuck := eqOf rfl
@[simp] theorem sDropPop_a : sDropPop i P env = match env[i]? with
  | some (.own (.lst xs)) => (P env xs).fl env fun q => .next (env.set i (.own (.lst q.2)))
  | _ => .stuck := eqOf rfl
@[simp] theorem sSetPop_a : sSetPop o i P env = match env[i]? with
  | some (.own (.lst xs)) => (P env xs).fl env fun q => .next ((env.set i (.own (.lst q.2))).set o (.val q.1))
  | _ => .stuck := eqOf rfl
@[simp] theorem sAppPop_a : sAppPop o i P env = match env[i]? with
  | some (.own (.lst xs)) => (match env[o]? with
    | some (.own (.lst ys)) => (P env xs).fl env fun q => if o ≠ i ∧ ys.length < line then .next ((env.set i (.own (.lst q.2))).set o (.own (.lst (ys ++ [q.1])))) else .stuck
    | _ => .stuck)
  | _ => .stuck := eqOf rfl
theorem pLast_app (xs : List D) (d : D) : pLast env (xs ++ [d]) = .ok (d, xs) := by
  show (match (xs ++ [d]).getLast? with | some e => Out.ok (e, (xs ++ [d]).dropLast) | none => .stuck) = _
  simp
theorem pAt_ok {k : CE} {xs : List D} {z : Int} (hk : k env = .ok (.int z)) (h0 : 0 ≤ z) (h1 : z < xs.length) (hl : xs.length < line) : pAt k env xs = .ok (xs[z.toNat]'(by omega), xs.eraseIdx z.toNat) := by
  show (if xs.length < line then (k env).bind _ else _) = _
  rw [if_pos hl, hk, Out.bind_ok]
  simp only [ixN_i h0 h1, List.getElem?_eq_getElem (show z.toNat < xs.length by omega)]
end
theorem dIndex_l {xs : List D} {y : D} {n : Nat} (h1 : okD y = true) (h2 : okD (.lst xs) = true) (h : idxD y xs = some n) : dIndex (.lst xs) y = .ok (.int n) := by
  show (if okD y = true ∧ okD (.lst xs) = true then _ else _) = _
  rw [if_pos ⟨h1, h2⟩, h]
theorem dIn_deep {xs : List D} {x : D} (h1 : okD x = true) (h2 : okD (.lst xs) = true) : dIn x (.lst xs) = .ok (.bl (inD x xs)) := by
  have e : ∀ q : Bool, (match q with | true => dIn x (.lst xs) | false => dIn x (.lst xs)) = dIn x (.lst xs) := fun q => by cases q <;> rfl
  have : dIn x (.lst xs) = if flatD x = true ∧ xs.all flatD = true then .ok (.bl (inD x xs)) else if okD x = true ∧ okD (.lst xs) = true then .ok (.bl (inD x xs)) else .stuck := by cases x <;> rfl
  rw [this]
  split
  · rfl
  · rw [if_pos ⟨h1, h2⟩]
theorem dNotIn_deep {xs : List D} {x : D} (h1 : okD x = true) (h2 : okD (.lst xs) = true) : dNotIn x (.lst xs) = .ok (.bl (!inD x xs)) := by
  have : dNotIn x (.lst xs) = if flatD x = true ∧ xs.all flatD = true then .ok (.bl (!inD x xs)) else if okD x = true ∧ okD (.lst xs) = true then .ok (.bl (!inD x xs)) else .stuck := by cases x <;> rfl
  rw [this]
  split
  · rfl
  · rw [if_pos ⟨h1, h2⟩]
theorem dMin1_l {ns : List Int} (h : ns ≠ []) : dMin1 [.lst (ns.map .int)] = .ok (.int (minI ns)) := by
  show (match intL (ns.map D.int) with | some [] => Out.stuck | some ns => .ok (D.int (minI ns)) | none => .stuck) = _
  rw [intL_ints]
  cases ns with
  | nil => exact absurd rfl h
  | cons => rfl
theorem dMax1_l {ns : List Int} (h : ns ≠ []) : dMax1 [.lst (ns.map .int)] = .ok (.int (maxI ns)) := by
  show (match intL (ns.map D.int) with | some [] => Out.stuck | some ns => .ok (D.int (maxI ns)) | none => .stuck) = _
  rw [intL_ints]
  cases ns with
  | nil => exact absurd rfl h
  | cons => rfl
@[simp] theorem dGcd_i (a b : Int) : dGcd [.int a, .int b] = .ok (.int (Nat.gcd a.natAbs b.natAbs : Nat)) := eqOf rfl
theorem dLcm_i {a b : Int} (h : a.natAbs < 2 ^ 64 ∧ b.natAbs < 2 ^ 64) : dLcm [.int a, .int b] = .ok (.int (Nat.lcm a.natAbs b.natAbs : Nat)) := by
  show (if _ then _ else _) = _
  rw [if_pos h]
theorem dListRg_i {i j : Int} (h1 : smallI i) (h2 : smallI j) (h3 : j - i ≤ 1000000) : dListRg (.int i) (.int j) = .ok (rangeL i j) := by
  show (if _ then _ else _) = _
  rw [if_pos ⟨h1, h2, h3⟩]
theorem dTupRg_i {i j : Int} (h1 : smallI i) (h2 : smallI j) (h3 : j - i ≤ 1000000) : dTupRg (.int i) (.int j) = .ok (.tup (rangeL i j)) := by
  show (if _ then _ else _) = _
  rw [if_pos ⟨h1, h2, h3⟩]
theorem dRange3_i {i j : Int} (h1 : smallI i) (h2 : smallI j) : dRange3 [.int i, .int j, .int (-1)] = .ok (rangeC i (-1) (i - j).toNat) := by
  show (if _ then _ else _) = _
  rw [if_pos ⟨rfl, h1, h2⟩]
theorem eqDs_ints : ∀ (a b : List Int), eqDs (a.map .int) (b.map .int) = decide (a = b)
  | [], [] => rfl
  | [], _ :: _ => rfl
  | _ :: _, [] => rfl
  | x :: a, y :: b => by
    show ((x == y) && eqDs (a.map .int) (b.map .int)) = _
    rw [eqDs_ints a b]
    by_cases h : x = y <;> simp [h]
theorem eqD_ints (a b : List Int) : eqD (.tup (a.map .int)) (.tup (b.map .int)) = decide (a = b) := eqDs_ints a b
theorem dEq_ints (a b : List Int) : dEq (.tup (a.map .int)) (.tup (b.map .int)) = .ok (.bl (decide (a = b))) := by
  show (if _ then _ else _) = _
  rw [if_pos ⟨okD_ints a, okD_ints b⟩, eqD_ints]
theorem dNe_ints (a b : List Int) : dNe (.tup (a.map .int)) (.tup (b.map .int)) = .ok (.bl (!decide (a = b))) := by
  show (if _ then _ else _) = _
  rw [if_pos ⟨okD_ints a, okD_ints b⟩, eqD_ints]
/-- rows of tuples of ints -/
def rowsD (rows : List (List Int)) : List D := rows.map fun r => .tup (r.map .int)
theorem eqDs_rows : ∀ (a b : List (List Int)), eqDs (rowsD a) (rowsD b) = decide (a = b)
  | [], [] => rfl
  | [], _ :: _ => rfl
  | _ :: _, [] => rfl
  | x :: a, y :: b => by
    show (eqD (.tup (x.map .int)) (.tup (y.map .int)) && eqDs (rowsD a) (rowsD b)) = _
    rw [eqDs_rows a b, eqD_ints]
    by_cases h : x = y <;> simp [h]
theorem okNs_rows {n : Nat} (rows : List (List Int)) : okNs (n + 1) (rowsD rows) = true := okNs_all fun x hx => by
  obtain ⟨r, _, rfl⟩ := List.mem_map.mp hx
  exact okN_tup (okNs_ints n r)
theorem inD_rows (x : List Int) (rows : List (List Int)) : inD (.tup (x.map .int)) (rowsD rows) = decide (x ∈ rows) := by
  unfold inD rowsD
  rw [List.any_map]
  induction rows with
  | nil => rfl
  | cons r rows ih =>
    rw [List.any_cons, ih]
    show (eqD (.tup (r.map .int)) (.tup (x.map .int)) || _) = _
    rw [eqD_ints]
    by_cases h : r = x
    · subst h; simp
    · have : ¬ x = r := fun e => h e.symm
      simp [h, this]
theorem idxD_rows (x : List Int) : ∀ (rows : List (List Int)), idxD (.tup (x.map .int)) (rowsD rows) = if x ∈ rows then some (rows.idxOf x) else none
  | [] => rfl
  | r :: rows => by
    show (if eqD (.tup (r.map .int)) (.tup (x.map .int)) = true then some 0 else (idxD (.tup (x.map .int)) (rowsD rows)).map (· + 1)) = _
    rw [eqD_ints, idxD_rows x rows]
    by_cases h : r = x
    · subst h; simp
    · have h' : ¬ x = r := fun e => h e.symm
      by_cases hm : x ∈ rows
      · have hb : (r == x) = false := by simpa using h
        simp [h, h', hm, List.idxOf_cons, hb]
      · simp [h, h', hm]
theorem dIx_last (xs : List D) (d : D) : dIx (.lst (xs ++ [d])) (.int (-1)) = .ok d := by
  show (match ixN (xs ++ [d]).length (-1) with | some j => (match (xs ++ [d])[j]? with | some d => Out.ok d | none => .stuck) | none => .stuck) = _
  have : ixN (xs ++ [d]).length (-1) = some xs.length := by
    unfold ixN
    rw [if_neg (by decide), if_pos (by simp; omega)]
    simp
    omega
  rw [this]
  simp
theorem enumL_at : ∀ {xs done rest : List D} {k : Nat} {d : D}, enumL k xs = done ++ d :: rest → ∃ x, xs[done.length]? = some x ∧ d = .tup [.int ((k + done.length : Nat) : Int), x]
  | [], done, rest, k, d, h => by cases done <;> simp [enumL] at h
  | x :: xs, [], rest, k, d, h => by
    simp [enumL] at h
    exact ⟨x, rfl, h.1.symm⟩
  | x :: xs, e :: done, rest, k, d, h => by
    simp [enumL] at h
    obtain ⟨y, h1, h2⟩ := enumL_at h.2
    exact ⟨y, by simpa using h1, by rw [h2, List.length_cons, show k + 1 + done.length = k + (done.length + 1) by omega]⟩
@[simp] theorem dEnum_l (xs : List D) : dEnum [.lst xs] = .ok (enumL 0 xs) := eqOf rfl
@[simp] theorem dEnum_t (xs : List D) : dEnum [.tup xs] = .ok (enumL 0 xs) := eqOf rfl
end M
/-! MMore: enumerate of a tuple, pop, index, min, max, gcd, lcm, falling ranges. -/
namespace M
open PySem PySem.Spec PyProof.Rows L2
/-! ### enumerate(a tuple) -/
section
variable {prog : Program} {w : World} {A : Around} {E : Value → Shared → Prop} {s : Shared}
theorem wpAny_pyNext_tup_end {e it l : Addr} {i : Nat} {items : Array Value} {old : Value} {k : Int} {Q : Option Value → Shared → Prop} (hh : A.handled = none)
    (he : IsEnum s.heap e it k old) (hit : s.heap.IsTupleIter it l i) (hl : s.heap.IsTuple l items) (hx : items[i]? = none)
    (hQ : ∀ h', Heap.ExtBut it s.heap h' → Q none { s with heap := h' }) : wpAny (model prog w) A (pyNext (.ref e)) Q E s := by
  have hT : s.TypeIs (.ref e) "enumerate" := ⟨_, he, rfl⟩
  unfold pyNext
  refine wpAny_bind (wpAny_attempt (wpAny_callSpecial?_slot (name := Str.ofString "__next__") hT F.slot_enumerate_next
    (wpAny_call_entry F.slot_enumerate_next hT F.entry_enumerate_next ?_ (F.args_enumerate_next_1 _))))
  show wpAny _ _ (field (.ref e) 2 >>= _) _ _ _
  refine wpAny_bind (wpAny_field he rfl (x := .ref it) rfl ?_)
  refine wpAny_bind (wpAny_nextOf_tuple_end hh hit hl hx fun h' x he' hx' => ?_)
  obtain ⟨o, ho, hc⟩ := hx'
  refine wpAny_bind (wpAny_isInstance (T := "StopIteration") (b := true) ⟨o, ho, hc⟩ isSubtype_stop ?_)
  exact wpAny_pure (hQ _ he')
theorem meets_enumerate_newT (l : Addr) (items : Array Value) (o : Obj) (hc : o.cls = .type "tuple") (hd : ∃ n, o.data = .seq items n) :
    Meets (Builtin.«enumerate.__new__» ⟨[.type "enumerate", .ref l], []⟩) (fun _ R s => s.heap.get? l = some o ∧
      R (.ok (.ret (.ref (s.heap.push { cls := .type "tuple_iterator", data := .fields #[.ref l, .int 0 0] }).objs.size)))
        { s with heap := (s.heap.push { cls := .type "tuple_iterator", data := .fields #[.ref l, .int 0 0] }).push { cls := .type "enumerate", data := .fields #[.none, .bool false, .ref s.heap.objs.size, rawInt 0, .none, .none] } }) :=
  .of_wp fun prog w A R s h => by
    obtain ⟨hp, g, d, tk, os⟩ := s; obtain ⟨hl, h⟩ := h
    have hsub := sub_enumerate
    obtain ⟨n, hd⟩ := hd
    have hL : Heap.IsTuple (Shared.heap ⟨hp, g, d, tk, os⟩) l items := ⟨_, hl, hc, n, hd⟩
    obtain ⟨c, dct, dt, sl⟩ := o
    replace hc : c = .type "tuple" := hc
    replace hd : dt = .seq items n := hd
    subst hc hd
    wp_walk using wpAny_loadPart' hl
    refine wpAny_stack_any fun st => wpAny_pure ?_
    split
    · rename_i c _ _ _ _ _
      cases (c == Value.type "enumerate")
      · wp_walk using wpAny_loadPart' hl, wpAny_pyIter_tuple hL
        exact ⟨_, rfl, h⟩
      · wp_walk using wpAny_loadPart' hl, wpAny_pyIter_tuple hL
        exact ⟨_, rfl, h⟩
    · wp_walk using wpAny_loadPart' hl, wpAny_pyIter_tuple hL
      exact ⟨_, rfl, h⟩
theorem call_enumerate_tuple {l : Addr} {items : Array Value} {Q : Value → Shared → Prop} (hL : s.heap.IsTuple l items)
    (h : ∀ h', IsEnum h' (s.heap.objs.size + 1) s.heap.objs.size 0 .none → h'.IsTupleIter s.heap.objs.size l 0 → h'.objs.size = s.heap.objs.size + 2 →
      (∀ b o, s.heap.get? b = some o → h'.get? b = some o) → Q (.ref (s.heap.objs.size + 1)) { s with heap := h' }) :
    wpAny (model prog w) A (call (.type "enumerate") [.ref l]) Q E s := by
  obtain ⟨o, hl, hc, n, hd⟩ := hL
  refine callType_new F.called_enumerate (by decide) (F.typeCall_enumerate_1 _) (F.newCall_enumerate_1 _) (fun obj => F.args_object_init_2 obj _) F.entry_enumerate_new
    (meets_enumerate_newT l items o hc ⟨n, hd⟩) ⟨hl, ?_⟩
  have hz : (s.heap.push { cls := .type "tuple_iterator", data := .fields #[.ref l, .int 0 0] }).objs.size = s.heap.objs.size + 1 := Heap.size_push ..
  show _ ∧ _
  rw [hz]
  have he : IsEnum ((s.heap.push { cls := .type "tuple_iterator", data := .fields #[.ref l, .int 0 0] }).push
      { cls := .type "enumerate", data := .fields #[.none, .bool false, .ref s.heap.objs.size, rawInt 0, .none, .none] }) (s.heap.objs.size + 1) s.heap.objs.size 0 .none := by
    have := Heap.get?_push_size (s.heap.push { cls := .type "tuple_iterator", data := .fields #[.ref l, .int 0 0] })
      (o := { cls := .type "enumerate", data := .fields #[.none, .bool false, .ref s.heap.objs.size, rawInt 0, .none, .none] }) rfl
    rw [hz] at this; exact this
  refine ⟨⟨_, he, rfl⟩, h _ he ⟨_, Heap.get?_push_of_some _ (Heap.get?_push_size _ rfl), rfl, rfl⟩ (by rw [Heap.size_push, hz]) fun b o x => Heap.get?_push_of_some _ (Heap.get?_push_of_some _ x)⟩
end
def IteT (K : PySem.W.Frag) (a : Addr) : It :=
  ⟨fun i H => ∃ (xs : List V) (x : V), SqT K H a xs ∧ xs[i]? = some x, fun i H v H' => ∃ T x, v = .ref T ∧ H T = none ∧ H' = upd H T (.tup [.int (i : Nat), x]) ∧ ∀ xs, SqT K H a xs → xs[i]? = some x, fun i H => ∃ xs : List V, SqT K H a xs ∧ xs.length ≤ i⟩
theorem turn_enumT {P : Program} {w : World} {K : PySem.W.Frag} {elts : List Expr} {kk : Nat} {tpos : Pos} (a e it : Addr) :
    Turn P w K (.Tuple elts kk tpos) (IteT K a) [e, it] e (fun i h => (∃ old, IsEnum h e it ((i : Nat) : Int) old) ∧ h.IsTupleIter it a i ∧ e ≠ it ∧ a ≠ it ∧ a ≠ e) where
  mem := by simp
  obj := fun i h st b hb => by
    obtain ⟨⟨old, he⟩, ⟨o, ho, hc, hd⟩, _⟩ := st
    have e' : b = e ∨ b = it := by simpa using hb
    rcases e' with z | z
    · rw [z]; exact ⟨_, he, fun v q => nomatch q⟩
    · rw [z]; exact ⟨o, ho, fun v q => by rw [hd] at q; cases q⟩
  keep := fun i h h' st k => let ⟨⟨old, he⟩, hi, hne⟩ := st; ⟨⟨old, k e (by simp) _ he⟩, hi.at fun o q => k it (by simp) o q, hne⟩
  item := by
    intro X hP hw hK hc i pins s σ H E I hf st hg
    subst hP hw hK
    obtain ⟨⟨old, he⟩, hit, hne, hai, hae⟩ := st
    obtain ⟨xs, x, hq, hx⟩ := hg
    obtain ⟨its, rv, p, hz⟩ := I.tuple hq
    obtain ⟨u, hu, ru⟩ := rv.get hx
    have hel : e < s.heap.objs.size := Heap.lt_size he
    have hil : it < s.heap.objs.size := by obtain ⟨_, q, _⟩ := hit; exact Heap.lt_size q
    have D := Draws.tuple (prog := X.prog) (w := X.w) (A := X.A.in1) (I.ok.hd hc) it a hai its.toArray
    have hlt : i < its.toArray.size := by
      have := (List.getElem?_eq_some_iff.mp hu).1
      simpa using this
    refine wpAny_pyNext_enum_itemD D he ⟨hit, p⟩ hlt hne (by simp [hne, Ne.symm hae]) fun x1 h' tk hP1 ho hst hT hsz hk => ?_
    have ex : x1 = u := by
      have hu' : its.toArray[i]? = some u := by simpa using hu
      rw [hu'] at hP1; exact (Option.some.inj hP1).symm
    subst ex
    refine ⟨_, rfl, wpAny_letOwnedTupleGo_enum (s := { s with heap := h', toks := tk + 1 }) ho fun h'' he' sb => ?_⟩
    have hT2 : h''.get? s.heap.objs.size = some { cls := .type "tuple", data := .seq #[.int i tk, x1] } := (sb.2 _ (Nat.ne_of_gt hel)).trans hT
    have new : ObjOk X.prog X.w (upd H s.heap.objs.size (.tup [.int (i : Nat), x])) h'' s.heap.objs.size (.tup [.int (i : Nat), x]) :=
      ⟨by show 2 ≤ sizeLine; decide, [.int i tk, x1], .cons ⟨_, rfl⟩ (.cons ru .nil), ⟨_, hT2, rfl, _, rfl⟩⟩
    have I1 : Inv X pins σ (upd H s.heap.objs.size (.tup [.int (i : Nat), x])) { s with heap := h'', toks := tk + 1 } :=
      I.turnedNew (ch := [e, it]) (fun b ob hb q => (sb.2 b (fun z => hb (by simp [z]))).trans (hk b ob (fun z => hb (by simp [z])) (fun z => hb (by simp [z])) q)) hf (Nat.le_refl _) new
    refine ⟨.ref s.heap.objs.size, _, I1, rfl, ⟨_, x, rfl, I.hok.fresh (Nat.le_refl _), rfl, fun ys hy => by rw [I.tuple_inj hy hq]; exact hx⟩, ⟨⟨x1, ?_⟩, hst.1.at fun o q => (sb.2 it (Ne.symm hne)).trans q, hne, hai, hae⟩, fun b hb => ?_⟩
    · have e1 : ((i + 1 : Nat) : Int) = (i : Int) + 1 := by omega
      rw [e1]; exact he'
    · have hb' : b < s.heap.objs.size := by
        have e' : b = e ∨ b = it := by simpa using hb
        rcases e' with z | z
        · rw [z]; exact hel
        · rw [z]; exact hil
      rw [upd_ne (Nat.ne_of_lt hb')]
      exact (hf b hb).1
  done := by
    intro X hP hw hK hc i pins s σ H E I hf st hg
    subst hP hw hK
    obtain ⟨⟨old, he⟩, hit, hne, hai, hae⟩ := st
    obtain ⟨xs, hq, hx⟩ := hg
    obtain ⟨its, rv, p, hz⟩ := I.tuple hq
    obtain ⟨f0, f1, f2, f3, f4, f5⟩ := hf it (by simp)
    have hl := rv.length
    refine wpAny_pyNext_tup_end (I.ok.hd hc) he hit p (by simp; omega) fun h' eb => ⟨rfl, I.turned (t' := s.toks) (fun b o hb q => eb b o hb q) f0 f1 f3 f4 f5⟩
  self := fun A i s Q E st h => let ⟨⟨_, he⟩, _⟩ := st; wpAny_pyIter_enum he h
def iEnumT (K : PySem.W.Frag) (ta : TA) : TI := fun σ H R => ta σ H fun vs H1 => ∃ a xs, vs = [.ref a] ∧ SqT K H1 a xs ∧ R (IteT K a) H1
theorem pi_enumT {X : Cx} {e : Expr} {ta : TA} {p pos tpos : Pos} {elts : List Expr} {kk : Nat} (hg : Gl X "enumerate") (hm : X.mg "enumerate" = none) (ha : PA X [e] ta) (hs : starEach [e] X.env = [(false, eval e X.env)] := by rfl) :
    PI X (.Tuple elts kk tpos) (.Call (.Name "enumerate" p) [e] [] pos) (iEnumT X.K ta) := by
  refine ⟨fun pins s σ H R I h => ?_⟩
  refine Call_ (ld_blt I hg hm boot_enumerate (PyProof.Rows.callWith_type1 (thn (ha.run pos pins s σ H _ I h) fun us s1 ⟨vs, H1, I1, r1, q1⟩ => ?_) hs rfl))
  obtain ⟨a, xs, ex, hq, q⟩ := q1
  subst ex
  cases r1 with
  | cons r rr =>
    cases rr
    cases r
    obtain ⟨its, rv, p', hz⟩ := I1.tuple hq
    refine call_enumerate_tuple p' fun h' he hit hsz hk => wpAny_pyIter_enum he ?_
    have I2 : Inv X pins σ H1 { s1 with heap := h' } := I1.kept (t' := s1.toks) hk
    have hal : a < s1.heap.objs.size := by obtain ⟨_, q, _⟩ := p'; exact Heap.lt_size q
    refine ⟨s1.heap.objs.size + 1, [s1.heap.objs.size + 1, s1.heap.objs.size], _, _, H1, rfl, I2, turn_enumT a (s1.heap.objs.size + 1) s1.heap.objs.size, ⟨⟨.none, he⟩, hit, Nat.succ_ne_self _, Nat.ne_of_lt hal, Nat.ne_of_lt (Nat.lt_succ_of_lt hal)⟩, fun b hb => ?_, q⟩
    have e' : b = s1.heap.objs.size + 1 ∨ b = s1.heap.objs.size := by simpa using hb
    have hle : s1.heap.objs.size ≤ b := by
      rcases e' with z | z
      · rw [z]; exact Nat.le_add_right _ _
      · rw [z]; exact Nat.le_refl _
    exact I1.fpOk hle (I1.hok.fresh hle)
theorem it_enumT {K : PySem.W.Frag} {ca : Nat → Addr} {Hf0 : Hp} {ds : List D} {vs : List V} {a : Addr} (hs : SqT K Hf0 a vs) (hr : RepL K ca Hf0 ds vs) : ItOk K ca Hf0 (enumL 0 ds) (IteT K a) := by
  have hl := hr.length
  refine ⟨fun i Hf H s1 s2 h => ?_, fun i Hf H x H' d s1 s2 h ⟨T, x1, e1, e2, e3, q1⟩ => ?_, fun i Hf H s1 s2 h => ?_⟩
  · rw [enumL_len] at h
    exact ⟨vs, vs[i]'(by omega), Same.seqT (s1.trans s2) hs, List.getElem?_eq_getElem (by omega)⟩
  · subst e1; subst e3
    obtain ⟨dx, h1, h3⟩ := enumL_get h
    subst h3
    rw [Nat.zero_add]
    exact rep_pair s2 e2 rfl (Rep.mono s1 _ _ (RepL.at hr h1 (q1 vs (Same.seqT (s1.trans s2) hs))))
  · rw [enumL_len] at h
    exact ⟨vs, Same.seqT (s1.trans s2) hs, by omega⟩
section
variable {X : Cx} {j : Jc} {e : Expr} {al : CA} {pos p : Pos}
theorem mi_enum2 {elts : List Expr} {kk : Nat} {tpos : Pos} (hg : Gl X "enumerate") (hm : X.mg "enumerate" = none) (ha : MA X j [e] al) (hs : starEach [e] X.env = [(false, eval e X.env)] := by rfl) :
    MI X j (.Tuple elts kk tpos) (.Call (.Name "enumerate" p) [e] [] pos) (iB dEnum al) := by
  refine PI.imp (PI.or (pi_enum hg hm ha hs) (pi_enumT hg hm ha hs)) fun σ H R ⟨G, Hf, env, r, m⟩ => ?_
  have m1 := m.bind
  cases q : al env with
  | stuck => rw [q] at m1; exact m1.elim
  | exc x =>
    refine .inl ⟨G, Hf, env, r, ?_⟩
    rw [q] at m1 ⊢
    exact m1
  | ok ds =>
    rw [q] at m1
    by_cases ht : ∃ xs, ds = [.tup xs]
    · obtain ⟨xs, rfl⟩ := ht
      refine .inr ⟨G, Hf, env, r, ?_⟩
      rw [q]
      intro Hf' H' p vs rv
      obtain ⟨v, rfl, h1⟩ := repL1 rv
      unfold Rep at h1
      obtain ⟨a, us, rfl, f1, f2⟩ := h1
      exact ⟨a, us, rfl, Same.seqT p.sub f1, OutP.ok (m1 Hf' H' p) p.sub _ (it_enumT f1 f2)⟩
    · refine .inl ⟨G, Hf, env, r, ?_⟩
      rw [q]
      intro Hf' H' p vs rv
      have m2 := m1 Hf' H' p
      match ds, ht, rv, m2 with
      | [.lst xs], _, rv, m2 =>
        obtain ⟨v, rfl, h1⟩ := repL1 rv
        unfold Rep at h1
        obtain ⟨a, us, rfl, f1, f2⟩ := h1
        exact ⟨a, us, rfl, p.sub.seq f1, OutP.ok m2 p.sub _ (it_enum f1 f2)⟩
      | [.tup xs], ht, _, _ => exact absurd ⟨xs, rfl⟩ ht
      | [], _, _, m2 => exact m2.no.elim
      | a :: _ :: _, _, _, m2 => cases a <;> exact m2.no.elim
      | [.non], _, _, m2 | [.bl _], _, _, m2 | [.int _], _, _, m2 | [.str _], _, _, m2 | [.ty _], _, _, m2 | [.cls _], _, _, m2 | [.dct _ _], _, _, m2 => exact m2.no.elim
end
theorem hu65 {n : Nat} (h : n + 80 < cLine) : n + 65 < cLine := by omega
/-! ### pop -/
section
variable {X : Cx} {j : Jc} {e a b o : Expr} {ce cf : CE} {pos apos cpos pos' : Pos} {x : Str}
def TPop (K : PySem.W.Frag) (j : Jc) (i : Nat) (P : Pop) : TE := fun σ H Q => ∃ G Hf env xs, RR K j.ca j.ea G Hf env σ H ∧ env[i]? = some (.own (.lst xs)) ∧
  OutP K j.ca j.W σ Hf H (P env xs) fun q Hf' H' => ∀ v p us, σ[i]? = some (some (.ref p)) → Rep K j.ca Hf' q.1 v → RepL K j.ca Hf' q.2 us → Q v (L2.upd H' p (.lst us))
def MPop (X : Cx) (j : Jc) (e : Expr) (i : Nat) (P : Pop) : Prop := PE X e (TPop X.K j i P)
theorem RepL.dropLast {K : PySem.W.Frag} {ca : Nat → Addr} {H : Hp} {ds : List D} {vs : List V} (h : RepL K ca H ds vs) : RepL K ca H ds.dropLast vs.dropLast := by
  rw [List.dropLast_eq_take, List.dropLast_eq_take, h.length]
  exact RepL.take _ h
theorem RepL.erase {K : PySem.W.Frag} {ca : Nat → Addr} {H : Hp} : ∀ {ds : List D} {vs : List V} (i : Nat), RepL K ca H ds vs → RepL K ca H (ds.eraseIdx i) (vs.eraseIdx i)
  | [], vs, i, h => by unfold RepL at h; subst h; simp; unfold RepL; rfl
  | x :: xs, vs, 0, h => by
    unfold RepL at h
    obtain ⟨u, r, rfl, h1, h2⟩ := h
    exact h2
  | x :: xs, vs, i + 1, h => by
    unfold RepL at h
    obtain ⟨u, r, rfl, h1, h2⟩ := h
    show RepL K ca H (x :: xs.eraseIdx i) _
    unfold RepL
    exact ⟨u, r.eraseIdx i, rfl, h1, RepL.erase i h2⟩
theorem mpop0 {i : Nat} (hm : PE X e (tBM0 X.K "list" rPop (tVar i))) : MPop X j e i pLast := by
  refine PE.imp hm fun σ H Q ⟨G, Hf, env, xs, r, hx, m⟩ => ?_
  obtain ⟨p, fp, h1, vs0, h2, h3, _⟩ := slot_own r hx
  refine ⟨.ref p, h1, .inl ⟨rfl, vs0, .inl (.inl h2)⟩, ?_⟩
  unfold pLast at m
  split at m
  · rename_i d hd
    obtain ⟨v, q1, q2⟩ := RepL.get h3 (i := xs.length - 1) (by rw [← List.getLast?_eq_getElem?]; exact hd)
    rw [h3.length] at q1
    exact ⟨p, vs0, v, rfl, rfl, h2, q1, OutP.ok m r.sub v p _ h1 q2 h3.dropLast⟩
  · exact m.no.elim
theorem seqIx {n : Nat} {z : Int} {k : Nat} (h : M.ixN n z = some k) : seqIndex? z n = some k ∧ k < n := by
  unfold M.ixN at h
  by_cases h0 : 0 ≤ z
  · rw [if_pos h0] at h
    by_cases h1 : z < n
    · rw [if_pos h1] at h
      cases h
      exact ⟨seqIndex_of h0 h1, by omega⟩
    · rw [if_neg h1] at h; cases h
  · rw [if_neg h0] at h
    by_cases h1 : -(n : Int) ≤ z
    · rw [if_pos h1] at h
      cases h
      exact ⟨seqIndex_neg (by omega) (by omega), by omega⟩
    · rw [if_neg h1] at h; cases h
theorem own_size {K : PySem.W.Frag} {ca : Nat → Addr} {Hf : Hp} {xs : List D} {vs : List V} (h : RepL K ca Hf xs vs) (n : Nat) (hn : xs.length = n) : vs.length = n := by rw [← h.length, hn]
theorem mpop1 {i : Nat} {ck : CE} (hm : PE X e (tBM X.K "list" rPopAt (tVar i) (tCons (TM X.K j ck) tNil))) : MPop X j e i (pAt ck) := by
  refine PE.imp hm fun σ H Q ⟨G, Hf, env, xs, r, hx, m⟩ => ?_
  obtain ⟨p, fp, h1, vs0, h2, h3, _⟩ := slot_own r hx
  refine ⟨.ref p, h1, .inl ⟨rfl, vs0, .inl (.inl h2)⟩, ?_⟩
  unfold pAt at m
  split at m
  · rename_i hl
    refine ⟨G, Hf, env, r, m.bind.imp fun d Hf1 H1 ho p1 m1 u ru => ?_⟩
    split at m1
    · rename_i z
      have ru : u = .int z := ru
      subst ru
      split at m1
      · rename_i n hn
        split at m1
        · rename_i d hd
          obtain ⟨v, q1, q2⟩ := RepL.get (RepL.mono p1.sh _ _ h3) hd
          obtain ⟨k1, k2⟩ := seqIx hn
          have hz : -(2 ^ 63) ≤ z ∧ z < 2 ^ 63 := by
            have hL : line = 16777216 := rfl
            unfold M.ixN at hn
            by_cases h0 : 0 ≤ z
            · rw [if_pos h0] at hn
              by_cases h1 : z < xs.length
              · omega
              · rw [if_neg h1] at hn; cases hn
            · rw [if_neg h0] at hn
              by_cases h1 : -(xs.length : Int) ≤ z
              · omega
              · rw [if_neg h1] at hn; cases hn
          rw [h3.length] at k1
          exact ⟨p, vs0, z, n, v, rfl, rfl, p1.all _ _ h2, hz.1, hz.2, k1, q1, OutP.ok m1 p1.sub v p _ h1 q2 ((RepL.mono p1.sh _ _ h3).erase n)⟩
        · exact m1.no.elim
      · exact m1.no.elim
    · exact m1.no.elim
  · exact m.no.elim
theorem ms_dropPop {i : Nat} {P : Pop} (he : MPop X j e i P) (hs : swapsWith e none pos.line X.env = pure false := by rfl) : MS X j (.Expr e pos) (sDropPop i P) := by
  refine ms_imp (ps_expr he hs) fun D σ H G Hf env r m => ?_
  unfold sDropPop at m
  split at m
  · rename_i xs hx
    refine ⟨G, Hf, env, xs, r, hx, (TFl.fl r m).imp fun q Hf1 H1 _ p1 m1 v p us h1 r1 r2 => ?_⟩
    exact m1 _ _ _ ((r.grow p1).upd hx h1 r2).1
  · exact m.elim
theorem ms_setPop {y i : Nat} {P : Pop} (hN : X.N.Nodup) (hi : X.N[y]? = some x) (hx : Loc X.env.scope x) (he : MPop X j e i P) (hs : swapsWith e (some (.Name x pos')) pos.line X.env = pure false := by rfl)
    (hf : X.fn x = true ∨ X.env.scope.names.lookup x = some .local := by first | exact .inl rfl | exact .inr rfl | assumption) : MS X j (.Assign [.Name x pos'] e pos) (sSetPop y i P) := by
  refine ms_imp (ps_set hN hi hx he hs hf) fun D σ H G Hf env r m => ?_
  unfold sSetPop at m
  split at m
  · rename_i xs hx
    refine ⟨G, Hf, env, xs, r, hx, (TFl.fl r m).imp fun q Hf1 H1 _ p1 m1 v p us h1 r1 r2 => ?_⟩
    exact m1 _ _ _ (((r.grow p1).upd hx h1 r2).1.val y r1)
  · exact m.elim
theorem ms_appPop {y i : Nat} {P : Pop} (hm : PE X e (tBM X.K "list" rAppend (tVar y) (tCons (TPop X.K j i P) tNil))) (hs : swapsWith e none pos.line X.env = pure false := by rfl) : MS X j (.Expr e pos) (sAppPop y i P) := by
  refine ms_imp (ps_expr hm hs) fun D σ H G Hf env r m => ?_
  unfold sAppPop at m
  split at m
  · rename_i xs hx
    split at m
    · rename_i ys hy
      obtain ⟨q, fq, g1, ws0, g2, g3, _⟩ := slot_own r hy
      refine ⟨.ref q, g1, .inl ⟨rfl, ws0, .inl (.inl g2)⟩, ?_⟩
      refine ⟨G, Hf, env, xs, r, hx, (TFl.fl r m).imp fun z Hf1 H1 _ p1 m1 v p us h1 r1 r2 => ?_⟩
      split at m1
      · rename_i hz
        have r' := ((r.grow p1).upd hx h1 r2).1
        have hy' : (env.set i (.own (.lst z.2)))[y]? = some (.own (.lst ys)) := by rw [List.getElem?_set_ne (fun h => hz.1 h.symm)]; exact hy
        obtain ⟨q', fq', g1', ws', g2', g3', _⟩ := slot_own r' hy'
        rw [g1] at g1'
        cases g1'
        refine ⟨q, ws', v, rfl, rfl, g2', by rw [← g3'.length, ← line_eq]; exact hz.2, ?_⟩
        exact m1 _ _ _ (r'.upd hy' g1 (RepL.append g3' (RepL.one r1))).1
      · exact m1.elim
    · exact m.elim
  · exact m.elim
/-! ### xs.index(y) -/
theorem idx_toPy {x : D} {n m : Nat} (hx : okN n x = true) : ∀ {xs : List D} {k : Nat}, okNs m xs = true → idxD x xs = some k →
    ∃ z, (toPys xs)[k]? = some z ∧ PyData.eqv z (toPy x) = true ∧ ∀ (i : Nat) (z' : PyData), i < k → (toPys xs)[i]? = some z' → PyData.eqv z' (toPy x) = false
  | [], k, _, h => nomatch h
  | y :: ys, k, ho, h => by
    unfold okNs at ho
    rw [Bool.and_eq_true] at ho
    unfold idxD at h
    by_cases q : eqD y x = true
    · rw [if_pos q] at h
      cases h
      exact ⟨toPy y, rfl, by rw [eqv_toPy y x m n ho.1 hx]; exact q, fun i z' hi => absurd hi (Nat.not_lt_zero _)⟩
    · rw [if_neg q] at h
      cases e : idxD x ys with
      | none => rw [e] at h; cases h
      | some k' =>
        rw [e] at h
        cases h
        obtain ⟨z, h1, h2, h3⟩ := idx_toPy hx ho.2 e
        refine ⟨z, h1, h2, fun i z' hi hz => ?_⟩
        cases i with
        | zero =>
          cases hz
          rw [eqv_toPy y x m n ho.1 hx]
          simpa using q
        | succ i => exact h3 i z' (Nat.lt_of_succ_lt_succ hi) hz
theorem me_index (hm : PE X e (tBM X.K "list" (rIndexD X.K) (TP X.K j ce) (tCons (TP X.K j cf) tNil))) : ME X j e (eIndex ce cf) := by
  refine PE.imp hm fun σ H Q ⟨G, Hf, env, r, m⟩ => ⟨G, Hf, env, r, m.bind.imp fun x Hf1 H1 ho p1 m1 v rv => ?_⟩
  split at m1
  · rename_i xs
    obtain ⟨a, us, rfl, a1, a2⟩ := pLst rv
    refine ⟨.inl ⟨rfl, us, a1⟩, G, Hf1, env, r.grow p1, m1.bind.imp fun y Hf2 H2 ho2 p2 m2 u ru => ?_⟩
    have m2 : OutP X.K j.ca j.W σ Hf2 H2 (if okD y = true ∧ okD (.lst xs) = true then (match idxD y xs with | some n => Out.ok (D.int (n : Nat)) | none => .stuck) else .stuck) _ := m2
    split at m2
    · rename_i f
      split at m2
      · rename_i n hn
        have rv := rv.grow p2
        obtain ⟨d1, d2, d3, d4, _⟩ := deep_in p2.sub ru rv f.1 f.2
        obtain ⟨z, z1, z2, z3⟩ := idx_toPy (n := 64) (m := 63) f.1 f.2 hn
        exact ⟨a, u, _, _, n, z, rfl, rfl, d2, d1, d4, d3, z1, z2, z3, OutP.ok m2 p2.sub _ rfl⟩
      · exact m2.no.elim
    · exact m2.no.elim
  · exact m1.no.elim
end
/-! ### min, max of a list; gcd, lcm -/
section
variable {X : Cx} {ca : Nat → Addr}
theorem bc_min1 (hc : X.calm = true) : BC X ca (.builtin "min") dMin1 := by
  refine ⟨_, cr_min hc, fun W σ Hf H xs vs Q s h m => ?_⟩
  unfold dMin1 at m
  split at m
  · split at m
    · exact m.no.elim
    · rename_i ns hne hn
      obtain ⟨v, rfl, h1⟩ := pRepL1 h
      obtain ⟨a, us, rfl, a1, a2⟩ := pLst h1
      rw [intL_map hn] at a2
      have := repL_is a2
      subst this
      have hne' : ns ≠ [] := hne
      obtain ⟨g1, g2⟩ := minI_mem hne'
      refine ⟨a, ns, rfl, a1, List.length_pos_iff.mpr hne', fun k k1 k2 => ?_⟩
      have : k = minI ns := Int.le_antisymm (k2 _ g1) (g2 _ k1)
      subst this
      exact m.rep s rfl
    · exact m.no.elim
  · exact m.no.elim
theorem bc_max1 (hc : X.calm = true) : BC X ca (.builtin "max") dMax1 := by
  refine ⟨_, cr_max hc, fun W σ Hf H xs vs Q s h m => ?_⟩
  unfold dMax1 at m
  split at m
  · split at m
    · exact m.no.elim
    · rename_i ns hne hn
      obtain ⟨v, rfl, h1⟩ := pRepL1 h
      obtain ⟨a, us, rfl, a1, a2⟩ := pLst h1
      rw [intL_map hn] at a2
      have := repL_is a2
      subst this
      have hne' : ns ≠ [] := hne
      obtain ⟨g1, g2⟩ := maxI_mem hne'
      refine ⟨a, ns, rfl, a1, List.length_pos_iff.mpr hne', fun k k1 k2 => ?_⟩
      have : k = maxI ns := Int.le_antisymm (g2 _ k1) (k2 _ g1)
      subst this
      exact m.rep s rfl
    · exact m.no.elim
  · exact m.no.elim
def rLcm : List V → Hp → VK → Prop := fun vs H Q => ∃ a b : Int, vs = [.int a, .int b] ∧ a.natAbs < 2 ^ 64 ∧ b.natAbs < 2 ^ 64 ∧ Q (.int ((Nat.lcm a.natAbs b.natAbs : Nat) : Int)) H
theorem cr_lcm : CallR X (.builtin "math.lcm") rLcm := by
  intro pins s σ H vs us Q I r h
  obtain ⟨a, b, rfl, h1, h2, q⟩ := h
  obtain ⟨t, u, rfl⟩ := Vals.int2 r
  exact PySem.W.mc_lcm h1 h2 fun _ => ⟨.int _, H, I.tok _, ⟨_, rfl⟩, q⟩
theorem bc_gcd : BC X ca (.builtin "math.gcd") dGcd := by
  refine ⟨_, cr_gcd, fun W σ Hf H xs vs Q s h m => ?_⟩
  unfold dGcd at m
  split at m
  · obtain ⟨v, u, rfl, h1, h2⟩ := pRepL2 h
    rw [pInt h1, pInt h2]
    exact ⟨_, _, rfl, m.rep s rfl⟩
  · exact m.no.elim
theorem bc_lcm : BC X ca (.builtin "math.lcm") dLcm := by
  refine ⟨_, cr_lcm, fun W σ Hf H xs vs Q s h m => ?_⟩
  unfold dLcm at m
  split at m
  · split at m
    · rename_i hz
      obtain ⟨v, u, rfl, h1, h2⟩ := pRepL2 h
      rw [pInt h1, pInt h2]
      exact ⟨_, _, rfl, hz.1, hz.2, m.rep s rfl⟩
    · exact m.no.elim
  · exact m.no.elim
end
section
variable {X : Cx} {j : Jc} {e a b c tg : Expr} {es : List Expr} {ce ca cb cc : CE} {al : CA} {pos p pos2 p2 : Pos}
theorem me_bfun {id : String} {g : List D → Out D} {x : Str} {q : Pos} (o : BC X j.ca (.builtin id) g) (hg : Gl X x) (hm : X.mg x = some (.builtin id)) (ha : MPA X j (e :: es) al)
    (hdb : (x == ("__debug__" : Str)) = false := by decide) (he : starEach (e :: es) X.env = (false, eval e X.env) :: starEach es X.env := by rfl) (hpl : (backTo pos (starEach es X.env)).any (·.1) = false := by rfl) :
    ME X j (.Call (.Name x q) (e :: es) [] pos) (eB g al) := by
  obtain ⟨r, h, k⟩ := o
  exact PE.imp (pe_callBfun h hg hm ha hdb he hpl) fun σ H Q ⟨G, Hf, env, rr, m⟩ => ⟨G, Hf, env, rr, m.bind.imp fun xs Hf1 H1 _ p1 m1 vs rv => k j.W σ Hf1 H1 xs vs Q p1.sub rv m1⟩
theorem repL3 {K : PySem.W.Frag} {ca : Nat → Addr} {H : Hp} {d d' d2 : D} {vs : List V} (h : RepL K ca H [d, d', d2] vs) : ∃ v u w, vs = [v, u, w] ∧ Rep K ca H d v ∧ Rep K ca H d' u ∧ Rep K ca H d2 w := by
  obtain ⟨v, r, rfl, h1, h2⟩ := repL_cons h
  obtain ⟨u, w, rfl, h3, h4⟩ := repL2 h2
  exact ⟨v, u, w, rfl, h1, h3, h4⟩
theorem it_rangeC {K : PySem.W.Frag} {ca : Nat → Addr} {Hf0 : Hp} {lo c : Int} {n : Nat} : ItOk K ca Hf0 (rangeC lo c n) (Itc lo c n) := by
  refine ⟨fun i Hf H s1 s2 h => (show i < n by unfold rangeC at h; rwa [List.length_map, List.length_range] at h), fun i Hf H v H' d s1 s2 h ⟨e, q⟩ => ?_, fun i Hf H s1 s2 h => (show n ≤ i by unfold rangeC at h; rwa [List.length_map, List.length_range] at h)⟩
  subst e; subst q
  refine ⟨Hf, Post.refl s2, ?_⟩
  unfold rangeC at h
  rw [List.getElem?_map] at h
  cases q : (List.range n)[i]? with
  | none => rw [q] at h; cases h
  | some m =>
    rw [q] at h
    have : m = i := by
      obtain ⟨h1, h2⟩ := List.getElem?_eq_some_iff.mp q
      simpa using h2.symm
    subst this
    cases h
    rfl
theorem mi_range3 (hg : Gl X "range") (hm : X.mg "range" = none) (ha : MA X j [a, b, c] al) (hs : starEach [a, b, c] X.env = (false, eval a X.env) :: starEach [b, c] X.env := by rfl) (hpl : (backTo pos (starEach [b, c] X.env)).any (·.1) = false := by rfl) : MI X j tg (.Call (.Name "range" p) [a, b, c] [] pos) (iB dRange3 al) := by
  refine PI.imp (pi_range3 hg hm ha hs hpl) fun σ H R ⟨G, Hf, env, r, m⟩ => ⟨G, Hf, env, r, m.bind.imp fun ds Hf1 H1 ho p1 m1 vs rv => ?_⟩
  unfold dRange3 at m1
  split at m1
  · rename_i i k cc
    split at m1
    · rename_i hz
      obtain ⟨hc, z1, z2⟩ := hz
      subst hc
      obtain ⟨v, u, w, rfl, r1, r2, r3⟩ := repL3 rv
      have r1 : v = .int i := r1
      have r2 : u = .int k := r2
      have r3 : w = .int (-1) := r3
      subst r1; subst r2; subst r3
      exact ⟨i, k, -1, (i - k).toNat, rfl, RgC.neg z1.1 z1.2 z2.1 z2.2, OutP.ok m1 p1.sub _ it_rangeC⟩
    · exact m1.no.elim
  · exact m1.no.elim
/-- list(range(..)) -/
theorem rgV_rep {K : PySem.W.Frag} {cx : Nat → Addr} {H : Hp} (i k : Int) : RepL K cx H (rangeL i k) (rgV i k) := by
  unfold rangeL rgV
  generalize List.range (k - i).toNat = l
  induction l with
  | nil => show RepL K cx H [] []; unfold RepL; rfl
  | cons x l ih => show RepL K cx H (.int (i + (x : Nat)) :: l.map _) _; unfold RepL; exact ⟨_, _, rfl, rfl, ih⟩
theorem mf_listRg2 (hc : X.calm = true) (hg : Gl X "list") (hm : X.mg "list" = none) (he : PRg X e (tRg2 (TM X.K j ca) (TM X.K j cb))) (na : starEach [e] X.env = (false, eval e X.env) :: starEach [] X.env := by rfl) :
    MF X j (.Call (.Name "list" p) [e] [] pos) (fOp2 dListRg ca cb) := by
  refine PE.imp (pe_listRg hc hg hm he na) fun σ H Q ⟨G, Hf, env, r, m⟩ => ⟨G, Hf, env, r, m.bind.imp fun x Hf1 H1 ho p1 m1 v rv => ⟨G, Hf1, env, r.grow p1, m1.bind.imp fun y Hf2 H2 ho2 p2 m2 u ru => ?_⟩⟩
  have m3 := m2.bind
  unfold dListRg at m3
  split at m3
  · rename_i i k
    split at m3
    · rename_i hz
      have rv : v = .int i := rv
      have ru : u = .int k := ru
      subst rv; subst ru
      obtain ⟨z1, z2, z3⟩ := hz
      exact ⟨i, k, rfl, rfl, ⟨z1.1, z1.2, z2.1, z2.2, by omega⟩, fun q hq => OutP.ok m3 p2.sub _ _ (post_own p2.sub hq) _ (own_step (p1.trans p2) hq (rgV_rep i k))⟩
    · exact m3.no.elim
  · exact m3.no.elim
theorem mf_listRg1 (hc : X.calm = true) (hg : Gl X "list") (hm : X.mg "list" = none) (he : PRg X e (tRg1 (TM X.K j ca))) (na : starEach [e] X.env = (false, eval e X.env) :: starEach [] X.env := by rfl) :
    MF X j (.Call (.Name "list" p) [e] [] pos) (fOp2 dListRg (eC (.int 0)) ca) := by
  refine PE.imp (pe_listRg hc hg hm he na) fun σ H Q ⟨G, Hf, env, r, m⟩ => ⟨G, Hf, env, r, ?_⟩
  have m : OutP X.K j.ca j.W σ Hf H ((ca env).bind fun y => (dListRg (.int 0) y).bind fun ys => Out.ok (Own.lst ys)) _ := m
  refine m.bind.imp fun y Hf2 H2 ho2 p2 m2 u ru => ?_
  have m3 := m2.bind
  cases y with
  | int k =>
    have m3 : OutP X.K j.ca j.W σ Hf2 H2 (if smallI 0 ∧ smallI k ∧ k - 0 ≤ 1000000 then Out.ok (rangeL 0 k) else .stuck) _ := m3
    split at m3
    · rename_i hz
      have ru : u = .int k := ru
      subst ru
      obtain ⟨z1, z2, z3⟩ := hz
      exact ⟨k, rfl, ⟨z1.1, z1.2, z2.1, z2.2, by omega⟩, fun q hq => OutP.ok m3 p2.sub _ _ (post_own p2.sub hq) _ (own_step p2 hq (rgV_rep 0 k))⟩
    · exact m3.no.elim
  | _ => exact m3.no.elim
theorem me_tupRg2 (hc : X.calm = true) (hg : Gl X "tuple") (hm : X.mg "tuple" = none) (he : PRg X e (tRg2 (TM X.K j ca) (TM X.K j cb))) (na : starEach [e] X.env = (false, eval e X.env) :: starEach [] X.env := by rfl) :
    ME X j (.Call (.Name "tuple" p) [e] [] pos) (eOp2 dTupRg ca cb) := by
  refine PE.imp (pe_tupRg hc hg hm he na) fun σ H Q ⟨G, Hf, env, r, m⟩ => ⟨G, Hf, env, r, m.bind.imp fun x Hf1 H1 ho p1 m1 v rv => ⟨G, Hf1, env, r.grow p1, m1.bind.imp fun y Hf2 H2 ho2 p2 m2 u ru => ?_⟩⟩
  unfold dTupRg at m2
  split at m2
  · rename_i i k
    split at m2
    · rename_i hz
      have rv : v = .int i := rv
      have ru : u = .int k := ru
      subst rv; subst ru
      obtain ⟨z1, z2, z3⟩ := hz
      exact ⟨i, k, rfl, rfl, ⟨z1.1, z1.2, z2.1, z2.2, by omega⟩, fun q hq => m2.newT p2.sub (rgV_rep i k) q hq⟩
    · exact m2.no.elim
  · exact m2.no.elim
theorem me_tupRg1 (hc : X.calm = true) (hg : Gl X "tuple") (hm : X.mg "tuple" = none) (he : PRg X e (tRg1 (TM X.K j ca))) (na : starEach [e] X.env = (false, eval e X.env) :: starEach [] X.env := by rfl) :
    ME X j (.Call (.Name "tuple" p) [e] [] pos) (eOp2 dTupRg (eC (.int 0)) ca) := by
  refine PE.imp (pe_tupRg hc hg hm he na) fun σ H Q ⟨G, Hf, env, r, m⟩ => ⟨G, Hf, env, r, ?_⟩
  have m : OutP X.K j.ca j.W σ Hf H ((ca env).bind fun y => dTupRg (.int 0) y) _ := m
  refine m.bind.imp fun y Hf2 H2 ho2 p2 m2 u ru => ?_
  cases y with
  | int k =>
    have m2 : OutP X.K j.ca j.W σ Hf2 H2 (if smallI 0 ∧ smallI k ∧ k - 0 ≤ 1000000 then Out.ok (D.tup (rangeL 0 k)) else .stuck) _ := m2
    split at m2
    · rename_i hz
      have ru : u = .int k := ru
      subst ru
      obtain ⟨z1, z2, z3⟩ := hz
      exact ⟨k, rfl, ⟨z1.1, z1.2, z2.1, z2.2, by omega⟩, fun q hq => m2.newT p2.sub (rgV_rep 0 k) q hq⟩
    · exact m2.no.elim
  | _ => exact m2.no.elim
end
end M
namespace Lw
open M PySem
def isi_BadScene : Sub := subT [(0, false), (4, false), (6, true)]
def isi_BadState : Sub := subT [(0, false), (4, true), (6, false)]
def exm_HouseError : Sub := subT [(0, true), (4, true), (6, true)]
def f__law_cell : Fn := fn 2 4 (sSeq (sIf (tVal (eOp2 dLt (eVar 1) (eB dLen (aCons (eVar 0) aNil)))) (sRet (eOp2 dIx (eVar 0) (eVar 1))) sNext)
  (sSeq (sSet 2 (eOp2 dAdd (eOp2 dMul (eC (.int 7919)) (eVar 1)) (eC (.int 1))))
  (sSeq (sFor (iSeq (eVar 0)) (gName 3) (sSet 2 (eOp2 dMod (eB dInt (aCons (eOp2 dAdd (eOp2 dMul (eVar 2) (eC (.int 31))) (eVar 3)) aNil)) (eC (.int 2147483647)))))
  (sRet (eVar 2)))))
def f__law_done : Fn := fn 3 5 (sSeq (sSetF 3 (fB dList (aCons (eVar 2) aNil)))
  (sSeq (sFor (iSeq (eVar 1)) (gName 4) (sIf (tVal (eOp2 dEq (eOp2 dIx (eVar 4) (eC (.int 1))) (eC (.str "set")))) (sSetIx 3 (eOp2 dIx (eVar 4) (eC (.int 0))) (eOp2 dIx (eVar 4) (eC (.int 2)))) (sSetIx 3 (eOp2 dIx (eVar 4) (eC (.int 0))) (eOp2 dMod (eB dInt (aCons (eOp2 dAdd (eOp2 dIx (ePeek 3) (eOp2 dIx (eVar 4) (eC (.int 0)))) (eOp2 dIx (eVar 4) (eC (.int 2)))) aNil)) (eOp2 dIx (eVar 0) (eOp2 dIx (eVar 4) (eC (.int 0))))))))
  (sRet (eB dTuple (aCons (ePeek 3) aNil)))))
def f__law_integer : Fn := fn 1 1 (sRet (eAnd (eB dIsi (aCons (eVar 0) (aCons (eC (.ty "int")) aNil))) (eNot (eB dIsi (aCons (eVar 0) (aCons (eC (.ty "bool")) aNil))))))
def f__law_is_scene : Fn := fn 2 4 (sSeq (sIf (tNot (tVal (eB dIsi (aCons (eVar 1) (aCons (eC (.ty "tuple")) aNil))))) (sRet (eC (.bl false))) sNext)
  (sSeq (sSet 2 (eOp1 dNeg (eC (.int 1))))
  (sSeq (sFor (iSeq (eVar 1)) (gName 3) (sSeq (sIf (tOr (tNot (tVal (eB dIsi (aCons (eVar 3) (aCons (eC (.ty "tuple")) aNil))))) (tOr (tVal (eOp2 dNe (eB dLen (aCons (eVar 3) aNil)) (eC (.int 3)))) (tNot (tVal (eB dIsi (aCons (eOp2 dIx (eVar 3) (eC (.int 1))) (aCons (eC (.ty "str")) aNil))))))) (sRet (eC (.bl false))) sNext)
  (sSeq (sIf (tOr (tNot (tVal (eCall f__law_integer (aCons (eOp2 dIx (eVar 3) (eC (.int 0))) aNil)))) (tNot (tVal (eCall f__law_integer (aCons (eOp2 dIx (eVar 3) (eC (.int 2))) aNil))))) (sRet (eC (.bl false))) sNext)
  (sSeq (sIf (tOr (tVal (eOp2 dLe (eOp2 dIx (eVar 3) (eC (.int 0))) (eVar 2))) (tOr (tVal (eOp2 dGe (eOp2 dIx (eVar 3) (eC (.int 0))) (eB dLen (aCons (eVar 0) aNil)))) (tAnd (tVal (eOp2 dNe (eOp2 dIx (eVar 3) (eC (.int 1))) (eC (.str "set")))) (tVal (eOp2 dNe (eOp2 dIx (eVar 3) (eC (.int 1))) (eC (.str "step"))))))) (sRet (eC (.bl false))) sNext)
  (sSeq (sIf (tOr (tVal (eOp2 dLt (eOp2 dIx (eVar 3) (eC (.int 2))) (eB dInt (aCons (eOp2 dEq (eOp2 dIx (eVar 3) (eC (.int 1))) (eC (.str "step"))) aNil)))) (tVal (eOp2 dGe (eOp2 dIx (eVar 3) (eC (.int 2))) (eOp2 dIx (eVar 0) (eOp2 dIx (eVar 3) (eC (.int 0))))))) (sRet (eC (.bl false))) sNext)
  (sSet 2 (eOp2 dIx (eVar 3) (eC (.int 0)))))))))
  (sRet (eC (.bl true))))))
def f__law_joined_holds : Fn := fn 4 11 (sSeq (sIf (tNot (tVal (eCall f__law_is_scene (aCons (eVar 0) (aCons (eVar 2) aNil))))) (sRet (eC (.bl false))) sNext)
  (sSeq (sFor (iB dRange1 (aCons (eC (.int 5)) aNil)) (gName 4) (sSeq (sSet 5 (eB dTuple (aCons (eShare (fComp [6] (iSeq (eVar 0)) (gName 6) tTrue (eOp2 dMod (eB dInt (aCons (eVar 4) aNil)) (eVar 6)))) aNil)))
  (sSeq (sSet 7 (eVar 5))
  (sSeq (sSet 8 (eVar 5))
  (sSeq (sFor (iSeq (eVar 1)) (gName 9) (sFreeze 7 (sSetCall 7 f__law_done (aCons (eVar 0) (aCons (eVar 9) (aCons (eVar 7) aNil))))))
  (sSeq (sFor (iSeq (eVar 3)) (gName 10) (sFreeze 8 (sSetCall 8 f__law_done (aCons (eVar 0) (aCons (eOp2 dIx (eVar 1) (eVar 10)) (aCons (eVar 8) aNil))))))
  (sIf (tOr (tVal (eOp2 dNe (ePeek 7) (ePeek 8))) (tVal (eOp2 dNe (eCall f__law_done (aCons (eVar 0) (aCons (eVar 2) (aCons (eVar 5) aNil)))) (ePeek 7)))) (sRet (eC (.bl false))) sNext)))))))
  (sRet (eC (.bl true)))))
def f__law_row : Fn := fn 2 6 (sSeq (sSet 2 (eVar 0))
  (sSeq (sSet 3 (eOp2 dMod (eB dInt (aCons (eOp2 dAdd (eOp2 dMul (eVar 0) (eC (.int 48271))) (eC (.int 12345))) aNil)) (eC (.int 2147483647))))
  (sSeq (sSetF 4 (fLst aNil))
  (sSeq (sFor (iSeq (eVar 1)) (gName 5) (sIf (tVal (eOp2 dGe (eVar 0) (eOp2 dPow (eC (.int 10)) (eC (.int 18))))) (sSeq (sAppend 4 (eOp2 dMod (eB dInt (aCons (eVar 2) aNil)) (eVar 5)))
  (sSet 2 (eOp2 dFdiv (eVar 2) (eVar 5)))) (sSeq (sSet 3 (eOp2 dMod (eB dInt (aCons (eOp2 dAdd (eOp2 dMul (eVar 3) (eC (.int 16807))) (eC (.int 54321))) aNil)) (eC (.int 2147483647))))
  (sAppend 4 (eOp2 dMod (eOp2 dFdiv (eVar 3) (eC (.int 64))) (eVar 5))))))
  (sRetOwn 4)))))
def f__law_order : Fn := fn 2 6 (sSeq (sSetF 2 (fOp2 dListRg (eC (.int 0)) (eVar 1)))
  (sSeq (sSetF 3 (fLst aNil))
  (sSeq (sFor (iSeq (eCall f__law_row (aCons (eVar 0) (aCons (eShare (fComp [5] (iB dRange1 (aCons (eVar 1) aNil)) (gName 5) tTrue (eC (.int 720720)))) aNil)))) (gName 4) (sAppPop 3 2 (pAt (eOp2 dMod (eVar 4) (eB dLen (aCons (ePeek 2) aNil))))))
  (sRetOwn 3))))
def f__law_plain : Nat → Fn
  | 0 => fun _ => .stuck
  | n + 1 => fn 1 2 (sSeq (sIf (tVal (eB dIsi (aCons (eVar 0) (aCons (eC (.ty "tuple")) aNil)))) (sRet (eOp2 dNotIn (eC (.bl false)) (eShare (fComp [1] (iSeq (eVar 0)) (gName 1) tTrue (eCall (f__law_plain n) (aCons (eVar 1) aNil)))))) sNext)
  (sRet (eOr (eB dIsi (aCons (eVar 0) (aCons (eC (.ty "str")) aNil))) (eAnd (eB dIsi (aCons (eVar 0) (aCons (eC (.ty "int")) aNil))) (eNot (eB dIsi (aCons (eVar 0) (aCons (eC (.ty "bool")) aNil))))))))
def f_act_table : Fn := fn 1 4 (sRetF (fDC [1, 2, 3] (iSeq (eVar 0)) (gTup [(gName 1), (gName 2), (gName 3)]) tTrue (eVar 1) (eTup (aCons (eVar 2) (aCons (eVar 3) aNil)))))
def f_acts_clash : Fn := fn 2 2 (sSeq (sIf (tAnd (tVal (eOp2 dEq (eOp2 dIx (eVar 0) (eC (.int 0))) (eC (.str "step")))) (tVal (eOp2 dEq (eOp2 dIx (eVar 1) (eC (.int 0))) (eC (.str "step"))))) (sRet (eC (.bl false))) sNext)
  (sRet (eOp2 dNe (eVar 0) (eVar 1))))
def f_clash_device : Fn := fn 2 6 (sSeq (sSetCall 2 f_act_table (aCons (eVar 0) aNil))
  (sSeq (sFor (iSeq (eVar 1)) (gTup [(gName 3), (gName 4), (gName 5)]) (sIf (tAnd (tVal (eOp2 dIn (eVar 3) (ePeek 2))) (tVal (eCall f_acts_clash (aCons (eOp2 dIx (ePeek 2) (eVar 3)) (aCons (eTup (aCons (eVar 4) (aCons (eVar 5) aNil))) aNil))))) (sRet (eVar 3)) sNext))
  (sRet (eC .non))))
def f_is_integer : Fn := fn 1 1 (sRet (eAnd (eB dIsi (aCons (eVar 0) (aCons (eC (.ty "int")) aNil))) (eNot (eB dIsi (aCons (eVar 0) (aCons (eC (.ty "bool")) aNil))))))
def f_is_act : Fn := fn 2 5 (sSeq (sIf (tOr (tNot (tVal (eB dIsi (aCons (eVar 1) (aCons (eC (.ty "tuple")) aNil))))) (tVal (eOp2 dNe (eB dLen (aCons (eVar 1) aNil)) (eC (.int 3))))) (sRet (eC (.bl false))) sNext)
  (sSeq (sSetTg (gTup [(gName 2), (gName 3), (gName 4)]) (eVar 1))
  (sSeq (sIf (tOr (tNot (tVal (eCall f_is_integer (aCons (eVar 2) aNil)))) (tNot (tVal (eChain dLe dLt (eC (.int 0)) (eVar 2) (eB dLen (aCons (eVar 0) aNil)))))) (sRet (eC (.bl false))) sNext)
  (sSeq (sIf (tOr (tNot (tVal (eB dIsi (aCons (eVar 3) (aCons (eC (.ty "str")) aNil))))) (tNot (tVal (eCall f_is_integer (aCons (eVar 4) aNil))))) (sRet (eC (.bl false))) sNext)
  (sSeq (sIf (tVal (eOp2 dEq (eVar 3) (eC (.str "set")))) (sRet (eChain dLe dLt (eC (.int 0)) (eVar 4) (eOp2 dIx (eVar 0) (eVar 2)))) sNext)
  (sRet (eAnd (eOp2 dEq (eVar 3) (eC (.str "step"))) (eChain dLe dLt (eC (.int 1)) (eVar 4) (eOp2 dIx (eVar 0) (eVar 2))))))))))
def f_is_scene : Fn := fn 2 4 (sSeq (sIf (tNot (tVal (eB dIsi (aCons (eVar 1) (aCons (eC (.ty "tuple")) aNil))))) (sRet (eC (.bl false))) sNext)
  (sSeq (sSet 2 (eOp1 dNeg (eC (.int 1))))
  (sSeq (sFor (iSeq (eVar 1)) (gName 3) (sSeq (sIf (tOr (tNot (tVal (eCall f_is_act (aCons (eVar 0) (aCons (eVar 3) aNil))))) (tVal (eOp2 dLe (eOp2 dIx (eVar 3) (eC (.int 0))) (eVar 2)))) (sRet (eC (.bl false))) sNext)
  (sSet 2 (eOp2 dIx (eVar 3) (eC (.int 0))))))
  (sRet (eC (.bl true))))))
def f_demand_scene : Fn := fn 2 2 (sIf (tNot (tVal (eCall f_is_scene (aCons (eVar 0) (aCons (eVar 1) aNil))))) (sRaise 6 [] aNil) sNext)
def f_clash : Fn := fn 3 5 (sSeq (sDrop (eCall f_demand_scene (aCons (eVar 0) (aCons (eVar 1) aNil))))
  (sSeq (sDrop (eCall f_demand_scene (aCons (eVar 0) (aCons (eVar 2) aNil))))
  (sSeq (sSetCall 3 f_clash_device (aCons (eVar 1) (aCons (eVar 2) aNil)))
  (sSeq (sIf (tVal (eOp2 dIs (ePeek 3) (eC .non))) (sRet (eC .non)) sNext)
  (sFreeze 3 (sRet (eTup (aCons (eVar 3) (aCons (eB dTuple (aCons (eShare (fComp [4] (iSeq (eVar 0)) (gName 4) tTrue (eC (.int 0)))) aNil)) aNil)))))))))
def f_is_state : Fn := fn 2 4 (sSeq (sIf (tOr (tNot (tVal (eB dIsi (aCons (eVar 1) (aCons (eC (.ty "tuple")) aNil))))) (tVal (eOp2 dNe (eB dLen (aCons (eVar 1) aNil)) (eB dLen (aCons (eVar 0) aNil))))) (sRet (eC (.bl false))) sNext)
  (sSeq (sFor (iB dZip (aCons (eVar 1) (aCons (eVar 0) aNil))) (gTup [(gName 2), (gName 3)]) (sIf (tOr (tNot (tVal (eCall f_is_integer (aCons (eVar 2) aNil)))) (tNot (tVal (eChain dLe dLt (eC (.int 0)) (eVar 2) (eVar 3))))) (sRet (eC (.bl false))) sNext))
  (sRet (eC (.bl true)))))
def f_scene_result : Fn := fn 3 7 (sSeq (sSetF 3 (fB dList (aCons (eVar 2) aNil)))
  (sSeq (sFor (iSeq (eVar 1)) (gTup [(gName 4), (gName 5), (gName 6)]) (sIf (tVal (eOp2 dEq (eVar 5) (eC (.str "set")))) (sSetIx 3 (eVar 4) (eVar 6)) (sSetIx 3 (eVar 4) (eOp2 dMod (eOp2 dAdd (eOp2 dIx (ePeek 3) (eVar 4)) (eVar 6)) (eOp2 dIx (eVar 0) (eVar 4))))))
  (sRet (eB dTuple (aCons (ePeek 3) aNil)))))
def f_shows_clash : Fn := fn 4 6 (sSeq (sIf (tNot (tVal (eCall f_is_state (aCons (eVar 0) (aCons (eVar 3) aNil))))) (sRet (eC (.bl false))) sNext)
  (sSeq (sSetCall 4 f_scene_result (aCons (eVar 0) (aCons (eVar 2) (aCons (eCall f_scene_result (aCons (eVar 0) (aCons (eVar 1) (aCons (eVar 3) aNil)))) aNil))))
  (sSeq (sSetCall 5 f_scene_result (aCons (eVar 0) (aCons (eVar 1) (aCons (eCall f_scene_result (aCons (eVar 0) (aCons (eVar 2) (aCons (eVar 3) aNil)))) aNil))))
  (sRet (eOp2 dNe (ePeek 4) (ePeek 5))))))
def f__law_pair_holds : Fn := fn 6 11 (sSeq (sSetCall 6 f_clash (aCons (eVar 0) (aCons (eVar 1) (aCons (eVar 2) aNil))))
  (sSeq (sIf (tAnd (tVal (eOp2 dEq (eVar 3) (eC (.int 99)))) (tVal (eOp2 dIsNot (ePeek 6) (eC .non)))) (sRet (eC (.bl false))) sNext)
  (sSeq (sFreeze 6 (sIf (tAnd (tVal (eOp2 dLt (eVar 3) (eC (.int 99)))) (tOr (tVal (eOp2 dNe (ePeek 6) (eTup (aCons (eVar 3) (aCons (eB dTuple (aCons (eShare (fComp [7] (iSeq (eVar 0)) (gName 7) tTrue (eC (.int 0)))) aNil)) aNil))))) (tNot (tVal (eCall (f__law_plain 40) (aCons (eVar 6) aNil)))))) (sRet (eC (.bl false))) sNext))
  (sSeq (sSetCall 8 f__law_done (aCons (eVar 0) (aCons (eVar 2) (aCons (eCall f__law_done (aCons (eVar 0) (aCons (eVar 1) (aCons (eVar 4) aNil)))) aNil))))
  (sSeq (sSetCall 9 f__law_done (aCons (eVar 0) (aCons (eVar 1) (aCons (eCall f__law_done (aCons (eVar 0) (aCons (eVar 2) (aCons (eVar 4) aNil)))) aNil))))
  (sSeq (sSetCall 10 f_shows_clash (aCons (eVar 0) (aCons (eVar 1) (aCons (eVar 2) (aCons (eVar 4) aNil)))))
  (sSeq (sIf (tOr (tNot (tVal (eB dIsi (aCons (ePeek 10) (aCons (eC (.ty "bool")) aNil))))) (tVal (eOp2 dNe (ePeek 10) (eOp2 dNe (ePeek 8) (ePeek 9))))) (sRet (eC (.bl false))) sNext)
  (sRet (eOp2 dIs (eCall f_shows_clash (aCons (eVar 0) (aCons (eVar 1) (aCons (eVar 2) (aCons (eVar 5) aNil))))) (eC (.bl false)))))))))))
def f__law_parting : Fn := fn 3 10 (sSeq (sSetF 3 (fLst (aCons (eC (.int 99)) aNil)))
  (sSeq (sFor (iB dRange1 (aCons (eC (.int 5)) aNil)) (gName 4) (sSeq (sSet 5 (eB dTuple (aCons (eShare (fComp [6] (iSeq (eVar 0)) (gName 6) tTrue (eOp2 dMod (eB dInt (aCons (eVar 4) aNil)) (eVar 6)))) aNil)))
  (sSeq (sSetCall 7 f__law_done (aCons (eVar 0) (aCons (eVar 2) (aCons (eCall f__law_done (aCons (eVar 0) (aCons (eVar 1) (aCons (eVar 5) aNil)))) aNil))))
  (sSeq (sSetCall 8 f__law_done (aCons (eVar 0) (aCons (eVar 1) (aCons (eCall f__law_done (aCons (eVar 0) (aCons (eVar 2) (aCons (eVar 5) aNil)))) aNil))))
  (sSetF 3 (fOp2 fCat (ePeek 3) (eShare (fComp [9] (iB dRange1 (aCons (eB dLen (aCons (eVar 0) aNil)) aNil)) (gName 9) (tVal (eOp2 dNe (eOp2 dIx (ePeek 7) (eVar 9)) (eOp2 dIx (ePeek 8) (eVar 9)))) (eVar 9)))))))))
  (sRet (eB dMin1 (aCons (ePeek 3) aNil)))))
def f_scene_of : Fn := fn 1 2 (sRet (eB dTuple (aCons (eShare (fComp [1] (iSeq (eShare (fB dSorted (aCons (eVar 0) aNil)))) (gName 1) tTrue (eOp2 dAdd (eTup (aCons (eVar 1) aNil)) (eOp2 dIx (eVar 0) (eVar 1))))) aNil)))
def f_scene_then : Fn := fn 3 10 (sSeq (sSetCall 3 f_act_table (aCons (eVar 1) aNil))
  (sSeq (sFor (iSeq (eVar 2)) (gTup [(gName 4), (gName 5), (gName 6)]) (sSeq (sIf (tOr (tVal (eOp2 dEq (eVar 5) (eC (.str "set")))) (tVal (eOp2 dNotIn (eVar 4) (ePeek 3)))) (sSeq (sPut 3 (eVar 4) (eTup (aCons (eVar 5) (aCons (eVar 6) aNil))))
  sCont) sNext)
  (sSeq (sSetTg (gTup [(gName 7), (gName 8)]) (eOp2 dIx (ePeek 3) (eVar 4)))
  (sSeq (sSet 9 (eOp2 dMod (eOp2 dAdd (eVar 8) (eVar 6)) (eOp2 dIx (eVar 0) (eVar 4))))
  (sIf (tAnd (tVal (eOp2 dEq (eVar 7) (eC (.str "step")))) (tVal (eOp2 dEq (eVar 9) (eC (.int 0))))) (sPop 3 (eVar 4)) (sPut 3 (eVar 4) (eTup (aCons (eVar 7) (aCons (eVar 9) aNil)))))))))
  (sFreeze 3 (sRetCall f_scene_of (aCons (eVar 3) aNil)))))
def f_joined : Fn := fn 2 6 (sSeq (sFor (iSeq (eVar 1)) (gName 2) (sDrop (eCall f_demand_scene (aCons (eVar 0) (aCons (eVar 2) aNil)))))
  (sSeq (sSet 3 (eTup aNil))
  (sSeq (sFor (iB dEnum (aCons (eVar 1) aNil)) (gTup [(gName 4), (gName 2)]) (sSeq (sFor (iSeq (eSl (eVar 1) oNo (oSome (eVar 4)))) (gName 5) (sIf (tVal (eOp2 dIsNot (eCall f_clash_device (aCons (eVar 5) (aCons (eVar 2) aNil))) (eC .non))) (sRet (eC .non)) sNext))
  (sFreeze 3 (sSetCall 3 f_scene_then (aCons (eVar 0) (aCons (eVar 3) (aCons (eVar 2) aNil)))))))
  (sRetOwn 3))))
def f__law_refused : Fn := fn 5 6 (sSeq (sTryAs (sIf (tVal (eOp2 dEq (eVar 1) (eC (.int 0)))) (sDrop (eCall f_clash (aCons (eVar 0) (aCons (eVar 3) (aCons (eVar 2) aNil))))) (sIf (tVal (eOp2 dEq (eVar 1) (eC (.int 1)))) (sDrop (eCall f_clash (aCons (eVar 0) (aCons (eVar 2) (aCons (eVar 3) aNil))))) (sDrop (eCall f_joined (aCons (eVar 0) (aCons (eVar 4) aNil)))))) exm_HouseError 5 (sRet (eAnd (eXis 5 isi_BadScene) (eNot (eXis 5 isi_BadState)))))
  (sRet (eC (.bl false))))
def f__law_scene : Fn := fn 2 7 (sSeq (sSetCall 2 f__law_row (aCons (eVar 0) (aCons (eOp2 dAdd (eShare (fLst (aCons (eC (.int 4)) aNil))) (eShare (fRepO (fLst (aCons (eC (.int 3)) (aCons (eC (.int 2)) (aCons (eC (.int 60)) aNil)))) (eB dLen (aCons (eVar 1) aNil))))) aNil)))
  (sSeq (sSetF 3 (fLst aNil))
  (sSeq (sFor (iB dRange1 (aCons (eB dLen (aCons (eVar 1) aNil)) aNil)) (gName 4) (sSeq (sSet 5 (eOp2 dMod (eOp2 dIx (ePeek 2) (eOp2 dAdd (eOp2 dMul (eC (.int 3)) (eVar 4)) (eC (.int 3)))) (eOp2 dIx (eVar 1) (eVar 4))))
  (sSeq (sSet 6 (eOp2 dIx (eShare (fLst (aCons (eC (.str "set")) (aCons (eC (.str "step")) aNil)))) (eOp2 dIx (ePeek 2) (eOp2 dAdd (eOp2 dMul (eC (.int 3)) (eVar 4)) (eC (.int 2))))))
  (sSeq (sIf (tVal (eOp2 dLt (eOp2 dIx (ePeek 2) (eC (.int 0))) (eC (.int 2)))) (sSet 6 (eOp2 dIx (eShare (fLst (aCons (eC (.str "step")) (aCons (eC (.str "set")) aNil)))) (eOp2 dIx (ePeek 2) (eC (.int 0))))) sNext)
  (sIf (tAnd (tVal (eOp2 dGt (eOp2 dIx (ePeek 2) (eOp2 dAdd (eOp2 dMul (eC (.int 3)) (eVar 4)) (eC (.int 1)))) (eC (.int 0)))) (tOr (tVal (eOp2 dEq (eVar 6) (eC (.str "set")))) (tVal (eOp2 dGt (eVar 5) (eC (.int 0)))))) (sAppend 3 (eTup (aCons (eVar 4) (aCons (eVar 6) (aCons (eVar 5) aNil))))) sNext)))))
  (sRet (eB dTuple (aCons (ePeek 3) aNil))))))
def f__law_changed : Fn := fn 3 9 (sSeq (sSetCall 3 f__law_row (aCons (eVar 2) (aCons (eShare (fLst (aCons (eC (.int 60)) (aCons (eC (.int 2)) (aCons (eC (.int 60)) aNil))))) aNil)))
  (sSeq (sSet 4 (eOp2 dMod (eOp2 dIx (ePeek 3) (eC (.int 0))) (eB dLen (aCons (eVar 1) aNil))))
  (sSeq (sSet 5 (eOp2 dMod (eOp2 dIx (ePeek 3) (eC (.int 2))) (eOp2 dIx (eVar 1) (eVar 4))))
  (sSeq (sSetF 6 (fComp [7] (iSeq (eVar 0)) (gName 7) (tVal (eOp2 dLt (eOp2 dIx (eVar 7) (eC (.int 0))) (eVar 4))) (eVar 7)))
  (sSeq (sSetF 8 (fComp [7] (iSeq (eVar 0)) (gName 7) (tVal (eOp2 dGt (eOp2 dIx (eVar 7) (eC (.int 0))) (eVar 4))) (eVar 7)))
  (sSeq (sIf (tVal (eOp2 dEq (eOp2 dIx (ePeek 3) (eC (.int 1))) (eC (.int 0)))) (sRet (eB dTuple (aCons (eOp2 dAdd (eOp2 dAdd (ePeek 6) (eShare (fLst (aCons (eTup (aCons (eVar 4) (aCons (eC (.str "set")) (aCons (eVar 5) aNil)))) aNil)))) (ePeek 8)) aNil))) sNext)
  (sSeq (sIf (tVal (eOp2 dEq (eVar 5) (eC (.int 0)))) (sRet (eB dTuple (aCons (eOp2 dAdd (ePeek 6) (ePeek 8)) aNil))) sNext)
  (sRet (eB dTuple (aCons (eOp2 dAdd (eOp2 dAdd (ePeek 6) (eShare (fLst (aCons (eTup (aCons (eVar 4) (aCons (eC (.str "step")) (aCons (eVar 5) aNil)))) aNil)))) (ePeek 8)) aNil))))))))))
def f__law_tame : Fn := fn 3 7 (sSeq (sSetCall 3 f__law_row (aCons (eVar 0) (aCons (eShare (fRepO (fLst (aCons (eC (.int 2)) (aCons (eC (.int 60)) aNil))) (eB dLen (aCons (eVar 1) aNil)))) aNil)))
  (sSeq (sSetF 4 (fLst aNil))
  (sSeq (sFor (iB dRange1 (aCons (eB dLen (aCons (eVar 1) aNil)) aNil)) (gName 5) (sSeq (sSet 6 (eOp2 dMod (eOp2 dIx (ePeek 3) (eOp2 dAdd (eOp2 dMul (eC (.int 2)) (eVar 5)) (eC (.int 1)))) (eOp2 dIx (eVar 1) (eVar 5))))
  (sIf (tAnd (tVal (eOp2 dEq (eOp2 dIx (ePeek 3) (eOp2 dMul (eC (.int 2)) (eVar 5))) (eC (.int 1)))) (tVal (eOp2 dEq (eOp2 dIx (eVar 2) (eOp2 dMul (eC (.int 2)) (eVar 5))) (eC (.int 0))))) (sAppend 4 (eTup (aCons (eVar 5) (aCons (eC (.str "set")) (aCons (eOp2 dMod (eOp2 dIx (eVar 2) (eOp2 dAdd (eOp2 dMul (eC (.int 2)) (eVar 5)) (eC (.int 1)))) (eOp2 dIx (eVar 1) (eVar 5))) aNil))))) (sIf (tAnd (tVal (eOp2 dEq (eOp2 dIx (ePeek 3) (eOp2 dMul (eC (.int 2)) (eVar 5))) (eC (.int 1)))) (tVal (eOp2 dGt (eVar 6) (eC (.int 0))))) (sAppend 4 (eTup (aCons (eVar 5) (aCons (eC (.str "step")) (aCons (eVar 6) aNil))))) sNext))))
  (sRet (eB dTuple (aCons (ePeek 4) aNil))))))
def f__law_scenes : Fn := fn 3 7 (sSeq (sSetF 3 (fLst aNil))
  (sSeq (sSetCall 4 f__law_row (aCons (eCall f__law_cell (aCons (eVar 0) (aCons (eC (.int 2)) aNil))) (aCons (eShare (fRepO (fLst (aCons (eC (.int 2)) (aCons (eC (.int 60)) aNil))) (eB dLen (aCons (eVar 1) aNil)))) aNil)))
  (sSeq (sFor (iB dRange1 (aCons (eOp2 dIx (eVar 2) (eC (.int 1))) aNil)) (gName 5) (sIf (tVal (eOp2 dLt (eOp2 dIx (eVar 2) (eC (.int 0))) (eC (.int 2)))) (sAppend 3 (eCall f__law_scene (aCons (eCall f__law_cell (aCons (eVar 0) (aCons (eOp2 dAdd (eC (.int 3)) (eVar 5)) aNil))) (aCons (eVar 1) aNil)))) (sFreeze 4 (sAppend 3 (eCall f__law_tame (aCons (eCall f__law_cell (aCons (eVar 0) (aCons (eOp2 dAdd (eC (.int 3)) (eVar 5)) aNil))) (aCons (eVar 1) (aCons (eVar 4) aNil))))))))
  (sSeq (sIf (tAnd (tVal (eOp2 dEq (eOp2 dIx (eVar 2) (eC (.int 0))) (eC (.int 3)))) (tVal (eOp2 dGt (eB dLen (aCons (ePeek 3) aNil)) (eC (.int 0))))) (sSeq (sSet 6 (eOp2 dMod (eOp2 dIx (eVar 2) (eC (.int 2))) (eB dLen (aCons (ePeek 3) aNil))))
  (sSetIx 3 (eVar 6) (eCall f__law_changed (aCons (eOp2 dIx (ePeek 3) (eVar 6)) (aCons (eVar 1) (aCons (eCall f__law_cell (aCons (eVar 0) (aCons (eC (.int 8)) aNil))) aNil)))))) sNext)
  (sRetOwn 3)))))
def f__law_spoilt : Fn := fn 4 9 (sSeq (sSetF 4 (fComp [5] (iSeq (eVar 1)) (gName 5) (tVal (eOp2 dLt (eOp2 dIx (eVar 5) (eC (.int 0))) (eVar 3))) (eVar 5)))
  (sSeq (sSetF 6 (fComp [5] (iSeq (eVar 1)) (gName 5) (tVal (eOp2 dGt (eOp2 dIx (eVar 5) (eC (.int 0))) (eVar 3))) (eVar 5)))
  (sSeq (sSet 7 (eOp2 dIx (eVar 0) (eVar 3)))
  (sSeq (sSetF 8 (fLst (aCons (eTup (aCons (eVar 3) (aCons (eC (.str "set")) (aCons (eVar 7) aNil)))) (aCons (eTup (aCons (eVar 3) (aCons (eC (.str "set")) (aCons (eOp1 dNeg (eC (.int 1))) aNil)))) (aCons (eTup (aCons (eVar 3) (aCons (eC (.str "step")) (aCons (eC (.int 0)) aNil)))) (aCons (eTup (aCons (eVar 3) (aCons (eC (.str "step")) (aCons (eVar 7) aNil)))) aNil))))))
  (sSeq (sSetF 8 (fOp2 fCat (ePeek 8) (eShare (fLst (aCons (eTup (aCons (eVar 3) (aCons (eC (.str "step")) (aCons (eOp1 dNeg (eC (.int 1))) aNil)))) (aCons (eTup (aCons (eVar 3) (aCons (eC (.str "turn")) (aCons (eC (.int 1)) aNil)))) aNil))))))
  (sSeq (sIf (tVal (eOp2 dLt (eVar 2) (eC (.int 6)))) (sRet (eB dTuple (aCons (eOp2 dAdd (eOp2 dAdd (ePeek 4) (eShare (fLst (aCons (eOp2 dIx (ePeek 8) (eVar 2)) aNil)))) (ePeek 6)) aNil))) sNext)
  (sSeq (sIf (tVal (eOp2 dEq (eVar 2) (eC (.int 6)))) (sRet (eB dTuple (aCons (eOp2 dAdd (eOp2 dAdd (ePeek 4) (eShare (fLst (aCons (eTup (aCons (eVar 3) (aCons (eC (.str "set")) (aCons (eC (.int 0)) aNil)))) (aCons (eTup (aCons (eVar 3) (aCons (eC (.str "set")) (aCons (eC (.int 0)) aNil)))) aNil))))) (ePeek 6)) aNil))) sNext)
  (sSeq (sIf (tVal (eOp2 dEq (eVar 2) (eC (.int 7)))) (sRet (eB dTuple (aCons (eOp2 dAdd (eOp2 dAdd (ePeek 4) (ePeek 6)) (eShare (fLst (aCons (eTup (aCons (eB dLen (aCons (eVar 0) aNil)) (aCons (eC (.str "set")) (aCons (eC (.int 0)) aNil)))) aNil)))) aNil))) sNext)
  (sSeq (sIf (tVal (eOp2 dEq (eVar 2) (eC (.int 8)))) (sRet (eB dTuple (aCons (eOp2 dAdd (eOp2 dAdd (eShare (fLst (aCons (eTup (aCons (eOp1 dNeg (eC (.int 1))) (aCons (eC (.str "set")) (aCons (eC (.int 0)) aNil)))) aNil))) (ePeek 4)) (ePeek 6)) aNil))) sNext)
  (sSeq (sIf (tVal (eOp2 dEq (eVar 3) (eC (.int 0)))) (sRet (eB dTuple (aCons (eOp2 dAdd (eShare (fLst (aCons (eTup (aCons (eC (.int 0)) (aCons (eC (.str "step")) (aCons (eC (.int 1)) aNil)))) (aCons (eTup (aCons (eC (.int 0)) (aCons (eC (.str "set")) (aCons (eC (.int 1)) aNil)))) aNil)))) (ePeek 6)) aNil))) sNext)
  (sSeq (sFreeze 4 (sSetF 4 (fComp [5] (iSeq (eVar 4)) (gName 5) (tVal (eOp2 dLt (eOp2 dIx (eVar 5) (eC (.int 0))) (eOp2 dSub (eVar 3) (eC (.int 1))))) (eVar 5))))
  (sRet (eB dTuple (aCons (eOp2 dAdd (eOp2 dAdd (ePeek 4) (eShare (fLst (aCons (eTup (aCons (eVar 3) (aCons (eC (.str "set")) (aCons (eC (.int 0)) aNil)))) (aCons (eTup (aCons (eOp2 dSub (eVar 3) (eC (.int 1))) (aCons (eC (.str "set")) (aCons (eC (.int 0)) aNil)))) aNil))))) (ePeek 6)) aNil))))))))))))))
def f_law : Fn := fn 1 18 (sSeq (sSetCall 1 f__law_row (aCons (eCall f__law_cell (aCons (eVar 0) (aCons (eC (.int 0)) aNil))) (aCons (eShare (fLst (aCons (eC (.int 4)) (aCons (eC (.int 6)) (aCons (eC (.int 5)) (aCons (eC (.int 2)) (aCons (eC (.int 12)) (aCons (eC (.int 10)) (aCons (eC (.int 4)) (aCons (eC (.int 6)) aNil)))))))))) aNil)))
  (sSeq (sSet 2 (eOp2 dAdd (eC (.int 1)) (eOp2 dIx (eCall f__law_row (aCons (eCall f__law_cell (aCons (eVar 0) (aCons (eC (.int 1)) aNil))) (aCons (eShare (fLst (aCons (eC (.int 4)) aNil))) aNil))) (eC (.int 0)))))
  (sSeq (sSet 3 (eB dTuple (aCons (eShare (fComp [4] (iSeq (eSl (eCall f__law_row (aCons (eCall f__law_cell (aCons (eVar 0) (aCons (eC (.int 1)) aNil))) (aCons (eShare (fLst (aCons (eC (.int 4)) (aCons (eC (.int 4)) (aCons (eC (.int 4)) (aCons (eC (.int 4)) (aCons (eC (.int 4)) aNil))))))) aNil))) (oSome (eC (.int 1))) (oSome (eOp2 dAdd (eC (.int 1)) (eVar 2))))) (gName 4) tTrue (eOp2 dAdd (eC (.int 2)) (eVar 4)))) aNil)))
  (sSeq (sFreeze 1 (sSetCall 5 f__law_scenes (aCons (eVar 0) (aCons (eVar 3) (aCons (eVar 1) aNil)))))
  (sSeq (sSetCall 6 f__law_order (aCons (eCall f__law_cell (aCons (eVar 0) (aCons (eC (.int 9)) aNil))) (aCons (eB dLen (aCons (ePeek 5) aNil)) aNil)))
  (sSeq (sSet 7 (eB dTuple (aCons (eCall f__law_row (aCons (eCall f__law_cell (aCons (eVar 0) (aCons (eC (.int 10)) aNil))) (aCons (eShare (fB dList (aCons (eVar 3) aNil))) aNil))) aNil)))
  (sSeq (sSetF 8 (fB dList (aCons (eVar 7) aNil)))
  (sSeq (sIf (tVal (eOp2 dLt (eOp2 dIx (ePeek 1) (eC (.int 6))) (eC (.int 2)))) (sSetIx 8 (eOp2 dMod (eOp2 dIx (ePeek 1) (eC (.int 4))) (eVar 2)) (eOp2 dIx (eShare (fLst (aCons (eOp1 dNeg (eC (.int 1))) (aCons (eOp2 dIx (eVar 3) (eOp2 dMod (eOp2 dIx (ePeek 1) (eC (.int 4))) (eVar 2))) aNil)))) (eOp2 dIx (ePeek 1) (eC (.int 6))))) (sIf (tVal (eOp2 dEq (eOp2 dIx (ePeek 1) (eC (.int 6))) (eC (.int 2)))) (sDropPop 8 pLast) (sAppend 8 (eC (.int 0)))))
  (sSeq (sSet 9 (eC (.bl false)))
  (sSeq (sFor (iB dRange1 (aCons (eB dLen (aCons (ePeek 5) aNil)) aNil)) (gName 10) (sFor (iB dRange1 (aCons (eVar 10) aNil)) (gName 11) (sSeq (sSetCall 12 f__law_parting (aCons (eVar 3) (aCons (eOp2 dIx (ePeek 5) (eVar 11)) (aCons (eOp2 dIx (ePeek 5) (eVar 10)) aNil))))
  (sSeq (sFreeze 12 (sIf (tNot (tVal (eCall f__law_pair_holds (aCons (eVar 3) (aCons (eOp2 dIx (ePeek 5) (eVar 11)) (aCons (eOp2 dIx (ePeek 5) (eVar 10)) (aCons (eVar 12) (aCons (eVar 7) (aCons (eB dTuple (aCons (ePeek 8) aNil)) aNil))))))))) (sRet (eC (.bl false))) sNext))
  (sSet 9 (eOr (eVar 9) (eOp2 dLt (ePeek 12) (eC (.int 99)))))))))
  (sSeq (sSetF 13 (fB dList (aCons (ePeek 5) aNil)))
  (sSeq (sIf (tVal (eOp2 dEq (eOp2 dIx (ePeek 1) (eC (.int 3))) (eC (.int 1)))) (sSet 13 (eB dTuple (aCons (ePeek 5) aNil))) sNext)
  (sSeq (sFreeze 13 (sSetCall 14 f_joined (aCons (eVar 3) (aCons (eVar 13) aNil))))
  (sSeq (sIf (tOr (tVal (eOp2 dNe (eShare (fB dList (aCons (ePeek 13) aNil))) (ePeek 5))) (tVal (eOp2 dNe (eOp2 dIs (ePeek 14) (eC .non)) (eVar 9)))) (sRet (eC (.bl false))) sNext)
  (sSeq (sFreeze 14 (sFreeze 6 (sFreeze 5 (sIf (tAnd (tVal (eOp2 dIsNot (ePeek 14) (eC .non))) (tNot (tVal (eCall f__law_joined_holds (aCons (eVar 3) (aCons (eVar 5) (aCons (eVar 14) (aCons (eVar 6) aNil)))))))) (sRet (eC (.bl false))) sNext))))
  (sSeq (sSetCall 15 f__law_spoilt (aCons (eVar 3) (aCons (eCall f__law_scene (aCons (eCall f__law_cell (aCons (eVar 0) (aCons (eC (.int 11)) aNil))) (aCons (eVar 3) aNil))) (aCons (eOp2 dIx (ePeek 1) (eC (.int 5))) (aCons (eOp2 dMod (eOp2 dIx (ePeek 1) (eC (.int 4))) (eVar 2)) aNil)))))
  (sSeq (sFreeze 15 (sSetF 16 (fOp2 fCat (eOp2 dAdd (eSl (ePeek 5) oNo (oSome (eOp2 dMod (eOp2 dIx (ePeek 1) (eC (.int 7))) (eOp2 dAdd (eB dLen (aCons (ePeek 5) aNil)) (eC (.int 1)))))) (eShare (fLst (aCons (eVar 15) aNil)))) (eSl (ePeek 5) (oSome (eOp2 dMod (eOp2 dIx (ePeek 1) (eC (.int 7))) (eOp2 dAdd (eB dLen (aCons (ePeek 5) aNil)) (eC (.int 1))))) oNo))))
  (sSeq (sFor (iB dRange1 (aCons (eC (.int 3)) aNil)) (gName 17) (sFreeze 16 (sFreeze 15 (sIf (tNot (tVal (eCall f__law_refused (aCons (eVar 3) (aCons (eVar 17) (aCons (eCall f__law_scene (aCons (eCall f__law_cell (aCons (eVar 0) (aCons (eC (.int 12)) aNil))) (aCons (eVar 3) aNil))) (aCons (eVar 15) (aCons (eVar 16) aNil)))))))) (sRet (eC (.bl false))) sNext))))
  (sRet (eC (.bl true)))))))))))))))))))))
end Lw
namespace Lw
open M PySem PySem.Spec PyProof.Rows L2
def top (i : Nat) : Stmt := PySem.Challenge.pw_calmhouse_k32_orders_clash_or_join.main.body.getD i (.Pass ⟨0, 0, 0, 0⟩)
abbrev st__law_cell : Stmt := top 23
abbrev st__law_done : Stmt := top 28
abbrev st__law_integer : Stmt := top 26
abbrev st__law_is_scene : Stmt := top 29
abbrev st__law_joined_holds : Stmt := top 37
abbrev st__law_row : Stmt := top 24
abbrev st__law_order : Stmt := top 34
abbrev st__law_plain : Stmt := top 25
abbrev st_act_table : Stmt := top 13
abbrev st_acts_clash : Stmt := top 17
abbrev st_clash_device : Stmt := top 18
abbrev st_is_integer : Stmt := top 5
abbrev st_is_act : Stmt := top 8
abbrev st_is_scene : Stmt := top 9
abbrev st_demand_scene : Stmt := top 12
abbrev st_clash : Stmt := top 19
abbrev st_is_state : Stmt := top 6
abbrev st_scene_result : Stmt := top 10
abbrev st_shows_clash : Stmt := top 20
abbrev st__law_pair_holds : Stmt := top 36
abbrev st__law_parting : Stmt := top 35
abbrev st_scene_of : Stmt := top 14
abbrev st_scene_then : Stmt := top 15
abbrev st_joined : Stmt := top 21
abbrev st__law_refused : Stmt := top 38
abbrev st__law_scene : Stmt := top 27
abbrev st__law_changed : Stmt := top 32
abbrev st__law_tame : Stmt := top 31
abbrev st__law_scenes : Stmt := top 33
abbrev st__law_spoilt : Stmt := top 30
abbrev st_law : Stmt := top 39
structure Ad where
  f__law_cell : Addr
  d__law_cell : FuncData
  f__law_done : Addr
  d__law_done : FuncData
  f__law_integer : Addr
  d__law_integer : FuncData
  f__law_is_scene : Addr
  d__law_is_scene : FuncData
  f__law_joined_holds : Addr
  d__law_joined_holds : FuncData
  f__law_row : Addr
  d__law_row : FuncData
  f__law_order : Addr
  d__law_order : FuncData
  f__law_plain : Addr
  d__law_plain : FuncData
  f_act_table : Addr
  d_act_table : FuncData
  f_acts_clash : Addr
  d_acts_clash : FuncData
  f_clash_device : Addr
  d_clash_device : FuncData
  f_is_integer : Addr
  d_is_integer : FuncData
  f_is_act : Addr
  d_is_act : FuncData
  f_is_scene : Addr
  d_is_scene : FuncData
  f_demand_scene : Addr
  d_demand_scene : FuncData
  f_clash : Addr
  d_clash : FuncData
  f_is_state : Addr
  d_is_state : FuncData
  f_scene_result : Addr
  d_scene_result : FuncData
  f_shows_clash : Addr
  d_shows_clash : FuncData
  f__law_pair_holds : Addr
  d__law_pair_holds : FuncData
  f__law_parting : Addr
  d__law_parting : FuncData
  f_scene_of : Addr
  d_scene_of : FuncData
  f_scene_then : Addr
  d_scene_then : FuncData
  f_joined : Addr
  d_joined : FuncData
  f__law_refused : Addr
  d__law_refused : FuncData
  f__law_scene : Addr
  d__law_scene : FuncData
  f__law_changed : Addr
  d__law_changed : FuncData
  f__law_tame : Addr
  d__law_tame : FuncData
  f__law_scenes : Addr
  d__law_scenes : FuncData
  f__law_spoilt : Addr
  d__law_spoilt : FuncData
  f_law : Addr
  d_law : FuncData
  c_HouseError : Addr
  c_BadState : Addr
  c_BadScene : Addr
def ca (A : Ad) : Nat → Addr := fun n => match n with
  | 0 => A.c_HouseError
  | 4 => A.c_BadState
  | 6 => A.c_BadScene
  | _ => 0
structure Txt (A : Ad) (P : Program) (w : World) (K : PySem.W.Frag) (mg : Str → Option Value) : Prop where
  sup : mg "super" = none
  b_bool : mg "bool" = none
  b_enumerate : mg "enumerate" = none
  b_int : mg "int" = none
  b_isinstance : mg "isinstance" = none
  b_len : mg "len" = none
  b_list : mg "list" = none
  b_min : mg "min" = none
  b_range : mg "range" = none
  b_sorted : mg "sorted" = none
  b_str : mg "str" = none
  b_tuple : mg "tuple" = none
  b_zip : mg "zip" = none
  F__law_cell : Fun K "_law_cell" "_law_cell" st__law_cell A.f__law_cell A.d__law_cell
  m__law_cell : mg "_law_cell" = some (.ref A.f__law_cell)
  k__law_cell : PySem.W.keepIn K (.ref A.f__law_cell) = true
  n__law_cell : Binds K A.d__law_cell ["script", "k"] []
  F__law_done : Fun K "_law_done" "_law_done" st__law_done A.f__law_done A.d__law_done
  m__law_done : mg "_law_done" = some (.ref A.f__law_done)
  k__law_done : PySem.W.keepIn K (.ref A.f__law_done) = true
  n__law_done : Binds K A.d__law_done ["counts", "scene", "state"] []
  F__law_integer : Fun K "_law_integer" "_law_integer" st__law_integer A.f__law_integer A.d__law_integer
  m__law_integer : mg "_law_integer" = some (.ref A.f__law_integer)
  k__law_integer : PySem.W.keepIn K (.ref A.f__law_integer) = true
  n__law_integer : Binds K A.d__law_integer ["value"] []
  F__law_is_scene : Fun K "_law_is_scene" "_law_is_scene" st__law_is_scene A.f__law_is_scene A.d__law_is_scene
  m__law_is_scene : mg "_law_is_scene" = some (.ref A.f__law_is_scene)
  k__law_is_scene : PySem.W.keepIn K (.ref A.f__law_is_scene) = true
  n__law_is_scene : Binds K A.d__law_is_scene ["counts", "scene"] []
  F__law_joined_holds : Fun K "_law_joined_holds" "_law_joined_holds" st__law_joined_holds A.f__law_joined_holds A.d__law_joined_holds
  m__law_joined_holds : mg "_law_joined_holds" = some (.ref A.f__law_joined_holds)
  k__law_joined_holds : PySem.W.keepIn K (.ref A.f__law_joined_holds) = true
  n__law_joined_holds : Binds K A.d__law_joined_holds ["counts", "scenes", "found", "order"] []
  F__law_row : Fun K "_law_row" "_law_row" st__law_row A.f__law_row A.d__law_row
  m__law_row : mg "_law_row" = some (.ref A.f__law_row)
  k__law_row : PySem.W.keepIn K (.ref A.f__law_row) = true
  n__law_row : Binds K A.d__law_row ["cell", "sizes"] []
  F__law_order : Fun K "_law_order" "_law_order" st__law_order A.f__law_order A.d__law_order
  m__law_order : mg "_law_order" = some (.ref A.f__law_order)
  k__law_order : PySem.W.keepIn K (.ref A.f__law_order) = true
  n__law_order : Binds K A.d__law_order ["cell", "size"] []
  F__law_plain : Fun K "_law_plain" "_law_plain" st__law_plain A.f__law_plain A.d__law_plain
  m__law_plain : mg "_law_plain" = some (.ref A.f__law_plain)
  k__law_plain : PySem.W.keepIn K (.ref A.f__law_plain) = true
  n__law_plain : Binds K A.d__law_plain ["value"] []
  F_act_table : Fun K "act_table" "act_table" st_act_table A.f_act_table A.d_act_table
  m_act_table : mg "act_table" = some (.ref A.f_act_table)
  k_act_table : PySem.W.keepIn K (.ref A.f_act_table) = true
  n_act_table : Binds K A.d_act_table ["scene"] []
  F_acts_clash : Fun K "acts_clash" "acts_clash" st_acts_clash A.f_acts_clash A.d_acts_clash
  m_acts_clash : mg "acts_clash" = some (.ref A.f_acts_clash)
  k_acts_clash : PySem.W.keepIn K (.ref A.f_acts_clash) = true
  n_acts_clash : Binds K A.d_acts_clash ["one", "other"] []
  F_clash_device : Fun K "clash_device" "clash_device" st_clash_device A.f_clash_device A.d_clash_device
  m_clash_device : mg "clash_device" = some (.ref A.f_clash_device)
  k_clash_device : PySem.W.keepIn K (.ref A.f_clash_device) = true
  n_clash_device : Binds K A.d_clash_device ["first", "second"] []
  F_is_integer : Fun K "is_integer" "is_integer" st_is_integer A.f_is_integer A.d_is_integer
  m_is_integer : mg "is_integer" = some (.ref A.f_is_integer)
  k_is_integer : PySem.W.keepIn K (.ref A.f_is_integer) = true
  n_is_integer : Binds K A.d_is_integer ["value"] []
  F_is_act : Fun K "is_act" "is_act" st_is_act A.f_is_act A.d_is_act
  m_is_act : mg "is_act" = some (.ref A.f_is_act)
  k_is_act : PySem.W.keepIn K (.ref A.f_is_act) = true
  n_is_act : Binds K A.d_is_act ["counts", "act"] []
  F_is_scene : Fun K "is_scene" "is_scene" st_is_scene A.f_is_scene A.d_is_scene
  m_is_scene : mg "is_scene" = some (.ref A.f_is_scene)
  k_is_scene : PySem.W.keepIn K (.ref A.f_is_scene) = true
  n_is_scene : Binds K A.d_is_scene ["counts", "scene"] []
  F_demand_scene : Fun K "demand_scene" "demand_scene" st_demand_scene A.f_demand_scene A.d_demand_scene
  m_demand_scene : mg "demand_scene" = some (.ref A.f_demand_scene)
  k_demand_scene : PySem.W.keepIn K (.ref A.f_demand_scene) = true
  n_demand_scene : Binds K A.d_demand_scene ["counts", "scene"] []
  F_clash : Fun K "clash" "clash" st_clash A.f_clash A.d_clash
  m_clash : mg "clash" = some (.ref A.f_clash)
  k_clash : PySem.W.keepIn K (.ref A.f_clash) = true
  n_clash : Binds K A.d_clash ["counts", "first", "second"] []
  F_is_state : Fun K "is_state" "is_state" st_is_state A.f_is_state A.d_is_state
  m_is_state : mg "is_state" = some (.ref A.f_is_state)
  k_is_state : PySem.W.keepIn K (.ref A.f_is_state) = true
  n_is_state : Binds K A.d_is_state ["counts", "state"] []
  F_scene_result : Fun K "scene_result" "scene_result" st_scene_result A.f_scene_result A.d_scene_result
  m_scene_result : mg "scene_result" = some (.ref A.f_scene_result)
  k_scene_result : PySem.W.keepIn K (.ref A.f_scene_result) = true
  n_scene_result : Binds K A.d_scene_result ["counts", "scene", "state"] []
  F_shows_clash : Fun K "shows_clash" "shows_clash" st_shows_clash A.f_shows_clash A.d_shows_clash
  m_shows_clash : mg "shows_clash" = some (.ref A.f_shows_clash)
  k_shows_clash : PySem.W.keepIn K (.ref A.f_shows_clash) = true
  n_shows_clash : Binds K A.d_shows_clash ["counts", "first", "second", "state"] []
  F__law_pair_holds : Fun K "_law_pair_holds" "_law_pair_holds" st__law_pair_holds A.f__law_pair_holds A.d__law_pair_holds
  m__law_pair_holds : mg "_law_pair_holds" = some (.ref A.f__law_pair_holds)
  k__law_pair_holds : PySem.W.keepIn K (.ref A.f__law_pair_holds) = true
  n__law_pair_holds : Binds K A.d__law_pair_holds ["counts", "first", "second", "device", "state", "wrong"] []
  F__law_parting : Fun K "_law_parting" "_law_parting" st__law_parting A.f__law_parting A.d__law_parting
  m__law_parting : mg "_law_parting" = some (.ref A.f__law_parting)
  k__law_parting : PySem.W.keepIn K (.ref A.f__law_parting) = true
  n__law_parting : Binds K A.d__law_parting ["counts", "first", "second"] []
  F_scene_of : Fun K "scene_of" "scene_of" st_scene_of A.f_scene_of A.d_scene_of
  m_scene_of : mg "scene_of" = some (.ref A.f_scene_of)
  k_scene_of : PySem.W.keepIn K (.ref A.f_scene_of) = true
  n_scene_of : Binds K A.d_scene_of ["acts"] []
  F_scene_then : Fun K "scene_then" "scene_then" st_scene_then A.f_scene_then A.d_scene_then
  m_scene_then : mg "scene_then" = some (.ref A.f_scene_then)
  k_scene_then : PySem.W.keepIn K (.ref A.f_scene_then) = true
  n_scene_then : Binds K A.d_scene_then ["counts", "first", "second"] []
  F_joined : Fun K "joined" "joined" st_joined A.f_joined A.d_joined
  m_joined : mg "joined" = some (.ref A.f_joined)
  k_joined : PySem.W.keepIn K (.ref A.f_joined) = true
  n_joined : Binds K A.d_joined ["counts", "scenes"] []
  F__law_refused : Fun K "_law_refused" "_law_refused" st__law_refused A.f__law_refused A.d__law_refused
  m__law_refused : mg "_law_refused" = some (.ref A.f__law_refused)
  k__law_refused : PySem.W.keepIn K (.ref A.f__law_refused) = true
  n__law_refused : Binds K A.d__law_refused ["counts", "which", "good", "bad", "row"] []
  F__law_scene : Fun K "_law_scene" "_law_scene" st__law_scene A.f__law_scene A.d__law_scene
  m__law_scene : mg "_law_scene" = some (.ref A.f__law_scene)
  k__law_scene : PySem.W.keepIn K (.ref A.f__law_scene) = true
  n__law_scene : Binds K A.d__law_scene ["cell", "counts"] []
  F__law_changed : Fun K "_law_changed" "_law_changed" st__law_changed A.f__law_changed A.d__law_changed
  m__law_changed : mg "_law_changed" = some (.ref A.f__law_changed)
  k__law_changed : PySem.W.keepIn K (.ref A.f__law_changed) = true
  n__law_changed : Binds K A.d__law_changed ["scene", "counts", "cell"] []
  F__law_tame : Fun K "_law_tame" "_law_tame" st__law_tame A.f__law_tame A.d__law_tame
  m__law_tame : mg "_law_tame" = some (.ref A.f__law_tame)
  k__law_tame : PySem.W.keepIn K (.ref A.f__law_tame) = true
  n__law_tame : Binds K A.d__law_tame ["cell", "counts", "common"] []
  F__law_scenes : Fun K "_law_scenes" "_law_scenes" st__law_scenes A.f__law_scenes A.d__law_scenes
  m__law_scenes : mg "_law_scenes" = some (.ref A.f__law_scenes)
  k__law_scenes : PySem.W.keepIn K (.ref A.f__law_scenes) = true
  n__law_scenes : Binds K A.d__law_scenes ["script", "counts", "plan"] []
  F__law_spoilt : Fun K "_law_spoilt" "_law_spoilt" st__law_spoilt A.f__law_spoilt A.d__law_spoilt
  m__law_spoilt : mg "_law_spoilt" = some (.ref A.f__law_spoilt)
  k__law_spoilt : PySem.W.keepIn K (.ref A.f__law_spoilt) = true
  n__law_spoilt : Binds K A.d__law_spoilt ["counts", "scene", "way", "device"] []
  F_law : Fun K "law" "law" st_law A.f_law A.d_law
  m_law : mg "law" = some (.ref A.f_law)
  k_law : PySem.W.keepIn K (.ref A.f_law) = true
  n_law : Binds K A.d_law ["script"] []
  gc_HouseError : mg "HouseError" = some (.ref A.c_HouseError)
  kc_HouseError : PySem.W.keepIn K (.ref A.c_HouseError) = true
  gc_BadState : mg "BadState" = some (.ref A.c_BadState)
  kc_BadState : PySem.W.keepIn K (.ref A.c_BadState) = true
  gc_BadScene : mg "BadScene" = some (.ref A.c_BadScene)
  kc_BadScene : PySem.W.keepIn K (.ref A.c_BadScene) = true
  ra_BadScene : RaisesK K (.ref A.c_BadScene)
  xi_BadScene : PySem.W.excIn K A.c_BadScene bmVE "ValueError.__new__" = true
  isi_BadScene : AllB [(0, false), (4, false), (6, true)] fun n b => ExcC K (ca A n) ∧ PySem.W.kitOne K (.ref (ca A n)) (.ref A.c_BadScene) = some b
  isi_BadState : AllB [(0, false), (4, true), (6, false)] fun n b => ExcC K (ca A n) ∧ PySem.W.kitOne K (.ref (ca A n)) (.ref A.c_BadState) = some b
  exm_HouseError : AllB [(0, true), (4, true), (6, true)] fun n b => PySem.W.exmOne K (.ref (ca A n)) (.ref A.c_HouseError) = some b
section
variable {A : Ad} {P : Program} {w : World} {K : PySem.W.Frag} {mg : Str → Option Value} {base : Heap}
theorem ok__law_cell (T : Txt A P w K mg) : FnOk P w K mg base (L2N.CX P w) 2 A.f__law_cell A.d__law_cell ["script", "k"] (spF K (ca A) f__law_cell) := by
  have S : FnScope ["script", "k", "total", "cell"] ["script", "k"] (defScope st__law_cell) := ⟨rfl, rfl, rfl, by decide +kernel, rfl, by decide +kernel, by decide +kernel⟩
  refine fn_ok (k := 1) (N := ["script", "k", "total", "cell"]) T.F__law_cell S rfl rfl (by decide) fun cdv Ar outer s H E hr tk hp => ?_
  exact (mss_cons (ms_if (mt_cmp (op2_lt (hu2 hr)) (me_p (me_var (pv 1))) (me_p (me_b bc_len rfl T.b_len rfl (mpa_cons (me_p (me_var (pv 0))) mpa_nil))) rfl) (mss_one (ms_ret (me_ix (hu64 hr) (me_p (me_var (pv 0))) (me_p (me_var (pv 1))) (fun _ _ => rfl)))) mss_nil)
  (mss_cons (ms_set (i := 2) S.nd rfl (by first | exact Or.inl rfl | exact Or.inr rfl) (me_op op2_add (me_p (me_op op2_mul (me_p me_int) (me_p (me_var (pv 1))))) (me_p me_int)))
  (mss_cons (ms_for (vs := [3]) hp rfl (mi_seq (me_var (pv 0))) (mg_name (i := 3) S.nd rfl (by first | exact Or.inl rfl | exact Or.inr rfl) (by decide)) (mss_one (ms_set (i := 2) S.nd rfl (by first | exact Or.inl rfl | exact Or.inr rfl) (me_op op2_mod (me_p (me_ty bc_int rfl T.b_int rfl (mpa_cons (me_p (me_op op2_add (me_p (me_op op2_mul (me_p (me_var (pv 2))) (me_p me_int))) (me_p (me_var (pv 3))))) mpa_nil))) (me_p me_int)))))
  (mss_one (ms_ret (me_var (pv 2)))))))
theorem ok__law_done (T : Txt A P w K mg) : FnOk P w K mg base (L2N.CX P w) 2 A.f__law_done A.d__law_done ["counts", "scene", "state"] (spF K (ca A) f__law_done) := by
  have S : FnScope ["counts", "scene", "state", "levels", "act"] ["counts", "scene", "state"] (defScope st__law_done) := ⟨rfl, rfl, rfl, by decide +kernel, rfl, by decide +kernel, by decide +kernel⟩
  refine fn_ok (k := 1) (N := ["counts", "scene", "state", "levels", "act"]) T.F__law_done S rfl rfl (by decide) fun cdv Ar outer s H E hr tk hp => ?_
  exact (mss_cons (ms_setF (i := 3) S.nd rfl (by first | exact Or.inl rfl | exact Or.inr rfl) (mf_ty bf_list rfl T.b_list rfl (mpa_cons (me_p (me_var (pv 2))) mpa_nil)))
  (mss_cons (ms_for (vs := [4]) hp rfl (mi_seq (me_var (pv 1))) (mg_name (i := 4) S.nd rfl (by first | exact Or.inl rfl | exact Or.inr rfl) (by decide)) (mss_one (ms_if (mt_cmp (op2_eq (hu64 hr)) (me_p (me_ix (hu64 hr) (me_p (me_var (pv 4))) (me_p me_int) (fun _ _ => rfl))) (me_p me_str) rfl) (mss_one (ms_setIx (i := 3) (ps_asg (me_ix (hu64 hr) (me_p (me_var (pv 4))) (me_p me_int) (fun _ _ => rfl)) (pg_sub (pv 3) (me_p (me_ix (hu64 hr) (me_p (me_var (pv 4))) (me_p me_int) (fun _ _ => rfl))) set_list)))) (mss_one (ms_setIx (i := 3) (ps_asg (me_op op2_mod (me_p (me_ty bc_int rfl T.b_int rfl (mpa_cons (me_p (me_op op2_add (me_p (me_ix (hu64 hr) (mp_var (pv 3)) (me_p (me_ix (hu64 hr) (me_p (me_var (pv 4))) (me_p me_int) (fun _ _ => rfl))) (fun _ _ => rfl))) (me_p (me_ix (hu64 hr) (me_p (me_var (pv 4))) (me_p me_int) (fun _ _ => rfl))))) mpa_nil))) (me_p (me_ix (hu64 hr) (me_p (me_var (pv 0))) (me_p (me_ix (hu64 hr) (me_p (me_var (pv 4))) (me_p me_int) (fun _ _ => rfl))) (fun _ _ => rfl)))) (pg_sub (pv 3) (me_p (me_ix (hu64 hr) (me_p (me_var (pv 4))) (me_p me_int) (fun _ _ => rfl))) set_list)))))))
  (mss_one (ms_ret (me_ty bc_tuple rfl T.b_tuple rfl (mpa_cons (mp_var (pv 3)) mpa_nil))))))
theorem ok__law_integer (T : Txt A P w K mg) : FnOk P w K mg base (L2N.CX P w) 2 A.f__law_integer A.d__law_integer ["value"] (spF K (ca A) f__law_integer) := by
  have S : FnScope ["value"] ["value"] (defScope st__law_integer) := ⟨rfl, rfl, rfl, by decide +kernel, rfl, by decide +kernel, by decide +kernel⟩
  refine fn_ok (k := 1) (N := ["value"]) T.F__law_integer S rfl rfl (by decide) fun cdv Ar outer s H E hr tk hp => ?_
  exact (mss_one (ms_ret (me_and (me_b bc_isi rfl T.b_isinstance rfl (mpa_cons (me_p (me_var (pv 0))) (mpa_cons (me_p (me_tyName rfl T.b_int rfl)) mpa_nil))) (me_one (me_not (me_b bc_isi rfl T.b_isinstance rfl (mpa_cons (me_p (me_var (pv 0))) (mpa_cons (me_p (me_tyName rfl T.b_bool rfl)) mpa_nil))))))))
theorem ok__law_is_scene (T : Txt A P w K mg) : FnOk P w K mg base (L2N.CX P w) 3 A.f__law_is_scene A.d__law_is_scene ["counts", "scene"] (spF K (ca A) f__law_is_scene) := by
  have S : FnScope ["counts", "scene", "last", "act"] ["counts", "scene"] (defScope st__law_is_scene) := ⟨rfl, rfl, rfl, by decide +kernel, rfl, by decide +kernel, by decide +kernel⟩
  refine fn_ok (k := 2) (N := ["counts", "scene", "last", "act"]) T.F__law_is_scene S rfl rfl (by decide) fun cdv Ar outer s H E hr tk hp => ?_
  exact (mss_cons (ms_if (mt_not (mt_val (me_b bc_isi rfl T.b_isinstance rfl (mpa_cons (me_p (me_var (pv 1))) (mpa_cons (me_p (me_tyName rfl T.b_tuple rfl)) mpa_nil))))) (mss_one (ms_ret me_bl)) mss_nil)
  (mss_cons (ms_set (i := 2) S.nd rfl (by first | exact Or.inl rfl | exact Or.inr rfl) (me_neg me_int))
  (mss_cons (ms_for (vs := [3]) hp rfl (mi_seq (me_var (pv 1))) (mg_name (i := 3) S.nd rfl (by first | exact Or.inl rfl | exact Or.inr rfl) (by decide)) (mss_cons (ms_if (mt_w (mw_or (mt_not (mt_val (me_b bc_isi rfl T.b_isinstance rfl (mpa_cons (me_p (me_var (pv 3))) (mpa_cons (me_p (me_tyName rfl T.b_tuple rfl)) mpa_nil))))) (mw_or (mt_cmp (op2_ne (hu64 hr)) (me_p (me_b bc_len rfl T.b_len rfl (mpa_cons (me_p (me_var (pv 3))) mpa_nil))) (me_p me_int) rfl) (mw_or1 (mt_not (mt_val (me_b bc_isi rfl T.b_isinstance rfl (mpa_cons (me_p (me_ix (hu64 hr) (me_p (me_var (pv 3))) (me_p me_int) (fun _ _ => rfl))) (mpa_cons (me_p (me_tyName rfl T.b_str rfl)) mpa_nil))))))))) (mss_one (ms_ret me_bl)) mss_nil)
  (mss_cons (ms_if (mt_w (mw_or (mt_not (mt_val (mc_e (mc_call (ok__law_integer T) (hr.mono (by omega)) rfl T.m__law_integer T.k__law_integer T.n__law_integer tk (ma_cons (me_ix (hu64 hr) (me_p (me_var (pv 3))) (me_p me_int) (fun _ _ => rfl)) ma_nil))))) (mw_or1 (mt_not (mt_val (mc_e (mc_call (ok__law_integer T) (hr.mono (by omega)) rfl T.m__law_integer T.k__law_integer T.n__law_integer tk (ma_cons (me_ix (hu64 hr) (me_p (me_var (pv 3))) (me_p me_int) (fun _ _ => rfl)) ma_nil)))))))) (mss_one (ms_ret me_bl)) mss_nil)
  (mss_cons (ms_if (mt_w (mw_or (mt_cmp op2_le (me_p (me_ix (hu64 hr) (me_p (me_var (pv 3))) (me_p me_int) (fun _ _ => rfl))) (me_p (me_var (pv 2))) rfl) (mw_or (mt_cmp op2_ge (me_p (me_ix (hu64 hr) (me_p (me_var (pv 3))) (me_p me_int) (fun _ _ => rfl))) (me_p (me_b bc_len rfl T.b_len rfl (mpa_cons (me_p (me_var (pv 0))) mpa_nil))) rfl) (mw_or1 (mt_w (mw_and (mt_cmp (op2_ne (hu64 hr)) (me_p (me_ix (hu64 hr) (me_p (me_var (pv 3))) (me_p me_int) (fun _ _ => rfl))) (me_p me_str) rfl) (mw_and1 (mt_cmp (op2_ne (hu64 hr)) (me_p (me_ix (hu64 hr) (me_p (me_var (pv 3))) (me_p me_int) (fun _ _ => rfl))) (me_p me_str) rfl)))))))) (mss_one (ms_ret me_bl)) mss_nil)
  (mss_cons (ms_if (mt_w (mw_or (mt_cmp (op2_lt (hu2 hr)) (me_p (me_ix (hu64 hr) (me_p (me_var (pv 3))) (me_p me_int) (fun _ _ => rfl))) (me_p (me_ty bc_int rfl T.b_int rfl (mpa_cons (me_p (me_cmp (op2_eq (hu64 hr)) (me_p (me_ix (hu64 hr) (me_p (me_var (pv 3))) (me_p me_int) (fun _ _ => rfl))) (me_p me_str) rfl)) mpa_nil))) rfl) (mw_or1 (mt_cmp op2_ge (me_p (me_ix (hu64 hr) (me_p (me_var (pv 3))) (me_p me_int) (fun _ _ => rfl))) (me_p (me_ix (hu64 hr) (me_p (me_var (pv 0))) (me_p (me_ix (hu64 hr) (me_p (me_var (pv 3))) (me_p me_int) (fun _ _ => rfl))) (fun _ _ => rfl))) rfl)))) (mss_one (ms_ret me_bl)) mss_nil)
  (mss_one (ms_set (i := 2) S.nd rfl (by first | exact Or.inl rfl | exact Or.inr rfl) (me_ix (hu64 hr) (me_p (me_var (pv 3))) (me_p me_int) (fun _ _ => rfl)))))))))
  (mss_one (ms_ret me_bl)))))
theorem ok__law_joined_holds (T : Txt A P w K mg) : FnOk P w K mg base (L2N.CX P w) 4 A.f__law_joined_holds A.d__law_joined_holds ["counts", "scenes", "found", "order"] (spF K (ca A) f__law_joined_holds) := by
  have S : FnScope ["counts", "scenes", "found", "order", "k", "state", "count", "one", "other", "scene", "place"] ["counts", "scenes", "found", "order"] (defScope st__law_joined_holds) := ⟨rfl, rfl, rfl, by decide +kernel, rfl, by decide +kernel, by decide +kernel⟩
  refine fn_ok (k := 3) (N := ["counts", "scenes", "found", "order", "k", "state", "count", "one", "other", "scene", "place"]) T.F__law_joined_holds S rfl rfl (by decide) fun cdv Ar outer s H E hr tk hp => ?_
  exact (mss_cons (ms_if (mt_not (mt_val (mc_e (mc_call (ok__law_is_scene T) (hr.mono (by omega)) rfl T.m__law_is_scene T.k__law_is_scene T.n__law_is_scene tk (ma_cons (me_var (pv 0)) (ma_cons (me_var (pv 2)) ma_nil)))))) (mss_one (ms_ret me_bl)) mss_nil)
  (mss_cons (ms_for (vs := [4]) hp rfl (mi_range1 rfl T.b_range (ma_cons me_int ma_nil)) (mg_name (i := 4) S.nd rfl (by first | exact Or.inl rfl | exact Or.inr rfl) (by decide)) (mss_cons (ms_set (i := 5) S.nd rfl (by first | exact Or.inl rfl | exact Or.inr rfl) (me_ty bc_tuple rfl T.b_tuple rfl (mpa_cons (me_p (mf_e (mf_comp (own := [("count", 6)]) rfl S.nd (mi_seq (me_var (pv 0))) (blkOk_by (by show blkC ["counts", "scenes", "found", "order", "k", "state", "count", "one", "other", "scene", "place"] (defScope st__law_joined_holds) _ _ = true; decide +kernel)) rfl (fun _ _ _ _ _ => (mg_name (i := 6) S.nd rfl (by first | exact Or.inl rfl | exact Or.inr rfl) (by decide))) (fun _ _ _ _ _ => mts_nil) (fun _ _ _ _ _ => (me_op op2_mod (me_p (me_ty bc_int rfl T.b_int rfl (mpa_cons (me_p (me_var (pv 4))) mpa_nil))) (me_p (me_var (pv 6)))))))) mpa_nil)))
  (mss_cons (ms_set (i := 7) S.nd rfl (by first | exact Or.inl rfl | exact Or.inr rfl) (me_var (pv 5)))
  (mss_cons (ms_set (i := 8) S.nd rfl (by first | exact Or.inl rfl | exact Or.inr rfl) (me_var (pv 5)))
  (mss_cons (ms_for (vs := [9]) hp rfl (mi_seq (me_var (pv 1))) (mg_name (i := 9) S.nd rfl (by first | exact Or.inl rfl | exact Or.inr rfl) (by decide)) (mss_one (ms_freeze (ms_setCall (i := 7) S.nd rfl (by first | exact Or.inl rfl | exact Or.inr rfl) (mc_call (ok__law_done T) (hr.mono (by omega)) rfl T.m__law_done T.k__law_done T.n__law_done tk (ma_cons (me_var (pv 0)) (ma_cons (me_var (pv 9)) (ma_cons (me_var (pv 7)) ma_nil))))))))
  (mss_cons (ms_for (vs := [10]) hp rfl (mi_seq (me_var (pv 3))) (mg_name (i := 10) S.nd rfl (by first | exact Or.inl rfl | exact Or.inr rfl) (by decide)) (mss_one (ms_freeze (ms_setCall (i := 8) S.nd rfl (by first | exact Or.inl rfl | exact Or.inr rfl) (mc_call (ok__law_done T) (hr.mono (by omega)) rfl T.m__law_done T.k__law_done T.n__law_done tk (ma_cons (me_var (pv 0)) (ma_cons (me_ix (hu64 hr) (me_p (me_var (pv 1))) (me_p (me_var (pv 10))) (fun _ _ => rfl)) (ma_cons (me_var (pv 8)) ma_nil))))))))
  (mss_one (ms_if (mt_w (mw_or (mt_cmp (op2_ne (hu64 hr)) (mp_var (pv 7)) (mp_var (pv 8)) rfl) (mw_or1 (mt_cmp (op2_ne (hu64 hr)) (me_p (mc_e (mc_call (ok__law_done T) (hr.mono (by omega)) rfl T.m__law_done T.k__law_done T.n__law_done tk (ma_cons (me_var (pv 0)) (ma_cons (me_var (pv 2)) (ma_cons (me_var (pv 5)) ma_nil)))))) (mp_var (pv 7)) rfl)))) (mss_one (ms_ret me_bl)) mss_nil))))))))
  (mss_one (ms_ret me_bl))))
theorem ok__law_row (T : Txt A P w K mg) : FnOk P w K mg base (L2N.CX P w) 2 A.f__law_row A.d__law_row ["cell", "sizes"] (spF K (ca A) f__law_row) := by
  have S : FnScope ["cell", "sizes", "rest", "mixed", "numbers", "size"] ["cell", "sizes"] (defScope st__law_row) := ⟨rfl, rfl, rfl, by decide +kernel, rfl, by decide +kernel, by decide +kernel⟩
  refine fn_ok (k := 1) (N := ["cell", "sizes", "rest", "mixed", "numbers", "size"]) T.F__law_row S rfl rfl (by decide) fun cdv Ar outer s H E hr tk hp => ?_
  exact (mss_cons (ms_set (i := 2) S.nd rfl (by first | exact Or.inl rfl | exact Or.inr rfl) (me_var (pv 0)))
  (mss_cons (ms_set (i := 3) S.nd rfl (by first | exact Or.inl rfl | exact Or.inr rfl) (me_op op2_mod (me_p (me_ty bc_int rfl T.b_int rfl (mpa_cons (me_p (me_op op2_add (me_p (me_op op2_mul (me_p (me_var (pv 0))) (me_p me_int))) (me_p me_int))) mpa_nil))) (me_p me_int)))
  (mss_cons (ms_setF (i := 4) S.nd rfl (by first | exact Or.inl rfl | exact Or.inr rfl) (mf_lst ma_nil))
  (mss_cons (ms_for (vs := [5]) hp rfl (mi_seq (me_var (pv 1))) (mg_name (i := 5) S.nd rfl (by first | exact Or.inl rfl | exact Or.inr rfl) (by decide)) (mss_one (ms_if (mt_cmp op2_ge (me_p (me_var (pv 0))) (me_p (me_op op2_pow (me_p me_int) (me_p me_int))) rfl) (mss_cons (ms_append (i := 4) (pe_bm PySem.F.plainAttrs_list PySem.F.slot_list_append PySem.F.type_list_append mt_append (pv 4) (pa_cons (me_op op2_mod (me_p (me_ty bc_int rfl T.b_int rfl (mpa_cons (me_p (me_var (pv 2))) mpa_nil))) (me_p (me_var (pv 5)))) pa_nil)))
  (mss_one (ms_set (i := 2) S.nd rfl (by first | exact Or.inl rfl | exact Or.inr rfl) (me_op op2_fdiv (me_p (me_var (pv 2))) (me_p (me_var (pv 5))))))) (mss_cons (ms_set (i := 3) S.nd rfl (by first | exact Or.inl rfl | exact Or.inr rfl) (me_op op2_mod (me_p (me_ty bc_int rfl T.b_int rfl (mpa_cons (me_p (me_op op2_add (me_p (me_op op2_mul (me_p (me_var (pv 3))) (me_p me_int))) (me_p me_int))) mpa_nil))) (me_p me_int)))
  (mss_one (ms_append (i := 4) (pe_bm PySem.F.plainAttrs_list PySem.F.slot_list_append PySem.F.type_list_append mt_append (pv 4) (pa_cons (me_op op2_mod (me_p (me_op op2_fdiv (me_p (me_var (pv 3))) (me_p me_int))) (me_p (me_var (pv 5)))) pa_nil))))))))
  (mss_one (ms_retOwn (pv 4)))))))
theorem ok__law_order (T : Txt A P w K mg) : FnOk P w K mg base (L2N.CX P w) 3 A.f__law_order A.d__law_order ["cell", "size"] (spF K (ca A) f__law_order) := by
  have S : FnScope ["cell", "size", "left", "order", "number", "k"] ["cell", "size"] (defScope st__law_order) := ⟨rfl, rfl, rfl, by decide +kernel, rfl, by decide +kernel, by decide +kernel⟩
  refine fn_ok (k := 2) (N := ["cell", "size", "left", "order", "number", "k"]) T.F__law_order S rfl rfl (by decide) fun cdv Ar outer s H E hr tk hp => ?_
  exact (mss_cons (ms_setF (i := 2) S.nd rfl (by first | exact Or.inl rfl | exact Or.inr rfl) (mf_listRg1 rfl rfl T.b_list (prg_1 rfl T.b_range (me_var (pv 1)))))
  (mss_cons (ms_setF (i := 3) S.nd rfl (by first | exact Or.inl rfl | exact Or.inr rfl) (mf_lst ma_nil))
  (mss_cons (ms_for (vs := [4]) hp rfl (mi_seq (mc_e (mc_call (ok__law_row T) (hr.mono (by omega)) rfl T.m__law_row T.k__law_row T.n__law_row tk (ma_cons (me_var (pv 0)) (ma_cons (mf_e (mf_comp (own := [("k", 5)]) rfl S.nd (mi_range1 rfl T.b_range (ma_cons (me_var (pv 1)) ma_nil)) (blkOk_by (by show blkC ["cell", "size", "left", "order", "number", "k"] (defScope st__law_order) _ _ = true; decide +kernel)) rfl (fun _ _ _ _ _ => (mg_name (i := 5) S.nd rfl (by first | exact Or.inl rfl | exact Or.inr rfl) (by decide))) (fun _ _ _ _ _ => mts_nil) (fun _ _ _ _ _ => me_int))) ma_nil))))) (mg_name (i := 4) S.nd rfl (by first | exact Or.inl rfl | exact Or.inr rfl) (by decide)) (mss_one (ms_appPop (y := 3) (i := 2) (pe_bm PySem.F.plainAttrs_list PySem.F.slot_list_append PySem.F.type_list_append mt_append (pv 3) (pa_cons (mpop1 (pe_bm PySem.F.plainAttrs_list PySem.F.slot_list_pop PySem.F.type_list_pop mt_popAt (pv 2) (pa_cons (me_op op2_mod (me_p (me_var (pv 4))) (me_p (me_b bc_len rfl T.b_len rfl (mpa_cons (mp_var (pv 2)) mpa_nil)))) pa_nil))) pa_nil)))))
  (mss_one (ms_retOwn (pv 3))))))
theorem ok__law_plain (T : Txt A P w K mg) : ∀ n : Nat, FnOk P w K mg base (L2N.CX P w) (1 + n) A.f__law_plain A.d__law_plain ["value"] (spF K (ca A) (f__law_plain n))
  | 0 => fnOk_stuck
  | n + 1 => by
    · have S : FnScope ["value", "part"] ["value"] (defScope st__law_plain) := ⟨rfl, rfl, rfl, by decide +kernel, rfl, by decide +kernel, by decide +kernel⟩
      refine fn_ok (k := 1 + n) (N := ["value", "part"]) T.F__law_plain S rfl rfl (by decide) fun cdv Ar outer s H E hr tk hp => ?_
      exact (mss_cons (ms_if (mt_val (me_b bc_isi rfl T.b_isinstance rfl (mpa_cons (me_p (me_var (pv 0))) (mpa_cons (me_p (me_tyName rfl T.b_tuple rfl)) mpa_nil)))) (mss_one (ms_ret (me_cmp (op2_notIn (hu64 hr)) (me_p me_bl) (me_p (mf_e (mf_comp (own := [("part", 1)]) rfl S.nd (mi_seq (me_var (pv 0))) (blkOk_by (by show blkC ["value", "part"] (defScope st__law_plain) _ _ = true; decide +kernel)) rfl (fun _ _ _ _ _ => (mg_name (i := 1) S.nd rfl (by first | exact Or.inl rfl | exact Or.inr rfl) (by decide))) (fun _ _ _ _ _ => mts_nil) (fun _ _ _ _ _ => (mc_e (mc_call (ok__law_plain T n) (hr.mono (Nat.le_refl _)) rfl T.m__law_plain T.k__law_plain T.n__law_plain takesF (ma_cons (me_var (pv 1)) ma_nil))))))) rfl))) mss_nil)
      (mss_one (ms_ret (me_or (me_b bc_isi rfl T.b_isinstance rfl (mpa_cons (me_p (me_var (pv 0))) (mpa_cons (me_p (me_tyName rfl T.b_str rfl)) mpa_nil))) (me_one (me_and (me_b bc_isi rfl T.b_isinstance rfl (mpa_cons (me_p (me_var (pv 0))) (mpa_cons (me_p (me_tyName rfl T.b_int rfl)) mpa_nil))) (me_one (me_not (me_b bc_isi rfl T.b_isinstance rfl (mpa_cons (me_p (me_var (pv 0))) (mpa_cons (me_p (me_tyName rfl T.b_bool rfl)) mpa_nil)))))))))))
theorem ok_act_table (T : Txt A P w K mg) : FnOk P w K mg base (L2N.CX P w) 2 A.f_act_table A.d_act_table ["scene"] (spF K (ca A) f_act_table) := by
  have S : FnScope ["scene", "device", "word", "number"] ["scene"] (defScope st_act_table) := ⟨rfl, rfl, rfl, by decide +kernel, rfl, by decide +kernel, by decide +kernel⟩
  refine fn_ok (k := 1) (N := ["scene", "device", "word", "number"]) T.F_act_table S rfl rfl (by decide) fun cdv Ar outer s H E hr tk hp => ?_
  exact (mss_one (ms_retF (mf_dc (own := [("device", 1), ("word", 2), ("number", 3)]) rfl S.nd (mi_seq (me_var (pv 0))) (blkOk_by (by show blkC ["scene", "device", "word", "number"] (defScope st_act_table) _ _ = true; decide +kernel)) rfl (fun _ _ _ _ _ => (mg_tup rfl (mgs_cons (mg_name (i := 1) S.nd rfl (by first | exact Or.inl rfl | exact Or.inr rfl) (by decide)) (mgs_cons (mg_name (i := 2) S.nd rfl (by first | exact Or.inl rfl | exact Or.inr rfl) (by decide)) (mgs_cons (mg_name (i := 3) S.nd rfl (by first | exact Or.inl rfl | exact Or.inr rfl) (by decide)) mgs_nil))))) (fun _ _ _ _ _ => mts_nil) (fun _ _ _ _ _ => (me_var (pv 1))) (fun _ _ _ _ _ => (me_tup (ma_cons (me_var (pv 2)) (ma_cons (me_var (pv 3)) ma_nil)))))))
theorem ok_acts_clash (T : Txt A P w K mg) : FnOk P w K mg base (L2N.CX P w) 2 A.f_acts_clash A.d_acts_clash ["one", "other"] (spF K (ca A) f_acts_clash) := by
  have S : FnScope ["one", "other"] ["one", "other"] (defScope st_acts_clash) := ⟨rfl, rfl, rfl, by decide +kernel, rfl, by decide +kernel, by decide +kernel⟩
  refine fn_ok (k := 1) (N := ["one", "other"]) T.F_acts_clash S rfl rfl (by decide) fun cdv Ar outer s H E hr tk hp => ?_
  exact (mss_cons (ms_if (mt_w (mw_and (mt_cmp (op2_eq (hu64 hr)) (me_p (me_ix (hu64 hr) (me_p (me_var (pv 0))) (me_p me_int) (fun _ _ => rfl))) (me_p me_str) rfl) (mw_and1 (mt_cmp (op2_eq (hu64 hr)) (me_p (me_ix (hu64 hr) (me_p (me_var (pv 1))) (me_p me_int) (fun _ _ => rfl))) (me_p me_str) rfl)))) (mss_one (ms_ret me_bl)) mss_nil)
  (mss_one (ms_ret (me_cmp (op2_ne (hu64 hr)) (me_p (me_var (pv 0))) (me_p (me_var (pv 1))) rfl))))
theorem ok_clash_device (T : Txt A P w K mg) : FnOk P w K mg base (L2N.CX P w) 3 A.f_clash_device A.d_clash_device ["first", "second"] (spF K (ca A) f_clash_device) := by
  have S : FnScope ["first", "second", "acts", "device", "word", "number"] ["first", "second"] (defScope st_clash_device) := ⟨rfl, rfl, rfl, by decide +kernel, rfl, by decide +kernel, by decide +kernel⟩
  refine fn_ok (k := 2) (N := ["first", "second", "acts", "device", "word", "number"]) T.F_clash_device S rfl rfl (by decide) fun cdv Ar outer s H E hr tk hp => ?_
  exact (mss_cons (ms_setCall (i := 2) S.nd rfl (by first | exact Or.inl rfl | exact Or.inr rfl) (mc_call (ok_act_table T) (hr.mono (by omega)) rfl T.m_act_table T.k_act_table T.n_act_table tk (ma_cons (me_var (pv 0)) ma_nil)))
  (mss_cons (ms_for (vs := [3, 4, 5]) hp rfl (mi_seq (me_var (pv 1))) (mg_tup rfl (mgs_cons (mg_name (i := 3) S.nd rfl (by first | exact Or.inl rfl | exact Or.inr rfl) (by decide)) (mgs_cons (mg_name (i := 4) S.nd rfl (by first | exact Or.inl rfl | exact Or.inr rfl) (by decide)) (mgs_cons (mg_name (i := 5) S.nd rfl (by first | exact Or.inl rfl | exact Or.inr rfl) (by decide)) mgs_nil)))) (mss_one (ms_if (mt_w (mw_and (mt_cmp (op2_in (hu64 hr)) (me_p (me_var (pv 3))) (mp_var (pv 2)) rfl) (mw_and1 (mt_val (mc_e (mc_call (ok_acts_clash T) (hr.mono (by omega)) rfl T.m_acts_clash T.k_acts_clash T.n_acts_clash tk (ma_cons (me_ix (hu64 hr) (mp_var (pv 2)) (me_p (me_var (pv 3))) (fun _ _ => rfl)) (ma_cons (me_tup (ma_cons (me_var (pv 4)) (ma_cons (me_var (pv 5)) ma_nil))) ma_nil)))))))) (mss_one (ms_ret (me_var (pv 3)))) mss_nil)))
  (mss_one (ms_ret me_non))))
theorem ok_is_integer (T : Txt A P w K mg) : FnOk P w K mg base (L2N.CX P w) 2 A.f_is_integer A.d_is_integer ["value"] (spF K (ca A) f_is_integer) := by
  have S : FnScope ["value"] ["value"] (defScope st_is_integer) := ⟨rfl, rfl, rfl, by decide +kernel, rfl, by decide +kernel, by decide +kernel⟩
  refine fn_ok (k := 1) (N := ["value"]) T.F_is_integer S rfl rfl (by decide) fun cdv Ar outer s H E hr tk hp => ?_
  exact (mss_one (ms_ret (me_and (me_b bc_isi rfl T.b_isinstance rfl (mpa_cons (me_p (me_var (pv 0))) (mpa_cons (me_p (me_tyName rfl T.b_int rfl)) mpa_nil))) (me_one (me_not (me_b bc_isi rfl T.b_isinstance rfl (mpa_cons (me_p (me_var (pv 0))) (mpa_cons (me_p (me_tyName rfl T.b_bool rfl)) mpa_nil))))))))
theorem ok_is_act (T : Txt A P w K mg) : FnOk P w K mg base (L2N.CX P w) 3 A.f_is_act A.d_is_act ["counts", "act"] (spF K (ca A) f_is_act) := by
  have S : FnScope ["counts", "act", "device", "word", "number"] ["counts", "act"] (defScope st_is_act) := ⟨rfl, rfl, rfl, by decide +kernel, rfl, by decide +kernel, by decide +kernel⟩
  refine fn_ok (k := 2) (N := ["counts", "act", "device", "word", "number"]) T.F_is_act S rfl rfl (by decide) fun cdv Ar outer s H E hr tk hp => ?_
  exact (mss_cons (ms_if (mt_w (mw_or (mt_not (mt_val (me_b bc_isi rfl T.b_isinstance rfl (mpa_cons (me_p (me_var (pv 1))) (mpa_cons (me_p (me_tyName rfl T.b_tuple rfl)) mpa_nil))))) (mw_or1 (mt_cmp (op2_ne (hu64 hr)) (me_p (me_b bc_len rfl T.b_len rfl (mpa_cons (me_p (me_var (pv 1))) mpa_nil))) (me_p me_int) rfl)))) (mss_one (ms_ret me_bl)) mss_nil)
  (mss_cons (ms_setTg (vs := [2, 3, 4]) (me_var (pv 1)) (mg_tup rfl (mgs_cons (mg_name (i := 2) S.nd rfl (by first | exact Or.inl rfl | exact Or.inr rfl) (by decide)) (mgs_cons (mg_name (i := 3) S.nd rfl (by first | exact Or.inl rfl | exact Or.inr rfl) (by decide)) (mgs_cons (mg_name (i := 4) S.nd rfl (by first | exact Or.inl rfl | exact Or.inr rfl) (by decide)) mgs_nil)))))
  (mss_cons (ms_if (mt_w (mw_or (mt_not (mt_val (mc_e (mc_call (ok_is_integer T) (hr.mono (by omega)) rfl T.m_is_integer T.k_is_integer T.n_is_integer tk (ma_cons (me_var (pv 2)) ma_nil))))) (mw_or1 (mt_not (mt_chain op2_le (op2_lt (hu2 hr)) (me_p me_int) (me_p (me_var (pv 2))) (me_p (me_b bc_len rfl T.b_len rfl (mpa_cons (me_p (me_var (pv 0))) mpa_nil)))))))) (mss_one (ms_ret me_bl)) mss_nil)
  (mss_cons (ms_if (mt_w (mw_or (mt_not (mt_val (me_b bc_isi rfl T.b_isinstance rfl (mpa_cons (me_p (me_var (pv 3))) (mpa_cons (me_p (me_tyName rfl T.b_str rfl)) mpa_nil))))) (mw_or1 (mt_not (mt_val (mc_e (mc_call (ok_is_integer T) (hr.mono (by omega)) rfl T.m_is_integer T.k_is_integer T.n_is_integer tk (ma_cons (me_var (pv 4)) ma_nil)))))))) (mss_one (ms_ret me_bl)) mss_nil)
  (mss_cons (ms_if (mt_cmp (op2_eq (hu64 hr)) (me_p (me_var (pv 3))) (me_p me_str) rfl) (mss_one (ms_ret (me_chain op2_le (op2_lt (hu2 hr)) (me_p me_int) (me_p (me_var (pv 4))) (me_p (me_ix (hu64 hr) (me_p (me_var (pv 0))) (me_p (me_var (pv 2))) (fun _ _ => rfl)))))) mss_nil)
  (mss_one (ms_ret (me_and (me_cmp (op2_eq (hu64 hr)) (me_p (me_var (pv 3))) (me_p me_str) rfl) (me_one (me_chain op2_le (op2_lt (hu2 hr)) (me_p me_int) (me_p (me_var (pv 4))) (me_p (me_ix (hu64 hr) (me_p (me_var (pv 0))) (me_p (me_var (pv 2))) (fun _ _ => rfl)))))))))))))
theorem ok_is_scene (T : Txt A P w K mg) : FnOk P w K mg base (L2N.CX P w) 4 A.f_is_scene A.d_is_scene ["counts", "scene"] (spF K (ca A) f_is_scene) := by
  have S : FnScope ["counts", "scene", "last", "act"] ["counts", "scene"] (defScope st_is_scene) := ⟨rfl, rfl, rfl, by decide +kernel, rfl, by decide +kernel, by decide +kernel⟩
  refine fn_ok (k := 3) (N := ["counts", "scene", "last", "act"]) T.F_is_scene S rfl rfl (by decide) fun cdv Ar outer s H E hr tk hp => ?_
  exact (mss_cons (ms_if (mt_not (mt_val (me_b bc_isi rfl T.b_isinstance rfl (mpa_cons (me_p (me_var (pv 1))) (mpa_cons (me_p (me_tyName rfl T.b_tuple rfl)) mpa_nil))))) (mss_one (ms_ret me_bl)) mss_nil)
  (mss_cons (ms_set (i := 2) S.nd rfl (by first | exact Or.inl rfl | exact Or.inr rfl) (me_neg me_int))
  (mss_cons (ms_for (vs := [3]) hp rfl (mi_seq (me_var (pv 1))) (mg_name (i := 3) S.nd rfl (by first | exact Or.inl rfl | exact Or.inr rfl) (by decide)) (mss_cons (ms_if (mt_w (mw_or (mt_not (mt_val (mc_e (mc_call (ok_is_act T) (hr.mono (by omega)) rfl T.m_is_act T.k_is_act T.n_is_act tk (ma_cons (me_var (pv 0)) (ma_cons (me_var (pv 3)) ma_nil)))))) (mw_or1 (mt_cmp op2_le (me_p (me_ix (hu64 hr) (me_p (me_var (pv 3))) (me_p me_int) (fun _ _ => rfl))) (me_p (me_var (pv 2))) rfl)))) (mss_one (ms_ret me_bl)) mss_nil)
  (mss_one (ms_set (i := 2) S.nd rfl (by first | exact Or.inl rfl | exact Or.inr rfl) (me_ix (hu64 hr) (me_p (me_var (pv 3))) (me_p me_int) (fun _ _ => rfl))))))
  (mss_one (ms_ret me_bl)))))
theorem ok_demand_scene (T : Txt A P w K mg) : FnOk P w K mg base (L2N.CX P w) 5 A.f_demand_scene A.d_demand_scene ["counts", "scene"] (spF K (ca A) f_demand_scene) := by
  have S : FnScope ["counts", "scene"] ["counts", "scene"] (defScope st_demand_scene) := ⟨rfl, rfl, rfl, by decide +kernel, rfl, by decide +kernel, by decide +kernel⟩
  refine fn_ok (k := 4) (N := ["counts", "scene"]) T.F_demand_scene S rfl rfl (by decide) fun cdv Ar outer s H E hr tk hp => ?_
  exact (mss_one (ms_if (mt_not (mt_val (mc_e (mc_call (ok_is_scene T) (hr.mono (by omega)) rfl T.m_is_scene T.k_is_scene T.n_is_scene tk (ma_cons (me_var (pv 0)) (ma_cons (me_var (pv 1)) ma_nil)))))) (mss_one (ms_raise0 (c := 6) rfl tk (L2N.pmk_own PySem.F.excBase_ValueError T.xi_BadScene T.gc_BadScene T.kc_BadScene T.ra_BadScene rfl))) mss_nil))
theorem ok_clash (T : Txt A P w K mg) : FnOk P w K mg base (L2N.CX P w) 6 A.f_clash A.d_clash ["counts", "first", "second"] (spF K (ca A) f_clash) := by
  have S : FnScope ["counts", "first", "second", "device", "_"] ["counts", "first", "second"] (defScope st_clash) := ⟨rfl, rfl, rfl, by decide +kernel, rfl, by decide +kernel, by decide +kernel⟩
  refine fn_ok (k := 5) (N := ["counts", "first", "second", "device", "_"]) T.F_clash S rfl rfl (by decide) fun cdv Ar outer s H E hr tk hp => ?_
  exact (mss_cons (ms_expr (mc_e (mc_call (ok_demand_scene T) (hr.mono (by omega)) rfl T.m_demand_scene T.k_demand_scene T.n_demand_scene tk (ma_cons (me_var (pv 0)) (ma_cons (me_var (pv 1)) ma_nil)))))
  (mss_cons (ms_expr (mc_e (mc_call (ok_demand_scene T) (hr.mono (by omega)) rfl T.m_demand_scene T.k_demand_scene T.n_demand_scene tk (ma_cons (me_var (pv 0)) (ma_cons (me_var (pv 2)) ma_nil)))))
  (mss_cons (ms_setCall (i := 3) S.nd rfl (by first | exact Or.inl rfl | exact Or.inr rfl) (mc_call (ok_clash_device T) (hr.mono (by omega)) rfl T.m_clash_device T.k_clash_device T.n_clash_device tk (ma_cons (me_var (pv 1)) (ma_cons (me_var (pv 2)) ma_nil))))
  (mss_cons (ms_if (mt_cmp op2_is (mp_var (pv 3)) (me_p me_non) rfl) (mss_one (ms_ret me_non)) mss_nil)
  (mss_one (ms_freeze (ms_ret (me_tup (ma_cons (me_var (pv 3)) (ma_cons (me_ty bc_tuple rfl T.b_tuple rfl (mpa_cons (me_p (mf_e (mf_comp (own := [("_", 4)]) rfl S.nd (mi_seq (me_var (pv 0))) (blkOk_by (by show blkC ["counts", "first", "second", "device", "_"] (defScope st_clash) _ _ = true; decide +kernel)) rfl (fun _ _ _ _ _ => (mg_name (i := 4) S.nd rfl (by first | exact Or.inl rfl | exact Or.inr rfl) (by decide))) (fun _ _ _ _ _ => mts_nil) (fun _ _ _ _ _ => me_int)))) mpa_nil)) ma_nil))))))))))
theorem ok_is_state (T : Txt A P w K mg) : FnOk P w K mg base (L2N.CX P w) 3 A.f_is_state A.d_is_state ["counts", "state"] (spF K (ca A) f_is_state) := by
  have S : FnScope ["counts", "state", "level", "count"] ["counts", "state"] (defScope st_is_state) := ⟨rfl, rfl, rfl, by decide +kernel, rfl, by decide +kernel, by decide +kernel⟩
  refine fn_ok (k := 2) (N := ["counts", "state", "level", "count"]) T.F_is_state S rfl rfl (by decide) fun cdv Ar outer s H E hr tk hp => ?_
  exact (mss_cons (ms_if (mt_w (mw_or (mt_not (mt_val (me_b bc_isi rfl T.b_isinstance rfl (mpa_cons (me_p (me_var (pv 1))) (mpa_cons (me_p (me_tyName rfl T.b_tuple rfl)) mpa_nil))))) (mw_or1 (mt_cmp (op2_ne (hu64 hr)) (me_p (me_b bc_len rfl T.b_len rfl (mpa_cons (me_p (me_var (pv 1))) mpa_nil))) (me_p (me_b bc_len rfl T.b_len rfl (mpa_cons (me_p (me_var (pv 0))) mpa_nil))) rfl)))) (mss_one (ms_ret me_bl)) mss_nil)
  (mss_cons (ms_for (vs := [2, 3]) hp rfl (mi_zip rfl T.b_zip (ma_cons (me_var (pv 1)) (ma_cons (me_var (pv 0)) ma_nil))) (mg_tup rfl (mgs_cons (mg_name (i := 2) S.nd rfl (by first | exact Or.inl rfl | exact Or.inr rfl) (by decide)) (mgs_cons (mg_name (i := 3) S.nd rfl (by first | exact Or.inl rfl | exact Or.inr rfl) (by decide)) mgs_nil))) (mss_one (ms_if (mt_w (mw_or (mt_not (mt_val (mc_e (mc_call (ok_is_integer T) (hr.mono (by omega)) rfl T.m_is_integer T.k_is_integer T.n_is_integer tk (ma_cons (me_var (pv 2)) ma_nil))))) (mw_or1 (mt_not (mt_chain op2_le (op2_lt (hu2 hr)) (me_p me_int) (me_p (me_var (pv 2))) (me_p (me_var (pv 3)))))))) (mss_one (ms_ret me_bl)) mss_nil)))
  (mss_one (ms_ret me_bl))))
theorem ok_scene_result (T : Txt A P w K mg) : FnOk P w K mg base (L2N.CX P w) 2 A.f_scene_result A.d_scene_result ["counts", "scene", "state"] (spF K (ca A) f_scene_result) := by
  have S : FnScope ["counts", "scene", "state", "levels", "device", "word", "number"] ["counts", "scene", "state"] (defScope st_scene_result) := ⟨rfl, rfl, rfl, by decide +kernel, rfl, by decide +kernel, by decide +kernel⟩
  refine fn_ok (k := 1) (N := ["counts", "scene", "state", "levels", "device", "word", "number"]) T.F_scene_result S rfl rfl (by decide) fun cdv Ar outer s H E hr tk hp => ?_
  exact (mss_cons (ms_setF (i := 3) S.nd rfl (by first | exact Or.inl rfl | exact Or.inr rfl) (mf_ty bf_list rfl T.b_list rfl (mpa_cons (me_p (me_var (pv 2))) mpa_nil)))
  (mss_cons (ms_for (vs := [4, 5, 6]) hp rfl (mi_seq (me_var (pv 1))) (mg_tup rfl (mgs_cons (mg_name (i := 4) S.nd rfl (by first | exact Or.inl rfl | exact Or.inr rfl) (by decide)) (mgs_cons (mg_name (i := 5) S.nd rfl (by first | exact Or.inl rfl | exact Or.inr rfl) (by decide)) (mgs_cons (mg_name (i := 6) S.nd rfl (by first | exact Or.inl rfl | exact Or.inr rfl) (by decide)) mgs_nil)))) (mss_one (ms_if (mt_cmp (op2_eq (hu64 hr)) (me_p (me_var (pv 5))) (me_p me_str) rfl) (mss_one (ms_setIx (i := 3) (ps_asg (me_var (pv 6)) (pg_sub (pv 3) (me_p (me_var (pv 4))) set_list)))) (mss_one (ms_setIx (i := 3) (ps_asg (me_op op2_mod (me_p (me_op op2_add (me_p (me_ix (hu64 hr) (mp_var (pv 3)) (me_p (me_var (pv 4))) (fun _ _ => rfl))) (me_p (me_var (pv 6))))) (me_p (me_ix (hu64 hr) (me_p (me_var (pv 0))) (me_p (me_var (pv 4))) (fun _ _ => rfl)))) (pg_sub (pv 3) (me_p (me_var (pv 4))) set_list)))))))
  (mss_one (ms_ret (me_ty bc_tuple rfl T.b_tuple rfl (mpa_cons (mp_var (pv 3)) mpa_nil))))))
theorem ok_shows_clash (T : Txt A P w K mg) : FnOk P w K mg base (L2N.CX P w) 4 A.f_shows_clash A.d_shows_clash ["counts", "first", "second", "state"] (spF K (ca A) f_shows_clash) := by
  have S : FnScope ["counts", "first", "second", "state", "one", "other"] ["counts", "first", "second", "state"] (defScope st_shows_clash) := ⟨rfl, rfl, rfl, by decide +kernel, rfl, by decide +kernel, by decide +kernel⟩
  refine fn_ok (k := 3) (N := ["counts", "first", "second", "state", "one", "other"]) T.F_shows_clash S rfl rfl (by decide) fun cdv Ar outer s H E hr tk hp => ?_
  exact (mss_cons (ms_if (mt_not (mt_val (mc_e (mc_call (ok_is_state T) (hr.mono (by omega)) rfl T.m_is_state T.k_is_state T.n_is_state tk (ma_cons (me_var (pv 0)) (ma_cons (me_var (pv 3)) ma_nil)))))) (mss_one (ms_ret me_bl)) mss_nil)
  (mss_cons (ms_setCall (i := 4) S.nd rfl (by first | exact Or.inl rfl | exact Or.inr rfl) (mc_call (ok_scene_result T) (hr.mono (by omega)) rfl T.m_scene_result T.k_scene_result T.n_scene_result tk (ma_cons (me_var (pv 0)) (ma_cons (me_var (pv 2)) (ma_cons (mc_e (mc_call (ok_scene_result T) (hr.mono (by omega)) rfl T.m_scene_result T.k_scene_result T.n_scene_result tk (ma_cons (me_var (pv 0)) (ma_cons (me_var (pv 1)) (ma_cons (me_var (pv 3)) ma_nil))))) ma_nil)))))
  (mss_cons (ms_setCall (i := 5) S.nd rfl (by first | exact Or.inl rfl | exact Or.inr rfl) (mc_call (ok_scene_result T) (hr.mono (by omega)) rfl T.m_scene_result T.k_scene_result T.n_scene_result tk (ma_cons (me_var (pv 0)) (ma_cons (me_var (pv 1)) (ma_cons (mc_e (mc_call (ok_scene_result T) (hr.mono (by omega)) rfl T.m_scene_result T.k_scene_result T.n_scene_result tk (ma_cons (me_var (pv 0)) (ma_cons (me_var (pv 2)) (ma_cons (me_var (pv 3)) ma_nil))))) ma_nil)))))
  (mss_one (ms_ret (me_cmp (op2_ne (hu64 hr)) (mp_var (pv 4)) (mp_var (pv 5)) rfl))))))
theorem ok__law_pair_holds (T : Txt A P w K mg) : FnOk P w K mg base (L2N.CX P w) 42 A.f__law_pair_holds A.d__law_pair_holds ["counts", "first", "second", "device", "state", "wrong"] (spF K (ca A) f__law_pair_holds) := by
  have S : FnScope ["counts", "first", "second", "device", "state", "wrong", "found", "count", "one", "other", "told"] ["counts", "first", "second", "device", "state", "wrong"] (defScope st__law_pair_holds) := ⟨rfl, rfl, rfl, by decide +kernel, rfl, by decide +kernel, by decide +kernel⟩
  refine fn_ok (k := 41) (N := ["counts", "first", "second", "device", "state", "wrong", "found", "count", "one", "other", "told"]) T.F__law_pair_holds S rfl rfl (by decide) fun cdv Ar outer s H E hr tk hp => ?_
  exact (mss_cons (ms_setCall (i := 6) S.nd rfl (by first | exact Or.inl rfl | exact Or.inr rfl) (mc_call (ok_clash T) (hr.mono (by omega)) rfl T.m_clash T.k_clash T.n_clash tk (ma_cons (me_var (pv 0)) (ma_cons (me_var (pv 1)) (ma_cons (me_var (pv 2)) ma_nil)))))
  (mss_cons (ms_if (mt_w (mw_and (mt_cmp (op2_eq (hu64 hr)) (me_p (me_var (pv 3))) (me_p me_int) rfl) (mw_and1 (mt_cmp op2_isNot (mp_var (pv 6)) (me_p me_non) rfl)))) (mss_one (ms_ret me_bl)) mss_nil)
  (mss_cons (ms_freeze (ms_if (mt_w (mw_and (mt_cmp (op2_lt (hu2 hr)) (me_p (me_var (pv 3))) (me_p me_int) rfl) (mw_and1 (mt_w (mw_or (mt_cmp (op2_ne (hu64 hr)) (mp_var (pv 6)) (me_p (me_tup (ma_cons (me_var (pv 3)) (ma_cons (me_ty bc_tuple rfl T.b_tuple rfl (mpa_cons (me_p (mf_e (mf_comp (own := [("count", 7)]) rfl S.nd (mi_seq (me_var (pv 0))) (blkOk_by (by show blkC ["counts", "first", "second", "device", "state", "wrong", "found", "count", "one", "other", "told"] (defScope st__law_pair_holds) _ _ = true; decide +kernel)) rfl (fun _ _ _ _ _ => (mg_name (i := 7) S.nd rfl (by first | exact Or.inl rfl | exact Or.inr rfl) (by decide))) (fun _ _ _ _ _ => mts_nil) (fun _ _ _ _ _ => me_int)))) mpa_nil)) ma_nil)))) rfl) (mw_or1 (mt_not (mt_val (mc_e (mc_call (ok__law_plain T 40) (hr.mono (by omega)) rfl T.m__law_plain T.k__law_plain T.n__law_plain tk (ma_cons (me_var (pv 6)) ma_nil))))))))))) (mss_one (ms_ret me_bl)) mss_nil))
  (mss_cons (ms_setCall (i := 8) S.nd rfl (by first | exact Or.inl rfl | exact Or.inr rfl) (mc_call (ok__law_done T) (hr.mono (by omega)) rfl T.m__law_done T.k__law_done T.n__law_done tk (ma_cons (me_var (pv 0)) (ma_cons (me_var (pv 2)) (ma_cons (mc_e (mc_call (ok__law_done T) (hr.mono (by omega)) rfl T.m__law_done T.k__law_done T.n__law_done tk (ma_cons (me_var (pv 0)) (ma_cons (me_var (pv 1)) (ma_cons (me_var (pv 4)) ma_nil))))) ma_nil)))))
  (mss_cons (ms_setCall (i := 9) S.nd rfl (by first | exact Or.inl rfl | exact Or.inr rfl) (mc_call (ok__law_done T) (hr.mono (by omega)) rfl T.m__law_done T.k__law_done T.n__law_done tk (ma_cons (me_var (pv 0)) (ma_cons (me_var (pv 1)) (ma_cons (mc_e (mc_call (ok__law_done T) (hr.mono (by omega)) rfl T.m__law_done T.k__law_done T.n__law_done tk (ma_cons (me_var (pv 0)) (ma_cons (me_var (pv 2)) (ma_cons (me_var (pv 4)) ma_nil))))) ma_nil)))))
  (mss_cons (ms_setCall (i := 10) S.nd rfl (by first | exact Or.inl rfl | exact Or.inr rfl) (mc_call (ok_shows_clash T) (hr.mono (by omega)) rfl T.m_shows_clash T.k_shows_clash T.n_shows_clash tk (ma_cons (me_var (pv 0)) (ma_cons (me_var (pv 1)) (ma_cons (me_var (pv 2)) (ma_cons (me_var (pv 4)) ma_nil))))))
  (mss_cons (ms_if (mt_w (mw_or (mt_not (mt_val (me_b bc_isi rfl T.b_isinstance rfl (mpa_cons (mp_var (pv 10)) (mpa_cons (me_p (me_tyName rfl T.b_bool rfl)) mpa_nil))))) (mw_or1 (mt_cmp (op2_ne (hu64 hr)) (mp_var (pv 10)) (me_p (me_cmp (op2_ne (hu64 hr)) (mp_var (pv 8)) (mp_var (pv 9)) rfl)) rfl)))) (mss_one (ms_ret me_bl)) mss_nil)
  (mss_one (ms_ret (me_cmp op2_is (me_p (mc_e (mc_call (ok_shows_clash T) (hr.mono (by omega)) rfl T.m_shows_clash T.k_shows_clash T.n_shows_clash tk (ma_cons (me_var (pv 0)) (ma_cons (me_var (pv 1)) (ma_cons (me_var (pv 2)) (ma_cons (me_var (pv 5)) ma_nil))))))) (me_p me_bl) rfl))))))))))
theorem ok__law_parting (T : Txt A P w K mg) : FnOk P w K mg base (L2N.CX P w) 3 A.f__law_parting A.d__law_parting ["counts", "first", "second"] (spF K (ca A) f__law_parting) := by
  have S : FnScope ["counts", "first", "second", "parted", "k", "state", "count", "one", "other", "d"] ["counts", "first", "second"] (defScope st__law_parting) := ⟨rfl, rfl, rfl, by decide +kernel, rfl, by decide +kernel, by decide +kernel⟩
  refine fn_ok (k := 2) (N := ["counts", "first", "second", "parted", "k", "state", "count", "one", "other", "d"]) T.F__law_parting S rfl rfl (by decide) fun cdv Ar outer s H E hr tk hp => ?_
  exact (mss_cons (ms_setF (i := 3) S.nd rfl (by first | exact Or.inl rfl | exact Or.inr rfl) (mf_lst (ma_cons me_int ma_nil)))
  (mss_cons (ms_for (vs := [4]) hp rfl (mi_range1 rfl T.b_range (ma_cons me_int ma_nil)) (mg_name (i := 4) S.nd rfl (by first | exact Or.inl rfl | exact Or.inr rfl) (by decide)) (mss_cons (ms_set (i := 5) S.nd rfl (by first | exact Or.inl rfl | exact Or.inr rfl) (me_ty bc_tuple rfl T.b_tuple rfl (mpa_cons (me_p (mf_e (mf_comp (own := [("count", 6)]) rfl S.nd (mi_seq (me_var (pv 0))) (blkOk_by (by show blkC ["counts", "first", "second", "parted", "k", "state", "count", "one", "other", "d"] (defScope st__law_parting) _ _ = true; decide +kernel)) rfl (fun _ _ _ _ _ => (mg_name (i := 6) S.nd rfl (by first | exact Or.inl rfl | exact Or.inr rfl) (by decide))) (fun _ _ _ _ _ => mts_nil) (fun _ _ _ _ _ => (me_op op2_mod (me_p (me_ty bc_int rfl T.b_int rfl (mpa_cons (me_p (me_var (pv 4))) mpa_nil))) (me_p (me_var (pv 6)))))))) mpa_nil)))
  (mss_cons (ms_setCall (i := 7) S.nd rfl (by first | exact Or.inl rfl | exact Or.inr rfl) (mc_call (ok__law_done T) (hr.mono (by omega)) rfl T.m__law_done T.k__law_done T.n__law_done tk (ma_cons (me_var (pv 0)) (ma_cons (me_var (pv 2)) (ma_cons (mc_e (mc_call (ok__law_done T) (hr.mono (by omega)) rfl T.m__law_done T.k__law_done T.n__law_done tk (ma_cons (me_var (pv 0)) (ma_cons (me_var (pv 1)) (ma_cons (me_var (pv 5)) ma_nil))))) ma_nil)))))
  (mss_cons (ms_setCall (i := 8) S.nd rfl (by first | exact Or.inl rfl | exact Or.inr rfl) (mc_call (ok__law_done T) (hr.mono (by omega)) rfl T.m__law_done T.k__law_done T.n__law_done tk (ma_cons (me_var (pv 0)) (ma_cons (me_var (pv 1)) (ma_cons (mc_e (mc_call (ok__law_done T) (hr.mono (by omega)) rfl T.m__law_done T.k__law_done T.n__law_done tk (ma_cons (me_var (pv 0)) (ma_cons (me_var (pv 2)) (ma_cons (me_var (pv 5)) ma_nil))))) ma_nil)))))
  (mss_one (ms_setF (i := 3) S.nd rfl (by first | exact Or.inl rfl | exact Or.inr rfl) (mf_op of_cat (mp_var (pv 3)) (me_p (mf_e (mf_comp (own := [("d", 9)]) rfl S.nd (mi_range1 rfl T.b_range (ma_cons (me_b bc_len rfl T.b_len rfl (mpa_cons (me_p (me_var (pv 0))) mpa_nil)) ma_nil)) (blkOk_by (by show blkC ["counts", "first", "second", "parted", "k", "state", "count", "one", "other", "d"] (defScope st__law_parting) _ _ = true; decide +kernel)) rfl (fun _ _ _ _ _ => (mg_name (i := 9) S.nd rfl (by first | exact Or.inl rfl | exact Or.inr rfl) (by decide))) (fun _ _ _ _ _ => (mts_one (mt_cmp (op2_ne (hu64 hr)) (me_p (me_ix (hu64 hr) (mp_var (pv 7)) (me_p (me_var (pv 9))) (fun _ _ => rfl))) (me_p (me_ix (hu64 hr) (mp_var (pv 8)) (me_p (me_var (pv 9))) (fun _ _ => rfl))) rfl))) (fun _ _ _ _ _ => (me_var (pv 9)))))))))))))
  (mss_one (ms_ret (me_b (bc_min1 rfl) rfl T.b_min rfl (mpa_cons (mp_var (pv 3)) mpa_nil))))))
theorem ok_scene_of (T : Txt A P w K mg) : FnOk P w K mg base (L2N.CX P w) 2 A.f_scene_of A.d_scene_of ["acts"] (spF K (ca A) f_scene_of) := by
  have S : FnScope ["acts", "device"] ["acts"] (defScope st_scene_of) := ⟨rfl, rfl, rfl, by decide +kernel, rfl, by decide +kernel, by decide +kernel⟩
  refine fn_ok (k := 1) (N := ["acts", "device"]) T.F_scene_of S rfl rfl (by decide) fun cdv Ar outer s H E hr tk hp => ?_
  exact (mss_one (ms_ret (me_ty bc_tuple rfl T.b_tuple rfl (mpa_cons (me_p (mf_e (mf_comp (own := [("device", 1)]) rfl S.nd (mi_seq (mf_e (mf_b (bf_sorted rfl) rfl T.b_sorted rfl (mpa_cons (me_p (me_var (pv 0))) mpa_nil)))) (blkOk_by (by show blkC ["acts", "device"] (defScope st_scene_of) _ _ = true; decide +kernel)) rfl (fun _ _ _ _ _ => (mg_name (i := 1) S.nd rfl (by first | exact Or.inl rfl | exact Or.inr rfl) (by decide))) (fun _ _ _ _ _ => mts_nil) (fun _ _ _ _ _ => (me_op op2_add (me_p (me_tup (ma_cons (me_var (pv 1)) ma_nil))) (me_p (me_ix (hu64 hr) (me_p (me_var (pv 0))) (me_p (me_var (pv 1))) (fun _ _ => rfl)))))))) mpa_nil))))
theorem ok_scene_then (T : Txt A P w K mg) : FnOk P w K mg base (L2N.CX P w) 3 A.f_scene_then A.d_scene_then ["counts", "first", "second"] (spF K (ca A) f_scene_then) := by
  have S : FnScope ["counts", "first", "second", "acts", "device", "word", "number", "earlier", "amount", "total"] ["counts", "first", "second"] (defScope st_scene_then) := ⟨rfl, rfl, rfl, by decide +kernel, rfl, by decide +kernel, by decide +kernel⟩
  refine fn_ok (k := 2) (N := ["counts", "first", "second", "acts", "device", "word", "number", "earlier", "amount", "total"]) T.F_scene_then S rfl rfl (by decide) fun cdv Ar outer s H E hr tk hp => ?_
  exact (mss_cons (ms_setCall (i := 3) S.nd rfl (by first | exact Or.inl rfl | exact Or.inr rfl) (mc_call (ok_act_table T) (hr.mono (by omega)) rfl T.m_act_table T.k_act_table T.n_act_table tk (ma_cons (me_var (pv 1)) ma_nil)))
  (mss_cons (ms_for (vs := [4, 5, 6]) hp rfl (mi_seq (me_var (pv 2))) (mg_tup rfl (mgs_cons (mg_name (i := 4) S.nd rfl (by first | exact Or.inl rfl | exact Or.inr rfl) (by decide)) (mgs_cons (mg_name (i := 5) S.nd rfl (by first | exact Or.inl rfl | exact Or.inr rfl) (by decide)) (mgs_cons (mg_name (i := 6) S.nd rfl (by first | exact Or.inl rfl | exact Or.inr rfl) (by decide)) mgs_nil)))) (mss_cons (ms_if (mt_w (mw_or (mt_cmp (op2_eq (hu64 hr)) (me_p (me_var (pv 5))) (me_p me_str) rfl) (mw_or1 (mt_cmp (op2_notIn (hu64 hr)) (me_p (me_var (pv 4))) (mp_var (pv 3)) rfl)))) (mss_cons (ms_put (i := 3) (hu64 hr) (pv 3) (me_var (pv 4)) (me_tup (ma_cons (me_var (pv 5)) (ma_cons (me_var (pv 6)) ma_nil))))
  (mss_one ms_continue)) mss_nil)
  (mss_cons (ms_setTg (vs := [7, 8]) (me_ix (hu64 hr) (mp_var (pv 3)) (me_p (me_var (pv 4))) (fun _ _ => rfl)) (mg_tup rfl (mgs_cons (mg_name (i := 7) S.nd rfl (by first | exact Or.inl rfl | exact Or.inr rfl) (by decide)) (mgs_cons (mg_name (i := 8) S.nd rfl (by first | exact Or.inl rfl | exact Or.inr rfl) (by decide)) mgs_nil))))
  (mss_cons (ms_set (i := 9) S.nd rfl (by first | exact Or.inl rfl | exact Or.inr rfl) (me_op op2_mod (me_p (me_op op2_add (me_p (me_var (pv 8))) (me_p (me_var (pv 6))))) (me_p (me_ix (hu64 hr) (me_p (me_var (pv 0))) (me_p (me_var (pv 4))) (fun _ _ => rfl)))))
  (mss_one (ms_if (mt_w (mw_and (mt_cmp (op2_eq (hu64 hr)) (me_p (me_var (pv 7))) (me_p me_str) rfl) (mw_and1 (mt_cmp (op2_eq (hu64 hr)) (me_p (me_var (pv 9))) (me_p me_int) rfl)))) (mss_one (ms_pop (i := 3) (pv 3) (me_var (pv 4)) ⟨rfl, rfl, rfl, rfl⟩)) (mss_one (ms_put (i := 3) (hu64 hr) (pv 3) (me_var (pv 4)) (me_tup (ma_cons (me_var (pv 7)) (ma_cons (me_var (pv 9)) ma_nil)))))))))))
  (mss_one (ms_freeze (ms_retCall (mc_call (ok_scene_of T) (hr.mono (by omega)) rfl T.m_scene_of T.k_scene_of T.n_scene_of tk (ma_cons (me_var (pv 3)) ma_nil)))))))
theorem ok_joined (T : Txt A P w K mg) : FnOk P w K mg base (L2N.CX P w) 6 A.f_joined A.d_joined ["counts", "scenes"] (spF K (ca A) f_joined) := by
  have S : FnScope ["counts", "scenes", "scene", "total", "place", "earlier"] ["counts", "scenes"] (defScope st_joined) := ⟨rfl, rfl, rfl, by decide +kernel, rfl, by decide +kernel, by decide +kernel⟩
  refine fn_ok (k := 5) (N := ["counts", "scenes", "scene", "total", "place", "earlier"]) T.F_joined S rfl rfl (by decide) fun cdv Ar outer s H E hr tk hp => ?_
  exact (mss_cons (ms_for (vs := [2]) hp rfl (mi_seq (me_var (pv 1))) (mg_name (i := 2) S.nd rfl (by first | exact Or.inl rfl | exact Or.inr rfl) (by decide)) (mss_one (ms_expr (mc_e (mc_call (ok_demand_scene T) (hr.mono (by omega)) rfl T.m_demand_scene T.k_demand_scene T.n_demand_scene tk (ma_cons (me_var (pv 0)) (ma_cons (me_var (pv 2)) ma_nil)))))))
  (mss_cons (ms_set (i := 3) S.nd rfl (by first | exact Or.inl rfl | exact Or.inr rfl) (me_tup ma_nil))
  (mss_cons (ms_for (vs := [4, 2]) hp rfl (mi_enum2 rfl T.b_enumerate (ma_cons (me_var (pv 1)) ma_nil)) (mg_tup rfl (mgs_cons (mg_name (i := 4) S.nd rfl (by first | exact Or.inl rfl | exact Or.inr rfl) (by decide)) (mgs_cons (mg_name (i := 2) S.nd rfl (by first | exact Or.inl rfl | exact Or.inr rfl) (by decide)) mgs_nil))) (mss_cons (ms_for (vs := [5]) hp rfl (mi_seq (me_sl (me_p (me_var (pv 1))) mo_no (mo_some (me_var (pv 4))))) (mg_name (i := 5) S.nd rfl (by first | exact Or.inl rfl | exact Or.inr rfl) (by decide)) (mss_one (ms_if (mt_cmp op2_isNot (me_p (mc_e (mc_call (ok_clash_device T) (hr.mono (by omega)) rfl T.m_clash_device T.k_clash_device T.n_clash_device tk (ma_cons (me_var (pv 5)) (ma_cons (me_var (pv 2)) ma_nil))))) (me_p me_non) rfl) (mss_one (ms_ret me_non)) mss_nil)))
  (mss_one (ms_freeze (ms_setCall (i := 3) S.nd rfl (by first | exact Or.inl rfl | exact Or.inr rfl) (mc_call (ok_scene_then T) (hr.mono (by omega)) rfl T.m_scene_then T.k_scene_then T.n_scene_then tk (ma_cons (me_var (pv 0)) (ma_cons (me_var (pv 3)) (ma_cons (me_var (pv 2)) ma_nil)))))))))
  (mss_one (ms_retOwn (pv 3))))))
theorem ok__law_refused (T : Txt A P w K mg) : FnOk P w K mg base (L2N.CX P w) 7 A.f__law_refused A.d__law_refused ["counts", "which", "good", "bad", "row"] (spF K (ca A) f__law_refused) := by
  have S : FnScope ["counts", "which", "good", "bad", "row", "e"] ["counts", "which", "good", "bad", "row"] (defScope st__law_refused) := ⟨rfl, rfl, rfl, by decide +kernel, rfl, by decide +kernel, by decide +kernel⟩
  refine fn_ok (k := 6) (N := ["counts", "which", "good", "bad", "row", "e"]) T.F__law_refused S rfl rfl (by decide) fun cdv Ar outer s H E hr tk hp => ?_
  exact (mss_cons (ms_tryAs (i := 5) (sub := exm_HouseError) rfl rfl S.nd rfl rfl ⟨rfl, by decide, .inl T.gc_HouseError⟩ tk rfl (exmOk T.exm_HouseError) (fun W pn xe tk2 hp2 => (mss_one (ms_if (mt_cmp (op2_eq (hu64 hr)) (me_p (me_var (pv 1))) (me_p me_int) rfl) (mss_one (ms_expr (mc_e (mc_call (ok_clash T) (hr.mono (by omega)) rfl T.m_clash T.k_clash T.n_clash tk2 (ma_cons (me_var (pv 0)) (ma_cons (me_var (pv 3)) (ma_cons (me_var (pv 2)) ma_nil))))))) (mss_one (ms_if (mt_cmp (op2_eq (hu64 hr)) (me_p (me_var (pv 1))) (me_p me_int) rfl) (mss_one (ms_expr (mc_e (mc_call (ok_clash T) (hr.mono (by omega)) rfl T.m_clash T.k_clash T.n_clash tk2 (ma_cons (me_var (pv 0)) (ma_cons (me_var (pv 2)) (ma_cons (me_var (pv 3)) ma_nil))))))) (mss_one (ms_expr (mc_e (mc_call (ok_joined T) (hr.mono (by omega)) rfl T.m_joined T.k_joined T.n_joined tk2 (ma_cons (me_var (pv 0)) (ma_cons (me_var (pv 4)) ma_nil)))))))))))
  (fun a oe cls d pn hz hf => (mss_one (ms_ret (me_and (me_xis (cv := .ref A.c_BadScene) hz hf (pv 5) (pe_glob (v := .ref A.c_BadScene) rfl T.gc_BadScene rfl) (fun _ h => h) (isiOk T.isi_BadScene) rfl T.b_isinstance) (me_one (me_not (me_xis (cv := .ref A.c_BadState) hz hf (pv 5) (pe_glob (v := .ref A.c_BadState) rfl T.gc_BadState rfl) (fun _ h => h) (isiOk T.isi_BadState) rfl T.b_isinstance))))))))
  (mss_one (ms_ret me_bl)))
theorem ok__law_scene (T : Txt A P w K mg) : FnOk P w K mg base (L2N.CX P w) 3 A.f__law_scene A.d__law_scene ["cell", "counts"] (spF K (ca A) f__law_scene) := by
  have S : FnScope ["cell", "counts", "row", "scene", "device", "number", "word"] ["cell", "counts"] (defScope st__law_scene) := ⟨rfl, rfl, rfl, by decide +kernel, rfl, by decide +kernel, by decide +kernel⟩
  refine fn_ok (k := 2) (N := ["cell", "counts", "row", "scene", "device", "number", "word"]) T.F__law_scene S rfl rfl (by decide) fun cdv Ar outer s H E hr tk hp => ?_
  exact (mss_cons (ms_setCall (i := 2) S.nd rfl (by first | exact Or.inl rfl | exact Or.inr rfl) (mc_call (ok__law_row T) (hr.mono (by omega)) rfl T.m__law_row T.k__law_row T.n__law_row tk (ma_cons (me_var (pv 0)) (ma_cons (me_op op2_add (me_p (mf_e (mf_lst (ma_cons me_int ma_nil)))) (me_p (mf_e (mf_rep (mf_lst (ma_cons me_int (ma_cons me_int (ma_cons me_int ma_nil)))) (me_b bc_len rfl T.b_len rfl (mpa_cons (me_p (me_var (pv 1))) mpa_nil)))))) ma_nil))))
  (mss_cons (ms_setF (i := 3) S.nd rfl (by first | exact Or.inl rfl | exact Or.inr rfl) (mf_lst ma_nil))
  (mss_cons (ms_for (vs := [4]) hp rfl (mi_range1 rfl T.b_range (ma_cons (me_b bc_len rfl T.b_len rfl (mpa_cons (me_p (me_var (pv 1))) mpa_nil)) ma_nil)) (mg_name (i := 4) S.nd rfl (by first | exact Or.inl rfl | exact Or.inr rfl) (by decide)) (mss_cons (ms_set (i := 5) S.nd rfl (by first | exact Or.inl rfl | exact Or.inr rfl) (me_op op2_mod (me_p (me_ix (hu64 hr) (mp_var (pv 2)) (me_p (me_op op2_add (me_p (me_op op2_mul (me_p me_int) (me_p (me_var (pv 4))))) (me_p me_int))) (fun _ _ => rfl))) (me_p (me_ix (hu64 hr) (me_p (me_var (pv 1))) (me_p (me_var (pv 4))) (fun _ _ => rfl)))))
  (mss_cons (ms_set (i := 6) S.nd rfl (by first | exact Or.inl rfl | exact Or.inr rfl) (me_ix (hu64 hr) (me_p (mf_e (mf_lst (ma_cons me_str (ma_cons me_str ma_nil))))) (me_p (me_ix (hu64 hr) (mp_var (pv 2)) (me_p (me_op op2_add (me_p (me_op op2_mul (me_p me_int) (me_p (me_var (pv 4))))) (me_p me_int))) (fun _ _ => rfl))) (fun _ _ => rfl)))
  (mss_cons (ms_if (mt_cmp (op2_lt (hu2 hr)) (me_p (me_ix (hu64 hr) (mp_var (pv 2)) (me_p me_int) (fun _ _ => rfl))) (me_p me_int) rfl) (mss_one (ms_set (i := 6) S.nd rfl (by first | exact Or.inl rfl | exact Or.inr rfl) (me_ix (hu64 hr) (me_p (mf_e (mf_lst (ma_cons me_str (ma_cons me_str ma_nil))))) (me_p (me_ix (hu64 hr) (mp_var (pv 2)) (me_p me_int) (fun _ _ => rfl))) (fun _ _ => rfl)))) mss_nil)
  (mss_one (ms_if (mt_w (mw_and (mt_cmp op2_gt (me_p (me_ix (hu64 hr) (mp_var (pv 2)) (me_p (me_op op2_add (me_p (me_op op2_mul (me_p me_int) (me_p (me_var (pv 4))))) (me_p me_int))) (fun _ _ => rfl))) (me_p me_int) rfl) (mw_and1 (mt_w (mw_or (mt_cmp (op2_eq (hu64 hr)) (me_p (me_var (pv 6))) (me_p me_str) rfl) (mw_or1 (mt_cmp op2_gt (me_p (me_var (pv 5))) (me_p me_int) rfl))))))) (mss_one (ms_append (i := 3) (pe_bm PySem.F.plainAttrs_list PySem.F.slot_list_append PySem.F.type_list_append mt_append (pv 3) (pa_cons (me_tup (ma_cons (me_var (pv 4)) (ma_cons (me_var (pv 6)) (ma_cons (me_var (pv 5)) ma_nil)))) pa_nil)))) mss_nil))))))
  (mss_one (ms_ret (me_ty bc_tuple rfl T.b_tuple rfl (mpa_cons (mp_var (pv 3)) mpa_nil)))))))
theorem ok__law_changed (T : Txt A P w K mg) : FnOk P w K mg base (L2N.CX P w) 3 A.f__law_changed A.d__law_changed ["scene", "counts", "cell"] (spF K (ca A) f__law_changed) := by
  have S : FnScope ["scene", "counts", "cell", "row", "device", "number", "low", "act", "high"] ["scene", "counts", "cell"] (defScope st__law_changed) := ⟨rfl, rfl, rfl, by decide +kernel, rfl, by decide +kernel, by decide +kernel⟩
  refine fn_ok (k := 2) (N := ["scene", "counts", "cell", "row", "device", "number", "low", "act", "high"]) T.F__law_changed S rfl rfl (by decide) fun cdv Ar outer s H E hr tk hp => ?_
  exact (mss_cons (ms_setCall (i := 3) S.nd rfl (by first | exact Or.inl rfl | exact Or.inr rfl) (mc_call (ok__law_row T) (hr.mono (by omega)) rfl T.m__law_row T.k__law_row T.n__law_row tk (ma_cons (me_var (pv 2)) (ma_cons (mf_e (mf_lst (ma_cons me_int (ma_cons me_int (ma_cons me_int ma_nil))))) ma_nil))))
  (mss_cons (ms_set (i := 4) S.nd rfl (by first | exact Or.inl rfl | exact Or.inr rfl) (me_op op2_mod (me_p (me_ix (hu64 hr) (mp_var (pv 3)) (me_p me_int) (fun _ _ => rfl))) (me_p (me_b bc_len rfl T.b_len rfl (mpa_cons (me_p (me_var (pv 1))) mpa_nil)))))
  (mss_cons (ms_set (i := 5) S.nd rfl (by first | exact Or.inl rfl | exact Or.inr rfl) (me_op op2_mod (me_p (me_ix (hu64 hr) (mp_var (pv 3)) (me_p me_int) (fun _ _ => rfl))) (me_p (me_ix (hu64 hr) (me_p (me_var (pv 1))) (me_p (me_var (pv 4))) (fun _ _ => rfl)))))
  (mss_cons (ms_setComp (i := 6) (own := [("act", 7)]) rfl S.nd rfl rfl (sw_true rfl rfl rfl rfl) (mi_seq (me_var (pv 0))) (blkOk_by (by show blkC ["scene", "counts", "cell", "row", "device", "number", "low", "act", "high"] (defScope st__law_changed) _ _ = true; decide +kernel)) rfl (fun _ _ _ _ _ => (mg_name (i := 7) S.nd rfl (by first | exact Or.inl rfl | exact Or.inr rfl) (by decide))) (fun _ _ _ _ _ => (mts_one (mt_cmp (op2_lt (hu2 hr)) (me_p (me_ix (hu64 hr) (me_p (me_var (pv 7))) (me_p me_int) (fun _ _ => rfl))) (me_p (me_var (pv 4))) rfl))) (fun _ _ _ _ _ => (me_var (pv 7))))
  (mss_cons (ms_setComp (i := 8) (own := [("act", 7)]) rfl S.nd rfl rfl (sw_true rfl rfl rfl rfl) (mi_seq (me_var (pv 0))) (blkOk_by (by show blkC ["scene", "counts", "cell", "row", "device", "number", "low", "act", "high"] (defScope st__law_changed) _ _ = true; decide +kernel)) rfl (fun _ _ _ _ _ => (mg_name (i := 7) S.nd rfl (by first | exact Or.inl rfl | exact Or.inr rfl) (by decide))) (fun _ _ _ _ _ => (mts_one (mt_cmp op2_gt (me_p (me_ix (hu64 hr) (me_p (me_var (pv 7))) (me_p me_int) (fun _ _ => rfl))) (me_p (me_var (pv 4))) rfl))) (fun _ _ _ _ _ => (me_var (pv 7))))
  (mss_cons (ms_if (mt_cmp (op2_eq (hu64 hr)) (me_p (me_ix (hu64 hr) (mp_var (pv 3)) (me_p me_int) (fun _ _ => rfl))) (me_p me_int) rfl) (mss_one (ms_ret (me_ty bc_tuple rfl T.b_tuple rfl (mpa_cons (me_p (me_op op2_add (me_p (me_op op2_add (mp_var (pv 6)) (me_p (mf_e (mf_lst (ma_cons (me_tup (ma_cons (me_var (pv 4)) (ma_cons me_str (ma_cons (me_var (pv 5)) ma_nil)))) ma_nil)))))) (mp_var (pv 8)))) mpa_nil)))) mss_nil)
  (mss_cons (ms_if (mt_cmp (op2_eq (hu64 hr)) (me_p (me_var (pv 5))) (me_p me_int) rfl) (mss_one (ms_ret (me_ty bc_tuple rfl T.b_tuple rfl (mpa_cons (me_p (me_op op2_add (mp_var (pv 6)) (mp_var (pv 8)))) mpa_nil)))) mss_nil)
  (mss_one (ms_ret (me_ty bc_tuple rfl T.b_tuple rfl (mpa_cons (me_p (me_op op2_add (me_p (me_op op2_add (mp_var (pv 6)) (me_p (mf_e (mf_lst (ma_cons (me_tup (ma_cons (me_var (pv 4)) (ma_cons me_str (ma_cons (me_var (pv 5)) ma_nil)))) ma_nil)))))) (mp_var (pv 8)))) mpa_nil)))))))))))
theorem ok__law_tame (T : Txt A P w K mg) : FnOk P w K mg base (L2N.CX P w) 3 A.f__law_tame A.d__law_tame ["cell", "counts", "common"] (spF K (ca A) f__law_tame) := by
  have S : FnScope ["cell", "counts", "common", "row", "scene", "d", "number"] ["cell", "counts", "common"] (defScope st__law_tame) := ⟨rfl, rfl, rfl, by decide +kernel, rfl, by decide +kernel, by decide +kernel⟩
  refine fn_ok (k := 2) (N := ["cell", "counts", "common", "row", "scene", "d", "number"]) T.F__law_tame S rfl rfl (by decide) fun cdv Ar outer s H E hr tk hp => ?_
  exact (mss_cons (ms_setCall (i := 3) S.nd rfl (by first | exact Or.inl rfl | exact Or.inr rfl) (mc_call (ok__law_row T) (hr.mono (by omega)) rfl T.m__law_row T.k__law_row T.n__law_row tk (ma_cons (me_var (pv 0)) (ma_cons (mf_e (mf_rep (mf_lst (ma_cons me_int (ma_cons me_int ma_nil))) (me_b bc_len rfl T.b_len rfl (mpa_cons (me_p (me_var (pv 1))) mpa_nil)))) ma_nil))))
  (mss_cons (ms_setF (i := 4) S.nd rfl (by first | exact Or.inl rfl | exact Or.inr rfl) (mf_lst ma_nil))
  (mss_cons (ms_for (vs := [5]) hp rfl (mi_range1 rfl T.b_range (ma_cons (me_b bc_len rfl T.b_len rfl (mpa_cons (me_p (me_var (pv 1))) mpa_nil)) ma_nil)) (mg_name (i := 5) S.nd rfl (by first | exact Or.inl rfl | exact Or.inr rfl) (by decide)) (mss_cons (ms_set (i := 6) S.nd rfl (by first | exact Or.inl rfl | exact Or.inr rfl) (me_op op2_mod (me_p (me_ix (hu64 hr) (mp_var (pv 3)) (me_p (me_op op2_add (me_p (me_op op2_mul (me_p me_int) (me_p (me_var (pv 5))))) (me_p me_int))) (fun _ _ => rfl))) (me_p (me_ix (hu64 hr) (me_p (me_var (pv 1))) (me_p (me_var (pv 5))) (fun _ _ => rfl)))))
  (mss_one (ms_if (mt_w (mw_and (mt_cmp (op2_eq (hu64 hr)) (me_p (me_ix (hu64 hr) (mp_var (pv 3)) (me_p (me_op op2_mul (me_p me_int) (me_p (me_var (pv 5))))) (fun _ _ => rfl))) (me_p me_int) rfl) (mw_and1 (mt_cmp (op2_eq (hu64 hr)) (me_p (me_ix (hu64 hr) (me_p (me_var (pv 2))) (me_p (me_op op2_mul (me_p me_int) (me_p (me_var (pv 5))))) (fun _ _ => rfl))) (me_p me_int) rfl)))) (mss_one (ms_append (i := 4) (pe_bm PySem.F.plainAttrs_list PySem.F.slot_list_append PySem.F.type_list_append mt_append (pv 4) (pa_cons (me_tup (ma_cons (me_var (pv 5)) (ma_cons me_str (ma_cons (me_op op2_mod (me_p (me_ix (hu64 hr) (me_p (me_var (pv 2))) (me_p (me_op op2_add (me_p (me_op op2_mul (me_p me_int) (me_p (me_var (pv 5))))) (me_p me_int))) (fun _ _ => rfl))) (me_p (me_ix (hu64 hr) (me_p (me_var (pv 1))) (me_p (me_var (pv 5))) (fun _ _ => rfl)))) ma_nil)))) pa_nil)))) (mss_one (ms_if (mt_w (mw_and (mt_cmp (op2_eq (hu64 hr)) (me_p (me_ix (hu64 hr) (mp_var (pv 3)) (me_p (me_op op2_mul (me_p me_int) (me_p (me_var (pv 5))))) (fun _ _ => rfl))) (me_p me_int) rfl) (mw_and1 (mt_cmp op2_gt (me_p (me_var (pv 6))) (me_p me_int) rfl)))) (mss_one (ms_append (i := 4) (pe_bm PySem.F.plainAttrs_list PySem.F.slot_list_append PySem.F.type_list_append mt_append (pv 4) (pa_cons (me_tup (ma_cons (me_var (pv 5)) (ma_cons me_str (ma_cons (me_var (pv 6)) ma_nil)))) pa_nil)))) mss_nil))))))
  (mss_one (ms_ret (me_ty bc_tuple rfl T.b_tuple rfl (mpa_cons (mp_var (pv 4)) mpa_nil)))))))
theorem ok__law_scenes (T : Txt A P w K mg) : FnOk P w K mg base (L2N.CX P w) 4 A.f__law_scenes A.d__law_scenes ["script", "counts", "plan"] (spF K (ca A) f__law_scenes) := by
  have S : FnScope ["script", "counts", "plan", "scenes", "common", "k", "place"] ["script", "counts", "plan"] (defScope st__law_scenes) := ⟨rfl, rfl, rfl, by decide +kernel, rfl, by decide +kernel, by decide +kernel⟩
  refine fn_ok (k := 3) (N := ["script", "counts", "plan", "scenes", "common", "k", "place"]) T.F__law_scenes S rfl rfl (by decide) fun cdv Ar outer s H E hr tk hp => ?_
  exact (mss_cons (ms_setF (i := 3) S.nd rfl (by first | exact Or.inl rfl | exact Or.inr rfl) (mf_lst ma_nil))
  (mss_cons (ms_setCall (i := 4) S.nd rfl (by first | exact Or.inl rfl | exact Or.inr rfl) (mc_call (ok__law_row T) (hr.mono (by omega)) rfl T.m__law_row T.k__law_row T.n__law_row tk (ma_cons (mc_e (mc_call (ok__law_cell T) (hr.mono (by omega)) rfl T.m__law_cell T.k__law_cell T.n__law_cell tk (ma_cons (me_var (pv 0)) (ma_cons me_int ma_nil)))) (ma_cons (mf_e (mf_rep (mf_lst (ma_cons me_int (ma_cons me_int ma_nil))) (me_b bc_len rfl T.b_len rfl (mpa_cons (me_p (me_var (pv 1))) mpa_nil)))) ma_nil))))
  (mss_cons (ms_for (vs := [5]) hp rfl (mi_range1 rfl T.b_range (ma_cons (me_ix (hu64 hr) (me_p (me_var (pv 2))) (me_p me_int) (fun _ _ => rfl)) ma_nil)) (mg_name (i := 5) S.nd rfl (by first | exact Or.inl rfl | exact Or.inr rfl) (by decide)) (mss_one (ms_if (mt_cmp (op2_lt (hu2 hr)) (me_p (me_ix (hu64 hr) (me_p (me_var (pv 2))) (me_p me_int) (fun _ _ => rfl))) (me_p me_int) rfl) (mss_one (ms_append (i := 3) (pe_bm PySem.F.plainAttrs_list PySem.F.slot_list_append PySem.F.type_list_append mt_append (pv 3) (pa_cons (mc_e (mc_call (ok__law_scene T) (hr.mono (by omega)) rfl T.m__law_scene T.k__law_scene T.n__law_scene tk (ma_cons (mc_e (mc_call (ok__law_cell T) (hr.mono (by omega)) rfl T.m__law_cell T.k__law_cell T.n__law_cell tk (ma_cons (me_var (pv 0)) (ma_cons (me_op op2_add (me_p me_int) (me_p (me_var (pv 5)))) ma_nil)))) (ma_cons (me_var (pv 1)) ma_nil)))) pa_nil)))) (mss_one (ms_freeze (ms_append (i := 3) (pe_bm PySem.F.plainAttrs_list PySem.F.slot_list_append PySem.F.type_list_append mt_append (pv 3) (pa_cons (mc_e (mc_call (ok__law_tame T) (hr.mono (by omega)) rfl T.m__law_tame T.k__law_tame T.n__law_tame tk (ma_cons (mc_e (mc_call (ok__law_cell T) (hr.mono (by omega)) rfl T.m__law_cell T.k__law_cell T.n__law_cell tk (ma_cons (me_var (pv 0)) (ma_cons (me_op op2_add (me_p me_int) (me_p (me_var (pv 5)))) ma_nil)))) (ma_cons (me_var (pv 1)) (ma_cons (me_var (pv 4)) ma_nil))))) pa_nil))))))))
  (mss_cons (ms_if (mt_w (mw_and (mt_cmp (op2_eq (hu64 hr)) (me_p (me_ix (hu64 hr) (me_p (me_var (pv 2))) (me_p me_int) (fun _ _ => rfl))) (me_p me_int) rfl) (mw_and1 (mt_cmp op2_gt (me_p (me_b bc_len rfl T.b_len rfl (mpa_cons (mp_var (pv 3)) mpa_nil))) (me_p me_int) rfl)))) (mss_cons (ms_set (i := 6) S.nd rfl (by first | exact Or.inl rfl | exact Or.inr rfl) (me_op op2_mod (me_p (me_ix (hu64 hr) (me_p (me_var (pv 2))) (me_p me_int) (fun _ _ => rfl))) (me_p (me_b bc_len rfl T.b_len rfl (mpa_cons (mp_var (pv 3)) mpa_nil)))))
  (mss_one (ms_setIx (i := 3) (ps_asg (mc_e (mc_call (ok__law_changed T) (hr.mono (by omega)) rfl T.m__law_changed T.k__law_changed T.n__law_changed tk (ma_cons (me_ix (hu64 hr) (mp_var (pv 3)) (me_p (me_var (pv 6))) (fun _ _ => rfl)) (ma_cons (me_var (pv 1)) (ma_cons (mc_e (mc_call (ok__law_cell T) (hr.mono (by omega)) rfl T.m__law_cell T.k__law_cell T.n__law_cell tk (ma_cons (me_var (pv 0)) (ma_cons me_int ma_nil)))) ma_nil))))) (pg_sub (pv 3) (me_p (me_var (pv 6))) set_list))))) mss_nil)
  (mss_one (ms_retOwn (pv 3)))))))
theorem ok__law_spoilt (T : Txt A P w K mg) : FnOk P w K mg base (L2N.CX P w) 2 A.f__law_spoilt A.d__law_spoilt ["counts", "scene", "way", "device"] (spF K (ca A) f__law_spoilt) := by
  have S : FnScope ["counts", "scene", "way", "device", "low", "act", "high", "count", "bad"] ["counts", "scene", "way", "device"] (defScope st__law_spoilt) := ⟨rfl, rfl, rfl, by decide +kernel, rfl, by decide +kernel, by decide +kernel⟩
  refine fn_ok (k := 1) (N := ["counts", "scene", "way", "device", "low", "act", "high", "count", "bad"]) T.F__law_spoilt S rfl rfl (by decide) fun cdv Ar outer s H E hr tk hp => ?_
  exact (mss_cons (ms_setComp (i := 4) (own := [("act", 5)]) rfl S.nd rfl rfl (sw_true rfl rfl rfl rfl) (mi_seq (me_var (pv 1))) (blkOk_by (by show blkC ["counts", "scene", "way", "device", "low", "act", "high", "count", "bad"] (defScope st__law_spoilt) _ _ = true; decide +kernel)) rfl (fun _ _ _ _ _ => (mg_name (i := 5) S.nd rfl (by first | exact Or.inl rfl | exact Or.inr rfl) (by decide))) (fun _ _ _ _ _ => (mts_one (mt_cmp (op2_lt (hu2 hr)) (me_p (me_ix (hu64 hr) (me_p (me_var (pv 5))) (me_p me_int) (fun _ _ => rfl))) (me_p (me_var (pv 3))) rfl))) (fun _ _ _ _ _ => (me_var (pv 5))))
  (mss_cons (ms_setComp (i := 6) (own := [("act", 5)]) rfl S.nd rfl rfl (sw_true rfl rfl rfl rfl) (mi_seq (me_var (pv 1))) (blkOk_by (by show blkC ["counts", "scene", "way", "device", "low", "act", "high", "count", "bad"] (defScope st__law_spoilt) _ _ = true; decide +kernel)) rfl (fun _ _ _ _ _ => (mg_name (i := 5) S.nd rfl (by first | exact Or.inl rfl | exact Or.inr rfl) (by decide))) (fun _ _ _ _ _ => (mts_one (mt_cmp op2_gt (me_p (me_ix (hu64 hr) (me_p (me_var (pv 5))) (me_p me_int) (fun _ _ => rfl))) (me_p (me_var (pv 3))) rfl))) (fun _ _ _ _ _ => (me_var (pv 5))))
  (mss_cons (ms_set (i := 7) S.nd rfl (by first | exact Or.inl rfl | exact Or.inr rfl) (me_ix (hu64 hr) (me_p (me_var (pv 0))) (me_p (me_var (pv 3))) (fun _ _ => rfl)))
  (mss_cons (ms_setF (i := 8) S.nd rfl (by first | exact Or.inl rfl | exact Or.inr rfl) (mf_lst (ma_cons (me_tup (ma_cons (me_var (pv 3)) (ma_cons me_str (ma_cons (me_var (pv 7)) ma_nil)))) (ma_cons (me_tup (ma_cons (me_var (pv 3)) (ma_cons me_str (ma_cons (me_neg me_int) ma_nil)))) (ma_cons (me_tup (ma_cons (me_var (pv 3)) (ma_cons me_str (ma_cons me_int ma_nil)))) (ma_cons (me_tup (ma_cons (me_var (pv 3)) (ma_cons me_str (ma_cons (me_var (pv 7)) ma_nil)))) ma_nil))))))
  (mss_cons (ms_setF (i := 8) S.nd rfl (by first | exact Or.inl rfl | exact Or.inr rfl) (mf_op of_cat (mp_var (pv 8)) (me_p (mf_e (mf_lst (ma_cons (me_tup (ma_cons (me_var (pv 3)) (ma_cons me_str (ma_cons (me_neg me_int) ma_nil)))) (ma_cons (me_tup (ma_cons (me_var (pv 3)) (ma_cons me_str (ma_cons me_int ma_nil)))) ma_nil)))))))
  (mss_cons (ms_if (mt_cmp (op2_lt (hu2 hr)) (me_p (me_var (pv 2))) (me_p me_int) rfl) (mss_one (ms_ret (me_ty bc_tuple rfl T.b_tuple rfl (mpa_cons (me_p (me_op op2_add (me_p (me_op op2_add (mp_var (pv 4)) (me_p (mf_e (mf_lst (ma_cons (me_ix (hu64 hr) (mp_var (pv 8)) (me_p (me_var (pv 2))) (fun _ _ => rfl)) ma_nil)))))) (mp_var (pv 6)))) mpa_nil)))) mss_nil)
  (mss_cons (ms_if (mt_cmp (op2_eq (hu64 hr)) (me_p (me_var (pv 2))) (me_p me_int) rfl) (mss_one (ms_ret (me_ty bc_tuple rfl T.b_tuple rfl (mpa_cons (me_p (me_op op2_add (me_p (me_op op2_add (mp_var (pv 4)) (me_p (mf_e (mf_lst (ma_cons (me_tup (ma_cons (me_var (pv 3)) (ma_cons me_str (ma_cons me_int ma_nil)))) (ma_cons (me_tup (ma_cons (me_var (pv 3)) (ma_cons me_str (ma_cons me_int ma_nil)))) ma_nil))))))) (mp_var (pv 6)))) mpa_nil)))) mss_nil)
  (mss_cons (ms_if (mt_cmp (op2_eq (hu64 hr)) (me_p (me_var (pv 2))) (me_p me_int) rfl) (mss_one (ms_ret (me_ty bc_tuple rfl T.b_tuple rfl (mpa_cons (me_p (me_op op2_add (me_p (me_op op2_add (mp_var (pv 4)) (mp_var (pv 6)))) (me_p (mf_e (mf_lst (ma_cons (me_tup (ma_cons (me_b bc_len rfl T.b_len rfl (mpa_cons (me_p (me_var (pv 0))) mpa_nil)) (ma_cons me_str (ma_cons me_int ma_nil)))) ma_nil)))))) mpa_nil)))) mss_nil)
  (mss_cons (ms_if (mt_cmp (op2_eq (hu64 hr)) (me_p (me_var (pv 2))) (me_p me_int) rfl) (mss_one (ms_ret (me_ty bc_tuple rfl T.b_tuple rfl (mpa_cons (me_p (me_op op2_add (me_p (me_op op2_add (me_p (mf_e (mf_lst (ma_cons (me_tup (ma_cons (me_neg me_int) (ma_cons me_str (ma_cons me_int ma_nil)))) ma_nil)))) (mp_var (pv 4)))) (mp_var (pv 6)))) mpa_nil)))) mss_nil)
  (mss_cons (ms_if (mt_cmp (op2_eq (hu64 hr)) (me_p (me_var (pv 3))) (me_p me_int) rfl) (mss_one (ms_ret (me_ty bc_tuple rfl T.b_tuple rfl (mpa_cons (me_p (me_op op2_add (me_p (mf_e (mf_lst (ma_cons (me_tup (ma_cons me_int (ma_cons me_str (ma_cons me_int ma_nil)))) (ma_cons (me_tup (ma_cons me_int (ma_cons me_str (ma_cons me_int ma_nil)))) ma_nil))))) (mp_var (pv 6)))) mpa_nil)))) mss_nil)
  (mss_cons (ms_freeze (ms_setComp (i := 4) (own := [("act", 5)]) rfl S.nd rfl rfl (sw_true rfl rfl rfl rfl) (mi_seq (me_var (pv 4))) (blkOk_by (by show blkC ["counts", "scene", "way", "device", "low", "act", "high", "count", "bad"] (defScope st__law_spoilt) _ _ = true; decide +kernel)) rfl (fun _ _ _ _ _ => (mg_name (i := 5) S.nd rfl (by first | exact Or.inl rfl | exact Or.inr rfl) (by decide))) (fun _ _ _ _ _ => (mts_one (mt_cmp (op2_lt (hu2 hr)) (me_p (me_ix (hu64 hr) (me_p (me_var (pv 5))) (me_p me_int) (fun _ _ => rfl))) (me_p (me_op op2_sub (me_p (me_var (pv 3))) (me_p me_int))) rfl))) (fun _ _ _ _ _ => (me_var (pv 5)))))
  (mss_one (ms_ret (me_ty bc_tuple rfl T.b_tuple rfl (mpa_cons (me_p (me_op op2_add (me_p (me_op op2_add (mp_var (pv 4)) (me_p (mf_e (mf_lst (ma_cons (me_tup (ma_cons (me_var (pv 3)) (ma_cons me_str (ma_cons me_int ma_nil)))) (ma_cons (me_tup (ma_cons (me_op op2_sub (me_p (me_var (pv 3))) (me_p me_int)) (ma_cons me_str (ma_cons me_int ma_nil)))) ma_nil))))))) (mp_var (pv 6)))) mpa_nil)))))))))))))))
theorem ok_law (T : Txt A P w K mg) : FnOk P w K mg base (L2N.CX P w) 43 A.f_law A.d_law ["script"] (spF K (ca A) f_law) := by
  have S : FnScope ["script", "plan", "size", "counts", "n", "scenes", "order", "state", "wrong", "clashing", "k", "m", "device", "handed", "found", "bad", "row", "which"] ["script"] (defScope st_law) := ⟨rfl, rfl, rfl, by decide +kernel, rfl, by decide +kernel, by decide +kernel⟩
  refine fn_ok (k := 42) (N := ["script", "plan", "size", "counts", "n", "scenes", "order", "state", "wrong", "clashing", "k", "m", "device", "handed", "found", "bad", "row", "which"]) T.F_law S rfl rfl (by decide) fun cdv Ar outer s H E hr tk hp => ?_
  exact (mss_cons (ms_setCall (i := 1) S.nd rfl (by first | exact Or.inl rfl | exact Or.inr rfl) (mc_call (ok__law_row T) (hr.mono (by omega)) rfl T.m__law_row T.k__law_row T.n__law_row tk (ma_cons (mc_e (mc_call (ok__law_cell T) (hr.mono (by omega)) rfl T.m__law_cell T.k__law_cell T.n__law_cell tk (ma_cons (me_var (pv 0)) (ma_cons me_int ma_nil)))) (ma_cons (mf_e (mf_lst (ma_cons me_int (ma_cons me_int (ma_cons me_int (ma_cons me_int (ma_cons me_int (ma_cons me_int (ma_cons me_int (ma_cons me_int ma_nil)))))))))) ma_nil))))
  (mss_cons (ms_set (i := 2) S.nd rfl (by first | exact Or.inl rfl | exact Or.inr rfl) (me_op op2_add (me_p me_int) (me_p (me_ix (hu64 hr) (me_p (mc_e (mc_call (ok__law_row T) (hr.mono (by omega)) rfl T.m__law_row T.k__law_row T.n__law_row tk (ma_cons (mc_e (mc_call (ok__law_cell T) (hr.mono (by omega)) rfl T.m__law_cell T.k__law_cell T.n__law_cell tk (ma_cons (me_var (pv 0)) (ma_cons me_int ma_nil)))) (ma_cons (mf_e (mf_lst (ma_cons me_int ma_nil))) ma_nil))))) (me_p me_int) (fun _ _ => rfl)))))
  (mss_cons (ms_set (i := 3) S.nd rfl (by first | exact Or.inl rfl | exact Or.inr rfl) (me_ty bc_tuple rfl T.b_tuple rfl (mpa_cons (me_p (mf_e (mf_comp (own := [("n", 4)]) rfl S.nd (mi_seq (me_sl (me_p (mc_e (mc_call (ok__law_row T) (hr.mono (by omega)) rfl T.m__law_row T.k__law_row T.n__law_row tk (ma_cons (mc_e (mc_call (ok__law_cell T) (hr.mono (by omega)) rfl T.m__law_cell T.k__law_cell T.n__law_cell tk (ma_cons (me_var (pv 0)) (ma_cons me_int ma_nil)))) (ma_cons (mf_e (mf_lst (ma_cons me_int (ma_cons me_int (ma_cons me_int (ma_cons me_int (ma_cons me_int ma_nil))))))) ma_nil))))) (mo_some me_int) (mo_some (me_op op2_add (me_p me_int) (me_p (me_var (pv 2))))))) (blkOk_by (by show blkC ["script", "plan", "size", "counts", "n", "scenes", "order", "state", "wrong", "clashing", "k", "m", "device", "handed", "found", "bad", "row", "which"] (defScope st_law) _ _ = true; decide +kernel)) rfl (fun _ _ _ _ _ => (mg_name (i := 4) S.nd rfl (by first | exact Or.inl rfl | exact Or.inr rfl) (by decide))) (fun _ _ _ _ _ => mts_nil) (fun _ _ _ _ _ => (me_op op2_add (me_p me_int) (me_p (me_var (pv 4)))))))) mpa_nil)))
  (mss_cons (ms_freeze (ms_setCall (i := 5) S.nd rfl (by first | exact Or.inl rfl | exact Or.inr rfl) (mc_call (ok__law_scenes T) (hr.mono (by omega)) rfl T.m__law_scenes T.k__law_scenes T.n__law_scenes tk (ma_cons (me_var (pv 0)) (ma_cons (me_var (pv 3)) (ma_cons (me_var (pv 1)) ma_nil))))))
  (mss_cons (ms_setCall (i := 6) S.nd rfl (by first | exact Or.inl rfl | exact Or.inr rfl) (mc_call (ok__law_order T) (hr.mono (by omega)) rfl T.m__law_order T.k__law_order T.n__law_order tk (ma_cons (mc_e (mc_call (ok__law_cell T) (hr.mono (by omega)) rfl T.m__law_cell T.k__law_cell T.n__law_cell tk (ma_cons (me_var (pv 0)) (ma_cons me_int ma_nil)))) (ma_cons (me_b bc_len rfl T.b_len rfl (mpa_cons (mp_var (pv 5)) mpa_nil)) ma_nil))))
  (mss_cons (ms_set (i := 7) S.nd rfl (by first | exact Or.inl rfl | exact Or.inr rfl) (me_ty bc_tuple rfl T.b_tuple rfl (mpa_cons (me_p (mc_e (mc_call (ok__law_row T) (hr.mono (by omega)) rfl T.m__law_row T.k__law_row T.n__law_row tk (ma_cons (mc_e (mc_call (ok__law_cell T) (hr.mono (by omega)) rfl T.m__law_cell T.k__law_cell T.n__law_cell tk (ma_cons (me_var (pv 0)) (ma_cons me_int ma_nil)))) (ma_cons (mf_e (mf_ty bf_list rfl T.b_list rfl (mpa_cons (me_p (me_var (pv 3))) mpa_nil))) ma_nil))))) mpa_nil)))
  (mss_cons (ms_setF (i := 8) S.nd rfl (by first | exact Or.inl rfl | exact Or.inr rfl) (mf_ty bf_list rfl T.b_list rfl (mpa_cons (me_p (me_var (pv 7))) mpa_nil)))
  (mss_cons (ms_if (mt_cmp (op2_lt (hu2 hr)) (me_p (me_ix (hu64 hr) (mp_var (pv 1)) (me_p me_int) (fun _ _ => rfl))) (me_p me_int) rfl) (mss_one (ms_setIx (i := 8) (ps_asg (me_ix (hu64 hr) (me_p (mf_e (mf_lst (ma_cons (me_neg me_int) (ma_cons (me_ix (hu64 hr) (me_p (me_var (pv 3))) (me_p (me_op op2_mod (me_p (me_ix (hu64 hr) (mp_var (pv 1)) (me_p me_int) (fun _ _ => rfl))) (me_p (me_var (pv 2))))) (fun _ _ => rfl)) ma_nil))))) (me_p (me_ix (hu64 hr) (mp_var (pv 1)) (me_p me_int) (fun _ _ => rfl))) (fun _ _ => rfl)) (pg_sub (pv 8) (me_p (me_op op2_mod (me_p (me_ix (hu64 hr) (mp_var (pv 1)) (me_p me_int) (fun _ _ => rfl))) (me_p (me_var (pv 2))))) set_list)))) (mss_one (ms_if (mt_cmp (op2_eq (hu64 hr)) (me_p (me_ix (hu64 hr) (mp_var (pv 1)) (me_p me_int) (fun _ _ => rfl))) (me_p me_int) rfl) (mss_one (ms_dropPop (i := 8) (mpop0 (pe_bm0 PySem.F.plainAttrs_list PySem.F.slot_list_pop PySem.F.type_list_pop mt_pop (pv 8))))) (mss_one (ms_append (i := 8) (pe_bm PySem.F.plainAttrs_list PySem.F.slot_list_append PySem.F.type_list_append mt_append (pv 8) (pa_cons me_int pa_nil)))))))
  (mss_cons (ms_set (i := 9) S.nd rfl (by first | exact Or.inl rfl | exact Or.inr rfl) me_bl)
  (mss_cons (ms_for (vs := [10]) hp rfl (mi_range1 rfl T.b_range (ma_cons (me_b bc_len rfl T.b_len rfl (mpa_cons (mp_var (pv 5)) mpa_nil)) ma_nil)) (mg_name (i := 10) S.nd rfl (by first | exact Or.inl rfl | exact Or.inr rfl) (by decide)) (mss_one (ms_for (vs := [11]) hp rfl (mi_range1 rfl T.b_range (ma_cons (me_var (pv 10)) ma_nil)) (mg_name (i := 11) S.nd rfl (by first | exact Or.inl rfl | exact Or.inr rfl) (by decide)) (mss_cons (ms_setCall (i := 12) S.nd rfl (by first | exact Or.inl rfl | exact Or.inr rfl) (mc_call (ok__law_parting T) (hr.mono (by omega)) rfl T.m__law_parting T.k__law_parting T.n__law_parting tk (ma_cons (me_var (pv 3)) (ma_cons (me_ix (hu64 hr) (mp_var (pv 5)) (me_p (me_var (pv 11))) (fun _ _ => rfl)) (ma_cons (me_ix (hu64 hr) (mp_var (pv 5)) (me_p (me_var (pv 10))) (fun _ _ => rfl)) ma_nil)))))
  (mss_cons (ms_freeze (ms_if (mt_not (mt_val (mc_e (mc_call (ok__law_pair_holds T) (hr.mono (by omega)) rfl T.m__law_pair_holds T.k__law_pair_holds T.n__law_pair_holds tk (ma_cons (me_var (pv 3)) (ma_cons (me_ix (hu64 hr) (mp_var (pv 5)) (me_p (me_var (pv 11))) (fun _ _ => rfl)) (ma_cons (me_ix (hu64 hr) (mp_var (pv 5)) (me_p (me_var (pv 10))) (fun _ _ => rfl)) (ma_cons (me_var (pv 12)) (ma_cons (me_var (pv 7)) (ma_cons (me_ty bc_tuple rfl T.b_tuple rfl (mpa_cons (mp_var (pv 8)) mpa_nil)) ma_nil)))))))))) (mss_one (ms_ret me_bl)) mss_nil))
  (mss_one (ms_set (i := 9) S.nd rfl (by first | exact Or.inl rfl | exact Or.inr rfl) (me_or (me_var (pv 9)) (me_one (me_cmp (op2_lt (hu2 hr)) (mp_var (pv 12)) (me_p me_int) rfl))))))))))
  (mss_cons (ms_setF (i := 13) S.nd rfl (by first | exact Or.inl rfl | exact Or.inr rfl) (mf_ty bf_list rfl T.b_list rfl (mpa_cons (mp_var (pv 5)) mpa_nil)))
  (mss_cons (ms_if (mt_cmp (op2_eq (hu64 hr)) (me_p (me_ix (hu64 hr) (mp_var (pv 1)) (me_p me_int) (fun _ _ => rfl))) (me_p me_int) rfl) (mss_one (ms_set (i := 13) S.nd rfl (by first | exact Or.inl rfl | exact Or.inr rfl) (me_ty bc_tuple rfl T.b_tuple rfl (mpa_cons (mp_var (pv 5)) mpa_nil)))) mss_nil)
  (mss_cons (ms_freeze (ms_setCall (i := 14) S.nd rfl (by first | exact Or.inl rfl | exact Or.inr rfl) (mc_call (ok_joined T) (hr.mono (by omega)) rfl T.m_joined T.k_joined T.n_joined tk (ma_cons (me_var (pv 3)) (ma_cons (me_var (pv 13)) ma_nil)))))
  (mss_cons (ms_if (mt_w (mw_or (mt_cmp (op2_ne (hu64 hr)) (me_p (mf_e (mf_ty bf_list rfl T.b_list rfl (mpa_cons (mp_var (pv 13)) mpa_nil)))) (mp_var (pv 5)) rfl) (mw_or1 (mt_cmp (op2_ne (hu64 hr)) (me_p (me_cmp op2_is (mp_var (pv 14)) (me_p me_non) rfl)) (me_p (me_var (pv 9))) rfl)))) (mss_one (ms_ret me_bl)) mss_nil)
  (mss_cons (ms_freeze (ms_freeze (ms_freeze (ms_if (mt_w (mw_and (mt_cmp op2_isNot (mp_var (pv 14)) (me_p me_non) rfl) (mw_and1 (mt_not (mt_val (mc_e (mc_call (ok__law_joined_holds T) (hr.mono (by omega)) rfl T.m__law_joined_holds T.k__law_joined_holds T.n__law_joined_holds tk (ma_cons (me_var (pv 3)) (ma_cons (me_var (pv 5)) (ma_cons (me_var (pv 14)) (ma_cons (me_var (pv 6)) ma_nil))))))))))) (mss_one (ms_ret me_bl)) mss_nil))))
  (mss_cons (ms_setCall (i := 15) S.nd rfl (by first | exact Or.inl rfl | exact Or.inr rfl) (mc_call (ok__law_spoilt T) (hr.mono (by omega)) rfl T.m__law_spoilt T.k__law_spoilt T.n__law_spoilt tk (ma_cons (me_var (pv 3)) (ma_cons (mc_e (mc_call (ok__law_scene T) (hr.mono (by omega)) rfl T.m__law_scene T.k__law_scene T.n__law_scene tk (ma_cons (mc_e (mc_call (ok__law_cell T) (hr.mono (by omega)) rfl T.m__law_cell T.k__law_cell T.n__law_cell tk (ma_cons (me_var (pv 0)) (ma_cons me_int ma_nil)))) (ma_cons (me_var (pv 3)) ma_nil)))) (ma_cons (me_ix (hu64 hr) (mp_var (pv 1)) (me_p me_int) (fun _ _ => rfl)) (ma_cons (me_op op2_mod (me_p (me_ix (hu64 hr) (mp_var (pv 1)) (me_p me_int) (fun _ _ => rfl))) (me_p (me_var (pv 2)))) ma_nil))))))
  (mss_cons (ms_freeze (ms_setF (i := 16) S.nd rfl (by first | exact Or.inl rfl | exact Or.inr rfl) (mf_op of_cat (me_p (me_op op2_add (me_p (me_sl (mp_var (pv 5)) mo_no (mo_some (me_op op2_mod (me_p (me_ix (hu64 hr) (mp_var (pv 1)) (me_p me_int) (fun _ _ => rfl))) (me_p (me_op op2_add (me_p (me_b bc_len rfl T.b_len rfl (mpa_cons (mp_var (pv 5)) mpa_nil))) (me_p me_int))))))) (me_p (mf_e (mf_lst (ma_cons (me_var (pv 15)) ma_nil)))))) (me_p (me_sl (mp_var (pv 5)) (mo_some (me_op op2_mod (me_p (me_ix (hu64 hr) (mp_var (pv 1)) (me_p me_int) (fun _ _ => rfl))) (me_p (me_op op2_add (me_p (me_b bc_len rfl T.b_len rfl (mpa_cons (mp_var (pv 5)) mpa_nil))) (me_p me_int))))) mo_no)))))
  (mss_cons (ms_for (vs := [17]) hp rfl (mi_range1 rfl T.b_range (ma_cons me_int ma_nil)) (mg_name (i := 17) S.nd rfl (by first | exact Or.inl rfl | exact Or.inr rfl) (by decide)) (mss_one (ms_freeze (ms_freeze (ms_if (mt_not (mt_val (mc_e (mc_call (ok__law_refused T) (hr.mono (by omega)) rfl T.m__law_refused T.k__law_refused T.n__law_refused tk (ma_cons (me_var (pv 3)) (ma_cons (me_var (pv 17)) (ma_cons (mc_e (mc_call (ok__law_scene T) (hr.mono (by omega)) rfl T.m__law_scene T.k__law_scene T.n__law_scene tk (ma_cons (mc_e (mc_call (ok__law_cell T) (hr.mono (by omega)) rfl T.m__law_cell T.k__law_cell T.n__law_cell tk (ma_cons (me_var (pv 0)) (ma_cons me_int ma_nil)))) (ma_cons (me_var (pv 3)) ma_nil)))) (ma_cons (me_var (pv 15)) (ma_cons (me_var (pv 16)) ma_nil))))))))) (mss_one (ms_ret me_bl)) mss_nil)))))
  (mss_one (ms_ret me_bl))))))))))))))))))))
end
end Lw
namespace Lw
open M PySem PySem.Spec PyProof.Rows L2

theorem all_mk {P : Program} {w : World} {K : PySem.W.Frag} {h : Heap} {mg : Str → Option Value} {fa : Addr} (X : K.In h) (G : h.Ns mainGlobals mg) (hfa : mg "law" = some (.ref fa))
  {r__law_cell : Addr} {oc__law_cell kV__law_cell dc__law_cell pm__law_cell cd__law_cell ct__law_cell : Value} {od__law_cell an__law_cell : Option Addr} {sl__law_cell : Array (Option Value)}
  {r__law_done : Addr} {oc__law_done kV__law_done dc__law_done pm__law_done cd__law_done ct__law_done : Value} {od__law_done an__law_done : Option Addr} {sl__law_done : Array (Option Value)}
  {r__law_integer : Addr} {oc__law_integer kV__law_integer dc__law_integer pm__law_integer cd__law_integer ct__law_integer : Value} {od__law_integer an__law_integer : Option Addr} {sl__law_integer : Array (Option Value)}
  {r__law_is_scene : Addr} {oc__law_is_scene kV__law_is_scene dc__law_is_scene pm__law_is_scene cd__law_is_scene ct__law_is_scene : Value} {od__law_is_scene an__law_is_scene : Option Addr} {sl__law_is_scene : Array (Option Value)}
  {r__law_joined_holds : Addr} {oc__law_joined_holds kV__law_joined_holds dc__law_joined_holds pm__law_joined_holds cd__law_joined_holds ct__law_joined_holds : Value} {od__law_joined_holds an__law_joined_holds : Option Addr} {sl__law_joined_holds : Array (Option Value)}
  {r__law_row : Addr} {oc__law_row kV__law_row dc__law_row pm__law_row cd__law_row ct__law_row : Value} {od__law_row an__law_row : Option Addr} {sl__law_row : Array (Option Value)}
  {r__law_order : Addr} {oc__law_order kV__law_order dc__law_order pm__law_order cd__law_order ct__law_order : Value} {od__law_order an__law_order : Option Addr} {sl__law_order : Array (Option Value)}
  {r__law_plain : Addr} {oc__law_plain kV__law_plain dc__law_plain pm__law_plain cd__law_plain ct__law_plain : Value} {od__law_plain an__law_plain : Option Addr} {sl__law_plain : Array (Option Value)}
  {r_act_table : Addr} {oc_act_table kV_act_table dc_act_table pm_act_table cd_act_table ct_act_table : Value} {od_act_table an_act_table : Option Addr} {sl_act_table : Array (Option Value)}
  {r_acts_clash : Addr} {oc_acts_clash kV_acts_clash dc_acts_clash pm_acts_clash cd_acts_clash ct_acts_clash : Value} {od_acts_clash an_acts_clash : Option Addr} {sl_acts_clash : Array (Option Value)}
  {r_clash_device : Addr} {oc_clash_device kV_clash_device dc_clash_device pm_clash_device cd_clash_device ct_clash_device : Value} {od_clash_device an_clash_device : Option Addr} {sl_clash_device : Array (Option Value)}
  {r_is_integer : Addr} {oc_is_integer kV_is_integer dc_is_integer pm_is_integer cd_is_integer ct_is_integer : Value} {od_is_integer an_is_integer : Option Addr} {sl_is_integer : Array (Option Value)}
  {r_is_act : Addr} {oc_is_act kV_is_act dc_is_act pm_is_act cd_is_act ct_is_act : Value} {od_is_act an_is_act : Option Addr} {sl_is_act : Array (Option Value)}
  {r_is_scene : Addr} {oc_is_scene kV_is_scene dc_is_scene pm_is_scene cd_is_scene ct_is_scene : Value} {od_is_scene an_is_scene : Option Addr} {sl_is_scene : Array (Option Value)}
  {r_demand_scene : Addr} {oc_demand_scene kV_demand_scene dc_demand_scene pm_demand_scene cd_demand_scene ct_demand_scene : Value} {od_demand_scene an_demand_scene : Option Addr} {sl_demand_scene : Array (Option Value)}
  {r_clash : Addr} {oc_clash kV_clash dc_clash pm_clash cd_clash ct_clash : Value} {od_clash an_clash : Option Addr} {sl_clash : Array (Option Value)}
  {r_is_state : Addr} {oc_is_state kV_is_state dc_is_state pm_is_state cd_is_state ct_is_state : Value} {od_is_state an_is_state : Option Addr} {sl_is_state : Array (Option Value)}
  {r_scene_result : Addr} {oc_scene_result kV_scene_result dc_scene_result pm_scene_result cd_scene_result ct_scene_result : Value} {od_scene_result an_scene_result : Option Addr} {sl_scene_result : Array (Option Value)}
  {r_shows_clash : Addr} {oc_shows_clash kV_shows_clash dc_shows_clash pm_shows_clash cd_shows_clash ct_shows_clash : Value} {od_shows_clash an_shows_clash : Option Addr} {sl_shows_clash : Array (Option Value)}
  {r__law_pair_holds : Addr} {oc__law_pair_holds kV__law_pair_holds dc__law_pair_holds pm__law_pair_holds cd__law_pair_holds ct__law_pair_holds : Value} {od__law_pair_holds an__law_pair_holds : Option Addr} {sl__law_pair_holds : Array (Option Value)}
  {r__law_parting : Addr} {oc__law_parting kV__law_parting dc__law_parting pm__law_parting cd__law_parting ct__law_parting : Value} {od__law_parting an__law_parting : Option Addr} {sl__law_parting : Array (Option Value)}
  {r_scene_of : Addr} {oc_scene_of kV_scene_of dc_scene_of pm_scene_of cd_scene_of ct_scene_of : Value} {od_scene_of an_scene_of : Option Addr} {sl_scene_of : Array (Option Value)}
  {r_scene_then : Addr} {oc_scene_then kV_scene_then dc_scene_then pm_scene_then cd_scene_then ct_scene_then : Value} {od_scene_then an_scene_then : Option Addr} {sl_scene_then : Array (Option Value)}
  {r_joined : Addr} {oc_joined kV_joined dc_joined pm_joined cd_joined ct_joined : Value} {od_joined an_joined : Option Addr} {sl_joined : Array (Option Value)}
  {r__law_refused : Addr} {oc__law_refused kV__law_refused dc__law_refused pm__law_refused cd__law_refused ct__law_refused : Value} {od__law_refused an__law_refused : Option Addr} {sl__law_refused : Array (Option Value)}
  {r__law_scene : Addr} {oc__law_scene kV__law_scene dc__law_scene pm__law_scene cd__law_scene ct__law_scene : Value} {od__law_scene an__law_scene : Option Addr} {sl__law_scene : Array (Option Value)}
  {r__law_changed : Addr} {oc__law_changed kV__law_changed dc__law_changed pm__law_changed cd__law_changed ct__law_changed : Value} {od__law_changed an__law_changed : Option Addr} {sl__law_changed : Array (Option Value)}
  {r__law_tame : Addr} {oc__law_tame kV__law_tame dc__law_tame pm__law_tame cd__law_tame ct__law_tame : Value} {od__law_tame an__law_tame : Option Addr} {sl__law_tame : Array (Option Value)}
  {r__law_scenes : Addr} {oc__law_scenes kV__law_scenes dc__law_scenes pm__law_scenes cd__law_scenes ct__law_scenes : Value} {od__law_scenes an__law_scenes : Option Addr} {sl__law_scenes : Array (Option Value)}
  {r__law_spoilt : Addr} {oc__law_spoilt kV__law_spoilt dc__law_spoilt pm__law_spoilt cd__law_spoilt ct__law_spoilt : Value} {od__law_spoilt an__law_spoilt : Option Addr} {sl__law_spoilt : Array (Option Value)}
  {r_law : Addr} {oc_law kV_law dc_law pm_law cd_law ct_law : Value} {od_law an_law : Option Addr} {sl_law : Array (Option Value)}
  {e_HouseError : Addr}
  {e_BadState : Addr}
  {e_BadScene : Addr}
  (a__law_cell : PySem.W.nsIn K mainGlobals "_law_cell" = some (some (.ref r__law_cell)))
  (l__law_cell : K.lookup r__law_cell = some ⟨oc__law_cell, od__law_cell, .func (PySem.W.fnOf "_law_cell" "_law_cell" (defArgs st__law_cell) (defBody st__law_cell) (defScope st__law_cell) .none kV__law_cell dc__law_cell pm__law_cell an__law_cell cd__law_cell ct__law_cell), sl__law_cell⟩)
  (c__law_cell : PySem.W.codeIn K cd__law_cell "_law_cell" = true)
  (k__law_cell : PySem.W.keepIn K (.ref r__law_cell) = true)
  (a__law_done : PySem.W.nsIn K mainGlobals "_law_done" = some (some (.ref r__law_done)))
  (l__law_done : K.lookup r__law_done = some ⟨oc__law_done, od__law_done, .func (PySem.W.fnOf "_law_done" "_law_done" (defArgs st__law_done) (defBody st__law_done) (defScope st__law_done) .none kV__law_done dc__law_done pm__law_done an__law_done cd__law_done ct__law_done), sl__law_done⟩)
  (c__law_done : PySem.W.codeIn K cd__law_done "_law_done" = true)
  (k__law_done : PySem.W.keepIn K (.ref r__law_done) = true)
  (a__law_integer : PySem.W.nsIn K mainGlobals "_law_integer" = some (some (.ref r__law_integer)))
  (l__law_integer : K.lookup r__law_integer = some ⟨oc__law_integer, od__law_integer, .func (PySem.W.fnOf "_law_integer" "_law_integer" (defArgs st__law_integer) (defBody st__law_integer) (defScope st__law_integer) .none kV__law_integer dc__law_integer pm__law_integer an__law_integer cd__law_integer ct__law_integer), sl__law_integer⟩)
  (c__law_integer : PySem.W.codeIn K cd__law_integer "_law_integer" = true)
  (k__law_integer : PySem.W.keepIn K (.ref r__law_integer) = true)
  (a__law_is_scene : PySem.W.nsIn K mainGlobals "_law_is_scene" = some (some (.ref r__law_is_scene)))
  (l__law_is_scene : K.lookup r__law_is_scene = some ⟨oc__law_is_scene, od__law_is_scene, .func (PySem.W.fnOf "_law_is_scene" "_law_is_scene" (defArgs st__law_is_scene) (defBody st__law_is_scene) (defScope st__law_is_scene) .none kV__law_is_scene dc__law_is_scene pm__law_is_scene an__law_is_scene cd__law_is_scene ct__law_is_scene), sl__law_is_scene⟩)
  (c__law_is_scene : PySem.W.codeIn K cd__law_is_scene "_law_is_scene" = true)
  (k__law_is_scene : PySem.W.keepIn K (.ref r__law_is_scene) = true)
  (a__law_joined_holds : PySem.W.nsIn K mainGlobals "_law_joined_holds" = some (some (.ref r__law_joined_holds)))
  (l__law_joined_holds : K.lookup r__law_joined_holds = some ⟨oc__law_joined_holds, od__law_joined_holds, .func (PySem.W.fnOf "_law_joined_holds" "_law_joined_holds" (defArgs st__law_joined_holds) (defBody st__law_joined_holds) (defScope st__law_joined_holds) .none kV__law_joined_holds dc__law_joined_holds pm__law_joined_holds an__law_joined_holds cd__law_joined_holds ct__law_joined_holds), sl__law_joined_holds⟩)
  (c__law_joined_holds : PySem.W.codeIn K cd__law_joined_holds "_law_joined_holds" = true)
  (k__law_joined_holds : PySem.W.keepIn K (.ref r__law_joined_holds) = true)
  (a__law_row : PySem.W.nsIn K mainGlobals "_law_row" = some (some (.ref r__law_row)))
  (l__law_row : K.lookup r__law_row = some ⟨oc__law_row, od__law_row, .func (PySem.W.fnOf "_law_row" "_law_row" (defArgs st__law_row) (defBody st__law_row) (defScope st__law_row) .none kV__law_row dc__law_row pm__law_row an__law_row cd__law_row ct__law_row), sl__law_row⟩)
  (c__law_row : PySem.W.codeIn K cd__law_row "_law_row" = true)
  (k__law_row : PySem.W.keepIn K (.ref r__law_row) = true)
  (a__law_order : PySem.W.nsIn K mainGlobals "_law_order" = some (some (.ref r__law_order)))
  (l__law_order : K.lookup r__law_order = some ⟨oc__law_order, od__law_order, .func (PySem.W.fnOf "_law_order" "_law_order" (defArgs st__law_order) (defBody st__law_order) (defScope st__law_order) .none kV__law_order dc__law_order pm__law_order an__law_order cd__law_order ct__law_order), sl__law_order⟩)
  (c__law_order : PySem.W.codeIn K cd__law_order "_law_order" = true)
  (k__law_order : PySem.W.keepIn K (.ref r__law_order) = true)
  (a__law_plain : PySem.W.nsIn K mainGlobals "_law_plain" = some (some (.ref r__law_plain)))
  (l__law_plain : K.lookup r__law_plain = some ⟨oc__law_plain, od__law_plain, .func (PySem.W.fnOf "_law_plain" "_law_plain" (defArgs st__law_plain) (defBody st__law_plain) (defScope st__law_plain) .none kV__law_plain dc__law_plain pm__law_plain an__law_plain cd__law_plain ct__law_plain), sl__law_plain⟩)
  (c__law_plain : PySem.W.codeIn K cd__law_plain "_law_plain" = true)
  (k__law_plain : PySem.W.keepIn K (.ref r__law_plain) = true)
  (a_act_table : PySem.W.nsIn K mainGlobals "act_table" = some (some (.ref r_act_table)))
  (l_act_table : K.lookup r_act_table = some ⟨oc_act_table, od_act_table, .func (PySem.W.fnOf "act_table" "act_table" (defArgs st_act_table) (defBody st_act_table) (defScope st_act_table) .none kV_act_table dc_act_table pm_act_table an_act_table cd_act_table ct_act_table), sl_act_table⟩)
  (c_act_table : PySem.W.codeIn K cd_act_table "act_table" = true)
  (k_act_table : PySem.W.keepIn K (.ref r_act_table) = true)
  (a_acts_clash : PySem.W.nsIn K mainGlobals "acts_clash" = some (some (.ref r_acts_clash)))
  (l_acts_clash : K.lookup r_acts_clash = some ⟨oc_acts_clash, od_acts_clash, .func (PySem.W.fnOf "acts_clash" "acts_clash" (defArgs st_acts_clash) (defBody st_acts_clash) (defScope st_acts_clash) .none kV_acts_clash dc_acts_clash pm_acts_clash an_acts_clash cd_acts_clash ct_acts_clash), sl_acts_clash⟩)
  (c_acts_clash : PySem.W.codeIn K cd_acts_clash "acts_clash" = true)
  (k_acts_clash : PySem.W.keepIn K (.ref r_acts_clash) = true)
  (a_clash_device : PySem.W.nsIn K mainGlobals "clash_device" = some (some (.ref r_clash_device)))
  (l_clash_device : K.lookup r_clash_device = some ⟨oc_clash_device, od_clash_device, .func (PySem.W.fnOf "clash_device" "clash_device" (defArgs st_clash_device) (defBody st_clash_device) (defScope st_clash_device) .none kV_clash_device dc_clash_device pm_clash_device an_clash_device cd_clash_device ct_clash_device), sl_clash_device⟩)
  (c_clash_device : PySem.W.codeIn K cd_clash_device "clash_device" = true)
  (k_clash_device : PySem.W.keepIn K (.ref r_clash_device) = true)
  (a_is_integer : PySem.W.nsIn K mainGlobals "is_integer" = some (some (.ref r_is_integer)))
  (l_is_integer : K.lookup r_is_integer = some ⟨oc_is_integer, od_is_integer, .func (PySem.W.fnOf "is_integer" "is_integer" (defArgs st_is_integer) (defBody st_is_integer) (defScope st_is_integer) .none kV_is_integer dc_is_integer pm_is_integer an_is_integer cd_is_integer ct_is_integer), sl_is_integer⟩)
  (c_is_integer : PySem.W.codeIn K cd_is_integer "is_integer" = true)
  (k_is_integer : PySem.W.keepIn K (.ref r_is_integer) = true)
  (a_is_act : PySem.W.nsIn K mainGlobals "is_act" = some (some (.ref r_is_act)))
  (l_is_act : K.lookup r_is_act = some ⟨oc_is_act, od_is_act, .func (PySem.W.fnOf "is_act" "is_act" (defArgs st_is_act) (defBody st_is_act) (defScope st_is_act) .none kV_is_act dc_is_act pm_is_act an_is_act cd_is_act ct_is_act), sl_is_act⟩)
  (c_is_act : PySem.W.codeIn K cd_is_act "is_act" = true)
  (k_is_act : PySem.W.keepIn K (.ref r_is_act) = true)
  (a_is_scene : PySem.W.nsIn K mainGlobals "is_scene" = some (some (.ref r_is_scene)))
  (l_is_scene : K.lookup r_is_scene = some ⟨oc_is_scene, od_is_scene, .func (PySem.W.fnOf "is_scene" "is_scene" (defArgs st_is_scene) (defBody st_is_scene) (defScope st_is_scene) .none kV_is_scene dc_is_scene pm_is_scene an_is_scene cd_is_scene ct_is_scene), sl_is_scene⟩)
  (c_is_scene : PySem.W.codeIn K cd_is_scene "is_scene" = true)
  (k_is_scene : PySem.W.keepIn K (.ref r_is_scene) = true)
  (a_demand_scene : PySem.W.nsIn K mainGlobals "demand_scene" = some (some (.ref r_demand_scene)))
  (l_demand_scene : K.lookup r_demand_scene = some ⟨oc_demand_scene, od_demand_scene, .func (PySem.W.fnOf "demand_scene" "demand_scene" (defArgs st_demand_scene) (defBody st_demand_scene) (defScope st_demand_scene) .none kV_demand_scene dc_demand_scene pm_demand_scene an_demand_scene cd_demand_scene ct_demand_scene), sl_demand_scene⟩)
  (c_demand_scene : PySem.W.codeIn K cd_demand_scene "demand_scene" = true)
  (k_demand_scene : PySem.W.keepIn K (.ref r_demand_scene) = true)
  (a_clash : PySem.W.nsIn K mainGlobals "clash" = some (some (.ref r_clash)))
  (l_clash : K.lookup r_clash = some ⟨oc_clash, od_clash, .func (PySem.W.fnOf "clash" "clash" (defArgs st_clash) (defBody st_clash) (defScope st_clash) .none kV_clash dc_clash pm_clash an_clash cd_clash ct_clash), sl_clash⟩)
  (c_clash : PySem.W.codeIn K cd_clash "clash" = true)
  (k_clash : PySem.W.keepIn K (.ref r_clash) = true)
  (a_is_state : PySem.W.nsIn K mainGlobals "is_state" = some (some (.ref r_is_state)))
  (l_is_state : K.lookup r_is_state = some ⟨oc_is_state, od_is_state, .func (PySem.W.fnOf "is_state" "is_state" (defArgs st_is_state) (defBody st_is_state) (defScope st_is_state) .none kV_is_state dc_is_state pm_is_state an_is_state cd_is_state ct_is_state), sl_is_state⟩)
  (c_is_state : PySem.W.codeIn K cd_is_state "is_state" = true)
  (k_is_state : PySem.W.keepIn K (.ref r_is_state) = true)
  (a_scene_result : PySem.W.nsIn K mainGlobals "scene_result" = some (some (.ref r_scene_result)))
  (l_scene_result : K.lookup r_scene_result = some ⟨oc_scene_result, od_scene_result, .func (PySem.W.fnOf "scene_result" "scene_result" (defArgs st_scene_result) (defBody st_scene_result) (defScope st_scene_result) .none kV_scene_result dc_scene_result pm_scene_result an_scene_result cd_scene_result ct_scene_result), sl_scene_result⟩)
  (c_scene_result : PySem.W.codeIn K cd_scene_result "scene_result" = true)
  (k_scene_result : PySem.W.keepIn K (.ref r_scene_result) = true)
  (a_shows_clash : PySem.W.nsIn K mainGlobals "shows_clash" = some (some (.ref r_shows_clash)))
  (l_shows_clash : K.lookup r_shows_clash = some ⟨oc_shows_clash, od_shows_clash, .func (PySem.W.fnOf "shows_clash" "shows_clash" (defArgs st_shows_clash) (defBody st_shows_clash) (defScope st_shows_clash) .none kV_shows_clash dc_shows_clash pm_shows_clash an_shows_clash cd_shows_clash ct_shows_clash), sl_shows_clash⟩)
  (c_shows_clash : PySem.W.codeIn K cd_shows_clash "shows_clash" = true)
  (k_shows_clash : PySem.W.keepIn K (.ref r_shows_clash) = true)
  (a__law_pair_holds : PySem.W.nsIn K mainGlobals "_law_pair_holds" = some (some (.ref r__law_pair_holds)))
  (l__law_pair_holds : K.lookup r__law_pair_holds = some ⟨oc__law_pair_holds, od__law_pair_holds, .func (PySem.W.fnOf "_law_pair_holds" "_law_pair_holds" (defArgs st__law_pair_holds) (defBody st__law_pair_holds) (defScope st__law_pair_holds) .none kV__law_pair_holds dc__law_pair_holds pm__law_pair_holds an__law_pair_holds cd__law_pair_holds ct__law_pair_holds), sl__law_pair_holds⟩)
  (c__law_pair_holds : PySem.W.codeIn K cd__law_pair_holds "_law_pair_holds" = true)
  (k__law_pair_holds : PySem.W.keepIn K (.ref r__law_pair_holds) = true)
  (a__law_parting : PySem.W.nsIn K mainGlobals "_law_parting" = some (some (.ref r__law_parting)))
  (l__law_parting : K.lookup r__law_parting = some ⟨oc__law_parting, od__law_parting, .func (PySem.W.fnOf "_law_parting" "_law_parting" (defArgs st__law_parting) (defBody st__law_parting) (defScope st__law_parting) .none kV__law_parting dc__law_parting pm__law_parting an__law_parting cd__law_parting ct__law_parting), sl__law_parting⟩)
  (c__law_parting : PySem.W.codeIn K cd__law_parting "_law_parting" = true)
  (k__law_parting : PySem.W.keepIn K (.ref r__law_parting) = true)
  (a_scene_of : PySem.W.nsIn K mainGlobals "scene_of" = some (some (.ref r_scene_of)))
  (l_scene_of : K.lookup r_scene_of = some ⟨oc_scene_of, od_scene_of, .func (PySem.W.fnOf "scene_of" "scene_of" (defArgs st_scene_of) (defBody st_scene_of) (defScope st_scene_of) .none kV_scene_of dc_scene_of pm_scene_of an_scene_of cd_scene_of ct_scene_of), sl_scene_of⟩)
  (c_scene_of : PySem.W.codeIn K cd_scene_of "scene_of" = true)
  (k_scene_of : PySem.W.keepIn K (.ref r_scene_of) = true)
  (a_scene_then : PySem.W.nsIn K mainGlobals "scene_then" = some (some (.ref r_scene_then)))
  (l_scene_then : K.lookup r_scene_then = some ⟨oc_scene_then, od_scene_then, .func (PySem.W.fnOf "scene_then" "scene_then" (defArgs st_scene_then) (defBody st_scene_then) (defScope st_scene_then) .none kV_scene_then dc_scene_then pm_scene_then an_scene_then cd_scene_then ct_scene_then), sl_scene_then⟩)
  (c_scene_then : PySem.W.codeIn K cd_scene_then "scene_then" = true)
  (k_scene_then : PySem.W.keepIn K (.ref r_scene_then) = true)
  (a_joined : PySem.W.nsIn K mainGlobals "joined" = some (some (.ref r_joined)))
  (l_joined : K.lookup r_joined = some ⟨oc_joined, od_joined, .func (PySem.W.fnOf "joined" "joined" (defArgs st_joined) (defBody st_joined) (defScope st_joined) .none kV_joined dc_joined pm_joined an_joined cd_joined ct_joined), sl_joined⟩)
  (c_joined : PySem.W.codeIn K cd_joined "joined" = true)
  (k_joined : PySem.W.keepIn K (.ref r_joined) = true)
  (a__law_refused : PySem.W.nsIn K mainGlobals "_law_refused" = some (some (.ref r__law_refused)))
  (l__law_refused : K.lookup r__law_refused = some ⟨oc__law_refused, od__law_refused, .func (PySem.W.fnOf "_law_refused" "_law_refused" (defArgs st__law_refused) (defBody st__law_refused) (defScope st__law_refused) .none kV__law_refused dc__law_refused pm__law_refused an__law_refused cd__law_refused ct__law_refused), sl__law_refused⟩)
  (c__law_refused : PySem.W.codeIn K cd__law_refused "_law_refused" = true)
  (k__law_refused : PySem.W.keepIn K (.ref r__law_refused) = true)
  (a__law_scene : PySem.W.nsIn K mainGlobals "_law_scene" = some (some (.ref r__law_scene)))
  (l__law_scene : K.lookup r__law_scene = some ⟨oc__law_scene, od__law_scene, .func (PySem.W.fnOf "_law_scene" "_law_scene" (defArgs st__law_scene) (defBody st__law_scene) (defScope st__law_scene) .none kV__law_scene dc__law_scene pm__law_scene an__law_scene cd__law_scene ct__law_scene), sl__law_scene⟩)
  (c__law_scene : PySem.W.codeIn K cd__law_scene "_law_scene" = true)
  (k__law_scene : PySem.W.keepIn K (.ref r__law_scene) = true)
  (a__law_changed : PySem.W.nsIn K mainGlobals "_law_changed" = some (some (.ref r__law_changed)))
  (l__law_changed : K.lookup r__law_changed = some ⟨oc__law_changed, od__law_changed, .func (PySem.W.fnOf "_law_changed" "_law_changed" (defArgs st__law_changed) (defBody st__law_changed) (defScope st__law_changed) .none kV__law_changed dc__law_changed pm__law_changed an__law_changed cd__law_changed ct__law_changed), sl__law_changed⟩)
  (c__law_changed : PySem.W.codeIn K cd__law_changed "_law_changed" = true)
  (k__law_changed : PySem.W.keepIn K (.ref r__law_changed) = true)
  (a__law_tame : PySem.W.nsIn K mainGlobals "_law_tame" = some (some (.ref r__law_tame)))
  (l__law_tame : K.lookup r__law_tame = some ⟨oc__law_tame, od__law_tame, .func (PySem.W.fnOf "_law_tame" "_law_tame" (defArgs st__law_tame) (defBody st__law_tame) (defScope st__law_tame) .none kV__law_tame dc__law_tame pm__law_tame an__law_tame cd__law_tame ct__law_tame), sl__law_tame⟩)
  (c__law_tame : PySem.W.codeIn K cd__law_tame "_law_tame" = true)
  (k__law_tame : PySem.W.keepIn K (.ref r__law_tame) = true)
  (a__law_scenes : PySem.W.nsIn K mainGlobals "_law_scenes" = some (some (.ref r__law_scenes)))
  (l__law_scenes : K.lookup r__law_scenes = some ⟨oc__law_scenes, od__law_scenes, .func (PySem.W.fnOf "_law_scenes" "_law_scenes" (defArgs st__law_scenes) (defBody st__law_scenes) (defScope st__law_scenes) .none kV__law_scenes dc__law_scenes pm__law_scenes an__law_scenes cd__law_scenes ct__law_scenes), sl__law_scenes⟩)
  (c__law_scenes : PySem.W.codeIn K cd__law_scenes "_law_scenes" = true)
  (k__law_scenes : PySem.W.keepIn K (.ref r__law_scenes) = true)
  (a__law_spoilt : PySem.W.nsIn K mainGlobals "_law_spoilt" = some (some (.ref r__law_spoilt)))
  (l__law_spoilt : K.lookup r__law_spoilt = some ⟨oc__law_spoilt, od__law_spoilt, .func (PySem.W.fnOf "_law_spoilt" "_law_spoilt" (defArgs st__law_spoilt) (defBody st__law_spoilt) (defScope st__law_spoilt) .none kV__law_spoilt dc__law_spoilt pm__law_spoilt an__law_spoilt cd__law_spoilt ct__law_spoilt), sl__law_spoilt⟩)
  (c__law_spoilt : PySem.W.codeIn K cd__law_spoilt "_law_spoilt" = true)
  (k__law_spoilt : PySem.W.keepIn K (.ref r__law_spoilt) = true)
  (a_law : PySem.W.nsIn K mainGlobals "law" = some (some (.ref r_law)))
  (l_law : K.lookup r_law = some ⟨oc_law, od_law, .func (PySem.W.fnOf "law" "law" (defArgs st_law) (defBody st_law) (defScope st_law) .none kV_law dc_law pm_law an_law cd_law ct_law), sl_law⟩)
  (c_law : PySem.W.codeIn K cd_law "law" = true)
  (k_law : PySem.W.keepIn K (.ref r_law) = true)
  (a_HouseError : PySem.W.nsIn K mainGlobals "HouseError" = some (some (.ref e_HouseError)))
  (kc_HouseError : PySem.W.keepIn K (.ref e_HouseError) = true)
  (s_HouseError : PySem.W.subIn K (.ref e_HouseError) (.type "BaseException") = some true)
  (t_HouseError : PySem.W.typeIn K (.ref e_HouseError) = some (.type "type"))
  (i_HouseError : PySem.W.isClsIn K e_HouseError = true)
  (g_HouseError : PySem.W.findIn K (.ref e_HouseError) "__getattribute__" = some (some (.builtin "BaseException.__getattribute__")))
  (h_HouseError : PySem.W.findIn K (.ref e_HouseError) "__getattr__" = some none)
  (d_HouseError : PySem.W.hasDictIn K e_HouseError = true)
  (o_HouseError : PySem.W.findIn K (.ref e_HouseError) "__class__" = some (some (.builtin "object.__class__")))
  (m_HouseError : PySem.W.mroIn K e_HouseError (.type "object") = some true)
  (a_BadState : PySem.W.nsIn K mainGlobals "BadState" = some (some (.ref e_BadState)))
  (kc_BadState : PySem.W.keepIn K (.ref e_BadState) = true)
  (s_BadState : PySem.W.subIn K (.ref e_BadState) (.type "BaseException") = some true)
  (t_BadState : PySem.W.typeIn K (.ref e_BadState) = some (.type "type"))
  (i_BadState : PySem.W.isClsIn K e_BadState = true)
  (g_BadState : PySem.W.findIn K (.ref e_BadState) "__getattribute__" = some (some (.builtin "BaseException.__getattribute__")))
  (h_BadState : PySem.W.findIn K (.ref e_BadState) "__getattr__" = some none)
  (d_BadState : PySem.W.hasDictIn K e_BadState = true)
  (o_BadState : PySem.W.findIn K (.ref e_BadState) "__class__" = some (some (.builtin "object.__class__")))
  (m_BadState : PySem.W.mroIn K e_BadState (.type "object") = some true)
  (a_BadScene : PySem.W.nsIn K mainGlobals "BadScene" = some (some (.ref e_BadScene)))
  (kc_BadScene : PySem.W.keepIn K (.ref e_BadScene) = true)
  (s_BadScene : PySem.W.subIn K (.ref e_BadScene) (.type "BaseException") = some true)
  (t_BadScene : PySem.W.typeIn K (.ref e_BadScene) = some (.type "type"))
  (i_BadScene : PySem.W.isClsIn K e_BadScene = true)
  (g_BadScene : PySem.W.findIn K (.ref e_BadScene) "__getattribute__" = some (some (.builtin "BaseException.__getattribute__")))
  (h_BadScene : PySem.W.findIn K (.ref e_BadScene) "__getattr__" = some none)
  (d_BadScene : PySem.W.hasDictIn K e_BadScene = true)
  (o_BadScene : PySem.W.findIn K (.ref e_BadScene) "__class__" = some (some (.builtin "object.__class__")))
  (m_BadScene : PySem.W.mroIn K e_BadScene (.type "object") = some true)
  (hn : PySem.W.specialIn K (.builtin "object.__class__") "__get__" = some (some (.builtin "getset_descriptor.__get__")))
  (ht : PySem.W.takesIn K (.builtin "object.__class__") = some true)
  (p_HouseError_BadScene : PySem.W.subIn K (.ref e_HouseError) (.ref e_BadScene) = some false)
  (p_BadState_BadScene : PySem.W.subIn K (.ref e_BadState) (.ref e_BadScene) = some false)
  (p_BadScene_BadScene : PySem.W.subIn K (.ref e_BadScene) (.ref e_BadScene) = some true)
  (p_HouseError_BadState : PySem.W.subIn K (.ref e_HouseError) (.ref e_BadState) = some false)
  (p_BadState_BadState : PySem.W.subIn K (.ref e_BadState) (.ref e_BadState) = some true)
  (p_BadScene_BadState : PySem.W.subIn K (.ref e_BadScene) (.ref e_BadState) = some false)
  (p_HouseError_HouseError : PySem.W.subIn K (.ref e_HouseError) (.ref e_HouseError) = some true)
  (p_BadState_HouseError : PySem.W.subIn K (.ref e_BadState) (.ref e_HouseError) = some true)
  (p_BadScene_HouseError : PySem.W.subIn K (.ref e_BadScene) (.ref e_HouseError) = some true)
  (zsup : PySem.W.nsIn K mainGlobals "super" = some none)
  (z_bool : PySem.W.nsIn K mainGlobals "bool" = some none)
  (z_enumerate : PySem.W.nsIn K mainGlobals "enumerate" = some none)
  (z_int : PySem.W.nsIn K mainGlobals "int" = some none)
  (z_isinstance : PySem.W.nsIn K mainGlobals "isinstance" = some none)
  (z_len : PySem.W.nsIn K mainGlobals "len" = some none)
  (z_list : PySem.W.nsIn K mainGlobals "list" = some none)
  (z_min : PySem.W.nsIn K mainGlobals "min" = some none)
  (z_range : PySem.W.nsIn K mainGlobals "range" = some none)
  (z_sorted : PySem.W.nsIn K mainGlobals "sorted" = some none)
  (z_str : PySem.W.nsIn K mainGlobals "str" = some none)
  (z_tuple : PySem.W.nsIn K mainGlobals "tuple" = some none)
  (z_zip : PySem.W.nsIn K mainGlobals "zip" = some none)
  (xi_BadScene : PySem.W.excIn K e_BadScene bmVE "ValueError.__new__" = true)
  (ne_HouseError_BadScene : e_HouseError ≠ e_BadScene)
  (ne_BadState_BadScene : e_BadState ≠ e_BadScene)
  (ne_HouseError_BadState : e_HouseError ≠ e_BadState)
  (ne_BadScene_BadState : e_BadScene ≠ e_BadState) :
  ∃ fd : FuncData, (∀ (s : Shared) (v : Value), BindsTo s fd ⟨[v], []⟩ [("script", v)]) ∧ ∀ base : Heap, K.In base → base.Ns mainGlobals mg → ∃ C : Nat → Addr, FnOk P w K mg base (L2N.CX P w) 43 fa fd ["script"] (spF K C f_law) := by
  let A : Ad := { f__law_cell := r__law_cell, f__law_done := r__law_done, f__law_integer := r__law_integer, f__law_is_scene := r__law_is_scene, f__law_joined_holds := r__law_joined_holds, f__law_row := r__law_row, f__law_order := r__law_order, f__law_plain := r__law_plain, f_act_table := r_act_table, f_acts_clash := r_acts_clash, f_clash_device := r_clash_device, f_is_integer := r_is_integer, f_is_act := r_is_act, f_is_scene := r_is_scene, f_demand_scene := r_demand_scene, f_clash := r_clash, f_is_state := r_is_state, f_scene_result := r_scene_result, f_shows_clash := r_shows_clash, f__law_pair_holds := r__law_pair_holds, f__law_parting := r__law_parting, f_scene_of := r_scene_of, f_scene_then := r_scene_then, f_joined := r_joined, f__law_refused := r__law_refused, f__law_scene := r__law_scene, f__law_changed := r__law_changed, f__law_tame := r__law_tame, f__law_scenes := r__law_scenes, f__law_spoilt := r__law_spoilt, f_law := r_law, d__law_cell := PySem.W.fnOf "_law_cell" "_law_cell" (defArgs st__law_cell) (defBody st__law_cell) (defScope st__law_cell) .none kV__law_cell dc__law_cell pm__law_cell an__law_cell cd__law_cell ct__law_cell, d__law_done := PySem.W.fnOf "_law_done" "_law_done" (defArgs st__law_done) (defBody st__law_done) (defScope st__law_done) .none kV__law_done dc__law_done pm__law_done an__law_done cd__law_done ct__law_done, d__law_integer := PySem.W.fnOf "_law_integer" "_law_integer" (defArgs st__law_integer) (defBody st__law_integer) (defScope st__law_integer) .none kV__law_integer dc__law_integer pm__law_integer an__law_integer cd__law_integer ct__law_integer, d__law_is_scene := PySem.W.fnOf "_law_is_scene" "_law_is_scene" (defArgs st__law_is_scene) (defBody st__law_is_scene) (defScope st__law_is_scene) .none kV__law_is_scene dc__law_is_scene pm__law_is_scene an__law_is_scene cd__law_is_scene ct__law_is_scene, d__law_joined_holds := PySem.W.fnOf "_law_joined_holds" "_law_joined_holds" (defArgs st__law_joined_holds) (defBody st__law_joined_holds) (defScope st__law_joined_holds) .none kV__law_joined_holds dc__law_joined_holds pm__law_joined_holds an__law_joined_holds cd__law_joined_holds ct__law_joined_holds, d__law_row := PySem.W.fnOf "_law_row" "_law_row" (defArgs st__law_row) (defBody st__law_row) (defScope st__law_row) .none kV__law_row dc__law_row pm__law_row an__law_row cd__law_row ct__law_row, d__law_order := PySem.W.fnOf "_law_order" "_law_order" (defArgs st__law_order) (defBody st__law_order) (defScope st__law_order) .none kV__law_order dc__law_order pm__law_order an__law_order cd__law_order ct__law_order, d__law_plain := PySem.W.fnOf "_law_plain" "_law_plain" (defArgs st__law_plain) (defBody st__law_plain) (defScope st__law_plain) .none kV__law_plain dc__law_plain pm__law_plain an__law_plain cd__law_plain ct__law_plain, d_act_table := PySem.W.fnOf "act_table" "act_table" (defArgs st_act_table) (defBody st_act_table) (defScope st_act_table) .none kV_act_table dc_act_table pm_act_table an_act_table cd_act_table ct_act_table, d_acts_clash := PySem.W.fnOf "acts_clash" "acts_clash" (defArgs st_acts_clash) (defBody st_acts_clash) (defScope st_acts_clash) .none kV_acts_clash dc_acts_clash pm_acts_clash an_acts_clash cd_acts_clash ct_acts_clash, d_clash_device := PySem.W.fnOf "clash_device" "clash_device" (defArgs st_clash_device) (defBody st_clash_device) (defScope st_clash_device) .none kV_clash_device dc_clash_device pm_clash_device an_clash_device cd_clash_device ct_clash_device, d_is_integer := PySem.W.fnOf "is_integer" "is_integer" (defArgs st_is_integer) (defBody st_is_integer) (defScope st_is_integer) .none kV_is_integer dc_is_integer pm_is_integer an_is_integer cd_is_integer ct_is_integer, d_is_act := PySem.W.fnOf "is_act" "is_act" (defArgs st_is_act) (defBody st_is_act) (defScope st_is_act) .none kV_is_act dc_is_act pm_is_act an_is_act cd_is_act ct_is_act, d_is_scene := PySem.W.fnOf "is_scene" "is_scene" (defArgs st_is_scene) (defBody st_is_scene) (defScope st_is_scene) .none kV_is_scene dc_is_scene pm_is_scene an_is_scene cd_is_scene ct_is_scene, d_demand_scene := PySem.W.fnOf "demand_scene" "demand_scene" (defArgs st_demand_scene) (defBody st_demand_scene) (defScope st_demand_scene) .none kV_demand_scene dc_demand_scene pm_demand_scene an_demand_scene cd_demand_scene ct_demand_scene, d_clash := PySem.W.fnOf "clash" "clash" (defArgs st_clash) (defBody st_clash) (defScope st_clash) .none kV_clash dc_clash pm_clash an_clash cd_clash ct_clash, d_is_state := PySem.W.fnOf "is_state" "is_state" (defArgs st_is_state) (defBody st_is_state) (defScope st_is_state) .none kV_is_state dc_is_state pm_is_state an_is_state cd_is_state ct_is_state, d_scene_result := PySem.W.fnOf "scene_result" "scene_result" (defArgs st_scene_result) (defBody st_scene_result) (defScope st_scene_result) .none kV_scene_result dc_scene_result pm_scene_result an_scene_result cd_scene_result ct_scene_result, d_shows_clash := PySem.W.fnOf "shows_clash" "shows_clash" (defArgs st_shows_clash) (defBody st_shows_clash) (defScope st_shows_clash) .none kV_shows_clash dc_shows_clash pm_shows_clash an_shows_clash cd_shows_clash ct_shows_clash, d__law_pair_holds := PySem.W.fnOf "_law_pair_holds" "_law_pair_holds" (defArgs st__law_pair_holds) (defBody st__law_pair_holds) (defScope st__law_pair_holds) .none kV__law_pair_holds dc__law_pair_holds pm__law_pair_holds an__law_pair_holds cd__law_pair_holds ct__law_pair_holds, d__law_parting := PySem.W.fnOf "_law_parting" "_law_parting" (defArgs st__law_parting) (defBody st__law_parting) (defScope st__law_parting) .none kV__law_parting dc__law_parting pm__law_parting an__law_parting cd__law_parting ct__law_parting, d_scene_of := PySem.W.fnOf "scene_of" "scene_of" (defArgs st_scene_of) (defBody st_scene_of) (defScope st_scene_of) .none kV_scene_of dc_scene_of pm_scene_of an_scene_of cd_scene_of ct_scene_of, d_scene_then := PySem.W.fnOf "scene_then" "scene_then" (defArgs st_scene_then) (defBody st_scene_then) (defScope st_scene_then) .none kV_scene_then dc_scene_then pm_scene_then an_scene_then cd_scene_then ct_scene_then, d_joined := PySem.W.fnOf "joined" "joined" (defArgs st_joined) (defBody st_joined) (defScope st_joined) .none kV_joined dc_joined pm_joined an_joined cd_joined ct_joined, d__law_refused := PySem.W.fnOf "_law_refused" "_law_refused" (defArgs st__law_refused) (defBody st__law_refused) (defScope st__law_refused) .none kV__law_refused dc__law_refused pm__law_refused an__law_refused cd__law_refused ct__law_refused, d__law_scene := PySem.W.fnOf "_law_scene" "_law_scene" (defArgs st__law_scene) (defBody st__law_scene) (defScope st__law_scene) .none kV__law_scene dc__law_scene pm__law_scene an__law_scene cd__law_scene ct__law_scene, d__law_changed := PySem.W.fnOf "_law_changed" "_law_changed" (defArgs st__law_changed) (defBody st__law_changed) (defScope st__law_changed) .none kV__law_changed dc__law_changed pm__law_changed an__law_changed cd__law_changed ct__law_changed, d__law_tame := PySem.W.fnOf "_law_tame" "_law_tame" (defArgs st__law_tame) (defBody st__law_tame) (defScope st__law_tame) .none kV__law_tame dc__law_tame pm__law_tame an__law_tame cd__law_tame ct__law_tame, d__law_scenes := PySem.W.fnOf "_law_scenes" "_law_scenes" (defArgs st__law_scenes) (defBody st__law_scenes) (defScope st__law_scenes) .none kV__law_scenes dc__law_scenes pm__law_scenes an__law_scenes cd__law_scenes ct__law_scenes, d__law_spoilt := PySem.W.fnOf "_law_spoilt" "_law_spoilt" (defArgs st__law_spoilt) (defBody st__law_spoilt) (defScope st__law_spoilt) .none kV__law_spoilt dc__law_spoilt pm__law_spoilt an__law_spoilt cd__law_spoilt ct__law_spoilt, d_law := PySem.W.fnOf "law" "law" (defArgs st_law) (defBody st_law) (defScope st_law) .none kV_law dc_law pm_law an_law cd_law ct_law, c_HouseError := e_HouseError, c_BadState := e_BadState, c_BadScene := e_BadScene }
  have F__law_cell : Fun K "_law_cell" "_law_cell" st__law_cell r__law_cell _ := fun_mk (st := st__law_cell) l__law_cell c__law_cell k__law_cell
  have n__law_cell := F__law_cell.binds (ps := ["script", "k"]) fun _ _ _ _ _ _ us hl => match us, hl with | [_, _], _ => rfl
  have F__law_done : Fun K "_law_done" "_law_done" st__law_done r__law_done _ := fun_mk (st := st__law_done) l__law_done c__law_done k__law_done
  have n__law_done := F__law_done.binds (ps := ["counts", "scene", "state"]) fun _ _ _ _ _ _ us hl => match us, hl with | [_, _, _], _ => rfl
  have F__law_integer : Fun K "_law_integer" "_law_integer" st__law_integer r__law_integer _ := fun_mk (st := st__law_integer) l__law_integer c__law_integer k__law_integer
  have n__law_integer := F__law_integer.binds (ps := ["value"]) fun _ _ _ _ _ _ us hl => match us, hl with | [_], _ => rfl
  have F__law_is_scene : Fun K "_law_is_scene" "_law_is_scene" st__law_is_scene r__law_is_scene _ := fun_mk (st := st__law_is_scene) l__law_is_scene c__law_is_scene k__law_is_scene
  have n__law_is_scene := F__law_is_scene.binds (ps := ["counts", "scene"]) fun _ _ _ _ _ _ us hl => match us, hl with | [_, _], _ => rfl
  have F__law_joined_holds : Fun K "_law_joined_holds" "_law_joined_holds" st__law_joined_holds r__law_joined_holds _ := fun_mk (st := st__law_joined_holds) l__law_joined_holds c__law_joined_holds k__law_joined_holds
  have n__law_joined_holds := F__law_joined_holds.binds (ps := ["counts", "scenes", "found", "order"]) fun _ _ _ _ _ _ us hl => match us, hl with | [_, _, _, _], _ => rfl
  have F__law_row : Fun K "_law_row" "_law_row" st__law_row r__law_row _ := fun_mk (st := st__law_row) l__law_row c__law_row k__law_row
  have n__law_row := F__law_row.binds (ps := ["cell", "sizes"]) fun _ _ _ _ _ _ us hl => match us, hl with | [_, _], _ => rfl
  have F__law_order : Fun K "_law_order" "_law_order" st__law_order r__law_order _ := fun_mk (st := st__law_order) l__law_order c__law_order k__law_order
  have n__law_order := F__law_order.binds (ps := ["cell", "size"]) fun _ _ _ _ _ _ us hl => match us, hl with | [_, _], _ => rfl
  have F__law_plain : Fun K "_law_plain" "_law_plain" st__law_plain r__law_plain _ := fun_mk (st := st__law_plain) l__law_plain c__law_plain k__law_plain
  have n__law_plain := F__law_plain.binds (ps := ["value"]) fun _ _ _ _ _ _ us hl => match us, hl with | [_], _ => rfl
  have F_act_table : Fun K "act_table" "act_table" st_act_table r_act_table _ := fun_mk (st := st_act_table) l_act_table c_act_table k_act_table
  have n_act_table := F_act_table.binds (ps := ["scene"]) fun _ _ _ _ _ _ us hl => match us, hl with | [_], _ => rfl
  have F_acts_clash : Fun K "acts_clash" "acts_clash" st_acts_clash r_acts_clash _ := fun_mk (st := st_acts_clash) l_acts_clash c_acts_clash k_acts_clash
  have n_acts_clash := F_acts_clash.binds (ps := ["one", "other"]) fun _ _ _ _ _ _ us hl => match us, hl with | [_, _], _ => rfl
  have F_clash_device : Fun K "clash_device" "clash_device" st_clash_device r_clash_device _ := fun_mk (st := st_clash_device) l_clash_device c_clash_device k_clash_device
  have n_clash_device := F_clash_device.binds (ps := ["first", "second"]) fun _ _ _ _ _ _ us hl => match us, hl with | [_, _], _ => rfl
  have F_is_integer : Fun K "is_integer" "is_integer" st_is_integer r_is_integer _ := fun_mk (st := st_is_integer) l_is_integer c_is_integer k_is_integer
  have n_is_integer := F_is_integer.binds (ps := ["value"]) fun _ _ _ _ _ _ us hl => match us, hl with | [_], _ => rfl
  have F_is_act : Fun K "is_act" "is_act" st_is_act r_is_act _ := fun_mk (st := st_is_act) l_is_act c_is_act k_is_act
  have n_is_act := F_is_act.binds (ps := ["counts", "act"]) fun _ _ _ _ _ _ us hl => match us, hl with | [_, _], _ => rfl
  have F_is_scene : Fun K "is_scene" "is_scene" st_is_scene r_is_scene _ := fun_mk (st := st_is_scene) l_is_scene c_is_scene k_is_scene
  have n_is_scene := F_is_scene.binds (ps := ["counts", "scene"]) fun _ _ _ _ _ _ us hl => match us, hl with | [_, _], _ => rfl
  have F_demand_scene : Fun K "demand_scene" "demand_scene" st_demand_scene r_demand_scene _ := fun_mk (st := st_demand_scene) l_demand_scene c_demand_scene k_demand_scene
  have n_demand_scene := F_demand_scene.binds (ps := ["counts", "scene"]) fun _ _ _ _ _ _ us hl => match us, hl with | [_, _], _ => rfl
  have F_clash : Fun K "clash" "clash" st_clash r_clash _ := fun_mk (st := st_clash) l_clash c_clash k_clash
  have n_clash := F_clash.binds (ps := ["counts", "first", "second"]) fun _ _ _ _ _ _ us hl => match us, hl with | [_, _, _], _ => rfl
  have F_is_state : Fun K "is_state" "is_state" st_is_state r_is_state _ := fun_mk (st := st_is_state) l_is_state c_is_state k_is_state
  have n_is_state := F_is_state.binds (ps := ["counts", "state"]) fun _ _ _ _ _ _ us hl => match us, hl with | [_, _], _ => rfl
  have F_scene_result : Fun K "scene_result" "scene_result" st_scene_result r_scene_result _ := fun_mk (st := st_scene_result) l_scene_result c_scene_result k_scene_result
  have n_scene_result := F_scene_result.binds (ps := ["counts", "scene", "state"]) fun _ _ _ _ _ _ us hl => match us, hl with | [_, _, _], _ => rfl
  have F_shows_clash : Fun K "shows_clash" "shows_clash" st_shows_clash r_shows_clash _ := fun_mk (st := st_shows_clash) l_shows_clash c_shows_clash k_shows_clash
  have n_shows_clash := F_shows_clash.binds (ps := ["counts", "first", "second", "state"]) fun _ _ _ _ _ _ us hl => match us, hl with | [_, _, _, _], _ => rfl
  have F__law_pair_holds : Fun K "_law_pair_holds" "_law_pair_holds" st__law_pair_holds r__law_pair_holds _ := fun_mk (st := st__law_pair_holds) l__law_pair_holds c__law_pair_holds k__law_pair_holds
  have n__law_pair_holds := F__law_pair_holds.binds (ps := ["counts", "first", "second", "device", "state", "wrong"]) fun _ _ _ _ _ _ us hl => match us, hl with | [_, _, _, _, _, _], _ => rfl
  have F__law_parting : Fun K "_law_parting" "_law_parting" st__law_parting r__law_parting _ := fun_mk (st := st__law_parting) l__law_parting c__law_parting k__law_parting
  have n__law_parting := F__law_parting.binds (ps := ["counts", "first", "second"]) fun _ _ _ _ _ _ us hl => match us, hl with | [_, _, _], _ => rfl
  have F_scene_of : Fun K "scene_of" "scene_of" st_scene_of r_scene_of _ := fun_mk (st := st_scene_of) l_scene_of c_scene_of k_scene_of
  have n_scene_of := F_scene_of.binds (ps := ["acts"]) fun _ _ _ _ _ _ us hl => match us, hl with | [_], _ => rfl
  have F_scene_then : Fun K "scene_then" "scene_then" st_scene_then r_scene_then _ := fun_mk (st := st_scene_then) l_scene_then c_scene_then k_scene_then
  have n_scene_then := F_scene_then.binds (ps := ["counts", "first", "second"]) fun _ _ _ _ _ _ us hl => match us, hl with | [_, _, _], _ => rfl
  have F_joined : Fun K "joined" "joined" st_joined r_joined _ := fun_mk (st := st_joined) l_joined c_joined k_joined
  have n_joined := F_joined.binds (ps := ["counts", "scenes"]) fun _ _ _ _ _ _ us hl => match us, hl with | [_, _], _ => rfl
  have F__law_refused : Fun K "_law_refused" "_law_refused" st__law_refused r__law_refused _ := fun_mk (st := st__law_refused) l__law_refused c__law_refused k__law_refused
  have n__law_refused := F__law_refused.binds (ps := ["counts", "which", "good", "bad", "row"]) fun _ _ _ _ _ _ us hl => match us, hl with | [_, _, _, _, _], _ => rfl
  have F__law_scene : Fun K "_law_scene" "_law_scene" st__law_scene r__law_scene _ := fun_mk (st := st__law_scene) l__law_scene c__law_scene k__law_scene
  have n__law_scene := F__law_scene.binds (ps := ["cell", "counts"]) fun _ _ _ _ _ _ us hl => match us, hl with | [_, _], _ => rfl
  have F__law_changed : Fun K "_law_changed" "_law_changed" st__law_changed r__law_changed _ := fun_mk (st := st__law_changed) l__law_changed c__law_changed k__law_changed
  have n__law_changed := F__law_changed.binds (ps := ["scene", "counts", "cell"]) fun _ _ _ _ _ _ us hl => match us, hl with | [_, _, _], _ => rfl
  have F__law_tame : Fun K "_law_tame" "_law_tame" st__law_tame r__law_tame _ := fun_mk (st := st__law_tame) l__law_tame c__law_tame k__law_tame
  have n__law_tame := F__law_tame.binds (ps := ["cell", "counts", "common"]) fun _ _ _ _ _ _ us hl => match us, hl with | [_, _, _], _ => rfl
  have F__law_scenes : Fun K "_law_scenes" "_law_scenes" st__law_scenes r__law_scenes _ := fun_mk (st := st__law_scenes) l__law_scenes c__law_scenes k__law_scenes
  have n__law_scenes := F__law_scenes.binds (ps := ["script", "counts", "plan"]) fun _ _ _ _ _ _ us hl => match us, hl with | [_, _, _], _ => rfl
  have F__law_spoilt : Fun K "_law_spoilt" "_law_spoilt" st__law_spoilt r__law_spoilt _ := fun_mk (st := st__law_spoilt) l__law_spoilt c__law_spoilt k__law_spoilt
  have n__law_spoilt := F__law_spoilt.binds (ps := ["counts", "scene", "way", "device"]) fun _ _ _ _ _ _ us hl => match us, hl with | [_, _, _, _], _ => rfl
  have F_law : Fun K "law" "law" st_law r_law _ := fun_mk (st := st_law) l_law c_law k_law
  have n_law := F_law.binds (ps := ["script"]) fun _ _ _ _ _ _ us hl => match us, hl with | [_], _ => rfl
  have x_HouseError : ExcC K e_HouseError := ⟨g_HouseError, h_HouseError, s_HouseError, d_HouseError, o_HouseError, hn, ht, m_HouseError⟩
  have x_BadState : ExcC K e_BadState := ⟨g_BadState, h_BadState, s_BadState, d_BadState, o_BadState, hn, ht, m_BadState⟩
  have x_BadScene : ExcC K e_BadScene := ⟨g_BadScene, h_BadScene, s_BadScene, d_BadScene, o_BadScene, hn, ht, m_BadScene⟩
  have TT : Txt A P w K mg := { sup := PySem.W.mg_none_of X G zsup, b_bool := PySem.W.mg_none_of X G z_bool, b_enumerate := PySem.W.mg_none_of X G z_enumerate, b_int := PySem.W.mg_none_of X G z_int, b_isinstance := PySem.W.mg_none_of X G z_isinstance, b_len := PySem.W.mg_none_of X G z_len, b_list := PySem.W.mg_none_of X G z_list, b_min := PySem.W.mg_none_of X G z_min, b_range := PySem.W.mg_none_of X G z_range, b_sorted := PySem.W.mg_none_of X G z_sorted, b_str := PySem.W.mg_none_of X G z_str, b_tuple := PySem.W.mg_none_of X G z_tuple, b_zip := PySem.W.mg_none_of X G z_zip, F__law_cell := F__law_cell, m__law_cell := PySem.W.mg_of X G a__law_cell, k__law_cell := k__law_cell, n__law_cell := n__law_cell, F__law_done := F__law_done, m__law_done := PySem.W.mg_of X G a__law_done, k__law_done := k__law_done, n__law_done := n__law_done, F__law_integer := F__law_integer, m__law_integer := PySem.W.mg_of X G a__law_integer, k__law_integer := k__law_integer, n__law_integer := n__law_integer, F__law_is_scene := F__law_is_scene, m__law_is_scene := PySem.W.mg_of X G a__law_is_scene, k__law_is_scene := k__law_is_scene, n__law_is_scene := n__law_is_scene, F__law_joined_holds := F__law_joined_holds, m__law_joined_holds := PySem.W.mg_of X G a__law_joined_holds, k__law_joined_holds := k__law_joined_holds, n__law_joined_holds := n__law_joined_holds, F__law_row := F__law_row, m__law_row := PySem.W.mg_of X G a__law_row, k__law_row := k__law_row, n__law_row := n__law_row, F__law_order := F__law_order, m__law_order := PySem.W.mg_of X G a__law_order, k__law_order := k__law_order, n__law_order := n__law_order, F__law_plain := F__law_plain, m__law_plain := PySem.W.mg_of X G a__law_plain, k__law_plain := k__law_plain, n__law_plain := n__law_plain, F_act_table := F_act_table, m_act_table := PySem.W.mg_of X G a_act_table, k_act_table := k_act_table, n_act_table := n_act_table, F_acts_clash := F_acts_clash, m_acts_clash := PySem.W.mg_of X G a_acts_clash, k_acts_clash := k_acts_clash, n_acts_clash := n_acts_clash, F_clash_device := F_clash_device, m_clash_device := PySem.W.mg_of X G a_clash_device, k_clash_device := k_clash_device, n_clash_device := n_clash_device, F_is_integer := F_is_integer, m_is_integer := PySem.W.mg_of X G a_is_integer, k_is_integer := k_is_integer, n_is_integer := n_is_integer, F_is_act := F_is_act, m_is_act := PySem.W.mg_of X G a_is_act, k_is_act := k_is_act, n_is_act := n_is_act, F_is_scene := F_is_scene, m_is_scene := PySem.W.mg_of X G a_is_scene, k_is_scene := k_is_scene, n_is_scene := n_is_scene, F_demand_scene := F_demand_scene, m_demand_scene := PySem.W.mg_of X G a_demand_scene, k_demand_scene := k_demand_scene, n_demand_scene := n_demand_scene, F_clash := F_clash, m_clash := PySem.W.mg_of X G a_clash, k_clash := k_clash, n_clash := n_clash, F_is_state := F_is_state, m_is_state := PySem.W.mg_of X G a_is_state, k_is_state := k_is_state, n_is_state := n_is_state, F_scene_result := F_scene_result, m_scene_result := PySem.W.mg_of X G a_scene_result, k_scene_result := k_scene_result, n_scene_result := n_scene_result, F_shows_clash := F_shows_clash, m_shows_clash := PySem.W.mg_of X G a_shows_clash, k_shows_clash := k_shows_clash, n_shows_clash := n_shows_clash, F__law_pair_holds := F__law_pair_holds, m__law_pair_holds := PySem.W.mg_of X G a__law_pair_holds, k__law_pair_holds := k__law_pair_holds, n__law_pair_holds := n__law_pair_holds, F__law_parting := F__law_parting, m__law_parting := PySem.W.mg_of X G a__law_parting, k__law_parting := k__law_parting, n__law_parting := n__law_parting, F_scene_of := F_scene_of, m_scene_of := PySem.W.mg_of X G a_scene_of, k_scene_of := k_scene_of, n_scene_of := n_scene_of, F_scene_then := F_scene_then, m_scene_then := PySem.W.mg_of X G a_scene_then, k_scene_then := k_scene_then, n_scene_then := n_scene_then, F_joined := F_joined, m_joined := PySem.W.mg_of X G a_joined, k_joined := k_joined, n_joined := n_joined, F__law_refused := F__law_refused, m__law_refused := PySem.W.mg_of X G a__law_refused, k__law_refused := k__law_refused, n__law_refused := n__law_refused, F__law_scene := F__law_scene, m__law_scene := PySem.W.mg_of X G a__law_scene, k__law_scene := k__law_scene, n__law_scene := n__law_scene, F__law_changed := F__law_changed, m__law_changed := PySem.W.mg_of X G a__law_changed, k__law_changed := k__law_changed, n__law_changed := n__law_changed, F__law_tame := F__law_tame, m__law_tame := PySem.W.mg_of X G a__law_tame, k__law_tame := k__law_tame, n__law_tame := n__law_tame, F__law_scenes := F__law_scenes, m__law_scenes := PySem.W.mg_of X G a__law_scenes, k__law_scenes := k__law_scenes, n__law_scenes := n__law_scenes, F__law_spoilt := F__law_spoilt, m__law_spoilt := PySem.W.mg_of X G a__law_spoilt, k__law_spoilt := k__law_spoilt, n__law_spoilt := n__law_spoilt, F_law := F_law, m_law := PySem.W.mg_of X G a_law, k_law := k_law, n_law := n_law, gc_HouseError := PySem.W.mg_of X G a_HouseError, kc_HouseError := kc_HouseError, gc_BadState := PySem.W.mg_of X G a_BadState, kc_BadState := kc_BadState, gc_BadScene := PySem.W.mg_of X G a_BadScene, kc_BadScene := kc_BadScene, ra_BadScene := raisesK s_BadScene t_BadScene, xi_BadScene := xi_BadScene, isi_BadScene := ⟨⟨x_HouseError, kit_ref i_BadScene t_BadScene p_HouseError_BadScene (fun e => absurd e ne_HouseError_BadScene)⟩, ⟨x_BadState, kit_ref i_BadScene t_BadScene p_BadState_BadScene (fun e => absurd e ne_BadState_BadScene)⟩, ⟨x_BadScene, kit_ref i_BadScene t_BadScene p_BadScene_BadScene (fun _ => rfl)⟩, trivial⟩, isi_BadState := ⟨⟨x_HouseError, kit_ref i_BadState t_BadState p_HouseError_BadState (fun e => absurd e ne_HouseError_BadState)⟩, ⟨x_BadState, kit_ref i_BadState t_BadState p_BadState_BadState (fun _ => rfl)⟩, ⟨x_BadScene, kit_ref i_BadState t_BadState p_BadScene_BadState (fun e => absurd e ne_BadScene_BadState)⟩, trivial⟩, exm_HouseError := ⟨PySem.W.exm_ref s_HouseError d_HouseError t_HouseError p_HouseError_HouseError, PySem.W.exm_ref s_HouseError d_HouseError t_HouseError p_BadState_HouseError, PySem.W.exm_ref s_HouseError d_HouseError t_HouseError p_BadScene_HouseError, trivial⟩ }
  have e := hfa.symm.trans (PySem.W.mg_of X G a_law)
  cases e
  exact ⟨_, fun s v => .of_eq rfl, fun base _ _ => ⟨ca A, ok_law (A := A) TT⟩⟩
end Lw
namespace Lw
open M
theorem cell_ok (ns : List Int) (k : Nat) : ∃ z : Int, f__law_cell [.lst (ns.map .int), .int k] = .ok (.val (.int z)) := by
  rw [f__law_cell, fn_2]
  by_cases h : k < ns.length
  · refine ⟨ns[k], ?_⟩
    have hk : k < (ns.map D.int).length := by simpa using h
    simp [startE, List.replicate, h, dIx_l hk]
  · refine ⟨?_, ?_⟩
    rotate_left
    · simp [startE, List.replicate, h, mulL 7919 k (by decide)]
      rw [forGo_fold (S := Int × Sl) (mk := fun s => [.val (.lst (ns.map .int)), .val (.int k), .val (.int s.1), s.2]) (f := fun s d => match d with | .int c => ((s.1 * 31 + c) % 2147483647, .val d) | _ => s) (ns.map .int) (7919 * (k : Int) + 1, .un)]
      · simp
        rfl
      · intro d hd s
        obtain ⟨c, _, rfl⟩ := List.mem_map.mp hd
        refine ⟨_, rfl, .inl ?_⟩
        simp [mulR s.1 31 (by decide), dMod_i _ 2147483647 (by decide)]
end Lw
namespace Lw
open M
/-! ### _law_row -/
def stR (c s : List Int) : Prop := s.length = c.length ∧ ∀ i, i < c.length → 0 ≤ s.getD i 0 ∧ s.getD i 0 < c.getD i 0
theorem stR_cons {b z : Int} {c s : List Int} (h0 : 0 ≤ z) (h1 : z < b) (h : stR c s) : stR (b :: c) (z :: s) := by
  refine ⟨by simp [h.1], fun i hi => ?_⟩
  cases i with
  | zero => simpa using ⟨h0, h1⟩
  | succ i => simpa using h.2 i (by simpa using hi)
theorem row_loop (cell : Int) (S : D) : ∀ (sizes row : List Int) (t m : Int) (x : Sl), (∀ b ∈ sizes, 0 < b ∧ b < 1073741824) → row.length + sizes.length ≤ 1000 →
    ∃ r t' m' x', forGo (gName 5) (sIf (tVal (eOp2 dGe (eVar 0) (eOp2 dPow (eC (.int 10)) (eC (.int 18))))) (sSeq (sAppend 4 (eOp2 dMod (eB dInt (aCons (eVar 2) aNil)) (eVar 5)))
  (sSet 2 (eOp2 dFdiv (eVar 2) (eVar 5)))) (sSeq (sSet 3 (eOp2 dMod (eB dInt (aCons (eOp2 dAdd (eOp2 dMul (eVar 3) (eC (.int 16807))) (eC (.int 54321))) aNil)) (eC (.int 2147483647))))
  (sAppend 4 (eOp2 dMod (eOp2 dFdiv (eVar 3) (eC (.int 64))) (eVar 5))))) (sizes.map .int) [.val (.int cell), .val S, .val (.int t), .val (.int m), .own (.lst (row.map .int)), x] =
      .next [.val (.int cell), .val S, .val (.int t'), .val (.int m'), .own (.lst ((row ++ r).map .int)), x'] ∧ stR sizes r
  | [], row, t, m, x, _, _ => ⟨[], t, m, x, by simp, rfl, fun i hi => absurd hi (by simp)⟩
  | b :: sizes, row, t, m, x, hb, hl => by
    obtain ⟨b0, b1⟩ := hb b List.mem_cons_self
    have hl' : row.length < 16777216 := by simp at hl; omega
    by_cases hc : big18 ≤ cell
    · obtain ⟨r, t', m', x', h1, h2⟩ := row_loop cell S sizes (row ++ [t % b]) (t / b) m (.val (.int b)) (fun y hy => hb y (List.mem_cons_of_mem _ hy)) (by simp at hl ⊢; omega)
      refine ⟨t % b :: r, t', m', x', ?_, stR_cons (Int.emod_nonneg _ (by omega)) (Int.emod_lt_of_pos _ b0) h2⟩
      rw [List.map_cons, forGo_cons' (e2 := [.val (.int cell), .val S, .val (.int (t / b)), .val (.int m), .own (.lst ((row ++ [t % b]).map .int)), .val (.int b)]) rfl (by simp [hc, dMod_i _ b b0, dFdiv_i _ b b0 b1, line_v, hl']), h1]
      simp
    · obtain ⟨r, t', m', x', h1, h2⟩ := row_loop cell S sizes (row ++ [(m * 16807 + 54321) % 2147483647 / 64 % b]) t ((m * 16807 + 54321) % 2147483647) (.val (.int b)) (fun y hy => hb y (List.mem_cons_of_mem _ hy)) (by simp at hl ⊢; omega)
      refine ⟨(m * 16807 + 54321) % 2147483647 / 64 % b :: r, t', m', x', ?_, stR_cons (Int.emod_nonneg _ (by omega)) (Int.emod_lt_of_pos _ b0) h2⟩
      rw [List.map_cons, forGo_cons' (e2 := [.val (.int cell), .val S, .val (.int t), .val (.int ((m * 16807 + 54321) % 2147483647)), .own (.lst ((row ++ [(m * 16807 + 54321) % 2147483647 / 64 % b]).map .int)), .val (.int b)]) rfl
        (by simp [hc, dMod_i _ b b0, dMod_i _ 2147483647 (by decide), dFdiv_i _ 64 (by decide) (by decide), mulR _ 16807 (by decide), line_v, hl']), h1]
      simp
theorem row_ok (cell : Int) (q : Bool) (sizes : List Int) (hb : ∀ b ∈ sizes, 0 < b ∧ b < 1073741824) (hl : sizes.length ≤ 1000) :
    ∃ r, f__law_row [.int cell, seqD q (sizes.map .int)] = .ok (.own (.lst (r.map .int))) ∧ stR sizes r := by
  rw [f__law_row, fn_2]
  obtain ⟨r, t', m', x', h1, h2⟩ := row_loop cell (seqD q (sizes.map .int)) sizes [] cell ((cell * 48271 + 12345) % 2147483647) .un hb (by simpa using hl)
  refine ⟨r, ?_, h2⟩
  simp only [List.map_nil, List.nil_append] at h1
  simp [startE, List.replicate, dMod_i _ 2147483647 (by decide), mulR _ 48271 (by decide), h1]
end Lw
namespace Lw
open M
/-! ### is_integer, is_state -/
def isI : D → Bool
  | .int _ => true | _ => false
theorem is_integer_ok (d : D) (h : plainD d = true) : f_is_integer [d] = .ok (.val (.bl (isI d))) := by
  rw [f_is_integer, fn_1]
  cases d <;> first | (simp [plainD, tyD] at h; done) | simp [startE, List.replicate, dIsi, tyD, subTy, isI]
@[simp] theorem is_integer_i (i : Int) : f_is_integer [.int i] = .ok (.val (.bl true)) := is_integer_ok _ rfl
@[simp] theorem is_integer_b (i : Bool) : f_is_integer [.bl i] = .ok (.val (.bl false)) := is_integer_ok _ rfl
@[simp] theorem is_integer_n : f_is_integer [.non] = .ok (.val (.bl false)) := is_integer_ok _ rfl
@[simp] theorem is_integer_s (s : PySem.Str) : f_is_integer [.str s] = .ok (.val (.bl false)) := is_integer_ok _ rfl
@[simp] theorem is_integer_t (s : List D) : f_is_integer [.tup s] = .ok (.val (.bl false)) := is_integer_ok _ rfl
@[simp] theorem is_integer_l (s : List D) : f_is_integer [.lst s] = .ok (.val (.bl false)) := is_integer_ok _ rfl
def stB (c s : List Int) : Bool := decide (s.length = c.length) && (s.zip c).all fun p => decide (0 ≤ p.1) && decide (p.1 < p.2)
theorem state_loop (c0 s0 : D) : ∀ (s c : List Int) (x y : Sl), ∃ x' y', forGo (gTup [gName 2, gName 3]) (sIf (tOr (tNot (tVal (eCall f_is_integer (aCons (eVar 2) aNil)))) (tNot (tVal (eChain dLe dLt (eC (.int 0)) (eVar 2) (eVar 3))))) (sRet (eC (.bl false))) sNext) (pairL (s.map .int) (c.map .int)) [.val c0, .val s0, x, y] =
    if ((s.zip c).all fun p => decide (0 ≤ p.1) && decide (p.1 < p.2)) = true then .next [.val c0, .val s0, x', y'] else .ret (.val (.bl false))
  | [], c, x, y => ⟨x, y, by cases c <;> simp [pairL]⟩
  | a :: s, [], x, y => ⟨x, y, by simp [pairL]⟩
  | a :: s, b :: c, x, y => by
    obtain ⟨x', y', ih⟩ := state_loop c0 s0 s c (.val (.int a)) (.val (.int b))
    refine ⟨x', y', ?_⟩
    show forGo _ _ (.tup [.int a, .int b] :: pairL (s.map .int) (c.map .int)) _ = _
    by_cases h1 : 0 ≤ a
    · by_cases h2 : a < b
      · rw [forGo_cons' (e2 := [.val c0, .val s0, .val (.int a), .val (.int b)]) gTup2 (by simp [h1, h2]), ih, List.zip_cons_cons, List.all_cons]
        simp only [h1, h2, decide_true, Bool.true_and]
      · rw [forGo_ret (r := .val (.bl false)) gTup2 (by simp [h1, h2])]
        simp [h1, h2]
    · rw [forGo_ret (r := .val (.bl false)) gTup2 (by simp [h1])]
      simp [h1]
theorem is_state_ok (c s : List Int) : f_is_state [.tup (c.map .int), .tup (s.map .int)] = .ok (.val (.bl (stB c s))) := by
  rw [f_is_state, fn_2]
  unfold stB
  obtain ⟨x', y', lp⟩ := state_loop (.tup (c.map .int)) (.tup (s.map .int)) s c .un .un
  by_cases h : s.length = c.length
  · have z : dZip [.tup (s.map .int), .tup (c.map .int)] = .ok (pairL (s.map .int) (c.map .int)) := rfl
    cases q : (s.zip c).all (fun p => decide (0 ≤ p.1) && decide (p.1 < p.2)) with
    | true => rw [q] at lp; simp [startE, List.replicate, h, z, lp]
    | false => rw [q] at lp; simp [startE, List.replicate, h, z, lp]
  · have h' : ¬ (s.length : Int) = c.length := by omega
    simp [startE, List.replicate, h, h']
end Lw
namespace Lw
open M
/-! ### is_act, is_scene -/
def actB (c : List Int) : D → Bool
  | .tup [.int i, .str s, .int k] => decide (0 ≤ i) && decide (i < c.length) && (if s = "set" then decide (0 ≤ k) && decide (k < c.getD i.toNat 0) else s == "step" && (decide (1 ≤ k) && decide (k < c.getD i.toNat 0)))
  | _ => false
def goodA : D → Prop
  | .tup [a, b, e] => plainD a = true ∧ plainD b = true ∧ plainD e = true ∧ ∀ s, b = .str s → strOk s = true
  | d => plainD d = true
theorem is_act_3 (c : List Int) (i k : Int) (s : PySem.Str) (hs : strOk s = true) : f_is_act [.tup (c.map .int), .tup [.int i, .str s, .int k]] = .ok (.val (.bl (actB c (.tup [.int i, .str s, .int k])))) := by
  rw [f_is_act, fn_2]
  unfold actB
  have e1 := dEq_s hs (b := "set") (by decide +kernel)
  have e2 := dEq_s hs (b := "step") (by decide +kernel)
  by_cases h1 : 0 ≤ i
  · by_cases h2 : i < c.length
    · have ix := dIx_getDi (xs := c) h1 h2
      by_cases q : s = "set"
      · subst q
        have e0 : dEq (.str "set") (.str "set") = .ok (.bl true) := dEq_refl (by decide +kernel)
        by_cases h3 : 0 ≤ k
        · simp [startE, List.replicate, e0, h1, h2, h3, ix]
        · simp [startE, List.replicate, e0, h1, h2, h3, ix]
      · have q' : (s == "set") = false := by simpa using q
        by_cases q2 : s = "step"
        · subst q2
          have e0 : dEq (.str "step") (.str "step") = .ok (.bl true) := dEq_refl (by decide +kernel)
          by_cases h3 : 1 ≤ k
          · simp [startE, List.replicate, e0, e1, q', h1, h2, h3, ix, q]
          · simp [startE, List.replicate, e0, e1, q', h1, h2, h3, ix, q]
        · have q2' : (s == "step") = false := by simpa using q2
          simp [startE, List.replicate, e1, e2, h1, h2, ix, q, q', q2, q2']
    · simp [startE, List.replicate, h1, h2]
  · simp [startE, List.replicate, h1]
theorem is_act_len (c : List Int) (ds : List D) (h : ds.length ≠ 3) : f_is_act [.tup (c.map .int), .tup ds] = .ok (.val (.bl false)) := by
  rw [f_is_act, fn_2]
  have h' : ¬ (ds.length : Int) = 3 := by omega
  simp [startE, List.replicate, h']
theorem is_act_not (c : List Int) (d : D) (h : plainD d = true) (hn : ∀ ds, d ≠ .tup ds) : f_is_act [.tup (c.map .int), d] = .ok (.val (.bl false)) := by
  rw [f_is_act, fn_2]
  cases d <;> first | (simp [plainD, tyD] at h; done) | exact absurd rfl (hn _) | simp [startE, List.replicate, dIsi, tyD, subTy]
theorem actB_len {c : List Int} {ds : List D} (h : ds.length ≠ 3) : actB c (.tup ds) = false := by
  unfold actB
  split
  · rename_i q
    cases q
    exact absurd rfl h
  · rfl
theorem is_act_ok (c : List Int) (d : D) (h : goodA d) : f_is_act [.tup (c.map .int), d] = .ok (.val (.bl (actB c d))) := by
  match d, h with
  | .tup [a, b, e], h =>
    obtain ⟨ha, hb, he, hs⟩ := h
    match a, b, e, ha, hb, he, hs with
    | .int i, .str s, .int k, _, _, _, hs => exact is_act_3 c i k s (hs s rfl)
    | .int i, .str s, .non, _, _, _, hs | .int i, .str s, .bl _, _, _, _, hs | .int i, .str s, .str _, _, _, _, hs | .int i, .str s, .tup _, _, _, _, hs | .int i, .str s, .lst _, _, _, _, hs =>
      rw [f_is_act, fn_2]
      by_cases h1 : 0 ≤ i
      · by_cases h2 : i < c.length
        · simp [startE, List.replicate, h1, h2, actB]
        · simp [startE, List.replicate, h1, h2, actB]
      · simp [startE, List.replicate, h1, actB]
    | .int i, .non, e, _, _, _, _ | .int i, .bl _, e, _, _, _, _ | .int i, .int _, e, _, _, _, _ | .int i, .tup _, e, _, _, _, _ | .int i, .lst _, e, _, _, _, _ =>
      rw [f_is_act, fn_2]
      by_cases h1 : 0 ≤ i
      · by_cases h2 : i < c.length
        · simp [startE, List.replicate, h1, h2, actB, dIsi, tyD, subTy]
        · simp [startE, List.replicate, h1, h2, actB]
      · simp [startE, List.replicate, h1, actB]
    | .non, b, e, _, _, _, _ | .bl _, b, e, _, _, _, _ | .str _, b, e, _, _, _, _ | .tup _, b, e, _, _, _, _ | .lst _, b, e, _, _, _, _ =>
      rw [f_is_act, fn_2]
      simp [startE, List.replicate, actB]
    | .ty _, b, e, ha, _, _, _ => cases ha
    | .cls _, b, e, ha, _, _, _ => cases ha
    | .int i, .ty _, e, _, hb, _, _ => cases hb
    | .int i, .cls _, e, _, hb, _, _ => cases hb
    | .int i, .str s, .ty _, _, _, he, _ => cases he
    | .int i, .str s, .cls _, _, _, he, _ => cases he
  | .tup [], _ => rw [actB_len (by simp)]; exact is_act_len c [] (by simp)
  | .tup [a], _ => rw [actB_len (by simp)]; exact is_act_len c [a] (by simp)
  | .tup [a, b], _ => rw [actB_len (by simp)]; exact is_act_len c [a, b] (by simp)
  | .tup (a :: b :: e :: f :: r), _ => rw [actB_len (by simp)]; exact is_act_len c (a :: b :: e :: f :: r) (by simp)
  | .non, h => exact is_act_not c _ h (fun ds e => nomatch e)
  | .bl _, h => exact is_act_not c _ h (fun ds e => nomatch e)
  | .int _, h => exact is_act_not c _ h (fun ds e => nomatch e)
  | .str _, h => exact is_act_not c _ h (fun ds e => nomatch e)
  | .lst _, h => exact is_act_not c _ h (fun ds e => nomatch e)
  | .ty _, h => cases h
  | .cls _, h => cases h
def dev0 : D → Int
  | .tup (.int i :: _) => i
  | _ => 0
def scB (c : List Int) : Int → List D → Bool
  | _, [] => true
  | last, d :: r => actB c d && decide (last < dev0 d) && scB c (dev0 d) r
theorem actB_dev {c : List Int} {d : D} (h : actB c d = true) : dIx d (.int 0) = .ok (.int (dev0 d)) := by
  unfold actB at h
  split at h
  · exact eqOf rfl
  · cases h
theorem scene_loop (c0 s0 : D) (c : List Int) (hc : c0 = .tup (c.map .int)) : ∀ (ds : List D) (last : Int) (x : Sl), (∀ d ∈ ds, goodA d) → ∃ l' x', forGo (gName 3) (sSeq (sIf (tOr (tNot (tVal (eCall f_is_act (aCons (eVar 0) (aCons (eVar 3) aNil))))) (tVal (eOp2 dLe (eOp2 dIx (eVar 3) (eC (.int 0))) (eVar 2)))) (sRet (eC (.bl false))) sNext)
  (sSet 2 (eOp2 dIx (eVar 3) (eC (.int 0))))) ds [.val c0, .val s0, .val (.int last), x] = if scB c last ds = true then .next [.val c0, .val s0, .val (.int l'), x'] else .ret (.val (.bl false))
  | [], last, x, _ => ⟨last, x, by simp [scB]⟩
  | d :: ds, last, x, h => by
    obtain ⟨l', x', ih⟩ := scene_loop c0 s0 c hc ds (dev0 d) (.val d) fun d hd => h d (List.mem_cons_of_mem _ hd)
    refine ⟨l', x', ?_⟩
    have ha := is_act_ok c d (h d List.mem_cons_self)
    subst hc
    cases q : actB c d with
    | false =>
      rw [q] at ha
      rw [forGo_ret (r := .val (.bl false)) rfl (by simp [ha])]
      simp [scB, q]
    | true =>
      rw [q] at ha
      have hd := actB_dev q
      by_cases hl : last < dev0 d
      · have hl' : ¬ dev0 d ≤ last := by omega
        rw [forGo_cons' (e2 := [.val (.tup (c.map .int)), .val s0, .val (.int (dev0 d)), .val d]) rfl (by simp [ha, hd, hl']), ih]
        simp only [scB, q, hl, decide_true, Bool.true_and]
      · have hl' : dev0 d ≤ last := by omega
        rw [forGo_ret (r := .val (.bl false)) rfl (by simp [ha, hd, hl'])]
        simp [scB, q, hl]
theorem scB_app (c : List Int) : ∀ (xs ys : List D) (last : Int), scB c last (xs ++ ys) = (scB c last xs && scB c ((xs.getLast?.map dev0).getD last) ys)
  | [], ys, last => by simp [scB]
  | x :: xs, ys, last => by
    show (actB c x && decide (last < dev0 x) && scB c (dev0 x) (xs ++ ys)) = (actB c x && decide (last < dev0 x) && scB c (dev0 x) xs && _)
    rw [scB_app c xs ys (dev0 x)]
    cases xs with
    | nil => simp [scB]
    | cons y ys' => simp [List.getLast?_cons, Bool.and_assoc]
/-- one that is no act: no scene -/
theorem scB_bad {c : List Int} : ∀ {ds : List D} {last : Int} {d : D}, d ∈ ds → actB c d = false → scB c last ds = false
  | x :: xs, last, d, hd, h => by
    rcases List.mem_cons.mp hd with e | e
    · subst e; simp [scB, h]
    · simp [scB, scB_bad e h]
/-- the devices rise -/
theorem scB_rise {c : List Int} : ∀ {ds : List D} {last : Int}, scB c last ds = true → (∀ d ∈ ds, last < dev0 d) ∧ ds.Pairwise fun a b => dev0 a < dev0 b
  | [], last, _ => ⟨by simp, List.Pairwise.nil⟩
  | x :: xs, last, h => by
    unfold scB at h
    rw [Bool.and_eq_true, Bool.and_eq_true] at h
    have hl : last < dev0 x := of_decide_eq_true h.1.2
    obtain ⟨h1, h2⟩ := scB_rise h.2
    refine ⟨fun d hd => ?_, List.Pairwise.cons h1 h2⟩
    rcases List.mem_cons.mp hd with e | e
    · subst e; exact hl
    · exact Int.lt_trans hl (h1 d e)
theorem scB_acts {c : List Int} : ∀ {ds : List D} {last : Int}, scB c last ds = true → ∀ d ∈ ds, actB c d = true
  | x :: xs, last, h, d, hd => by
    unfold scB at h
    rw [Bool.and_eq_true, Bool.and_eq_true] at h
    rcases List.mem_cons.mp hd with e | e
    · subst e; exact h.1.1
    · exact scB_acts h.2 d e
/-- two that do not rise: no scene -/
theorem scB_fall {c : List Int} {ds : List D} {last : Int} {i j : Nat} (hij : i < j) (hj : j < ds.length) (h : dev0 ds[j] ≤ dev0 ds[i]) : scB c last ds = false := by
  cases q : scB c last ds with
  | false => rfl
  | true =>
    have p := (scB_rise q).2
    have := List.pairwise_iff_getElem.mp p i j (by omega) hj hij
    omega
theorem is_scene_ok (c : List Int) (ds : List D) (h : ∀ d ∈ ds, goodA d) : f_is_scene [.tup (c.map .int), .tup ds] = .ok (.val (.bl (scB c (-1) ds))) := by
  rw [f_is_scene, fn_2]
  obtain ⟨l', x', lp⟩ := scene_loop (.tup (c.map .int)) (.tup ds) c rfl ds (-1) .un h
  cases q : scB c (-1) ds with
  | true => rw [q] at lp; simp [startE, List.replicate, lp]
  | false => rw [q] at lp; simp [startE, List.replicate, lp]
theorem is_scene_not (c : List Int) (d : D) (h : plainD d = true) (hn : ∀ ds, d ≠ .tup ds) : f_is_scene [.tup (c.map .int), d] = .ok (.val (.bl false)) := by
  rw [f_is_scene, fn_2]
  cases d <;> first | (simp [plainD, tyD] at h; done) | exact absurd rfl (hn _) | simp [startE, List.replicate, dIsi, tyD, subTy]
end Lw
namespace Lw
open M
/-! ### acts, what they do -/
structure Act where
  dev : Nat
  step : Bool
  num : Int
def word (b : Bool) : PySem.Str := if b then "step" else "set"
def actD (a : Act) : D := .tup [.int a.dev, .str (word a.step), .int a.num]
def okA (c : List Int) (a : Act) : Prop := a.dev < c.length ∧ 0 ≤ a.num ∧ a.num < c.getD a.dev 0 ∧ (a.step = true → 1 ≤ a.num)
theorem word_ok (b : Bool) : strOk (word b) = true := by cases b <;> decide +kernel
theorem good_act (a : Act) : goodA (actD a) := ⟨rfl, rfl, rfl, fun s e => by cases e; exact word_ok _⟩
theorem actB_of {c : List Int} {a : Act} (h : okA c a) : actB c (actD a) = true := by
  obtain ⟨h1, h2, h3, h4⟩ := h
  obtain ⟨dv, st, nm⟩ := a
  have e1 : (0 : Int) ≤ (dv : Nat) := by omega
  have e2 : ((dv : Nat) : Int) < c.length := by simp only at h1; omega
  cases st with
  | false =>
    show (decide ((0 : Int) ≤ (dv : Nat)) && decide (((dv : Nat) : Int) < c.length) && (if ("set" : PySem.Str) = "set" then decide (0 ≤ nm) && decide (nm < c.getD ((dv : Nat) : Int).toNat 0) else _)) = true
    rw [if_pos rfl, Int.toNat_natCast, decide_eq_true e1, decide_eq_true e2, decide_eq_true h2, decide_eq_true h3]
    rfl
  | true =>
    have h5 : 1 ≤ nm := h4 rfl
    show (decide ((0 : Int) ≤ (dv : Nat)) && decide (((dv : Nat) : Int) < c.length) && (if ("step" : PySem.Str) = "set" then _ else (("step" : PySem.Str) == "step") && (decide (1 ≤ nm) && decide (nm < c.getD ((dv : Nat) : Int).toNat 0)))) = true
    rw [if_neg (by decide +kernel), Int.toNat_natCast, decide_eq_true e1, decide_eq_true e2, decide_eq_true h5, decide_eq_true h3, beq_self_eq_true]
    rfl
/-- a scene: its devices rise -/
def okS (c : List Int) (acts : List Act) : Prop := (∀ a ∈ acts, okA c a) ∧ acts.Pairwise fun a b => a.dev < b.dev
theorem scB_of {c : List Int} : ∀ {acts : List Act} {last : Int}, okS c acts → (∀ a ∈ acts, last < (a.dev : Int)) → scB c last (acts.map actD) = true
  | [], _, _, _ => rfl
  | a :: r, last, ⟨h1, h2⟩, hl => by
    have p := List.pairwise_cons.mp h2
    show (actB c (actD a) && decide (last < (a.dev : Int)) && scB c (a.dev : Int) (r.map actD)) = true
    rw [actB_of (h1 a List.mem_cons_self), decide_eq_true (hl a List.mem_cons_self), scB_of ⟨fun b hb => h1 b (List.mem_cons_of_mem _ hb), p.2⟩ fun b hb => by have := p.1 b hb; omega]
    rfl
theorem good_acts (acts : List Act) : ∀ d ∈ acts.map actD, goodA d := fun d hd => by
  obtain ⟨a, _, rfl⟩ := List.mem_map.mp hd
  exact good_act a
theorem is_scene_acts {c : List Int} {acts : List Act} (h : okS c acts) : f_is_scene [.tup (c.map .int), .tup (acts.map actD)] = .ok (.val (.bl true)) := by
  rw [is_scene_ok c _ (good_acts acts), scB_of h fun a _ => by omega]
def stepL (c l : List Int) (a : Act) : List Int := l.set a.dev (if a.step then (l.getD a.dev 0 + a.num) % c.getD a.dev 0 else a.num)
def resL (c : List Int) (acts : List Act) (s : List Int) : List Int := acts.foldl (stepL c) s
theorem stepL_len (c l : List Int) (a : Act) : (stepL c l a).length = l.length := by simp [stepL]
theorem stB_iff {c s : List Int} : stB c s = true ↔ s.length = c.length ∧ ∀ i, i < c.length → 0 ≤ s.getD i 0 ∧ s.getD i 0 < c.getD i 0 := by
  unfold stB
  rw [Bool.and_eq_true, decide_eq_true_eq, List.all_eq_true]
  constructor
  · rintro ⟨h1, h2⟩
    refine ⟨h1, fun i hi => ?_⟩
    have hs : i < s.length := by omega
    have z := h2 (s[i], c[i]) (List.mem_iff_getElem.mpr ⟨i, by simp; omega, by simp⟩)
    simp only [Bool.and_eq_true, decide_eq_true_eq] at z
    simpa [List.getD_eq_getElem?_getD, List.getElem?_eq_getElem hs, List.getElem?_eq_getElem hi] using z
  · rintro ⟨h1, h2⟩
    refine ⟨h1, fun p hp => ?_⟩
    obtain ⟨i, hi, e⟩ := List.mem_iff_getElem.mp hp
    have hi' : i < c.length := by simp at hi; omega
    have hs : i < s.length := by omega
    have z := h2 i hi'
    simp only [List.getD_eq_getElem?_getD, List.getElem?_eq_getElem hs, List.getElem?_eq_getElem hi', Option.getD_some] at z
    rw [List.getElem_zip] at e
    rw [← e]
    simpa using z
theorem getD_set {l : List Int} {i j : Nat} {z : Int} (h : i < l.length) : (l.set i z).getD j 0 = if i = j then z else l.getD j 0 := by
  simp only [List.getD_eq_getElem?_getD, List.getElem?_set]
  by_cases e : i = j
  · subst e; simp [h]
  · simp [e]
theorem stB_step {c l : List Int} {a : Act} (h : stB c l = true) (ha : okA c a) : stB c (stepL c l a) = true := by
  rw [stB_iff] at h ⊢
  refine ⟨by rw [stepL_len]; exact h.1, fun i hi => ?_⟩
  unfold stepL
  rw [getD_set (by rw [h.1]; exact ha.1)]
  by_cases e : a.dev = i
  · subst e
    rw [if_pos rfl]
    obtain ⟨h1, h2, h3, h4⟩ := ha
    cases a.step with
    | false => exact ⟨h2, h3⟩
    | true =>
      have : 0 < c.getD a.dev 0 := by omega
      exact ⟨Int.emod_nonneg _ (by omega), Int.emod_lt_of_pos _ this⟩
  · rw [if_neg e]
    exact h.2 i hi
theorem stB_res {c : List Int} : ∀ {acts : List Act} {l : List Int}, stB c l = true → (∀ a ∈ acts, okA c a) → stB c (resL c acts l) = true
  | [], l, h, _ => h
  | a :: r, l, h, ha => stB_res (acts := r) (stB_step h (ha a List.mem_cons_self)) fun b hb => ha b (List.mem_cons_of_mem _ hb)
theorem word_set (b : Bool) : dEq (.str (word b)) (.str "set") = .ok (.bl (!b)) := by
  rw [dEq_s (word_ok b) (by decide +kernel), show (word b == ("set" : PySem.Str)) = !b by cases b <;> decide +kernel]
end Lw
namespace Lw
open M
theorem result_loop (c : List Int) (s0 t0 : D) : ∀ (acts : List Act) (l : List Int) (x y z : Sl), l.length = c.length → (∀ a ∈ acts, okA c a) → ∃ x' y' z', forGo (gTup [gName 4, gName 5, gName 6]) (sIf (tVal (eOp2 dEq (eVar 5) (eC (.str "set")))) (sSetIx 3 (eVar 4) (eVar 6)) (sSetIx 3 (eVar 4) (eOp2 dMod (eOp2 dAdd (eOp2 dIx (ePeek 3) (eVar 4)) (eVar 6)) (eOp2 dIx (eVar 0) (eVar 4)))))
    (acts.map actD) [.val (.tup (c.map .int)), .val s0, .val t0, .own (.lst (l.map .int)), x, y, z] = .next [.val (.tup (c.map .int)), .val s0, .val t0, .own (.lst ((resL c acts l).map .int)), x', y', z']
  | [], l, x, y, z, _, _ => ⟨x, y, z, rfl⟩
  | a :: r, l, x, y, z, hl, ha => by
    obtain ⟨h1, h2, h3, h4⟩ := ha a List.mem_cons_self
    obtain ⟨x', y', z', ih⟩ := result_loop c s0 t0 r (stepL c l a) (.val (.int a.dev)) (.val (.str (word a.step))) (.val (.int a.num)) (by rw [stepL_len]; exact hl) fun b hb => ha b (List.mem_cons_of_mem _ hb)
    refine ⟨x', y', z', ?_⟩
    show forGo _ _ (.tup [.int a.dev, .str (word a.step), .int a.num] :: r.map actD) _ = _
    have hx := ixN_lt (n := l.length) (k := a.dev) (by omega)
    have e1 := dIx_getDl (xs := l) (k := a.dev) (by omega)
    have e2 := dIx_getD (xs := c) (k := a.dev) h1
    have hm := dMod_i (l.getD a.dev 0 + a.num) (c.getD a.dev 0) (by omega)
    rw [forGo_cons' (e2 := [.val (.tup (c.map .int)), .val s0, .val t0, .own (.lst ((stepL c l a).map .int)), .val (.int a.dev), .val (.str (word a.step)), .val (.int a.num)]) gTup3 ?_]
    · exact ih
    · cases q : a.step with
      | false => simp [word_set, hx, stepL, q]
      | true => simp [word_set, hx, e1, e2, hm, stepL, q, -List.getD_eq_getElem?_getD]
theorem result_ok {c s : List Int} {acts : List Act} (h : s.length = c.length) (ha : ∀ a ∈ acts, okA c a) : f_scene_result [.tup (c.map .int), .tup (acts.map actD), .tup (s.map .int)] = .ok (.val (.tup ((resL c acts s).map .int))) := by
  rw [f_scene_result, fn_3]
  obtain ⟨x', y', z', lp⟩ := result_loop c (.tup (acts.map actD)) (.tup (s.map .int)) acts s .un .un .un h ha
  simp [startE, List.replicate, lp]
end Lw
namespace Lw
open M
/-- the numbers of levels -/
def okC (c : List Int) : Prop := 1 ≤ c.length ∧ c.length ≤ 16 ∧ ∀ b ∈ c, 2 ≤ b ∧ b ≤ 5
theorem okC_at {c : List Int} (h : okC c) {i : Nat} (hi : i < c.length) : 2 ≤ c.getD i 0 ∧ c.getD i 0 ≤ 5 := by
  have := h.2.2 c[i] (List.getElem_mem hi)
  simpa [List.getD_eq_getElem?_getD, List.getElem?_eq_getElem hi] using this
end Lw
namespace Lw
open M
theorem okC_pos {c : List Int} (h : okC c) : ∀ i, i < c.length → 0 < c.getD i 0 ∧ c.getD i 0 ≤ 5 := fun i hi => by
  have := okC_at h hi; omega
end Lw
namespace Lw
open M
theorem scB_cross {c : List Int} {xs ys : List D} {last : Int} {a b : D} (ha : a ∈ xs) (hb : b ∈ ys) (h : dev0 b ≤ dev0 a) : scB c last (xs ++ ys) = false := by
  cases q : scB c last (xs ++ ys) with
  | false => rfl
  | true =>
    have p := (List.pairwise_append.mp (scB_rise q).2).2.2 a ha b hb
    omega
/-- what a wrong row is -/
def Wr (c : List Int) (r : List D) : Prop := (∀ d ∈ r, goodA d) ∧ scB c (-1) r = false
theorem wr_bad {c : List Int} {xs ys : List D} {x : D} (h1 : ∀ d ∈ xs, goodA d) (h2 : ∀ d ∈ ys, goodA d) (hx : goodA x) (hb : actB c x = false) : Wr c (xs ++ x :: ys) :=
  ⟨fun d hd => by
    rcases List.mem_append.mp hd with q | q
    · exact h1 d q
    · rcases List.mem_cons.mp q with q | q
      · subst q; exact hx
      · exact h2 d q, scB_bad (d := x) (by simp) hb⟩
theorem good_t {i k : Int} {s : PySem.Str} (h : strOk s = true) : goodA (.tup [.int i, .str s, .int k]) := ⟨rfl, rfl, rfl, fun t e => by cases e; exact h⟩
theorem actB_lo {c : List Int} {i k : Int} {s : PySem.Str} (h : i < 0) : actB c (.tup [.int i, .str s, .int k]) = false := by
  have : ¬ 0 ≤ i := by omega
  simp [actB, this]
theorem actB_hi {c : List Int} {i k : Int} {s : PySem.Str} (h : (c.length : Int) ≤ i) : actB c (.tup [.int i, .str s, .int k]) = false := by
  have : ¬ i < c.length := by omega
  simp [actB, this]
theorem actB_set {c : List Int} {i : Nat} {k : Int} (h : k < 0 ∨ c.getD i 0 ≤ k) : actB c (.tup [.int i, .str "set", .int k]) = false := by
  have : (decide (0 ≤ k) && decide (k < c.getD i 0)) = false := by
    rcases h with h | h
    · have : ¬ 0 ≤ k := by omega
      simp [this]
    · have : ¬ k < c.getD i 0 := by omega
      simp [this, -List.getD_eq_getElem?_getD]
  show (_ && (if ("set" : PySem.Str) = "set" then _ else _)) = false
  rw [if_pos rfl, Int.toNat_natCast, this, Bool.and_false]
theorem actB_step {c : List Int} {i : Nat} {k : Int} (h : k < 1 ∨ c.getD i 0 ≤ k) : actB c (.tup [.int i, .str "step", .int k]) = false := by
  have : (decide (1 ≤ k) && decide (k < c.getD i 0)) = false := by
    rcases h with h | h
    · have : ¬ 1 ≤ k := by omega
      simp [this]
    · have : ¬ k < c.getD i 0 := by omega
      simp [this, -List.getD_eq_getElem?_getD]
  show (_ && (if ("step" : PySem.Str) = "set" then _ else _ && _)) = false
  rw [if_neg (by decide +kernel), Int.toNat_natCast, this, Bool.and_false, Bool.and_false]
theorem actB_word {c : List Int} {i k : Int} {s : PySem.Str} (h1 : s ≠ "set") (h2 : s ≠ "step") : actB c (.tup [.int i, .str s, .int k]) = false := by
  have : (s == "step") = false := by simpa using h2
  simp [actB, h1, this]
end Lw
namespace Lw
open M
/-! ### scenes by devices -/
abbrev Ac := Bool × Int
def tl (acts : List Act) : List (Nat × Ac) := acts.map fun a => (a.dev, (a.step, a.num))
def pvA (v : Ac) : D := .tup [.str (word v.1), .int v.2]
def doA (n : Int) (o : Option Ac) (x : Int) : Int := match o with
  | none => x | some (false, z) => z | some (true, z) => (x + z) % n
def rise (acts : List Act) : Prop := acts.Pairwise fun a b => a.dev < b.dev
theorem keys_tl (acts : List Act) : keysL (tl acts) = acts.map (·.dev) := by simp [keysL, tl]
theorem nodup_tl {acts : List Act} (h : rise acts) : (keysL (tl acts)).Nodup := by
  rw [keys_tl]
  exact List.Pairwise.map _ (fun a b hab => by omega) h
theorem look_hd {a : Act} {r : List Act} (h : rise (a :: r)) : look (tl r) a.dev = none := by
  rw [look_none, keys_tl]
  intro hm
  obtain ⟨b, hb, e⟩ := List.mem_map.mp hm
  have := (List.pairwise_cons.mp h).1 b hb
  omega
theorem look_tl_cons (a : Act) (r : List Act) (i : Nat) : look (tl (a :: r)) i = if a.dev = i then some (a.step, a.num) else look (tl r) i := rfl
theorem look_ok {c : List Int} {acts : List Act} (h : ∀ a ∈ acts, okA c a) {i : Nat} {v : Ac} (hv : look (tl acts) i = some v) : okA c ⟨i, v.1, v.2⟩ := by
  obtain ⟨a, ha, e⟩ := List.mem_map.mp (look_mem hv)
  obtain ⟨d, s, n⟩ := a
  cases e
  exact h _ ha
theorem stepL_at (c l : List Int) (a : Act) (i : Nat) (h : a.dev < l.length) : (stepL c l a).getD i 0 = if a.dev = i then doA (c.getD i 0) (some (a.step, a.num)) (l.getD i 0) else l.getD i 0 := by
  unfold stepL
  rw [getD_set h]
  by_cases e : a.dev = i
  · subst e
    rw [if_pos rfl, if_pos rfl]
    cases a.step <;> rfl
  · rw [if_neg e, if_neg e]
theorem res_len (c : List Int) : ∀ (acts : List Act) (l : List Int), (resL c acts l).length = l.length
  | [], l => rfl
  | a :: r, l => by
    show (resL c r (stepL c l a)).length = _
    rw [res_len c r, stepL_len]
theorem res_at (c : List Int) (i : Nat) : ∀ (acts : List Act) (l : List Int), rise acts → (∀ a ∈ acts, a.dev < l.length) → (resL c acts l).getD i 0 = doA (c.getD i 0) (look (tl acts) i) (l.getD i 0)
  | [], l, _, _ => rfl
  | a :: r, l, h, hl => by
    have ih := res_at c i r (stepL c l a) (List.pairwise_cons.mp h).2 fun b hb => by rw [stepL_len]; exact hl b (List.mem_cons_of_mem _ hb)
    show (resL c r (stepL c l a)).getD i 0 = _
    rw [ih, look_tl_cons, stepL_at _ _ _ _ (hl a List.mem_cons_self)]
    by_cases e : a.dev = i
    · rw [if_pos e, if_pos e, ← e, look_hd h]
      rfl
    · rw [if_neg e, if_neg e]
theorem ext_getD {a b : List Int} (h : a.length = b.length) (h2 : ∀ i, i < a.length → a.getD i 0 = b.getD i 0) : a = b := by
  apply List.ext_getElem h
  intro i h3 h4
  have := h2 i h3
  simpa [List.getD_eq_getElem?_getD, List.getElem?_eq_getElem h3, List.getElem?_eq_getElem h4] using this
/-! one act behind another one -/
def comb (n : Int) (a b : Option Ac) : Option Ac := match b with
  | none => a
  | some (false, z) => some (false, z)
  | some (true, z) => match a with
    | none => some (true, z)
    | some (e, w) => if e = true ∧ (w + z) % n = 0 then none else some (e, (w + z) % n)
theorem doA_comb {n x : Int} (hn : 0 < n) (h0 : 0 ≤ x) (h1 : x < n) (a b : Option Ac) : doA n (comb n a b) x = doA n b (doA n a x) := by
  match b with
  | none => rfl
  | some (false, z) => rfl
  | some (true, z) =>
    match a with
    | none => rfl
    | some (false, w) =>
      show doA n (if false = true ∧ (w + z) % n = 0 then none else some (false, (w + z) % n)) x = (w + z) % n
      rw [if_neg (by simp)]; rfl
    | some (true, w) =>
      show doA n (if true = true ∧ (w + z) % n = 0 then none else some (true, (w + z) % n)) x = ((x + w) % n + z) % n
      have e : ((x + w) % n + z) % n = (x + (w + z) % n) % n := by
        rw [Int.emod_add_emod, Int.add_emod_emod]; congr 1; omega
      rw [e]
      by_cases q : (w + z) % n = 0
      · rw [if_pos ⟨rfl, q⟩, q, Int.add_zero, Int.emod_eq_of_lt h0 h1]; rfl
      · rw [if_neg (by simp [q])]; rfl
/-! the table of acts -/
def TOk (c : List Int) (l : List (Nat × Ac)) : Prop := (keysL l).Nodup ∧ ∀ i v, look l i = some v → okA c ⟨i, v.1, v.2⟩
theorem TOk_tl {c : List Int} {acts : List Act} (h : okS c acts) : TOk c (tl acts) := ⟨nodup_tl h.2, fun _ _ hv => look_ok h.1 hv⟩
theorem TOk_put {c : List Int} {l : List (Nat × Ac)} {i : Nat} {v : Ac} (h : TOk c l) (hv : okA c ⟨i, v.1, v.2⟩) : TOk c (putL l i v) := by
  refine ⟨nodup_put i v h.1, fun j w hw => ?_⟩
  rw [look_put] at hw
  by_cases e : i = j
  · rw [if_pos e] at hw; cases hw; exact e ▸ hv
  · rw [if_neg e] at hw; exact h.2 j w hw
theorem TOk_pop {c : List Int} {l : List (Nat × Ac)} {i : Nat} (h : TOk c l) : TOk c (popL l i) := by
  refine ⟨nodup_pop i h.1, fun j w hw => ?_⟩
  rw [look_pop] at hw
  by_cases e : i = j
  · rw [if_pos e] at hw; cases hw
  · rw [if_neg e] at hw; exact h.2 j w hw
theorem TOk_keys {c : List Int} {l : List (Nat × Ac)} (h : TOk c l) {i : Nat} (hi : i ∈ keysL l) : i < c.length := by
  obtain ⟨v, hv⟩ := Option.isSome_iff_exists.mp (look_some.mpr hi)
  exact (h.2 i v hv).1
theorem TOk_len {c : List Int} {l : List (Nat × Ac)} (h : TOk c l) : l.length ≤ c.length := by
  have h1 : ((keysL l).map fun n : Nat => (n : Int)).Nodup := List.Pairwise.map _ (fun a b hab => by omega) h.1
  have := rise_len (sortI_lt h1) (lo := 0) (hi := c.length) (fun x hx => by
    obtain ⟨n, hn, rfl⟩ := List.mem_map.mp (sortI_mem.mp hx)
    have := TOk_keys h hn
    omega) (by omega)
  rw [sortI_len] at this
  simp [keysL] at this
  omega
end Lw
namespace Lw
open M
theorem demand_ok {c : List Int} {acts : List Act} (h : okS c acts) : f_demand_scene [.tup (c.map .int), .tup (acts.map actD)] = .ok (.val .non) := by
  rw [f_demand_scene, fn_2]
  simp [startE, List.replicate, is_scene_acts h]
theorem demand_bad {c : List Int} {x : D} (h : f_is_scene [.tup (c.map .int), x] = .ok (.val (.bl false))) : f_demand_scene [.tup (c.map .int), x] = .exc ⟨6, []⟩ := by
  rw [f_demand_scene, fn_2]
  simp [startE, List.replicate, h]
end Lw
namespace Lw
open M
theorem okA_act (a : Act) : okN 63 (actD a) = true := by
  have : okN 61 (.str (word a.step)) = true := okN_str (word_ok _)
  show okNs 62 [.int a.dev, .str (word a.step), .int a.num] = true
  exact okNs_all fun x hx => by
    simp only [List.mem_cons, List.mem_nil_iff, or_false] at hx
    rcases hx with rfl | rfl | rfl
    · exact okN_int
    · exact okN_str (word_ok _)
    · exact okN_int
theorem okD_acts (acts : List Act) : okD (.tup (acts.map actD)) = true := okN_tup (okNs_all fun x hx => by
  obtain ⟨a, _, rfl⟩ := List.mem_map.mp hx
  exact okA_act a)
end Lw
namespace Lw
open M
theorem okS_len {c : List Int} {acts : List Act} (h : okS c acts) : acts.length ≤ c.length := by
  have := TOk_len (TOk_tl h)
  simpa [tl] using this
end Lw
namespace Lw
open M
theorem table_loop (s0 : D) : ∀ (acts : List Act) (l : List (Nat × Ac)), l.length + acts.length < 1000 → rise acts → (∀ a ∈ acts, a.dev ∉ keysL l) →
    dcGo (gTup [(gName 1), (gName 2), (gName 3)]) tTrue (eVar 1) (eTup (aCons (eVar 2) (aCons (eVar 3) aNil))) (acts.map actD) [.val s0, .un, .un, .un] (dK kN l) (dV pvA l) = .ok (.dct (dK kN (l ++ tl acts)) (dV pvA (l ++ tl acts)))
  | [], l, _, _, _ => by simp [dcGo, tl]
  | a :: r, l, hl, hr, hk => by
    have p := List.pairwise_cons.mp hr
    have e1 : putL l a.dev (a.step, a.num) = l ++ [(a.dev, (a.step, a.num))] := by
      unfold putL
      rw [if_neg fun q => hk a List.mem_cons_self (look_some.mp q)]
    have ih := table_loop s0 r (l ++ [(a.dev, (a.step, a.num))]) (by simp at hl ⊢; omega) p.2 (fun b hb hm => by
      have : keysL (l ++ [(a.dev, (a.step, a.num))]) = keysL l ++ [a.dev] := by simp [keysL]
      rw [this] at hm
      rcases List.mem_append.mp hm with q | q
      · exact hk b (List.mem_cons_of_mem _ hb) q
      · have := p.1 b hb
        rw [List.mem_singleton.mp q] at this; omega)
    show dcGo _ _ _ _ (.tup [.int a.dev, .str (word a.step), .int a.num] :: r.map actD) _ _ _ = _
    unfold dcGo
    rw [gTup3]
    simp only [tTrue_a, Out.calm, Out.bind_ok, if_true]
    have hln : l.length < 16777216 := by simp at hl; omega
    have k1 := putKs_l keysN l a.dev (a.step, a.num)
    have k2 := putVs_l pvA keysN l a.dev (a.step, a.num)
    rw [e1] at k1 k2
    simp [keyOk, line_v, hln]
    rw [show D.int a.dev = kN a.dev from rfl, show D.tup [.str (word a.step), .int a.num] = pvA (a.step, a.num) from rfl, k1, k2, ih]
    simp [tl]
theorem table_ok {c : List Int} {acts : List Act} (h : okS c acts) (hn : acts.length ≤ 100) : f_act_table [.tup (acts.map actD)] = .ok (.own (.dct (dK kN (tl acts)) (dV pvA (tl acts)))) := by
  rw [f_act_table, fn_1]
  have := table_loop (.tup (acts.map actD)) acts [] (by simp; omega) h.2 (fun a _ => by simp [keysL])
  simp only [List.nil_append] at this
  have e : ∀ env : Env, fDC [1, 2, 3] (iSeq (eVar 0)) (gTup [(gName 1), (gName 2), (gName 3)]) tTrue (eVar 1) (eTup (aCons (eVar 2) (aCons (eVar 3) aNil))) env = (iSeq (eVar 0) env).bind fun ds => dcGo (gTup [(gName 1), (gName 2), (gName 3)]) tTrue (eVar 1) (eTup (aCons (eVar 2) (aCons (eVar 3) aNil))) ds (wipeE env [1, 2, 3]) [] [] := fun _ => rfl
  simp only [sRetF_a, e]
  simp [startE, List.replicate]
  rw [show (dcGo _ _ _ _ _ _ [] [] : Out Own) = _ from this]
  simp
theorem sceneOf_ok {c : List Int} {l : List (Nat × Ac)} (h : TOk c l) (hc : c.length ≤ 16) : ∃ acts, f_scene_of [.dct (dK kN l) (dV pvA l)] = .ok (.val (.tup (acts.map actD))) ∧ okS c acts ∧ ∀ i, look (tl acts) i = look l i := by
  have hl := TOk_len h
  obtain ⟨ks, hks⟩ : ∃ ks, ks = sortI (l.map fun p => (p.1 : Int)) := ⟨_, rfl⟩
  have nd : (l.map fun p => (p.1 : Int)).Nodup := by
    have : l.map (fun p => (p.1 : Int)) = (keysL l).map fun n : Nat => (n : Int) := by simp [keysL]
    rw [this]
    exact List.Pairwise.map _ (fun a b hab => by omega) h.1
  have up : ks.Pairwise (· < ·) := hks ▸ sortI_lt nd
  have kl : ks.length ≤ 16 := by rw [hks, sortI_len]; simp; omega
  obtain ⟨g, hg⟩ : ∃ g : Int → Act, g = fun z => match look l z.toNat with | some v => ⟨z.toNat, v.1, v.2⟩ | none => ⟨z.toNat, false, 0⟩ := ⟨_, rfl⟩
  have mem : ∀ z ∈ ks, ∃ n v, z = (n : Nat) ∧ look l n = some v ∧ g z = ⟨n, v.1, v.2⟩ := by
    intro z hz
    rw [hks] at hz
    obtain ⟨p, hp, rfl⟩ := List.mem_map.mp (sortI_mem.mp hz)
    have := look_of_mem (k := p.1) (v := p.2) h.1 hp
    exact ⟨p.1, p.2, rfl, this, by simp [hg, this]⟩
  have gd : ∀ z ∈ ks, ((g z).dev : Int) = z := fun z hz => by
    obtain ⟨n, v, e1, _, e2⟩ := mem z hz
    rw [e2, e1]
  have rs : rise (ks.map g) := by
    refine List.pairwise_map.mpr (List.Pairwise.imp_of_mem ?_ up)
    intro a b ha hb hab
    have := gd a ha
    have := gd b hb
    omega
  refine ⟨ks.map g, ?_, ⟨fun a ha => ?_, rs⟩, fun i => ?_⟩
  · rw [f_scene_of, fn_1]
    have ds := dSorted_d (l.map fun p => (p.1 : Int)) (dV pvA l) (by simp; omega)
    rw [← hks] at ds
    have e0 : dK kN l = (l.map fun p => (p.1 : Int)).map .int := by simp [dK, kN]
    rw [e0]
    have lc : ∀ env : Env, env.length = 2 → env[0]? = some (.val (.dct ((l.map fun p => (p.1 : Int)).map .int) (dV pvA l))) → lcGo (gName 1) tTrue (eOp2 dAdd (eTup (aCons (eVar 1) aNil)) (eOp2 dIx (eVar 0) (eVar 1))) (ks.map .int) env [] = .ok ((ks.map g).map actD) := by
      intro env he h0
      rw [lc_map (fun d => match d with | .int z => actD (g z) | d => d) (ks.map .int) (fun d hd => by
        obtain ⟨z, hz, rfl⟩ := List.mem_map.mp hd
        obtain ⟨n, v, e1, e2, e3⟩ := mem z hz
        refine ⟨_, rfl, ?_⟩
        have x := dIx_d pvA keysN okKN e2
        rw [e0, show kN n = D.int z by rw [e1]; rfl] at x
        have y : dAdd (.tup [.int z]) (pvA v) = .ok (actD (g z)) := by
          rw [e3, e1]
          exact dAdd_t (by simp [line_v])
        have h1 : 1 < env.length := by omega
        simp only [eOp2_a, eTup_a, aCons_a, aNil_a, eVar_a, List.getElem?_set, h0]
        simp [h1, x, -List.map_map]
        exact y) (by simp; omega)]
      simp
    simp only [sRet_a, eB_a, aCons_a, eShare_a, fComp_a]
    simp [startE, List.replicate, -List.map_map]
    rw [show dSorted _ = _ from ds]
    simp [-List.map_map]
    rw [show lcGo _ _ _ _ _ _ = _ from lc _ rfl rfl]
    simp
  · obtain ⟨z, hz, rfl⟩ := List.mem_map.mp ha
    obtain ⟨n, v, _, e2, e3⟩ := mem z hz
    rw [e3]; exact h.2 n v e2
  · cases q : look l i with
    | none =>
      rw [look_none, keys_tl]
      intro hm
      obtain ⟨a, ha, e⟩ := List.mem_map.mp hm
      obtain ⟨z, hz, rfl⟩ := List.mem_map.mp ha
      obtain ⟨n, v, _, e2, e3⟩ := mem z hz
      rw [e3] at e
      have e : n = i := e
      rw [← e, e2] at q; cases q
    | some v =>
      apply look_of_mem (nodup_tl rs)
      have hi : (i : Int) ∈ ks := by
        rw [hks]
        exact sortI_mem.mpr (List.mem_map.mpr ⟨(i, v), look_mem q, rfl⟩)
      refine List.mem_map.mpr ⟨g i, List.mem_map.mpr ⟨_, hi, rfl⟩, ?_⟩
      obtain ⟨n, w, e1, e2, e3⟩ := mem _ hi
      have : i = n := by omega
      subst this
      rw [q] at e2; cases e2
      rw [e3]
theorem then_loop (c : List Int) (f0 s0 : D) (hc : c.length ≤ 16) (hp : ∀ i, i < c.length → 0 < c.getD i 0) : ∀ (acts : List Act) (l : List (Nat × Ac)) (x1 x2 x3 x4 x5 x6 : Sl), okS c acts → TOk c l →
    ∃ l' y1 y2 y3 y4 y5 y6, forGo (gTup [(gName 4), (gName 5), (gName 6)]) (sSeq (sIf (tOr (tVal (eOp2 dEq (eVar 5) (eC (.str "set")))) (tVal (eOp2 dNotIn (eVar 4) (ePeek 3)))) (sSeq (sPut 3 (eVar 4) (eTup (aCons (eVar 5) (aCons (eVar 6) aNil))))
  sCont) sNext)
  (sSeq (sSetTg (gTup [(gName 7), (gName 8)]) (eOp2 dIx (ePeek 3) (eVar 4)))
  (sSeq (sSet 9 (eOp2 dMod (eOp2 dAdd (eVar 8) (eVar 6)) (eOp2 dIx (eVar 0) (eVar 4))))
  (sIf (tAnd (tVal (eOp2 dEq (eVar 7) (eC (.str "step")))) (tVal (eOp2 dEq (eVar 9) (eC (.int 0))))) (sPop 3 (eVar 4)) (sPut 3 (eVar 4) (eTup (aCons (eVar 7) (aCons (eVar 9) aNil)))))))) (acts.map actD) [.val (.tup (c.map .int)), .val f0, .val s0, .own (.dct (dK kN l) (dV pvA l)), x1, x2, x3, x4, x5, x6] =
      .next [.val (.tup (c.map .int)), .val f0, .val s0, .own (.dct (dK kN l') (dV pvA l')), y1, y2, y3, y4, y5, y6] ∧ TOk c l' ∧ ∀ i, look l' i = comb (c.getD i 0) (look l i) (look (tl acts) i)
  | [], l, x1, x2, x3, x4, x5, x6, _, h => ⟨l, x1, x2, x3, x4, x5, x6, rfl, h, fun _ => rfl⟩
  | a :: r, l, x1, x2, x3, x4, x5, x6, ha, h => by
    have ok := ha.1 a List.mem_cons_self
    have hr : okS c r := ⟨fun b hb => ha.1 b (List.mem_cons_of_mem _ hb), (List.pairwise_cons.mp ha.2).2⟩
    have hl := TOk_len h
    have hll : l.length < line := by rw [line_v]; omega
    have fin : ∀ (l1 : List (Nat × Ac)) (z4 z5 z6 : Sl), TOk c l1 → (∀ i, look l1 i = if a.dev = i then comb (c.getD a.dev 0) (look l a.dev) (some (a.step, a.num)) else look l i) →
        (∃ e2, ((sSeq (sIf (tOr (tVal (eOp2 dEq (eVar 5) (eC (.str "set")))) (tVal (eOp2 dNotIn (eVar 4) (ePeek 3)))) (sSeq (sPut 3 (eVar 4) (eTup (aCons (eVar 5) (aCons (eVar 6) aNil))))
  sCont) sNext)
  (sSeq (sSetTg (gTup [(gName 7), (gName 8)]) (eOp2 dIx (ePeek 3) (eVar 4)))
  (sSeq (sSet 9 (eOp2 dMod (eOp2 dAdd (eVar 8) (eVar 6)) (eOp2 dIx (eVar 0) (eVar 4))))
  (sIf (tAnd (tVal (eOp2 dEq (eVar 7) (eC (.str "step")))) (tVal (eOp2 dEq (eVar 9) (eC (.int 0))))) (sPop 3 (eVar 4)) (sPut 3 (eVar 4) (eTup (aCons (eVar 7) (aCons (eVar 9) aNil)))))))) [.val (.tup (c.map .int)), .val f0, .val s0, .own (.dct (dK kN l) (dV pvA l)), .val (.int a.dev), .val (.str (word a.step)), .val (.int a.num), x4, x5, x6] = .next e2 ∨
          (sSeq (sIf (tOr (tVal (eOp2 dEq (eVar 5) (eC (.str "set")))) (tVal (eOp2 dNotIn (eVar 4) (ePeek 3)))) (sSeq (sPut 3 (eVar 4) (eTup (aCons (eVar 5) (aCons (eVar 6) aNil))))
  sCont) sNext)
  (sSeq (sSetTg (gTup [(gName 7), (gName 8)]) (eOp2 dIx (ePeek 3) (eVar 4)))
  (sSeq (sSet 9 (eOp2 dMod (eOp2 dAdd (eVar 8) (eVar 6)) (eOp2 dIx (eVar 0) (eVar 4))))
  (sIf (tAnd (tVal (eOp2 dEq (eVar 7) (eC (.str "step")))) (tVal (eOp2 dEq (eVar 9) (eC (.int 0))))) (sPop 3 (eVar 4)) (sPut 3 (eVar 4) (eTup (aCons (eVar 7) (aCons (eVar 9) aNil)))))))) [.val (.tup (c.map .int)), .val f0, .val s0, .own (.dct (dK kN l) (dV pvA l)), .val (.int a.dev), .val (.str (word a.step)), .val (.int a.num), x4, x5, x6] = .cont e2) ∧ e2 = [.val (.tup (c.map .int)), .val f0, .val s0, .own (.dct (dK kN l1) (dV pvA l1)), .val (.int a.dev), .val (.str (word a.step)), .val (.int a.num), z4, z5, z6]) →
        ∃ l' y1 y2 y3 y4 y5 y6, forGo (gTup [(gName 4), (gName 5), (gName 6)]) (sSeq (sIf (tOr (tVal (eOp2 dEq (eVar 5) (eC (.str "set")))) (tVal (eOp2 dNotIn (eVar 4) (ePeek 3)))) (sSeq (sPut 3 (eVar 4) (eTup (aCons (eVar 5) (aCons (eVar 6) aNil))))
  sCont) sNext)
  (sSeq (sSetTg (gTup [(gName 7), (gName 8)]) (eOp2 dIx (ePeek 3) (eVar 4)))
  (sSeq (sSet 9 (eOp2 dMod (eOp2 dAdd (eVar 8) (eVar 6)) (eOp2 dIx (eVar 0) (eVar 4))))
  (sIf (tAnd (tVal (eOp2 dEq (eVar 7) (eC (.str "step")))) (tVal (eOp2 dEq (eVar 9) (eC (.int 0))))) (sPop 3 (eVar 4)) (sPut 3 (eVar 4) (eTup (aCons (eVar 7) (aCons (eVar 9) aNil)))))))) ((a :: r).map actD) [.val (.tup (c.map .int)), .val f0, .val s0, .own (.dct (dK kN l) (dV pvA l)), x1, x2, x3, x4, x5, x6] =
      .next [.val (.tup (c.map .int)), .val f0, .val s0, .own (.dct (dK kN l') (dV pvA l')), y1, y2, y3, y4, y5, y6] ∧ TOk c l' ∧ ∀ i, look l' i = comb (c.getD i 0) (look l i) (look (tl (a :: r)) i) := by
      intro l1 z4 z5 z6 t1 t2 ⟨e2, hb, he⟩
      obtain ⟨l', y1, y2, y3, y4, y5, y6, k1, k2, k3⟩ := then_loop c f0 s0 hc hp r l1 (.val (.int a.dev)) (.val (.str (word a.step))) (.val (.int a.num)) z4 z5 z6 hr t1
      refine ⟨l', y1, y2, y3, y4, y5, y6, ?_, k2, fun i => ?_⟩
      · rw [List.map_cons, forGo_go (d := actD a) (e1 := [.val (.tup (c.map .int)), .val f0, .val s0, .own (.dct (dK kN l) (dV pvA l)), .val (.int a.dev), .val (.str (word a.step)), .val (.int a.num), x4, x5, x6]) rfl hb, he]
        exact k1
      · rw [k3, t2, look_tl_cons]
        by_cases e : a.dev = i
        · rw [if_pos e, if_pos e, ← e, look_hd ha.2]; rfl
        · rw [if_neg e, if_neg e]
    have ni := dNotIn_l pvA keysN okKN l a.dev
    rw [show kN a.dev = D.int a.dev from rfl] at ni
    have pv0 : ∀ v : Ac, pvA v = .tup [.str (word v.1), .int v.2] := fun _ => rfl
    have n0 := hp a.dev ok.1
    cases qs : a.step with
    | false =>
      refine fin (putL l a.dev (false, a.num)) x4 x5 x6 (TOk_put h (by rw [← qs]; exact ok)) (fun i => by rw [look_put, qs]; rfl) ⟨_, .inr ?_, rfl⟩
      have w := word_set false
      have sp := sPut_l (pv := pvA) keysN okKN (i := 3) (k := eVar 4) (v := eTup (aCons (eVar 5) (aCons (eVar 6) aNil))) (env := [.val (.tup (c.map .int)), .val f0, .val s0, .own (.dct (dK kN l) (dV pvA l)), .val (.int a.dev), .val (.str (word false)), .val (.int a.num), x4, x5, x6]) (l := l) (d := a.dev) (w := (false, a.num)) (by simp [pv0]) rfl rfl hll
      simp [qs, w, sp, -sPut_a]
    | true =>
      have w := word_set true
      cases ql : look l a.dev with
      | none =>
        refine fin (putL l a.dev (true, a.num)) x4 x5 x6 (TOk_put h (by rw [← qs]; exact ok)) (fun i => by rw [look_put, qs, ql]; rfl) ⟨_, .inr ?_, rfl⟩
        have sp := sPut_l (pv := pvA) keysN okKN (i := 3) (k := eVar 4) (v := eTup (aCons (eVar 5) (aCons (eVar 6) aNil))) (env := [.val (.tup (c.map .int)), .val f0, .val s0, .own (.dct (dK kN l) (dV pvA l)), .val (.int a.dev), .val (.str (word true)), .val (.int a.num), x4, x5, x6]) (l := l) (d := a.dev) (w := (true, a.num)) (by simp [pv0]) rfl rfl hll
        rw [ql] at ni
        simp [qs, w, sp, ni, -sPut_a]
      | some v =>
        rw [ql] at ni
        obtain ⟨e, am⟩ := v
        have ix := dIx_d pvA keysN okKN ql
        rw [pv0, show kN a.dev = D.int a.dev from rfl] at ix
        have ixc := dIx_getD (xs := c) ok.1
        have mm := dMod_i (am + a.num) (c.getD a.dev 0) n0
        have was := h.2 _ _ ql
        have r1 := Int.emod_nonneg (am + a.num) (show c.getD a.dev 0 ≠ 0 by omega)
        have r2 := Int.emod_lt_of_pos (am + a.num) n0
        have ws : dEq (.str (word e)) (.str "step") = .ok (.bl e) := by
          rw [dEq_s (word_ok e) (by decide +kernel), show (word e == ("step" : PySem.Str)) = e by cases e <;> decide +kernel]
        by_cases hz : e = true ∧ (am + a.num) % c.getD a.dev 0 = 0
        · have e1 := hz.1
          subst e1
          refine fin (popL l a.dev) (.val (.str (word true))) (.val (.int am)) (.val (.int ((am + a.num) % c.getD a.dev 0))) (TOk_pop h) (fun i => by
            rw [look_pop, qs, ql, show comb (c.getD a.dev 0) (some (true, am)) (some (true, a.num)) = none from if_pos hz]) ⟨_, .inl ?_, rfl⟩
          have sp := sPop_l (pv := pvA) keysN okKN (i := 3) (k := eVar 4) (env := [.val (.tup (c.map .int)), .val f0, .val s0, .own (.dct (dK kN l) (dV pvA l)), .val (.int a.dev), .val (.str (word true)), .val (.int a.num), .val (.str (word true)), .val (.int am), .val (.int ((am + a.num) % c.getD a.dev 0))]) (l := l) (d := a.dev) rfl rfl (by rw [ql]; rfl)
          have hz2 := hz.2
          simp [qs, w, ni, ix, ixc, mm, ws, -sPop_a, -List.getD_eq_getElem?_getD]
          simp only [hz2] at sp ⊢
          simp [sp, -sPop_a]
        · refine fin (putL l a.dev (e, (am + a.num) % c.getD a.dev 0)) (.val (.str (word e))) (.val (.int am)) (.val (.int ((am + a.num) % c.getD a.dev 0))) (TOk_put h ⟨ok.1, r1, r2, fun q => by
            have : ¬ (am + a.num) % c.getD a.dev 0 = 0 := fun q2 => hz ⟨q, q2⟩
            show 1 ≤ (am + a.num) % c.getD a.dev 0
            omega⟩) (fun i => by
            rw [look_put, qs, ql, show comb (c.getD a.dev 0) (some (e, am)) (some (true, a.num)) = some (e, (am + a.num) % c.getD a.dev 0) from if_neg hz]) ⟨_, .inl ?_, rfl⟩
          have sp := sPut_l (pv := pvA) keysN okKN (i := 3) (k := eVar 4) (v := eTup (aCons (eVar 7) (aCons (eVar 9) aNil))) (env := [.val (.tup (c.map .int)), .val f0, .val s0, .own (.dct (dK kN l) (dV pvA l)), .val (.int a.dev), .val (.str (word true)), .val (.int a.num), .val (.str (word e)), .val (.int am), .val (.int ((am + a.num) % c.getD a.dev 0))]) (l := l) (d := a.dev) (w := (e, (am + a.num) % c.getD a.dev 0)) (by simp [pv0]) rfl rfl hll
          cases e with
          | false => simp [qs, w, ni, ix, ixc, mm, ws, sp, -sPut_a, -List.getD_eq_getElem?_getD]
          | true =>
            have hz2 : ¬ (am + a.num) % c.getD a.dev 0 = 0 := fun q2 => hz ⟨rfl, q2⟩
            simp [qs, w, ni, ix, ixc, mm, ws, sp, hz2, -sPut_a, -List.getD_eq_getElem?_getD]
end Lw
namespace Lw
open M
theorem sceneThen_ok {c : List Int} {first second : List Act} (hc : c.length ≤ 16) (hp : ∀ i, i < c.length → 0 < c.getD i 0) (h1 : okS c first) (h2 : okS c second) :
    ∃ acts, f_scene_then [.tup (c.map .int), .tup (first.map actD), .tup (second.map actD)] = .ok (.val (.tup (acts.map actD))) ∧ okS c acts ∧ ∀ i, look (tl acts) i = comb (c.getD i 0) (look (tl first) i) (look (tl second) i) := by
  have l1 := okS_len h1
  obtain ⟨l', y1, y2, y3, y4, y5, y6, k1, k2, k3⟩ := then_loop c (.tup (first.map actD)) (.tup (second.map actD)) hc hp second (tl first) .un .un .un .un .un .un h2 (TOk_tl h1)
  obtain ⟨acts, m1, m2, m3⟩ := sceneOf_ok k2 hc
  refine ⟨acts, ?_, m2, fun i => by rw [m3, k3]⟩
  rw [f_scene_then, fn_3]
  simp [startE, List.replicate, table_ok h1 (by omega)]
  rw [show forGo _ _ _ _ = _ from k1]
  simp [m1]
end Lw
namespace Lw
open M
theorem done_loop (c : List Int) (s0 t0 : D) : ∀ (acts : List Act) (l : List Int) (x : Sl), l.length = c.length → (∀ a ∈ acts, okA c a) → ∃ x', forGo (gName 4) (sIf (tVal (eOp2 dEq (eOp2 dIx (eVar 4) (eC (.int 1))) (eC (.str "set")))) (sSetIx 3 (eOp2 dIx (eVar 4) (eC (.int 0))) (eOp2 dIx (eVar 4) (eC (.int 2)))) (sSetIx 3 (eOp2 dIx (eVar 4) (eC (.int 0))) (eOp2 dMod (eB dInt (aCons (eOp2 dAdd (eOp2 dIx (ePeek 3) (eOp2 dIx (eVar 4) (eC (.int 0)))) (eOp2 dIx (eVar 4) (eC (.int 2)))) aNil)) (eOp2 dIx (eVar 0) (eOp2 dIx (eVar 4) (eC (.int 0)))))))
    (acts.map actD) [.val (.tup (c.map .int)), .val s0, .val t0, .own (.lst (l.map .int)), x] = .next [.val (.tup (c.map .int)), .val s0, .val t0, .own (.lst ((resL c acts l).map .int)), x']
  | [], l, x, _, _ => ⟨x, rfl⟩
  | a :: r, l, x, hl, ha => by
    obtain ⟨h1, h2, h3, h4⟩ := ha a List.mem_cons_self
    obtain ⟨x', ih⟩ := done_loop c s0 t0 r (stepL c l a) (.val (actD a)) (by rw [stepL_len]; exact hl) fun b hb => ha b (List.mem_cons_of_mem _ hb)
    refine ⟨x', ?_⟩
    have hx := ixN_lt (n := l.length) (k := a.dev) (by omega)
    have e1 := dIx_getDl (xs := l) (k := a.dev) (by omega)
    have e2 := dIx_getD (xs := c) (k := a.dev) h1
    have hm := dMod_i (l.getD a.dev 0 + a.num) (c.getD a.dev 0) (by omega)
    have a0 : dIx (actD a) (.int 0) = .ok (.int a.dev) := eqOf rfl
    have a1 : dIx (actD a) (.int 1) = .ok (.str (word a.step)) := eqOf rfl
    have a2 : dIx (actD a) (.int 2) = .ok (.int a.num) := eqOf rfl
    rw [List.map_cons, forGo_cons' (e2 := [.val (.tup (c.map .int)), .val s0, .val t0, .own (.lst ((stepL c l a).map .int)), .val (actD a)]) rfl ?_]
    · exact ih
    · cases q : a.step with
      | false => simp [a0, a1, a2, word_set, hx, stepL, q]
      | true => simp [a0, a1, a2, word_set, hx, e1, e2, hm, stepL, q, -List.getD_eq_getElem?_getD]
theorem done_ok {c s : List Int} {acts : List Act} (h : s.length = c.length) (ha : ∀ a ∈ acts, okA c a) : f__law_done [.tup (c.map .int), .tup (acts.map actD), .tup (s.map .int)] = .ok (.val (.tup ((resL c acts s).map .int))) := by
  rw [f__law_done, fn_3]
  obtain ⟨x', lp⟩ := done_loop c (.tup (acts.map actD)) (.tup (s.map .int)) acts s .un h ha
  simp [startE, List.replicate]
  rw [show forGo _ _ _ _ = _ from lp]
  simp
end Lw
namespace Lw
open M
/-! scenes, by the law -/
theorem integer_ok (i : Int) : f__law_integer [.int i] = .ok (.val (.bl true)) := by
  rw [f__law_integer, fn_1]; simp [startE, List.replicate]
theorem lscene_loop (c : List Int) (s0 : D) : ∀ (acts : List Act) (last : Int) (x : Sl), okS c acts → (∀ a ∈ acts, last < (a.dev : Int)) → ∃ l' x', forGo (gName 3) (sSeq (sIf (tOr (tNot (tVal (eB dIsi (aCons (eVar 3) (aCons (eC (.ty "tuple")) aNil))))) (tOr (tVal (eOp2 dNe (eB dLen (aCons (eVar 3) aNil)) (eC (.int 3)))) (tNot (tVal (eB dIsi (aCons (eOp2 dIx (eVar 3) (eC (.int 1))) (aCons (eC (.ty "str")) aNil))))))) (sRet (eC (.bl false))) sNext)
  (sSeq (sIf (tOr (tNot (tVal (eCall f__law_integer (aCons (eOp2 dIx (eVar 3) (eC (.int 0))) aNil)))) (tNot (tVal (eCall f__law_integer (aCons (eOp2 dIx (eVar 3) (eC (.int 2))) aNil))))) (sRet (eC (.bl false))) sNext)
  (sSeq (sIf (tOr (tVal (eOp2 dLe (eOp2 dIx (eVar 3) (eC (.int 0))) (eVar 2))) (tOr (tVal (eOp2 dGe (eOp2 dIx (eVar 3) (eC (.int 0))) (eB dLen (aCons (eVar 0) aNil)))) (tAnd (tVal (eOp2 dNe (eOp2 dIx (eVar 3) (eC (.int 1))) (eC (.str "set")))) (tVal (eOp2 dNe (eOp2 dIx (eVar 3) (eC (.int 1))) (eC (.str "step"))))))) (sRet (eC (.bl false))) sNext)
  (sSeq (sIf (tOr (tVal (eOp2 dLt (eOp2 dIx (eVar 3) (eC (.int 2))) (eB dInt (aCons (eOp2 dEq (eOp2 dIx (eVar 3) (eC (.int 1))) (eC (.str "step"))) aNil)))) (tVal (eOp2 dGe (eOp2 dIx (eVar 3) (eC (.int 2))) (eOp2 dIx (eVar 0) (eOp2 dIx (eVar 3) (eC (.int 0))))))) (sRet (eC (.bl false))) sNext)
  (sSet 2 (eOp2 dIx (eVar 3) (eC (.int 0)))))))) (acts.map actD) [.val (.tup (c.map .int)), .val s0, .val (.int last), x] = .next [.val (.tup (c.map .int)), .val s0, l', x']
  | [], last, x, _, _ => ⟨.val (.int last), x, rfl⟩
  | a :: r, last, x, h, hl => by
    obtain ⟨h1, h2, h3, h4⟩ := h.1 a List.mem_cons_self
    have p := List.pairwise_cons.mp h.2
    obtain ⟨l', x', ih⟩ := lscene_loop c s0 r (a.dev : Int) (.val (actD a)) ⟨fun b hb => h.1 b (List.mem_cons_of_mem _ hb), p.2⟩ fun b hb => by have := p.1 b hb; omega
    refine ⟨l', x', ?_⟩
    have la := hl a List.mem_cons_self
    have la' : ¬ (a.dev : Int) ≤ last := by omega
    have lb' : ¬ (c.length : Int) ≤ a.dev := by omega
    have lc' : ¬ (c.getD a.dev 0) ≤ a.num := by omega
    have e2 := dIx_getD (xs := c) (k := a.dev) h1
    have a0 : dIx (actD a) (.int 0) = .ok (.int a.dev) := eqOf rfl
    have a1 : dIx (actD a) (.int 1) = .ok (.str (word a.step)) := eqOf rfl
    have a2 : dIx (actD a) (.int 2) = .ok (.int a.num) := eqOf rfl
    have a3 : dIsi [actD a, .ty "tuple"] = .ok (.bl true) := eqOf rfl
    have a4 : dLen [actD a] = .ok (.int 3) := eqOf rfl
    have ws : dEq (.str (word a.step)) (.str "step") = .ok (.bl a.step) := by
      rw [dEq_s (word_ok a.step) (by decide +kernel), show (word a.step == ("step" : PySem.Str)) = a.step by cases a.step <;> decide +kernel]
    have n1 : dNe (.str (word a.step)) (.str "set") = .ok (.bl a.step) := by
      rw [dNe_t (!a.step) (word_ok _) (by decide +kernel) (by cases a.step <;> decide +kernel)]; cases a.step <;> rfl
    have n2 : dNe (.str (word a.step)) (.str "step") = .ok (.bl (!a.step)) := by
      exact dNe_t a.step (word_ok _) (by decide +kernel) (by cases a.step <;> decide +kernel)
    rw [List.map_cons, forGo_cons' (e2 := [.val (.tup (c.map .int)), .val s0, .val (.int a.dev), .val (actD a)]) rfl ?_]
    · exact ih
    · cases q : a.step with
      | false =>
        rw [q] at ws a1 n1 n2
        have b1 : dInt [.bl false] = .ok (.int 0) := eqOf rfl
        have nn : ¬ a.num < 0 := by omega
        simp [a0, a1, a2, a3, a4, ws, n1, n2, integer_ok, la', lb', lc', e2, b1, nn, -List.getD_eq_getElem?_getD]
      | true =>
        have := h4 q
        rw [q] at ws a1 n1 n2
        have b1 : dInt [.bl true] = .ok (.int 1) := eqOf rfl
        have nn : ¬ a.num < 1 := by omega
        simp [a0, a1, a2, a3, a4, ws, n1, n2, integer_ok, la', lb', lc', e2, b1, nn, -List.getD_eq_getElem?_getD]
theorem lscene_ok {c : List Int} {acts : List Act} (h : okS c acts) : f__law_is_scene [.tup (c.map .int), .tup (acts.map actD)] = .ok (.val (.bl true)) := by
  rw [f__law_is_scene, fn_2]
  obtain ⟨l', x', lp⟩ := lscene_loop c (.tup (acts.map actD)) acts (-1) .un h fun a _ => by omega
  simp [startE, List.replicate]
  rw [show forGo _ _ _ _ = _ from lp]
  simp
end Lw
namespace Lw
open M
/-! ### _law_plain -/
mutual
def plD : Nat → D → Bool
  | _, .int _ => true
  | _, .str _ => true
  | n + 1, .tup xs => decide (xs.length ≤ 1000) && plDs n xs
  | _, _ => false
def plDs : Nat → List D → Bool
  | _, [] => true
  | n, x :: xs => plD n x && plDs n xs
end
theorem plDs_all {n : Nat} {xs : List D} (h : ∀ x ∈ xs, plD n x = true) : plDs n xs = true := by
  induction xs with
  | nil => cases n <;> rfl
  | cons x xs ih =>
    unfold plDs
    rw [h x List.mem_cons_self, ih fun y hy => h y (List.mem_cons_of_mem _ hy)]; rfl
theorem plDs_mem {n : Nat} : ∀ {xs : List D} {x : D}, plDs n xs = true → x ∈ xs → plD n x = true
  | y :: ys, x, h, hx => by
    unfold plDs at h
    rw [Bool.and_eq_true] at h
    rcases List.mem_cons.mp hx with e | e
    · subst e; exact h.1
    · exact plDs_mem h.2 e
theorem plain_ok : ∀ (n : Nat) (d : D), plD n d = true → f__law_plain (n + 1) [d] = .ok (.val (.bl true))
  | n, .int i, _ => by
    rw [f__law_plain, fn_1]
    simp [startE, List.replicate, dIsi, tyD, subTy]
  | n, .str s, _ => by
    rw [f__law_plain, fn_1]
    simp [startE, List.replicate, dIsi, tyD, subTy]
  | n + 1, .tup xs, h => by
    have h : (decide (xs.length ≤ 1000) && plDs n xs) = true := h
    rw [Bool.and_eq_true, decide_eq_true_eq] at h
    rw [f__law_plain, fn_1]
    have lc : ∀ env : Env, env.length = 2 → lcGo (gName 1) tTrue (eCall (f__law_plain (n + 1)) (aCons (eVar 1) aNil)) xs env [] = .ok (xs.map fun _ => .bl true) := fun env he => by
      rw [lc_map (g := gName 1) (fun _ => .bl true) xs (fun d hd => ⟨_, rfl, by
        have := plain_ok n d (plDs_mem h.2 hd)
        simp [he, this]⟩) h.1]
    simp [startE, List.replicate]
    rw [show lcGo _ _ _ _ _ _ = _ from lc _ rfl]
    have hn : dNotIn (.bl false) (.lst (xs.map fun _ => D.bl true)) = .ok (.bl true) := by
      have f : flatD (.bl false) = true ∧ (xs.map fun _ => D.bl true).all flatD = true := ⟨rfl, by simp [flatD]⟩
      show (if _ then _ else _) = _
      rw [if_pos f]
      have : inD (.bl false) (xs.map fun _ => D.bl true) = false := by
        unfold inD
        simp [List.any_map]
        intro x _
        rfl
      rw [this]; rfl
    simp [hn]
  | n, .non, h | n, .bl _, h | n, .lst _, h | n, .ty _, h | n, .cls _, h | n, .dct _ _, h => by cases n <;> cases h
  | 0, .tup _, h => by cases h
theorem plD_act (a : Act) (n : Nat) : plD (n + 1) (actD a) = true := by
  show (decide ([D.int (a.dev : Int), .str (word a.step), .int a.num].length ≤ 1000) && plDs n [.int a.dev, .str (word a.step), .int a.num]) = true
  rw [plDs_all (by
    intro x hx
    simp only [List.mem_cons, List.mem_nil_iff, or_false] at hx
    rcases hx with rfl | rfl | rfl <;> cases n <;> rfl)]
  rfl
theorem plD_acts (acts : List Act) (h : acts.length ≤ 1000) (n : Nat) : plD (n + 2) (.tup (acts.map actD)) = true := by
  show (decide ((acts.map actD).length ≤ 1000) && plDs (n + 1) (acts.map actD)) = true
  rw [plDs_all fun x hx => by obtain ⟨a, _, rfl⟩ := List.mem_map.mp hx; exact plD_act a n]
  simp [h]
theorem plD_ints (ns : List Int) (h : ns.length ≤ 1000) (n : Nat) : plD (n + 1) (.tup (ns.map .int)) = true := by
  show (decide ((ns.map D.int).length ≤ 1000) && plDs n (ns.map .int)) = true
  rw [plDs_all fun x hx => by obtain ⟨a, _, rfl⟩ := List.mem_map.mp hx; cases n <;> rfl]
  simp [h]
theorem plain_acts (acts : List Act) (h : acts.length ≤ 1000) : f__law_plain 40 [.tup (acts.map actD)] = .ok (.val (.bl true)) := plain_ok 39 _ (plD_acts acts h 37)
theorem plain_ints (ns : List Int) (h : ns.length ≤ 1000) : f__law_plain 40 [.tup (ns.map .int)] = .ok (.val (.bl true)) := plain_ok 39 _ (plD_ints ns h 38)
end Lw
namespace Lw
open M
/-! ### clashes -/
def clA (a b : Ac) : Bool := !(a.1 && b.1) && !decide (a = b)
def clO (a b : Option Ac) : Bool := match a, b with
  | some a, some b => clA a b
  | _, _ => false
theorem eqD_pvA (a b : Ac) : eqD (pvA a) (pvA b) = decide (a = b) := by
  obtain ⟨a1, a2⟩ := a
  obtain ⟨b1, b2⟩ := b
  show ((word a1 == word b1) && ((a2 == b2) && true)) = _
  have : (word a1 == word b1) = decide (a1 = b1) := by cases a1 <;> cases b1 <;> decide +kernel
  rw [this]
  by_cases h1 : a1 = b1 <;> by_cases h2 : a2 = b2 <;> simp [h1, h2]
theorem okD_pvA (a : Ac) : okD (pvA a) = true := okD_tup2 (okN_str (word_ok _)) okN_int
theorem dNe_pvA (a b : Ac) : dNe (pvA a) (pvA b) = .ok (.bl (!decide (a = b))) := by
  show (if _ then _ else _) = _
  rw [if_pos ⟨okD_pvA a, okD_pvA b⟩, eqD_pvA]
theorem word_step (b : Bool) : dEq (.str (word b)) (.str "step") = .ok (.bl b) := dEq_t _ (word_ok _) (by decide +kernel) (by cases b <;> decide +kernel)
theorem actsClash_ok (a b : Ac) : f_acts_clash [pvA a, pvA b] = .ok (.val (.bl (clA a b))) := by
  rw [f_acts_clash, fn_2]
  have e1 : dIx (pvA a) (.int 0) = .ok (.str (word a.1)) := eqOf rfl
  have e2 : dIx (pvA b) (.int 0) = .ok (.str (word b.1)) := eqOf rfl
  have e3 := dNe_pvA a b
  have w1 := word_step a.1
  have w2 := word_step b.1
  unfold clA
  cases h1 : a.1 with
  | false => rw [h1] at w1 e1; simp [startE, List.replicate, e1, e2, e3, w1, w2]
  | true =>
    rw [h1] at w1 e1
    cases h2 : b.1 with
    | false => rw [h2] at w2 e2; simp [startE, List.replicate, e1, e2, e3, w1, w2]
    | true => rw [h2] at w2 e2; simp [startE, List.replicate, e1, e2, e3, w1, w2]
/-- what two acts do in both orders -/
theorem doA_both {n x : Int} {a b : Ac} (hn : 2 ≤ n) (h0 : 0 ≤ x) (h1 : x < n) (ha : 0 ≤ a.2 ∧ a.2 < n ∧ (a.1 = true → 1 ≤ a.2)) (hb : 0 ≤ b.2 ∧ b.2 < n ∧ (b.1 = true → 1 ≤ b.2)) :
    doA n (some b) (doA n (some a) x) = doA n (some a) (doA n (some b) x) ↔ clA a b = false := by
  obtain ⟨a1, z⟩ := a
  obtain ⟨b1, w⟩ := b
  simp only at ha hb
  have add : ∀ u v : Int, 0 ≤ u → u < n → 1 ≤ v → v < n → ¬ (u + v) % n = u := by
    intro u v h1 h2 h3 h4 e
    by_cases lt : u + v < n
    · rw [Int.emod_eq_of_lt (by omega) lt] at e; omega
    · have : (u + v) % n = u + v - n := by
        rw [← Int.sub_emod_right, Int.emod_eq_of_lt (by omega) (by omega)]
      omega
  cases a1 with
  | false =>
    cases b1 with
    | false =>
      show w = z ↔ (!(false && false) && !decide ((false, z) = (false, w))) = false
      by_cases e : z = w
      · subst e; simp
      · have : ¬ w = z := fun h => e h.symm
        simp [e, this]
    | true =>
      show (z + w) % n = z ↔ (!(false && true) && !decide ((false, z) = (true, w))) = false
      have := add z w ha.1 ha.2.1 (hb.2.2 rfl) hb.2.1
      simp [this]
  | true =>
    cases b1 with
    | false =>
      show w = (w + z) % n ↔ (!(true && false) && !decide ((true, z) = (false, w))) = false
      have := add w z hb.1 hb.2.1 (ha.2.2 rfl) ha.2.1
      simp
      exact fun e => this e.symm
    | true =>
      show ((x + z) % n + w) % n = ((x + w) % n + z) % n ↔ (!(true && true) && _) = false
      rw [Int.emod_add_emod, Int.emod_add_emod]
      simp
      congr 1
      omega
theorem doO_both {n x : Int} {a b : Option Ac} (hn : 2 ≤ n) (h0 : 0 ≤ x) (h1 : x < n) (ha : ∀ v, a = some v → 0 ≤ v.2 ∧ v.2 < n ∧ (v.1 = true → 1 ≤ v.2)) (hb : ∀ v, b = some v → 0 ≤ v.2 ∧ v.2 < n ∧ (v.1 = true → 1 ≤ v.2)) :
    doA n b (doA n a x) = doA n a (doA n b x) ↔ clO a b = false := by
  cases a with
  | none => simp [clO, doA]
  | some a =>
    cases b with
    | none => simp [clO, doA]
    | some b => exact doA_both hn h0 h1 (ha a rfl) (hb b rfl)
theorem lk_rng {c : List Int} {acts : List Act} (h : okS c acts) {i : Nat} : ∀ v, look (tl acts) i = some v → 0 ≤ v.2 ∧ v.2 < c.getD i 0 ∧ (v.1 = true → 1 ≤ v.2) := fun v hv => by
  obtain ⟨_, h2, h3, h4⟩ := look_ok h.1 hv
  exact ⟨h2, h3, h4⟩
def clAt (f s : List Act) (i : Nat) : Bool := clO (look (tl f) i) (look (tl s) i)
/-- both orders at a device -/
theorem orders_at {c st : List Int} {f s : List Act} (hc : okC c) (hf : okS c f) (hs : okS c s) (hst : stB c st = true) {i : Nat} (hi : i < c.length) :
    (resL c s (resL c f st)).getD i 0 = (resL c f (resL c s st)).getD i 0 ↔ clAt f s i = false := by
  have sl := (stB_iff.mp hst).1
  have rg := (stB_iff.mp hst).2 i hi
  have df : ∀ {acts : List Act} {l : List Int}, okS c acts → l.length = c.length → ∀ a ∈ acts, a.dev < l.length := fun h hl a ha => by rw [hl]; exact (h.1 a ha).1
  have r1 : (resL c f st).length = c.length := by rw [res_len, sl]
  have r2 : (resL c s st).length = c.length := by rw [res_len, sl]
  rw [res_at c i s _ hs.2 (df hs r1), res_at c i f st hf.2 (df hf sl), res_at c i f _ hf.2 (df hf r2), res_at c i s st hs.2 (df hs sl)]
  exact doO_both (okC_at hc hi).1 rg.1 rg.2 (lk_rng hf) (lk_rng hs)
/-- the first device at which they clash -/
def clF (f s : List Act) : Option Act := s.find? fun a => clAt f s a.dev
theorem clAt_act {f s : List Act} (h : rise s) {a : Act} (ha : a ∈ s) : clAt f s a.dev = match look (tl f) a.dev with | some v => clA v (a.step, a.num) | none => false := by
  unfold clAt
  rw [show look (tl s) a.dev = some (a.step, a.num) from look_of_mem (nodup_tl h) (List.mem_map.mpr ⟨a, ha, rfl⟩)]
  cases look (tl f) a.dev <;> rfl
theorem clF_mem {f s : List Act} {i : Nat} (h : clAt f s i = true) : ∃ a ∈ s, a.dev = i := by
  unfold clAt clO at h
  cases q : look (tl s) i with
  | none => rw [q] at h; cases q2 : look (tl f) i <;> rw [q2] at h <;> cases h
  | some v =>
    obtain ⟨a, ha, e⟩ := List.mem_map.mp (look_mem q)
    exact ⟨a, ha, congrArg Prod.fst e⟩
theorem clF_none {f s : List Act} : clF f s = none ↔ ∀ i, clAt f s i = false := by
  constructor
  · intro h i
    cases q : clAt f s i with
    | false => rfl
    | true =>
      obtain ⟨a, ha, rfl⟩ := clF_mem q
      exact absurd q (by simpa using List.find?_eq_none.mp h a ha)
  · intro h
    exact List.find?_eq_none.mpr fun a _ => by rw [h]; simp
theorem clF_some {f s : List Act} (hs : rise s) {a : Act} (h : clF f s = some a) : a ∈ s ∧ clAt f s a.dev = true ∧ ∀ i, clAt f s i = true → a.dev ≤ i := by
  have h : s.find? (fun a => clAt f s a.dev) = some a := h
  refine ⟨List.mem_of_find?_eq_some h, (by simpa using List.find?_some h), fun i hi => ?_⟩
  obtain ⟨b, hb, rfl⟩ := clF_mem hi
  obtain ⟨_, as, bs, e1, e2⟩ := List.find?_eq_some_iff_append.mp h
  rw [e1] at hb hs
  rcases List.mem_append.mp hb with q | q
  · have := e2 b q
    rw [hi] at this; cases this
  · rcases List.mem_cons.mp q with q | q
    · rw [q]; exact Nat.le_refl _
    · exact Nat.le_of_lt ((List.pairwise_cons.mp (List.pairwise_append.mp hs).2.1).1 b q)
theorem cdev_loop (f s : List Act) (hs : rise s) (f0 s0 : D) : ∀ (acts : List Act) (x1 x2 x3 : Sl), (∀ a ∈ acts, a ∈ s) → ∃ y1 y2 y3, forGo (gTup [(gName 3), (gName 4), (gName 5)]) (sIf (tAnd (tVal (eOp2 dIn (eVar 3) (ePeek 2))) (tVal (eCall f_acts_clash (aCons (eOp2 dIx (ePeek 2) (eVar 3)) (aCons (eTup (aCons (eVar 4) (aCons (eVar 5) aNil))) aNil))))) (sRet (eVar 3)) sNext) (acts.map actD) [.val f0, .val s0, .own (.dct (dK kN (tl f)) (dV pvA (tl f))), x1, x2, x3] =
    match acts.find? (fun a => clAt f s a.dev) with
    | some a => .ret (.val (.int a.dev))
    | none => .next [.val f0, .val s0, .own (.dct (dK kN (tl f)) (dV pvA (tl f))), y1, y2, y3]
  | [], x1, x2, x3, _ => ⟨x1, x2, x3, rfl⟩
  | a :: r, x1, x2, x3, h => by
    obtain ⟨y1, y2, y3, ih⟩ := cdev_loop f s hs f0 s0 r (.val (.int a.dev)) (.val (.str (word a.step))) (.val (.int a.num)) fun b hb => h b (List.mem_cons_of_mem _ hb)
    refine ⟨y1, y2, y3, ?_⟩
    have ca := clAt_act (f := f) hs (h a List.mem_cons_self)
    have ni := dIn_l pvA keysN okKN (tl f) a.dev
    rw [show kN a.dev = D.int a.dev from rfl] at ni
    rw [List.map_cons, forGo_cons (d := actD a) (e1 := [.val f0, .val s0, .own (.dct (dK kN (tl f)) (dV pvA (tl f))), .val (.int a.dev), .val (.str (word a.step)), .val (.int a.num)]) rfl, List.find?_cons]
    cases q : look (tl f) a.dev with
    | none =>
      rw [q] at ca ni
      rw [ca]
      simp [ni]
      exact ih
    | some v =>
      rw [q] at ca ni
      have ix := dIx_d pvA keysN okKN q
      rw [show kN a.dev = D.int a.dev from rfl] at ix
      have ac := actsClash_ok v (a.step, a.num)
      rw [show pvA (a.step, a.num) = .tup [.str (word a.step), .int a.num] from rfl] at ac
      rw [ca]
      cases q2 : clA v (a.step, a.num) with
      | true =>
        rw [q2] at ac
        simp [ni, ix, ac, q2]
      | false =>
        rw [q2] at ac
        simp [ni, ix, ac, q2]
        exact ih
def devD : Option Act → D
  | some a => .int a.dev
  | none => .non
theorem cdev_ok {c : List Int} {f s : List Act} (hc : okC c) (hf : okS c f) (hs : okS c s) : f_clash_device [.tup (f.map actD), .tup (s.map actD)] = .ok (.val (devD (clF f s))) := by
  have fl := okS_len hf
  have hc2 := hc.2.1
  rw [f_clash_device, fn_2]
  obtain ⟨y1, y2, y3, lp⟩ := cdev_loop f s hs.2 (.tup (f.map actD)) (.tup (s.map actD)) s .un .un .un fun a ha => ha
  unfold clF
  cases q : s.find? (fun a => clAt f s a.dev) with
  | some a =>
    rw [q] at lp
    simp [startE, List.replicate, table_ok hf (by omega)]
    rw [show forGo _ _ _ _ = _ from lp]
    simp [devD]
  | none =>
    rw [q] at lp
    simp [startE, List.replicate, table_ok hf (by omega)]
    rw [show forGo _ _ _ _ = _ from lp]
    simp [devD]
def zer (c : List Int) : List Int := List.replicate c.length 0
theorem lc_zer {c : List Int} (hl : c.length ≤ 1000) {i : Nat} {env : Env} : lcGo (gName i) tTrue (eC (.int 0)) (c.map .int) env [] = .ok ((zer c).map .int) := by
  rw [lc_map (g := gName i) (fun _ => .int 0) (c.map .int) (fun d hd => ⟨_, rfl, rfl⟩) (by simpa using hl), List.map_map]
  refine congrArg Out.ok ?_
  unfold zer
  rw [List.map_replicate]
  exact List.eq_replicate_iff.mpr ⟨by simp, fun d hd => by obtain ⟨_, _, rfl⟩ := List.mem_map.mp hd; rfl⟩
def clD (c : List Int) : Option Act → D
  | some a => .tup [.int a.dev, .tup ((zer c).map .int)]
  | none => .non
theorem clash_ok {c : List Int} {f s : List Act} (hc : okC c) (hf : okS c f) (hs : okS c s) : f_clash [.tup (c.map .int), .tup (f.map actD), .tup (s.map actD)] = .ok (.val (clD c (clF f s))) := by
  have hc2 := hc.2.1
  rw [f_clash, fn_3]
  have cd := cdev_ok hc hf hs
  have lz := fun env => lc_zer (c := c) (i := 4) (env := env) (by omega)
  cases q : clF f s with
  | none =>
    rw [q] at cd
    simp [startE, List.replicate, demand_ok hf, demand_ok hs, cd, devD, clD, isNon]
  | some a =>
    rw [q] at cd
    simp [startE, List.replicate, demand_ok hf, demand_ok hs, cd, devD, clD, isNon, lz]
theorem shows_ok {c st : List Int} {f s : List Act} (hc : okC c) (hf : okS c f) (hs : okS c s) (hst : stB c st = true) : f_shows_clash [.tup (c.map .int), .tup (f.map actD), .tup (s.map actD), .tup (st.map .int)] =
    .ok (.val (.bl (!decide (resL c s (resL c f st) = resL c f (resL c s st))))) := by
  have sl := (stB_iff.mp hst).1
  rw [f_shows_clash, fn_4]
  have i1 := is_state_ok c st
  rw [hst] at i1
  have r1 := result_ok (s := st) sl hf.1
  have r2 := result_ok (s := resL c f st) (by rw [res_len, sl]) hs.1
  have r3 := result_ok (s := st) sl hs.1
  have r4 := result_ok (s := resL c s st) (by rw [res_len, sl]) hf.1
  have ne := dNe_ints (resL c s (resL c f st)) (resL c f (resL c s st))
  simp [startE, List.replicate, i1, r1, r2, r3, r4, ne]
theorem shows_bad {c w : List Int} {x y : D} (h : stB c w = false) : f_shows_clash [.tup (c.map .int), x, y, .tup (w.map .int)] = .ok (.val (.bl false)) := by
  rw [f_shows_clash, fn_4]
  have i1 := is_state_ok c w
  rw [h] at i1
  simp [startE, List.replicate, i1]
/-! the parting -/
def base (c : List Int) (k : Nat) : List Int := c.map fun n => (k : Int) % n
theorem base_stB {c : List Int} (hc : okC c) (k : Nat) : stB c (base c k) = true := by
  rw [stB_iff]
  refine ⟨by simp [base], fun i hi => ?_⟩
  have := okC_at hc hi
  have e : (base c k).getD i 0 = (k : Int) % c.getD i 0 := by
    simp [base, List.getD_eq_getElem?_getD, List.getElem?_eq_getElem hi]
  rw [e]
  exact ⟨Int.emod_nonneg _ (by omega), Int.emod_lt_of_pos _ (by omega)⟩
theorem lc_base {c : List Int} (hc : okC c) {i j : Nat} {env : Env} {k : Nat} (hij : i ≠ j) (hi : i < env.length) (hk : env[j]? = some (.val (.int k))) :
    lcGo (gName i) tTrue (eOp2 dMod (eB dInt (aCons (eVar j) aNil)) (eVar i)) (c.map .int) env [] = .ok ((base c k).map .int) := by
  have hc2 := hc.2.1
  rw [lc_map (g := gName i) (fun d => match d with | .int n => .int ((k : Int) % n) | d => d) (c.map .int) (fun d hd => by
    obtain ⟨n, hn, rfl⟩ := List.mem_map.mp hd
    have := hc.2.2 n hn
    have mm := dMod_i (k : Int) n (by omega)
    refine ⟨_, rfl, ?_⟩
    have e1 : (env.set i (.val (.int n)))[j]? = some (.val (.int k)) := by rw [List.getElem?_set_ne hij]; exact hk
    have e2 : (env.set i (.val (.int n)))[i]? = some (.val (.int n)) := List.getElem?_set_self hi
    simp only [eOp2_a, eB_a, aCons_a, aNil_a, eVar_a, e1, e2, Out.bind_ok, dInt_i, mm]) (by simp; omega)]
  simp [base]
def clR (c : List Int) (f s : List Act) : List Nat := (List.range c.length).filter fun i => clAt f s i
def fstD (o : Option Act) : Int := match o with | some a => a.dev | none => 99
theorem parting_ok {c : List Int} {f s : List Act} (hc : okC c) (hf : okS c f) (hs : okS c s) : f__law_parting [.tup (c.map .int), .tup (f.map actD), .tup (s.map actD)] = .ok (.val (.int (fstD (clF f s)))) := by
  have hc2 := hc.2.1
  rw [f__law_parting, fn_3]
  obtain ⟨F, hF⟩ : ∃ F : List Int, F = (clR c f s).map fun i : Nat => (i : Int) := ⟨_, rfl⟩
  have fl : F.length ≤ 16 := by
    rw [hF, List.length_map]
    exact Nat.le_trans (List.length_filter_le _ _) (by simp; omega)
  have step : ∀ (k m : Nat) (x5 x6 x7 x8 x9 : Sl), m < 5 → ∃ y5 y6 y7 y8 y9, (sSeq (sSet 5 (eB dTuple (aCons (eShare (fComp [6] (iSeq (eVar 0)) (gName 6) tTrue (eOp2 dMod (eB dInt (aCons (eVar 4) aNil)) (eVar 6)))) aNil)))
  (sSeq (sSetCall 7 f__law_done (aCons (eVar 0) (aCons (eVar 2) (aCons (eCall f__law_done (aCons (eVar 0) (aCons (eVar 1) (aCons (eVar 5) aNil)))) aNil))))
  (sSeq (sSetCall 8 f__law_done (aCons (eVar 0) (aCons (eVar 1) (aCons (eCall f__law_done (aCons (eVar 0) (aCons (eVar 2) (aCons (eVar 5) aNil)))) aNil))))
  (sSetF 3 (fOp2 fCat (ePeek 3) (eShare (fComp [9] (iB dRange1 (aCons (eB dLen (aCons (eVar 0) aNil)) aNil)) (gName 9) (tVal (eOp2 dNe (eOp2 dIx (ePeek 7) (eVar 9)) (eOp2 dIx (ePeek 8) (eVar 9)))) (eVar 9)))))))) [.val (.tup (c.map .int)), .val (.tup (f.map actD)), .val (.tup (s.map actD)), .own (.lst ((99 :: (List.replicate m F).flatten).map .int)), .val (.int k), x5, x6, x7, x8, x9] =
      .next [.val (.tup (c.map .int)), .val (.tup (f.map actD)), .val (.tup (s.map actD)), .own (.lst ((99 :: (List.replicate (m + 1) F).flatten).map .int)), .val (.int k), y5, y6, y7, y8, y9] := by
    intro k m x5 x6 x7 x8 x9 hm
    have hb := base_stB hc k
    have sl := (stB_iff.mp hb).1
    have d1 := done_ok (s := base c k) sl hf.1
    have d2 := done_ok (s := resL c f (base c k)) (by rw [res_len, sl]) hs.1
    have d3 := done_ok (s := base c k) sl hs.1
    have d4 := done_ok (s := resL c s (base c k)) (by rw [res_len, sl]) hf.1
    have q1 : ∀ z6, (fComp [6] (iSeq (eVar 0)) (gName 6) tTrue (eOp2 dMod (eB dInt (aCons (eVar 4) aNil)) (eVar 6))) [.val (.tup (c.map .int)), .val (.tup (f.map actD)), .val (.tup (s.map actD)), .own (.lst ((99 :: (List.replicate m F).flatten).map .int)), .val (.int k), x5, z6, x7, x8, x9] = .ok (.lst ((base c k).map .int)) := by
      intro z6
      simp only [fComp_a, iSeq_a, eVar_a, List.getElem?_cons_zero, Out.bind_ok, dItems_t, wipeE_c, wipeE_n]
      rw [lc_base hc (k := k) (by decide) (by simp) rfl]
      rfl
    have q2 : ∀ z5 z6 z9, (fComp [9] (iB dRange1 (aCons (eB dLen (aCons (eVar 0) aNil)) aNil)) (gName 9) (tVal (eOp2 dNe (eOp2 dIx (ePeek 7) (eVar 9)) (eOp2 dIx (ePeek 8) (eVar 9)))) (eVar 9)) [.val (.tup (c.map .int)), .val (.tup (f.map actD)), .val (.tup (s.map actD)), .own (.lst ((99 :: (List.replicate m F).flatten).map .int)), .val (.int k), z5, z6, .val (.tup ((resL c s (resL c f (base c k))).map .int)), .val (.tup ((resL c f (resL c s (base c k))).map .int)), z9] = .ok (.lst (F.map .int)) := by
      intro z5 z6 z9
      have hrg := dRange1_i (smallI_n (n := c.length) (by omega))
      simp only [fComp_a, iB_a, aCons_a, eB_a, eVar_a, aNil_a, List.getElem?_cons_zero, Out.bind_ok, dLen_t, List.length_map, hrg, wipeE_c, wipeE_n]
      rw [lcGo_go (onI fun z => clAt f s z.toNat) (fun d => d) (rangeL 0 c.length) [] (fun d hd => by
        obtain ⟨i, hi, rfl⟩ := List.mem_map.mp hd
        have hi' : i < c.length := by simpa using hi
        have e1 := dIx_getD (xs := resL c s (resL c f (base c k))) (k := i) (by rw [res_len, res_len, sl]; exact hi')
        have e2 := dIx_getD (xs := resL c f (resL c s (base c k))) (k := i) (by rw [res_len, res_len, sl]; exact hi')
        have or := orders_at hc hf hs hb hi'
        refine ⟨_, rfl, ?_, fun _ => rfl⟩
        have oi : onI (fun z => clAt f s z.toNat) (.int (0 + (i : Int))) = clAt f s i := by simp [onI]
        rw [oi]
        cases q : clAt f s i with
        | false =>
          have h := or.mpr q
          simp [e1, e2, h, -List.getD_eq_getElem?_getD]
        | true =>
          have h : ¬ _ := fun e => by have := or.mp e; rw [q] at this; cases this
          simp [e1, e2, h, -List.getD_eq_getElem?_getD]) (by simp [line_v]; omega)]
      rw [hF]
      unfold clR rangeL
      rw [List.nil_append, List.map_id', List.filter_map, List.map_map, show ((c.length : Int) - 0).toNat = c.length by omega]
      refine congrArg (fun l => Out.ok (Own.lst l)) ?_
      rw [show (fun i : Nat => D.int (0 + (i : Int))) = D.int ∘ (fun i : Nat => (i : Int)) from by funext i; simp]
      refine congrArg (List.map _) (List.filter_congr fun i _ => ?_)
      simp [onI]
    have rl : ((List.replicate m F).flatten).length ≤ 80 := by
      have : ((List.replicate m F).flatten).length = m * F.length := by simp
      rw [this]
      exact Nat.le_trans (Nat.mul_le_mul (Nat.le_of_lt hm) fl) (by decide)
    have ca : fCat (.lst ((99 :: (List.replicate m F).flatten).map .int)) (.lst (F.map .int)) = .ok ((99 :: (List.replicate (m + 1) F).flatten).map .int) := by
      rw [fCat_l (by simp only [List.length_map, List.length_cons, line_v]; omega), ← List.map_append, List.cons_append]
      rw [show (List.replicate m F).flatten ++ F = (List.replicate (m + 1) F).flatten by rw [List.replicate_succ', List.flatten_append]; simp]
    generalize (99 :: (List.replicate (m + 1) F).flatten).map D.int = NX at ca ⊢
    generalize (99 :: (List.replicate m F).flatten).map D.int = OX at ca q1 q2 ⊢
    exact ⟨_, _, _, _, _, by simp [q1, q2, d1, d2, d3, d4, ca, -fComp_a]; exact ⟨rfl, rfl, rfl, rfl, rfl⟩⟩
  obtain ⟨e2, h1, y4, y5, y6, y7, y8, y9, h2⟩ := forGo_inv (g := (gName 4)) (body := (sSeq (sSet 5 (eB dTuple (aCons (eShare (fComp [6] (iSeq (eVar 0)) (gName 6) tTrue (eOp2 dMod (eB dInt (aCons (eVar 4) aNil)) (eVar 6)))) aNil)))
  (sSeq (sSetCall 7 f__law_done (aCons (eVar 0) (aCons (eVar 2) (aCons (eCall f__law_done (aCons (eVar 0) (aCons (eVar 1) (aCons (eVar 5) aNil)))) aNil))))
  (sSeq (sSetCall 8 f__law_done (aCons (eVar 0) (aCons (eVar 1) (aCons (eCall f__law_done (aCons (eVar 0) (aCons (eVar 2) (aCons (eVar 5) aNil)))) aNil))))
  (sSetF 3 (fOp2 fCat (ePeek 3) (eShare (fComp [9] (iB dRange1 (aCons (eB dLen (aCons (eVar 0) aNil)) aNil)) (gName 9) (tVal (eOp2 dNe (eOp2 dIx (ePeek 7) (eVar 9)) (eOp2 dIx (ePeek 8) (eVar 9)))) (eVar 9))))))))) (all := rangeL 0 5) (env := [.val (.tup (c.map .int)), .val (.tup (f.map actD)), .val (.tup (s.map actD)), .own (.lst [.int 99]), .un, .un, .un, .un, .un, .un])
    (P := fun done env => ∃ y4 y5 y6 y7 y8 y9, env = [.val (.tup (c.map .int)), .val (.tup (f.map actD)), .val (.tup (s.map actD)), .own (.lst ((99 :: (List.replicate done.length F).flatten).map .int)), y4, y5, y6, y7, y8, y9])
    ⟨.un, .un, .un, .un, .un, .un, rfl⟩ (fun done d rest env he ⟨y4, y5, y6, y7, y8, y9, e1⟩ => by
      obtain ⟨hd, hl⟩ := range0_at (n := 5) he
      subst hd; subst e1
      obtain ⟨z5, z6, z7, z8, z9, hz⟩ := step done.length done.length y5 y6 y7 y8 y9 hl
      exact ⟨_, rfl, _, .inl hz, _, _, _, _, _, _, by rw [List.length_append]; rfl⟩)
  rw [rangeL_len, show ((5 : Int) - 0).toNat = 5 by rfl] at h2
  have r5 : dRange1 [.int 5] = .ok (rangeL 0 5) := dRange1_i (by decide)
  have mn := dMin1_l (ns := 99 :: (List.replicate 5 F).flatten) (by simp)
  have val : minI (99 :: (List.replicate 5 F).flatten) = fstD (clF f s) := by
    obtain ⟨m1, m2⟩ := minI_mem (ns := 99 :: (List.replicate 5 F).flatten) (by simp)
    have inF : ∀ x, x ∈ (List.replicate 5 F).flatten ↔ x ∈ F := fun x => by simp [List.replicate]
    have memF : ∀ x, x ∈ F ↔ ∃ i : Nat, i < c.length ∧ clAt f s i = true ∧ x = (i : Int) := fun x => by
      rw [hF]
      simp [clR, List.mem_filter]
      constructor
      · rintro ⟨i, ⟨a, b⟩, e⟩; exact ⟨i, a, b, e.symm⟩
      · rintro ⟨i, a, b, e⟩; exact ⟨i, ⟨a, b⟩, e.symm⟩
    cases q : clF f s with
    | none =>
      rcases List.mem_cons.mp m1 with e | e
      · rw [e]; rfl
      · obtain ⟨i, _, h, _⟩ := (memF _).mp ((inF _).mp e)
        rw [clF_none.mp q i] at h; cases h
    | some a =>
      obtain ⟨a1, a2, a3⟩ := clF_some hs.2 q
      have al := (hs.1 a a1).1
      have le := m2 (a.dev : Int) (List.mem_cons_of_mem _ ((inF _).mpr ((memF _).mpr ⟨a.dev, al, a2, rfl⟩)))
      show _ = (a.dev : Int)
      rcases List.mem_cons.mp m1 with e | e
      · omega
      · obtain ⟨i, _, h, e2⟩ := (memF _).mp ((inF _).mp e)
        have := a3 i h
        omega
  subst h2
  rw [val] at mn
  generalize (99 :: (List.replicate 5 F).flatten).map D.int = NL at h1 mn
  simp [startE, List.replicate, r5, h1, mn]
end Lw
namespace Lw
open M
theorem dSl_q (q : Bool) (xs : List D) (lo hi : Option Int) : dSl (seqD q xs) lo hi = .ok (seqD q (cutL xs lo hi)) := by cases q <;> exact eqOf rfl
theorem dEnum_q (q : Bool) (xs : List D) : dEnum [seqD q xs] = .ok (enumL 0 xs) := by cases q <;> exact eqOf rfl
theorem fst_lt {c : List Int} {f s : List Act} (hc : okC c) (hs : okS c s) : fstD (clF f s) < 99 ↔ (clF f s).isSome = true := by
  have hc2 := hc.2.1
  cases q : clF f s with
  | none => simp [fstD]
  | some a =>
    have := (hs.1 a (clF_some hs.2 q).1).1
    simp [fstD]; omega
theorem pair_holds {c st w : List Int} {f s : List Act} (hc : okC c) (hf : okS c f) (hs : okS c s) (hst : stB c st = true) (hw : stB c w = false) :
    f__law_pair_holds [.tup (c.map .int), .tup (f.map actD), .tup (s.map actD), .int (fstD (clF f s)), .tup (st.map .int), .tup (w.map .int)] = .ok (.val (.bl true)) := by
  have hc2 := hc.2.1
  have sl := (stB_iff.mp hst).1
  rw [f__law_pair_holds, fn_6]
  have cl := clash_ok hc hf hs
  have sh := shows_ok hc hf hs hst
  have sb := shows_bad (c := c) (w := w) (x := .tup (f.map actD)) (y := .tup (s.map actD)) hw
  have d1 := done_ok (s := st) sl hf.1
  have d2 := done_ok (s := resL c f st) (by rw [res_len, sl]) hs.1
  have d3 := done_ok (s := st) sl hs.1
  have d4 := done_ok (s := resL c s st) (by rw [res_len, sl]) hf.1
  have ne := dNe_ints (resL c s (resL c f st)) (resL c f (resL c s st))
  have lz := fun env => lc_zer (c := c) (i := 7) (env := env) (by omega)
  generalize (!decide (resL c s (resL c f st) = resL c f (resL c s st))) = bb at *
  have bs : dIsi [.bl bb, .ty "bool"] = .ok (.bl true) := eqOf rfl
  have isn : ∀ b : Bool, dIs (.bl b) (.bl false) = .ok (.bl (decide (b = false))) := fun b => eqOf rfl
  cases q : clF f s with
  | none =>
    rw [q] at cl
    have f99 : fstD none = 99 := rfl
    simp [startE, List.replicate, cl, clD, f99, isNon, d1, d2, d3, d4, sh, ne, sb]
  | some a =>
    have al := (hs.1 a (clF_some hs.2 q).1).1
    have f1 : fstD (some a) = (a.dev : Int) := rfl
    have f2 : ¬ (a.dev : Int) = 99 := by omega
    have f3 : (a.dev : Int) < 99 := by omega
    rw [q] at cl
    have lzz : (zer c).length ≤ 1000 := by simp [zer]; omega
    have nn : dNe (clD c (some a)) (.tup [.int a.dev, .tup ((zer c).map .int)]) = .ok (.bl false) := dNe_refl (okD_tup2 rfl (okN_tup (okNs_ints 62 _)))
    have pl : f__law_plain 40 [clD c (some a)] = .ok (.val (.bl true)) := plain_ok 39 _ (by
      show (decide ([D.int (a.dev : Int), .tup ((zer c).map .int)].length ≤ 1000) && plDs 38 [.int (a.dev : Int), .tup ((zer c).map .int)]) = true
      rw [plDs_all (by
        intro x hx
        simp only [List.mem_cons, List.mem_nil_iff, or_false] at hx
        rcases hx with rfl | rfl
        · rfl
        · exact plD_ints _ lzz 37)]
      rfl)
    have isq : isNon (clD c (some a)) = false := rfl
    generalize clD c (some a) = CD at *
    simp [startE, List.replicate, cl, f1, f2, f3, isq, lz, nn, pl, d1, d2, d3, d4, sh, ne, sb]
/-! joined -/
def scD (scs : List (List Act)) : List D := scs.map fun s => .tup (s.map actD)
theorem jdem {c : List Int} {S : D} : ∀ (scs : List (List Act)) (tail : List D) (x : Sl), (∀ s ∈ scs, okS c s) → ∃ x', forGo (gName 2) (sDrop (eCall f_demand_scene (aCons (eVar 0) (aCons (eVar 2) aNil)))) (scD scs ++ tail) [.val (.tup (c.map .int)), .val S, x, .un, .un, .un] = forGo (gName 2) (sDrop (eCall f_demand_scene (aCons (eVar 0) (aCons (eVar 2) aNil)))) tail [.val (.tup (c.map .int)), .val S, x', .un, .un, .un]
  | [], tail, x, _ => ⟨x, rfl⟩
  | s :: scs, tail, x, h => by
    obtain ⟨x', ih⟩ := jdem (S := S) scs tail (.val (.tup (s.map actD))) fun t ht => h t (List.mem_cons_of_mem _ ht)
    refine ⟨x', ?_⟩
    have d := demand_ok (h s List.mem_cons_self)
    show forGo _ _ (.tup (s.map actD) :: (scD scs ++ tail)) _ = _
    rw [forGo_go (e1 := [.val (.tup (c.map .int)), .val S, .val (.tup (s.map actD)), .un, .un, .un]) (e2 := [.val (.tup (c.map .int)), .val S, .val (.tup (s.map actD)), .un, .un, .un]) rfl (.inl (by simp [d])), ih]
theorem jbad {c : List Int} {S : D} {scs : List (List Act)} {bad : List D} {rest : List D} (h : ∀ s ∈ scs, okS c s) (hb : Wr c bad) : ∃ e, forGo (gName 2) (sDrop (eCall f_demand_scene (aCons (eVar 0) (aCons (eVar 2) aNil)))) (scD scs ++ .tup bad :: rest) [.val (.tup (c.map .int)), .val S, .un, .un, .un, .un] = .exc ⟨6, []⟩ e := by
  obtain ⟨x', e1⟩ := jdem (S := S) scs (.tup bad :: rest) .un h
  have hsc := is_scene_ok c bad hb.1
  rw [hb.2] at hsc
  have db := demand_bad hsc
  refine ⟨[.val (.tup (c.map .int)), .val S, .val (.tup bad), .un, .un, .un], ?_⟩
  rw [e1, forGo_cons (e1 := [.val (.tup (c.map .int)), .val S, .val (.tup bad), .un, .un, .un]) rfl]
  simp [db]
def cmbL (c : List Int) (i : Nat) (l : List (List Act)) : Option Ac := l.foldl (fun o s => comb (c.getD i 0) o (look (tl s) i)) none
def clK (scs : List (List Act)) (k : Nat) : Bool := (scs.take k).any fun e => (clF e (scs.getD k [])).isSome
theorem jinner {c : List Int} (hc : okC c) {S : D} {s : List Act} (hs : okS c s) (x3 x4 : Sl) : ∀ (l : List (List Act)) (x5 : Sl), (∀ e ∈ l, okS c e) → ∃ y5, forGo (gName 5) (sIf (tVal (eOp2 dIsNot (eCall f_clash_device (aCons (eVar 5) (aCons (eVar 2) aNil))) (eC .non))) (sRet (eC .non)) sNext) (scD l) [.val (.tup (c.map .int)), .val S, .val (.tup (s.map actD)), x3, x4, x5] =
    if (l.any fun e => (clF e s).isSome) = true then .ret (.val .non) else .next [.val (.tup (c.map .int)), .val S, .val (.tup (s.map actD)), x3, x4, y5]
  | [], x5, _ => ⟨x5, rfl⟩
  | e :: l, x5, h => by
    obtain ⟨y5, ih⟩ := jinner hc (S := S) hs x3 x4 l (.val (.tup (e.map actD))) fun t ht => h t (List.mem_cons_of_mem _ ht)
    refine ⟨y5, ?_⟩
    have cd := cdev_ok hc (h e List.mem_cons_self) hs
    show forGo _ _ (.tup (e.map actD) :: scD l) _ = _
    rw [forGo_cons (e1 := [.val (.tup (c.map .int)), .val S, .val (.tup (s.map actD)), x3, x4, .val (.tup (e.map actD))]) rfl, List.any_cons]
    cases q : clF e s with
    | some a =>
      rw [q] at cd
      simp [cd, devD, isNon]
    | none =>
      rw [q] at cd
      simp only [Option.isSome_none, Bool.false_or]
      simp [cd, devD, isNon]
      simpa using ih
theorem take_succ' {α : Type} {l : List α} {k : Nat} (d : α) (h : k < l.length) : l.take (k + 1) = l.take k ++ [l.getD k d] := by
  rw [List.take_succ, List.getElem?_eq_getElem h]
  simp [List.getD_eq_getElem?_getD, List.getElem?_eq_getElem h]
theorem drop_eq {α : Type} {l : List α} {k : Nat} (d : α) (h : k < l.length) : l.drop k = l.getD k d :: l.drop (k + 1) := by
  rw [List.drop_eq_getElem_cons h]
  simp [List.getD_eq_getElem?_getD, List.getElem?_eq_getElem h]
theorem getD_mem {α : Type} {l : List α} {k : Nat} (d : α) (h : k < l.length) : l.getD k d ∈ l := by
  rw [List.getD_eq_getElem?_getD, List.getElem?_eq_getElem h]
  exact List.getElem_mem h
theorem jloop {c : List Int} (hc : okC c) (q : Bool) {scs : List (List Act)} (h : ∀ s ∈ scs, okS c s) (hl : scs.length ≤ 100) : ∀ (m k : Nat) (T : List Act) (x2 x4 x5 : Sl), k + m = scs.length → okS c T → (∀ i, look (tl T) i = cmbL c i (scs.take k)) →
    ((List.range' k m).any (clK scs) = true → forGo (gTup [(gName 4), (gName 2)]) (sSeq (sFor (iSeq (eSl (eVar 1) oNo (oSome (eVar 4)))) (gName 5) (sIf (tVal (eOp2 dIsNot (eCall f_clash_device (aCons (eVar 5) (aCons (eVar 2) aNil))) (eC .non))) (sRet (eC .non)) sNext))
  (sFreeze 3 (sSetCall 3 f_scene_then (aCons (eVar 0) (aCons (eVar 3) (aCons (eVar 2) aNil)))))) (enumL k (scD (scs.drop k))) [.val (.tup (c.map .int)), .val (seqD q (scD scs)), x2, .val (.tup (T.map actD)), x4, x5] = .ret (.val .non)) ∧
    ((List.range' k m).any (clK scs) = false → ∃ T' y2 y4 y5, forGo (gTup [(gName 4), (gName 2)]) (sSeq (sFor (iSeq (eSl (eVar 1) oNo (oSome (eVar 4)))) (gName 5) (sIf (tVal (eOp2 dIsNot (eCall f_clash_device (aCons (eVar 5) (aCons (eVar 2) aNil))) (eC .non))) (sRet (eC .non)) sNext))
  (sFreeze 3 (sSetCall 3 f_scene_then (aCons (eVar 0) (aCons (eVar 3) (aCons (eVar 2) aNil)))))) (enumL k (scD (scs.drop k))) [.val (.tup (c.map .int)), .val (seqD q (scD scs)), x2, .val (.tup (T.map actD)), x4, x5] = .next [.val (.tup (c.map .int)), .val (seqD q (scD scs)), y2, .val (.tup (T'.map actD)), y4, y5] ∧ okS c T' ∧ ∀ i, look (tl T') i = cmbL c i scs)
  | 0, k, T, x2, x4, x5, hk, hT, hL => by
    have hk' : scs.drop k = [] := List.drop_eq_nil_of_le (by omega)
    have ht : scs.take k = scs := List.take_of_length_le (by omega)
    rw [hk']
    rw [ht] at hL
    exact ⟨fun e => by simp at e, fun _ => ⟨T, x2, x4, x5, rfl, hT, hL⟩⟩
  | m + 1, k, T, x2, x4, x5, hk, hT, hL => by
    have hk' : k < scs.length := by omega
    obtain ⟨s, hs⟩ : ∃ s, s = scs.getD k [] := ⟨_, rfl⟩
    have sm : s ∈ scs := by rw [hs]; exact getD_mem [] hk'
    have so := h s sm
    rw [drop_eq [] hk', ← hs, show enumL k (scD (s :: scs.drop (k + 1))) = .tup [.int (k : Nat), .tup (s.map actD)] :: enumL (k + 1) (scD (scs.drop (k + 1))) from rfl, List.range'_succ, List.any_cons]
    obtain ⟨y5, inn⟩ := jinner hc (S := seqD q (scD scs)) so (.val (.tup (T.map actD))) (.val (.int k)) (scs.take k) x5 fun e he => h e (List.mem_of_mem_take he)
    have ck : clK scs k = (scs.take k).any fun e => (clF e s).isSome := by rw [hs]; rfl
    rw [← ck] at inn
    have cu : cutL (scD scs) none (some (k : Int)) = scD (scs.take k) := by rw [cut_take]; unfold scD; rw [List.map_take]
    have sq := dSl_q q (scD scs) none (some (k : Int))
    rw [cu] at sq
    rw [forGo_cons (e1 := [.val (.tup (c.map .int)), .val (seqD q (scD scs)), .val (.tup (s.map actD)), .val (.tup (T.map actD)), .val (.int k), x5]) rfl]
    cases qk : clK scs k with
    | true =>
      rw [qk] at inn
      rw [if_pos rfl] at inn
      refine ⟨fun _ => ?_, fun e => by simp at e⟩
      simp [sq]
      rw [show forGo _ _ _ _ = _ from inn]
    | false =>
      rw [qk, if_neg (by simp)] at inn
      obtain ⟨T2, t1, t2, t3⟩ := sceneThen_ok hc.2.1 (fun i hi => (okC_pos hc i hi).1) hT so
      have hL2 : ∀ i, look (tl T2) i = cmbL c i (scs.take (k + 1)) := fun i => by
        rw [t3, hL, take_succ' [] hk', ← hs]
        unfold cmbL
        rw [List.foldl_append]; rfl
      obtain ⟨i1, i2⟩ := jloop hc q h hl m (k + 1) T2 (.val (.tup (s.map actD))) (.val (.int k)) y5 (by omega) t2 hL2
      have step : ∀ (B : CS) , True := fun _ => trivial
      rw [Bool.false_or]
      constructor
      · intro e
        simp [sq]
        rw [show forGo _ _ _ _ = _ from inn]
        simp [t1]
        exact i1 e
      · intro e
        obtain ⟨T', z2, z4, z5, k1, k2⟩ := i2 e
        refine ⟨T', z2, z4, z5, ?_, k2⟩
        simp [sq]
        rw [show forGo _ _ _ _ = _ from inn]
        simp [t1]
        exact k1
theorem joined_ok {c : List Int} (hc : okC c) (q : Bool) {scs : List (List Act)} (h : ∀ s ∈ scs, okS c s) (hl : scs.length ≤ 100) :
    ((List.range scs.length).any (clK scs) = true → f_joined [.tup (c.map .int), seqD q (scD scs)] = .ok (.val .non)) ∧
    ((List.range scs.length).any (clK scs) = false → ∃ T, f_joined [.tup (c.map .int), seqD q (scD scs)] = .ok (.val (.tup (T.map actD))) ∧ okS c T ∧ ∀ i, look (tl T) i = cmbL c i scs) := by
  rw [f_joined, fn_2]
  obtain ⟨x', e1⟩ := jdem (c := c) (S := seqD q (scD scs)) scs [] .un h
  rw [List.append_nil] at e1
  have nil : okS c [] := ⟨by simp, List.Pairwise.nil⟩
  obtain ⟨i1, i2⟩ := jloop hc q h hl scs.length 0 [] x' .un .un (by omega) nil fun i => rfl
  rw [← List.range_eq_range', List.drop_zero, List.map_nil] at i1 i2
  have de := dEnum_q q (scD scs)
  constructor
  · intro e
    have i1 := i1 e
    simp [startE, List.replicate]
    rw [show forGo _ _ _ _ = _ from e1]
    simp [de]
    rw [show forGo _ _ _ _ = _ from i1]
    simp
  · intro e
    obtain ⟨T', z2, z4, z5, k1, k2⟩ := i2 e
    refine ⟨T', ?_, k2⟩
    simp [startE, List.replicate]
    rw [show forGo _ _ _ _ = _ from e1]
    simp [de]
    rw [show forGo _ _ _ _ = _ from k1]
    simp
theorem joined_bad {c : List Int} (q : Bool) {scs : List (List Act)} {bad : List D} {rest : List D} (h : ∀ s ∈ scs, okS c s) (hb : Wr c bad) : f_joined [.tup (c.map .int), seqD q (scD scs ++ .tup bad :: rest)] = .exc ⟨6, []⟩ := by
  rw [f_joined, fn_2]
  obtain ⟨e, e1⟩ := jbad (S := seqD q (scD scs ++ .tup bad :: rest)) (rest := rest) h hb
  simp [startE, List.replicate]
  rw [show forGo _ _ _ _ = _ from e1]
  simp
/-! the row of scenes in any order -/
def runL (c : List Int) (l : List (List Act)) (st : List Int) : List Int := l.foldl (fun z s => resL c s z) st
theorem run_stB {c : List Int} : ∀ {l : List (List Act)} {st : List Int}, (∀ s ∈ l, okS c s) → stB c st = true → stB c (runL c l st) = true
  | [], st, _, h => h
  | s :: l, st, h, hs => run_stB (l := l) (fun t ht => h t (List.mem_cons_of_mem _ ht)) (stB_res hs (h s List.mem_cons_self).1)
def funL (n : Int) (l : List (Option Ac)) (x : Int) : Int := l.foldl (fun x o => doA n o x) x
theorem run_at {c : List Int} {i : Nat} (hi : i < c.length) : ∀ {l : List (List Act)} {st : List Int}, (∀ s ∈ l, okS c s) → stB c st = true → (runL c l st).getD i 0 = funL (c.getD i 0) (l.map fun s => look (tl s) i) (st.getD i 0)
  | [], st, _, h => rfl
  | s :: l, st, h, hs => by
    have so := h s List.mem_cons_self
    have sl := (stB_iff.mp hs).1
    show (runL c l (resL c s st)).getD i 0 = funL _ _ (doA (c.getD i 0) (look (tl s) i) (st.getD i 0))
    rw [run_at hi (fun t ht => h t (List.mem_cons_of_mem _ ht)) (stB_res hs so.1), res_at c i s st so.2 fun a ha => by rw [sl]; exact (so.1 a ha).1]
theorem doA_cmb {n x : Int} (hn : 0 < n) (h0 : 0 ≤ x) (h1 : x < n) : ∀ (l : List (Option Ac)) (o : Option Ac), doA n (l.foldl (fun o b => comb n o b) o) x = funL n l (doA n o x)
  | [], o => rfl
  | b :: l, o => by
    show doA n (l.foldl _ (comb n o b)) x = funL n l (doA n b (doA n o x))
    rw [doA_cmb hn h0 h1 l, doA_comb hn h0 h1]
theorem clO_comm {n x : Int} {a b : Option Ac} (h : clO a b = false) : doA n b (doA n a x) = doA n a (doA n b x) := by
  cases a with
  | none => rfl
  | some a =>
    cases b with
    | none => rfl
    | some b =>
      obtain ⟨a1, z⟩ := a
      obtain ⟨b1, w⟩ := b
      have h : (!(a1 && b1) && !decide ((a1, z) = (b1, w))) = false := h
      cases a1 with
      | true =>
        cases b1 with
        | true =>
          show ((x + z) % n + w) % n = ((x + w) % n + z) % n
          rw [Int.emod_add_emod, Int.emod_add_emod]
          congr 1
          omega
        | false => simp at h
      | false =>
        cases b1 with
        | true => simp at h
        | false =>
          simp at h
          subst h
          rfl
theorem clO_symm (a b : Option Ac) : clO a b = clO b a := by
  cases a with
  | none => cases b <;> rfl
  | some a =>
    cases b with
    | none => rfl
    | some b =>
      show (!(a.1 && b.1) && !decide (a = b)) = (!(b.1 && a.1) && !decide (b = a))
      rw [Bool.and_comm a.1 b.1]
      by_cases e : a = b
      · rw [e]
      · have : ¬ b = a := fun h => e h.symm
        simp [e, this]
theorem noClash {scs : List (List Act)} (h : (List.range scs.length).any (clK scs) = false) : ∀ i, ∀ x ∈ scs.map (fun s => look (tl s) i), ∀ y ∈ scs.map (fun s => look (tl s) i), ∀ n z, doA n y (doA n x z) = doA n x (doA n y z) := by
  intro i x hx y hy n z
  obtain ⟨j, hj, rfl⟩ := List.mem_iff_getElem.mp hx
  obtain ⟨k, hk, rfl⟩ := List.mem_iff_getElem.mp hy
  have hj' : j < scs.length := by simpa using hj
  have hk' : k < scs.length := by simpa using hk
  simp only [List.getElem_map]
  have key : ∀ a b, (ha : a < scs.length) → (hb : b < scs.length) → a < b → clO (look (tl scs[a]) i) (look (tl scs[b]) i) = false := by
    intro a b ha hb hab
    have h1 := List.any_eq_false.mp h b (List.mem_range.mpr hb)
    have h1 : clK scs b = false := by simpa using h1
    have h2 := List.any_eq_false.mp h1 scs[a] (List.mem_take_iff_getElem.mpr ⟨a, by omega, rfl⟩)
    have e : scs.getD b [] = scs[b] := by rw [List.getD_eq_getElem?_getD, List.getElem?_eq_getElem hb]; rfl
    rw [e] at h2
    have h3 : clF scs[a] scs[b] = none := by simpa using h2
    exact clF_none.mp h3 i
  rcases Nat.lt_trichotomy j k with lt | eq | gt
  · exact clO_comm (key j k hj' hk' lt)
  · subst eq; rfl
  · exact (clO_comm (key k j hk' hj' gt)).symm
theorem perm_run {c st : List Int} {scs : List (List Act)} (h : ∀ s ∈ scs, okS c s) (hst : stB c st = true) (hn : (List.range scs.length).any (clK scs) = false) {ord : List Nat} (hp : ord.Perm (List.range scs.length)) :
    runL c (ord.map fun j => scs.getD j []) st = runL c scs st := by
  have e0 : (List.range scs.length).map (fun j => scs.getD j []) = scs := by
    apply List.ext_getElem (by simp)
    intro i h1 h2
    simp [List.getD_eq_getElem?_getD, List.getElem?_eq_getElem h2]
  have p : (ord.map fun j => scs.getD j []).Perm scs := by
    have := hp.map (fun j => scs.getD j [])
    rwa [e0] at this
  have h' : ∀ s ∈ ord.map (fun j => scs.getD j []), okS c s := fun s hs => h s (p.mem_iff.mp hs)
  have l1 := (stB_iff.mp (run_stB h' hst)).1
  have l2 := (stB_iff.mp (run_stB h hst)).1
  refine ext_getD (by rw [l1, l2]) fun i hi => ?_
  have hi : i < c.length := by rw [← l1]; exact hi
  rw [run_at hi h' hst, run_at hi h hst]
  unfold funL
  exact (List.Perm.foldl_eq' ((p.map fun s => look (tl s) i).symm) (fun x hx y hy z => noClash hn i x hx y hy _ z) _).symm
theorem total_run {c st : List Int} {scs : List (List Act)} {T : List Act} (hc : okC c) (h : ∀ s ∈ scs, okS c s) (hst : stB c st = true) (hT : okS c T) (hL : ∀ i, look (tl T) i = cmbL c i scs) : resL c T st = runL c scs st := by
  have sl := (stB_iff.mp hst).1
  have l2 := (stB_iff.mp (run_stB h hst)).1
  refine ext_getD (by rw [res_len, sl, l2]) fun i hi => ?_
  have hi : i < c.length := by rw [← sl]; simpa [res_len] using hi
  have rg := (stB_iff.mp hst).2 i hi
  rw [run_at hi h hst, res_at c i T st hT.2 (fun a ha => by rw [sl]; exact (hT.1 a ha).1), hL]
  unfold cmbL
  have := doA_cmb (okC_pos hc i hi).1 rg.1 rg.2 (scs.map fun s => look (tl s) i) none
  rw [List.foldl_map] at this
  exact this
theorem jh_one {c : List Int} (s0 s2 s3 : D) (x4 x5 x6 x8 x10 : Sl) : ∀ (l : List (List Act)) (st : List Int) (x9 : Sl), (∀ s ∈ l, okS c s) → stB c st = true → ∃ y9, forGo (gName 9) (sFreeze 7 (sSetCall 7 f__law_done (aCons (eVar 0) (aCons (eVar 9) (aCons (eVar 7) aNil))))) (scD l) [.val (.tup (c.map .int)), .val s0, .val s2, .val s3, x4, x5, x6, .val (.tup (st.map .int)), x8, x9, x10] =
    .next [.val (.tup (c.map .int)), .val s0, .val s2, .val s3, x4, x5, x6, .val (.tup ((runL c l st).map .int)), x8, y9, x10]
  | [], st, x9, _, _ => ⟨x9, rfl⟩
  | s :: l, st, x9, h, hs => by
    have so := h s List.mem_cons_self
    obtain ⟨y9, ih⟩ := jh_one (c := c) s0 s2 s3 x4 x5 x6 x8 x10 l (resL c s st) (.val (.tup (s.map actD))) (fun t ht => h t (List.mem_cons_of_mem _ ht)) (stB_res hs so.1)
    refine ⟨y9, ?_⟩
    have d := done_ok (s := st) (stB_iff.mp hs).1 so.1
    show forGo _ _ (.tup (s.map actD) :: scD l) _ = _
    rw [forGo_cons (e1 := [.val (.tup (c.map .int)), .val s0, .val s2, .val s3, x4, x5, x6, .val (.tup (st.map .int)), x8, .val (.tup (s.map actD)), x10]) rfl]
    simp [d]
    exact ih
theorem jh_two {c : List Int} {scs : List (List Act)} (hsc : ∀ s ∈ scs, okS c s) (s2 s3 : D) (x4 x5 x6 x7 x9 : Sl) : ∀ (l : List Nat) (st : List Int) (x10 : Sl), (∀ j ∈ l, j < scs.length) → stB c st = true → ∃ y10, forGo (gName 10) (sFreeze 8 (sSetCall 8 f__law_done (aCons (eVar 0) (aCons (eOp2 dIx (eVar 1) (eVar 10)) (aCons (eVar 8) aNil))))) (l.map fun j => .int (j : Nat)) [.val (.tup (c.map .int)), .val (.lst (scD scs)), .val s2, .val s3, x4, x5, x6, x7, .val (.tup (st.map .int)), x9, x10] =
    .next [.val (.tup (c.map .int)), .val (.lst (scD scs)), .val s2, .val s3, x4, x5, x6, x7, .val (.tup ((runL c (l.map fun j => scs.getD j []) st).map .int)), x9, y10]
  | [], st, x10, _, _ => ⟨x10, rfl⟩
  | j :: l, st, x10, h, hs => by
    have hj := h j List.mem_cons_self
    have so := hsc (scs.getD j []) (getD_mem [] hj)
    obtain ⟨y10, ih⟩ := jh_two hsc s2 s3 x4 x5 x6 x7 x9 l (resL c (scs.getD j []) st) (.val (.int j)) (fun t ht => h t (List.mem_cons_of_mem _ ht)) (stB_res hs so.1)
    refine ⟨y10, ?_⟩
    have d := done_ok (s := st) (stB_iff.mp hs).1 so.1
    have ix : dIx (.lst (scD scs)) (.int (j : Int)) = .ok (.tup ((scs.getD j []).map actD)) := by
      rw [dIx_l (by simpa [scD] using hj)]
      simp [scD, List.getD_eq_getElem?_getD, List.getElem?_eq_getElem hj]
    rw [List.map_cons, forGo_cons (e1 := [.val (.tup (c.map .int)), .val (.lst (scD scs)), .val s2, .val s3, x4, x5, x6, x7, .val (.tup (st.map .int)), x9, .val (.int j)]) rfl]
    rw [show runL c ((j :: l).map fun j => scs.getD j []) st = runL c (l.map fun j => scs.getD j []) (resL c (scs.getD j []) st) from rfl]
    generalize resL c (scs.getD j []) st = st2 at *
    generalize scs.getD j [] = s at *
    simp [ix, d]
    exact ih
theorem joined_holds {c : List Int} {scs : List (List Act)} {T : List Act} {ord : List Nat} (hc : okC c) (h : ∀ s ∈ scs, okS c s) (hT : okS c T) (hL : ∀ i, look (tl T) i = cmbL c i scs) (hn : (List.range scs.length).any (clK scs) = false) (hp : ord.Perm (List.range scs.length)) :
    f__law_joined_holds [.tup (c.map .int), .lst (scD scs), .tup (T.map actD), .lst (ord.map fun j => .int (j : Nat))] = .ok (.val (.bl true)) := by
  rw [f__law_joined_holds, fn_4]
  have ls := lscene_ok hT
  have ol : ∀ j ∈ ord, j < scs.length := fun j hj => List.mem_range.mp (hp.mem_iff.mp hj)
  obtain ⟨e2, h1, y4, y5, y6, y7, y8, y9, y10, h2⟩ := forGo_inv (g := (gName 4)) (body := (sSeq (sSet 5 (eB dTuple (aCons (eShare (fComp [6] (iSeq (eVar 0)) (gName 6) tTrue (eOp2 dMod (eB dInt (aCons (eVar 4) aNil)) (eVar 6)))) aNil)))
  (sSeq (sSet 7 (eVar 5))
  (sSeq (sSet 8 (eVar 5))
  (sSeq (sFor (iSeq (eVar 1)) (gName 9) (sFreeze 7 (sSetCall 7 f__law_done (aCons (eVar 0) (aCons (eVar 9) (aCons (eVar 7) aNil))))))
  (sSeq (sFor (iSeq (eVar 3)) (gName 10) (sFreeze 8 (sSetCall 8 f__law_done (aCons (eVar 0) (aCons (eOp2 dIx (eVar 1) (eVar 10)) (aCons (eVar 8) aNil))))))
  (sIf (tOr (tVal (eOp2 dNe (ePeek 7) (ePeek 8))) (tVal (eOp2 dNe (eCall f__law_done (aCons (eVar 0) (aCons (eVar 2) (aCons (eVar 5) aNil)))) (ePeek 7)))) (sRet (eC (.bl false))) sNext))))))) (all := rangeL 0 5) (env := [.val (.tup (c.map .int)), .val (.lst (scD scs)), .val (.tup (T.map actD)), .val (.lst (ord.map fun j => .int (j : Nat))), .un, .un, .un, .un, .un, .un, .un])
    (P := fun done env => ∃ y4 y5 y6 y7 y8 y9 y10, env = [.val (.tup (c.map .int)), .val (.lst (scD scs)), .val (.tup (T.map actD)), .val (.lst (ord.map fun j => .int (j : Nat))), y4, y5, y6, y7, y8, y9, y10])
    ⟨.un, .un, .un, .un, .un, .un, .un, rfl⟩ (fun done d rest env he ⟨y4, y5, y6, y7, y8, y9, y10, e1⟩ => by
      obtain ⟨hd, hl⟩ := range0_at (n := 5) he
      subst hd; subst e1
      have hb := base_stB hc done.length
      have sl := (stB_iff.mp hb).1
      have q1 : ∀ z5 z6, (fComp [6] (iSeq (eVar 0)) (gName 6) tTrue (eOp2 dMod (eB dInt (aCons (eVar 4) aNil)) (eVar 6))) [.val (.tup (c.map .int)), .val (.lst (scD scs)), .val (.tup (T.map actD)), .val (.lst (ord.map fun j => .int (j : Nat))), .val (.int done.length), z5, z6, y7, y8, y9, y10] = .ok (.lst ((base c done.length).map .int)) := by
        intro z5 z6
        simp only [fComp_a, iSeq_a, eVar_a, List.getElem?_cons_zero, Out.bind_ok, dItems_t, wipeE_c, wipeE_n]
        rw [lc_base hc (k := done.length) (by decide) (by simp) rfl]
        rfl
      obtain ⟨z9, l1⟩ := jh_one (c := c) (.lst (scD scs)) (.tup (T.map actD)) (.lst (ord.map fun j => .int (j : Nat))) (.val (.int done.length)) (.val (.tup ((base c done.length).map .int))) y6 (.val (.tup ((base c done.length).map .int))) y10 scs (base c done.length) y9 h hb
      obtain ⟨z10, l2⟩ := jh_two h (.tup (T.map actD)) (.lst (ord.map fun j => .int (j : Nat))) (.val (.int done.length)) (.val (.tup ((base c done.length).map .int))) y6 (.val (.tup ((runL c scs (base c done.length)).map .int))) z9 ord (base c done.length) y10 ol hb
      rw [perm_run h hb hn hp] at l2
      have d := done_ok (s := base c done.length) sl hT.1
      rw [total_run hc h hb hT hL] at d
      have ne := dNe_refl (okD_ints (runL c scs (base c done.length)))
      generalize runL c scs (base c done.length) = R at *
      generalize base c done.length = B at *
      exact ⟨_, rfl, _, .inl (by
        simp [q1, -fComp_a]
        rw [show forGo _ _ _ _ = _ from l1]
        simp
        rw [show forGo _ _ _ _ = _ from l2]
        simp [ne, d]
        exact ⟨rfl, rfl, rfl, rfl, rfl, rfl, rfl⟩), _, _, _, _, _, _, _, rfl⟩)
  have r5 : dRange1 [.int 5] = .ok (rangeL 0 5) := dRange1_i (by decide)
  subst h2
  simp [startE, List.replicate, ls, r5, h1]
end Lw
namespace Lw
open M
theorem rep_len (n : Nat) (l : List Int) : ((List.replicate n l).flatten).length = n * l.length := by
  induction n with
  | zero => simp
  | succ n ih => rw [List.replicate_succ, List.flatten_cons, List.length_append, ih, Nat.succ_mul]; omega
theorem rep_map (n : Nat) (l : List Int) : (List.replicate n (l.map D.int)).flatten = ((List.replicate n l).flatten).map .int := by
  induction n with
  | zero => rfl
  | succ n ih => rw [List.replicate_succ, List.replicate_succ, List.flatten_cons, List.flatten_cons, List.map_append, ih]
theorem rep_mem {n : Nat} {l : List Int} {b : Int} (hb : b ∈ (List.replicate n l).flatten) : b ∈ l := by
  obtain ⟨m, h1, h2⟩ := List.mem_flatten.mp hb
  rw [(List.mem_replicate.mp h1).2] at h2
  exact h2
theorem fRep_i {n : Nat} {l : List Int} (hn : n ≤ 1000) (hl : l.length ≤ 1000) : fRep (.lst (l.map .int)) (.int (n : Nat)) = .ok (((List.replicate n l).flatten).map .int) := by
  show (if _ then _ else _) = _
  rw [if_pos ⟨by simpa using hl, by omega, by omega⟩, Int.toNat_natCast, rep_map]
end Lw
namespace Lw
open M
theorem filt (c : List Int) {acts : List Act} (p : Int → Bool) (t : CT) {env : Env} {i : Nat} (ht : ∀ a ∈ acts, t (env.set i (.val (actD a))) = .ok (p a.dev)) (hi : i < env.length) (hl : acts.length ≤ 1000) :
    lcGo (gName i) t (eVar i) (acts.map actD) env [] = .ok ((acts.filter fun a => p a.dev).map actD) := by
  rw [lcGo_go (fun d => p (dev0 d)) (fun d => d) (acts.map actD) [] (fun d hd => by
    obtain ⟨a, ha, rfl⟩ := List.mem_map.mp hd
    refine ⟨_, rfl, ht a ha, fun _ => ?_⟩
    simp [hi]) (by simp [line_v]; omega)]
  rw [List.nil_append, List.map_id', List.filter_map]
  rfl
end Lw
namespace Lw
open M
/-! ### what the law makes -/
theorem map_erase {α β : Type} (f : α → β) : ∀ (l : List α) (k : Nat), (l.map f).eraseIdx k = (l.eraseIdx k).map f
  | [], k => rfl
  | x :: l, 0 => rfl
  | x :: l, k + 1 => by
    show f x :: (l.map f).eraseIdx k = f x :: (l.eraseIdx k).map f
    rw [map_erase f l k]
theorem perm_erase {α : Type} : ∀ (l : List α) (k : Nat) (h : k < l.length), (l[k] :: l.eraseIdx k).Perm l
  | x :: l, 0, _ => List.Perm.refl _
  | x :: l, k + 1, h => (List.Perm.swap x (l[k]'(by simpa using h)) (l.eraseIdx k)).trans ((perm_erase l k (by simpa using h)).cons x)
theorem order_ok (z : Int) (n : Nat) (hn : n ≤ 100) : ∃ ord : List Nat, f__law_order [.int z, .int n] = .ok (.own (.lst (ord.map fun j => .int (j : Nat)))) ∧ ord.Perm (List.range n) := by
  rw [f__law_order, fn_2]
  obtain ⟨row, hr, hr1⟩ := row_ok z true (List.replicate n 720720) (fun b hb => by rw [(List.mem_replicate.mp hb).2]; decide) (by simp; omega)
  have hr : f__law_row [.int z, .lst ((List.replicate n (720720 : Int)).map .int)] = .ok (.own (.lst (row.map .int))) := hr
  have hl : row.length = n := by rw [hr1.1]; simp
  have loop : ∀ (row : List Int) (left ord : List Nat) (x4 x5 : Sl), row.length = left.length → left.length ≤ 100 → ord.length + left.length ≤ 100 → ∃ (ord' : List Nat) (y4 y5 : Sl), forGo (gName 4) (sAppPop 3 2 (pAt (eOp2 dMod (eVar 4) (eB dLen (aCons (ePeek 2) aNil))))) (row.map .int) [.val (.int z), .val (.int n), .own (.lst (left.map fun j => .int (j : Nat))), .own (.lst (ord.map fun j => .int (j : Nat))), x4, x5] =
      .next [.val (.int z), .val (.int n), .own (.lst []), .own (.lst (ord'.map fun j => .int (j : Nat))), y4, y5] ∧ ord'.Perm (ord ++ left) := by
    intro row
    induction row with
    | nil =>
      intro left ord x4 x5 h1 h2 h3
      have : left = [] := List.length_eq_zero_iff.mp h1.symm
      subst this
      exact ⟨ord, x4, x5, rfl, by simp⟩
    | cons r row ih =>
      intro left ord x4 x5 h1 h2 h3
      have lp : (0 : Int) < (left.length : Int) := by simp at h1; omega
      have m0 := Int.emod_nonneg r (show (left.length : Int) ≠ 0 by omega)
      have m1 := Int.emod_lt_of_pos r lp
      obtain ⟨k, hk⟩ : ∃ k : Nat, r % (left.length : Int) = k := ⟨(r % (left.length : Int)).toNat, by omega⟩
      have mm := dMod_i r left.length lp
      rw [hk] at mm m1
      have kl : k < left.length := by omega
      obtain ⟨ord', y4, y5, e1, e2⟩ := ih (left.eraseIdx k) (ord ++ [left[k]]) (.val (.int r)) x5 (by rw [List.length_eraseIdx_of_lt kl]; simp at h1; omega) (by rw [List.length_eraseIdx_of_lt kl]; omega) (by rw [List.length_eraseIdx_of_lt kl, List.length_append]; simp; omega)
      refine ⟨ord', y4, y5, ?_, e2.trans ?_⟩
      · have pa := pAt_ok (env := [.val (.int z), .val (.int n), .own (.lst (left.map fun j => .int (j : Nat))), .own (.lst (ord.map fun j => .int (j : Nat))), .val (.int r), x5]) (k := eOp2 dMod (eVar 4) (eB dLen (aCons (ePeek 2) aNil))) (xs := left.map fun j => .int (j : Nat)) (z := (k : Int)) (by simp [mm]) (by omega) (by simp; omega) (by simp [line_v]; omega)
        simp only [Int.toNat_natCast, List.getElem_map] at pa
        rw [map_erase] at pa
        rw [List.map_cons, forGo_go (e1 := [.val (.int z), .val (.int n), .own (.lst (left.map fun j => .int (j : Nat))), .own (.lst (ord.map fun j => .int (j : Nat))), .val (.int r), x5]) (e2 := [.val (.int z), .val (.int n), .own (.lst ((left.eraseIdx k).map fun j => .int (j : Nat))), .own (.lst ((ord ++ [left[k]]).map fun j => .int (j : Nat))), .val (.int r), x5]) rfl (.inl (by
          have ol : ord.length < 16777216 := by omega
          rw [sAppPop_a]
          simp only [List.getElem?_cons_succ, List.getElem?_cons_zero, pa, fl_ok]
          simp [line_v, ol]))]
        exact e1
      · rw [List.append_assoc]
        exact List.Perm.append_left ord (perm_erase left k kl)
  obtain ⟨ord', y4, y5, e1, e2⟩ := loop row (List.range n) [] .un .un (by simp [hl]) (by simpa using hn) (by simpa using hn)
  rw [List.nil_append] at e2
  refine ⟨ord', ?_, e2⟩
  have hrg := dRange1_i (smallI_n (n := n) (by omega))
  have dl := dListRg_i (i := 0) (j := (n : Int)) (by decide) (smallI_n (by omega)) (by omega)
  have e0 : rangeL 0 n = (List.range n).map fun j => D.int (j : Nat) := by
    unfold rangeL
    rw [show ((n : Int) - 0).toNat = n by omega]
    exact List.map_congr_left fun i _ => by simp
  rw [e0] at dl
  have q1 : ∀ x2 x3 x4 x5 : Sl, (fComp [5] (iB dRange1 (aCons (eVar 1) aNil)) (gName 5) tTrue (eC (.int 720720))) [.val (.int z), .val (.int n), x2, x3, x4, x5] = .ok (.lst ((List.replicate n (720720 : Int)).map .int)) := by
    intro x2 x3 x4 x5
    simp only [fComp_a, iB_a, aCons_a, eVar_a, aNil_a, List.getElem?_cons_zero, List.getElem?_cons_succ, Out.bind_ok, hrg, wipeE_c, wipeE_n]
    rw [lc_map (g := gName 5) (e := eC (.int 720720)) (fun _ => .int 720720) (rangeL 0 n) (fun d hd => ⟨_, rfl, rfl⟩) (by rw [rangeL_len]; omega), List.map_replicate]
    exact congrArg (fun l => Out.ok (Own.lst l)) (List.eq_replicate_iff.mpr ⟨by simp, fun d hd => by obtain ⟨_, _, rfl⟩ := List.mem_map.mp hd; rfl⟩)
  generalize (List.replicate n (720720 : Int)).map D.int = RR at q1 hr
  rw [List.map_nil] at e1
  generalize (List.range n).map (fun j => D.int (j : Nat)) = LL at dl e1
  simp [startE, List.replicate, dl, q1, hr, e1, -fComp_a]
theorem okS_more {c : List Int} {acts : List Act} {m : Nat} (s1 : okS c acts) (s2 : ∀ a ∈ acts, a.dev < m) (hl : m < c.length) (st : Bool) (z : Int) (z1 : 0 ≤ z) (z2 : z < c.getD m 0) (z3 : st = true → 1 ≤ z) : okS c (acts ++ [⟨m, st, z⟩]) ∧ (∀ a ∈ acts ++ [⟨m, st, z⟩], a.dev < m + 1) := by
  refine ⟨⟨fun a ha => ?_, List.pairwise_append.mpr ⟨s1.2, List.pairwise_singleton _ _, fun a ha b hb => ?_⟩⟩, fun a ha => ?_⟩
  · rcases List.mem_append.mp ha with q | q
    · exact s1.1 a q
    · rw [List.mem_singleton.mp q]; exact ⟨hl, z1, z2, z3⟩
  · rw [List.mem_singleton.mp hb]; exact s2 a ha
  · rcases List.mem_append.mp ha with q | q
    · have := s2 a q; omega
    · rw [List.mem_singleton.mp q]; simp
theorem rows2 (z : Int) (c : List Int) (hc : okC c) : ∃ row : List Int, row.length = 2 * c.length ∧ f__law_row [.int z, .lst (((List.replicate c.length [(2 : Int), 60]).flatten).map .int)] = .ok (.own (.lst (row.map .int))) := by
  have hc2 := hc.2.1
  obtain ⟨row, hr, hst⟩ := row_ok z true ((List.replicate c.length [(2 : Int), 60]).flatten) (fun b hb => by
    have := rep_mem hb
    simp only [List.mem_cons, List.mem_nil_iff, or_false] at this
    rcases this with rfl | rfl <;> decide) (by rw [rep_len]; simp; omega)
  exact ⟨row, by rw [hst.1, rep_len]; simp; omega, hr⟩
theorem tame_ok (z : Int) (c common : List Int) (hc : okC c) (hcm : common.length = 2 * c.length) : ∃ acts, okS c acts ∧ f__law_tame [.int z, .tup (c.map .int), .lst (common.map .int)] = .ok (.val (.tup (acts.map actD))) := by
  have hc2 := hc.2.1
  obtain ⟨row, hlen, hr⟩ := rows2 z c hc
  have fr := fRep_i (n := c.length) (l := [2, 60]) (by omega) (by simp)
  simp only [List.map_cons, List.map_nil] at fr
  generalize ((List.replicate c.length [(2 : Int), 60]).flatten).map D.int = S at fr hr
  rw [f__law_tame, fn_3]
  obtain ⟨e2, h1, acts, x, y, h2, h3, h4⟩ := forGo_inv (g := (gName 5)) (body := (sSeq (sSet 6 (eOp2 dMod (eOp2 dIx (ePeek 3) (eOp2 dAdd (eOp2 dMul (eC (.int 2)) (eVar 5)) (eC (.int 1)))) (eOp2 dIx (eVar 1) (eVar 5))))
  (sIf (tAnd (tVal (eOp2 dEq (eOp2 dIx (ePeek 3) (eOp2 dMul (eC (.int 2)) (eVar 5))) (eC (.int 1)))) (tVal (eOp2 dEq (eOp2 dIx (eVar 2) (eOp2 dMul (eC (.int 2)) (eVar 5))) (eC (.int 0))))) (sAppend 4 (eTup (aCons (eVar 5) (aCons (eC (.str "set")) (aCons (eOp2 dMod (eOp2 dIx (eVar 2) (eOp2 dAdd (eOp2 dMul (eC (.int 2)) (eVar 5)) (eC (.int 1)))) (eOp2 dIx (eVar 1) (eVar 5))) aNil))))) (sIf (tAnd (tVal (eOp2 dEq (eOp2 dIx (ePeek 3) (eOp2 dMul (eC (.int 2)) (eVar 5))) (eC (.int 1)))) (tVal (eOp2 dGt (eVar 6) (eC (.int 0))))) (sAppend 4 (eTup (aCons (eVar 5) (aCons (eC (.str "step")) (aCons (eVar 6) aNil))))) sNext)))) (all := rangeL 0 c.length) (env := [.val (.int z), .val (.tup (c.map .int)), .val (.lst (common.map .int)), .own (.lst (row.map .int)), .own (.lst []), .un, .un])
    (P := fun done env => ∃ (acts : List Act) (x y : Sl), env = [.val (.int z), .val (.tup (c.map .int)), .val (.lst (common.map .int)), .own (.lst (row.map .int)), .own (.lst (acts.map actD)), x, y] ∧ okS c acts ∧ (∀ a ∈ acts, a.dev < done.length))
    ⟨[], .un, .un, rfl, ⟨by simp, List.Pairwise.nil⟩, by simp⟩ (fun done d rest env he ⟨acts, x, y, e1, s1, s2⟩ => by
      obtain ⟨hd, hl⟩ := range0_at he
      subst hd; subst e1
      obtain ⟨m, hm⟩ : ∃ m, m = done.length := ⟨_, rfl⟩
      rw [← hm] at hl s2 ⊢
      have al : acts.length < 16777216 := by have := okS_len s1; omega
      have cm := okC_at hc hl
      have ic := dIx_getD (xs := c) hl
      have i1 := dIx_getDl (xs := row) (k := 2 * m) (by omega)
      have i2 := dIx_getDl (xs := row) (k := 2 * m + 1) (by omega)
      have i3 := dIx_getDl (xs := common) (k := 2 * m) (by omega)
      have i4 := dIx_getDl (xs := common) (k := 2 * m + 1) (by omega)
      rw [show ((2 * m + 1 : Nat) : Int) = 2 * (m : Int) + 1 by omega] at i2 i4
      rw [show ((2 * m : Nat) : Int) = 2 * (m : Int) by omega] at i1 i3
      have mm := dMod_i (row.getD (2 * m + 1) 0) (c.getD m 0) (by omega)
      have mc := dMod_i (common.getD (2 * m + 1) 0) (c.getD m 0) (by omega)
      have mu := mulL 2 (m : Int) (by decide)
      generalize row.getD (2 * m) 0 = u at *
      generalize common.getD (2 * m) 0 = v at *
      have r1 := Int.emod_nonneg (row.getD (2 * m + 1) 0) (show c.getD m 0 ≠ 0 by omega)
      have r2 := Int.emod_lt_of_pos (row.getD (2 * m + 1) 0) (show 0 < c.getD m 0 by omega)
      have r3 := Int.emod_nonneg (common.getD (2 * m + 1) 0) (show c.getD m 0 ≠ 0 by omega)
      have r4 := Int.emod_lt_of_pos (common.getD (2 * m + 1) 0) (show 0 < c.getD m 0 by omega)
      generalize row.getD (2 * m + 1) 0 % c.getD m 0 = w at *
      generalize common.getD (2 * m + 1) 0 % c.getD m 0 = w2 at *
      by_cases q1 : u = 1
      · by_cases q2 : v = 0
        · have k := okS_more s1 s2 hl false w2 r3 r4 (fun e => nomatch e)
          refine ⟨_, rfl, _, .inl ?_, acts ++ [⟨m, false, w2⟩], .val (.int m), .val (.int w), rfl, k.1, ?_⟩
          · simp [ic, i1, i2, i3, i4, mm, mc, mu, q1, q2, line_v, al, actD, word, -List.getD_eq_getElem?_getD]
          · rw [List.length_append, ← hm]; exact k.2
        · by_cases q3 : 0 < w
          · have k := okS_more s1 s2 hl true w r1 r2 (fun _ => q3)
            refine ⟨_, rfl, _, .inl ?_, acts ++ [⟨m, true, w⟩], .val (.int m), .val (.int w), rfl, k.1, ?_⟩
            · simp [ic, i1, i2, i3, i4, mm, mc, mu, q1, q2, q3, line_v, al, actD, word, -List.getD_eq_getElem?_getD]
            · rw [List.length_append, ← hm]; exact k.2
          · refine ⟨_, rfl, _, .inl ?_, acts, .val (.int m), .val (.int w), rfl, s1, ?_⟩
            · simp [ic, i1, i2, i3, i4, mm, mc, mu, q1, q2, q3, line_v, al, actD, word, -List.getD_eq_getElem?_getD]
            · rw [List.length_append, ← hm]; exact fun a ha => by have := s2 a ha; simp; omega
      · refine ⟨_, rfl, _, .inl ?_, acts, .val (.int m), .val (.int w), rfl, s1, ?_⟩
        · simp [ic, i1, i2, i3, i4, mm, mc, mu, q1, line_v, al, actD, word, -List.getD_eq_getElem?_getD]
        · rw [List.length_append, ← hm]; exact fun a ha => by have := s2 a ha; simp; omega)
  refine ⟨acts, h3, ?_⟩
  have hrg := dRange1_i (smallI_n (n := c.length) (by omega))
  subst h2
  simp [startE, List.replicate, fr, hr, hrg, h1]
theorem changed_ok (z : Int) (c : List Int) (acts : List Act) (hc : okC c) (h : okS c acts) : ∃ acts', okS c acts' ∧ f__law_changed [.tup (acts.map actD), .tup (c.map .int), .int z] = .ok (.val (.tup (acts'.map actD))) := by
  have hc1 := hc.1
  have hc2 := hc.2.1
  have hl := okS_len h
  obtain ⟨row, hr, hr1⟩ := row_ok z true [60, 2, 60] (by decide) (by decide)
  have hr : f__law_row [.int z, .lst [.int 60, .int 2, .int 60]] = .ok (.own (.lst (row.map .int))) := hr
  obtain ⟨u, v, w, rfl⟩ : ∃ a b c, row = [a, b, c] := by
    have := hr1.1
    match row, this with
    | [a, b, c], _ => exact ⟨a, b, c, rfl⟩
  simp only [List.map_cons, List.map_nil] at hr
  obtain ⟨dv, hdv⟩ : ∃ dv : Nat, u % c.length = dv := ⟨(u % c.length).toNat, by have := Int.emod_nonneg u (show (c.length : Int) ≠ 0 by omega); omega⟩
  have hd1 := Int.emod_lt_of_pos u (show (0 : Int) < c.length by omega)
  have mu := dMod_i u c.length (by omega)
  rw [hdv] at mu hd1
  have hd : dv < c.length := by omega
  have cm := okC_at hc hd
  have ic := dIx_getD (xs := c) hd
  have mw := dMod_i w (c.getD dv 0) (by omega)
  have r1 := Int.emod_nonneg w (show c.getD dv 0 ≠ 0 by omega)
  have r2 := Int.emod_lt_of_pos w (show 0 < c.getD dv 0 by omega)
  generalize w % c.getD dv 0 = nm at *
  have a0 : ∀ a : Act, dIx (actD a) (.int 0) = .ok (.int a.dev) := fun a => eqOf rfl
  obtain ⟨lo, hlo⟩ : ∃ lo, lo = acts.filter fun a => decide ((a.dev : Int) < dv) := ⟨_, rfl⟩
  obtain ⟨hi, hhi⟩ : ∃ hi, hi = acts.filter fun a => decide ((dv : Int) < a.dev) := ⟨_, rfl⟩
  have llo : lo.length ≤ 16 := by rw [hlo]; exact Nat.le_trans (List.length_filter_le _ _) (by omega)
  have lhi : hi.length ≤ 16 := by rw [hhi]; exact Nat.le_trans (List.length_filter_le _ _) (by omega)
  have q1 : ∀ x3 x5 x6 x7 x8, (fComp [7] (iSeq (eVar 0)) (gName 7) (tVal (eOp2 dLt (eOp2 dIx (eVar 7) (eC (.int 0))) (eVar 4))) (eVar 7)) [.val (.tup (acts.map actD)), .val (.tup (c.map .int)), .val (.int z), x3, .val (.int dv), x5, x6, x7, x8] = .ok (.lst (lo.map actD)) := fun x3 x5 x6 x7 x8 => by
    have := filt c (acts := acts) (fun z => decide (z < (dv : Int))) (tVal (eOp2 dLt (eOp2 dIx (eVar 7) (eC (.int 0))) (eVar 4))) (env := [.val (.tup (acts.map actD)), .val (.tup (c.map .int)), .val (.int z), x3, .val (.int dv), x5, x6, .un, x8]) (i := 7) (fun a ha => by simp [a0]) (by simp) (by omega)
    rw [← hlo] at this
    simp only [fComp_a, iSeq_a, eVar_a, wipeE_c, wipeE_n]
    simp
    rw [show lcGo _ _ _ _ _ _ = _ from this]
    rfl
  have q2 : ∀ x3 x5 x6 x7 x8, (fComp [7] (iSeq (eVar 0)) (gName 7) (tVal (eOp2 dGt (eOp2 dIx (eVar 7) (eC (.int 0))) (eVar 4))) (eVar 7)) [.val (.tup (acts.map actD)), .val (.tup (c.map .int)), .val (.int z), x3, .val (.int dv), x5, x6, x7, x8] = .ok (.lst (hi.map actD)) := fun x3 x5 x6 x7 x8 => by
    have := filt c (acts := acts) (fun z => decide ((dv : Int) < z)) (tVal (eOp2 dGt (eOp2 dIx (eVar 7) (eC (.int 0))) (eVar 4))) (env := [.val (.tup (acts.map actD)), .val (.tup (c.map .int)), .val (.int z), x3, .val (.int dv), x5, x6, .un, x8]) (i := 7) (fun a ha => by simp [a0]) (by simp) (by omega)
    rw [← hhi] at this
    simp only [fComp_a, iSeq_a, eVar_a, wipeE_c, wipeE_n]
    simp
    rw [show lcGo _ _ _ _ _ _ = _ from this]
    rfl
  have olo : okS c lo := by rw [hlo]; exact ⟨fun a ha => h.1 a (List.mem_filter.mp ha).1, h.2.filter _⟩
  have ohi : okS c hi := by rw [hhi]; exact ⟨fun a ha => h.1 a (List.mem_filter.mp ha).1, h.2.filter _⟩
  have blo : ∀ a ∈ lo, a.dev < dv := fun a ha => by rw [hlo] at ha; have := (List.mem_filter.mp ha).2; simpa using this
  have bhi : ∀ a ∈ hi, dv < a.dev := fun a ha => by rw [hhi] at ha; have := (List.mem_filter.mp ha).2; simpa using this
  have mid : ∀ st : Bool, (st = true → 1 ≤ nm) → okS c (lo ++ ⟨dv, st, nm⟩ :: hi) := fun st hs => by
    refine ⟨fun a ha => ?_, List.pairwise_append.mpr ⟨olo.2, List.pairwise_cons.mpr ⟨fun b hb => bhi b hb, ohi.2⟩, fun a ha b hb => ?_⟩⟩
    · rcases List.mem_append.mp ha with e | e
      · exact olo.1 a e
      · rcases List.mem_cons.mp e with e | e
        · rw [e]; exact ⟨hd, r1, r2, hs⟩
        · exact ohi.1 a e
    · have := blo a ha
      rcases List.mem_cons.mp hb with e | e
      · rw [e]; exact this
      · have := bhi b e; omega
  have none : okS c (lo ++ hi) := ⟨fun a ha => (List.mem_append.mp ha).elim (olo.1 a) (ohi.1 a), List.pairwise_append.mpr ⟨olo.2, ohi.2, fun a ha b hb => Nat.lt_trans (blo a ha) (bhi b hb)⟩⟩
  have x0 : ∀ b : D, dIx (.lst [.int u, b, .int w]) (.int 0) = .ok (.int u) := fun b => eqOf rfl
  have x1 : ∀ b : D, dIx (.lst [.int u, b, .int w]) (.int 1) = .ok b := fun b => eqOf rfl
  have x2 : ∀ b : D, dIx (.lst [.int u, b, .int w]) (.int 2) = .ok (.int w) := fun b => eqOf rfl
  have ad : ∀ X Y : List D, X.length ≤ 100 → Y.length ≤ 100 → dAdd (.lst X) (.lst Y) = .ok (.lst (X ++ Y)) := fun X Y h1 h2 => dAdd_l (by rw [line_v]; omega)
  have b1 := fun x => ad (lo.map actD) [x] (by simp; omega) (by simp)
  have b2 := fun x => ad (lo.map actD ++ [x]) (hi.map actD) (by simp; omega) (by simp; omega)
  have b3 := ad (lo.map actD) (hi.map actD) (by simp; omega) (by simp; omega)
  rw [f__law_changed, fn_3]
  by_cases c1 : v = 0
  · refine ⟨_, mid false (fun e => nomatch e), ?_⟩
    simp [startE, List.replicate, hr, x0, x1, x2, mu, ic, mw, q1, q2, c1, b1, b2, actD, word, -fComp_a, -List.getD_eq_getElem?_getD]
  · by_cases c2 : nm = 0
    · refine ⟨_, none, ?_⟩
      simp [startE, List.replicate, hr, x0, x1, x2, mu, ic, mw, q1, q2, c1, c2, b3, -fComp_a, -List.getD_eq_getElem?_getD]
    · refine ⟨_, mid true (fun _ => by omega), ?_⟩
      simp [startE, List.replicate, hr, x0, x1, x2, mu, ic, mw, q1, q2, c1, c2, b1, b2, actD, word, -fComp_a, -List.getD_eq_getElem?_getD]
end Lw
namespace Lw
open M
theorem rep3_len (n : Nat) : ((List.replicate n [(3 : Int), 2, 60]).flatten).length = 3 * n := by
  induction n with
  | zero => rfl
  | succ n ih => rw [List.replicate_succ, List.flatten_cons, List.length_append, ih]; simp; omega
theorem rep3_map (n : Nat) : (List.replicate n [D.int 3, D.int 2, D.int 60]).flatten = ((List.replicate n [(3 : Int), 2, 60]).flatten).map .int := by
  induction n with
  | zero => rfl
  | succ n ih => rw [List.replicate_succ, List.replicate_succ, List.flatten_cons, List.flatten_cons, List.map_append, ih]; rfl
theorem rep3_mem (n : Nat) : ∀ b ∈ (List.replicate n [(3 : Int), 2, 60]).flatten, 0 < b ∧ b < 1073741824 := by
  intro b hb
  obtain ⟨l, h1, h2⟩ := List.mem_flatten.mp hb
  rw [(List.mem_replicate.mp h1).2] at h2
  simp only [List.mem_cons, List.mem_nil_iff, or_false] at h2
  rcases h2 with rfl | rfl | rfl <;> decide
theorem rep3_at (n i j : Nat) (hi : i < n) (hj : j < 3) : ((List.replicate n [(3 : Int), 2, 60]).flatten).getD (3 * i + j) 0 = [(3 : Int), 2, 60].getD j 0 := by
  induction n generalizing i with
  | zero => omega
  | succ n ih =>
    rw [List.replicate_succ, List.flatten_cons]
    cases i with
    | zero =>
      simp only [List.getD_eq_getElem?_getD]
      rw [List.getElem?_append_left (by simp; omega)]
      simp
    | succ i =>
      simp only [List.getD_eq_getElem?_getD] at ih ⊢
      rw [List.getElem?_append_right (by simp; omega)]
      rw [show 3 * (i + 1) + j - [(3 : Int), 2, 60].length = 3 * i + j by simp; omega]
      exact ih i (by omega)
theorem scene_made (cell : Int) (c : List Int) (hc : okC c) : ∃ acts, okS c acts ∧ f__law_scene [.int cell, .tup (c.map .int)] = .ok (.val (.tup (acts.map actD))) := by
  have hc2 := hc.2.1
  obtain ⟨row, hr, hst⟩ := row_ok cell true (4 :: (List.replicate c.length [(3 : Int), 2, 60]).flatten) (fun b hb => by
    rcases List.mem_cons.mp hb with e | e
    · omega
    · exact rep3_mem _ b e) (by simp only [List.length_cons, rep3_len]; omega)
  have hlen : row.length = 1 + 3 * c.length := by rw [hst.1, List.length_cons, rep3_len]; omega
  have fr : fRep (.lst [.int 3, .int 2, .int 60]) (.int (c.length : Nat)) = .ok (((List.replicate c.length [(3 : Int), 2, 60]).flatten).map .int) := by
    show (if _ then _ else _) = _
    rw [if_pos ⟨by decide, by omega, by omega⟩, Int.toNat_natCast, rep3_map]
  have b0 := hst.2 0 (by simp)
  rw [List.getD_cons_zero] at b0
  have bj : ∀ i j, i < c.length → j < 3 → 0 ≤ row.getD (3 * i + j + 1) 0 ∧ row.getD (3 * i + j + 1) 0 < [(3 : Int), 2, 60].getD j 0 := fun i j hi hj => by
    have := hst.2 (3 * i + j + 1) (by rw [List.length_cons, rep3_len]; omega)
    rw [List.getD_cons_succ, rep3_at _ _ _ hi hj] at this
    exact this
  rw [f__law_scene, fn_2]
  obtain ⟨e2, h1, acts, x, y, z, h2, h3, h4⟩ := forGo_inv (g := gName 4) (body := (sSeq (sSet 5 (eOp2 dMod (eOp2 dIx (ePeek 2) (eOp2 dAdd (eOp2 dMul (eC (.int 3)) (eVar 4)) (eC (.int 3)))) (eOp2 dIx (eVar 1) (eVar 4))))
  (sSeq (sSet 6 (eOp2 dIx (eShare (fLst (aCons (eC (.str "set")) (aCons (eC (.str "step")) aNil)))) (eOp2 dIx (ePeek 2) (eOp2 dAdd (eOp2 dMul (eC (.int 3)) (eVar 4)) (eC (.int 2))))))
  (sSeq (sIf (tVal (eOp2 dLt (eOp2 dIx (ePeek 2) (eC (.int 0))) (eC (.int 2)))) (sSet 6 (eOp2 dIx (eShare (fLst (aCons (eC (.str "step")) (aCons (eC (.str "set")) aNil)))) (eOp2 dIx (ePeek 2) (eC (.int 0))))) sNext)
  (sIf (tAnd (tVal (eOp2 dGt (eOp2 dIx (ePeek 2) (eOp2 dAdd (eOp2 dMul (eC (.int 3)) (eVar 4)) (eC (.int 1)))) (eC (.int 0)))) (tOr (tVal (eOp2 dEq (eVar 6) (eC (.str "set")))) (tVal (eOp2 dGt (eVar 5) (eC (.int 0)))))) (sAppend 3 (eTup (aCons (eVar 4) (aCons (eVar 6) (aCons (eVar 5) aNil))))) sNext))))) (all := rangeL 0 c.length) (env := [.val (.int cell), .val (.tup (c.map .int)), .own (.lst (row.map .int)), .own (.lst []), .un, .un, .un])
      (P := fun done env => ∃ (acts : List Act) (x y z : Sl), env = [.val (.int cell), .val (.tup (c.map .int)), .own (.lst (row.map .int)), .own (.lst (acts.map actD)), x, y, z] ∧ okS c acts ∧ (∀ a ∈ acts, a.dev < done.length))
      ⟨[], .un, .un, .un, rfl, ⟨by simp, List.Pairwise.nil⟩, by simp⟩ (fun done d rest env he ⟨acts, x, y, z, e1, s1, s2⟩ => by
        obtain ⟨hd, hl⟩ := range0_at he
        subst hd; subst e1
        obtain ⟨m, hm⟩ : ∃ m, m = done.length := ⟨_, rfl⟩
        rw [← hm] at hl s2 ⊢
        have al : acts.length < 16777216 := by
          have := okS_len s1; omega
        have cm := okC_at hc hl
        have ic := dIx_getD (xs := c) hl
        have i0 := dIx_getDl (xs := row) (k := 0) (by omega)
        have i1 := dIx_getDl (xs := row) (k := 3 * m + 1) (by omega)
        have i2 := dIx_getDl (xs := row) (k := 3 * m + 2) (by omega)
        have i3 := dIx_getDl (xs := row) (k := 3 * m + 3) (by omega)
        rw [show ((3 * m + 1 : Nat) : Int) = 3 * (m : Int) + 1 by omega] at i1
        rw [show ((3 * m + 2 : Nat) : Int) = 3 * (m : Int) + 2 by omega] at i2
        rw [show ((3 * m + 3 : Nat) : Int) = 3 * (m : Int) + 3 by omega] at i3
        rw [show ((0 : Nat) : Int) = 0 by rfl] at i0
        have q1 := bj m 0 hl (by decide)
        have q2 := bj m 1 hl (by decide)
        simp only [List.getD_cons_zero, List.getD_cons_succ, Nat.add_zero] at q1 q2
        have mm := dMod_i (row.getD (3 * m + 3) 0) (c.getD m 0) (by omega)
        have r1 := Int.emod_nonneg (row.getD (3 * m + 3) 0) (show c.getD m 0 ≠ 0 by omega)
        have r2 := Int.emod_lt_of_pos (row.getD (3 * m + 3) 0) (show 0 < c.getD m 0 by omega)
        generalize row.getD (3 * m + 3) 0 = u3 at *
        generalize row.getD (3 * m + 2) 0 = u2 at *
        generalize row.getD (3 * m + 1) 0 = u1 at *
        generalize row.getD 0 0 = u0 at *
        -- the word
        have wd : ∃ w : Bool, dIx (.lst [.str "set", .str "step"]) (.int u2) = .ok (.str (word w)) := by
          by_cases e : u2 = 0
          · subst e; exact ⟨false, eqOf rfl⟩
          · have : u2 = 1 := by omega
            subst this; exact ⟨true, eqOf rfl⟩
        obtain ⟨w, hw⟩ := wd
        have wd2 : u0 < 2 → ∃ w : Bool, dIx (.lst [.str "step", .str "set"]) (.int u0) = .ok (.str (word w)) := by
          intro h
          by_cases e : u0 = 0
          · subst e; exact ⟨true, eqOf rfl⟩
          · have : u0 = 1 := by omega
            subst this; exact ⟨false, eqOf rfl⟩
        have more : ∀ (st : Bool), (st = true → 0 < u3 % c.getD m 0) → okS c (acts ++ [⟨m, st, u3 % c.getD m 0⟩]) ∧ (∀ a ∈ acts ++ [⟨m, st, u3 % c.getD m 0⟩], a.dev < m + 1) := by
          intro st z3
          refine ⟨⟨fun a ha => ?_, List.pairwise_append.mpr ⟨s1.2, List.pairwise_singleton _ _, fun a ha b hb => ?_⟩⟩, fun a ha => ?_⟩
          · rcases List.mem_append.mp ha with q | q
            · exact s1.1 a q
            · rw [List.mem_singleton.mp q]; exact ⟨hl, r1, r2, fun h => z3 h⟩
          · rw [List.mem_singleton.mp hb]; exact s2 a ha
          · rcases List.mem_append.mp ha with q | q
            · have := s2 a q; omega
            · rw [List.mem_singleton.mp q]; simp
        have fin : ∀ w2 : Bool, (∃ e2, ((sSeq (sSet 5 (eOp2 dMod (eOp2 dIx (ePeek 2) (eOp2 dAdd (eOp2 dMul (eC (.int 3)) (eVar 4)) (eC (.int 3)))) (eOp2 dIx (eVar 1) (eVar 4))))
  (sSeq (sSet 6 (eOp2 dIx (eShare (fLst (aCons (eC (.str "set")) (aCons (eC (.str "step")) aNil)))) (eOp2 dIx (ePeek 2) (eOp2 dAdd (eOp2 dMul (eC (.int 3)) (eVar 4)) (eC (.int 2))))))
  (sSeq (sIf (tVal (eOp2 dLt (eOp2 dIx (ePeek 2) (eC (.int 0))) (eC (.int 2)))) (sSet 6 (eOp2 dIx (eShare (fLst (aCons (eC (.str "step")) (aCons (eC (.str "set")) aNil)))) (eOp2 dIx (ePeek 2) (eC (.int 0))))) sNext)
  (sIf (tAnd (tVal (eOp2 dGt (eOp2 dIx (ePeek 2) (eOp2 dAdd (eOp2 dMul (eC (.int 3)) (eVar 4)) (eC (.int 1)))) (eC (.int 0)))) (tOr (tVal (eOp2 dEq (eVar 6) (eC (.str "set")))) (tVal (eOp2 dGt (eVar 5) (eC (.int 0)))))) (sAppend 3 (eTup (aCons (eVar 4) (aCons (eVar 6) (aCons (eVar 5) aNil))))) sNext)))) [.val (.int cell), .val (.tup (c.map .int)), .own (.lst (row.map .int)), .own (.lst (acts.map actD)), .val (.int m), y, z]) = .next e2 ∧ e2 = [.val (.int cell), .val (.tup (c.map .int)), .own (.lst (row.map .int)), .own (.lst ((if 0 < u1 ∧ (w2 = false ∨ 0 < u3 % c.getD m 0) then acts ++ [⟨m, w2, u3 % c.getD m 0⟩] else acts).map actD)), .val (.int m), .val (.int (u3 % c.getD m 0)), .val (.str (word w2))]) →
            ∃ e1, gName 4 (.int m) [.val (.int cell), .val (.tup (c.map .int)), .own (.lst (row.map .int)), .own (.lst (acts.map actD)), x, y, z] = some e1 ∧ ∃ e2, ((sSeq (sSet 5 (eOp2 dMod (eOp2 dIx (ePeek 2) (eOp2 dAdd (eOp2 dMul (eC (.int 3)) (eVar 4)) (eC (.int 3)))) (eOp2 dIx (eVar 1) (eVar 4))))
  (sSeq (sSet 6 (eOp2 dIx (eShare (fLst (aCons (eC (.str "set")) (aCons (eC (.str "step")) aNil)))) (eOp2 dIx (ePeek 2) (eOp2 dAdd (eOp2 dMul (eC (.int 3)) (eVar 4)) (eC (.int 2))))))
  (sSeq (sIf (tVal (eOp2 dLt (eOp2 dIx (ePeek 2) (eC (.int 0))) (eC (.int 2)))) (sSet 6 (eOp2 dIx (eShare (fLst (aCons (eC (.str "step")) (aCons (eC (.str "set")) aNil)))) (eOp2 dIx (ePeek 2) (eC (.int 0))))) sNext)
  (sIf (tAnd (tVal (eOp2 dGt (eOp2 dIx (ePeek 2) (eOp2 dAdd (eOp2 dMul (eC (.int 3)) (eVar 4)) (eC (.int 1)))) (eC (.int 0)))) (tOr (tVal (eOp2 dEq (eVar 6) (eC (.str "set")))) (tVal (eOp2 dGt (eVar 5) (eC (.int 0)))))) (sAppend 3 (eTup (aCons (eVar 4) (aCons (eVar 6) (aCons (eVar 5) aNil))))) sNext)))) e1 = .next e2 ∨ (sSeq (sSet 5 (eOp2 dMod (eOp2 dIx (ePeek 2) (eOp2 dAdd (eOp2 dMul (eC (.int 3)) (eVar 4)) (eC (.int 3)))) (eOp2 dIx (eVar 1) (eVar 4))))
  (sSeq (sSet 6 (eOp2 dIx (eShare (fLst (aCons (eC (.str "set")) (aCons (eC (.str "step")) aNil)))) (eOp2 dIx (ePeek 2) (eOp2 dAdd (eOp2 dMul (eC (.int 3)) (eVar 4)) (eC (.int 2))))))
  (sSeq (sIf (tVal (eOp2 dLt (eOp2 dIx (ePeek 2) (eC (.int 0))) (eC (.int 2)))) (sSet 6 (eOp2 dIx (eShare (fLst (aCons (eC (.str "step")) (aCons (eC (.str "set")) aNil)))) (eOp2 dIx (ePeek 2) (eC (.int 0))))) sNext)
  (sIf (tAnd (tVal (eOp2 dGt (eOp2 dIx (ePeek 2) (eOp2 dAdd (eOp2 dMul (eC (.int 3)) (eVar 4)) (eC (.int 1)))) (eC (.int 0)))) (tOr (tVal (eOp2 dEq (eVar 6) (eC (.str "set")))) (tVal (eOp2 dGt (eVar 5) (eC (.int 0)))))) (sAppend 3 (eTup (aCons (eVar 4) (aCons (eVar 6) (aCons (eVar 5) aNil))))) sNext)))) e1 = .cont e2) ∧ ∃ (acts : List Act) (x y z : Sl), e2 = [.val (.int cell), .val (.tup (c.map .int)), .own (.lst (row.map .int)), .own (.lst (acts.map actD)), x, y, z] ∧ okS c acts ∧ (∀ a ∈ acts, a.dev < (done ++ [D.int m]).length) := by
          intro w2 ⟨e2, hb, he⟩
          refine ⟨_, rfl, _, .inl hb, _, _, _, _, he, ?_⟩
          rw [List.length_append, ← hm]
          by_cases q : 0 < u1 ∧ (w2 = false ∨ 0 < u3 % c.getD m 0)
          · rw [if_pos q]
            exact more w2 fun h => by rcases q.2 with z | z <;> simp_all
          · rw [if_neg q]
            exact ⟨s1, fun a ha => by have := s2 a ha; simp; omega⟩
        have mu := mulL 3 (m : Int) (by decide)
        have last : ∀ w2 : Bool, dEq (.str (word w2)) (.str "set") = .ok (.bl (!w2)) := word_set
        by_cases h2 : u0 < 2
        · obtain ⟨w2, hw2⟩ := wd2 h2
          refine fin w2 ⟨_, ?_, rfl⟩
          have l2 := last w2
          by_cases a1 : 0 < u1
          · cases w2 with
            | false => simp [i0, i1, i2, i3, ic, mm, mu, hw, hw2, h2, a1, l2, line_v, al, actD, -List.getD_eq_getElem?_getD]
            | true => by_cases a2 : 0 < u3 % c.getD m 0 <;> simp [i0, i1, i2, i3, ic, mm, mu, hw, hw2, h2, a1, a2, l2, line_v, al, actD, -List.getD_eq_getElem?_getD]
          · simp [i0, i1, i2, i3, ic, mm, mu, hw, hw2, h2, a1, l2, line_v, al, actD, -List.getD_eq_getElem?_getD]
        · refine fin w ⟨_, ?_, rfl⟩
          have l2 := last w
          by_cases a1 : 0 < u1
          · cases w with
            | false => simp [i0, i1, i2, i3, ic, mm, mu, hw, h2, a1, l2, line_v, al, actD, -List.getD_eq_getElem?_getD]
            | true => by_cases a2 : 0 < u3 % c.getD m 0 <;> simp [i0, i1, i2, i3, ic, mm, mu, hw, h2, a1, a2, l2, line_v, al, actD, -List.getD_eq_getElem?_getD]
          · simp [i0, i1, i2, i3, ic, mm, mu, hw, h2, a1, l2, line_v, al, actD, -List.getD_eq_getElem?_getD])
  refine ⟨acts, h3, ?_⟩
  have hr : f__law_row [.int cell, .lst (.int 4 :: ((List.replicate c.length [(3 : Int), 2, 60]).flatten).map .int)] = .ok (.own (.lst (row.map .int))) := hr
  have da : dAdd (.lst [.int 4]) (.lst (((List.replicate c.length [(3 : Int), 2, 60]).flatten).map .int)) = .ok (.lst (.int 4 :: ((List.replicate c.length [(3 : Int), 2, 60]).flatten).map .int)) := dAdd_l (by simp only [List.length_map, rep3_len, line_v, List.length_singleton]; omega)
  generalize ((List.replicate c.length [(3 : Int), 2, 60]).flatten).map D.int = S at fr hr da
  have hrg := dRange1_i (smallI_n (n := c.length) (by omega))
  simp [startE, List.replicate, fr, hr, hrg, da]
  rw [show forGo _ _ _ _ = _ from h1, h2]
  simp
end Lw
namespace Lw
open M
theorem spoilt_ok (c : List Int) (acts : List Act) (way dv : Nat) (hc : okC c) (h : okS c acts) (hd : dv < c.length) (hw : way < 10) :
    ∃ ds, f__law_spoilt [.tup (c.map .int), .tup (acts.map actD), .int way, .int dv] = .ok (.val (.tup ds)) ∧ Wr c ds := by
  have hc2 := hc.2.1
  have hl := okS_len h
  have a0 : ∀ a : Act, dIx (actD a) (.int 0) = .ok (.int a.dev) := fun a => eqOf rfl
  obtain ⟨lo, hlo⟩ : ∃ lo, lo = acts.filter fun a => decide ((a.dev : Int) < dv) := ⟨_, rfl⟩
  obtain ⟨hi, hhi⟩ : ∃ hi, hi = acts.filter fun a => decide ((dv : Int) < a.dev) := ⟨_, rfl⟩
  have llo : lo.length ≤ 16 := by rw [hlo]; exact Nat.le_trans (List.length_filter_le _ _) (by omega)
  have lhi : hi.length ≤ 16 := by rw [hhi]; exact Nat.le_trans (List.length_filter_le _ _) (by omega)
  obtain ⟨lo2, hlo2⟩ : ∃ lo2, lo2 = lo.filter fun a => decide ((a.dev : Int) < dv - 1) := ⟨_, rfl⟩
  have llo2 : lo2.length ≤ 16 := by rw [hlo2]; exact Nat.le_trans (List.length_filter_le _ _) (by omega)
  have gl := good_acts lo
  have gh := good_acts hi
  have gl2 := good_acts lo2
  have ic := dIx_getD (xs := c) hd
  have q1 : ∀ w x4 x5 x6 x7 x8, (fComp [5] (iSeq (eVar 1)) (gName 5) (tVal (eOp2 dLt (eOp2 dIx (eVar 5) (eC (.int 0))) (eVar 3))) (eVar 5)) [.val (.tup (c.map .int)), .val (.tup (acts.map actD)), w, .val (.int dv), x4, x5, x6, x7, x8] = .ok (.lst (lo.map actD)) := fun w x4 x5 x6 x7 x8 => by
    have := filt c (acts := acts) (fun z => decide (z < (dv : Int))) (tVal (eOp2 dLt (eOp2 dIx (eVar 5) (eC (.int 0))) (eVar 3))) (env := [.val (.tup (c.map .int)), .val (.tup (acts.map actD)), w, .val (.int dv), x4, .un, x6, x7, x8]) (i := 5) (fun a ha => by simp [a0]) (by simp) (by omega)
    rw [← hlo] at this
    simp only [fComp_a, iSeq_a, eVar_a, wipeE_c, wipeE_n]
    simp
    rw [show lcGo _ _ _ _ _ _ = _ from this]
    rfl
  have q2 : ∀ w x4 x5 x6 x7 x8, (fComp [5] (iSeq (eVar 1)) (gName 5) (tVal (eOp2 dGt (eOp2 dIx (eVar 5) (eC (.int 0))) (eVar 3))) (eVar 5)) [.val (.tup (c.map .int)), .val (.tup (acts.map actD)), w, .val (.int dv), x4, x5, x6, x7, x8] = .ok (.lst (hi.map actD)) := fun w x4 x5 x6 x7 x8 => by
    have := filt c (acts := acts) (fun z => decide ((dv : Int) < z)) (tVal (eOp2 dGt (eOp2 dIx (eVar 5) (eC (.int 0))) (eVar 3))) (env := [.val (.tup (c.map .int)), .val (.tup (acts.map actD)), w, .val (.int dv), x4, .un, x6, x7, x8]) (i := 5) (fun a ha => by simp [a0]) (by simp) (by omega)
    rw [← hhi] at this
    simp only [fComp_a, iSeq_a, eVar_a, wipeE_c, wipeE_n]
    simp
    rw [show lcGo _ _ _ _ _ _ = _ from this]
    rfl
  have q3 : ∀ w x1 x5 x6 x7 x8, (fComp [5] (iSeq (eVar 4)) (gName 5) (tVal (eOp2 dLt (eOp2 dIx (eVar 5) (eC (.int 0))) (eOp2 dSub (eVar 3) (eC (.int 1))))) (eVar 5)) [.val (.tup (c.map .int)), x1, w, .val (.int dv), .val (.lst (lo.map actD)), x5, x6, x7, x8] = .ok (.lst (lo2.map actD)) := fun w x1 x5 x6 x7 x8 => by
    have := filt c (acts := lo) (fun z => decide (z < (dv : Int) - 1)) (tVal (eOp2 dLt (eOp2 dIx (eVar 5) (eC (.int 0))) (eOp2 dSub (eVar 3) (eC (.int 1))))) (env := [.val (.tup (c.map .int)), x1, w, .val (.int dv), .val (.lst (lo.map actD)), .un, x6, x7, x8]) (i := 5) (fun a ha => by simp [a0]) (by simp) (by omega)
    rw [← hlo2] at this
    simp only [fComp_a, iSeq_a, eVar_a, wipeE_c, wipeE_n]
    simp
    rw [show lcGo _ _ _ _ _ _ = _ from this]
    rfl
  obtain ⟨L, hL⟩ : ∃ L, L = lo.map actD := ⟨_, rfl⟩
  obtain ⟨H, hH⟩ : ∃ H, H = hi.map actD := ⟨_, rfl⟩
  obtain ⟨L2, hL2⟩ : ∃ L2, L2 = lo2.map actD := ⟨_, rfl⟩
  rw [← hL] at q1 q3 gl
  rw [← hH] at q2 gh
  rw [← hL2] at q3 gl2
  have lL : L.length ≤ 16 := by rw [hL]; simpa using llo
  have lH : H.length ≤ 16 := by rw [hH]; simpa using lhi
  have lL2 : L2.length ≤ 16 := by rw [hL2]; simpa using llo2
  have ad : ∀ X Y : List D, X.length ≤ 100 → Y.length ≤ 100 → dAdd (.lst X) (.lst Y) = .ok (.lst (X ++ Y)) := fun X Y h1 h2 => dAdd_l (by rw [line_v]; omega)
  have fc : ∀ X Y : List D, X.length ≤ 100 → Y.length ≤ 100 → fCat (.lst X) (.lst Y) = .ok (X ++ Y) := fun X Y h1 h2 => fCat_l (by rw [line_v]; omega)
  have gw : ∀ {i k : Int} {s : PySem.Str}, strOk s = true → goodA (.tup [.int i, .str s, .int k]) := fun h => good_t h
  have two : ∀ (X Y : List D) (a b : D), (∀ d ∈ X, goodA d) → (∀ d ∈ Y, goodA d) → goodA a → goodA b → dev0 b ≤ dev0 a → Wr c (X ++ a :: b :: Y) := by
    intro X Y a b h1 h2 h3 h4 h5
    refine ⟨fun d hd => ?_, ?_⟩
    · rcases List.mem_append.mp hd with z | z
      · exact h1 d z
      · rcases List.mem_cons.mp z with z | z
        · subst z; exact h3
        · rcases List.mem_cons.mp z with z | z
          · subst z; exact h4
          · exact h2 d z
    · have : X ++ a :: b :: Y = (X ++ [a]) ++ (b :: Y) := by simp
      rw [this]
      exact scB_cross (a := a) (b := b) (by simp) (by simp) h5
  have b1 := fun x => ad L [x] (by omega) (by simp)
  have b2 := fun x => ad (L ++ [x]) H (by simp; omega) (by omega)
  have b3 := fun x y => ad L [x, y] (by omega) (by simp)
  have b4 := fun x y => ad (L ++ [x, y]) H (by simp; omega) (by omega)
  have b5 := ad L H (by omega) (by omega)
  have b6 := fun x => ad (L ++ H) [x] (by simp; omega) (by simp)
  have b7 := fun x => ad [x] L (by simp) (by omega)
  have b8 := fun x => ad (x :: L) H (by simp; omega) (by omega)
  have b9 := fun x y => ad [x, y] H (by simp) (by omega)
  have b10 := fun x y => ad L2 [x, y] (by omega) (by simp)
  have b11 := fun x y => ad (L2 ++ [x, y]) H (by simp; omega) (by omega)
  have fc6 := fc [.tup [.int dv, .str "set", .int (c.getD dv 0)], .tup [.int dv, .str "set", .int (-1)], .tup [.int dv, .str "step", .int 0], .tup [.int dv, .str "step", .int (c.getD dv 0)]] [.tup [.int dv, .str "step", .int (-1)], .tup [.int dv, .str "turn", .int 1]] (by simp) (by simp)
  simp only [List.cons_append, List.nil_append] at fc6
  have six : ∀ (x : D) , dIx (.lst [.tup [.int dv, .str "set", .int (c.getD dv 0)], .tup [.int dv, .str "set", .int (-1)], .tup [.int dv, .str "step", .int 0], .tup [.int dv, .str "step", .int (c.getD dv 0)], .tup [.int dv, .str "step", .int (-1)], .tup [.int dv, .str "turn", .int 1]]) (.int way) = .ok x → way < 6 → goodA x → actB c x = false →
      ∃ ds, f__law_spoilt [.tup (c.map .int), .tup (acts.map actD), .int way, .int dv] = .ok (.val (.tup ds)) ∧ Wr c ds := by
    intro x hx h6 g1 g2
    refine ⟨L ++ x :: H, ?_, wr_bad gl gh g1 g2⟩
    rw [f__law_spoilt, fn_4]
    have h6' : (way : Int) < 6 := by omega
    simp [startE, List.replicate, q1, q2, q3, ic, fc6, b1, b2, b3, b4, b5, b6, b7, b8, b9, b10, b11, h6', hx, -fComp_a, -List.getD_eq_getElem?_getD]
  have pr : dIx (.lst [D.int 1]) (.int 0) = .ok (.int 1) := eqOf rfl
  match way, hw, six with
  | 0, _, six => exact six _ (eqOf rfl) (by omega) (gw (by decide +kernel)) (actB_set (.inr (Int.le_refl _)))
  | 1, _, six => exact six _ (eqOf rfl) (by omega) (gw (by decide +kernel)) (actB_set (.inl (by omega)))
  | 2, _, six => exact six _ (eqOf rfl) (by omega) (gw (by decide +kernel)) (actB_step (.inl (by omega)))
  | 3, _, six => exact six _ (eqOf rfl) (by omega) (gw (by decide +kernel)) (actB_step (.inr (Int.le_refl _)))
  | 4, _, six => exact six _ (eqOf rfl) (by omega) (gw (by decide +kernel)) (actB_step (.inl (by omega)))
  | 5, _, six => exact six _ (eqOf rfl) (by omega) (gw (by decide +kernel)) (actB_word (by decide +kernel) (by decide +kernel))
  | 6, _, _ =>
    refine ⟨L ++ .tup [.int dv, .str "set", .int 0] :: .tup [.int dv, .str "set", .int 0] :: H, ?_, two _ _ _ _ gl gh (gw (by decide +kernel)) (gw (by decide +kernel)) (Int.le_refl _)⟩
    rw [f__law_spoilt, fn_4]
    simp [startE, List.replicate, q1, q2, q3, ic, fc6, b1, b2, b3, b4, b5, b6, b7, b8, b9, b10, b11, pr, -fComp_a, -List.getD_eq_getElem?_getD]
  | 7, _, _ =>
    refine ⟨L ++ H ++ [.tup [.int c.length, .str "set", .int 0]], ?_, ?_⟩
    · rw [f__law_spoilt, fn_4]
      simp [startE, List.replicate, q1, q2, q3, ic, fc6, b1, b2, b3, b4, b5, b6, b7, b8, b9, b10, b11, pr, -fComp_a, -List.getD_eq_getElem?_getD]
    · exact wr_bad (fun d hd => (List.mem_append.mp hd).elim (gl d) (gh d)) (ys := []) (by simp) (gw (by decide +kernel)) (actB_hi (Int.le_refl _))
  | 8, _, _ =>
    refine ⟨.tup [.int (-1), .str "set", .int 0] :: (L ++ H), ?_, ?_⟩
    · rw [f__law_spoilt, fn_4]
      simp [startE, List.replicate, q1, q2, q3, ic, fc6, b1, b2, b3, b4, b5, b6, b7, b8, b9, b10, b11, pr, -fComp_a, -List.getD_eq_getElem?_getD]
    · exact wr_bad (xs := []) (by simp) (fun d hd => (List.mem_append.mp hd).elim (gl d) (gh d)) (gw (by decide +kernel)) (actB_lo (by omega))
  | 9, _, _ =>
    by_cases z : dv = 0
    · refine ⟨.tup [.int 0, .str "step", .int 1] :: .tup [.int 0, .str "set", .int 1] :: H, ?_, two [] _ _ _ (by simp) gh (gw (by decide +kernel)) (gw (by decide +kernel)) (Int.le_refl _)⟩
      generalize hdz : (dv : Int) = dz at *
      have z2 : dz = 0 := by omega
      subst z2
      rw [f__law_spoilt, fn_4]
      simp [startE, List.replicate, q1, q2, q3, ic, fc6, b1, b2, b3, b4, b5, b6, b7, b8, b9, b10, b11, -fComp_a, -List.getD_eq_getElem?_getD]
    · refine ⟨L2 ++ .tup [.int dv, .str "set", .int 0] :: .tup [.int ((dv : Int) - 1), .str "set", .int 0] :: H, ?_, two _ _ _ _ gl2 gh (gw (by decide +kernel)) (gw (by decide +kernel)) ?_⟩
      · have z' : ¬ (dv : Int) = 0 := by omega
        rw [f__law_spoilt, fn_4]
        simp [startE, List.replicate, q1, q2, q3, ic, fc6, b1, b2, b3, b4, b5, b6, b7, b8, b9, b10, b11, z, z', -fComp_a, -List.getD_eq_getElem?_getD]
      · show (dv : Int) - 1 ≤ dv
        omega
end Lw
namespace Lw
open M
theorem stB_len {c s : List Int} (h : s.length ≠ c.length) : stB c s = false := by
  cases q : stB c s with
  | false => rfl
  | true => exact absurd (stB_iff.mp q).1 h
theorem stB_at {c s : List Int} {i : Nat} (hi : i < c.length) (h : s.getD i 0 < 0 ∨ c.getD i 0 ≤ s.getD i 0) : stB c s = false := by
  cases q : stB c s with
  | false => rfl
  | true => have := (stB_iff.mp q).2 i hi; omega
end Lw
namespace Lw
open M
theorem scenes_all (ns : List Int) (c : List Int) (hc : okC c) (p0 p1 p2 : Int) (pr : List D) (h1 : 0 ≤ p1) (h2 : p1 < 6) (h3 : 0 ≤ p2) (x0 : dIx (.lst pr) (.int 0) = .ok (.int p0)) (x1 : dIx (.lst pr) (.int 1) = .ok (.int p1)) (x2 : dIx (.lst pr) (.int 2) = .ok (.int p2)) :
    ∃ scs : List (List Act), f__law_scenes [.lst (ns.map .int), .tup (c.map .int), .lst pr] = .ok (.own (.lst (scD scs))) ∧ (∀ s ∈ scs, okS c s) ∧ (scs.length : Int) = p1 := by
  rw [f__law_scenes, fn_3]
  have hc2 := hc.2.1
  obtain ⟨z2, c2⟩ : ∃ z : Int, f__law_cell [.lst (ns.map .int), .int 2] = .ok (.val (.int z)) := cell_ok ns 2
  obtain ⟨z8, c8⟩ : ∃ z : Int, f__law_cell [.lst (ns.map .int), .int 8] = .ok (.val (.int z)) := cell_ok ns 8
  obtain ⟨common, hcm, hr⟩ := rows2 z2 c hc
  have fr := fRep_i (n := c.length) (l := [2, 60]) (by omega) (by simp)
  simp only [List.map_cons, List.map_nil] at fr
  generalize ((List.replicate c.length [(2 : Int), 60]).flatten).map D.int = S at fr hr
  obtain ⟨n, hn⟩ : ∃ n : Nat, p1 = n := ⟨p1.toNat, by omega⟩
  subst hn
  -- the common row is handed on as it is
  have turn : ∀ (m : Nat) (scs : List (List Act)) (x4 x6 : Sl), (x4 = .own (.lst (common.map .int)) ∨ x4 = .val (.lst (common.map .int))) → scs.length ≤ 100 → ∃ (s : List Act) (y4 : Sl), okS c s ∧ (y4 = .own (.lst (common.map .int)) ∨ y4 = .val (.lst (common.map .int))) ∧
      (sIf (tVal (eOp2 dLt (eOp2 dIx (eVar 2) (eC (.int 0))) (eC (.int 2)))) (sAppend 3 (eCall f__law_scene (aCons (eCall f__law_cell (aCons (eVar 0) (aCons (eOp2 dAdd (eC (.int 3)) (eVar 5)) aNil))) (aCons (eVar 1) aNil)))) (sFreeze 4 (sAppend 3 (eCall f__law_tame (aCons (eCall f__law_cell (aCons (eVar 0) (aCons (eOp2 dAdd (eC (.int 3)) (eVar 5)) aNil))) (aCons (eVar 1) (aCons (eVar 4) aNil))))))) [.val (.lst (ns.map .int)), .val (.tup (c.map .int)), .val (.lst pr), .own (.lst (scD scs)), x4, .val (.int (m : Nat)), x6] = .next [.val (.lst (ns.map .int)), .val (.tup (c.map .int)), .val (.lst pr), .own (.lst (scD (scs ++ [s]))), y4, .val (.int (m : Nat)), x6] := by
    intro m scs x4 x6 h4 hl
    obtain ⟨z, cz⟩ : ∃ z : Int, f__law_cell [.lst (ns.map .int), .int ((3 + m : Nat) : Int)] = .ok (.val (.int z)) := cell_ok ns (3 + m)
    rw [show ((3 + m : Nat) : Int) = 3 + (m : Int) by omega] at cz
    have sl : (scD scs).length < 16777216 := by simp [scD]; omega
    have ap : ∀ s : List Act, scD scs ++ [.tup (s.map actD)] = scD (scs ++ [s]) := fun s => by simp [scD]
    by_cases q : p0 < 2
    · obtain ⟨s, s1, s2⟩ := scene_made z c hc
      refine ⟨s, x4, s1, h4, ?_⟩
      rw [← ap]
      simp [x0, q, cz, s2, line_v, sl]
    · obtain ⟨s, s1, s2⟩ := tame_ok z c common hc hcm
      refine ⟨s, .val (.lst (common.map .int)), s1, .inr rfl, ?_⟩
      rw [← ap]
      rcases h4 with e | e
      · subst e
        simp [x0, q, cz, s2, line_v, sl]
      · subst e
        simp [x0, q, cz, s2, line_v, sl]
  obtain ⟨e2, k1, scs, y4, y5, k2, k3, k4, k5⟩ := forGo_inv (g := (gName 5)) (body := (sIf (tVal (eOp2 dLt (eOp2 dIx (eVar 2) (eC (.int 0))) (eC (.int 2)))) (sAppend 3 (eCall f__law_scene (aCons (eCall f__law_cell (aCons (eVar 0) (aCons (eOp2 dAdd (eC (.int 3)) (eVar 5)) aNil))) (aCons (eVar 1) aNil)))) (sFreeze 4 (sAppend 3 (eCall f__law_tame (aCons (eCall f__law_cell (aCons (eVar 0) (aCons (eOp2 dAdd (eC (.int 3)) (eVar 5)) aNil))) (aCons (eVar 1) (aCons (eVar 4) aNil)))))))) (all := rangeL 0 n) (env := [.val (.lst (ns.map .int)), .val (.tup (c.map .int)), .val (.lst pr), .own (.lst []), .own (.lst (common.map .int)), .un, .un])
    (P := fun done env => ∃ (scs : List (List Act)) (y4 y5 : Sl), env = [.val (.lst (ns.map .int)), .val (.tup (c.map .int)), .val (.lst pr), .own (.lst (scD scs)), y4, y5, .un] ∧ (∀ s ∈ scs, okS c s) ∧ scs.length = done.length ∧ (y4 = .own (.lst (common.map .int)) ∨ y4 = .val (.lst (common.map .int))))
    ⟨[], _, .un, rfl, by simp, rfl, .inl rfl⟩ (fun done d rest env he ⟨scs, y4, y5, e1, s1, s2, s3⟩ => by
      obtain ⟨hd, hl⟩ := range0_at he
      subst hd; subst e1
      obtain ⟨s, z4, t1, t2, t3⟩ := turn done.length scs y4 .un s3 (by omega)
      exact ⟨_, rfl, _, .inl t3, scs ++ [s], z4, _, rfl, fun t ht => by
        rcases List.mem_append.mp ht with e | e
        · exact s1 t e
        · rw [List.mem_singleton.mp e]; exact t1, by simp [s2], t2⟩)
  rw [rangeL_len, show ((n : Int) - 0).toNat = n by omega] at k4
  have hrg := dRange1_i (smallI_n (n := n) (by omega))
  subst k2
  by_cases q : p0 = 3 ∧ 0 < scs.length
  · have lp : (0 : Int) < (scs.length : Int) := by omega
    obtain ⟨pl, hpl⟩ : ∃ pl : Nat, p2 % scs.length = pl := ⟨(p2 % scs.length).toNat, by have := Int.emod_nonneg p2 (show (scs.length : Int) ≠ 0 by omega); omega⟩
    have m1 := Int.emod_lt_of_pos p2 lp
    have mm := dMod_i p2 scs.length lp
    rw [hpl] at mm m1
    have pll : pl < scs.length := by omega
    obtain ⟨s', s1, s2⟩ := changed_ok z8 c (scs.getD pl []) hc (k3 _ (getD_mem [] pll))
    have ix : dIx (.lst (scD scs)) (.int (pl : Int)) = .ok (.tup ((scs.getD pl []).map actD)) := by
      rw [dIx_l (by simpa [scD] using pll)]
      simp [scD, List.getD_eq_getElem?_getD, List.getElem?_eq_getElem pll]
    have hx := ixN_lt (n := scs.length) (k := pl) pll
    have sl : (scD scs).length = scs.length := by simp [scD]
    have st : (scD scs).set pl (.tup (s'.map actD)) = scD (scs.set pl s') := by unfold scD; rw [List.map_set]
    refine ⟨scs.set pl s', ?_, fun t ht => ?_, by simp; omega⟩
    · obtain ⟨q1, q2⟩ := q
      generalize scs.getD pl [] = s0 at *
      rw [← st]
      generalize scD scs = SD at *
      have sp : 0 < SD.length := by omega
      have mm' : dMod (.int p2) (.int SD.length) = .ok (.int pl) := by rw [sl]; exact mm
      have hx' : ixN SD.length (pl : Int) = some pl := by rw [sl]; exact hx
      have sp' : (0 : Int) < SD.length := by omega
      simp [startE, List.replicate, c2, fr, hr, x0, x1, x2, hrg, k1, q1, sp, sp', mm', ix, c8, s2, hx', -List.set_append]
    · rcases List.mem_or_eq_of_mem_set ht with e | e
      · exact k3 t e
      · rw [e]; exact s1
  · refine ⟨scs, ?_, k3, by omega⟩
    have sl : (scD scs).length = scs.length := by simp [scD]
    by_cases q1 : p0 = 3
    · have q2 : scs.length = 0 := by
        by_cases z : scs.length = 0
        · exact z
        · exact absurd ⟨q1, by omega⟩ q
      have e : scD scs = [] := List.length_eq_zero_iff.mp (by omega)
      rw [e] at k1 ⊢
      simp [startE, List.replicate, c2, fr, hr, x0, x1, hrg, k1, q1]
    · generalize scD scs = SD at *
      simp [startE, List.replicate, c2, fr, hr, x0, x1, hrg, k1, q1]
theorem refused_ok {c : List Int} {good : List Act} {bad : List D} {scs : List (List Act)} {rest : List D} (hc : okC c) (hg : okS c good) (hb : Wr c bad) (hs : ∀ s ∈ scs, okS c s) (k : Nat) (hk : k < 3) :
    f__law_refused [.tup (c.map .int), .int k, .tup (good.map actD), .tup bad, .lst (scD scs ++ .tup bad :: rest)] = .ok (.val (.bl true)) := by
  rw [f__law_refused, fn_5]
  have hsc := is_scene_ok c bad hb.1
  rw [hb.2] at hsc
  have db := demand_bad hsc
  have dg := demand_ok hg
  have x6 : exm_HouseError 6 = some true := rfl
  have i6 : isi_BadScene 6 = some true := rfl
  have k6 : isi_BadState 6 = some false := rfl
  have c1 : f_clash [.tup (c.map .int), .tup bad, .tup (good.map actD)] = .exc ⟨6, []⟩ := by
    rw [f_clash, fn_3]; simp [startE, List.replicate, db]
  have c2 : f_clash [.tup (c.map .int), .tup (good.map actD), .tup bad] = .exc ⟨6, []⟩ := by
    rw [f_clash, fn_3]; simp [startE, List.replicate, db, dg]
  have c3 : f_joined [.tup (c.map .int), .lst (scD scs ++ .tup bad :: rest)] = .exc ⟨6, []⟩ := joined_bad true hs hb
  generalize scD scs ++ .tup bad :: rest = R at *
  match k, hk with
  | 0, _ => simp [startE, List.replicate, c1, x6, i6, k6]
  | 1, _ => simp [startE, List.replicate, c2, x6, i6, k6]
  | 2, _ => simp [startE, List.replicate, c3, x6, i6, k6]
theorem okD_scenes (scs : List (List Act)) : okD (.lst (scD scs)) = true := okN_lst (okNs_all fun x hx => by
  obtain ⟨s, _, rfl⟩ := List.mem_map.mp hx
  exact okN_tup (okNs_all fun y hy => by
    obtain ⟨a, _, rfl⟩ := List.mem_map.mp hy
    have : okN 62 (actD a) = true := by
      show okNs 61 [.int a.dev, .str (word a.step), .int a.num] = true
      exact okNs_all fun x hx => by
        simp only [List.mem_cons, List.mem_nil_iff, or_false] at hx
        rcases hx with rfl | rfl | rfl
        · exact okN_int
        · exact okN_str (word_ok _)
        · exact okN_int
    exact this))
end Lw
namespace Lw
open M
theorem cut_mid {α : Type} {xs : List α} {p q : Nat} (h : p ≤ q) (hq : q ≤ xs.length) : cutL xs (some (p : Int)) (some (q : Int)) = (xs.drop p).take (q - p) := by
  unfold cutL sIx
  simp only
  rw [if_neg (by omega), if_neg (by omega), Int.toNat_natCast, Int.toNat_natCast, Nat.min_eq_left (show p ≤ xs.length by omega), Nat.min_eq_left hq]
theorem counts_row (z : Int) (n : Nat) (h1 : 1 ≤ n) (h4 : n ≤ 4) : ∃ c row : List Int, f__law_row [.int z, .lst [.int 4, .int 4, .int 4, .int 4, .int 4]] = .ok (.own (.lst (row.map .int))) ∧ okC c ∧ c.length = n ∧ dSl (.lst (row.map .int)) (some 1) (some (1 + (n : Int))) = .ok (.lst ((c.map fun z => z - 2).map .int)) := by
  obtain ⟨row, hr, hr1⟩ := row_ok z true [4, 4, 4, 4, 4] (by decide) (by decide)
  refine ⟨((row.drop 1).take n).map fun z => 2 + z, row, hr, ⟨?_, ?_, fun b hb => ?_⟩, ?_, ?_⟩
  · have := hr1.1; simp at this; simp; omega
  · have := hr1.1; simp at this; simp; omega
  · obtain ⟨x, hx, rfl⟩ := List.mem_map.mp hb
    have hx := List.mem_of_mem_drop (List.mem_of_mem_take hx)
    obtain ⟨i, hi, rfl⟩ := List.mem_iff_getElem.mp hx
    have hl := hr1.1
    simp at hl
    have := hr1.2 i (by simp; omega)
    rw [List.getD_eq_getElem?_getD, List.getElem?_eq_getElem hi] at this
    have i5 : i = 0 ∨ i = 1 ∨ i = 2 ∨ i = 3 ∨ i = 4 := by omega
    rcases i5 with rfl | rfl | rfl | rfl | rfl <;> simp at this <;> omega
  · have := hr1.1; simp at this; simp; omega
  · have hl := hr1.1
    simp at hl
    have := cut_mid (xs := row.map D.int) (p := 1) (q := 1 + n) (by omega) (by simp; omega)
    rw [show ((1 + n : Nat) : Int) = 1 + (n : Int) by omega, show ((1 : Nat) : Int) = 1 from rfl] at this
    rw [dSl_l, this, show 1 + n - 1 = n by omega]
    refine congrArg (fun l => Out.ok (D.lst l)) ?_
    rw [List.map_map, List.map_map, ← List.map_drop, ← List.map_take]
    refine List.map_congr_left fun x _ => ?_
    show D.int x = D.int (2 + x - 2)
    rw [show 2 + x - 2 = x by omega]
/-- the pairs, one by one -/
theorem pairs_in {ns st w c : List Int} {scs : List (List Act)} (hc : okC c) (hs : ∀ s ∈ scs, okS c s) (hst : stB c st = true) (hw : stB c w = false) (PL : List D) (n : Int) (OR : Sl) (k : Nat) (hk : k < scs.length) : ∀ (ms : List Nat) (b : Bool) (x11 x12 : Sl), (∀ m ∈ ms, m < scs.length) → ∃ y11 y12,
    forGo (gName 11) (sSeq (sSetCall 12 f__law_parting (aCons (eVar 3) (aCons (eOp2 dIx (ePeek 5) (eVar 11)) (aCons (eOp2 dIx (ePeek 5) (eVar 10)) aNil))))
  (sSeq (sFreeze 12 (sIf (tNot (tVal (eCall f__law_pair_holds (aCons (eVar 3) (aCons (eOp2 dIx (ePeek 5) (eVar 11)) (aCons (eOp2 dIx (ePeek 5) (eVar 10)) (aCons (eVar 12) (aCons (eVar 7) (aCons (eB dTuple (aCons (ePeek 8) aNil)) aNil))))))))) (sRet (eC (.bl false))) sNext))
  (sSet 9 (eOr (eVar 9) (eOp2 dLt (ePeek 12) (eC (.int 99))))))) (ms.map fun m => .int (m : Nat)) [.val (.lst (ns.map .int)), .val (.lst PL), .val (.int n), .val (.tup (c.map .int)), .un, .own (.lst (scD scs)), OR, .val (.tup (st.map .int)), .own (.lst (w.map .int)), .val (.bl b), .val (.int k), x11, x12, .un, .un, .un, .un, .un] = .next [.val (.lst (ns.map .int)), .val (.lst PL), .val (.int n), .val (.tup (c.map .int)), .un, .own (.lst (scD scs)), OR, .val (.tup (st.map .int)), .own (.lst (w.map .int)), .val (.bl (b || ms.any fun j => (clF (scs.getD j []) (scs.getD k [])).isSome)), .val (.int k), y11, y12, .un, .un, .un, .un, .un]
  | [], b, x11, x12, _ => ⟨x11, x12, by simp⟩
  | m :: ms, b, x11, x12, h => by
    have hm := h m List.mem_cons_self
    obtain ⟨y11, y12, ih⟩ := pairs_in (ns := ns) hc hs hst hw PL n OR k hk ms (b || (clF (scs.getD m []) (scs.getD k [])).isSome) (.val (.int m)) (.val (.int (fstD (clF (scs.getD m []) (scs.getD k []))))) (fun x hx => h x (List.mem_cons_of_mem _ hx))
    refine ⟨y11, y12, ?_⟩
    have ix : ∀ j, j < scs.length → dIx (.lst (scD scs)) (.int (j : Int)) = .ok (.tup ((scs.getD j []).map actD)) := fun j hj => by
      rw [dIx_l (by simpa [scD] using hj)]
      simp [scD, List.getD_eq_getElem?_getD, List.getElem?_eq_getElem hj]
    have i1 := ix m hm
    have i2 := ix k hk
    have o1 := hs _ (getD_mem [] hm)
    have o2 := hs _ (getD_mem [] hk)
    have pt := parting_ok hc o1 o2
    have ph := pair_holds hc o1 o2 hst hw
    have fl := fst_lt hc (f := scs.getD m []) o2
    have fl2 : decide (fstD (clF (scs.getD m []) (scs.getD k [])) < 99) = (clF (scs.getD m []) (scs.getD k [])).isSome := by
      cases q : (clF (scs.getD m []) (scs.getD k [])).isSome with
      | true => rw [decide_eq_true (fl.mpr q)]
      | false => rw [decide_eq_false fun h => by rw [fl.mp h] at q; cases q]
    have any : (b || (m :: ms).any fun j => (clF (scs.getD j []) (scs.getD k [])).isSome) = (b || (clF (scs.getD m []) (scs.getD k [])).isSome || ms.any fun j => (clF (scs.getD j []) (scs.getD k [])).isSome) := by
      rw [List.any_cons, Bool.or_assoc]
    rw [any, List.map_cons]
    generalize hS : scs.getD m [] = s1 at *
    generalize hT : scs.getD k [] = s2 at *
    generalize fstD (clF s1 s2) = dv at *
    generalize (clF s1 s2).isSome = iss at *
    rw [forGo_go (e1 := [.val (.lst (ns.map .int)), .val (.lst PL), .val (.int n), .val (.tup (c.map .int)), .un, .own (.lst (scD scs)), OR, .val (.tup (st.map .int)), .own (.lst (w.map .int)), .val (.bl b), .val (.int k), .val (.int m), x12, .un, .un, .un, .un, .un]) (e2 := [.val (.lst (ns.map .int)), .val (.lst PL), .val (.int n), .val (.tup (c.map .int)), .un, .own (.lst (scD scs)), OR, .val (.tup (st.map .int)), .own (.lst (w.map .int)), .val (.bl (b || iss)), .val (.int k), .val (.int m), .val (.int dv), .un, .un, .un, .un, .un]) rfl (.inl ?_)]
    · exact ih
    · cases b with
      | true => simp [i1, i2, pt, ph, -List.getD_eq_getElem?_getD]
      | false => simp [i1, i2, pt, ph, fl2, -List.getD_eq_getElem?_getD]
theorem any_take {scs : List (List Act)} {k : Nat} (hk : k ≤ scs.length) (p : List Act → Bool) : ((List.range k).any fun j => p (scs.getD j [])) = (scs.take k).any p := by
  have : scs.take k = (List.range k).map fun j => scs.getD j [] := by
    apply List.ext_getElem (by simp; omega)
    intro i h1 h2
    have : i < scs.length := by simp at h1; omega
    simp [List.getD_eq_getElem?_getD, List.getElem?_eq_getElem this]
  rw [this, List.any_map]; rfl
theorem pairs_out {ns st w c : List Int} {scs : List (List Act)} (hc : okC c) (hs : ∀ s ∈ scs, okS c s) (hst : stB c st = true) (hw : stB c w = false) (PL : List D) (n : Int) (OR : Sl) (hl : scs.length ≤ 100) : ∀ (m k : Nat) (b : Bool) (x10 x11 x12 : Sl), k + m = scs.length → ∃ y10 y11 y12,
    forGo (gName 10) (sFor (iB dRange1 (aCons (eVar 10) aNil)) (gName 11) (sSeq (sSetCall 12 f__law_parting (aCons (eVar 3) (aCons (eOp2 dIx (ePeek 5) (eVar 11)) (aCons (eOp2 dIx (ePeek 5) (eVar 10)) aNil))))
  (sSeq (sFreeze 12 (sIf (tNot (tVal (eCall f__law_pair_holds (aCons (eVar 3) (aCons (eOp2 dIx (ePeek 5) (eVar 11)) (aCons (eOp2 dIx (ePeek 5) (eVar 10)) (aCons (eVar 12) (aCons (eVar 7) (aCons (eB dTuple (aCons (ePeek 8) aNil)) aNil))))))))) (sRet (eC (.bl false))) sNext))
  (sSet 9 (eOr (eVar 9) (eOp2 dLt (ePeek 12) (eC (.int 99)))))))) ((List.range' k m).map fun k => .int (k : Nat)) [.val (.lst (ns.map .int)), .val (.lst PL), .val (.int n), .val (.tup (c.map .int)), .un, .own (.lst (scD scs)), OR, .val (.tup (st.map .int)), .own (.lst (w.map .int)), .val (.bl b), x10, x11, x12, .un, .un, .un, .un, .un] = .next [.val (.lst (ns.map .int)), .val (.lst PL), .val (.int n), .val (.tup (c.map .int)), .un, .own (.lst (scD scs)), OR, .val (.tup (st.map .int)), .own (.lst (w.map .int)), .val (.bl (b || (List.range' k m).any (clK scs))), y10, y11, y12, .un, .un, .un, .un, .un]
  | 0, k, b, x10, x11, x12, _ => ⟨x10, x11, x12, by simp⟩
  | m + 1, k, b, x10, x11, x12, h => by
    have hk : k < scs.length := by omega
    obtain ⟨z11, z12, inn⟩ := pairs_in (ns := ns) hc hs hst hw PL n OR k hk (List.range k) b x11 x12 (fun j hj => by have := List.mem_range.mp hj; omega)
    have hrg := dRange1_i (smallI_n (n := k) (by omega))
    have e0 : rangeL 0 k = (List.range k).map fun j => D.int (j : Nat) := by
      unfold rangeL
      rw [show ((k : Int) - 0).toNat = k by omega]
      exact List.map_congr_left fun i _ => by simp
    rw [e0] at hrg
    rw [any_take (by omega) fun s => (clF s (scs.getD k [])).isSome] at inn
    rw [show ((scs.take k).any fun s => (clF s (scs.getD k [])).isSome) = clK scs k from rfl] at inn
    obtain ⟨y10, y11, y12, ih⟩ := pairs_out (ns := ns) hc hs hst hw PL n OR hl m (k + 1) (b || clK scs k) (.val (.int k)) z11 z12 (by omega)
    refine ⟨y10, y11, y12, ?_⟩
    rw [List.range'_succ, List.map_cons, List.any_cons, ← Bool.or_assoc]
    generalize clK scs k = ck at *
    rw [forGo_go (e1 := [.val (.lst (ns.map .int)), .val (.lst PL), .val (.int n), .val (.tup (c.map .int)), .un, .own (.lst (scD scs)), OR, .val (.tup (st.map .int)), .own (.lst (w.map .int)), .val (.bl b), .val (.int k), x11, x12, .un, .un, .un, .un, .un]) (e2 := [.val (.lst (ns.map .int)), .val (.lst PL), .val (.int n), .val (.tup (c.map .int)), .un, .own (.lst (scD scs)), OR, .val (.tup (st.map .int)), .own (.lst (w.map .int)), .val (.bl (b || ck)), .val (.int k), z11, z12, .un, .un, .un, .un, .un]) rfl (.inl ?_)]
    · exact ih
    · generalize (List.range k).map (fun j => D.int (j : Nat)) = RL at *
      simp [hrg]
      exact inn
end Lw
namespace Lw
open M
theorem wrong_made (c st : List Int) (hc : okC c) (hst : stB c st = true) (dv p6 : Nat) (hd : dv < c.length) (h6 : p6 < 4) : ∃ w : List Int, stB c w = false ∧
    (p6 < 2 → ∃ z : Int, dIx (.lst [.int (-1), .int (c.getD dv 0)]) (.int p6) = .ok (.int z) ∧ (st.map D.int).set dv (.int z) = w.map .int) ∧ (p6 = 2 → pLast [] (st.map .int) = pLast [] (st.map .int) ∧ ∀ env, ∃ d, pLast env (st.map .int) = .ok (d, w.map .int)) ∧ (p6 = 3 → st.map D.int ++ [.int 0] = w.map .int) := by
  have hc1 := hc.1
  have sl := (stB_iff.mp hst).1
  match p6, h6 with
  | 0, _ => exact ⟨st.set dv (-1), stB_at hd (.inl (by rw [getD_set (by omega), if_pos rfl]; omega)), fun _ => ⟨-1, eqOf rfl, set_ints _ _ _⟩, fun e => (nomatch e), fun e => (nomatch e)⟩
  | 1, _ => exact ⟨st.set dv (c.getD dv 0), stB_at hd (.inr (by rw [getD_set (by omega), if_pos rfl]; exact Int.le_refl _)), fun _ => ⟨c.getD dv 0, eqOf rfl, set_ints _ _ _⟩, fun e => (nomatch e), fun e => (nomatch e)⟩
  | 2, _ =>
    obtain ⟨xs, x, rfl⟩ : ∃ xs x, st = xs ++ [x] := ⟨st.dropLast, st.getLast (by intro e; subst e; simp at sl; omega), (List.dropLast_concat_getLast _).symm⟩
    exact ⟨xs, stB_len (by simp at sl; omega), fun h => absurd h (by omega), fun _ => ⟨rfl, fun env => ⟨.int x, by rw [List.map_append]; exact pLast_app env _ _⟩⟩, fun e => (nomatch e)⟩
  | 3, _ => exact ⟨st ++ [0], stB_len (by simp; omega), fun h => absurd h (by omega), fun e => (nomatch e), fun _ => by simp⟩
theorem law_true (ns : List Int) (_ : ns.length ≤ 63) (_ : ∀ z ∈ ns, PySem.Builtin.Int.intBits z ≤ 1048576) : f_law [.lst (ns.map .int)] = .ok (.val (.bl true)) := by
  rw [f_law, fn_1]
  obtain ⟨z0, c0⟩ : ∃ z : Int, f__law_cell [.lst (ns.map .int), .int 0] = .ok (.val (.int z)) := cell_ok ns 0
  obtain ⟨z1, c1⟩ : ∃ z : Int, f__law_cell [.lst (ns.map .int), .int 1] = .ok (.val (.int z)) := cell_ok ns 1
  obtain ⟨z9, c9⟩ : ∃ z : Int, f__law_cell [.lst (ns.map .int), .int 9] = .ok (.val (.int z)) := cell_ok ns 9
  obtain ⟨z10, c10⟩ : ∃ z : Int, f__law_cell [.lst (ns.map .int), .int 10] = .ok (.val (.int z)) := cell_ok ns 10
  obtain ⟨z11, c11⟩ : ∃ z : Int, f__law_cell [.lst (ns.map .int), .int 11] = .ok (.val (.int z)) := cell_ok ns 11
  obtain ⟨z12, c12⟩ : ∃ z : Int, f__law_cell [.lst (ns.map .int), .int 12] = .ok (.val (.int z)) := cell_ok ns 12
  obtain ⟨plan, hp', hp1⟩ := row_ok z0 true [4, 6, 5, 2, 12, 10, 4, 6] (by decide) (by decide)
  have hp : f__law_row [.int z0, .lst [.int 4, .int 6, .int 5, .int 2, .int 12, .int 10, .int 4, .int 6]] = .ok (.own (.lst (plan.map .int))) := hp'
  clear hp'
  obtain ⟨p0, p1, p2, p3, p4, p5, p6, p7, rfl⟩ : ∃ a b c d e f g h, plan = [a, b, c, d, e, f, g, h] := by
    have := hp1.1
    match plan, this with
    | [a, b, c, d, e, f, g, h], _ => exact ⟨a, b, c, d, e, f, g, h, rfl⟩
  have b1 := hp1.2 1 (by decide)
  have b2 := hp1.2 2 (by decide)
  have b4 := hp1.2 4 (by decide)
  have b5 := hp1.2 5 (by decide)
  have b6 := hp1.2 6 (by decide)
  have b7 := hp1.2 7 (by decide)
  simp only [List.getD_cons_zero, List.getD_cons_succ] at b1 b2 b4 b5 b6 b7
  simp only [List.map_cons, List.map_nil] at hp
  obtain ⟨PL, hPL⟩ : ∃ PL : List D, PL = [.int p0, .int p1, .int p2, .int p3, .int p4, .int p5, .int p6, .int p7] := ⟨_, rfl⟩
  have x0 : dIx (.lst PL) (.int 0) = .ok (.int p0) := by rw [hPL]; exact eqOf rfl
  have x1 : dIx (.lst PL) (.int 1) = .ok (.int p1) := by rw [hPL]; exact eqOf rfl
  have x2 : dIx (.lst PL) (.int 2) = .ok (.int p2) := by rw [hPL]; exact eqOf rfl
  have x3 : dIx (.lst PL) (.int 3) = .ok (.int p3) := by rw [hPL]; exact eqOf rfl
  have x4 : dIx (.lst PL) (.int 4) = .ok (.int p4) := by rw [hPL]; exact eqOf rfl
  have x5 : dIx (.lst PL) (.int 5) = .ok (.int p5) := by rw [hPL]; exact eqOf rfl
  have x6 : dIx (.lst PL) (.int 6) = .ok (.int p6) := by rw [hPL]; exact eqOf rfl
  have x7 : dIx (.lst PL) (.int 7) = .ok (.int p7) := by rw [hPL]; exact eqOf rfl
  rw [← hPL] at hp
  clear hPL
  -- the counts
  obtain ⟨r1, hr1, hr2⟩ := row_ok z1 true [4] (by decide) (by decide)
  have hr1 : f__law_row [.int z1, .lst [.int 4]] = .ok (.own (.lst (r1.map .int))) := hr1
  obtain ⟨s0, rfl⟩ : ∃ a, r1 = [a] := by
    have := hr2.1
    match r1, this with
    | [a], _ => exact ⟨a, rfl⟩
  have bs := hr2.2 0 (by decide)
  simp only [List.getD_cons_zero] at bs
  simp only [List.map_cons, List.map_nil] at hr1
  have xs0 : dIx (.lst [.int s0]) (.int 0) = .ok (.int s0) := eqOf rfl
  obtain ⟨n, hn⟩ : ∃ n : Nat, 1 + s0 = n := ⟨(1 + s0).toNat, by omega⟩
  obtain ⟨c, row, hrow, ok, cl, hsl⟩ := counts_row z1 n (by omega) (by omega)
  have ok1 := ok.1
  have lcc : ∀ x0 x1 x2 x3 x5 x6 x7 x8 x9 x10 x11 x12 x13 x14 x15 x16 x17 : Sl, ∀ x4, lcGo (gName 4) tTrue (eOp2 dAdd (eC (.int 2)) (eVar 4)) ((c.map fun z => z - 2).map .int) [x0, x1, x2, x3, x4, x5, x6, x7, x8, x9, x10, x11, x12, x13, x14, x15, x16, x17] [] = .ok (c.map .int) := by
    intro x0 x1 x2 x3 x5 x6 x7 x8 x9 x10 x11 x12 x13 x14 x15 x16 x17 x4
    rw [lc_map (g := gName 4) (fun d => match d with | .int z => .int (2 + z) | d => d) _ (fun d hd => by
      obtain ⟨z, _, rfl⟩ := List.mem_map.mp hd
      exact ⟨_, rfl, by simp⟩) (by simp; omega), List.map_map, List.map_map]
    refine congrArg Out.ok (List.map_congr_left fun x _ => ?_)
    show D.int (2 + (x - 2)) = .int x
    rw [show 2 + (x - 2) = x by omega]
  have qc : (fComp [4] (iSeq (eSl (eCall f__law_row (aCons (eCall f__law_cell (aCons (eVar 0) (aCons (eC (.int 1)) aNil))) (aCons (eShare (fLst (aCons (eC (.int 4)) (aCons (eC (.int 4)) (aCons (eC (.int 4)) (aCons (eC (.int 4)) (aCons (eC (.int 4)) aNil))))))) aNil))) (oSome (eC (.int 1))) (oSome (eOp2 dAdd (eC (.int 1)) (eVar 2))))) (gName 4) tTrue (eOp2 dAdd (eC (.int 2)) (eVar 4))) [.val (.lst (ns.map .int)), .own (.lst PL), .val (.int n), .un, .un, .un, .un, .un, .un, .un, .un, .un, .un, .un, .un, .un, .un, .un] = .ok (.lst (c.map .int)) := by
    simp only [fComp_a, iSeq_a]
    simp [c1, hrow, -dSl_l]
    rw [hsl]
    simp [-List.map_map]
    rw [show lcGo _ _ _ _ _ _ = _ from lcc _ _ _ _ _ _ _ _ _ _ _ _ _ _ _ _ _ _]
    rfl
  obtain ⟨scs, e1, hs, hscl⟩ := scenes_all ns c ok p0 p1 p2 PL b1.1 b1.2 b2.1 x0 x1 x2
  have scl : scs.length ≤ 100 := by omega
  obtain ⟨ord, e2, hperm⟩ := order_ok z9 scs.length scl
  have lv : ∀ b ∈ c, 0 < b ∧ b < 1073741824 := fun b hb => by have := ok.2.2 b hb; omega
  obtain ⟨st, e3, hst⟩ := row_ok z10 true c lv (by omega)
  have e3 : f__law_row [.int z10, .lst (c.map .int)] = .ok (.own (.lst (st.map .int))) := e3
  have hst : stB c st = true := stB_iff.mpr hst
  have stl := (stB_iff.mp hst).1
  obtain ⟨dv, hdv⟩ : ∃ dv : Nat, p4 % n = dv := ⟨(p4 % n).toNat, by have := Int.emod_nonneg p4 (show (n : Int) ≠ 0 by omega); omega⟩
  have dv1 := Int.emod_lt_of_pos p4 (show (0 : Int) < n by omega)
  have mdv := dMod_i p4 n (by omega)
  rw [hdv] at mdv dv1
  have dvl : dv < c.length := by omega
  obtain ⟨q6, rfl⟩ : ∃ q : Nat, p6 = q := ⟨p6.toNat, by omega⟩
  obtain ⟨q5, rfl⟩ : ∃ q : Nat, p5 = q := ⟨p5.toNat, by omega⟩
  obtain ⟨w, hw, w1, w2, w3⟩ := wrong_made c st ok hst dv q6 dvl (by omega)
  obtain ⟨y10, y11, y12, lp⟩ := pairs_out (ns := ns) ok hs hst hw PL n (.own (.lst (ord.map fun j => .int (j : Nat)))) scl scs.length 0 false .un .un .un (by omega)
  rw [← List.range_eq_range', Bool.false_or] at lp
  have hrg := dRange1_i (smallI_n (n := scs.length) (by omega))
  have e0 : rangeL 0 scs.length = (List.range scs.length).map fun j => D.int (j : Nat) := by
    unfold rangeL
    rw [show ((scs.length : Int) - 0).toNat = scs.length by omega]
    exact List.map_congr_left fun i _ => by simp
  rw [e0] at hrg
  have sdl : (scD scs).length = scs.length := by simp [scD]
  -- the rest
  obtain ⟨a11, g1, g2⟩ := scene_made z11 c ok
  obtain ⟨good, g3, g4⟩ := scene_made z12 c ok
  obtain ⟨bad, sp1, sp2⟩ := spoilt_ok c a11 q5 dv ok g1 dvl (by omega)
  obtain ⟨p8, hp8⟩ : ∃ k : Nat, p7 % ((scs.length : Int) + 1) = k := ⟨(p7 % ((scs.length : Int) + 1)).toNat, by have := Int.emod_nonneg p7 (show ((scs.length : Int) + 1) ≠ 0 by omega); omega⟩
  have m7 := dMod_i p7 ((scs.length : Int) + 1) (by omega)
  rw [hp8] at m7
  have cu1 : cutL (scD scs) none (some (p8 : Int)) = scD (scs.take p8) := by rw [cut_take]; unfold scD; rw [List.map_take]
  have cu2 : cutL (scD scs) (some (p8 : Int)) none = (scD scs).drop p8 := cut_drop
  have refs : ∀ k : Nat, k < 3 → f__law_refused [.tup (c.map .int), .int k, .tup (good.map actD), .tup bad, .lst (scD (scs.take p8) ++ .tup bad :: (scD scs).drop p8)] = .ok (.val (.bl true)) := fun k hk => refused_ok ok g3 sp2 (fun s hs' => hs s (List.mem_of_mem_take hs')) k hk
  have sdt : (scD (scs.take p8)).length ≤ 100 := by simp [scD]; omega
  have sdd : ((scD scs).drop p8).length ≤ 100 := by simp [scD]; omega
  have ad1 : dAdd (.lst (scD (scs.take p8))) (.lst [.tup bad]) = .ok (.lst (scD (scs.take p8) ++ [.tup bad])) := dAdd_l (by rw [line_v]; simp; omega)
  have ad2 : fCat (.lst (scD (scs.take p8) ++ [.tup bad])) (.lst ((scD scs).drop p8)) = .ok (scD (scs.take p8) ++ .tup bad :: (scD scs).drop p8) := by
    rw [fCat_l (by rw [line_v, List.length_append]; simp at sdd ⊢; omega), List.append_assoc]; rfl
  generalize hRW : scD (scs.take p8) ++ .tup bad :: (scD scs).drop p8 = ROW at *
  have loop4 : ∀ (OR HD : Sl) (B : Bool) (FD : D) (RW : Sl) (y9 : Sl), RW = .own (.lst ROW) ∨ RW = .val (.lst ROW) → ∃ y RW', forGo (gName 17) (sFreeze 16 (sFreeze 15 (sIf (tNot (tVal (eCall f__law_refused (aCons (eVar 3) (aCons (eVar 17) (aCons (eCall f__law_scene (aCons (eCall f__law_cell (aCons (eVar 0) (aCons (eC (.int 12)) aNil))) (aCons (eVar 3) aNil))) (aCons (eVar 15) (aCons (eVar 16) aNil)))))))) (sRet (eC (.bl false))) sNext))) (rangeL 0 3) [.val (.lst (ns.map .int)), .val (.lst PL), .val (.int n), .val (.tup (c.map .int)), .un, .val (.lst (scD scs)), OR, .val (.tup (st.map .int)), .own (.lst (w.map .int)), .val (.bl B), y10, y11, y12, HD, .val FD, .val (.tup bad), RW, y9] = .next [.val (.lst (ns.map .int)), .val (.lst PL), .val (.int n), .val (.tup (c.map .int)), .un, .val (.lst (scD scs)), OR, .val (.tup (st.map .int)), .own (.lst (w.map .int)), .val (.bl B), y10, y11, y12, HD, .val FD, .val (.tup bad), RW', y] := by
    intro OR HD B FD RW y9 hRW
    obtain ⟨e2, k1, y, RW', k2, k3⟩ := forGo_inv (g := (gName 17)) (body := (sFreeze 16 (sFreeze 15 (sIf (tNot (tVal (eCall f__law_refused (aCons (eVar 3) (aCons (eVar 17) (aCons (eCall f__law_scene (aCons (eCall f__law_cell (aCons (eVar 0) (aCons (eC (.int 12)) aNil))) (aCons (eVar 3) aNil))) (aCons (eVar 15) (aCons (eVar 16) aNil)))))))) (sRet (eC (.bl false))) sNext)))) (all := rangeL 0 3) (env := [.val (.lst (ns.map .int)), .val (.lst PL), .val (.int n), .val (.tup (c.map .int)), .un, .val (.lst (scD scs)), OR, .val (.tup (st.map .int)), .own (.lst (w.map .int)), .val (.bl B), y10, y11, y12, HD, .val FD, .val (.tup bad), RW, y9])
      (P := fun _ env => ∃ y RW', env = [.val (.lst (ns.map .int)), .val (.lst PL), .val (.int n), .val (.tup (c.map .int)), .un, .val (.lst (scD scs)), OR, .val (.tup (st.map .int)), .own (.lst (w.map .int)), .val (.bl B), y10, y11, y12, HD, .val FD, .val (.tup bad), RW', y] ∧ (RW' = .own (.lst ROW) ∨ RW' = .val (.lst ROW))) ⟨y9, RW, rfl, hRW⟩
      (fun done d rest env he ⟨y, RW', e1, e2⟩ => by
        obtain ⟨hd, hl⟩ := range0_at (n := 3) he
        subst hd; subst e1
        have rf := refs done.length hl
        refine ⟨_, rfl, _, .inl ?_, .val (.int done.length), .val (.lst ROW), rfl, .inr rfl⟩
        rcases e2 with e | e
        · subst e; simp [c12, g4, rf]
        · subst e; simp [c12, g4, rf])
    exact ⟨y, RW', by rw [← k2]; exact k1⟩
  have r3 : dRange1 [.int 3] = .ok (rangeL 0 3) := dRange1_i (by decide)
  have okl : dNe (.lst (scD scs)) (.lst (scD scs)) = .ok (.bl false) := dNe_refl (okD_scenes scs)
  have j1 := joined_ok ok true hs scl
  have j2 := joined_ok ok false hs scl
  have hcl : c.length < 16777216 := by omega
  have stl2 : st.length < 16777216 := by omega
  have icx := dIx_getD (xs := c) dvl
  have hx := ixN_lt (n := st.length) (k := dv) (by omega)
  generalize hB : (List.range scs.length).any (clK scs) = B at *
  have way : ∀ x, (sIf (tVal (eOp2 dLt (eOp2 dIx (ePeek 1) (eC (.int 6))) (eC (.int 2)))) (sSetIx 8 (eOp2 dMod (eOp2 dIx (ePeek 1) (eC (.int 4))) (eVar 2)) (eOp2 dIx (eShare (fLst (aCons (eOp1 dNeg (eC (.int 1))) (aCons (eOp2 dIx (eVar 3) (eOp2 dMod (eOp2 dIx (ePeek 1) (eC (.int 4))) (eVar 2))) aNil)))) (eOp2 dIx (ePeek 1) (eC (.int 6))))) (sIf (tVal (eOp2 dEq (eOp2 dIx (ePeek 1) (eC (.int 6))) (eC (.int 2)))) (sDropPop 8 pLast) (sAppend 8 (eC (.int 0))))) [.val (.lst (ns.map .int)), .val (.lst PL), .val (.int n), .val (.tup (c.map .int)), x, .own (.lst (scD scs)), .own (.lst (ord.map fun j => .int (j : Nat))), .val (.tup (st.map .int)), .own (.lst (st.map .int)), .un, .un, .un, .un, .un, .un, .un, .un, .un] =
      .next [.val (.lst (ns.map .int)), .val (.lst PL), .val (.int n), .val (.tup (c.map .int)), x, .own (.lst (scD scs)), .own (.lst (ord.map fun j => .int (j : Nat))), .val (.tup (st.map .int)), .own (.lst (w.map .int)), .un, .un, .un, .un, .un, .un, .un, .un, .un] := by
    intro x
    by_cases q : q6 < 2
    · obtain ⟨z, k1, k2⟩ := w1 q
      have q' : (q6 : Int) < 2 := by omega
      rw [← k2]
      simp [x6, x4, q', mdv, icx, k1, hx, -List.getD_eq_getElem?_getD]
    · have q' : ¬ (q6 : Int) < 2 := by omega
      by_cases q2 : q6 = 2
      · obtain ⟨_, k2⟩ := w2 q2
        have q2' : (q6 : Int) = 2 := by omega
        obtain ⟨d, k3⟩ := k2 [.val (.lst (ns.map .int)), .val (.lst PL), .val (.int n), .val (.tup (c.map .int)), x, .own (.lst (scD scs)), .own (.lst (ord.map fun j => .int (j : Nat))), .val (.tup (st.map .int)), .own (.lst (st.map .int)), .un, .un, .un, .un, .un, .un, .un, .un, .un]
        simp only [sIf_a, tVal_a, eOp2_a, ePeek_a, eC_a, List.getElem?_cons_succ, List.getElem?_cons_zero, Out.bind_ok, x6, dLt_i, dEq_i, fl_ok]
        rw [decide_eq_false q', decide_eq_true q2']
        simp only [Bool.false_eq_true, if_false, if_true, sDropPop_a, List.getElem?_cons_succ, List.getElem?_cons_zero, k3, fl_ok, List.set_cons_succ, List.set_cons_zero]
      · have k2 := w3 (by omega)
        have q2' : ¬ (q6 : Int) = 2 := by omega
        rw [← k2]
        simp [x6, q', q2', line_v, stl2]
  have jh : ∀ T, B = false → okS c T → (∀ i, look (tl T) i = cmbL c i scs) → f__law_joined_holds [.tup (c.map .int), .lst (scD scs), .tup (T.map actD), .lst (ord.map fun j => .int (j : Nat))] = .ok (.val (.bl true)) := fun T hb h1 h2 => joined_holds ok hs h1 h2 (hB.trans hb) hperm
  generalize hWW : sIf (tVal (eOp2 dLt (eOp2 dIx (ePeek 1) (eC (.int 6))) (eC (.int 2)))) (sSetIx 8 (eOp2 dMod (eOp2 dIx (ePeek 1) (eC (.int 4))) (eVar 2)) (eOp2 dIx (eShare (fLst (aCons (eOp1 dNeg (eC (.int 1))) (aCons (eOp2 dIx (eVar 3) (eOp2 dMod (eOp2 dIx (ePeek 1) (eC (.int 4))) (eVar 2))) aNil)))) (eOp2 dIx (ePeek 1) (eC (.int 6))))) (sIf (tVal (eOp2 dEq (eOp2 dIx (ePeek 1) (eC (.int 6))) (eC (.int 2)))) (sDropPop 8 pLast) (sAppend 8 (eC (.int 0)))) = WW at way ⊢
  have j1 : (B = true → f_joined [.tup (c.map .int), .lst (scD scs)] = .ok (.val .non)) ∧ (B = false → ∃ T, f_joined [.tup (c.map .int), .lst (scD scs)] = .ok (.val (.tup (T.map actD))) ∧ okS c T ∧ ∀ i, look (tl T) i = cmbL c i scs) := j1
  have j2 : (B = true → f_joined [.tup (c.map .int), .tup (scD scs)] = .ok (.val .non)) ∧ (B = false → ∃ T, f_joined [.tup (c.map .int), .tup (scD scs)] = .ok (.val (.tup (T.map actD))) ∧ okS c T ∧ ∀ i, look (tl T) i = cmbL c i scs) := j2
  generalize (List.range scs.length).map (fun j => D.int (j : Nat)) = RL at hrg lp
  rw [← sdl] at hrg m7 e2
  generalize hSD : scD scs = SD at *
  generalize (ord.map fun j => D.int (j : Nat)) = OL at *
  cases B with
  | true =>
    have jj1 := j1.1 rfl
    have jj2 := j2.1 rfl
    by_cases q3 : p3 = 1
    · obtain ⟨y, RW', l4⟩ := loop4 (.own (.lst OL)) (.val (.tup SD)) true .non (.own (.lst ROW)) .un (.inl rfl)
      obtain ⟨z, RW2, l5⟩ := loop4 (.val (.lst OL)) (.val (.tup SD)) true .non (.own (.lst ROW)) .un (.inl rfl)
      simp (config := { maxSteps := 1000000 }) [startE, List.replicate, c0, c1, c9, c10, c11, hp, x0, x1, x2, x3, x4, x5, x6, x7, hr1, xs0, hn, qc, e1, e2, e3, way, hrg, lp, q3, jj1, jj2, okl, isNon, g2, mdv, sp1, m7, cu1, cu2, ad1, ad2, l4, l5, r3, -fComp_a, -forGo_c]
    · obtain ⟨y, RW', l4⟩ := loop4 (.own (.lst OL)) (.val (.lst SD)) true .non (.own (.lst ROW)) .un (.inl rfl)
      obtain ⟨z, RW2, l5⟩ := loop4 (.val (.lst OL)) (.val (.lst SD)) true .non (.own (.lst ROW)) .un (.inl rfl)
      simp (config := { maxSteps := 1000000 }) [startE, List.replicate, c0, c1, c9, c10, c11, hp, x0, x1, x2, x3, x4, x5, x6, x7, hr1, xs0, hn, qc, e1, e2, e3, way, hrg, lp, q3, jj1, jj2, okl, isNon, g2, mdv, sp1, m7, cu1, cu2, ad1, ad2, l4, l5, r3, -fComp_a, -forGo_c]
  | false =>
    by_cases q3 : p3 = 1
    · obtain ⟨T, t1, t2, t3⟩ := j2.2 rfl
      have jh := jh T rfl t2 t3
      obtain ⟨z, RW2, l5⟩ := loop4 (.val (.lst OL)) (.val (.tup SD)) false (.tup (T.map actD)) (.own (.lst ROW)) .un (.inl rfl)
      simp (config := { maxSteps := 1000000 }) [startE, List.replicate, c0, c1, c9, c10, c11, hp, x0, x1, x2, x3, x4, x5, x6, x7, hr1, xs0, hn, qc, e1, e2, e3, way, hrg, lp, q3, t1, jh, okl, isNon, g2, mdv, sp1, m7, cu1, cu2, ad1, ad2, l5, r3, -fComp_a, -forGo_c]
    · obtain ⟨T, t1, t2, t3⟩ := j1.2 rfl
      have jh := jh T rfl t2 t3
      obtain ⟨z, RW2, l5⟩ := loop4 (.val (.lst OL)) (.val (.lst SD)) false (.tup (T.map actD)) (.own (.lst ROW)) .un (.inl rfl)
      simp (config := { maxSteps := 1000000 }) [startE, List.replicate, c0, c1, c9, c10, c11, hp, x0, x1, x2, x3, x4, x5, x6, x7, hr1, xs0, hn, qc, e1, e2, e3, way, hrg, lp, q3, t1, jh, okl, isNon, g2, mdv, sp1, m7, cu1, cu2, ad1, ad2, l5, r3, -fComp_a, -forGo_c]
end Lw
open PySem PySem.W PyProof.Rows in
set_option maxRecDepth 100000 in
set_option maxHeartbeats 0 in
theorem PySem.Challenge.cw_calmhouse_k32_orders_clash_or_join_holds : PySem.Challenge.rw_calmhouse_k32_orders_clash_or_join.Holds := by
  w_on; o_law; k_head; (case hw => w_witness2)
  k_fill
  refine M.walk_end (l := PySem.Challenge.rw_calmhouse_k32_orders_clash_or_join) (k := 43) rfl rfl ⟨rfl, by decide, by decide⟩ (fun w h Y => PySem.W.kIn_of Y) ?F Lw.law_true
  case F =>
    intro w mg fa h KX G hmg
    refine' Lw.all_mk KX G hmg ?a__law_cell ?l__law_cell ?c__law_cell ?k__law_cell ?a__law_done ?l__law_done ?c__law_done ?k__law_done ?a__law_integer ?l__law_integer ?c__law_integer ?k__law_integer ?a__law_is_scene ?l__law_is_scene ?c__law_is_scene ?k__law_is_scene ?a__law_joined_holds ?l__law_joined_holds ?c__law_joined_holds ?k__law_joined_holds ?a__law_row ?l__law_row ?c__law_row ?k__law_row ?a__law_order ?l__law_order ?c__law_order ?k__law_order ?a__law_plain ?l__law_plain ?c__law_plain ?k__law_plain ?a_act_table ?l_act_table ?c_act_table ?k_act_table ?a_acts_clash ?l_acts_clash ?c_acts_clash ?k_acts_clash ?a_clash_device ?l_clash_device ?c_clash_device ?k_clash_device ?a_is_integer ?l_is_integer ?c_is_integer ?k_is_integer ?a_is_act ?l_is_act ?c_is_act ?k_is_act ?a_is_scene ?l_is_scene ?c_is_scene ?k_is_scene ?a_demand_scene ?l_demand_scene ?c_demand_scene ?k_demand_scene ?a_clash ?l_clash ?c_clash ?k_clash ?a_is_state ?l_is_state ?c_is_state ?k_is_state ?a_scene_result ?l_scene_result ?c_scene_result ?k_scene_result ?a_shows_clash ?l_shows_clash ?c_shows_clash ?k_shows_clash ?a__law_pair_holds ?l__law_pair_holds ?c__law_pair_holds ?k__law_pair_holds ?a__law_parting ?l__law_parting ?c__law_parting ?k__law_parting ?a_scene_of ?l_scene_of ?c_scene_of ?k_scene_of ?a_scene_then ?l_scene_then ?c_scene_then ?k_scene_then ?a_joined ?l_joined ?c_joined ?k_joined ?a__law_refused ?l__law_refused ?c__law_refused ?k__law_refused ?a__law_scene ?l__law_scene ?c__law_scene ?k__law_scene ?a__law_changed ?l__law_changed ?c__law_changed ?k__law_changed ?a__law_tame ?l__law_tame ?c__law_tame ?k__law_tame ?a__law_scenes ?l__law_scenes ?c__law_scenes ?k__law_scenes ?a__law_spoilt ?l__law_spoilt ?c__law_spoilt ?k__law_spoilt ?a_law ?l_law ?c_law ?k_law ?a_HouseError ?kc_HouseError ?s_HouseError ?t_HouseError ?i_HouseError ?g_HouseError ?h_HouseError ?d_HouseError ?o_HouseError ?m_HouseError ?a_BadState ?kc_BadState ?s_BadState ?t_BadState ?i_BadState ?g_BadState ?h_BadState ?d_BadState ?o_BadState ?m_BadState ?a_BadScene ?kc_BadScene ?s_BadScene ?t_BadScene ?i_BadScene ?g_BadScene ?h_BadScene ?d_BadScene ?o_BadScene ?m_BadScene ?hn ?ht ?p_HouseError_BadScene ?p_BadState_BadScene ?p_BadScene_BadScene ?p_HouseError_BadState ?p_BadState_BadState ?p_BadScene_BadState ?p_HouseError_HouseError ?p_BadState_HouseError ?p_BadScene_HouseError ?zsup ?z_bool ?z_enumerate ?z_int ?z_isinstance ?z_len ?z_list ?z_min ?z_range ?z_sorted ?z_str ?z_tuple ?z_zip ?xi_BadScene ?ne_HouseError_BadScene ?ne_BadState_BadScene ?ne_HouseError_BadState ?ne_BadScene_BadState
    (case a__law_cell => k_is)
    (case l__law_cell => k_is)
    (case c__law_cell => k_is)
    (case k__law_cell => k_is)
    (case a__law_done => k_is)
    (case l__law_done => k_is)
    (case c__law_done => k_is)
    (case k__law_done => k_is)
    (case a__law_integer => k_is)
    (case l__law_integer => k_is)
    (case c__law_integer => k_is)
    (case k__law_integer => k_is)
    (case a__law_is_scene => k_is)
    (case l__law_is_scene => k_is)
    (case c__law_is_scene => k_is)
    (case k__law_is_scene => k_is)
    (case a__law_joined_holds => k_is)
    (case l__law_joined_holds => k_is)
    (case c__law_joined_holds => k_is)
    (case k__law_joined_holds => k_is)
    (case a__law_row => k_is)
    (case l__law_row => k_is)
    (case c__law_row => k_is)
    (case k__law_row => k_is)
    (case a__law_order => k_is)
    (case l__law_order => k_is)
    (case c__law_order => k_is)
    (case k__law_order => k_is)
    (case a__law_plain => k_is)
    (case l__law_plain => k_is)
    (case c__law_plain => k_is)
    (case k__law_plain => k_is)
    (case a_act_table => k_is)
    (case l_act_table => k_is)
    (case c_act_table => k_is)
    (case k_act_table => k_is)
    (case a_acts_clash => k_is)
    (case l_acts_clash => k_is)
    (case c_acts_clash => k_is)
    (case k_acts_clash => k_is)
    (case a_clash_device => k_is)
    (case l_clash_device => k_is)
    (case c_clash_device => k_is)
    (case k_clash_device => k_is)
    (case a_is_integer => k_is)
    (case l_is_integer => k_is)
    (case c_is_integer => k_is)
    (case k_is_integer => k_is)
    (case a_is_act => k_is)
    (case l_is_act => k_is)
    (case c_is_act => k_is)
    (case k_is_act => k_is)
    (case a_is_scene => k_is)
    (case l_is_scene => k_is)
    (case c_is_scene => k_is)
    (case k_is_scene => k_is)
    (case a_demand_scene => k_is)
    (case l_demand_scene => k_is)
    (case c_demand_scene => k_is)
    (case k_demand_scene => k_is)
    (case a_clash => k_is)
    (case l_clash => k_is)
    (case c_clash => k_is)
    (case k_clash => k_is)
    (case a_is_state => k_is)
    (case l_is_state => k_is)
    (case c_is_state => k_is)
    (case k_is_state => k_is)
    (case a_scene_result => k_is)
    (case l_scene_result => k_is)
    (case c_scene_result => k_is)
    (case k_scene_result => k_is)
    (case a_shows_clash => k_is)
    (case l_shows_clash => k_is)
    (case c_shows_clash => k_is)
    (case k_shows_clash => k_is)
    (case a__law_pair_holds => k_is)
    (case l__law_pair_holds => k_is)
    (case c__law_pair_holds => k_is)
    (case k__law_pair_holds => k_is)
    (case a__law_parting => k_is)
    (case l__law_parting => k_is)
    (case c__law_parting => k_is)
    (case k__law_parting => k_is)
    (case a_scene_of => k_is)
    (case l_scene_of => k_is)
    (case c_scene_of => k_is)
    (case k_scene_of => k_is)
    (case a_scene_then => k_is)
    (case l_scene_then => k_is)
    (case c_scene_then => k_is)
    (case k_scene_then => k_is)
    (case a_joined => k_is)
    (case l_joined => k_is)
    (case c_joined => k_is)
    (case k_joined => k_is)
    (case a__law_refused => k_is)
    (case l__law_refused => k_is)
    (case c__law_refused => k_is)
    (case k__law_refused => k_is)
    (case a__law_scene => k_is)
    (case l__law_scene => k_is)
    (case c__law_scene => k_is)
    (case k__law_scene => k_is)
    (case a__law_changed => k_is)
    (case l__law_changed => k_is)
    (case c__law_changed => k_is)
    (case k__law_changed => k_is)
    (case a__law_tame => k_is)
    (case l__law_tame => k_is)
    (case c__law_tame => k_is)
    (case k__law_tame => k_is)
    (case a__law_scenes => k_is)
    (case l__law_scenes => k_is)
    (case c__law_scenes => k_is)
    (case k__law_scenes => k_is)
    (case a__law_spoilt => k_is)
    (case l__law_spoilt => k_is)
    (case c__law_spoilt => k_is)
    (case k__law_spoilt => k_is)
    (case a_law => k_is)
    (case l_law => k_is)
    (case c_law => k_is)
    (case k_law => k_is)
    (case a_HouseError => k_is)
    (case kc_HouseError => k_is)
    (case s_HouseError => k_is)
    (case t_HouseError => k_is)
    (case i_HouseError => k_is)
    (case g_HouseError => k_is)
    (case h_HouseError => k_is)
    (case d_HouseError => k_is)
    (case o_HouseError => k_is)
    (case m_HouseError => k_is)
    (case a_BadState => k_is)
    (case kc_BadState => k_is)
    (case s_BadState => k_is)
    (case t_BadState => k_is)
    (case i_BadState => k_is)
    (case g_BadState => k_is)
    (case h_BadState => k_is)
    (case d_BadState => k_is)
    (case o_BadState => k_is)
    (case m_BadState => k_is)
    (case a_BadScene => k_is)
    (case kc_BadScene => k_is)
    (case s_BadScene => k_is)
    (case t_BadScene => k_is)
    (case i_BadScene => k_is)
    (case g_BadScene => k_is)
    (case h_BadScene => k_is)
    (case d_BadScene => k_is)
    (case o_BadScene => k_is)
    (case m_BadScene => k_is)
    (case hn => k_is)
    (case ht => k_is)
    (case p_HouseError_BadScene => k_is)
    (case p_BadState_BadScene => k_is)
    (case p_BadScene_BadScene => k_is)
    (case p_HouseError_BadState => k_is)
    (case p_BadState_BadState => k_is)
    (case p_BadScene_BadState => k_is)
    (case p_HouseError_HouseError => k_is)
    (case p_BadState_HouseError => k_is)
    (case p_BadScene_HouseError => k_is)
    (case zsup => k_is)
    (case z_bool => k_is)
    (case z_enumerate => k_is)
    (case z_int => k_is)
    (case z_isinstance => k_is)
    (case z_len => k_is)
    (case z_list => k_is)
    (case z_min => k_is)
    (case z_range => k_is)
    (case z_sorted => k_is)
    (case z_str => k_is)
    (case z_tuple => k_is)
    (case z_zip => k_is)
    (case xi_BadScene => kernel_rfl)
    (case ne_HouseError_BadScene => decide)
    (case ne_BadState_BadScene => decide)
    (case ne_HouseError_BadState => decide)
    (case ne_BadScene_BadState => decide)
