import PyProof.Rows.All
import PySem.Str
import PySem.Builtin.Str.Common
import PySem.Builtin.Int.W1All
import Wide.All
import OpenK.AllK
import Wide.FinOn
import HandS.ForMost
import HandS.ForExc
import HandS.ClsMeth
import HandS.ExcIs
import HandS.ExcField
import HandS.Small
import KE.KCallOwn
import HandS.TupAny
import HandS.IsInst
import HandS.Gcd
import HandS.Wide
import HandS.Style
import HandS.FStr
import HandS.Deep
import HandS.WordsDict
import HandS.Comp
import HandS.CallSlots
import HandS.Defaults
import HandS.TryOnly
import HandS.Ends
import HandS.ExcInit
import HandS.Text
import HandS.Replace
import HandS.StrMore
import HandS.TupLe
import PyProof.Rows.BitMore
import PySem.Challenge.RW_unbrokenrows_k24_steps_followed
set_option autoImplicit true
set_option linter.all false
/-! a data evaluator: Python's constructs over plain data, with owned lists -/
namespace Ed
open PySem

abbrev Key := Sum Int Str

inductive D where
  | non
  | bl (b : Bool)
  | int (i : Int)
  | str (s : Str)
  | lst (xs : List D)
  | tup (xs : List D)
  | dct (kvs : List (Key × D))
  | ins (c : Nat) (fs : List (Nat × D))
  | scr (ns : List Int)

/-- an exception: its class, its fields -/
structure Xc where
  c : Nat
  fs : List (Nat × D)

inductive Sl where
  | emp
  | val (d : D)
  | own (d : D)
  | bor (d : D)
  | slf (c : Nat) (fs : List (Nat × D))
  | exn (x : Xc)

abbrev Env := List Sl

inductive R (α : Type) where
  | ok (a : α)
  | exc (x : Xc) (Γ : Env)
  | bad

def R.bind {α β : Type} : R α → (α → R β) → R β
  | .ok a, f => f a
  | .exc x Γ, _ => .exc x Γ
  | .bad, _ => .bad
def R.of {α : Type} : Option α → R α
  | some a => .ok a
  | none => .bad

inductive DV where
  | fz (d : D)
  | fr (d : D)
def DV.d : DV → D
  | .fz d => d
  | .fr d => d
inductive Ctl where
  | nx
  | brk
  | cnt
  | ret (o : DV)
inductive PV where
  | pn (i : Nat)
  | pd (d : D)

abbrev EV := Env → R (D × Env)
abbrev TV := Env → R (Bool × Env)
abbrev QV := Env → R (PV × Env)
abbrev AV := Env → R (List PV × Env)
abbrev LV := Env → R (List D × Env)
abbrev SV := Env → R (Ctl × Env)
abbrev FV := List D → R DV

def get : Env → Nat → Sl
  | [], _ => .emp
  | s :: _, 0 => s
  | _ :: r, n + 1 => get r n
def put : Env → Nat → Sl → Env
  | [], _, _ => []
  | _ :: r, 0, t => t :: r
  | s :: r, n + 1, t => s :: put r n t
def look : Sl → Option D
  | .val d => some d
  | .own d => some d
  | .bor d => some d
  | _ => none
def rd (Γ : Env) : PV → Option D
  | .pd d => some d
  | .pn i => look (get Γ i)
/-- a slot's value made frozen -/
def frzS : Sl → Option (D × Sl)
  | .val d => some (d, .val d)
  | .own d => some (d, .val d)
  | _ => none

/-! expressions -/
def eC (d : D) : EV := fun Γ => .ok (d, Γ)
def eN (i : Nat) : EV := fun Γ => match frzS (get Γ i) with
  | some (d, s) => .ok (d, put Γ i s)
  | none => .bad
def pN (i : Nat) : QV := fun Γ => match look (get Γ i) with
  | some _ => .ok (.pn i, Γ)
  | none => .bad
def pE (e : EV) : QV := fun Γ => (e Γ).bind fun (d, Γ') => .ok (.pd d, Γ')
def eU (f : D → Option D) (a : QV) : EV := fun Γ => (a Γ).bind fun (p, Γ') => match rd Γ' p with
  | some d => (R.of (f d)).bind fun z => .ok (z, Γ')
  | none => .bad
def eB (f : D → D → Option D) (a b : QV) : EV := fun Γ => (a Γ).bind fun (p, Γ1) => (b Γ1).bind fun (q, Γ2) => match rd Γ2 p, rd Γ2 q with
  | some d, some e => (R.of (f d e)).bind fun z => .ok (z, Γ2)
  | _, _ => .bad
def aNil : AV := fun Γ => .ok ([], Γ)
def aCons (a : QV) (r : AV) : AV := fun Γ => (a Γ).bind fun (p, Γ1) => (r Γ1).bind fun (ps, Γ2) => .ok (p :: ps, Γ2)
def rds (Γ : Env) : List PV → Option (List D)
  | [] => some []
  | p :: ps => match rd Γ p, rds Γ ps with
    | some d, some ds => some (d :: ds)
    | _, _ => none
/-- a built-in of several arguments -/
def eF (f : List D → Option D) (a : AV) : EV := fun Γ => (a Γ).bind fun (ps, Γ') => match rds Γ' ps with
  | some ds => (R.of (f ds)).bind fun z => .ok (z, Γ')
  | none => .bad
def lNil : LV := fun Γ => .ok ([], Γ)
def lCons (a : EV) (r : LV) : LV := fun Γ => (a Γ).bind fun (d, Γ1) => (r Γ1).bind fun (ds, Γ2) => .ok (d :: ds, Γ2)
def seqMax : Nat := 16777216
def eTup (r : LV) : EV := fun Γ => (r Γ).bind fun (ds, Γ') => if ds.length ≤ seqMax then .ok (.tup ds, Γ') else .bad
/-- a new list (or dict): as it comes, owned -/
def nLst (r : LV) : EV := fun Γ => (r Γ).bind fun (ds, Γ') => if ds.length ≤ seqMax then .ok (.lst ds, Γ') else .bad
def eAnd (a b : TV) : TV := fun Γ => (a Γ).bind fun (c, Γ1) => if c then b Γ1 else .ok (false, Γ1)
def eOr (a b : TV) : TV := fun Γ => (a Γ).bind fun (c, Γ1) => if c then .ok (true, Γ1) else b Γ1
def eNot (a : TV) : TV := fun Γ => (a Γ).bind fun (c, Γ1) => .ok (!c, Γ1)
def eIf (t : TV) (a b : EV) : EV := fun Γ => (t Γ).bind fun (c, Γ1) => if c then a Γ1 else b Γ1
/-- a bool as a value -/
def eT (t : TV) : EV := fun Γ => (t Γ).bind fun (c, Γ1) => .ok (.bl c, Γ1)
/-- a test of an expression that gives a bool -/
def tE (e : EV) : TV := fun Γ => (e Γ).bind fun (d, Γ1) => match d with
  | .bl b => .ok (b, Γ1)
  | _ => .bad
def truth : D → Option Bool
  | .non => some false
  | .bl b => some b
  | .int i => some (i != 0)
  | .str s => if s.length ≤ seqMax then some ((s.length : Int) != 0) else none
  | .lst xs => some (!xs.isEmpty)
  | .tup xs => some (!xs.isEmpty)
  | _ => none
def tTru (a : QV) : TV := fun Γ => (a Γ).bind fun (p, Γ') => match rd Γ' p with
  | some d => (R.of (truth d)).bind fun z => .ok (z, Γ')
  | none => .bad

/-! calls: modes, true: lent -/
def prep (Γ : Env) : List Bool → List PV → Option (List D × Env)
  | [], [] => some ([], Γ)
  | m :: ms, p :: ps => match p with
    | .pd d => match prep Γ ms ps with
      | some (ds, Γ') => some (d :: ds, Γ')
      | none => none
    | .pn i => if m then (match look (get Γ i), prep Γ ms ps with
        | some d, some (ds, Γ') => some (d :: ds, Γ')
        | _, _ => none)
      else (match frzS (get Γ i) with
        | some (d, s) => (match prep (put Γ i s) ms ps with
          | some (ds, Γ') => some (d :: ds, Γ')
          | none => none)
        | none => none)
  | _, _ => none
def callF (F : FV) (ms : List Bool) (ps : List PV) (Γ : Env) : R (DV × Env) := match prep Γ ms ps with
  | some (ds, Γ') => (match F ds with
    | .ok o => .ok (o, Γ')
    | .exc x _ => .exc x Γ'
    | .bad => .bad)
  | none => .bad
def eCall (F : FV) (ms : List Bool) (a : AV) : EV := fun Γ => (a Γ).bind fun (ps, Γ1) => (callF F ms ps Γ1).bind fun (o, Γ2) => .ok (o.d, Γ2)
/-- a call whose new list is kept as owned -/
def nCall (F : FV) (ms : List Bool) (a : AV) : EV := fun Γ => (a Γ).bind fun (ps, Γ1) => (callF F ms ps Γ1).bind fun (o, Γ2) => match o with
  | .fr d => .ok (d, Γ2)
  | .fz _ => .bad
/-- except X as n (slot i): ex says of each class whether it is an X -/
def noX (Γ : Env) : Bool := Γ.all fun s => match s with
  | .exn _ => false
  | _ => true
def sTry (i : Nat) (ex : Nat → Option Bool) (b : Env → R (Ctl × Env)) (s : Env → R (Ctl × Env)) : Env → R (Ctl × Env) := fun Γ => match b Γ with
  | .exc x Γ' => (match ex x.c with
    | some true => if (i < Γ'.length) ∧ noX Γ' = true then (match s (put Γ' i (.exn x)) with
      | .ok (c, Γ2) => .ok (c, put Γ2 i .emp)
      | _ => .bad) else .bad
    | some false => .exc x Γ'
    | none => .bad)
  | r => r
/-- except X: -/
def sTry0 (ex : Nat → Option Bool) (b : Env → R (Ctl × Env)) (s : Env → R (Ctl × Env)) : Env → R (Ctl × Env) := fun Γ => match b Γ with
  | .exc x Γ' => (match ex x.c with
    | some true => (match s Γ' with
      | .ok r => .ok r
      | _ => .bad)
    | some false => .exc x Γ'
    | none => .bad)
  | r => r
/-- isinstance of a caught error; its field -/
def eIsE (i : Nat) (is : Nat → Option Bool) : EV := fun Γ => match get Γ i with
  | .exn x => (match if x.fs.isEmpty then is x.c else none with
    | some b => .ok (.bl b, Γ)
    | none => .bad)
  | _ => .bad
def eXf (cs : List Nat) (i f : Nat) : EV := fun Γ => match get Γ i with
  | .exn x => (match if cs.contains x.c then x.fs.lookup f else none with
    | some d => .ok (d, Γ)
    | none => .bad)
  | _ => .bad
/-- o.m(..): F takes the object first -/
def eMeth (c : Nat) (F : FV) (ms : List Bool) (o : EV) (a : AV) : EV := fun Γ => (o Γ).bind fun (d, Γ0) => match d with
  | .ins c' _ => if c' = c then (a Γ0).bind fun (ps, Γ1) => (callF F (false :: ms) (.pd d :: ps) Γ1).bind fun (o, Γ2) => .ok (o.d, Γ2) else .bad
  | _ => .bad
def nMeth (c : Nat) (F : FV) (ms : List Bool) (o : EV) (a : AV) : EV := fun Γ => (o Γ).bind fun (d, Γ0) => match d with
  | .ins c' _ => if c' = c then (a Γ0).bind fun (ps, Γ1) => (callF F (false :: ms) (.pd d :: ps) Γ1).bind fun (o, Γ2) => (match o with
    | .fr d => .ok (d, Γ2)
    | .fz _ => .bad) else .bad
  | _ => .bad
def fld (c f : Nat) : D → Option D
  | .ins c' fs => if c' = c then fs.lookup f else none
  | _ => none
def eFld (c f : Nat) (o : EV) : EV := fun Γ => (o Γ).bind fun (d, Γ') => (R.of (fld c f d)).bind fun z => .ok (z, Γ')

/-- o1 op o2, both of the class c -/
def eOwn2 (c : Nat) (F : FV) (a b : EV) : EV := fun Γ => (a Γ).bind fun (x, Γ1) => (b Γ1).bind fun (y, Γ2) => match x, y with
  | .ins c1 _, .ins c2 _ => if c1 = c ∧ c2 = c then (callF F [false, false] [.pd x, .pd y] Γ2).bind fun (o, Γ3) => .ok (o.d, Γ3) else .bad
  | _, _ => .bad
def eOwn1 (c : Nat) (F : FV) (a : EV) : EV := fun Γ => (a Γ).bind fun (x, Γ1) => match x with
  | .ins c1 _ => if c1 = c then (callF F [false] [.pd x] Γ1).bind fun (o, Γ3) => .ok (o.d, Γ3) else .bad
  | _ => .bad
def isB : D → Bool
  | .bl _ => true
  | _ => false
def isS : D → Bool
  | .str _ => true
  | _ => false
def isL : D → Bool
  | .int n => decide (0 ≤ n) && decide (n < 2 ^ 62)
  | _ => false
/-- bool(o), str(o), len(o): what comes back is of the kind k -/
def eOwnC (c : Nat) (k : D → Bool) (F : FV) (a : EV) : EV := fun Γ => (a Γ).bind fun (x, Γ1) => match x with
  | .ins c1 _ => if c1 = c then (callF F [false] [.pd x] Γ1).bind fun (o, Γ3) => (match o with
    | .fz d => if k d then .ok (d, Γ3) else .bad
    | .fr _ => .bad) else .bad
  | _ => .bad
/-- o[i] -/
def eOwnIx (c : Nat) (F : FV) (a : EV) (b : QV) : EV := fun Γ => (a Γ).bind fun (x, Γ1) => (b Γ1).bind fun (q, Γ2) => match x with
  | .ins c1 _ => if c1 = c then (callF F [false, true] [.pd x, q] Γ2).bind fun (o, Γ3) => .ok (o.d, Γ3) else .bad
  | _ => .bad
/-- x in o -/
def eOwnIn (c : Nat) (F : FV) (a : QV) (b : EV) : EV := fun Γ => (a Γ).bind fun (q, Γ1) => (b Γ1).bind fun (x, Γ2) => match x with
  | .ins c1 _ => if c1 = c then (callF F [false, true] [.pd x, q] Γ2).bind fun (o, Γ3) => (match o with
    | .fz d => if isB d then .ok (d, Γ3) else .bad
    | .fr _ => .bad) else .bad
  | _ => .bad

/-! statements -/
def sNext : SV := fun Γ => .ok (.nx, Γ)
def sBrk : SV := fun Γ => .ok (.brk, Γ)
def sCnt : SV := fun Γ => .ok (.cnt, Γ)
def sSeq (a b : SV) : SV := fun Γ => (a Γ).bind fun (c, Γ') => match c with
  | .nx => b Γ'
  | c => .ok (c, Γ')
def sSet (i : Nat) (e : EV) : SV := fun Γ => (e Γ).bind fun (d, Γ') => .ok (.nx, put Γ' i (.val d))
def sOwn (i : Nat) (e : EV) : SV := fun Γ => (e Γ).bind fun (d, Γ') => .ok (.nx, put Γ' i (.own d))
def sDrop (e : EV) : SV := fun Γ => (e Γ).bind fun (_, Γ') => .ok (.nx, Γ')
def sRet (e : EV) : SV := fun Γ => (e Γ).bind fun (d, Γ') => .ok (.ret (.fz d), Γ')
def sRetN : SV := fun Γ => .ok (.ret (.fz .non), Γ)
def sRetO (e : EV) : SV := fun Γ => (e Γ).bind fun (d, Γ') => .ok (.ret (.fr d), Γ')
/-- return x, x an owned list -/
def sRetX (i : Nat) : SV := fun Γ => match get Γ i with
  | .own d => .ok (.ret (.fr d), Γ)
  | .val d => .ok (.ret (.fz d), Γ)
  | _ => .bad
def sIf (t : TV) (a b : SV) : SV := fun Γ => (t Γ).bind fun (c, Γ') => if c then a Γ' else b Γ'
/-- x.append(e), x owned -/
def sApp (i : Nat) (e : EV) : SV := fun Γ => match look (get Γ i) with
  | some (.lst _) => (e Γ).bind fun (d, Γ') => (match get Γ' i with
    | .own (.lst xs) => if xs.length < seqMax then .ok (.nx, put Γ' i (.own (.lst (xs ++ [d])))) else .bad
    | _ => .bad)
  | _ => .bad
/-- x[j] = e -/
def ixN (n : Nat) (j : Int) : Option Nat := if 0 ≤ j then (if j < n then some j.toNat else none) else if -(n : Int) ≤ j then some (n + j).toNat else none
def sPutI (i : Nat) (j : QV) (e : EV) : SV := fun Γ => (e Γ).bind fun (d, Γ1) => match look (get Γ1 i) with
  | some _ => (j Γ1).bind fun (p, Γ2) => (match rd Γ2 p, get Γ2 i with
    | some (.int k), .own (.lst xs) => (match ixN xs.length k with
      | some m => .ok (.nx, put Γ2 i (.own (.lst (xs.set m d))))
      | none => .bad)
    | _, _ => .bad)
  | none => .bad
def sAug (i : Nat) (f : D → D → Option D) (e : QV) : SV := fun Γ => match look (get Γ i) with
  | some x => (e Γ).bind fun (p, Γ') => (match rd Γ' p with
    | some y => (R.of (f x y)).bind fun z => .ok (.nx, put Γ' i (.val z))
    | none => .bad)
  | none => .bad
/-- targets of a loop or an assignment -/
abbrev GV := D → Env → Option Env
def gN (i : Nat) : GV := fun d Γ => some (put Γ i (.val d))
def gs : List GV → List D → Env → Option Env
  | [], [], Γ => some Γ
  | g :: r, d :: ds, Γ => match g d Γ with
    | some Γ' => gs r ds Γ'
    | none => none
  | _, _, _ => none
def gT (l : List GV) : GV := fun d Γ => match d with
  | .tup ds => gs l ds Γ
  | .lst ds => gs l ds Γ
  | _ => none
def sAsg (g : GV) (e : EV) : SV := fun Γ => (e Γ).bind fun (d, Γ') => match g d Γ' with
  | some Γ2 => .ok (.nx, Γ2)
  | none => .bad
def forL (g : GV) (b : SV) : List D → Env → R (Ctl × Env)
  | [], Γ => .ok (.nx, Γ)
  | d :: ds, Γ => match g d Γ with
    | none => .bad
    | some Γ1 => match b Γ1 with
      | .ok (.nx, Γ2) => forL g b ds Γ2
      | .ok (.cnt, Γ2) => forL g b ds Γ2
      | .ok (.brk, Γ2) => .ok (.nx, Γ2)
      | .ok (.ret o, Γ2) => .ok (.ret o, Γ2)
      | .exc x Γ2 => .exc x Γ2
      | .bad => .bad
def items : D → Option (List D)
  | .lst xs => some xs
  | .tup xs => some xs
  | _ => none
/-- what is walked: a value's items -/
def iSeq (e : EV) : LV := fun Γ => (e Γ).bind fun (d, Γ') => (R.of (items d)).bind fun ds => .ok (ds, Γ')
/-- a name's items: what is lent stays lent -/
def stay : Sl → Option (D × Sl)
  | .val d => some (d, .val d)
  | .own d => some (d, .val d)
  | .bor d => some (d, .bor d)
  | _ => none
def iN (i : Nat) : LV := fun Γ => match stay (get Γ i) with
  | some (d, s) => (R.of (items d)).bind fun ds => .ok (ds, put Γ i s)
  | none => .bad
def rngL (lo : Int) (n : Nat) : List D := (List.range n).map fun (k : Nat) => .int (lo + k)
def rngB (i : Int) : Bool := decide (-(2 ^ 62) ≤ i) && decide (i < 2 ^ 62)
def iRg1 (a : QV) : LV := fun Γ => (a Γ).bind fun (p, Γ') => match rd Γ' p with
  | some (.int n) => if rngB n then .ok (rngL 0 n.toNat, Γ') else .bad
  | _ => .bad
def iRg2 (a b : QV) : LV := fun Γ => (a Γ).bind fun (p, Γ1) => (b Γ1).bind fun (q, Γ2) => match rd Γ2 p, rd Γ2 q with
  | some (.int m), some (.int n) => if rngB m && rngB n then .ok (rngL m (n - m).toNat, Γ2) else .bad
  | _, _ => .bad
def sFor (g : GV) (it : LV) (b : SV) : SV := fun Γ => (it Γ).bind fun (ds, Γ') => forL g b ds Γ'
/-- while, at most n turns -/
def whl (t : TV) (b : SV) : Nat → Env → R (Ctl × Env)
  | 0, _ => .bad
  | n + 1, Γ => (t Γ).bind fun (c, Γ1) => if c then (match b Γ1 with
      | .ok (.nx, Γ2) => whl t b n Γ2
      | .ok (.cnt, Γ2) => whl t b n Γ2
      | .ok (.brk, Γ2) => .ok (.nx, Γ2)
      | .ok (.ret o, Γ2) => .ok (.ret o, Γ2)
      | .exc x Γ2 => .exc x Γ2
      | .bad => .bad) else .ok (.nx, Γ1)
def sWhl (n : Nat) (t : TV) (b : SV) : SV := fun Γ => whl t b n Γ
def sPar (i j : Nat) (a b : EV) : SV := fun Γ => (a Γ).bind fun (x, Γ1) => (b Γ1).bind fun (y, Γ2) => .ok (.nx, put (put Γ2 i (.val x)) j (.val y))
/-- self.f = e, self in the making at slot 0 -/
def putFd (f : Nat) (v : D) : List (Nat × D) → List (Nat × D)
  | [] => [(f, v)]
  | (g, x) :: r => if g = f then (g, v) :: r else (g, x) :: putFd f v r
def sFld (c f : Nat) (e : EV) : SV := fun Γ => (e Γ).bind fun (d, Γ') => match get Γ' 0 with
  | .slf c' fs => if c' = c ∧ fs.length < 900 then .ok (.nx, put Γ' 0 (.slf c' (putFd f d fs))) else .bad
  | _ => .bad
/-- raise X(..) -/
def sRaise (c : Nat) (fs : List Nat) (r : LV) : SV := fun Γ => (r Γ).bind fun (ds, Γ') => .exc ⟨c, fs.zip ds⟩ Γ'

/-! a def -/
def inSl : Bool → D → Sl
  | true, .lst xs => .bor (.lst xs)
  | true, .dct xs => .bor (.dct xs)
  | _, d => .val d
def ins0 : List Bool → List D → Env
  | m :: ms, d :: ds => inSl m d :: ins0 ms ds
  | _, _ => []
def pad : Nat → Env
  | 0 => []
  | n + 1 => .emp :: pad n
def fin : R (Ctl × Env) → R DV
  | .ok (.nx, _) => .ok (.fz .non)
  | .ok (.ret o, _) => .ok o
  | .ok (.brk, _) => .bad
  | .ok (.cnt, _) => .bad
  | .exc x _ => .exc x []
  | .bad => .bad
/-- n: how many further locals -/
def runF (ms : List Bool) (n : Nat) (b : SV) : FV := fun ds => if ds.length = ms.length then fin (b (ins0 ms ds ++ pad n)) else .bad
/-- an __init__: the object's fields -/
def finI (c : Nat) : R (Ctl × Env) → R (List (Nat × D))
  | .ok (.nx, Γ) => match get Γ 0 with
    | .slf c' fs => if c' = c then .ok fs else .bad
    | _ => .bad
  | .ok (.ret _, _) => .bad
  | .ok (.brk, _) => .bad
  | .ok (.cnt, _) => .bad
  | .exc x _ => .exc x []
  | .bad => .bad
def runI (c : Nat) (ms : List Bool) (n : Nat) (b : SV) : List D → R (List (Nat × D)) := fun ds => if ds.length = ms.length then finI c (b (.slf c [] :: (ins0 ms ds ++ pad n))) else .bad
/-- C(..) -/
def mkF (c : Nat) (F : List D → R (List (Nat × D))) : FV := fun ds => match F ds with
  | .ok fs => .ok (.fz (.ins c fs))
  | .exc x _ => .exc x []
  | .bad => .bad
end Ed

set_option autoImplicit true
set_option linter.all false
/-! Python's operations over data -/
namespace Ed
open PySem

def nLt (a : Int) (b : Nat) : Bool := decide (a.natAbs < 2 ^ b)
def mulOk (a b : Int) : Bool := nLt a 64 || nLt b 64 || (nLt a 8000 && nLt b 8000)
def dAdd : D → D → Option D
  | .int a, .int b => some (.int (a + b))
  | .str a, .str b => if a.length + b.length ≤ seqMax then some (.str (a ++ b)) else none
  | .lst a, .lst b => if a.length + b.length ≤ seqMax then some (.lst (a ++ b)) else none
  | .tup a, .tup b => if a.length + b.length ≤ seqMax then some (.tup (a ++ b)) else none
  | _, _ => none
def dCat : D → D → Option D
  | .lst a, .lst b => if a.length + b.length ≤ seqMax then some (.lst (a ++ b)) else none
  | _, _ => none
def dSub : D → D → Option D
  | .int a, .int b => some (.int (a - b))
  | _, _ => none
def dMul : D → D → Option D
  | .int a, .int b => if mulOk a b then some (.int (a * b)) else none
  | _, _ => none
def dDiv : D → D → Option D
  | .int a, .int b => if b ≠ 0 ∧ b.natAbs < 2 ^ 8000 then some (.int (a.fdiv b)) else none
  | _, _ => none
def dMod : D → D → Option D
  | .int a, .int b => if b ≠ 0 then some (.int (a.fmod b)) else none
  | _, _ => none
def dPow : D → D → Option D
  | .int a, .int b => if 0 ≤ b ∧ b ≤ 1000000 ∧ a.natAbs < 2 ^ 64 then some (.int (a ^ b.toNat)) else none
  | _, _ => none
def dNeg : D → Option D
  | .int a => some (.int (-a))
  | _ => none
def dAbs : D → Option D
  | .int i => some (.int (if i < 0 then -i else i))
  | _ => none
def dInt : D → Option D
  | .int i => some (.int i)
  | .bl b => some (.int (if b then 1 else 0))
  | _ => none
def dBool : D → Option D
  | .int i => some (.bl (i != 0))
  | .bl b => some (.bl b)
  | _ => none
def dStr : D → Option D
  | .int i => if i.natAbs < 2 ^ 1900 then some (.str (toString i)) else none
  | .str s => some (.str s)
  | _ => none
def dLen : D → Option D
  | .str s => if s.length ≤ seqMax then some (.int s.length) else none
  | .lst xs => some (.int xs.length)
  | .tup xs => some (.int xs.length)
  | .scr xs => some (.int xs.length)
  | .dct xs => some (.int xs.length)
  | _ => none
def dLt : D → D → Option D
  | .int a, .int b => some (.bl (decide (a < b)))
  | _, _ => none
def dLe : D → D → Option D
  | .int a, .int b => some (.bl (decide (a ≤ b)))
  | _, _ => none
def dGt : D → D → Option D
  | .int a, .int b => some (.bl (decide (b < a)))
  | _, _ => none
def dGe : D → D → Option D
  | .int a, .int b => some (.bl (decide (b ≤ a)))
  | _, _ => none
mutual
def deq : D → D → Bool
  | .non, .non => true
  | .bl a, .bl b => a == b
  | .bl a, .int j => (if a then 1 else 0) == j
  | .int i, .bl b => i == (if b then 1 else 0)
  | .int i, .int j => i == j
  | .str x, .str y => x == y
  | .lst xs, .lst ys => deqs xs ys
  | .tup xs, .tup ys => deqs xs ys
  | _, _ => false
def deqs : List D → List D → Bool
  | [], [] => true
  | x :: xs, y :: ys => deq x y && deqs xs ys
  | _, _ => false
end
/-- plain data, at most n deep -/
def okDat : Nat → D → Bool
  | _, .non => true
  | _, .bl _ => true
  | _, .int _ => true
  | _, .str s => s.cps.all (· < 0x110000)
  | n + 1, .lst xs => xs.all (okDat n)
  | n + 1, .tup xs => xs.all (okDat n)
  | _, _ => false
def sca : D → D → Bool
  | .non, .non => true | .non, .int _ => true | .int _, .non => true | .non, .bl _ => true | .bl _, .non => true | .non, .str _ => true | .str _, .non => true
  | .int _, .int _ => true | .bl _, .bl _ => true | .str _, .str _ => true
  | .int _, .str _ => true | .str _, .int _ => true | .bl _, .str _ => true | .str _, .bl _ => true
  | _, _ => false
def dEq (a b : D) : Option D := if sca a b || (okDat 60 a && okDat 60 b) then some (.bl (deq a b)) else none
def dNe (a b : D) : Option D := if sca a b || (okDat 60 a && okDat 60 b) then some (.bl (!deq a b)) else none
def flat : D → Bool
  | .non => true | .bl _ => true | .int _ => true | .str _ => true
  | _ => false
/-- among flat items; one sign in a text; a key in a dict -/
def isIn (x : D) : D → Option Bool
  | .lst ys => if flat x && ys.all flat then some (ys.any fun y => deq y x) else if okDat 60 x && okDat 60 (.lst ys) then some (ys.any fun y => deq y x) else none
  | .tup ys => if flat x && ys.all flat then some (ys.any fun y => deq y x) else none
  | .str z => match x with
    | .str c => if c.length = 1 then some (decide (c.cps.getD 0 0 ∈ z.cps.toList)) else none
    | _ => none
  | _ => none
def dIn (x y : D) : Option D := (isIn x y).map .bl
def dNin (x y : D) : Option D := (isIn x y).map fun b => .bl (!b)
def dIsN (x y : D) : Option D := match y with
  | .non => match x with
    | .non => some (.bl true)
    | _ => some (.bl false)
  | _ => none
def dNotN (x y : D) : Option D := match y with
  | .non => match x with
    | .non => some (.bl false)
    | _ => some (.bl true)
  | _ => none
def at1 {α : Type} (xs : List α) (i : Int) : Option α := (ixN xs.length i).bind fun j => xs[j]?
def dIx : D → D → Option D
  | .lst xs, .int i => at1 xs i
  | .tup xs, .int i => at1 xs i
  | .scr xs, .int i => (at1 xs i).map .int
  | .str z, .int i => if z.length ≤ seqMax then (at1 z.cps.toList i).map fun c => .str ⟨#[c]⟩ else none
  | _, _ => none
def slI (n d : Nat) : Option Int → Nat
  | none => d
  | some v => if v < 0 then (v + (n : Int)).toNat else min v.toNat n
def cut {α : Type} (xs : List α) (lo hi : Option Int) : List α := (xs.drop (slI xs.length 0 lo)).take (slI xs.length xs.length hi - slI xs.length 0 lo)
/-- a slice's list -/
def dCutL : D → Option Int → Option Int → Option D
  | .lst xs, lo, hi => some (.lst (cut xs lo hi))
  | .scr xs, lo, hi => some (.lst ((cut xs lo hi).map .int))
  | _, _, _ => none
def dCut : D → Option Int → Option Int → Option D
  | .tup xs, lo, hi => some (.tup (cut xs lo hi))
  | .str z, lo, hi => if z.length ≤ seqMax then some (.str ⟨(cut z.cps.toList lo hi).toArray⟩) else none
  | .lst xs, lo, hi => some (.lst (cut xs lo hi))
  | .scr xs, lo, hi => some (.lst ((cut xs lo hi).map .int))
  | _, _, _ => none
def oPart : Option QV → Env → R (Option Int × Env)
  | none, Γ => .ok (none, Γ)
  | some q, Γ => (q Γ).bind fun (p, Γ') => match rd Γ' p with
    | some (.int i) => .ok (some i, Γ')
    | _ => .bad
def eSl (f : D → Option Int → Option Int → Option D) (a : QV) (lo hi : Option QV) : EV := fun Γ => (a Γ).bind fun (p, Γ1) => (oPart lo Γ1).bind fun (l, Γ2) => (oPart hi Γ2).bind fun (h, Γ3) =>
  match rd Γ3 p with
  | some d => (R.of (f d l h)).bind fun z => .ok (z, Γ3)
  | none => .bad
def dRev : D → Option D
  | .lst xs => some (.lst xs.reverse)
  | _ => none
def dGcd : List D → Option D
  | [.int a, .int b] => some (.int ((Nat.gcd a.natAbs b.natAbs : Nat) : Int))
  | _ => none
def o1 (f : D → Option D) : List D → Option D
  | [d] => f d
  | _ => none
def dStrI : D → Option D
  | .int i => if i.natAbs < 2 ^ 1900 then some (.str (toString i)) else none
  | _ => none
inductive Ty where
  | tInt | tBool | tStr | tList | tTuple
def dIsT : Ty → D → Option D
  | .tInt, .int _ => some (.bl true)
  | .tInt, .bl _ => some (.bl true)
  | .tBool, .bl _ => some (.bl true)
  | .tStr, .str _ => some (.bl true)
  | .tList, .lst _ => some (.bl true)
  | .tTuple, .tup _ => some (.bl true)
  | _, .ins _ _ => none
  | _, .scr _ => none
  | _, .dct _ => none
  | _, _ => some (.bl false)
/-- isinstance of an own class: tb says it of the classes -/
def dIsC (tb : Nat → Option Bool) : D → Option D
  | .ins c _ => (tb c).map .bl
  | .scr _ => none
  | .dct _ => none
  | _ => some (.bl false)
/-- tuple(x), list(x) -/
def dTup : D → Option D
  | .lst xs => some (.tup xs)
  | .tup xs => some (.tup xs)
  | _ => none
def dLst : D → Option D
  | .lst xs => some (.lst xs)
  | .tup xs => some (.lst xs)
  | _ => none
def intsL : List D → Option (List Int)
  | [] => some []
  | .int i :: r => (intsL r).map (i :: ·)
  | _ :: _ => none
def boolsL : List D → Option (List Bool)
  | [] => some []
  | .bl i :: r => (boolsL r).map (i :: ·)
  | _ :: _ => none
def dSum : D → Option D
  | .lst xs => (intsL xs).map fun ns => .int ns.sum
  | _ => none
def dAll : D → Option D
  | .lst xs => (boolsL xs).map fun ns => .bl (ns.all id)
  | _ => none
def dAny : D → Option D
  | .lst xs => (boolsL xs).map fun ns => .bl (ns.any id)
  | _ => none
def dMax2 : List D → Option D
  | [.int i, .int j] => some (.int (if j > i then j else i))
  | _ => none
def dMin2 : List D → Option D
  | [.int i, .int j] => some (.int (if j < i then j else i))
  | _ => none
/-- a part of an f-string -/
def dTxt : D → Option D
  | .str s => if s.length ≤ seqMax then some (.str s) else none
  | .int i => if i.natAbs < 2 ^ 1900 then some (.str (toString i)) else none
  | _ => none
def eJs : List EV → Str → EV
  | [], acc, Γ => .ok (.str acc, Γ)
  | e :: es, acc, Γ => (e Γ).bind fun (d, Γ') => match d with
    | .str y => if (acc ++ y).length ≤ seqMax then eJs es (acc ++ y) Γ' else .bad
    | _ => .bad
end Ed

set_option autoImplicit true
set_option linter.all false
/-! comprehensions, over data -/
namespace Ed
open PySem
def stb : Sl → Bool
  | .emp => true
  | .val _ => true
  | .bor _ => true
  | .exn _ => true
  | _ => false
def wipeG (Γ : Env) : List Nat → Env
  | [] => Γ
  | v :: vs => put (wipeG Γ vs) v .emp
def restG (Γ0 Γ : Env) : List Nat → Env
  | [] => Γ
  | v :: vs => put (restG Γ0 Γ vs) v (get Γ0 v)
/-- the turns of a comprehension; the items there are so far -/
def lcL (g : GV) (t : TV) (e : EV) (vs : List Nat) : List D → Env → Nat → Option (List D × Env)
  | [], Γ, _ => some ([], Γ)
  | d :: ds, Γ, n => match g d Γ with
    | none => none
    | some Γ1 => match t Γ1 with
      | .ok (true, Γ2) => (match e Γ2 with
        | .ok (x, Γ3) => if n < seqMax then (match lcL g t e vs ds (wipeG Γ3 vs) (n + 1) with
          | some (l, Γ4) => some (x :: l, Γ4)
          | none => none) else none
        | _ => none)
      | .ok (false, Γ2) => lcL g t e vs ds (wipeG Γ2 vs) n
      | _ => none
def tYs : TV := fun Γ => .ok (true, Γ)
/-- [e for g in it if t] -/
def eLc (vs : List Nat) (it : LV) (g : GV) (t : TV) (e : EV) : EV := fun Γ => (it Γ).bind fun (ds, Γ1) => if vs.all (fun i => stb (get Γ1 i)) = true then (match lcL g t e vs ds (wipeG Γ1 vs) 0 with
  | some (l, Γ2) => .ok (.lst l, restG Γ1 Γ2 vs)
  | none => .bad) else .bad
def isT2 : Ty → D → Option Bool
  | .tInt, .int _ => some true
  | .tInt, .bl _ => some true
  | .tBool, .bl _ => some true
  | .tStr, .str _ => some true
  | .tList, .lst _ => some true
  | .tTuple, .tup _ => some true
  | _, .ins _ _ => none
  | _, .scr _ => none
  | _, .dct _ => none
  | _, _ => some false
/-- what a table says of the own classes -/
def tbl (l : List (Nat × Bool)) (c : Nat) : Option Bool := l.lookup c
def isB2 (tb : Nat → Option Bool) : D → Option Bool
  | .ins c _ => tb c
  | .scr _ => none
  | .dct _ => none
  | _ => some false
def eIsED (i : Nat) (is : Nat → Option Bool) : EV := fun Γ => match get Γ i with
  | .exn x => (match is x.c with
    | some b => .ok (.bl b, Γ)
    | none => .bad)
  | _ => .bad
/-- o.m(..), o of the kind kd -/
def eBMT (kd : D → Bool) (f : D → List D → Option D) (a : QV) (l : AV) : EV := fun Γ => (a Γ).bind fun (p, Γ1) => match rd Γ1 p with
  | some x0 => if kd x0 = true then (l Γ1).bind fun (ps, Γ2) => (match rd Γ2 p, rds Γ2 ps with
    | some x, some ys => (R.of (f x ys)).bind fun d => .ok (d, Γ2)
    | _, _ => .bad) else .bad
  | none => .bad
/-- x[y] by an own __getitem__ -/
def eOwnX (c : Nat) (F : FV) (a b : EV) : EV := fun Γ => (a Γ).bind fun (x, Γ1) => (b Γ1).bind fun (y, Γ2) => match x with
  | .ins c1 _ => if c1 = c then (callF F [false, false] [.pd x, .pd y] Γ2).bind fun (o, Γ3) => .ok (o.d, Γ3) else .bad
  | _ => .bad
/-- x is y, of bools -/
def dIsB (x y : D) : Option D := match x, y with
  | .bl a, .bl b => some (.bl (decide (a = b)))
  | _, _ => none
def dNotB (x y : D) : Option D := match x, y with
  | .bl a, .bl b => some (.bl (!decide (a = b)))
  | _, _ => none
/-- where y stands first -/
def idxD (y : D) : List D → Option Nat
  | [] => none
  | x :: xs => if deq x y = true then some 0 else (idxD y xs).map (· + 1)
/-- xs.index(y), s.index(t) -/
def dLIdx (x : D) (ys : List D) : Option D := match x, ys with
  | .lst xs, [y] => if flat y && xs.all flat then (idxD y xs).map fun n => .int n else none
  | _, _ => none
def dSIdx (x : D) (ys : List D) : Option D := match x, ys with
  | .str a, [.str b] => (Builtin.Str.occurrences a b 0 a.length 1).head?.map fun n => .int n
  | _, _ => none
def sBad : SV := fun _ => .bad
def eAndV (a b : EV) : EV := fun Γ => (a Γ).bind fun (x, Γ1) => match x with
  | .bl true => b Γ1
  | .bl false => .ok (.bl false, Γ1)
  | _ => .bad
def eOrV (a b : EV) : EV := fun Γ => (a Γ).bind fun (x, Γ1) => match x with
  | .bl true => .ok (.bl true, Γ1)
  | .bl false => b Γ1
  | _ => .bad
def eNotV (a : EV) : EV := fun Γ => (a Γ).bind fun (x, Γ1) => match x with
  | .bl k => .ok (.bl (!k), Γ1)
  | _ => .bad
/-- a op b op' c -/
def eChain (f f' : D → D → Option D) (a b c : QV) : EV := fun Γ => (a Γ).bind fun (p, Γ1) => (b Γ1).bind fun (q, Γ2) => match rd Γ2 p, rd Γ2 q with
  | some x, some y => (match f x y with
    | some (.bl true) => (c Γ2).bind fun (r, Γ3) => (match rd Γ3 q, rd Γ3 r with
      | some y', some z => (R.of (f' y' z)).bind fun d => .ok (d, Γ3)
      | _, _ => .bad)
    | some (.bl false) => .ok (.bl false, Γ2)
    | _ => .bad)
  | _, _ => .bad
def maxL : List Int → Option Int
  | [] => none
  | n :: ns => some (ns.foldl max n)
def minL : List Int → Option Int
  | [] => none
  | n :: ns => some (ns.foldl min n)
def dMaxL : D → Option D
  | .lst xs => (intsL xs).bind fun ns => (maxL ns).map .int
  | _ => none
def dMinL : D → Option D
  | .lst xs => (intsL xs).bind fun ns => (minL ns).map .int
  | _ => none
/-- o.m(..) of a text or a list -/
def eBM (f : D → List D → Option D) (a : QV) (l : AV) : EV := fun Γ => (a Γ).bind fun (p, Γ1) => (l Γ1).bind fun (ps, Γ2) => match rd Γ2 p, rds Γ2 ps with
  | some x, some ys => if (rd Γ1 p).isSome then (R.of (f x ys)).bind fun d => .ok (d, Γ2) else .bad
  | _, _ => .bad
end Ed

set_option autoImplicit true
set_option linter.all false
/-! more operations over data -/
namespace Ed
open PySem
def dBAnd (x y : D) : Option D := match x, y with
  | .int a, .int b => some (.int (Builtin.bitAnd a b))
  | _, _ => none
def dBOr (x y : D) : Option D := match x, y with
  | .int a, .int b => some (.int (Builtin.bitOr a b))
  | _, _ => none
def strRep (x : Str) (n : Nat) : Str := ⟨(List.replicate n x.cps).foldl (· ++ ·) #[]⟩
def dSumT : D → Option D
  | .tup xs => (intsL xs).map fun ns => .int ns.sum
  | _ => none
/-- the signs of a text -/
def sgn (s : Str) : List D := s.cps.toList.map fun c => D.str ⟨#[c]⟩
def iSgn (q : QV) : LV := fun Γ => (q Γ).bind fun (p, Γ') => match rd Γ' p with
  | some (.str s) => .ok (sgn s, Γ')
  | _ => .bad
/-- a text n times -/
def dRepS (x y : D) : Option D := match x, y with
  | .str a, .int n => if -1000 ≤ n ∧ n ≤ 1000 ∧ a.length ≤ 1000 then some (.str (strRep a n.toNat)) else none
  | _, _ => none
end Ed

set_option autoImplicit true
set_option Elab.async false
set_option linter.all false
set_option maxRecDepth 100000
/-! what data stands at a value; the state of a def over the data -/
namespace Ed
open PySem L2

/-- where the classes stand, what the fields are called -/
structure Cn where
  ca : Nat → Addr
  fa : Nat → Str
  /-- the caught error of a suite: where it stands, its class, its dict -/
  ex : Option (Addr × Value × Option Addr) := none
section
variable (K : PySem.W.Frag) (cn : Cn)
inductive Rep (F : Hp) : V → D → Prop
  | non : Rep F .non .non
  | bl (b : Bool) : Rep F (.bl b) (.bl b)
  | int (i : Int) : Rep F (.int i) (.int i)
  | str (s : Str) : Rep F (.str s) (.str s)
  | lst {a : Addr} {vs : List V} {ds : List D} (h : F a = some (.lst vs)) (hl : vs.length = ds.length) (r : ∀ (i : Nat) v d, vs[i]? = some v → ds[i]? = some d → Rep F v d) : Rep F (.ref a) (.lst ds)
  | tup {a : Addr} {vs : List V} {ds : List D} (h : SqT K F a vs) (hl : vs.length = ds.length) (r : ∀ (i : Nat) v d, vs[i]? = some v → ds[i]? = some d → Rep F v d) : Rep F (.ref a) (.tup ds)
  | dct {a : Addr} {kvs : List (L2.Key × V)} {kds : List (L2.Key × D)} (h : F a = some (.dK kvs)) (hk : kvs.map (·.1) = kds.map (fun p => id p.1)) (r : ∀ (i : Nat) v d, kvs[i]? = some v → kds[i]? = some d → Rep F v.2 d.2) : Rep F (.ref a) (.dct kds)
  | ins {a dx : Addr} {fvs : List (Str × V)} {fds : List (Nat × D)} {c : Nat} (h : F a = some (.ins (cn.ca c) dx fvs)) (hk : fvs.map (·.1) = fds.map (fun p => cn.fa p.1)) (r : ∀ (i : Nat) v d, fvs[i]? = some v → fds[i]? = some d → Rep F v.2 d.2) : Rep F (.ref a) (.ins c fds)
  | scr {a : Addr} {ns : List Int} (h : SqL K F a (ns.map V.int)) : Rep F (.ref a) (.scr ns)
def Reps (F : Hp) (vs : List V) (ds : List D) : Prop := vs.length = ds.length ∧ ∀ (i : Nat) v d, vs[i]? = some v → ds[i]? = some d → Rep K cn F v d
def RepP {κ κ' : Type} (g : κ' → κ) (F : Hp) (vs : List (κ × V)) (ds : List (κ' × D)) : Prop := vs.map (·.1) = ds.map (fun p => g p.1) ∧ ∀ (i : Nat) v d, vs[i]? = some v → ds[i]? = some d → Rep K cn F v.2 d.2
end

section
variable {K : PySem.W.Frag} {cn : Cn} {F F' H H' : Hp} {v w : V} {d : D} {vs ws : List V} {ds es : List D}
theorem same_seqT {a : Addr} {xs : List V} (e : L2.Same H H') (h : SqT K H a xs) : SqT K H' a xs := by
  rcases h with (h | ⟨o, h⟩) | h
  · exact .inl (.inl (e _ _ h))
  · exact .inl (.inr ⟨o, e _ _ h⟩)
  · exact .inr h
theorem Rep.mono (s : Same F F') (h : Rep K cn F v d) : Rep K cn F' v d := by
  induction h with
  | non => exact .non
  | bl b => exact .bl b
  | int i => exact .int i
  | str z => exact .str z
  | lst h hl _ ih => exact .lst (s _ _ h) hl ih
  | tup h hl _ ih => exact .tup (same_seqT s h) hl ih
  | dct h hk _ ih => exact .dct (s _ _ h) hk ih
  | ins h hk _ ih => exact .ins (s _ _ h) hk ih
  | scr h => exact .scr (s.seq h)
theorem Reps.mono (s : Same F F') (h : Reps K cn F vs ds) : Reps K cn F' vs ds := ⟨h.1, fun i v d a b => (h.2 i v d a b).mono s⟩
theorem RepP.mono {κ κ' : Type} {g : κ' → κ} {vs : List (κ × V)} {ds : List (κ' × D)} (s : Same F F') (h : RepP K cn g F vs ds) : RepP K cn g F' vs ds := ⟨h.1, fun i v d a b => (h.2 i v d a b).mono s⟩
theorem Reps.nil : Reps K cn F [] [] := ⟨rfl, fun i v d a _ => by simp at a⟩
theorem Reps.cons (h : Rep K cn F v d) (r : Reps K cn F vs ds) : Reps K cn F (v :: vs) (d :: ds) := ⟨by simp [r.1], fun i x y a b => by
  cases i with
  | zero => simp at a b; subst a b; exact h
  | succ i => exact r.2 i x y (by simpa using a) (by simpa using b)⟩
theorem Reps.uncons (r : Reps K cn F (v :: vs) (d :: ds)) : Rep K cn F v d ∧ Reps K cn F vs ds :=
  ⟨r.2 0 v d rfl rfl, by have := r.1; simpa using this, fun i x y a b => r.2 (i + 1) x y (by simpa using a) (by simpa using b)⟩
theorem Reps.inv : Reps K cn F vs (d :: ds) → ∃ v vs', vs = v :: vs' ∧ Rep K cn F v d ∧ Reps K cn F vs' ds := fun r => by
  cases vs with
  | nil => have := r.1; simp at this
  | cons v vs => exact ⟨v, vs, rfl, r.uncons⟩
theorem Reps.inv0 : Reps K cn F vs [] → vs = [] := fun r => List.length_eq_zero_iff.mp r.1
theorem Reps.app (r : Reps K cn F vs ds) (q : Reps K cn F ws es) : Reps K cn F (vs ++ ws) (ds ++ es) := ⟨by simp [r.1, q.1], fun i x y a b => by
  by_cases h : i < vs.length
  · rw [List.getElem?_append_left h] at a
    rw [List.getElem?_append_left (r.1 ▸ h)] at b
    exact r.2 i x y a b
  · rw [List.getElem?_append_right (by omega)] at a
    rw [List.getElem?_append_right (by have := r.1; omega), ← r.1] at b
    exact q.2 _ x y a b⟩
theorem Reps.get (r : Reps K cn F vs ds) {i : Nat} {d : D} (h : ds[i]? = some d) : ∃ v, vs[i]? = some v ∧ Rep K cn F v d := by
  obtain ⟨hi, _⟩ := List.getElem?_eq_some_iff.mp h
  have hv : i < vs.length := by rw [r.1]; exact hi
  exact ⟨vs[i], by simp [hv], r.2 i _ _ (by simp [hv]) h⟩
theorem Reps.getV (r : Reps K cn F vs ds) {i : Nat} {v : V} (h : vs[i]? = some v) : ∃ d, ds[i]? = some d ∧ Rep K cn F v d := by
  obtain ⟨hi, _⟩ := List.getElem?_eq_some_iff.mp h
  have hv : i < ds.length := by rw [← r.1]; exact hi
  exact ⟨ds[i], by simp [hv], r.2 i _ _ h (by simp [hv])⟩
theorem Reps.set (r : Reps K cn F vs ds) {i : Nat} (h : Rep K cn F v d) : Reps K cn F (vs.set i v) (ds.set i d) := ⟨by simp [r.1], fun j x y a b => by
  by_cases e : i = j
  · subst e
    by_cases hi : i < vs.length
    · rw [List.getElem?_set_self hi] at a
      rw [List.getElem?_set_self (r.1 ▸ hi)] at b
      cases a; cases b; exact h
    · rw [List.getElem?_eq_none (by simpa using hi)] at a; cases a
  · rw [List.getElem?_set_ne e] at a b
    exact r.2 j x y a b⟩
theorem Reps.take (r : Reps K cn F vs ds) (n : Nat) : Reps K cn F (vs.take n) (ds.take n) := ⟨by simp [r.1], fun j x y a b => by
  rw [List.getElem?_take] at a b
  split at a
  · rw [if_pos (by assumption)] at b; exact r.2 j x y a b
  · cases a⟩
theorem Reps.drop (r : Reps K cn F vs ds) (n : Nat) : Reps K cn F (vs.drop n) (ds.drop n) := ⟨by simp [r.1], fun j x y a b => by
  rw [List.getElem?_drop] at a b
  exact r.2 _ x y a b⟩
theorem Reps.rev (r : Reps K cn F vs ds) : Reps K cn F vs.reverse ds.reverse := ⟨by simp [r.1], fun j x y a b => by
  obtain ⟨hj, _⟩ := List.getElem?_eq_some_iff.mp a
  rw [List.length_reverse] at hj
  rw [List.getElem?_reverse hj] at a
  rw [List.getElem?_reverse (by rw [← r.1]; exact hj), ← r.1] at b
  exact r.2 _ x y a b⟩

/-- a value as it can be read now: a list may stand outside the frozen heap -/
def Shal (K : PySem.W.Frag) (cn : Cn) (F H : Hp) (v : V) : D → Prop
  | .lst ds => ∃ a vs, v = .ref a ∧ H a = some (.lst vs) ∧ Reps K cn F vs ds
  | .dct ds => ∃ a kvs, v = .ref a ∧ H a = some (.dK kvs) ∧ RepP K cn id F kvs ds
  | d => Rep K cn F v d
theorem Rep.shal (s : Same F H) (h : Rep K cn F v d) : Shal K cn F H v d := by
  cases h with
  | lst h hl r => exact ⟨_, _, rfl, s _ _ h, hl, r⟩
  | dct h hk r => exact ⟨_, _, rfl, s _ _ h, hk, r⟩
  | non => exact .non
  | bl b => exact .bl b
  | int i => exact .int i
  | str z => exact .str z
  | tup h hl r => exact .tup h hl r
  | ins h hk r => exact .ins h hk r
  | scr h => exact .scr h
theorem Shal.mono (s : Same F F') (s2 : Same H H') (h : Shal K cn F H v d) : Shal K cn F' H' v d := by
  cases d with
  | lst ds => obtain ⟨a, vs, e, h, r⟩ := h; exact ⟨a, vs, e, s2 _ _ h, r.mono s⟩
  | dct ds => obtain ⟨a, vs, e, h, r⟩ := h; exact ⟨a, vs, e, s2 _ _ h, r.mono s⟩
  | non => exact Rep.mono s h
  | bl b => exact Rep.mono s h
  | int i => exact Rep.mono s h
  | str z => exact Rep.mono s h
  | tup h1 => exact Rep.mono s h
  | ins c h1 => exact Rep.mono s h
  | scr h1 => exact Rep.mono s h
theorem Shal.int {i : Int} (h : Shal K cn F H v (.int i)) : v = .int i := by cases (show Rep K cn F v (.int i) from h); rfl
theorem Shal.bl {i : Bool} (h : Shal K cn F H v (.bl i)) : v = .bl i := by cases (show Rep K cn F v (.bl i) from h); rfl
theorem Shal.str {i : Str} (h : Shal K cn F H v (.str i)) : v = .str i := by cases (show Rep K cn F v (.str i) from h); rfl
theorem Shal.non (h : Shal K cn F H v .non) : v = .non := by cases (show Rep K cn F v .non from h); rfl
theorem Rep.tupE (s : Same F H) (h : Rep K cn F v (.tup ds)) : ∃ a vs, v = .ref a ∧ SqT K H a vs ∧ Reps K cn F vs ds := by
  cases h with
  | tup h1 hl r => exact ⟨_, _, rfl, same_seqT s h1, hl, r⟩
theorem Shal.tup (s : Same F H) (h : Shal K cn F H v (.tup ds)) : ∃ a vs, v = .ref a ∧ SqT K H a vs ∧ Reps K cn F vs ds := Rep.tupE s h

/-- from a point to a later one: nothing that stood is changed, what is frozen grows by new objects -/
structure Ext (F H F' H' : Hp) : Prop where
  f : Same F F'
  h : Same H H'
  fh : Same F' H'
  nw : ∀ b, F b = none → H b ≠ none → F' b = none
theorem Ext.refl (s : Same F H) : Ext F H F H := ⟨Same.refl _, Same.refl _, s, fun _ h _ => h⟩
theorem Ext.trans {F2 H2 : Hp} (a : Ext F H F' H') (b : Ext F' H' F2 H2) : Ext F H F2 H2 := ⟨a.f.trans b.f, a.h.trans b.h, b.fh, fun x h1 h2 => b.nw x (a.nw x h1 h2) (by
  cases e : H x with
  | none => exact absurd e h2
  | some o => rw [a.h x o e]; simp)⟩
theorem same_new {p : Addr} {o : HO} (h : H p = none) : Same H (upd H p o) := fun a u e => by
  rw [upd_ne (ne_of_none e h)]
  exact e
theorem same_upd {p : Addr} {o : HO} (s : Same F H) : Same (upd F p o) (upd H p o) := fun a u e => by
  by_cases ha : a = p
  · subst ha; rw [upd_same] at e ⊢; exact e
  · rw [upd_ne ha] at e ⊢; exact s _ _ e
theorem same_out {p : Addr} {o : HO} (s : Same F H) (h : F p = none) : Same F (upd H p o) := fun a u e => by
  rw [upd_ne (ne_of_none e h)]; exact s _ _ e
/-- a new object, frozen at once -/
theorem Ext.new {p : Addr} {o : HO} (s : Same F H) (h : H p = none) : Ext F H (upd F p o) (upd H p o) := by
  have hf : F p = none := s.free h
  refine ⟨same_new hf, same_new h, same_upd s, fun b h1 h2 => ?_⟩
  by_cases hb : b = p
  · subst hb; exact absurd h h2
  · rw [upd_ne hb]; exact h1
/-- a new object, not frozen -/
theorem Ext.new0 {p : Addr} {o : HO} (s : Same F H) (h : H p = none) : Ext F H F (upd H p o) := ⟨Same.refl _, same_new h, same_out s (s.free h), fun _ h1 _ => h1⟩
end

/-- what is fixed through a def: the heaps at its entry, its object in the making -/
structure Ct where
  /-- what is lent stands there -/
  B0 : Hp
  H0 : Hp
  F0 : Hp
  slf : Option Addr

section
variable (K : PySem.W.Frag) (cn : Cn) (C : Ct)
def RepX (F : Hp) (cls : Value) (od : Option Addr) (x : Xc) : Prop := cls = .ref (cn.ca x.c) ∧ ((x.fs = [] ∧ od = none) ∨ ∃ d fvs, od = some d ∧ F d = some (.xd fvs) ∧ x.fs ≠ [] ∧ ∀ f z, x.fs.lookup f = some z → ∃ v, fvs.lookup (cn.fa f) = some v ∧ Rep K cn F v z)
theorem RepX.mono {K : PySem.W.Frag} {cn : Cn} {F F' : Hp} {cls : Value} {od : Option Addr} {x : Xc} (s : Same F F') (h : RepX K cn F cls od x) : RepX K cn F' cls od x := by
  obtain ⟨h1, h2⟩ := h
  refine ⟨h1, ?_⟩
  rcases h2 with h2 | ⟨d, fvs, h3, h4, h6, h5⟩
  · exact .inl h2
  · exact .inr ⟨d, fvs, h3, s _ _ h4, h6, fun f z q => (h5 f z q).imp fun v w => ⟨w.1, w.2.mono s⟩⟩
def OwnR (F H : Hp) (a : Addr) : D → Prop
  | .lst ds => ∃ vs, H a = some (.lst vs) ∧ Reps K cn F vs ds
  | .dct ds => ∃ kvs, H a = some (.dK kvs) ∧ RepP K cn id F kvs ds
  | _ => False
def SlR (F H : Hp) (o : Option V) : Sl → Prop
  | .emp => True
  | .val d => ∃ v, o = some v ∧ Rep K cn F v d
  | .own d => ∃ a, o = some (.ref a) ∧ F a = none ∧ C.H0 a = none ∧ OwnR K cn F H a d
  | .bor d => ∃ v, o = some v ∧ Shal K cn F C.B0 v d
  | .slf c fs => ∃ a dx fvs, o = some (.ref a) ∧ C.slf = some a ∧ F a = none ∧ H a = some (.ins (cn.ca c) dx fvs) ∧ RepP K cn cn.fa F fvs fs
  | .exn x => ∃ a, o = some (.ref a) ∧ ∀ a' cls od, cn.ex = some (a', cls, od) → a = a' ∧ RepX K cn F cls od x
structure Bas (F H : Hp) : Prop where
  fh : Same F H
  f0 : Same C.F0 F
  h0 : ∀ b o, C.H0 b = some o → C.slf ≠ some b → H b = some o
  nw : ∀ b, C.F0 b = none → C.H0 b ≠ none → F b = none
  si : ∀ a, C.slf = some a → (∃ c dx fs, C.H0 a = some (.ins c dx fs)) ∧ ∃ o, H a = some o
  b0 : ∀ b o, C.B0 b = some o → C.H0 b = some o
structure RelS (Γ : Env) (σ : St) (F H : Hp) : Prop where
  bs : Bas C F H
  len : Γ.length = σ.length
  sl : ∀ (i : Nat) s, Γ[i]? = some s → SlR K cn C F H ((σ[i]?).join) s
  ow : ∀ (i j : Nat) d d' a, Γ[i]? = some (.own d) → Γ[j]? = some (.own d') → σ[i]? = some (some (V.ref a)) → σ[j]? = some (some (V.ref a)) → i = j
  s0 : ∀ (i : Nat) c fs, Γ[i]? = some (.slf c fs) → i = 0
end

section
variable {K : PySem.W.Frag} {cn : Cn} {C : Ct} {Γ Γ' : Env} {σ : St} {F F' H H' : Hp} {v : V} {d : D} {i : Nat}
theorem get_eq : ∀ (Γ : Env) (i : Nat), get Γ i = (Γ[i]?).getD .emp
  | [], _ => by simp [get]
  | s :: r, 0 => by simp [get]
  | s :: r, n + 1 => by simp [get, get_eq r n]
theorem put_eq : ∀ (Γ : Env) (i : Nat) (s : Sl), put Γ i s = Γ.set i s
  | [], _, _ => by simp [put]
  | s :: r, 0, _ => by simp [put]
  | s :: r, n + 1, _ => by simp [put, put_eq r n]
theorem get_some {s : Sl} (h : get Γ i = s) (n : s ≠ .emp) : Γ[i]? = some s := by
  rw [get_eq] at h
  cases e : Γ[i]? with
  | none => rw [e] at h; exact absurd h.symm n
  | some t => rw [e] at h; exact congrArg some h
theorem Ext.ne {a : Addr} {o : HO} (e : Ext F H F' H') (h1 : F a = none) (h2 : H a = some o) : F' a = none := e.nw a h1 (by rw [h2]; simp)
theorem OwnR.some {a : Addr} (h : OwnR K cn F H a d) : ∃ o, H a = some o := by
  cases d with
  | lst ds => obtain ⟨vs, h, _⟩ := h; exact ⟨_, h⟩
  | dct ds => obtain ⟨vs, h, _⟩ := h; exact ⟨_, h⟩
  | _ => exact h.elim
theorem OwnR.mono {a : Addr} (s : Same F F') (s2 : Same H H') (h : OwnR K cn F H a d) : OwnR K cn F' H' a d := by
  cases d with
  | lst ds => obtain ⟨vs, h, r⟩ := h; exact ⟨vs, s2 _ _ h, r.mono s⟩
  | dct ds => obtain ⟨vs, h, r⟩ := h; exact ⟨vs, s2 _ _ h, r.mono s⟩
  | _ => exact h.elim
theorem SlR.mono {o : Option V} {s : Sl} (e : Ext F H F' H') (h : SlR K cn C F H o s) : SlR K cn C F' H' o s := by
  cases s with
  | emp => trivial
  | val d => obtain ⟨v, a, r⟩ := h; exact ⟨v, a, r.mono e.f⟩
  | own d =>
    obtain ⟨a, e1, n, n0, r⟩ := h
    obtain ⟨o, ho⟩ := r.some
    exact ⟨a, e1, e.ne n ho, n0, r.mono e.f e.h⟩
  | bor d => obtain ⟨v, a, r⟩ := h; exact ⟨v, a, r.mono e.f (Same.refl _)⟩
  | slf c fs => obtain ⟨a, dx, fvs, e1, e2, n, h, r⟩ := h; exact ⟨a, dx, fvs, e1, e2, e.ne n h, e.h _ _ h, r.mono e.f⟩
  | exn x => obtain ⟨a1, e1, q1⟩ := h; exact ⟨a1, e1, fun a' cls od z => ⟨(q1 a' cls od z).1, (q1 a' cls od z).2.mono e.f⟩⟩
theorem Bas.ext (b : Bas C F H) (e : Ext F H F' H') : Bas C F' H' := by
  refine ⟨e.fh, b.f0.trans e.f, fun x o h1 h2 => e.h _ _ (b.h0 x o h1 h2), fun x h1 h2 => ?_, fun a h => ⟨(b.si a h).1, let ⟨o, q⟩ := (b.si a h).2; ⟨o, e.h _ _ q⟩⟩, b.b0⟩
  cases q : H x with
  | some o => exact e.ne (b.nw x h1 h2) q
  | none =>
    -- not tracked now though tracked at the entry: only the object in the making
    cases q0 : C.H0 x with
    | none => exact absurd q0 h2
    | some o =>
      by_cases hs : C.slf = some x
      · obtain ⟨o2, q2⟩ := (b.si x hs).2
        rw [q] at q2; cases q2
      · rw [b.h0 x o q0 hs] at q; cases q
theorem RelS.ext (r : RelS K cn C Γ σ F H) (e : Ext F H F' H') : RelS K cn C Γ σ F' H' := ⟨r.bs.ext e, r.len, fun i s h => (r.sl i s h).mono e, r.ow, r.s0⟩
theorem RelS.at (r : RelS K cn C Γ σ F H) {s : Sl} (h : get Γ i = s) (n : s ≠ .emp) : SlR K cn C F H ((σ[i]?).join) s := r.sl i s (get_some h n)
theorem join_some {o : Option (Option V)} (h : o.join = some v) : o = some (some v) := by
  cases o with
  | none => cases h
  | some x => exact congrArg some h
/-- what a name holds can be read -/
theorem RelS.read (r : RelS K cn C Γ σ F H) (h : look (get Γ i) = some d) : ∃ v, σ[i]? = some (some v) ∧ Shal K cn F H v d := by
  cases e : get Γ i with
  | val x =>
    rw [e] at h; cases h
    obtain ⟨v, q, p⟩ := r.at e (fun z => by cases z)
    exact ⟨v, join_some q, p.shal r.bs.fh⟩
  | own x =>
    rw [e] at h; cases h
    obtain ⟨a, q, n, n0, p⟩ := r.at e (fun z => by cases z)
    refine ⟨_, join_some q, ?_⟩
    cases d with
    | lst ds => obtain ⟨vs, h, p⟩ := p; exact ⟨a, vs, rfl, h, p⟩
    | dct ds => obtain ⟨vs, h, p⟩ := p; exact ⟨a, vs, rfl, h, p⟩
    | _ => exact p.elim
  | bor x =>
    rw [e] at h; cases h
    obtain ⟨v, q, p⟩ := r.at e (fun z => by cases z)
    refine ⟨v, join_some q, ?_⟩
    have ne : ∀ a, (∃ o, C.H0 a = some o ∧ ∀ c dx fs, o ≠ .ins c dx fs) → C.slf ≠ some a := fun a ⟨o, h1, h2⟩ z => by
      obtain ⟨c, dx, fs, q⟩ := (r.bs.si a z).1
      rw [h1] at q; cases q; exact h2 _ _ _ rfl
    cases d with
    | lst ds =>
      obtain ⟨a, vs, e, h, p⟩ := p
      have h := r.bs.b0 _ _ h
      exact ⟨a, vs, e, r.bs.h0 _ _ h (ne a ⟨_, h, fun _ _ _ z => by cases z⟩), p⟩
    | dct ds =>
      obtain ⟨a, vs, e, h, p⟩ := p
      have h := r.bs.b0 _ _ h
      exact ⟨a, vs, e, r.bs.h0 _ _ h (ne a ⟨_, h, fun _ _ _ z => by cases z⟩), p⟩
    | non => exact p
    | bl b => exact p
    | int i => exact p
    | str z => exact p
    | tup h1 => exact p
    | ins c h1 => exact p
    | scr h1 => exact p
  | emp => rw [e] at h; cases h
  | slf c fs => rw [e] at h; cases h
  | exn x => rw [e] at h; cases h
def PVR (K : PySem.W.Frag) (cn : Cn) (σ : St) (F : Hp) (v : V) : PV → Prop
  | .pn i => σ[i]? = some (some v)
  | .pd d => Rep K cn F v d
theorem PVR.mono {p : PV} (s : Same F F') (h : PVR K cn σ F v p) : PVR K cn σ F' v p := by
  cases p with
  | pn i => exact h
  | pd d => exact Rep.mono s h
theorem RelS.rd (r : RelS K cn C Γ σ F H) {p : PV} (h : rd Γ p = some d) (q : PVR K cn σ F v p) : Shal K cn F H v d := by
  cases p with
  | pd x => cases h; exact Rep.shal r.bs.fh q
  | pn i =>
    obtain ⟨w, e, s⟩ := r.read (i := i) h
    rw [show σ[i]? = some (some v) from q] at e
    cases e
    exact s
theorem s0_put {Γ : Env} {i : Nat} {s : Sl} (h : ∀ (i : Nat) c fs, Γ[i]? = some (.slf c fs) → i = 0) (n : i = 0 ∨ ∀ c fs, s ≠ .slf c fs) : ∀ (j : Nat) c fs, (put Γ i s)[j]? = some (.slf c fs) → j = 0 := fun j c fs q => by
  rw [put_eq] at q
  by_cases e : i = j
  · subst e
    rcases n with n | n
    · exact n
    · by_cases hi : i < Γ.length
      · rw [List.getElem?_set_self hi] at q; cases q; exact absurd rfl (n c fs)
      · rw [List.getElem?_eq_none (by simpa using hi)] at q; cases q
  · rw [List.getElem?_set_ne e] at q; exact h j c fs q
theorem getSet {Γ : Env} {i j : Nat} {s t : Sl} (h : (Γ.set i s)[j]? = some t) : (i = j ∧ t = s) ∨ (i ≠ j ∧ Γ[j]? = some t) := by
  by_cases e : i = j
  · subst e
    by_cases hi : i < Γ.length
    · rw [List.getElem?_set_self hi] at h; cases h; exact .inl ⟨rfl, rfl⟩
    · rw [List.getElem?_eq_none (by simpa using hi)] at h; cases h
  · rw [List.getElem?_set_ne e] at h; exact .inr ⟨e, h⟩
/-- an owned thing is made frozen -/
theorem RelS.frz (r : RelS K cn C Γ σ F H) {s : Sl} (h : frzS (get Γ i) = some (d, s)) : ∃ v F', σ[i]? = some (some v) ∧ Same F F' ∧ Rep K cn F' v d ∧ RelS K cn C (put Γ i s) σ F' H := by
  cases e : get Γ i with
  | val x =>
    rw [e] at h; cases h
    obtain ⟨v, q, p⟩ := r.at e (fun z => by cases z)
    refine ⟨v, F, join_some q, Same.refl _, p, ?_⟩
    have : put Γ i (.val d) = Γ := by
      rw [put_eq]
      apply List.ext_getElem?
      intro j
      by_cases z : i = j
      · subst z
        have q := get_some e (fun z => by cases z)
        obtain ⟨hi, _⟩ := List.getElem?_eq_some_iff.mp q
        rw [List.getElem?_set_self hi, q]
      · rw [List.getElem?_set_ne z]
    rw [this]; exact r
  | own x =>
    rw [e] at h; cases h
    have hx := get_some e (fun z => by cases z)
    obtain ⟨a, q, n, n0, p⟩ := r.at e (fun z => by cases z)
    have qσ := join_some q
    obtain ⟨o, ho, hr⟩ : ∃ o, H a = some o ∧ (∀ F', Same F F' → F' a = some o → Rep K cn F' (.ref a) d) := by
      cases d with
      | lst ds => obtain ⟨vs, h, p⟩ := p; exact ⟨_, h, fun F' s q => .lst q p.1 (p.mono s).2⟩
      | dct ds => obtain ⟨vs, h, p⟩ := p; exact ⟨_, h, fun F' s q => .dct q p.1 (p.mono s).2⟩
      | _ => exact p.elim
    have sf : Same F (upd F a o) := same_new n
    refine ⟨.ref a, upd F a o, qσ, sf, hr _ sf upd_same, ⟨⟨?_, r.bs.f0.trans sf, r.bs.h0, fun b h1 h2 => ?_, r.bs.si, r.bs.b0⟩, by rw [put_eq, List.length_set]; exact r.len, fun j t h => ?_, fun j k x y b h1 h2 h3 h4 => ?_, s0_put r.s0 (.inr fun _ _ z => by cases z)⟩⟩
    · intro b u hb
      by_cases z : b = a
      · subst z; rw [upd_same] at hb; cases hb; exact ho
      · rw [upd_ne z] at hb; exact r.bs.fh _ _ hb
    · have z : b ≠ a := fun z => by subst z; exact h2 n0
      rw [upd_ne z]; exact r.bs.nw b h1 h2
    · rw [put_eq] at h
      rcases getSet h with ⟨rfl, rfl⟩ | ⟨z, h⟩
      · exact ⟨.ref a, q, hr _ sf upd_same⟩
      · have w := r.sl j t h
        cases t with
        | emp => trivial
        | val x => obtain ⟨v, a1, r1⟩ := w; exact ⟨v, a1, r1.mono sf⟩
        | own x =>
          obtain ⟨b, e1, m, m0, r1⟩ := w
          have hb : b ≠ a := fun e2 => z (r.ow i j _ _ a hx h qσ (by rw [← e2]; exact join_some e1))
          exact ⟨b, e1, by rw [upd_ne hb]; exact m, m0, r1.mono sf (Same.refl _)⟩
        | bor x => obtain ⟨v, a1, r1⟩ := w; exact ⟨v, a1, r1.mono sf (Same.refl _)⟩
        | slf c fs =>
          obtain ⟨b, dx, fvs, e1, e2, m, h5, r1⟩ := w
          have hb : b ≠ a := fun e3 => by
            subst e3
            obtain ⟨c', dx', fs', q0⟩ := (r.bs.si _ e2).1
            rw [n0] at q0; cases q0
          exact ⟨b, dx, fvs, e1, e2, by rw [upd_ne hb]; exact m, h5, r1.mono sf⟩
        | exn x => obtain ⟨a1, e1, q1⟩ := w; exact ⟨a1, e1, fun a' cls od z => ⟨(q1 a' cls od z).1, (q1 a' cls od z).2.mono sf⟩⟩
    · rw [put_eq] at h1 h2
      rcases getSet h1 with ⟨_, z⟩ | ⟨_, g1⟩
      · cases z
      · rcases getSet h2 with ⟨_, z⟩ | ⟨_, g2⟩
        · cases z
        · exact r.ow j k x y b g1 g2 h3 h4
  | emp => rw [e] at h; cases h
  | bor x => rw [e] at h; cases h
  | slf c fs => rw [e] at h; cases h
  | exn x => rw [e] at h; cases h
end
end Ed

set_option autoImplicit true
set_option Elab.async false
set_option linter.all false
set_option maxRecDepth 100000
/-! the judgements: a piece of syntax runs as its data function says -/
namespace Ed
open PySem L2

def Post {α : Type} (r : R α) (P : α → Prop) (W : Xc → Env → Prop) : Prop := match r with
  | .ok a => P a
  | .exc x Γ => W x Γ
  | .bad => False
theorem Post.bind {α β : Type} {r : R α} {f : α → R β} {P : β → Prop} {W : Xc → Env → Prop} (h : Post (r.bind f) P W) : Post r (fun a => Post (f a) P W) W := by
  cases r with
  | ok a => exact h
  | exc x Γ => exact h
  | bad => exact h
theorem Post.mono {α : Type} {r : R α} {P P' : α → Prop} {W W' : Xc → Env → Prop} (h : Post r P W) (k : ∀ a, P a → P' a) (k2 : ∀ x Γ, W x Γ → W' x Γ) : Post r P' W' := by
  cases r with
  | ok a => exact k a h
  | exc x Γ => exact k2 x Γ h
  | bad => exact h
theorem Post.of {α : Type} {o : Option α} {P : α → Prop} {W : Xc → Env → Prop} (h : Post (R.of o) P W) : ∃ a, o = some a ∧ P a := by
  cases o with
  | none => exact h.elim
  | some a => exact ⟨a, rfl, h⟩

section
variable (K : PySem.W.Frag) (cn : Cn)
abbrev XW (C : Ct) (F : Hp) (W : WX) : Xc → Env → Prop := fun x Γ' => ∀ cls od σ' F' H', Same F F' → RelS K cn C Γ' σ' F' H' → RepX K cn F' cls od x → W cls od σ' H'
def PVRs (σ : St) (F : Hp) : List V → List PV → Prop
  | [], [] => True
  | v :: vs, p :: ps => PVR K cn σ F v p ∧ PVRs σ F vs ps
  | _, _ => False
/-- a new thing, owned by none -/
def NewR (C : Ct) (Γ : Env) (σ : St) (F H : Hp) (v : V) (d : D) : Prop := ∃ a, v = .ref a ∧ F a = none ∧ C.H0 a = none ∧ OwnR K cn F H a d ∧ ∀ (i : Nat) d', Γ[i]? = some (.own d') → σ[i]? ≠ some (some (V.ref a))
end
section
variable {K : PySem.W.Frag} {cn : Cn} {C : Ct} {Γ Γ' : Env} {σ : St} {F F' H H' : Hp} {v : V} {d : D} {i : Nat}
theorem PVRs.mono (s : Same F F') : ∀ {vs : List V} {ps : List PV}, PVRs K cn σ F vs ps → PVRs K cn σ F' vs ps
  | [], [], _ => True.intro
  | _ :: _, _ :: _, h => ⟨h.1.mono s, PVRs.mono s h.2⟩
  | [], _ :: _, h => h.elim
  | _ :: _, [], h => h.elim
theorem NewR.frz (r : RelS K cn C Γ σ F H) (h : NewR K cn C Γ σ F H v d) : ∃ F', Same F F' ∧ Rep K cn F' v d ∧ RelS K cn C Γ σ F' H := by
  obtain ⟨a, rfl, n, n0, p, nown⟩ := h
  obtain ⟨o, ho, hr⟩ : ∃ o, H a = some o ∧ (∀ F', Same F F' → F' a = some o → Rep K cn F' (.ref a) d) := by
    cases d with
    | lst ds => obtain ⟨vs, h, p⟩ := p; exact ⟨_, h, fun F' s q => .lst q p.1 (p.mono s).2⟩
    | dct ds => obtain ⟨vs, h, p⟩ := p; exact ⟨_, h, fun F' s q => .dct q p.1 (p.mono s).2⟩
    | _ => exact p.elim
  have sf : Same F (upd F a o) := same_new n
  refine ⟨upd F a o, sf, hr _ sf upd_same, ⟨⟨?_, r.bs.f0.trans sf, r.bs.h0, fun b h1 h2 => ?_, r.bs.si, r.bs.b0⟩, r.len, fun j t h => ?_, r.ow, r.s0⟩⟩
  · intro b u hb
    by_cases z : b = a
    · subst z; rw [upd_same] at hb; cases hb; exact ho
    · rw [upd_ne z] at hb; exact r.bs.fh _ _ hb
  · have z : b ≠ a := fun z => by subst z; exact h2 n0
    rw [upd_ne z]; exact r.bs.nw b h1 h2
  · have w := r.sl j t h
    cases t with
    | emp => trivial
    | val x => obtain ⟨v, a1, r1⟩ := w; exact ⟨v, a1, r1.mono sf⟩
    | own x =>
      obtain ⟨b, e1, m, m0, r1⟩ := w
      have hb : b ≠ a := fun e2 => nown j x h (by rw [← e2]; exact join_some e1)
      exact ⟨b, e1, by rw [upd_ne hb]; exact m, m0, r1.mono sf (Same.refl _)⟩
    | bor x => obtain ⟨v, a1, r1⟩ := w; exact ⟨v, a1, r1.mono sf (Same.refl _)⟩
    | slf c fs =>
      obtain ⟨b, dx, fvs, e1, e2, m, h5, r1⟩ := w
      have hb : b ≠ a := fun e3 => by
        subst e3
        obtain ⟨c', dx', fs', q0⟩ := (r.bs.si _ e2).1
        rw [n0] at q0; cases q0
      exact ⟨b, dx, fvs, e1, e2, by rw [upd_ne hb]; exact m, h5, r1.mono sf⟩
    | exn x => obtain ⟨a1, e1, q1⟩ := w; exact ⟨a1, e1, fun a' cls od z => ⟨(q1 a' cls od z).1, (q1 a' cls od z).2.mono sf⟩⟩
/-- an owned address is tracked -/
theorem RelS.ownH (r : RelS K cn C Γ σ F H) {a : Addr} (h : Γ[i]? = some (.own d)) (e : σ[i]? = some (some (V.ref a))) : ∃ o, H a = some o := by
  obtain ⟨b, e1, m, m0, r1⟩ := r.sl i _ h
  rw [join_some e1] at e
  cases e
  exact r1.some
/-- a newly laid list -/
theorem NewR.laid (r : RelS K cn C Γ σ F H) {vs : List V} {ds : List D} (q : Reps K cn F vs ds) {p : Addr} (hp : H p = none) :
    RelS K cn C Γ σ F (upd H p (.lst vs)) ∧ NewR K cn C Γ σ F (upd H p (.lst vs)) (.ref p) (.lst ds) := by
  have e := Ext.new0 (o := HO.lst vs) r.bs.fh hp
  refine ⟨r.ext e, p, rfl, r.bs.fh.free hp, ?_, ⟨vs, upd_same, q⟩, fun i d' h z => ?_⟩
  · cases q0 : C.H0 p with
    | none => rfl
    | some o =>
      by_cases hs : C.slf = some p
      · obtain ⟨o2, q2⟩ := (r.bs.si p hs).2
        rw [hp] at q2; cases q2
      · rw [r.bs.h0 p o q0 hs] at hp; cases hp
  · obtain ⟨o, ho⟩ := r.ownH h z
    rw [hp] at ho; cases ho
theorem RelS.setV (r : RelS K cn C Γ σ F H) (h : Rep K cn F v d) : RelS K cn C (put Γ i (.val d)) (σ.set i (some v)) F H := by
  refine ⟨r.bs, by rw [put_eq, List.length_set, List.length_set]; exact r.len, fun j t g => ?_, fun j k x y b h1 h2 h3 h4 => ?_, s0_put r.s0 (.inr fun _ _ z => by cases z)⟩
  · rw [put_eq] at g
    rcases getSet g with ⟨rfl, rfl⟩ | ⟨z, g⟩
    · have hi : i < σ.length := by
        obtain ⟨hi, _⟩ := List.getElem?_eq_some_iff.mp g
        rw [List.length_set, r.len] at hi; exact hi
      rw [List.getElem?_set_self hi]
      exact ⟨v, rfl, h⟩
    · rw [List.getElem?_set_ne z]; exact r.sl j t g
  · rw [put_eq] at h1 h2
    rcases getSet h1 with ⟨_, z⟩ | ⟨z1, g1⟩
    · cases z
    · rcases getSet h2 with ⟨_, z⟩ | ⟨z2, g2⟩
      · cases z
      · rw [List.getElem?_set_ne z1] at h3
        rw [List.getElem?_set_ne z2] at h4
        exact r.ow j k x y b g1 g2 h3 h4
theorem RelS.setX (r : RelS K cn C Γ σ F H) {x : Xc} {a : Addr} (hx : ∀ a' cls od, cn.ex = some (a', cls, od) → a = a' ∧ RepX K cn F cls od x) : RelS K cn C (put Γ i (.exn x)) (σ.set i (some (V.ref a))) F H := by
  refine ⟨r.bs, by rw [put_eq, List.length_set, List.length_set]; exact r.len, fun j t g => ?_, fun j k x y b h1 h2 h3 h4 => ?_, s0_put r.s0 (.inr fun _ _ z => by cases z)⟩
  · rw [put_eq] at g
    rcases getSet g with ⟨rfl, rfl⟩ | ⟨z, g⟩
    · have hi : i < σ.length := by
        obtain ⟨hi, _⟩ := List.getElem?_eq_some_iff.mp g
        rw [List.length_set, r.len] at hi; exact hi
      rw [List.getElem?_set_self hi]
      exact ⟨a, rfl, hx⟩
    · rw [List.getElem?_set_ne z]; exact r.sl j t g
  · rw [put_eq] at h1 h2
    rcases getSet h1 with ⟨_, z⟩ | ⟨z1, g1⟩
    · cases z
    · rcases getSet h2 with ⟨_, z⟩ | ⟨z2, g2⟩
      · cases z
      · rw [List.getElem?_set_ne z1] at h3
        rw [List.getElem?_set_ne z2] at h4
        exact r.ow j k x y b g1 g2 h3 h4
theorem RelS.setE (r : RelS K cn C Γ σ F H) {o : Option V} : RelS K cn C (put Γ i .emp) (σ.set i o) F H := by
  refine ⟨r.bs, by rw [put_eq, List.length_set, List.length_set]; exact r.len, fun j t g => ?_, fun j k x y b h1 h2 h3 h4 => ?_, s0_put r.s0 (.inr fun _ _ z => by cases z)⟩
  · rw [put_eq] at g
    rcases getSet g with ⟨rfl, rfl⟩ | ⟨z, g⟩
    · trivial
    · rw [List.getElem?_set_ne z]; exact r.sl j t g
  · rw [put_eq] at h1 h2
    rcases getSet h1 with ⟨_, z⟩ | ⟨z1, g1⟩
    · cases z
    · rcases getSet h2 with ⟨_, z⟩ | ⟨z2, g2⟩
      · cases z
      · rw [List.getElem?_set_ne z1] at h3
        rw [List.getElem?_set_ne z2] at h4
        exact r.ow j k x y b g1 g2 h3 h4
theorem RelS.setO (r : RelS K cn C Γ σ F H) (h : NewR K cn C Γ σ F H v d) : RelS K cn C (put Γ i (.own d)) (σ.set i (some v)) F H := by
  obtain ⟨a, rfl, n, n0, p, nown⟩ := h
  refine ⟨r.bs, by rw [put_eq, List.length_set, List.length_set]; exact r.len, fun j t g => ?_, fun j k x y b h1 h2 h3 h4 => ?_, s0_put r.s0 (.inr fun _ _ z => by cases z)⟩
  · rw [put_eq] at g
    rcases getSet g with ⟨rfl, rfl⟩ | ⟨z, g⟩
    · have hi : i < σ.length := by
        obtain ⟨hi, _⟩ := List.getElem?_eq_some_iff.mp g
        rw [List.length_set, r.len] at hi; exact hi
      rw [List.getElem?_set_self hi]
      exact ⟨a, rfl, n, n0, p⟩
    · rw [List.getElem?_set_ne z]; exact r.sl j t g
  · rw [put_eq] at h1 h2
    have hs : ∀ {j : Nat} {x : D} {b : Addr}, i ≠ j → (σ.set i (some (V.ref a)))[j]? = some (some (V.ref b)) → Γ[j]? = some (.own x) → b ≠ a := fun {j x b} z h g e => by
      rw [List.getElem?_set_ne z, e] at h
      exact nown j x g h
    have self : ∀ {b : Addr}, (Γ.set i (.own d))[i]? = some (.own d) → (σ.set i (some (V.ref a)))[i]? = some (some (V.ref b)) → b = a := fun {b} g h => by
      have hi : i < σ.length := by
        obtain ⟨hi, _⟩ := List.getElem?_eq_some_iff.mp g
        rw [List.length_set, r.len] at hi; exact hi
      rw [List.getElem?_set_self hi] at h
      cases h; rfl
    rcases getSet h1 with ⟨rfl, z⟩ | ⟨z1, g1⟩
    · rcases getSet h2 with ⟨e, _⟩ | ⟨z2, g2⟩
      · exact e
      · cases z
        exact absurd (self h1 h3) (hs z2 h4 g2)
    · rcases getSet h2 with ⟨rfl, z⟩ | ⟨z2, g2⟩
      · cases z
        exact absurd (self h2 h4) (hs z1 h3 g1)
      · rw [List.getElem?_set_ne z1] at h3
        rw [List.getElem?_set_ne z2] at h4
        exact r.ow j k x y b g1 g2 h3 h4
end

theorem XW.up {K : PySem.W.Frag} {cn : Cn} {C : Ct} {F F' : Hp} {W : WX} {x : Xc} {Γ : Env} (s : Same F F') (h : XW K cn C F W x Γ) : XW K cn C F' W x Γ := fun cls od σ' F2 H' s2 r q => h cls od σ' F2 H' (s.trans s2) r q
/-! ### judgements -/
section
variable (X : Cx) (cn : Cn) (W : WX)
abbrev EEnd (K : PySem.W.Frag) (cn : Cn) (C : Ct) (σ : St) (F : Hp) (Q : VK) : D × Env → Prop := fun p => ∀ v F' H', Same F F' → RelS K cn C p.2 σ F' H' → Rep K cn F' v p.1 → Q v H'
abbrev NEnd (K : PySem.W.Frag) (cn : Cn) (C : Ct) (σ : St) (F : Hp) (Q : VK) : D × Env → Prop := fun p => ∀ v F' H', Same F F' → RelS K cn C p.2 σ F' H' → NewR K cn C p.2 σ F' H' v p.1 → Q v H'
abbrev QEnd (K : PySem.W.Frag) (cn : Cn) (C : Ct) (σ : St) (F : Hp) (Q : VK) : PV × Env → Prop := fun p => ∀ v F' H', Same F F' → RelS K cn C p.2 σ F' H' → PVR K cn σ F' v p.1 → Q v H'
abbrev TEnd (K : PySem.W.Frag) (cn : Cn) (C : Ct) (σ : St) (F : Hp) (Q : Bool → Hp → Prop) : Bool × Env → Prop := fun p => ∀ F' H', Same F F' → RelS K cn C p.2 σ F' H' → Q p.1 H'
abbrev AEnd (K : PySem.W.Frag) (cn : Cn) (C : Ct) (σ : St) (F : Hp) (Q : List V → Hp → Prop) : List PV × Env → Prop := fun p => ∀ vs F' H', Same F F' → RelS K cn C p.2 σ F' H' → PVRs K cn σ F' vs p.1 → Q vs H'
abbrev LEnd (K : PySem.W.Frag) (cn : Cn) (C : Ct) (σ : St) (F : Hp) (Q : List V → Hp → Prop) : List D × Env → Prop := fun p => ∀ vs F' H', Same F F' → RelS K cn C p.2 σ F' H' → Reps K cn F' vs p.1 → Q vs H'
def DE (K : PySem.W.Frag) (t : TE) (ev : EV) : Prop := ∀ C Γ σ F H Q, RelS K cn C Γ σ F H → Post (ev Γ) (EEnd K cn C σ F Q) (XW K cn C F W) → t σ H Q
def DN (K : PySem.W.Frag) (t : TE) (ev : EV) : Prop := ∀ C Γ σ F H Q, RelS K cn C Γ σ F H → Post (ev Γ) (NEnd K cn C σ F Q) (XW K cn C F W) → t σ H Q
def DQ (K : PySem.W.Frag) (t : TE) (ev : QV) : Prop := ∀ C Γ σ F H Q, RelS K cn C Γ σ F H → Post (ev Γ) (QEnd K cn C σ F Q) (XW K cn C F W) → t σ H Q
def DT (K : PySem.W.Frag) (t : TT) (ev : TV) : Prop := ∀ C Γ σ F H Q, RelS K cn C Γ σ F H → Post (ev Γ) (TEnd K cn C σ F Q) (XW K cn C F W) → t σ H Q
def DA (K : PySem.W.Frag) (t : TA) (ev : AV) : Prop := ∀ C Γ σ F H Q, RelS K cn C Γ σ F H → Post (ev Γ) (AEnd K cn C σ F Q) (XW K cn C F W) → t σ H Q
def DL (K : PySem.W.Frag) (t : TA) (ev : LV) : Prop := ∀ C Γ σ F H Q, RelS K cn C Γ σ F H → Post (ev Γ) (LEnd K cn C σ F Q) (XW K cn C F W) → t σ H Q
def JE (e : Expr) (ev : EV) : Prop := ∃ t, PE X e t ∧ DE cn W X.K t ev
def JN (e : Expr) (ev : EV) : Prop := ∃ t, PE X e t ∧ DN cn W X.K t ev
def JQ (e : Expr) (ev : QV) : Prop := ∃ t, PE X e t ∧ DQ cn W X.K t ev
def JT (e : Expr) (ev : TV) : Prop := ∃ t, PT X e t ∧ DT cn W X.K t ev
def JW (e : Expr) (ev : TV) : Prop := ∃ t, PW X e t ∧ DT cn W X.K t ev
def JA (es : List Expr) (ev : AV) : Prop := ∃ t, PA X es t ∧ DA cn W X.K t ev
def JL (es : List Expr) (ev : LV) : Prop := ∃ t, PA X es t ∧ DL cn W X.K t ev
end

section
variable {X : Cx} {cn : Cn} {W : WX} {a b c e : Expr} {es : List Expr} {pos : Pos} {ea eb : EV} {qa qb qc : QV} {ta tb : TV} {av : AV} {lv : LV}

theorem je_n (i : Nat) {x : Str} {pos : Pos} (hN : X.N[i]? = some x := by rfl) (hv : Vis X.env.scope x := by first | exact Or.inl rfl | exact Or.inr (Or.inl rfl) | exact Or.inr (Or.inr rfl)) (hd : (x == ("__debug__" : Str)) = false := by decide)
    (hcd : (x == ("__classdict__" : Str)) = false := by decide) : JE X cn W (.Name x pos) (eN i) := ⟨_, pe_var hN hv hd hcd, fun C Γ σ F H Q r h => by
  unfold eN at h
  cases q : frzS (get Γ i) with
  | none => rw [q] at h; exact h.elim
  | some p =>
    obtain ⟨d, s⟩ := p
    rw [q] at h
    obtain ⟨v, F', e1, sf, rv, r'⟩ := r.frz q
    exact ⟨v, e1, h v F' H sf r' rv⟩⟩
theorem jq_n (i : Nat) {x : Str} {pos : Pos} (hN : X.N[i]? = some x := by rfl) (hv : Vis X.env.scope x := by first | exact Or.inl rfl | exact Or.inr (Or.inl rfl) | exact Or.inr (Or.inr rfl)) (hd : (x == ("__debug__" : Str)) = false := by decide)
    (hcd : (x == ("__classdict__" : Str)) = false := by decide) : JQ X cn W (.Name x pos) (pN i) := ⟨_, pe_var hN hv hd hcd, fun C Γ σ F H Q r h => by
  unfold pN at h
  cases q : look (get Γ i) with
  | none => rw [q] at h; exact h.elim
  | some d =>
    rw [q] at h
    obtain ⟨v, e1, _⟩ := r.read q
    exact ⟨v, e1, h v F H (Same.refl _) r e1⟩⟩
theorem jq_e (h : JE X cn W e ea) : JQ X cn W e (pE ea) := by
  obtain ⟨t, p, q⟩ := h
  refine ⟨t, p, fun C Γ σ F H Q r h => q C Γ σ F H Q r (h.bind.mono (fun a h v F' H' s r' hv => h v F' H' s r' hv) fun _ _ h => h)⟩
theorem je_c {v : V} {d : D} {t : TE} (p : PE X e (tC v)) (h : ∀ F, Rep X.K cn F v d) : JE X cn W e (eC d) := ⟨_, p, fun C Γ σ F H Q r k => k v F H (Same.refl _) r (h F)⟩
theorem je_int {i : Int} {j pos} : JE X cn W (.Constant (.int i) j pos) (eC (.int i)) := ⟨_, pe_int, fun C Γ σ F H Q r k => k _ F H (Same.refl _) r (.int i)⟩
theorem je_bl {i : Bool} {j pos} : JE X cn W (.Constant (.bool i) j pos) (eC (.bl i)) := ⟨_, pe_bl, fun C Γ σ F H Q r k => k _ F H (Same.refl _) r (.bl i)⟩
theorem je_non {j pos} : JE X cn W (.Constant .none j pos) (eC .non) := ⟨_, pe_non, fun C Γ σ F H Q r k => k _ F H (Same.refl _) r .non⟩
theorem je_str {i : Str} {j pos} : JE X cn W (.Constant (.str i) j pos) (eC (.str i)) := ⟨_, pe_str, fun C Γ σ F H Q r k => k _ F H (Same.refl _) r (.str i)⟩
theorem je_of_jn (h : JN X cn W e ea) : JE X cn W e ea := by
  obtain ⟨t, p, q⟩ := h
  refine ⟨t, p, fun C Γ σ F H Q r h => q C Γ σ F H Q r (h.mono (fun a h v F' H' s0 r' hv => ?_) fun _ _ h => h)⟩
  obtain ⟨F2, s, rv, r2⟩ := hv.frz r'
  exact h v F2 H' (s0.trans s) r2 rv

/-! operations by values -/
/-- what an operation's reading asks is had from the data -/
def R1D (K : PySem.W.Frag) (cn : Cn) (r : V → Hp → VK → Prop) (f : D → Option D) : Prop := ∀ F H x dx d Q, Same F H → Shal K cn F H x dx → f dx = some d → (∀ z F' H', Ext F H F' H' → Rep K cn F' z d → Q z H') → r x H Q
def R2D (K : PySem.W.Frag) (cn : Cn) (r : R2) (f : D → D → Option D) : Prop := ∀ F H x y dx dy d Q, Same F H → Shal K cn F H x dx → Shal K cn F H y dy → f dx dy = some d → (∀ z F' H', Ext F H F' H' → Rep K cn F' z d → Q z H') → r x y H Q
def R2N (K : PySem.W.Frag) (cn : Cn) (r : R2) (f : D → D → Option D) : Prop := ∀ F H x y dx dy d Q, Same F H → Shal K cn F H x dx → Shal K cn F H y dy → f dx dy = some d → (∀ p vs ds, d = .lst ds → H p = none → Reps K cn F vs ds → Q (.ref p) (upd H p (.lst vs))) → r x y H Q
def R1N (K : PySem.W.Frag) (cn : Cn) (r : V → Hp → VK → Prop) (f : D → Option D) : Prop := ∀ F H x dx d Q, Same F H → Shal K cn F H x dx → f dx = some d → (∀ p vs ds, d = .lst ds → H p = none → Reps K cn F vs ds → Q (.ref p) (upd H p (.lst vs))) → r x H Q
theorem de_B {t1 t2 : TE} {r : R2} {f : D → D → Option D} (h : R2D X.K cn r f) (h1 : DQ cn W X.K t1 qa) (h2 : DQ cn W X.K t2 qb) : DE cn W X.K (tOp r t1 t2) (eB f qa qb) := fun C Γ σ F H Q R k => by
  refine h1 C Γ σ F H _ R (k.bind.mono (fun p k v F' H' s1 R1 hv => ?_) fun _ _ z => z)
  refine h2 C p.2 σ F' H' _ R1 (k.bind.mono (fun q k w F2 H2 s2 R2 hw => ?_) fun _ _ z => XW.up s1 z)
  cases e1 : rd q.2 p.1 with
  | none => simp only [e1] at k; exact k.elim
  | some d1 =>
    cases e2 : rd q.2 q.1 with
    | none => simp only [e1, e2] at k; exact k.elim
    | some d2 =>
      simp only [e1, e2] at k
      obtain ⟨z, e3, k⟩ := k.bind.of
      exact h F2 H2 v w d1 d2 z Q R2.bs.fh (R2.rd e1 (hv.mono s2)) (R2.rd e2 hw) e3 fun zv F3 H3 ex rz => k zv F3 H3 ((s1.trans s2).trans ex.f) (R2.ext ex) rz
theorem dn_B {t1 t2 : TE} {r : R2} {f : D → D → Option D} (h : R2N X.K cn r f) (hf : ∀ x y z, f x y = some z → ∃ l, z = .lst l) (h1 : DQ cn W X.K t1 qa) (h2 : DQ cn W X.K t2 qb) : DN cn W X.K (tOp r t1 t2) (eB f qa qb) := fun C Γ σ F H Q R k => by
  refine h1 C Γ σ F H _ R (k.bind.mono (fun p k v F' H' s1 R1 hv => ?_) fun _ _ z => z)
  refine h2 C p.2 σ F' H' _ R1 (k.bind.mono (fun q k w F2 H2 s2 R2 hw => ?_) fun _ _ z => XW.up s1 z)
  cases e1 : rd q.2 p.1 with
  | none => simp only [e1] at k; exact k.elim
  | some d1 =>
    cases e2 : rd q.2 q.1 with
    | none => simp only [e1, e2] at k; exact k.elim
    | some d2 =>
      simp only [e1, e2] at k
      obtain ⟨z, e3, k⟩ := k.bind.of
      refine h F2 H2 v w d1 d2 z Q R2.bs.fh (R2.rd e1 (hv.mono s2)) (R2.rd e2 hw) e3 fun a vs ds ez ha hr => ?_
      subst ez
      obtain ⟨r3, nw⟩ := NewR.laid R2 hr ha
      exact k (.ref a) F2 _ (s1.trans s2) r3 nw
theorem de_U {t1 : TE} {r : V → Hp → VK → Prop} {f : D → Option D} (h : R1D X.K cn r f) (h1 : DQ cn W X.K t1 qa) : DE cn W X.K (fun σ H Q => t1 σ H fun x H1 => r x H1 Q) (eU f qa) := fun C Γ σ F H Q R k => by
  refine h1 C Γ σ F H _ R (k.bind.mono (fun p k v F' H' s1 R1 hv => ?_) fun _ _ z => z)
  cases e1 : rd p.2 p.1 with
  | none => simp only [e1] at k; exact k.elim
  | some d1 =>
    simp only [e1] at k
    obtain ⟨z, e3, k⟩ := k.bind.of
    exact h F' H' v d1 z Q R1.bs.fh (R1.rd e1 hv) e3 fun zv F3 H3 ex rz => k zv F3 H3 (s1.trans ex.f) (R1.ext ex) rz
theorem dn_U {t1 : TE} {r : V → Hp → VK → Prop} {f : D → Option D} (h : R1N X.K cn r f) (h1 : DQ cn W X.K t1 qa) : DN cn W X.K (fun σ H Q => t1 σ H fun x H1 => r x H1 Q) (eU f qa) := fun C Γ σ F H Q R k => by
  refine h1 C Γ σ F H _ R (k.bind.mono (fun p k v F' H' s1 R1 hv => ?_) fun _ _ z => z)
  cases e1 : rd p.2 p.1 with
  | none => simp only [e1] at k; exact k.elim
  | some d1 =>
    simp only [e1] at k
    obtain ⟨z, e3, k⟩ := k.bind.of
    refine h F' H' v d1 z Q R1.bs.fh (R1.rd e1 hv) e3 fun a vs ds ez ha hr => ?_
    subst ez
    obtain ⟨r3, nw⟩ := NewR.laid R1 hr ha
    exact k (.ref a) F' _ s1 r3 nw
/-! arguments -/
theorem ja_nil : JA X cn W [] aNil := ⟨_, pa_nil, fun C Γ σ F H Q r k => k [] F H (Same.refl _) r True.intro⟩
theorem ja_cons (h1 : JQ X cn W e qa) (h2 : JA X cn W es av) (hs : starEach (e :: es) X.env = (false, eval e X.env) :: starEach es X.env := by rfl) : JA X cn W (e :: es) (aCons qa av) := by
  obtain ⟨t1, p1, d1⟩ := h1
  obtain ⟨t2, p2, d2⟩ := h2
  refine ⟨_, pa_cons p1 p2 hs, fun C Γ σ F H Q R k => ?_⟩
  refine d1 C Γ σ F H _ R (k.bind.mono (fun p k v F' H' s1 R1 hv => ?_) fun _ _ z => z)
  exact d2 C p.2 σ F' H' _ R1 (k.bind.mono (fun q k vs F2 H2 s2 R2 hw => k (v :: vs) F2 H2 (s1.trans s2) R2 ⟨hv.mono s2, hw⟩) fun _ _ z => XW.up s1 z)
theorem jl_nil : JL X cn W [] lNil := ⟨_, pa_nil, fun C Γ σ F H Q r k => k [] F H (Same.refl _) r .nil⟩
theorem jl_cons (h1 : JE X cn W e ea) (h2 : JL X cn W es lv) (hs : starEach (e :: es) X.env = (false, eval e X.env) :: starEach es X.env := by rfl) : JL X cn W (e :: es) (lCons ea lv) := by
  obtain ⟨t1, p1, d1⟩ := h1
  obtain ⟨t2, p2, d2⟩ := h2
  refine ⟨_, pa_cons p1 p2 hs, fun C Γ σ F H Q R k => ?_⟩
  refine d1 C Γ σ F H _ R (k.bind.mono (fun p k v F' H' s1 R1 hv => ?_) fun _ _ z => z)
  exact d2 C p.2 σ F' H' _ R1 (k.bind.mono (fun q k vs F2 H2 s2 R2 hw => k (v :: vs) F2 H2 (s1.trans s2) R2 (.cons (hv.mono s2) hw)) fun _ _ z => XW.up s1 z)
theorem rds_ok {C : Ct} {Γ : Env} {σ : St} {F H : Hp} (R : RelS X.K cn C Γ σ F H) : ∀ {ps : List PV} {vs : List V} {ds : List D}, rds Γ ps = some ds → PVRs X.K cn σ F vs ps → Paired (fun v d => Shal X.K cn F H v d) vs ds
  | [], [], ds, h, _ => by cases h; exact .nil
  | [], _ :: _, _, _, q => q.elim
  | _ :: _, [], _, _, q => q.elim
  | p :: ps, v :: vs, ds, h, q => by
    unfold rds at h
    cases e1 : rd Γ p with
    | none => simp only [e1] at h; cases h
    | some d =>
      cases e2 : rds Γ ps with
      | none => simp only [e1, e2] at h; cases h
      | some ds' =>
        simp only [e1, e2] at h
        cases h
        exact .cons (R.rd e1 q.1) (rds_ok R e2 q.2)
def RCD (K : PySem.W.Frag) (cn : Cn) (r : List V → Hp → VK → Prop) (f : List D → Option D) : Prop := ∀ F H vs ds d Q, Same F H → Paired (fun v d => Shal K cn F H v d) vs ds → f ds = some d → (∀ z F' H', Ext F H F' H' → Rep K cn F' z d → Q z H') → r vs H Q
def RCN (K : PySem.W.Frag) (cn : Cn) (r : List V → Hp → VK → Prop) (f : List D → Option D) : Prop := ∀ F H vs ds d Q, Same F H → Paired (fun v d => Shal K cn F H v d) vs ds → f ds = some d → (∀ p vs ds, d = .lst ds → H p = none → Reps K cn F vs ds → Q (.ref p) (upd H p (.lst vs))) → r vs H Q
theorem de_F {t : TA} {r : List V → Hp → VK → Prop} {f : List D → Option D} (h : RCD X.K cn r f) (h1 : DA cn W X.K t av) : DE cn W X.K (fun σ H Q => t σ H fun vs H1 => r vs H1 Q) (eF f av) := fun C Γ σ F H Q R k => by
  refine h1 C Γ σ F H _ R (k.bind.mono (fun p k v F' H' s1 R1 hv => ?_) fun _ _ z => z)
  cases e1 : rds p.2 p.1 with
  | none => simp only [e1] at k; exact k.elim
  | some d1 =>
    simp only [e1] at k
    obtain ⟨z, e3, k⟩ := k.bind.of
    exact h F' H' v d1 z Q R1.bs.fh (rds_ok R1 e1 hv) e3 fun zv F3 H3 ex rz => k zv F3 H3 (s1.trans ex.f) (R1.ext ex) rz
theorem dn_F {t : TA} {r : List V → Hp → VK → Prop} {f : List D → Option D} (h : RCN X.K cn r f) (h1 : DA cn W X.K t av) : DN cn W X.K (fun σ H Q => t σ H fun vs H1 => r vs H1 Q) (eF f av) := fun C Γ σ F H Q R k => by
  refine h1 C Γ σ F H _ R (k.bind.mono (fun p k v F' H' s1 R1 hv => ?_) fun _ _ z => z)
  cases e1 : rds p.2 p.1 with
  | none => simp only [e1] at k; exact k.elim
  | some d1 =>
    simp only [e1] at k
    obtain ⟨z, e3, k⟩ := k.bind.of
    refine h F' H' v d1 z Q R1.bs.fh (rds_ok R1 e1 hv) e3 fun a vs ds ez ha hr => ?_
    subst ez
    obtain ⟨r3, nw⟩ := NewR.laid R1 hr ha
    exact k (.ref a) F' _ s1 r3 nw
/-! the forms with syntax -/
theorem je_op {op : Operator} {r : R2} {f : D → D → Option D} (ho : OpR X (binaryOp op) r) (h : R2D X.K cn r f) (ha : JQ X cn W a qa) (hb : JQ X cn W b qb) : JE X cn W (.BinOp a op b pos) (eB f qa qb) := by
  obtain ⟨t1, p1, d1⟩ := ha
  obtain ⟨t2, p2, d2⟩ := hb
  exact ⟨_, pe_op ho p1 p2, de_B h d1 d2⟩
theorem jn_op {op : Operator} {r : R2} {f : D → D → Option D} (ho : OpR X (binaryOp op) r) (h : R2N X.K cn r f) (hf : ∀ x y z, f x y = some z → ∃ l, z = .lst l) (ha : JQ X cn W a qa) (hb : JQ X cn W b qb) : JN X cn W (.BinOp a op b pos) (eB f qa qb) := by
  obtain ⟨t1, p1, d1⟩ := ha
  obtain ⟨t2, p2, d2⟩ := hb
  exact ⟨_, pe_op ho p1 p2, dn_B h hf d1 d2⟩
theorem je_un {op : UnaryOp} {r : V → Hp → VK → Prop} {f : D → Option D} (ho : UnR X (unaryOp op) r) (h : R1D X.K cn r f) (ha : JQ X cn W a qa) : JE X cn W (.UnaryOp op a pos) (eU f qa) := by
  obtain ⟨t1, p1, d1⟩ := ha
  exact ⟨_, pe_un ho p1, de_U (r := r) h d1⟩
theorem je_cmp {op : CmpOp} {r : R2} {f : D → D → Option D} (ho : OpR X (compareOp op) r) (h : R2D X.K cn r f) (ha : JQ X cn W a qa) (hb : JQ X cn W b qb) (hm : behindInMarks op b = false) : JE X cn W (.Compare a [op] [b] pos) (eB f qa qb) := by
  obtain ⟨t1, p1, d1⟩ := ha
  obtain ⟨t2, p2, d2⟩ := hb
  exact ⟨_, pe_cmpR ho p1 p2 hm, de_B h d1 d2⟩
/-- an expression that gives a bool, as a test -/
theorem dt_of {t : TE} (h : DE cn W X.K t ea) : DT cn W X.K (fun σ H Q => t σ H fun x H' => ∃ k, x = .bl k ∧ Q k H') (tE ea) := fun C Γ σ F H Q R k => by
  refine h C Γ σ F H _ R (k.bind.mono (fun p k v F' H' s1 R1 hv => ?_) fun _ _ z => z)
  obtain ⟨d, Γ'⟩ := p
  cases d with
  | bl b => cases hv; exact ⟨b, rfl, k F' H' s1 R1⟩
  | _ => exact k.elim
theorem jt_cmp {op : CmpOp} {r : R2} {f : D → D → Option D} (ho : OpR X (compareOp op) r) (h : R2D X.K cn r f) (ha : JQ X cn W a qa) (hb : JQ X cn W b qb) (hm : behindInMarks op b = false) : JT X cn W (.Compare a [op] [b] pos) (tE (eB f qa qb)) := by
  obtain ⟨t1, p1, d1⟩ := ha
  obtain ⟨t2, p2, d2⟩ := hb
  exact ⟨_, pt_cmpR ho p1 p2 hm, dt_of (de_B h d1 d2)⟩
theorem jt_e (h : JE X cn W e ea) (he : ∀ whole, isTrue e X.env whole = (do let v ← whole; standAt e.pos; holding [v] (truthy v)) := by intro _; rfl) : JT X cn W e (tE ea) := by
  obtain ⟨t, p, d⟩ := h
  exact ⟨_, pt_val p he, dt_of d⟩
theorem truth_ok {F H : Hp} {v : V} {d : D} {k : Bool} (s : Same F H) (h : Shal X.K cn F H v d) (e : truth d = some k) : TruV X.K v H k := by
  cases d with
  | non => cases h.non; cases e; rfl
  | bl b => cases h.bl; cases e; rfl
  | int i => cases h.int; cases e; rfl
  | str z =>
    cases h.str
    have e : (if z.length ≤ seqMax then some ((z.length : Int) != 0) else none) = some k := e
    split at e
    · rename_i hz; cases e; exact ⟨by rw [sizeLine_eq]; exact hz, rfl⟩
    · cases e
  | lst ds =>
    obtain ⟨a, vs, rfl, q, r⟩ := h
    cases e
    refine .inl ⟨vs, SqL.of q, ?_⟩
    have := r.1
    cases vs <;> cases ds <;> first | rfl | (simp at this)
  | tup ds =>
    obtain ⟨a, vs, rfl, q, r⟩ := h.tup s
    cases e
    refine .inr (.inl ⟨vs, q, ?_⟩)
    have := r.1
    cases vs <;> cases ds <;> first | rfl | (simp at this)
  | dct ds => cases e
  | ins c fs => cases e
  | scr ns => cases e
theorem jt_tru (h : JQ X cn W e qa) (he : ∀ whole, isTrue e X.env whole = (do let v ← whole; standAt e.pos; holding [v] (truthy v)) := by intro _; rfl) : JT X cn W e (tTru qa) := by
  obtain ⟨t, p, d⟩ := h
  refine ⟨_, pt_truth p he, fun C Γ σ F H Q R k => ?_⟩
  refine d C Γ σ F H _ R (k.bind.mono (fun p k v F' H' s1 R1 hv => ?_) fun _ _ z => z)
  cases e1 : rd p.2 p.1 with
  | none => simp only [e1] at k; exact k.elim
  | some d1 =>
    simp only [e1] at k
    obtain ⟨z, e3, k⟩ := k.bind.of
    exact ⟨z, truth_ok R1.bs.fh (R1.rd e1 hv) e3, k F' H' s1 R1⟩
theorem jt_w (h : JW X cn W e ta) : JT X cn W e ta := by
  obtain ⟨t, p, d⟩ := h
  exact ⟨t, p.pt, d⟩
variable {rest : List Expr}
theorem jw_and1 (h : JT X cn W a ta) : JW X cn W (.BoolOp .And [a] pos) ta := by
  obtain ⟨t, p, d⟩ := h
  exact ⟨t, pw_and1 p, d⟩
theorem jw_or1 (h : JT X cn W a ta) : JW X cn W (.BoolOp .Or [a] pos) ta := by
  obtain ⟨t, p, d⟩ := h
  exact ⟨t, pw_or1 p, d⟩
theorem jw_and (h : JT X cn W a ta) (h2 : JW X cn W (.BoolOp .And (b :: rest) pos) tb) : JW X cn W (.BoolOp .And (a :: b :: rest) pos) (eAnd ta tb) := by
  obtain ⟨t, p, d⟩ := h
  obtain ⟨t2, p2, d2⟩ := h2
  refine ⟨_, pw_and p p2, fun C Γ σ F H Q R k => ?_⟩
  refine d C Γ σ F H _ R (k.bind.mono (fun p k F' H' s1 R1 => ?_) fun _ _ z => z)
  obtain ⟨c, Γ1⟩ := p
  cases c with
  | true =>
    rw [if_pos rfl]
    exact d2 C Γ1 σ F' H' _ R1 (Post.mono (P := TEnd X.K cn C σ F Q) (W := XW X.K cn C F W) (by simpa using k) (fun p k F2 H2 s2 R2 => k F2 H2 (s1.trans s2) R2) fun _ _ z => XW.up s1 z)
  | false =>
    rw [if_neg Bool.false_ne_true]
    exact (show ∀ F' H', Same F F' → RelS X.K cn C Γ1 σ F' H' → Q false H' from k) F' H' s1 R1
theorem jw_or (h : JT X cn W a ta) (h2 : JW X cn W (.BoolOp .Or (b :: rest) pos) tb) : JW X cn W (.BoolOp .Or (a :: b :: rest) pos) (eOr ta tb) := by
  obtain ⟨t, p, d⟩ := h
  obtain ⟨t2, p2, d2⟩ := h2
  refine ⟨_, pw_or p p2, fun C Γ σ F H Q R k => ?_⟩
  refine d C Γ σ F H _ R (k.bind.mono (fun p k F' H' s1 R1 => ?_) fun _ _ z => z)
  obtain ⟨c, Γ1⟩ := p
  cases c with
  | false =>
    rw [if_neg Bool.false_ne_true]
    exact d2 C Γ1 σ F' H' _ R1 (Post.mono (P := TEnd X.K cn C σ F Q) (W := XW X.K cn C F W) (by simpa using k) (fun p k F2 H2 s2 R2 => k F2 H2 (s1.trans s2) R2) fun _ _ z => XW.up s1 z)
  | true =>
    rw [if_pos rfl]
    exact (show ∀ F' H', Same F F' → RelS X.K cn C Γ1 σ F' H' → Q true H' from k) F' H' s1 R1
theorem jt_not (h : JT X cn W a ta) : JT X cn W (.UnaryOp .Not a pos) (eNot ta) := by
  obtain ⟨t, p, d⟩ := h
  refine ⟨_, pt_not p, fun C Γ σ F H Q R k => ?_⟩
  exact d C Γ σ F H _ R (k.bind.mono (fun p k F' H' s1 R1 => k F' H' s1 R1) fun _ _ z => z)
/-! displays -/
theorem je_tup {x1} (h : JL X cn W es lv) : JE X cn W (.Tuple es x1 pos) (eTup lv) := by
  obtain ⟨t, p, d⟩ := h
  refine ⟨_, pe_tup p, fun C Γ σ F H Q R k => ?_⟩
  refine d C Γ σ F H _ R (k.bind.mono (fun p k vs F' H' s1 R1 hv => ?_) fun _ _ z => z)
  obtain ⟨ds, Γ1⟩ := p
  dsimp only at k
  split at k
  · rename_i hz
    refine ⟨by rw [hv.1, sizeLine_eq]; exact hz, fun p hp => ?_⟩
    have ex := Ext.new (o := HO.tup vs) R1.bs.fh hp
    exact k _ _ _ (s1.trans ex.f) (R1.ext ex) (.tup (SqT.of upd_same) hv.1 (hv.mono ex.f).2)
  · exact k.elim
theorem jn_lst (h : JL X cn W es lv) : JN X cn W (.List es pos) (nLst lv) := by
  obtain ⟨t, p, d⟩ := h
  refine ⟨_, pe_lst p, fun C Γ σ F H Q R k => ?_⟩
  refine d C Γ σ F H _ R (k.bind.mono (fun p k vs F' H' s1 R1 hv => ?_) fun _ _ z => z)
  obtain ⟨ds, Γ1⟩ := p
  dsimp only at k
  split at k
  · rename_i hz
    refine ⟨by rw [hv.1, sizeLine_eq]; exact hz, fun p hp => ?_⟩
    obtain ⟨r3, nw⟩ := NewR.laid R1 hv hp
    exact k _ _ _ s1 r3 nw
  · exact k.elim
theorem je_if {t : Expr} (ht : JT X cn W t ta) (ha : JE X cn W a ea) (hb : JE X cn W b eb) : JE X cn W (.IfExp t a b pos) (eIf ta ea eb) := by
  obtain ⟨t0, p0, d0⟩ := ht
  obtain ⟨t1, p1, d1⟩ := ha
  obtain ⟨t2, p2, d2⟩ := hb
  refine ⟨_, pe_ifExp p0 p1 p2, fun C Γ σ F H Q R k => ?_⟩
  refine d0 C Γ σ F H _ R (k.bind.mono (fun p k F' H' s1 R1 => ?_) fun _ _ z => z)
  obtain ⟨c, Γ1⟩ := p
  cases c with
  | true =>
    rw [if_pos rfl]
    refine d1 C Γ1 σ F' H' _ R1 (Post.mono (P := EEnd X.K cn C σ F Q) (W := XW X.K cn C F W) (by simpa using k) (fun p k v F2 H2 s2 R2 hv => k v F2 H2 (s1.trans s2) R2 hv) fun _ _ z => XW.up s1 z)
  | false =>
    rw [if_neg Bool.false_ne_true]
    refine d2 C Γ1 σ F' H' _ R1 (Post.mono (P := EEnd X.K cn C σ F Q) (W := XW X.K cn C F W) (by simpa using k) (fun p k v F2 H2 s2 R2 hv => k v F2 H2 (s1.trans s2) R2 hv) fun _ _ z => XW.up s1 z)
theorem lookP {F : Hp} {f : Nat} {z : D} (hi : ∀ g, cn.fa g = cn.fa f → g = f) : ∀ {fvs : List (Str × V)} {fs : List (Nat × D)}, fvs.map (·.1) = fs.map (fun p => cn.fa p.1) → (∀ (i : Nat) v d, fvs[i]? = some v → fs[i]? = some d → Rep X.K cn F v.2 d.2) → fs.lookup f = some z → ∃ v, fvs.lookup (cn.fa f) = some v ∧ Rep X.K cn F v z
  | [], [], _, _, e => by cases e
  | [], _ :: _, hk, _, _ => by simp at hk
  | _ :: _, [], hk, _, _ => by simp at hk
  | (g', x) :: xs, (g, y) :: ys, hk, r, e => by
    simp only [List.map_cons, List.cons.injEq] at hk
    obtain ⟨hk1, hk2⟩ := hk
    have hk1 : g' = cn.fa g := hk1
    subst hk1
    simp only [List.lookup] at e ⊢
    by_cases q : f = g
    · subst q
      simp only [beq_self_eq_true] at e ⊢
      cases e
      exact ⟨x, rfl, r 0 _ _ rfl rfl⟩
    · have q1 : (f == g) = false := beq_eq_false_iff_ne.mpr q
      have q2 : (cn.fa f == cn.fa g) = false := beq_eq_false_iff_ne.mpr fun z => q (hi g z.symm).symm
      simp only [q1] at e
      simp only [q2]
      exact lookP hi hk2 (fun i v d a b => r (i + 1) v d (by simpa using a) (by simpa using b)) e
theorem je_fld {c f : Nat} {fs : Str} (h : JE X cn W e ea) (hn : cn.fa f = fs) (hi : ∀ g, cn.fa g = cn.fa f → g = f) (hc : Cls X.K (cn.ca c)) (hna : NoAttr X.K (cn.ca c) fs) (hb : attributeBase e fs X.env (eval e X.env) = eval e X.env := by rfl) : JE X cn W (.Attribute e fs pos) (eFld c f ea) := by
  obtain ⟨t, p, d⟩ := h
  refine ⟨_, pe_fld p hb, fun C Γ σ F H Q R k => ?_⟩
  refine d C Γ σ F H _ R (k.bind.mono (fun p k v F' H' s1 R1 hv => ?_) fun _ _ z => z)
  obtain ⟨d, Γ1⟩ := p
  dsimp only at k
  obtain ⟨z, e3, kk⟩ := k.bind.of
  cases d with
  | ins c2 fs =>
    have e4 : (if c2 = c then fs.lookup f else none) = some z := e3
    by_cases ec : c2 = c
    · rw [if_pos ec] at e4
      subst ec
      cases hv with
      | @ins a dx fvs _ _ h hk r =>
        obtain ⟨v, l, rv⟩ := lookP hi hk r e4
        rw [hn] at l
        exact ⟨a, _, dx, fvs, v, rfl, R1.bs.fh _ _ h, hc, hna, l, kk v F' H' s1 R1 rv⟩
    · rw [if_neg ec] at e4; cases e4
  | _ => cases e3
end
end Ed

set_option autoImplicit true
set_option Elab.async false
set_option linter.all false
set_option maxRecDepth 100000
/-! statements, loops -/
namespace Ed
open PySem L2

section
variable (K : PySem.W.Frag) (cn : Cn) (W : WX)
def DVR (C : Ct) (F H : Hp) (v : V) : DV → Prop
  | .fz d => Rep K cn F v d
  | .fr d => ∃ a, v = .ref a ∧ F a = none ∧ C.H0 a = none ∧ OwnR K cn F H a d
def SEnd (C : Ct) (F : Hp) (Dn : Ends) : Ctl × Env → Prop
  | (.nx, Γ) => ∀ σ' F' H', Same F F' → RelS K cn C Γ σ' F' H' → Dn.nx σ' H'
  | (.brk, Γ) => ∀ σ' F' H', Same F F' → RelS K cn C Γ σ' F' H' → Dn.bk σ' H'
  | (.cnt, Γ) => ∀ σ' F' H', Same F F' → RelS K cn C Γ σ' F' H' → Dn.ct σ' H'
  | (.ret o, Γ) => ∀ v F' H', Same F F' → Bas C F' H' →  DVR K cn C F' H' v o → Dn.rt v H'
def DS (t : TS) (sv : SV) : Prop := ∀ C Γ σ F H Dn, RelS K cn C Γ σ F H → Post (sv Γ) (SEnd K cn C F Dn) (XW K cn C F W) → t Dn σ H
def ItD (C : Ct) (F : Hp) (J : It) (ds : List D) : Prop := ∀ (i : Nat) F2 H2, Same F F2 → Bas C F2 H2 →
  (∀ d, ds[i]? = some d → J.go i H2 ∧ ∀ x H3, J.yld i H2 x H3 → ∃ F3, Ext F2 H2 F3 H3 ∧ Rep K cn F3 x d) ∧ (ds.length ≤ i → J.stop i H2)
def DI (wi : TI) (lv : LV) : Prop := ∀ C Γ σ F H (R : It → Hp → Prop), RelS K cn C Γ σ F H →
  Post (lv Γ) (fun p => ∀ J F' H', Same F F' → RelS K cn C p.2 σ F' H' → ItD K cn C F' J p.1 → R J H') (XW K cn C F W) → wi σ H R
def DG (g : TG) (gv : GV) : Prop := ∀ C Γ σ F H v d Γ' N, RelS K cn C Γ σ F H → Rep K cn F v d → gv d Γ = some Γ' → (∀ σ' F' H', Same F F' → RelS K cn C Γ' σ' F' H' → N σ' H') → g v σ H N
def DGs (g : TGs) (gv : List GV) : Prop := ∀ C Γ σ F H vs ds Γ' N, RelS K cn C Γ σ F H → Reps K cn F vs ds → gs gv ds Γ = some Γ' → (∀ σ' F' H', Same F F' → RelS K cn C Γ' σ' F' H' → N σ' H') → g vs σ H N
end
section
variable (X : Cx) (cn : Cn) (W : WX)
def JS (st : Stmt) (sv : SV) : Prop := ∃ t, PS X st t ∧ DS X.K cn W t sv
def JSs (st : List Stmt) (sv : SV) : Prop := ∃ t, PSs X st t ∧ DS X.K cn W t sv
def JI (tg it : Expr) (lv : LV) : Prop := ∃ wi, PI X tg it wi ∧ DI X.K cn W wi lv
def JG (tg : Expr) (gv : GV) : Prop := ∃ g, PG X tg g ∧ DG X.K cn g gv
def JGs (tgs : List Expr) (gv : List GV) : Prop := ∃ g, PGs X tgs g ∧ DGs X.K cn g gv
end

section
variable {X : Cx} {cn : Cn} {W : WX} {a b c e : Expr} {es : List Expr} {pos : Pos} {ea eb : EV} {qa qb qc : QV} {ta tb : TV} {av : AV} {lv : LV} {st : Stmt} {rest : List Stmt} {sa sb : SV}
theorem SEnd.mono {C : Ct} {F F2 : Hp} {Dn Dn' : Ends} (s : Same F F2) (h1 : ∀ σ H, Dn.nx σ H → Dn'.nx σ H) (h2 : ∀ v H, Dn.rt v H → Dn'.rt v H) (h3 : ∀ σ H, Dn.bk σ H → Dn'.bk σ H) (h4 : ∀ σ H, Dn.ct σ H → Dn'.ct σ H) :
    ∀ p, SEnd X.K cn C F Dn p → SEnd X.K cn C F2 Dn' p
  | (.nx, Γ), h => fun σ' F' H' s2 r => h1 _ _ (h σ' F' H' (s.trans s2) r)
  | (.brk, Γ), h => fun σ' F' H' s2 r => h3 _ _ (h σ' F' H' (s.trans s2) r)
  | (.cnt, Γ), h => fun σ' F' H' s2 r => h4 _ _ (h σ' F' H' (s.trans s2) r)
  | (.ret o, Γ), h => fun v F' H' s2 b r => h2 _ _ (h v F' H' (s.trans s2) b r)
theorem js_pass : JS X cn W (.Pass pos) sNext := ⟨_, ps_pass, fun C Γ σ F H Dn R k => k σ F H (Same.refl _) R⟩
theorem js_brk : JS X cn W (.Break pos) sBrk := ⟨_, ps_break, fun C Γ σ F H Dn R k => k σ F H (Same.refl _) R⟩
theorem js_cnt : JS X cn W (.Continue pos) sCnt := ⟨_, ps_continue, fun C Γ σ F H Dn R k => k σ F H (Same.refl _) R⟩
theorem js_doc {x j pos pos'} : JS X cn W (.Expr (.Constant (.str x) j pos) pos') sNext := ⟨_, ps_doc, fun C Γ σ F H Dn R k => k σ F H (Same.refl _) R⟩
theorem jss_nil : JSs X cn W [] sNext := ⟨_, pss_nil, fun C Γ σ F H Dn R k => k σ F H (Same.refl _) R⟩
theorem jss_one (h : JS X cn W st sa) : JSs X cn W [st] sa := by
  obtain ⟨t, p, d⟩ := h
  exact ⟨t, pss_one p, d⟩
theorem jss_cons (h : JS X cn W st sa) (h2 : JSs X cn W rest sb) : JSs X cn W (st :: rest) (sSeq sa sb) := by
  obtain ⟨t, p, d⟩ := h
  obtain ⟨t2, p2, d2⟩ := h2
  refine ⟨_, pss_cons p p2, fun C Γ σ F H Dn R k => ?_⟩
  refine d C Γ σ F H { Dn with nx := t2 Dn } R (k.bind.mono (fun p k => ?_) fun _ _ z => z)
  obtain ⟨c, Γ1⟩ := p
  cases c with
  | nx => exact fun σ' F' H' s r => d2 C Γ1 σ' F' H' Dn r (Post.mono (P := SEnd X.K cn C F Dn) (W := XW X.K cn C F W) k (SEnd.mono s (fun _ _ z => z) (fun _ _ z => z) (fun _ _ z => z) fun _ _ z => z) fun _ _ z => XW.up s z)
  | brk => exact k
  | cnt => exact k
  | ret o => exact k
theorem js_set {i : Nat} {x : Str} {pos' : Pos} (hN : X.N.Nodup) (hi : X.N[i]? = some x) (hx : Loc X.env.scope x) (he : JE X cn W e ea) (hs : swapsWith e (some (.Name x pos')) pos.line X.env = pure false := by rfl) (hf : X.fn x = true ∨ X.env.scope.names.lookup x = some .local := by first | exact .inl rfl | exact .inr rfl | assumption) :
    JS X cn W (.Assign [.Name x pos'] e pos) (sSet i ea) := by
  obtain ⟨t, p, d⟩ := he
  refine ⟨_, ps_set hN hi hx p hs hf, fun C Γ σ F H Dn R k => ?_⟩
  exact d C Γ σ F H _ R (k.bind.mono (fun p k v F' H' s r rv => k _ F' H' s (r.setV rv)) fun _ _ z => z)
theorem js_own {i : Nat} {x : Str} {pos' : Pos} (hN : X.N.Nodup) (hi : X.N[i]? = some x) (hx : Loc X.env.scope x) (he : JN X cn W e ea) (hs : swapsWith e (some (.Name x pos')) pos.line X.env = pure false := by rfl) (hf : X.fn x = true ∨ X.env.scope.names.lookup x = some .local := by first | exact .inl rfl | exact .inr rfl | assumption) :
    JS X cn W (.Assign [.Name x pos'] e pos) (sOwn i ea) := by
  obtain ⟨t, p, d⟩ := he
  refine ⟨_, ps_set hN hi hx p hs hf, fun C Γ σ F H Dn R k => ?_⟩
  exact d C Γ σ F H _ R (k.bind.mono (fun p k v F' H' s r rv => k _ F' H' s (r.setO rv)) fun _ _ z => z)
theorem js_drop (he : JE X cn W e ea) (hs : swapsWith e none pos.line X.env = pure false := by rfl) : JS X cn W (.Expr e pos) (sDrop ea) := by
  obtain ⟨t, p, d⟩ := he
  refine ⟨_, ps_expr p hs, fun C Γ σ F H Dn R k => ?_⟩
  exact d C Γ σ F H _ R (k.bind.mono (fun p k v F' H' s r rv => k _ F' H' s r) fun _ _ z => z)
theorem js_ret (he : JE X cn W e ea) : JS X cn W (.Return (some e) pos) (sRet ea) := by
  obtain ⟨t, p, d⟩ := he
  refine ⟨_, ps_ret p, fun C Γ σ F H Dn R k => ?_⟩
  exact d C Γ σ F H _ R (k.bind.mono (fun p k v F' H' s r rv => k v F' H' s r.bs rv) fun _ _ z => z)
theorem js_retN : JS X cn W (.Return none pos) sRetN := ⟨_, ps_retN, fun C Γ σ F H Dn R k => k .non F H (Same.refl _) R.bs .non⟩
theorem js_retO (he : JN X cn W e ea) : JS X cn W (.Return (some e) pos) (sRetO ea) := by
  obtain ⟨t, p, d⟩ := he
  refine ⟨_, ps_ret p, fun C Γ σ F H Dn R k => ?_⟩
  exact d C Γ σ F H _ R (k.bind.mono (fun p k v F' H' s r rv => k v F' H' s r.bs (let ⟨a, q1, q2, q3, q4, _⟩ := rv; ⟨a, q1, q2, q3, q4⟩)) fun _ _ z => z)
theorem js_retX (i : Nat) {x : Str} {px : Pos} (hN : X.N[i]? = some x := by rfl) (hv : Vis X.env.scope x := by first | exact Or.inl rfl | exact Or.inr (Or.inl rfl) | exact Or.inr (Or.inr rfl)) (hd : (x == ("__debug__" : Str)) = false := by decide)
    (hcd : (x == ("__classdict__" : Str)) = false := by decide) : JS X cn W (.Return (some (.Name x px)) pos) (sRetX i) := by
  refine ⟨_, ps_ret (pe_var hN hv hd hcd), fun C Γ σ F H Dn R k => ?_⟩
  unfold sRetX at k
  cases q : get Γ i with
  | own d =>
    rw [q] at k
    obtain ⟨a, e1, n, n0, r1⟩ := R.at q (fun z => by cases z)
    exact ⟨_, join_some e1, k _ F H (Same.refl _) R.bs ⟨a, rfl, n, n0, r1⟩⟩
  | val d =>
    rw [q] at k
    obtain ⟨v, e1, rv⟩ := R.at q (fun z => by cases z)
    exact ⟨_, join_some e1, k v F H (Same.refl _) R.bs rv⟩
  | _ => rw [q] at k; exact k.elim
theorem js_if {t : Expr} {s1 s2 : List Stmt} (ht : JT X cn W t ta) (ha : JSs X cn W s1 sa) (hb : JSs X cn W s2 sb) : JS X cn W (.If t s1 s2 pos) (sIf ta sa sb) := by
  obtain ⟨t0, p0, d0⟩ := ht
  obtain ⟨t1, p1, d1⟩ := ha
  obtain ⟨t2, p2, d2⟩ := hb
  refine ⟨_, ps_if p0 p1 p2, fun C Γ σ F H Dn R k => ?_⟩
  refine d0 C Γ σ F H _ R (k.bind.mono (fun p k F' H' s1 R1 => ?_) fun _ _ z => z)
  obtain ⟨c, Γ1⟩ := p
  cases c with
  | true =>
    rw [if_pos rfl]
    exact d1 C Γ1 σ F' H' _ R1 (Post.mono (P := SEnd X.K cn C F Dn) (W := XW X.K cn C F W) (by simpa using k) (SEnd.mono s1 (fun _ _ z => z) (fun _ _ z => z) (fun _ _ z => z) fun _ _ z => z) fun _ _ z => XW.up s1 z)
  | false =>
    rw [if_neg Bool.false_ne_true]
    exact d2 C Γ1 σ F' H' _ R1 (Post.mono (P := SEnd X.K cn C F Dn) (W := XW X.K cn C F W) (by simpa using k) (SEnd.mono s1 (fun _ _ z => z) (fun _ _ z => z) (fun _ _ z => z) fun _ _ z => z) fun _ _ z => XW.up s1 z)
/-! an owned list changed -/
theorem RelS.mut {C : Ct} {Γ : Env} {σ : St} {F H : Hp} (R : RelS X.K cn C Γ σ F H) {i : Nat} {d d' : D} {a : Addr} {o : HO} (g : get Γ i = .own d) (e : σ[i]? = some (some (V.ref a))) (ho : OwnR X.K cn F (upd H a o) a d') :
    RelS X.K cn C (put Γ i (.own d')) σ F (upd H a o) := by
  have gi := get_some g (fun z => by cases z)
  obtain ⟨b, e1, n, n0, r1⟩ := R.at g (fun z => by cases z)
  have e2 := join_some e1
  rw [e] at e2
  cases e2
  refine ⟨⟨same_out R.bs.fh n, R.bs.f0, fun b o' h1 h2 => ?_, R.bs.nw, fun b hb => ⟨(R.bs.si b hb).1, ?_⟩, R.bs.b0⟩, by rw [put_eq, List.length_set]; exact R.len, fun j t h => ?_, fun j k x y b h1 h2 h3 h4 => ?_, s0_put R.s0 (.inr fun _ _ z => by cases z)⟩
  · have hb : b ≠ a := fun z => by subst z; rw [n0] at h1; cases h1
    rw [upd_ne hb]; exact R.bs.h0 b o' h1 h2
  · obtain ⟨o2, h2⟩ := (R.bs.si b hb).2
    by_cases z : b = a
    · subst z; exact ⟨_, upd_same⟩
    · exact ⟨o2, by rw [upd_ne z]; exact h2⟩
  · rw [put_eq] at h
    rcases getSet h with ⟨rfl, rfl⟩ | ⟨z, h⟩
    · exact ⟨a, e1, n, n0, ho⟩
    · have w := R.sl j t h
      cases t with
      | emp => trivial
      | val x => exact w
      | own x =>
        obtain ⟨b, q1, m, m0, r2⟩ := w
        have hb : b ≠ a := fun e3 => z (R.ow i j _ _ a gi h e (by rw [← e3]; exact join_some q1))
        refine ⟨b, q1, m, m0, ?_⟩
        cases x with
        | lst ds => obtain ⟨vs, h, p⟩ := r2; exact ⟨vs, by rw [upd_ne hb]; exact h, p⟩
        | dct ds => obtain ⟨vs, h, p⟩ := r2; exact ⟨vs, by rw [upd_ne hb]; exact h, p⟩
        | _ => exact r2.elim
      | bor x => exact w
      | slf c fs =>
        obtain ⟨b, dx, fvs, q1, q2, m, h5, r2⟩ := w
        have hb : b ≠ a := fun e3 => by
          subst e3
          obtain ⟨c', dx', fs', q0⟩ := (R.bs.si _ q2).1
          rw [n0] at q0; cases q0
        exact ⟨b, dx, fvs, q1, q2, m, by rw [upd_ne hb]; exact h5, r2⟩
      | exn x => exact w
  · rw [put_eq] at h1 h2
    have up : ∀ {j : Nat} {x : D}, (Γ.set i (.own d'))[j]? = some (.own x) → ∃ x', Γ[j]? = some (.own x') := fun {j x} h => by
      rcases getSet h with ⟨rfl, _⟩ | ⟨_, h⟩
      · exact ⟨_, gi⟩
      · exact ⟨_, h⟩
    obtain ⟨x', g1⟩ := up h1
    obtain ⟨y', g2⟩ := up h2
    exact R.ow j k x' y' b g1 g2 h3 h4
theorem js_app (i : Nat) {x : Str} {px pa pos2 pos3 : Pos} (he : JE X cn W e ea) (hN : X.N[i]? = some x := by rfl) (hv : Vis X.env.scope x := by first | exact Or.inl rfl | exact Or.inr (Or.inl rfl) | exact Or.inr (Or.inr rfl)) (hd : (x == ("__debug__" : Str)) = false := by decide)
    (hcd : (x == ("__classdict__" : Str)) = false := by decide) (hst : starEach [e] X.env = [(false, eval e X.env)] := by rfl) (pe : ∀ t, PE X e t → PE X (.Call (.Attribute (.Name x px) "append" pa) [e] [] pos2) (tBM X.K "list" rAppend (tVar i) (tCons t tNil)))
    (hs : swapsWith (.Call (.Attribute (.Name x px) "append" pa) [e] [] pos2) none pos3.line X.env = pure false := by rfl) : JS X cn W (.Expr (.Call (.Attribute (.Name x px) "append" pa) [e] [] pos2) pos3) (sApp i ea) := by
  obtain ⟨t, p, d⟩ := he
  refine ⟨_, ps_expr (pe t p) hs, fun C Γ σ F H Dn R k => ?_⟩
  unfold sApp at k
  cases q : look (get Γ i) with
  | none => rw [q] at k; exact k.elim
  | some x0 =>
    rw [q] at k
    obtain ⟨v0, e0, s0⟩ := R.read q
    cases x0 with
    | lst xs0 =>
      obtain ⟨l, ws, rfl, hq, _⟩ := s0
      refine ⟨.ref l, e0, .inl ⟨rfl, _, SqL.of hq⟩, ?_⟩
      refine d C Γ σ F H _ R (k.bind.mono (fun p k v F' H' s r rv => ?_) fun _ _ z => z)
      obtain ⟨d1, Γ1⟩ := p
      dsimp only at k
      cases q1 : get Γ1 i with
      | own d2 =>
        cases d2 with
        | lst xs =>
          rw [q1] at k
          dsimp only at k
          split at k
          · rename_i hz
            obtain ⟨a, e1, n, n0, vs, hvs, rvs⟩ := r.at q1 (fun z => by cases z)
            have e2 := join_some e1
            rw [e0] at e2
            cases e2
            refine ⟨l, vs, v, rfl, rfl, hvs, by rw [rvs.1, sizeLine_eq]; exact hz, ?_⟩
            refine k σ F' _ s (r.mut q1 (join_some e1) ?_)
            exact ⟨_, upd_same, rvs.app (.cons rv .nil)⟩
          · exact k.elim
        | _ => rw [q1] at k; exact k.elim
      | _ => rw [q1] at k; exact k.elim
    | _ => exact k.elim
theorem js_while {t : Expr} {body : List Stmt} {n : Nat} (hp : PassesOwn (model X.prog X.w) X.A X.env X.xe) (ht : JT X cn W t ta) (hb : JSs X cn W body sb) : JS X cn W (.While t body [] pos) (sWhl n ta sb) := by
  obtain ⟨t0, p0, d0⟩ := ht
  obtain ⟨t1, p1, d1⟩ := hb
  refine ⟨_, ps_while hp p0 p1, fun C Γ σ F H Dn R k => ?_⟩
  refine ⟨fun m σ H => ∃ Γ1 F1, Same F F1 ∧ RelS X.K cn C Γ1 σ F1 H ∧ Post (whl ta sb m Γ1) (SEnd X.K cn C F Dn) (XW X.K cn C F W), ⟨n, Γ, F, Same.refl _, R, k⟩, ?_⟩
  rintro m σ1 H1 ⟨Γ1, F1, s1, R1, k1⟩
  cases m with
  | zero => exact k1.elim
  | succ m =>
    refine d0 C Γ1 σ1 F1 H1 _ R1 ((show Post ((ta Γ1).bind _) _ _ from k1).bind.mono (fun p k F' H' s2 R2 => ?_) fun _ _ z => XW.up s1 z)
    obtain ⟨c, Γ2⟩ := p
    cases c with
    | true =>
      rw [if_pos rfl]
      refine ⟨fun σ' H' => ∃ Γ3 F3, Same F F3 ∧ RelS X.K cn C Γ3 σ' F3 H' ∧ Post (whl ta sb m Γ3) (SEnd X.K cn C F Dn) (XW X.K cn C F W), fun σ' H' q => ⟨m, Nat.lt_succ_self _, q⟩, ?_⟩
      refine d1 C Γ2 σ1 F' H' _ R2 ?_
      simp only [if_true] at k
      cases eb : sb Γ2 with
      | ok p =>
        rw [eb] at k
        obtain ⟨c, Γ3⟩ := p
        cases c with
        | nx => exact fun σ' F3 H3 s3 R3 => ⟨Γ3, F3, (s1.trans s2).trans s3, R3, k⟩
        | cnt => exact fun σ' F3 H3 s3 R3 => ⟨Γ3, F3, (s1.trans s2).trans s3, R3, k⟩
        | brk => exact fun σ' F3 H3 s3 R3 => k σ' F3 H3 ((s1.trans s2).trans s3) R3
        | ret o => exact fun v F3 H3 s3 b r => k v F3 H3 ((s1.trans s2).trans s3) b r
      | exc x Γ3 => rw [eb] at k; exact XW.up (s1.trans s2) k
      | bad => rw [eb] at k; exact k
    | false =>
      rw [if_neg Bool.false_ne_true]
      simp only [Bool.false_eq_true, if_false] at k
      exact k σ1 F' H' (s1.trans s2) R2
/-! targets -/
theorem jg_n (i : Nat) {x : Str} (hN : X.N.Nodup) (hi : X.N[i]? = some x := by rfl) (hx : Loc X.env.scope x := by first | exact Or.inl rfl | exact Or.inr rfl) (hf : X.fn x = true ∨ X.env.scope.names.lookup x = some .local := by first | exact .inl rfl | exact .inr rfl | assumption) : JG X cn (.Name x pos) (gN i) :=
  ⟨_, pg_name hN hi hx hf, fun C Γ σ F H v d Γ' N R rv e k => by
    cases e
    exact k _ F H (Same.refl _) (R.setV rv)⟩
theorem jgs_nil : JGs X cn [] [] := ⟨_, pgs_nil, fun C Γ σ F H vs ds Γ' N R rv e k => by
  cases ds with
  | nil =>
    cases e
    exact ⟨rv.inv0, k _ F H (Same.refl _) R⟩
  | cons d ds => cases e⟩
theorem jgs_cons {g : GV} {gr : List GV} (h1 : JG X cn e g) (h2 : JGs X cn es gr) (hs : (assignEach (e :: es) X.env).map (·.2) = assign e X.env :: (assignEach es X.env).map (·.2) := by rfl) : JGs X cn (e :: es) (g :: gr) := by
  obtain ⟨t1, p1, d1⟩ := h1
  obtain ⟨t2, p2, d2⟩ := h2
  refine ⟨_, pgs_cons p1 p2 hs, fun C Γ σ F H vs ds Γ' N R rv e k => ?_⟩
  cases ds with
  | nil => cases e
  | cons d ds =>
    obtain ⟨v, vs', rfl, r1, r2⟩ := rv.inv
    unfold gs at e
    cases q : g d Γ with
    | none => rw [q] at e; cases e
    | some Γ1 =>
      rw [q] at e
      exact ⟨v, vs', rfl, d1 C Γ σ F H v d Γ1 _ R r1 q fun σ' F' H' s R1 => d2 C Γ1 σ' F' H' vs' ds Γ' N R1 (r2.mono s) e fun σ2 F2 H2 s2 R2 => k σ2 F2 H2 (s.trans s2) R2⟩
theorem jg_t {k : Nat} {gl : List GV} {n : Nat} (hc : X.calm = true) (h : JGs X cn es gl) (hg : gl.length = n := by rfl) (hn : (assignEach es X.env).length = n := by rfl) (hst : (assignEach es X.env).findIdx? (·.1) = none := by rfl) : JG X cn (.Tuple es k pos) (gT gl) := by
  obtain ⟨t, p, d⟩ := h
  have pp : PG X (.Tuple es k pos) (fun v σ H Q => gTup X.K n t v σ H Q ∨ gLst X.K n t v σ H Q) := ⟨fun pins s σ H v u Q I r q => q.elim (fun q => (pg_tup hc p hn hst).run pins s σ H v u Q I r q) fun q => (pg_lst hc p hn hst).run pins s σ H v u Q I r q⟩
  refine ⟨_, pp, fun C Γ σ F H v x Γ' N R rv e kk => ?_⟩
  have len : ∀ {ds : List D} {gl : List GV} {Γ Γ' : Env}, gs gl ds Γ = some Γ' → ds.length = gl.length := by
    intro ds
    induction ds with
    | nil => intro gl Γ Γ' e; cases gl with
      | nil => rfl
      | cons g r => cases e
    | cons d ds ih =>
      intro gl Γ Γ' e
      cases gl with
      | nil => cases e
      | cons g r =>
        unfold gs at e
        cases q : g d Γ with
        | none => rw [q] at e; cases e
        | some Γ1 => rw [q] at e; simp [ih e]
  cases x with
  | tup ds =>
    obtain ⟨a, vs, rfl, hq, r⟩ := Rep.tupE R.bs.fh rv
    exact .inl ⟨a, vs, rfl, hq, by rw [r.1, ← hg]; exact len e, d C Γ σ F H vs ds Γ' N R r e kk⟩
  | lst ds =>
    cases rv with
    | lst hq hl r => exact .inr ⟨_, _, rfl, SqL.of (R.bs.fh _ _ hq), by rw [hl, ← hg]; exact len e, d C Γ σ F H _ ds Γ' N R ⟨hl, r⟩ e kk⟩
  | _ => cases e
theorem js_asg {tg : Expr} {g : GV} (he : JE X cn W e ea) (hg : JG X cn tg g) (hs : swapsWithSole [tg] e pos.line X.env = pure false := by rfl) (hw : swappedStores [tg] e X.env = pure none := by rfl)
    (h1 : (assignEach [tg] X.env).map (·.2) = [assign tg X.env] := by rfl) : JS X cn W (.Assign [tg] e pos) (sAsg g ea) := by
  obtain ⟨t, p, d⟩ := he
  obtain ⟨t1, p1, d1⟩ := hg
  refine ⟨_, ps_asg p p1 hs hw h1, fun C Γ σ F H Dn R k => ?_⟩
  refine d C Γ σ F H _ R (k.bind.mono (fun p k v F' H' s r rv => ?_) fun _ _ z => z)
  cases q : g p.1 p.2 with
  | none => simp only [q] at k; exact k.elim
  | some Γ2 =>
    simp only [q] at k
    exact d1 C p.2 σ F' H' v p.1 Γ2 _ r rv q fun σ' F2 H2 s2 R2 => k σ' F2 H2 (s.trans s2) R2
/-! loops -/
theorem js_for {tg it : Expr} {body : List Stmt} {g : GV} {lv : LV} (hp : PassesOwn (model X.prog X.w) X.A X.env X.xe) (hc : X.calm = true) (hi : JI X cn W tg it lv) (hg : JG X cn tg g) (hb : JSs X cn W body sb)
    (hs : ∀ x, foldedSetIterable it X.env x = pure x := by intro _; rfl) : JS X cn W (.For tg it body [] pos) (sFor g lv sb) := by
  obtain ⟨wi, pi, di⟩ := hi
  obtain ⟨t1, p1, d1⟩ := hg
  obtain ⟨t2, p2, d2⟩ := hb
  refine ⟨_, ps_for hp hc pi p1 p2 hs, fun C Γ σ F H Dn R k => ?_⟩
  refine di C Γ σ F H _ R (k.bind.mono (fun p k J F' H' s R1 hJ => ?_) fun _ _ z => z)
  obtain ⟨ds, Γ0⟩ := p
  refine ⟨fun i m σ H => m = ds.length - i ∧ i ≤ ds.length ∧ ∃ Γ1 F1, Same F' F1 ∧ RelS X.K cn C Γ1 σ F1 H ∧ Post (forL g sb (ds.drop i) Γ1) (SEnd X.K cn C F Dn) (XW X.K cn C F W), ⟨ds.length, by simp, Nat.zero_le _, Γ0, F', Same.refl _, R1, k⟩, ?_⟩
  rintro i m σ1 H1 ⟨rfl, hi, Γ1, F1, s1, R2, k1⟩
  obtain ⟨go, stop⟩ := hJ i F1 H1 s1 R2.bs
  by_cases hlt : i < ds.length
  · have e : ds[i]? = some ds[i] := by simp [hlt]
    obtain ⟨g1, g2⟩ := go _ e
    rw [List.drop_eq_getElem_cons hlt] at k1
    refine .inr ⟨g1, fun σ' H' => i + 1 ≤ ds.length ∧ ∃ Γ1 F1, Same F' F1 ∧ RelS X.K cn C Γ1 σ' F1 H' ∧ Post (forL g sb (ds.drop (i + 1)) Γ1) (SEnd X.K cn C F Dn) (XW X.K cn C F W), fun σ' H' q => ⟨ds.length - (i + 1), by omega, rfl, q⟩, fun x H2 y => ?_⟩
    obtain ⟨F3, ex, rx⟩ := g2 x H2 y
    unfold forL at k1
    cases q : g ds[i] Γ1 with
    | none => rw [q] at k1; exact k1.elim
    | some Γ2 =>
      rw [q] at k1
      dsimp only at k1
      refine d1 C Γ1 σ1 F3 H2 x ds[i] Γ2 _ (R2.ext ex) rx q fun σ' F4 H4 s4 R4 => ?_
      refine d2 C Γ2 σ' F4 H4 _ R4 ?_
      have sa : Same F' F4 := (s1.trans ex.f).trans s4
      cases eb : sb Γ2 with
      | ok p =>
        rw [eb] at k1
        obtain ⟨c, Γ3⟩ := p
        cases c with
        | nx => exact fun σ' F5 H5 s5 R5 => ⟨hlt, Γ3, F5, sa.trans s5, R5, k1⟩
        | cnt => exact fun σ' F5 H5 s5 R5 => ⟨hlt, Γ3, F5, sa.trans s5, R5, k1⟩
        | brk => exact fun σ' F5 H5 s5 R5 => k1 σ' F5 H5 (s.trans (sa.trans s5)) R5
        | ret o => exact fun v F5 H5 s5 b r => k1 v F5 H5 (s.trans (sa.trans s5)) b r
      | exc x Γ3 => rw [eb] at k1; exact XW.up (s.trans sa) k1
      | bad => rw [eb] at k1; exact k1
  · have e : ds.drop i = [] := List.drop_eq_nil_of_le (by omega)
    rw [e] at k1
    exact .inl ⟨stop (by show ds.length ≤ i; omega), k1 σ1 F1 H1 (s.trans s1) R2⟩
theorem PI.or {tg it : Expr} {w1 w2 : TI} (h1 : PI X tg it w1) (h2 : PI X tg it w2) : PI X tg it (fun σ H R => w1 σ H R ∨ w2 σ H R) := ⟨fun pins s σ H R I q => q.elim (h1.run pins s σ H R I) (h2.run pins s σ H R I)⟩
/-- what can be read now and later -/
def Stable (K : PySem.W.Frag) (cn : Cn) (C : Ct) (F : Hp) (v : V) (d : D) : Prop := Rep K cn F v d ∨ Shal K cn F C.B0 v d
theorem itd_lst {C : Ct} {F : Hp} {v : V} {ds : List D} (h : Stable X.K cn C F v (.lst ds)) : ∃ a, v = .ref a ∧ ItD X.K cn C F (Itl X.K a) ds ∧ ∀ F2 H2, Same F F2 → Bas C F2 H2 → ∃ vs, SqL X.K H2 a vs := by
  obtain ⟨a, vs, e, rv, st⟩ : ∃ a vs, v = .ref a ∧ Reps X.K cn F vs ds ∧ ∀ F2 H2, Same F F2 → Bas C F2 H2 → SqL X.K H2 a vs := by
    rcases h with h | ⟨a, vs, e, h, r⟩
    · cases h with
      | lst h hl r => exact ⟨_, _, rfl, ⟨hl, r⟩, fun F2 H2 s b => SqL.of (b.fh _ _ (s _ _ h))⟩
    · refine ⟨a, vs, e, r, fun F2 H2 s b => ?_⟩
      have ne : ∀ a, (∃ o, C.H0 a = some o ∧ ∀ c dx fs, o ≠ .ins c dx fs) → C.slf ≠ some a := fun a ⟨o, h1, h2⟩ z => by
        obtain ⟨c, dx, fs, q⟩ := (b.si a z).1
        rw [h1] at q; cases q; exact h2 _ _ _ rfl
      have h := b.b0 _ _ h
      exact SqL.of (b.h0 _ _ h (ne a ⟨_, h, fun _ _ _ z => by cases z⟩))
  refine ⟨a, e, fun i F2 H2 s b => ⟨fun d hd => ?_, fun hi => ⟨vs, st F2 H2 s b, by rw [rv.1]; exact hi⟩⟩, fun F2 H2 s b => ⟨vs, st F2 H2 s b⟩⟩
  obtain ⟨v, hv, r1⟩ := rv.get hd
  exact ⟨⟨vs, v, st F2 H2 s b, hv⟩, fun x H3 ⟨e, y⟩ => by
    subst e
    have := y vs (st F2 _ s b)
    rw [hv] at this; cases this
    exact ⟨F2, Ext.refl b.fh, r1.mono s⟩⟩
theorem itd_tup {C : Ct} {F : Hp} {v : V} {ds : List D} (h : Rep X.K cn F v (.tup ds)) : ∃ a, v = .ref a ∧ ItD X.K cn C F (Itt X.K a) ds ∧ ∀ F2 H2, Same F F2 → Bas C F2 H2 → ∃ vs, SqT X.K H2 a vs := by
  cases h with
  | @tup a vs _ h hl r =>
    have rv : Reps X.K cn F vs ds := ⟨hl, r⟩
    have st : ∀ F2 H2, Same F F2 → Bas C F2 H2 → SqT X.K H2 a vs := fun F2 H2 s b => same_seqT b.fh (same_seqT s h)
    refine ⟨a, rfl, fun i F2 H2 s b => ⟨fun d hd => ?_, fun hi => ⟨vs, st F2 H2 s b, by rw [rv.1]; exact hi⟩⟩, fun F2 H2 s b => ⟨vs, st F2 H2 s b⟩⟩
    obtain ⟨v, hv, r1⟩ := rv.get hd
    exact ⟨⟨vs, v, st F2 H2 s b, hv⟩, fun x H3 ⟨e, y⟩ => by
      subst e
      have := y vs (st F2 _ s b)
      rw [hv] at this; cases this
      exact ⟨F2, Ext.refl b.fh, r1.mono s⟩⟩
theorem ji_e {tg : Expr} (h : JE X cn W e ea) : JI X cn W tg e (iSeq ea) := by
  obtain ⟨t, p, d⟩ := h
  refine ⟨_, PI.or (pi_list p) (pi_tup p), fun C Γ σ F H R RR k => ?_⟩
  have k' := k.bind
  cases eq : ea Γ with
  | bad => rw [eq] at k'; exact k'.elim
  | exc x Γ1 => rw [eq] at k'; exact .inl (d C Γ σ F H _ RR (by rw [eq]; exact k'))
  | ok p =>
    obtain ⟨d0, Γ1⟩ := p
    rw [eq] at k'
    obtain ⟨ds, e3, k2⟩ := (show Post ((Ed.R.of (items d0)).bind fun ds => Ed.R.ok (ds, Γ1)) _ _ from k').bind.of
    cases d0 with
    | lst xs =>
      cases e3
      refine .inl (d C Γ σ F H _ RR ?_)
      rw [eq]
      intro v F' H' s r rv
      obtain ⟨a, ev, it, sq⟩ := itd_lst (C := C) (.inl rv)
      exact ⟨a, ev, sq F' H' (Same.refl _) r.bs, k2 _ F' H' s r it⟩
    | tup xs =>
      cases e3
      refine .inr (d C Γ σ F H _ RR ?_)
      rw [eq]
      intro v F' H' s r rv
      obtain ⟨a, ev, it, sq⟩ := itd_tup (C := C) rv
      exact ⟨a, ev, sq F' H' (Same.refl _) r.bs, k2 _ F' H' s r it⟩
    | _ => cases e3
theorem ji_n {tg : Expr} (i : Nat) {x : Str} {pos : Pos} (hN : X.N[i]? = some x := by rfl) (hv : Vis X.env.scope x := by first | exact Or.inl rfl | exact Or.inr (Or.inl rfl) | exact Or.inr (Or.inr rfl)) (hd : (x == ("__debug__" : Str)) = false := by decide)
    (hcd : (x == ("__classdict__" : Str)) = false := by decide) : JI X cn W tg (.Name x pos) (iN i) := by
  refine ⟨_, PI.or (pi_list (pe_var hN hv hd hcd)) (pi_tup (pe_var hN hv hd hcd)), fun C Γ σ F H R RR k => ?_⟩
  unfold iN at k
  have fin : ∀ {d0 : D} {s : Sl} {v : V} {F' : Hp}, σ[i]? = some (some v) → Same F F' → RelS X.K cn C (put Γ i s) σ F' H → Stable X.K cn C F' v d0 → (∀ ds, d0 = .tup ds → Rep X.K cn F' v d0) →
      Post ((Ed.R.of (items d0)).bind fun ds => Ed.R.ok (ds, put Γ i s)) (fun p => ∀ J F' H', Same F F' → RelS X.K cn C p.2 σ F' H' → ItD X.K cn C F' J p.1 → R J H') (XW X.K cn C F W) →
      iList X.K (tVar i) σ H R ∨ iTup X.K (tVar i) σ H R := fun {d0 s v F'} ev sf r st tp k => by
    obtain ⟨ds, e3, k2⟩ := k.bind.of
    cases d0 with
    | lst xs =>
      cases e3
      obtain ⟨a, e, it, sq⟩ := itd_lst (C := C) st
      subst e
      exact .inl ⟨_, ev, a, rfl, sq F' H (Same.refl _) r.bs, k2 _ F' H sf r it⟩
    | tup xs =>
      cases e3
      obtain ⟨a, e, it, sq⟩ := itd_tup (C := C) (tp _ rfl)
      subst e
      exact .inr ⟨_, ev, a, rfl, sq F' H (Same.refl _) r.bs, k2 _ F' H sf r it⟩
    | _ => cases e3
  cases q : get Γ i with
  | val d0 =>
    rw [q] at k
    obtain ⟨v, F', e1, sf, rv, r'⟩ := RR.frz (i := i) (d := d0) (s := .val d0) (by rw [q]; rfl)
    exact fin e1 sf r' (.inl rv) (fun _ _ => rv) k
  | own d0 =>
    rw [q] at k
    obtain ⟨v, F', e1, sf, rv, r'⟩ := RR.frz (i := i) (d := d0) (s := .val d0) (by rw [q]; rfl)
    exact fin e1 sf r' (.inl rv) (fun _ _ => rv) k
  | bor d0 =>
    rw [q] at k
    obtain ⟨v, e1, sh⟩ := RR.at q (fun z => by cases z)
    have e2 : put Γ i (.bor d0) = Γ := by
      rw [put_eq]
      have gq := get_some q (fun z => by cases z)
      apply List.ext_getElem?
      intro j
      by_cases z : i = j
      · subst z
        obtain ⟨hi, _⟩ := List.getElem?_eq_some_iff.mp gq
        rw [List.getElem?_set_self hi, gq]
      · rw [List.getElem?_set_ne z]
    refine fin (join_some e1) (Same.refl _) (by rw [e2]; exact RR) (.inr sh) (fun ds e => ?_) k
    subst e
    exact sh
  | _ => rw [q] at k; exact k.elim
theorem itd_rng {C : Ct} {F : Hp} (lo : Int) (n : Nat) : ItD X.K cn C F (Itr lo n) (rngL lo n) := fun i F2 H2 s b => by
  refine ⟨fun d hd => ?_, fun hi => by
    show n ≤ i
    simpa [rngL] using hi⟩
  obtain ⟨hi, e⟩ := List.getElem?_eq_some_iff.mp hd
  have hi' : i < n := by simpa [rngL] using hi
  have e' : d = .int (lo + i) := by rw [← e]; simp [rngL]
  exact ⟨hi', fun x H3 ⟨e1, e2⟩ => by subst e1 e2; exact ⟨F2, Ext.refl b.fh, by rw [e']; exact .int _⟩⟩
theorem ji_rg1 {tg : Expr} {p : Pos} (hg : Gl X "range") (hm : X.mg "range" = none) (ha : JQ X cn W a qa) (hs : starEach [a] X.env = [(false, eval a X.env)] := by rfl) : JI X cn W tg (.Call (.Name "range" p) [a] [] pos) (iRg1 qa) := by
  obtain ⟨t, pe, d⟩ := ha
  refine ⟨_, pi_range1 hg hm (pa_cons pe pa_nil hs) hs, fun C Γ σ F H R RR k => ?_⟩
  refine d C Γ σ F H _ RR (k.bind.mono (fun p k v F' H' s1 R1 hv => ?_) fun _ _ z => z)
  obtain ⟨pv, Γ1⟩ := p
  dsimp only at k hv R1
  cases e1 : rd Γ1 pv with
  | none => simp only [e1] at k; exact k.elim
  | some d1 =>
    cases d1 with
    | int n =>
      simp only [e1] at k
      have sh := (R1.rd e1 hv).int
      subst sh
      split at k
      · rename_i hb
        simp only [rngB, Bool.and_eq_true, decide_eq_true_eq] at hb
        exact ⟨n, rfl, hb.1, hb.2, k _ F' H' s1 R1 (itd_rng 0 _)⟩
      · exact k.elim
    | _ => simp only [e1] at k; exact k.elim
theorem ji_rg2 {tg : Expr} {p : Pos} (hg : Gl X "range") (hm : X.mg "range" = none) (ha : JQ X cn W a qa) (hb : JQ X cn W b qb) (hs : starEach [a, b] X.env = [(false, eval a X.env), (false, eval b X.env)] := by rfl) (hs2 : starEach [b] X.env = [(false, eval b X.env)] := by rfl) :
    JI X cn W tg (.Call (.Name "range" p) [a, b] [] pos) (iRg2 qa qb) := by
  obtain ⟨t, pe, d⟩ := ha
  obtain ⟨t2, pe2, d2⟩ := hb
  refine ⟨_, pi_range2 hg hm (pa_cons pe (pa_cons pe2 pa_nil hs2) (by rw [hs, hs2])) hs hs2, fun C Γ σ F H R RR k => ?_⟩
  refine d C Γ σ F H _ RR (k.bind.mono (fun p k v F' H' s1 R1 hv => ?_) fun _ _ z => z)
  refine d2 C p.2 σ F' H' _ R1 (k.bind.mono (fun q k w F2 H2 s2 R2 hw => ?_) fun _ _ z => XW.up s1 z)
  obtain ⟨pw, Γ2⟩ := q
  dsimp only at k hw R2
  cases e1 : rd Γ2 p.1 with
  | none => simp only [e1] at k; exact k.elim
  | some d1 =>
    cases e2 : rd Γ2 pw with
    | none => simp only [e1, e2] at k; cases d1 <;> exact k.elim
    | some d2 =>
      cases d1 with
      | int m =>
        cases d2 with
        | int n =>
          simp only [e1, e2] at k
          have sh := (R2.rd e1 (hv.mono s2)).int
          have sh2 := (R2.rd e2 hw).int
          subst sh sh2
          split at k
          · rename_i hb
            simp only [rngB, Bool.and_eq_true, decide_eq_true_eq] at hb
            exact ⟨m, n, rfl, ⟨hb.1.1, hb.1.2, hb.2.1, hb.2.2⟩, k _ F2 H2 (s1.trans s2) R2 (itd_rng m _)⟩
          · exact k.elim
        | _ => simp only [e1, e2] at k; exact k.elim
      | _ => simp only [e1, e2] at k; exact k.elim
end
end Ed

set_option autoImplicit true
set_option Elab.async false
set_option linter.all false
set_option maxRecDepth 100000
/-! defs: what a def over data promises; calls -/
namespace Ed
open PySem L2

section
variable (K : PySem.W.Frag) (cn : Cn)
def ArgR (F H : Hp) : List Bool → List V → List D → Prop
  | [], [], [] => True
  | m :: ms, v :: vs, d :: ds => (if m = true then Shal K cn F H v d else Rep K cn F v d) ∧ ArgR F H ms vs ds
  | _, _, _ => False
def spD (ms : List Bool) (Ff : FV) : Sp := fun vs H Q E => vs.length = ms.length ∧ ∃ F ds, Same F H ∧ ArgR K cn F H ms vs ds ∧
  Post (Ff ds) (fun o => ∀ v F' H', Ext F H F' H' → DVR K cn ⟨H, H, F, none⟩ F' H' v o → Q v H') (fun x _ => ∀ cls od F' H', Ext F H F' H' → RepX K cn F' cls od x → E cls od H')
/-- an __init__: the object in the making at p -/
def spI (c : Nat) (ms : List Bool) (Ff : List D → R (List (Nat × D))) : Sp := fun vs H Q E => vs.length = ms.length + 1 ∧ ∃ p vs' dx F ds, vs = .ref p :: vs' ∧ H p = some (.ins (cn.ca c) dx []) ∧ F p = none ∧ Same F H ∧ ArgR K cn F H ms vs' ds ∧
  Post (Ff ds) (fun fs => ∀ F' H', Same F F' → Same F' H' → (∀ b o, H b = some o → b ≠ p → H' b = some o) → (∀ b, F b = none → H b ≠ none → F' b = none) →
      (∃ dx fvs, H' p = some (.ins (cn.ca c) dx fvs) ∧ RepP K cn cn.fa F' fvs fs) → Q .non H')
    (fun x _ => ∀ cls od F' H', Same F F' → Same F' H' → (∀ b o, H b = some o → b ≠ p → H' b = some o) → (∀ b, F b = none → H b ≠ none → F' b = none) → (∃ o, H' p = some o) → RepX K cn F' cls od x → E cls od H')
end
section
variable {P : Program} {w : World} {K : PySem.W.Frag} {mg : Str → Option Value} {base : Heap} {cn : Cn}
theorem ArgR.len {F H : Hp} : ∀ {ms : List Bool} {vs : List V} {ds : List D}, ArgR K cn F H ms vs ds → vs.length = ms.length ∧ ds.length = ms.length
  | [], [], [], _ => ⟨rfl, rfl⟩
  | _ :: _, _ :: _, _ :: _, h => by
    obtain ⟨a, b⟩ := ArgR.len h.2
    exact ⟨by simp [a], by simp [b]⟩
  | [], [], _ :: _, h => h.elim
  | [], _ :: _, _, h => h.elim
  | _ :: _, [], _, h => h.elim
  | _ :: _, _ :: _, [], h => h.elim
theorem pad_none : ∀ (n i : Nat) (s : Sl), (pad n)[i]? = some s → s = .emp
  | 0, i, s, h => by simp [pad] at h
  | n + 1, 0, s, h => by simp [pad] at h; exact h.symm
  | n + 1, i + 1, s, h => pad_none n i s (by simpa [pad] using h)
theorem pad_len : ∀ n, (pad n).length = n
  | 0 => rfl
  | n + 1 => by simp [pad, pad_len n]
theorem ins0_len {F H : Hp} : ∀ {ms : List Bool} {vs : List V} {ds : List D}, ArgR K cn F H ms vs ds → (ins0 ms ds).length = ms.length
  | [], [], [], _ => rfl
  | _ :: _, _ :: _, _ :: _, h => by simp [ins0, ins0_len h.2]
  | [], [], _ :: _, h => h.elim
  | [], _ :: _, _, h => h.elim
  | _ :: _, [], _, h => h.elim
  | _ :: _, _ :: _, [], h => h.elim
theorem inSl_ok {C : Ct} {F H : Hp} {m : Bool} {v : V} {d : D} (hs : Same F H) (e : C.B0 = H) (h : if m = true then Shal K cn F H v d else Rep K cn F v d) : SlR K cn C F H (some v) (inSl m d) := by
  subst e
  cases m with
  | false => cases d <;> exact ⟨v, rfl, h⟩
  | true =>
    have h : Shal K cn F C.B0 v d := h
    cases d <;> exact ⟨v, rfl, h⟩
theorem inSl_no {m : Bool} {d d' : D} : inSl m d ≠ .own d' := by
  cases m <;> cases d <;> (intro h; cases h)
theorem inSl_nos {m : Bool} {d : D} {c : Nat} {fs : List (Nat × D)} : inSl m d ≠ .slf c fs := by
  cases m <;> cases d <;> (intro h; cases h)
theorem ins0_at {C : Ct} {F H : Hp} (hs : Same F H) (e : C.B0 = H) {n : Nat} : ∀ {ms : List Bool} {vs : List V} {ds : List D}, ArgR K cn F H ms vs ds →
    ∀ (i : Nat) s, (ins0 ms ds ++ pad n)[i]? = some s → SlR K cn C F H (((vs.map some ++ List.replicate n none)[i]?).join) s ∧ (∀ d, s ≠ .own d) ∧ ∀ c fs, s ≠ .slf c fs
  | [], [], [], _, i, s, q => by
    have := pad_none n i s (by simpa [ins0] using q)
    subst this
    exact ⟨True.intro, (fun d z => by cases z), fun _ _ z => by cases z⟩
  | m :: ms, v :: vs, d :: ds, h, 0, s, q => by
    simp only [ins0, List.cons_append, List.getElem?_cons_zero, Option.some.injEq] at q
    subst q
    exact ⟨inSl_ok hs e h.1, (fun d' => inSl_no), fun _ _ => inSl_nos⟩
  | m :: ms, v :: vs, d :: ds, h, i + 1, s, q => ins0_at hs e h.2 i s (by simpa [ins0] using q)
  | [], [], _ :: _, h, _, _, _ => h.elim
  | [], _ :: _, _, h, _, _, _ => h.elim
  | _ :: _, [], _, h, _, _, _ => h.elim
  | _ :: _, _ :: _, [], h, _, _, _ => h.elim
theorem start_rel {F H : Hp} {ms : List Bool} {vs : List V} {ds : List D} {N : List Str} {n : Nat} (hs : Same F H) (h : ArgR K cn F H ms vs ds) (hN : N.length = ms.length + n) :
    RelS K cn ⟨H, H, F, none⟩ (ins0 ms ds ++ pad n) (L2.start N vs) F H := by
  obtain ⟨l1, l2⟩ := h.len
  have e : N.length - vs.length = n := by omega
  unfold L2.start
  rw [e]
  refine ⟨⟨hs, Same.refl _, fun b o q _ => q, fun b q _ => q, (fun a z => by cases z), fun _ _ z => z⟩, by simp [ins0_len h, pad_len, l1], fun i s q => (ins0_at hs rfl h i s q).1, fun i j d d' a q _ _ _ => ?_, fun i c fs q => absurd rfl ((ins0_at (C := ⟨H, H, F, none⟩) hs rfl h i _ q).2.2 c fs)⟩
  exact absurd rfl ((ins0_at (C := ⟨H, H, F, none⟩) hs rfl h i _ q).2.1 d)
theorem Bas.toExt {F H F' H' : Hp} (b : Bas ⟨H, H, F, none⟩ F' H') : Ext F H F' H' := ⟨b.f0, fun a o q => b.h0 a o q (fun z => by cases z), b.fh, b.nw⟩
theorem bodyD {X : Cx} {ms : List Bool} {n : Nat} {sv : SV} {Ff : FV} {vs : List V} {H : Hp} {Q : VK} {E : XK} {N : List Str} {st : List Stmt} (hN : N.length = ms.length + n) (hF : ∀ ds, Ff ds = runF ms n sv ds)
    (h : spD X.K cn ms Ff vs H Q E) (body : JSs X cn (fun cls d _ H => E cls d H) st sv) : ∃ t, PSs X st t ∧ t { nx := fun _ H' => Q .non H', rt := Q } (L2.start N vs) H := by
  obtain ⟨t, p, d⟩ := body
  obtain ⟨hl, F, ds, hs, ha, k⟩ := h
  refine ⟨t, p, d ⟨H, H, F, none⟩ (ins0 ms ds ++ pad n) (L2.start N vs) F H _ (start_rel hs ha hN) ?_⟩
  rw [hF] at k
  unfold runF at k
  rw [if_pos ha.len.2] at k
  cases e : sv (ins0 ms ds ++ pad n) with
  | bad => rw [e] at k; exact k.elim
  | exc x Γ => rw [e] at k; exact fun cls od σ' F' H' _ r q => k cls od F' H' r.bs.toExt q
  | ok p =>
    obtain ⟨c, Γ⟩ := p
    rw [e] at k
    cases c with
    | nx => exact fun σ' F' H' s r => k .non F' H' r.bs.toExt .non
    | ret o => exact fun v F' H' s b r => k v F' H' b.toExt r
    | brk => exact k.elim
    | cnt => exact k.elim
theorem okD {x qual : Str} {st : Stmt} {f : Addr} {fd : FuncData} {N ps : List Str} {k : Nat} {ms : List Bool} {n : Nat} {sv : SV} {Ff : FV} (F : Fun K x qual st f fd) (S : FnScope N ps (defScope st)) (hp : ms.length = ps.length) (hN : N.length = ms.length + n) (hF : ∀ ds, Ff ds = runF ms n sv ds)
    (hbody : ∀ (cdv : Value) (A : Around) (outer : List PySem.Env) (s : Shared) (H : Hp) (E : XK), Room k (A.deeper (PyProof.Rows.envOfC qual (defScope st) s.heap.objs.size f cdv)) →
      JSs (cxOf (L2.CX P w) P w K mg base N qual (defScope st) f cdv A outer s H E) cn (fun cls d _ H => E cls d H) (defBody st) sv) : FnOk P w K mg base (L2.CX P w) (k + 1) f fd ps (spD K cn ms Ff) :=
  F.okX S (fun vs H Q E h => by rw [h.1]; exact hp) fun cdv A outer s H vs Q E hr h => bodyD (X := cxOf (L2.CX P w) P w K mg base N qual (defScope st) f cdv A outer s H E) hN hF h (hbody cdv A outer s H E hr)
end

section
variable {X : Cx} {cn : Cn} {W : WX} {e o : Expr} {es : List Expr} {pos : Pos} {eo : EV} {av : AV}
theorem prep_ok {C : Ct} {σ : L2.St} {H : Hp} : ∀ {ms : List Bool} {ps : List PV} {vs : List V} {Γ Γ' : Env} {F : Hp} {ds : List D}, RelS X.K cn C Γ σ F H → PVRs X.K cn σ F vs ps → prep Γ ms ps = some (ds, Γ') →
    ∃ F', Same F F' ∧ RelS X.K cn C Γ' σ F' H ∧ ArgR X.K cn F' H ms vs ds
  | [], [], [], Γ, Γ', F, ds, R, q, e => by
    cases e
    exact ⟨F, Same.refl _, R, True.intro⟩
  | [], [], _ :: _, _, _, _, _, _, q, _ => q.elim
  | [], _ :: _, _, _, _, _, _, _, _, e => by cases e
  | _ :: _, [], _, _, _, _, _, _, _, e => by cases e
  | _ :: _, _ :: _, [], _, _, _, _, _, q, _ => q.elim
  | m :: ms, p :: ps, v :: vs, Γ, Γ', F, ds, R, q, e => by
    unfold prep at e
    cases p with
    | pd d =>
      dsimp only at e
      cases e1 : prep Γ ms ps with
      | none => rw [e1] at e; cases e
      | some r =>
        obtain ⟨ds', Γ2⟩ := r
        rw [e1] at e; cases e
        obtain ⟨F', s, R', ar⟩ := prep_ok R q.2 e1
        refine ⟨F', s, R', ?_, ar⟩
        have h1 : Rep X.K cn F' v d := Rep.mono s q.1
        cases m with
        | true => exact h1.shal R'.bs.fh
        | false => exact h1
    | pn i =>
      dsimp only at e
      cases m with
      | true =>
        simp only [if_true] at e
        cases e0 : look (get Γ i) with
        | none => rw [e0] at e; cases e
        | some d =>
          cases e1 : prep Γ ms ps with
          | none => rw [e0, e1] at e; cases e
          | some r =>
            obtain ⟨ds', Γ2⟩ := r
            rw [e0, e1] at e; cases e
            obtain ⟨F', s, R', ar⟩ := prep_ok R q.2 e1
            obtain ⟨w, ew, sh⟩ := R.read e0
            rw [show σ[i]? = some (some v) from q.1] at ew
            cases ew
            exact ⟨F', s, R', sh.mono s (Same.refl _), ar⟩
      | false =>
        simp only [Bool.false_eq_true, if_false] at e
        cases e0 : frzS (get Γ i) with
        | none => rw [e0] at e; cases e
        | some r =>
          obtain ⟨d, s0⟩ := r
          rw [e0] at e
          dsimp only at e
          obtain ⟨w, F1, ew, s1, rw1, R1⟩ := R.frz e0
          rw [show σ[i]? = some (some v) from q.1] at ew
          cases ew
          cases e1 : prep (put Γ i s0) ms ps with
          | none => rw [e1] at e; cases e
          | some r =>
            obtain ⟨ds', Γ2⟩ := r
            rw [e1] at e; cases e
            obtain ⟨F', s, R', ar⟩ := prep_ok R1 (PVRs.mono s1 q.2) e1
            exact ⟨F', s1.trans s, R', rw1.mono s, ar⟩
/-- what comes back -/
def DVN (K : PySem.W.Frag) (cn : Cn) (C : Ct) (Γ : Env) (σ : L2.St) (F H : Hp) (v : V) : DV → Prop
  | .fz d => Rep K cn F v d
  | .fr d => NewR K cn C Γ σ F H v d
theorem call_ok {C : Ct} {σ : L2.St} {Γ : Env} {F H : Hp} {ms : List Bool} {ps : List PV} {vs : List V} {Ff : FV} {P' : DV × Env → Prop} {Q : VK} (R : RelS X.K cn C Γ σ F H) (q : PVRs X.K cn σ F vs ps) (k : Post (callF Ff ms ps Γ) P' (XW X.K cn C F W))
    (hP : ∀ o Γ2 v F2 H2, P' (o, Γ2) → Same F F2 → RelS X.K cn C Γ2 σ F2 H2 → DVN X.K cn C Γ2 σ F2 H2 v o → Q v H2) : spD X.K cn ms Ff vs H Q (WE W σ) := by
  unfold callF at k
  cases e1 : prep Γ ms ps with
  | none => rw [e1] at k; exact k.elim
  | some r =>
    obtain ⟨ds, Γ2⟩ := r
    rw [e1] at k
    dsimp only at k
    obtain ⟨F1, s1, R1, ar⟩ := prep_ok R q e1
    refine ⟨ar.len.1, F1, ds, R1.bs.fh, ar, ?_⟩
    cases e2 : Ff ds with
    | bad => rw [e2] at k; exact k.elim
    | exc x Γ3 => rw [e2] at k; exact fun cls od F' H' ex rx => k cls od σ F' H' (s1.trans ex.f) (R1.ext ex) rx
    | ok o =>
      rw [e2] at k
      intro v F' H' ex dv
      refine hP o Γ2 v F' H' k (s1.trans ex.f) (R1.ext ex) ?_
      cases o with
      | fz d => exact dv
      | fr d =>
        obtain ⟨a, ev, n, n0, r⟩ := dv
        refine ⟨a, ev, n, ?_, r, fun i d' hi z => ?_⟩
        · have n1 : H a = none := n0
          cases q0 : C.H0 a with
          | none => rfl
          | some o =>
            by_cases hs : C.slf = some a
            · obtain ⟨o2, q2⟩ := (R1.bs.si a hs).2
              rw [n1] at q2; cases q2
            · have z := R1.bs.h0 a o q0 hs
              rw [n1] at z; cases z
        · obtain ⟨o, ho⟩ := R1.ownH hi z
          rw [show H a = none from n0] at ho; cases ho
theorem dvn_e {C : Ct} {Γ : Env} {σ : L2.St} {F H F0 : Hp} {v : V} {o : DV} {Q : VK} (s : Same F0 F) (R : RelS X.K cn C Γ σ F H) (h : DVN X.K cn C Γ σ F H v o) (k : EEnd X.K cn C σ F0 Q (o.d, Γ)) : Q v H := by
  cases o with
  | fz d => exact k v F H s R h
  | fr d =>
    obtain ⟨F2, s2, r2, R2⟩ := h.frz R
    exact k v F2 H (s.trans s2) R2 r2
section
variable {k : Nat} {f : Addr} {fd : FuncData} {ps : List Str} {ms : List Bool} {Ff : FV} {x : Str} {p : Pos}
theorem je_call (F : FnOk X.prog X.w X.K X.mg X.base (L2.CX X.prog X.w) k f fd ps (spD X.K cn ms Ff)) (hr : Room k X.A) (hg : Gl X x) (hm : X.mg x = some (.ref f)) (hk : PySem.W.keepIn X.K (.ref f) = true) (hb : Binds X.K fd ps []) (tk : Takes X W)
    (ha : JA X cn W (e :: es) av) (hdb : (x == ("__debug__" : Str)) = false := by decide) (he : starEach (e :: es) X.env = (false, eval e X.env) :: starEach es X.env := by rfl) (hpl : (backTo pos (starEach es X.env)).any (·.1) = false := by rfl) :
    JE X cn W (.Call (.Name x p) (e :: es) [] pos) (eCall Ff ms av) := by
  obtain ⟨t, pa, d⟩ := ha
  refine ⟨_, pe_callS F hr hg hm hk hb (fun σ => passAt tk σ) pa hdb he hpl, fun C Γ σ F H Q R k => ?_⟩
  refine d C Γ σ F H _ R (k.bind.mono (fun p k vs F' H' s1 R1 hv => ?_) fun _ _ z => z)
  exact call_ok R1 hv (k.bind.mono (fun _ z => z) fun _ _ z => XW.up s1 z) fun o Γ2 v F2 H2 hP s R2 dv => dvn_e (s1.trans s) R2 dv hP
theorem jn_call (F : FnOk X.prog X.w X.K X.mg X.base (L2.CX X.prog X.w) k f fd ps (spD X.K cn ms Ff)) (hr : Room k X.A) (hg : Gl X x) (hm : X.mg x = some (.ref f)) (hk : PySem.W.keepIn X.K (.ref f) = true) (hb : Binds X.K fd ps []) (tk : Takes X W)
    (ha : JA X cn W (e :: es) av) (hdb : (x == ("__debug__" : Str)) = false := by decide) (he : starEach (e :: es) X.env = (false, eval e X.env) :: starEach es X.env := by rfl) (hpl : (backTo pos (starEach es X.env)).any (·.1) = false := by rfl) :
    JN X cn W (.Call (.Name x p) (e :: es) [] pos) (nCall Ff ms av) := by
  obtain ⟨t, pa, d⟩ := ha
  refine ⟨_, pe_callS F hr hg hm hk hb (fun σ => passAt tk σ) pa hdb he hpl, fun C Γ σ F H Q R k => ?_⟩
  refine d C Γ σ F H _ R (k.bind.mono (fun p k vs F' H' s1 R1 hv => ?_) fun _ _ z => z)
  refine call_ok R1 hv (k.bind.mono (fun _ z => z) fun _ _ z => XW.up s1 z) fun o Γ2 v F2 H2 hP s R2 dv => ?_
  cases o with
  | fz d => exact hP.elim
  | fr d => exact hP v F2 H2 (s1.trans s) R2 dv
end
end
end Ed

set_option autoImplicit true
set_option Elab.async false
set_option linter.all false
set_option maxRecDepth 100000
/-! objects made, methods, errors -/
namespace Ed
open PySem L2

section
variable {P : Program} {w : World} {K : PySem.W.Frag} {mg : Str → Option Value} {base : Heap} {cn : Cn}
theorem start_relI {F H : Hp} {ms : List Bool} {vs : List V} {ds : List D} {N : List Str} {n c : Nat} {p dx : Addr} (hp : H p = some (.ins (cn.ca c) dx [])) (fp : F p = none) (hs : Same F H) (h : ArgR K cn F H ms vs ds) (hN : N.length = ms.length + 1 + n) :
    RelS K cn ⟨H, H, F, some p⟩ (.slf c [] :: (ins0 ms ds ++ pad n)) (L2.start N (.ref p :: vs)) F H := by
  obtain ⟨l1, l2⟩ := h.len
  have e : N.length - (V.ref p :: vs).length = n := by simp only [List.length_cons]; omega
  unfold L2.start
  rw [e]
  refine ⟨⟨hs, Same.refl _, fun b o q _ => q, fun b q _ => q, (fun a z => by cases z; exact ⟨⟨_, _, _, hp⟩, _, hp⟩), fun _ _ z => z⟩, by simp [ins0_len h, pad_len, l1], fun i s q => ?_, fun i j d d' a q _ _ _ => ?_, fun i c' fs q => ?_⟩
  · cases i with
    | zero =>
      simp only [List.getElem?_cons_zero, Option.some.injEq] at q
      subst q
      exact ⟨p, dx, [], rfl, rfl, fp, hp, rfl, fun i v d a _ => by simp at a⟩
    | succ i => exact (ins0_at (C := ⟨H, H, F, some p⟩) hs rfl h i s (by simpa using q)).1
  · cases i with
    | zero => simp only [List.getElem?_cons_zero, Option.some.injEq] at q; cases q
    | succ i => exact absurd rfl ((ins0_at (C := ⟨H, H, F, some p⟩) hs rfl h i _ (by simpa using q)).2.1 d)
  · cases i with
    | zero => rfl
    | succ i => exact absurd rfl ((ins0_at (C := ⟨H, H, F, some p⟩) hs rfl h i _ (by simpa using q)).2.2 c' fs)
theorem bodyI {X : Cx} {cn : Cn} {N : List Str} {c n : Nat} {ms : List Bool} {sv : SV} {Ff : List D → R (List (Nat × D))} {st : List Stmt} {vs : List V} {H : Hp} {Q : VK} {E : XK} (body : JSs X cn (fun cls d _ H => E cls d H) st sv) (hN : N.length = ms.length + 1 + n) (hF : ∀ ds, Ff ds = runI c ms n sv ds) (h : spI X.K cn c ms Ff vs H Q E) :
    ∃ t, PSs X st t ∧ t { nx := fun _ H' => Q .non H', rt := Q } (L2.start N vs) H := by
    obtain ⟨t, p, d⟩ := body
    obtain ⟨hl, a, vs', dx, F0, ds, rfl, ha, fa, hs, har, k⟩ := h
    refine ⟨t, p, d ⟨H, H, F0, some a⟩ (.slf c [] :: (ins0 ms ds ++ pad n)) (L2.start N (.ref a :: vs')) F0 H _ (start_relI ha fa hs har hN) ?_⟩
    rw [hF] at k
    unfold runI at k
    rw [if_pos har.len.2] at k
    cases e : sv (.slf c [] :: (ins0 ms ds ++ pad n)) with
    | bad => rw [e] at k; exact k.elim
    | exc x Γ => rw [e] at k; exact fun cls od σ' F' H' _ r q => k cls od F' H' r.bs.f0 r.bs.fh (fun b o h1 h2 => r.bs.h0 b o h1 (fun z => h2 (Option.some.inj z).symm)) r.bs.nw (r.bs.si a rfl).2 q
    | ok q =>
      obtain ⟨ct, Γ⟩ := q
      rw [e] at k
      cases ct with
      | nx =>
        intro σ' F' H' s r
        have k := (show Post (match get Γ 0 with
          | .slf c' fs => if c' = c then Ed.R.ok fs else .bad
          | _ => .bad) _ _ from k)
        cases g : get Γ 0 with
        | slf c' fs =>
          rw [g] at k
          dsimp only at k
          by_cases ec : c' = c
          · subst ec
            rw [if_pos rfl] at k
            obtain ⟨b, dx', fvs, e1, e2, n1, h5, r1⟩ := r.at g (fun z => by cases z)
            cases e2
            exact k F' H' r.bs.f0 r.bs.fh (fun b o h1 h2 => r.bs.h0 b o h1 (fun z => h2 (Option.some.inj z).symm)) r.bs.nw ⟨dx', fvs, h5, r1⟩
          · rw [if_neg ec] at k; exact k.elim
        | _ => rw [g] at k; exact k.elim
      | ret o => exact k.elim
      | brk => exact k.elim
      | cnt => exact k.elim
theorem okI {x qual : Str} {st : Stmt} {f : Addr} {fd : FuncData} {N ps : List Str} {k c : Nat} {ms : List Bool} {n : Nat} {sv : SV} {Ff : List D → R (List (Nat × D))} (F : Fun K x qual st f fd) (S : FnScope N ps (defScope st)) (hp : ms.length + 1 = ps.length) (hN : N.length = ms.length + 1 + n) (hF : ∀ ds, Ff ds = runI c ms n sv ds)
    (hbody : ∀ (cdv : Value) (A : Around) (outer : List PySem.Env) (s : Shared) (H : Hp) (E : XK), Room k (A.deeper (PyProof.Rows.envOfC qual (defScope st) s.heap.objs.size f cdv)) →
      JSs (cxOf (L2.CX P w) P w K mg base N qual (defScope st) f cdv A outer s H E) cn (fun cls d _ H => E cls d H) (defBody st) sv) : FnOk P w K mg base (L2.CX P w) (k + 1) f fd ps (spI K cn c ms Ff) :=
  F.okX S (fun vs H Q E h => by rw [h.1]; exact hp) fun cdv A outer s H vs Q E hr h => bodyI (X := cxOf (L2.CX P w) P w K mg base N qual (defScope st) f cdv A outer s H E) (hbody cdv A outer s H E hr) hN hF h
theorem ArgR.mono {F H F' H' : Hp} (s : Same F F') (s2 : Same H H') : ∀ {ms : List Bool} {vs : List V} {ds : List D}, ArgR K cn F H ms vs ds → ArgR K cn F' H' ms vs ds
  | [], [], [], _ => True.intro
  | m :: ms, _ :: _, _ :: _, h => ⟨by
      have h1 := h.1
      cases m with
      | true => exact Shal.mono s s2 h1
      | false => exact Rep.mono s h1, ArgR.mono s s2 h.2⟩
  | [], [], _ :: _, h => h.elim
  | [], _ :: _, _, h => h.elim
  | _ :: _, [], _, h => h.elim
  | _ :: _, _ :: _, [], h => h.elim
/-- C(..) by its __init__ -/
theorem spD_make {c : Nat} {ms : List Bool} {Ff : List D → R (List (Nat × D))} {vs : List V} {H : Hp} {Q : VK} {E : XK} (h : spD K cn ms (mkF c Ff) vs H Q E) : ∀ x dx, H x = none → H dx = none → dx ≠ x →
    spI K cn c ms Ff (.ref x :: vs) (upd (upd H dx (.own x)) x (.ins (cn.ca c) dx [])) (fun v H2 => v = .non ∧ Q (.ref x) H2) E := by
  intro x dx hx hdx ne
  obtain ⟨hl, F, ds, hs, har, k⟩ := h
  have s1 : Same H (upd (upd H dx (.own x)) x (.ins (cn.ca c) dx [])) := (same_new hdx).trans (same_new (by rw [upd_ne (Ne.symm ne)]; exact hx))
  have fx : F x = none := hs.free hx
  have up : ∀ {b : Addr}, H b ≠ none → (upd (upd H dx (.own x)) x (.ins (cn.ca c) dx []) : Hp) b ≠ none := fun {b} h => by
    cases q : H b with
    | none => exact absurd q h
    | some o => rw [s1 b o q]; simp
  have nx : ∀ {b : Addr} {o : HO}, H b = some o → b ≠ x := fun {b o} q z => by rw [z, hx] at q; cases q
  refine ⟨by simp [hl], x, vs, dx, F, ds, rfl, upd_same, fx, hs.trans s1, har.mono (Same.refl _) s1, ?_⟩
  unfold mkF at k
  cases e : Ff ds with
  | bad => rw [e] at k; exact k.elim
  | exc y Γ =>
    rw [e] at k
    intro cls od F' H' a1 a2 a3 a4 a5 rx
    refine k cls od F' H' ⟨a1, fun b o q => a3 b o (s1 b o q) (nx q), a2, fun b h1 h2 => a4 b h1 (up h2)⟩ rx
  | ok fs =>
    rw [e] at k
    intro F' H' a1 a2 a3 a4 a5
    obtain ⟨dx', fvs, h5, r⟩ := a5
    refine ⟨rfl, ?_⟩
    have fx' : F' x = none := a4 x fx (by rw [upd_same]; simp)
    have sf : Same F' (upd F' x (.ins (cn.ca c) dx' fvs)) := same_new fx'
    refine k (.ref x) (upd F' x (.ins (cn.ca c) dx' fvs)) H' ⟨a1.trans sf, fun b o q => a3 b o (s1 b o q) (nx q), ?_, fun b h1 h2 => ?_⟩ (.ins upd_same r.1 (r.mono sf).2)
    · intro b o q
      by_cases z : b = x
      · subst z; rw [upd_same] at q; cases q; exact h5
      · rw [upd_ne z] at q; exact a2 b o q
    · have z : b ≠ x := fun z => by subst z; exact h2 hx
      rw [upd_ne z]; exact a4 b h1 (up h2)
end

section
variable {X : Cx} {cn : Cn} {W : WX} {e o : Expr} {es : List Expr} {pos apos : Pos} {ea eo : EV} {av : AV} {lv : LV}
/-! self.f = e -/
theorem RepP.put {F : Hp} {f : Nat} {v : V} {d : D} (hi : ∀ g, cn.fa g = cn.fa f → g = f) (rv : Rep X.K cn F v d) : ∀ {fvs : List (Str × V)} {fs : List (Nat × D)}, RepP X.K cn cn.fa F fvs fs → RepP X.K cn cn.fa F (putF (cn.fa f) v fvs) (putFd f d fs)
  | [], [], _ => ⟨rfl, fun i x y a b => by
    cases i with
    | zero =>
      simp only [putF, putFd, List.getElem?_cons_zero, Option.some.injEq] at a b
      subst a b; exact rv
    | succ i => simp [putF] at a⟩
  | [], _ :: _, h => by have := h.1; simp at this
  | _ :: _, [], h => by have := h.1; simp at this
  | (g', x) :: xs, (g, y) :: ys, h => by
    obtain ⟨hk, r⟩ := h
    simp only [List.map_cons, List.cons.injEq] at hk
    obtain ⟨hk1, hk2⟩ := hk
    have hk1 : g' = cn.fa g := hk1
    subst hk1
    by_cases q : g = f
    · subst q
      have e1 : putF (cn.fa g) v ((cn.fa g, x) :: xs) = (cn.fa g, v) :: xs := by show (if cn.fa g = cn.fa g then _ else _) = _; rw [if_pos rfl]
      have e2 : putFd g d ((g, y) :: ys) = (g, d) :: ys := by show (if g = g then _ else _) = _; rw [if_pos rfl]
      rw [e1, e2]
      refine ⟨by simp [hk2], fun i a b h1 h2 => ?_⟩
      cases i with
      | zero => simp at h1 h2; subst h1 h2; exact rv
      | succ i => exact r (i + 1) a b (by simpa using h1) (by simpa using h2)
    · have q2 : ¬ cn.fa g = cn.fa f := fun z => q (hi g z)
      have e1 : putF (cn.fa f) v ((cn.fa g, x) :: xs) = (cn.fa g, x) :: putF (cn.fa f) v xs := by show (if cn.fa g = cn.fa f then _ else _) = _; rw [if_neg q2]
      have e2 : putFd f d ((g, y) :: ys) = (g, y) :: putFd f d ys := by show (if g = f then _ else _) = _; rw [if_neg q]
      have ih := RepP.put hi rv (fvs := xs) (fs := ys) ⟨hk2, fun i a b h1 h2 => r (i + 1) a b (by simpa using h1) (by simpa using h2)⟩
      rw [e1, e2]
      refine ⟨by simp [ih.1], fun i a b h1 h2 => ?_⟩
      cases i with
      | zero => exact r 0 a b (by simpa using h1) (by simpa using h2)
      | succ i => exact ih.2 i a b (by simpa using h1) (by simpa using h2)
theorem js_fld {c f : Nat} {x fn : Str} {px pos' : Pos} (he : JE X cn W e ea) (hn : cn.fa f = fn) (hi : ∀ g, cn.fa g = cn.fa f → g = f) (hc : Cls X.K (cn.ca c)) (hna : NoAttr X.K (cn.ca c) fn) (hN : X.N[0]? = some x := by rfl) (hv : Vis X.env.scope x := by first | exact Or.inl rfl | exact Or.inr (Or.inl rfl) | exact Or.inr (Or.inr rfl)) (hd : (x == ("__debug__" : Str)) = false := by decide)
    (hcd : (x == ("__classdict__" : Str)) = false := by decide) (hs : swapsWith e (some (.Attribute (.Name x px) fn pos')) pos.line X.env = pure false := by rfl) : JS X cn W (.Assign [.Attribute (.Name x px) fn pos'] e pos) (sFld c f ea) := by
  obtain ⟨t, p, d⟩ := he
  refine ⟨_, ps_fld (pe_var hN hv hd hcd) p hs, fun C Γ σ F H Dn R k => ?_⟩
  refine d C Γ σ F H _ R (k.bind.mono (fun p k v F' H' s r rv => ?_) fun _ _ z => z)
  obtain ⟨d1, Γ1⟩ := p
  dsimp only at k r rv
  cases g : get Γ1 0 with
  | slf c' fs =>
    rw [g] at k
    dsimp only at k
    by_cases ec : c' = c ∧ fs.length < 900
    · rw [if_pos ec] at k
      have kk := k
      obtain ⟨ec, hl⟩ := ec
      subst ec
      obtain ⟨a, dx, fvs, e1, e2, n, h5, rp⟩ := r.at g (fun z => by cases z)
      have hlen : fvs.length = fs.length := by have := congrArg List.length rp.1; simpa using this
      refine ⟨.ref a, join_some e1, a, _, dx, fvs, rfl, h5, hc, hna, by omega, ?_⟩
      have g0 := get_some g (fun z => by cases z)
      have H0a : ∃ o, C.H0 a = some o := by obtain ⟨⟨c0, dx0, fs0, q⟩, _⟩ := r.bs.si a e2; exact ⟨_, q⟩
      rw [← hn]
      refine kk σ F' _ s ⟨⟨same_out r.bs.fh n, r.bs.f0, fun b o h1 h2 => ?_, r.bs.nw, fun b hb => ⟨(r.bs.si b hb).1, ?_⟩, r.bs.b0⟩, by rw [put_eq, List.length_set]; exact r.len, fun j t h => ?_, fun j k2 x y b h1 h2 h3 h4 => ?_, s0_put r.s0 (.inl rfl)⟩
      · have hb : b ≠ a := fun z => by subst z; exact h2 e2
        rw [upd_ne hb]; exact r.bs.h0 b o h1 h2
      · rw [e2] at hb; cases hb; exact ⟨_, upd_same⟩
      · rw [put_eq] at h
        rcases getSet h with ⟨rfl, rfl⟩ | ⟨z, h⟩
        · exact ⟨a, dx, _, e1, e2, n, upd_same, rp.put hi rv⟩
        · have w := r.sl j t h
          cases t with
          | emp => trivial
          | val x => exact w
          | own x =>
            obtain ⟨b, q1, m, m0, r2⟩ := w
            have hb : b ≠ a := fun e3 => by subst e3; obtain ⟨o, q⟩ := H0a; rw [m0] at q; cases q
            refine ⟨b, q1, m, m0, ?_⟩
            cases x with
            | lst ds => obtain ⟨vs, h, p⟩ := r2; exact ⟨vs, by rw [upd_ne hb]; exact h, p⟩
            | dct ds => obtain ⟨vs, h, p⟩ := r2; exact ⟨vs, by rw [upd_ne hb]; exact h, p⟩
            | _ => exact r2.elim
          | bor x => exact w
          | slf c2 fs2 =>
            obtain ⟨b, dx2, fvs2, q1, q2, m, h6, r2⟩ := w
            rw [e2] at q2; cases q2
            exact absurd (r.s0 j _ _ h).symm z
          | exn x => exact w
      · rw [put_eq] at h1 h2
        rcases getSet h1 with ⟨_, z⟩ | ⟨_, g1⟩
        · cases z
        · rcases getSet h2 with ⟨_, z⟩ | ⟨_, g2⟩
          · cases z
          · exact r.ow j k2 x y b g1 g2 h3 h4
    · rw [if_neg ec] at k; exact k.elim
  | _ => rw [g] at k; exact k.elim
end
end Ed

set_option autoImplicit true
set_option Elab.async false
set_option linter.all false
set_option maxRecDepth 100000
set_option maxHeartbeats 4000000
/-! own methods and operators, wished at the caller's slots -/
namespace L2
open PySem PySem.Spec PyProof.Rows PySem.W
section
variable {X : Cx} {k : Nat} {f C : Addr} {fd : FuncData} {ps : List Str} {sp : Sp} {W : WX} {x m : Str} {p pos apos : Pos} {e o : Expr} {es : List Expr} {ta te : TE} {t : TA}
/-- the callee runs, in an around that is like ours -/
theorem runS {A : Around} {pins : List (Addr × Obj)} {σ : L2.St} {H : Hp} {s : Shared} {Q : VK} {us : List Value} {vs : List V} (F : FnOk X.prog X.w X.K X.mg X.base (L2.CX X.prog X.w) k f fd ps sp) (hr : Room k A) (he : Env0 X.prog X.w X.K X.mg X.base A X.stack s H) (hb : Binds X.K fd ps []) (tk : Takes X W)
    (I : Inv X pins σ H s) (r : Vals vs us) (h : sp vs H Q (WE W σ)) : wpAny (model X.prog X.w) A (call (.ref f) us) (EP X pins σ Q) X.xe s := by
  have hl : us.length = ps.length := by rw [← r.length]; exact F.len _ _ _ _ h
  have b := hb s us I.kIn (by rw [List.append_nil]; exact hl)
  rw [List.append_nil] at b
  refine wpAny_call (codeAny_mono (F.run A X.stack s H ⟨us, []⟩ us vs Q (WE W σ) hr he b r h) fun r s' hq => ?_)
  cases r with
  | error e => exact passAt tk σ pins H s e s' I hq
  | ok fl =>
    cases fl with
    | ret u => exact I.after hq
    | next => exact False.elim hq
    | brk => exact False.elim hq
    | cont => exact False.elim hq
/-- o.m(e, ..) -/
def tMethX (C : Addr) (m : Str) (sp : Sp) (W : WX) (ta : TE) (t : TA) : TE := fun σ H Q => ta σ H fun x H1 => ∃ a dx fs, x = .ref a ∧ H1 a = some (.ins C dx fs) ∧ fs.lookup m = none ∧ t σ H1 fun vs H2 => sp (x :: vs) H2 Q (WE W σ)
theorem pe_methX {pl : Sem Bool} (he : PE X o ta) (c : Cls X.K C) (hm : Meth X.K C m f) (F : FnOk X.prog X.w X.K X.mg X.base (L2.CX X.prog X.w) k f fd ps sp) (hr : Room k X.A) (hb : Binds X.K fd ps []) (tk : Takes X W) (ha : PA X (e :: es) t)
    (hst : starEach (e :: es) X.env = (false, eval e X.env) :: starEach es X.env := by rfl) (hpl : (backTo pos (starEach es X.env)).any (·.1) = false := by rfl)
    (ht : eval (.Call (.Attribute o m apos) (e :: es) [] pos) X.env = (do
      let ov ← eval o X.env
      standAt apos.atName
      let (f, first) ← holding [ov] (getMethod ov m pl)
      callWith pos f first (backTo pos (starEach (e :: es) X.env)) (backToKw pos (keywordEach [] X.env))) := by rfl) :
    PE X (.Call (.Attribute o m apos) (e :: es) [] pos) (tMethX C m sp W ta t) := by
  refine ⟨fun pins s σ H Q I h => ?_⟩
  refine PySem.W.methodCall_KW (pl := pl) (thn (he.run pins s σ H _ I h) fun u s1 ⟨x, H1, I1, rx, a, dx, fs, ex, ea, l, q⟩ => ?_) ht
  subst ex
  obtain rfl : u = Value.ref a := rx
  refine getmeth_ok I1 ea c hm l ?_
  refine PySem.W.callWith_K (first := [.ref a]) (h₀ := X.base) I.ok.mod.kin hm.kp (thn (ha.run pos pins s1 σ H1 _ I1 q) fun us s2 ⟨vs, H2, I2, r, q2⟩ => ⟨I2.kIn, ?_⟩) hst hpl
  exact runS (us := .ref a :: us) (vs := .ref a :: vs) F hr I2.env0 hb tk I2 (.cons rfl r) q2
theorem pe_methX0 {pl : Sem Bool} (he : PE X o ta) (c : Cls X.K C) (hm : Meth X.K C m f) (F : FnOk X.prog X.w X.K X.mg X.base (L2.CX X.prog X.w) k f fd ps sp) (hr : Room k X.A) (hb : Binds X.K fd ps []) (tk : Takes X W)
    (ht : eval (.Call (.Attribute o m apos) [] [] pos) X.env = (do
      let ov ← eval o X.env
      standAt apos.atName
      let (f, first) ← holding [ov] (getMethod ov m pl)
      callWith pos f first (backTo pos (starEach [] X.env)) (backToKw pos (keywordEach [] X.env))) := by rfl) :
    PE X (.Call (.Attribute o m apos) [] [] pos) (tMethX C m sp W ta tNil) := by
  refine ⟨fun pins s σ H Q I h => ?_⟩
  refine PySem.W.methodCall_KW (pl := pl) (thn (he.run pins s σ H _ I h) fun u s1 ⟨x, H1, I1, rx, a, dx, fs, ex, ea, l, q⟩ => ?_) ht
  subst ex
  obtain rfl : u = Value.ref a := rx
  refine getmeth_ok I1 ea c hm l ?_
  exact PySem.W.callWith_K0 (first := [.ref a]) I1.kIn hm.kp (runS (us := [.ref a]) (vs := [.ref a]) F hr I1.env0 hb tk I1 (.cons rfl .nil) q)
/-- C(e, ..) -/
def tMakeX (C : Addr) (sp : Sp) (W : WX) (t : TA) : TE := fun σ H Q => t σ H fun vs H1 => ∀ x dx, H1 x = none → H1 dx = none → dx ≠ x →
  sp (.ref x :: vs) (upd (upd H1 dx (.own x)) x (.ins C dx [])) (fun v H2 => v = .non ∧ Q (.ref x) H2) (WE W σ)
theorem runS_make {pins : List (Addr × Obj)} {σ : L2.St} {H : Hp} {s : Shared} {Q : VK} {us : List Value} {vs : List V} (M : Mk X.K C f) (F : FnOk X.prog X.w X.K X.mg X.base (L2.CX X.prog X.w) k f fd ps sp) (hr : Room (k + 1) X.A) (hb : Binds X.K fd ps [])
    (tk : Takes X W) (I : Inv X pins σ H s) (r : Vals vs us)
    (h : ∀ x dx, H x = none → H dx = none → dx ≠ x → sp (.ref x :: vs) (upd (upd H dx (.own x)) x (.ins C dx [])) (fun v H2 => v = .non ∧ Q (.ref x) H2) (WE W σ)) :
    wpAny (model X.prog X.w) X.A (call (.ref C) us) (EP X pins σ Q) X.xe s := by
  have hq := h (s.heap.objs.size + 1) s.heap.objs.size (I.hok.fresh (Nat.le_succ _)) (I.hok.fresh (Nat.le_refl _)) (Nat.ne_of_lt (Nat.lt_succ_self _))
  have I2 := Inv.made (C := C) I
  have r2 : Vals (V.ref (s.heap.objs.size + 1) :: vs) (Value.ref (s.heap.objs.size + 1) :: us) := .cons rfl r
  have hl : (Value.ref (s.heap.objs.size + 1) :: us).length = ps.length := by
    have e := r2.length
    rw [F.len _ _ _ _ hq] at e
    exact e.symm
  have b := hb _ (Value.ref (s.heap.objs.size + 1) :: us) I2.kIn (by rw [List.append_nil]; exact hl)
  rw [List.append_nil] at b
  refine wpAny_call (make_map (f := f) I.kIn M.makes M.init (beq_iff_eq.mp M.fn) (codeAny_mono (F.run _ X.stack _ _ ⟨Value.ref (s.heap.objs.size + 1) :: us, []⟩ (Value.ref (s.heap.objs.size + 1) :: us) _ _ (WE W σ) (hr.make C us [])
    (I2.env0.make C us []) b r2 hq) fun r s' hq' => ?_))
  cases r with
  | error e => exact passAt tk σ pins _ _ e s' I2 hq'
  | ok fl =>
    cases fl with
    | ret u =>
      obtain ⟨v, H', I3, rv, ev, q3⟩ := I2.after hq'
      subst ev
      exact ⟨rv, ⟨V.ref (s.heap.objs.size + 1), H', I3, rfl, q3⟩⟩
    | next => exact False.elim hq'
    | brk => exact False.elim hq'
    | cont => exact False.elim hq'
theorem pe_makeX (M : Mk X.K C f) (F : FnOk X.prog X.w X.K X.mg X.base (L2.CX X.prog X.w) k f fd ps sp) (hr : Room (k + 1) X.A) (hg : Gl X x) (hm : X.mg x = some (.ref C)) (hb : Binds X.K fd ps []) (tk : Takes X W)
    (ha : PA X (e :: es) t) (hdb : (x == ("__debug__" : Str)) = false := by decide) (he : starEach (e :: es) X.env = (false, eval e X.env) :: starEach es X.env := by rfl) (hpl : (backTo pos (starEach es X.env)).any (·.1) = false := by rfl) :
    PE X (.Call (.Name x p) (e :: es) [] pos) (tMakeX C sp W t) := by
  refine ⟨fun pins s σ H Q I h => ?_⟩
  refine wpAny_Call_Name_kw (ld_glob I hg hm ?_ hdb)
  refine PySem.W.callWith_K (h₀ := X.base) I.ok.mod.kin M.kp (thn (ha.run pos pins s σ H _ I h) fun us s1 ⟨vs, H1, I1, r, q⟩ => ⟨I1.kIn, ?_⟩) he hpl
  exact runS_make M F hr hb tk I1 r q
/-- C.m(e, ..), m a staticmethod: the def at f -/
structure SMeth (K : PySem.W.Frag) (C f : Addr) (m : Str) (mc : Value) (q : Addr) : Prop where
  rd : PySem.W.readsIn K C mc = true
  ga : PySem.W.specialIn K (.ref C) "__getattribute__" = some (some (.builtin "type.__getattribute__"))
  fc : PySem.W.findCls K (.ref C) mc m = some (.get (.builtin "staticmethod.__get__") (.ref q) .none (.ref C))
  rc : ∃ rest, PySem.W.recIn K q "staticmethod" = some (.ref f :: rest)
  kp : PySem.W.keepIn K (.ref f) = true
theorem pe_smX {pl : Sem Bool} {mc : Value} {q : Addr} {px : Pos} (hg : Gl X x) (hm : X.mg x = some (.ref C)) (S : SMeth X.K C f m mc q) (F : FnOk X.prog X.w X.K X.mg X.base (L2.CX X.prog X.w) k f fd ps sp) (hr : Room k X.A) (hb : Binds X.K fd ps []) (tk : Takes X W) (ha : PA X (e :: es) t)
    (hdb : (x == ("__debug__" : Str)) = false := by decide) (hst : starEach (e :: es) X.env = (false, eval e X.env) :: starEach es X.env := by rfl) (hpl : (backTo pos (starEach es X.env)).any (·.1) = false := by rfl)
    (ht : eval (.Call (.Attribute (.Name x px) m apos) (e :: es) [] pos) X.env = (do
      let ov ← eval (.Name x px) X.env
      standAt apos.atName
      let (f, first) ← holding [ov] (getMethod ov m pl)
      callWith pos f first (backTo pos (starEach (e :: es) X.env)) (backToKw pos (keywordEach [] X.env))) := by rfl) :
    PE X (.Call (.Attribute (.Name x px) m apos) (e :: es) [] pos) (tCallS sp (WE W) t) := by
  refine ⟨fun pins s σ H Q I h => ?_⟩
  refine PySem.W.methodCall_KW (pl := pl) (ld_glob I hg hm ?_ hdb) ht
  obtain ⟨rest, hp⟩ := S.rc
  refine PySem.W.method_cls I.kIn S.ga (PySem.W.cls_bind I.kIn S.rd S.fc (wpAny_call (PySem.W.sm_get (s := { s with toks := s.toks + 1 }) I.kIn hp (PySem.W.handed_on rfl ?_))))
  have I0 := I.tok (s.toks + 1)
  refine PySem.W.callWith_K (first := []) (h₀ := X.base) I.ok.mod.kin S.kp (thn (ha.run pos pins _ σ H _ I0 h) fun us s2 ⟨vs, H2, I2, r, q2⟩ => ⟨I2.kIn, ?_⟩) hst hpl
  exact runS (us := us) (vs := vs) F hr I2.env0 hb tk I2 r q2
theorem ins_atS {pins : List (Addr × Obj)} {s : Shared} {σ : L2.St} {H : Hp} {a C dx : Addr} {fs : List (Str × V)} (I : Inv X pins σ H s) (e : H a = some (.ins C dx fs)) :
    ∃ od, InstAt s.heap a (instObj C dx) C (some od) := by
  obtain ⟨mA, O, _⟩ := ins_get I.hok e
  obtain ⟨od, J, _⟩ := O.look
  exact ⟨od, J⟩
theorem val_casesS {v : V} {u : Value} (r : RelV v u) : u ≠ .notImplemented := by
  cases v with
  | non => cases (show u = Value.none from r); exact fun z => nomatch z
  | bl b => cases (show u = Value.bool b from r); exact fun z => nomatch z
  | int i => obtain ⟨t, e⟩ := (show ∃ t, u = Value.int i t from r); cases e; exact fun z => nomatch z
  | str x => obtain ⟨t, e⟩ := (show ∃ t, u = Value.str x t from r); cases e; exact fun z => nomatch z
  | byt b => obtain ⟨t, e⟩ := (show ∃ t, u = Value.bytes b t from r); cases e; exact fun z => nomatch z
  | flt b => obtain ⟨t, e⟩ := (show ∃ t, u = Value.float b t from r); cases e; exact fun z => nomatch z
  | ref a => cases (show u = Value.ref a from r); exact fun z => nomatch z
  | ty n => cases (show u = Value.type n from r); exact fun z => nomatch z
theorem cmpBack_S {Q' : Value → Shared → Prop} {v : V} {u : Value} {s' : Shared} (r : RelV v u) (h : Q' u s') : PySem.W.CmpBack Q' u s' := by
  have hn := val_casesS r
  cases u with
  | notImplemented => exact absurd rfl hn
  | _ => exact h
/-- a op b of two instances of one class -/
def tOwn2 (C : Addr) (sp : Sp) (W : WX) (ta tb : TE) : TE := fun σ H Q => ta σ H fun x H1 => tb σ H1 fun y H2 => ∃ a dx fs b dy gs, x = .ref a ∧ y = .ref b ∧ H2 a = some (.ins C dx fs) ∧ H2 b = some (.ins C dy gs) ∧ sp [x, y] H2 Q (WE W σ)
theorem pe_own2 {a b : Expr} {tb : TE} {op : Operator} (sf : selfFirst X.K C = true) (hm : Meth X.K C (PySem.dunder op.info.2) f) (F : FnOk X.prog X.w X.K X.mg X.base (L2.CX X.prog X.w) k f fd ps sp) (hr : Room k X.A) (hb : Binds X.K fd ps []) (tk : Takes X W) (ha : PE X a ta) (hb2 : PE X b tb) :
    PE X (.BinOp a op b pos) (tOwn2 C sp W ta tb) := by
  refine ⟨fun pins s σ H Q I h => ?_⟩
  refine wpAny_BinOp (binT ha hb2 I h fun v u s2 x y H2 I2 rx ry q => ?_)
  obtain ⟨a, dx, fs, b, dy, gs, rfl, rfl, ha, hb', q⟩ := q
  obtain rfl : v = Value.ref a := rx
  obtain rfl : u = Value.ref b := ry
  obtain ⟨m, F0⟩ := I2.fr
  obtain ⟨od, J⟩ := ins_atS I2 ha
  obtain ⟨od2, J2⟩ := ins_atS I2 hb'
  refine binop_K F0 I2.mod.kin J J2.type sf hm.at_ hm.fn (wpAny_mono (runS F hr I2.env0 hb tk I2 (us := [.ref a, .ref b]) (vs := [.ref a, .ref b]) (.cons rfl (.cons rfl .nil)) q) (fun z s' hz => ?_) fun _ _ e => e)
  obtain ⟨v', H', I', r', q'⟩ := hz
  exact cmpBack_S r' ⟨v', H', I', r', q'⟩
/-- a == b of two instances of one class -/
theorem pe_ownEq {a b : Expr} {tb : TE} (nf : notFirst X.K C (.ref C) = true) (hm : Meth X.K C "__eq__" f) (F : FnOk X.prog X.w X.K X.mg X.base (L2.CX X.prog X.w) k f fd ps sp) (hr : Room k X.A) (hb : Binds X.K fd ps []) (tk : Takes X W) (ha : PE X a ta) (hb2 : PE X b tb) :
    PE X (.Compare a [.Eq] [b] pos) (tOwn2 C sp W ta tb) := by
  refine ⟨fun pins s σ H Q I h => ?_⟩
  refine wpAny_Compare1 (binT ha hb2 I h fun v u s2 x y H2 I2 rx ry q => ?_) (nobehind _ (by decide) (by decide))
  obtain ⟨a, dx, fs, b, dy, gs, rfl, rfl, ha, hb', q⟩ := q
  obtain rfl : v = Value.ref a := rx
  obtain rfl : u = Value.ref b := ry
  obtain ⟨m, F0⟩ := I2.fr
  obtain ⟨od, J⟩ := ins_atS I2 ha
  obtain ⟨od2, J2⟩ := ins_atS I2 hb'
  show wpAny (model X.prog X.w) X.A (richCompare .Eq (.ref a) (.ref b)) (EP X pins σ Q) X.xe s2
  refine cmp_K (op := .Eq) (tb := .ref C) hr.units0 F0 I2.mod.kin J J2.type nf hm.at_ hm.fn (wpAny_mono (runS F hr I2.env0 hb tk I2 (us := [.ref a, .ref b]) (vs := [.ref a, .ref b]) (.cons rfl (.cons rfl .nil)) q) (fun z s' hz => ?_) fun _ _ e => e)
  obtain ⟨v', H', I', r', q'⟩ := hz
  exact cmpBack_S r' ⟨v', H', I', r', q'⟩
/-- -a, ~a -/
def tOwn1 (C : Addr) (sp : Sp) (W : WX) (ta : TE) : TE := fun σ H Q => ta σ H fun x H1 => ∃ a dx fs, x = .ref a ∧ H1 a = some (.ins C dx fs) ∧ sp [x] H1 Q (WE W σ)
theorem pe_ownInv {a : Expr} (hm : Meth X.K C "__invert__" f) (F : FnOk X.prog X.w X.K X.mg X.base (L2.CX X.prog X.w) k f fd ps sp) (hr : Room k X.A) (hb : Binds X.K fd ps []) (tk : Takes X W) (ha : PE X a ta) : PE X (.UnaryOp .Invert a pos) (tOwn1 C sp W ta) := by
  refine ⟨fun pins s σ H Q I h => ?_⟩
  refine PyProof.Rows.UnaryOp_ (thn (ha.run pins s σ H _ I h) fun v s1 ⟨x, H1, I1, r1, a, dx, fs, ex, ea, q⟩ => ?_)
  subst ex
  obtain rfl : v = Value.ref a := r1
  obtain ⟨m, F0⟩ := I1.fr
  obtain ⟨od, J⟩ := ins_atS I1 ea
  exact ksp_inv F0 I1.mod.kin J hm.at_ hm.fn (runS F hr I1.env0 hb tk I1 (us := [.ref a]) (vs := [.ref a]) (.cons rfl .nil) q)
/-- o[i] by an own __getitem__ -/
def tOwnIx (C : Addr) (sp : Sp) (W : WX) (ta tb : TE) : TE := fun σ H Q => ta σ H fun x H1 => tb σ H1 fun y H2 => ∃ a dx fs, x = .ref a ∧ H2 a = some (.ins C dx fs) ∧ sp [x, y] H2 Q (WE W σ)
/-- y in o by an own __contains__ -/
def tOwnIn (C : Addr) (sp : Sp) (W : WX) (ta tb : TE) : TE := fun σ H Q => ta σ H fun x H1 => tb σ H1 fun y H2 => ∃ a dx fs, y = .ref a ∧ H2 a = some (.ins C dx fs) ∧ sp [y, x] H2 (fun v H3 => ∃ b, v = .bl b ∧ Q (.bl b) H3) (WE W σ)
/-- bool(o), str(o), len(o), abs(o) -/
def tOwnB (C : Addr) (sp : Sp) (W : WX) (t : TA) : TE := fun σ H Q => t σ H fun xs H1 => ∃ a dx fs, xs = [.ref a] ∧ H1 a = some (.ins C dx fs) ∧ sp xs H1 (fun v H3 => ∃ b, v = .bl b ∧ Q (.bl b) H3) (WE W σ)
def tOwnS (C : Addr) (sp : Sp) (W : WX) (t : TA) : TE := fun σ H Q => t σ H fun xs H1 => ∃ a dx fs, xs = [.ref a] ∧ H1 a = some (.ins C dx fs) ∧ sp xs H1 (fun v H3 => ∃ b, v = .str b ∧ Q (.str b) H3) (WE W σ)
def tOwnL (C : Addr) (sp : Sp) (W : WX) (t : TA) : TE := fun σ H Q => t σ H fun xs H1 => ∃ a dx fs, xs = [.ref a] ∧ H1 a = some (.ins C dx fs) ∧ sp xs H1 (fun v H3 => ∃ n, v = .int n ∧ (0 ≤ n ∧ n < 2 ^ 63) ∧ Q (.int n) H3) (WE W σ)
theorem bool_hereS {prog : Program} {w : World} {A : Around} {E : Value → Shared → Prop} {s : Shared} {x : Value} {Q : Value → Shared → Prop}
    (h : wpAny (model prog w) A.in1.in1 (truthy x) (fun b s' => Q (.bool b) s') E s) : wpAny (model prog w) A (call (.type "bool") [x]) Q E s := by
  have ft := F.called_bool
  obtain ⟨c, tl, hmro⟩ := ft.mro
  have hmade := ft.made
  have hsub := ft.sub
  have f1 := F.conv_sub_bool
  have h1 := ft.notType
  have h2 := ft.canCreate
  have new : wpAny (model prog w) A.in1.in1 (Builtin.«bool.__new__» ⟨[.type "bool", x], []⟩) (fun fin s' => ∃ b, fin = .done (.ret (.bool b)) ∧ Q (.bool b) s') E s := by
    obtain ⟨hp, g, d, tk, os⟩ := s
    unfold Builtin.«bool.__new__»
    repeat (any_goals (first | assumption | wp_step))
    refine wpAny_mono h (fun b s' q => ?_) (fun _ _ e => e)
    exact wpAny_pure ⟨b, rfl, q⟩
  have hlook := ft.init.lookup
  refine wpAny_call (codeAny_of_tree ?_)
  show wpAny _ _ (callAny (.type "bool") _) _ _ _
  refine wpAny_pure ⟨Code.quiet_builtin _ (by decide +kernel), codeAny_builtin PySem.F.entry_type_call ?_⟩
  rw [Around.under_plain (weight_type_call_type "bool" [x] []) (units_type_call_type "bool" [x] [])]
  repeat (any_goals (first | assumption | wp_step))
  refine codeAny_mono (codeAny_call_builtin (R := fun r s' => match r with | .ok (.ret v) => (∃ b, v = .bool b) ∧ Q v s' | .ok _ => False | .error e => E e s') ft.plain F.entry_bool_new (wpAny_of_eq (F.newCall_bool_1 x) (wpAny_mono new (fun fin s' q => ?_) fun _ _ e => e))) fun r s1 hr => ?_
  · obtain ⟨b, rfl, q⟩ := q
    exact ⟨⟨b, rfl⟩, q⟩
  · cases r with
    | error e => exact hr
    | ok fl =>
      cases fl with
      | ret obj =>
        obtain ⟨⟨b, rfl⟩, q⟩ := hr
        have hT : s1.TypeIs (.bool b) "bool" := PySem.typeIs_bool _ _
        have hbi := ft.init.bind (.bool b)
        repeat (any_goals (first | assumption | wp_step))
        have im := object_init_meets (self := .bool b) (rest := [x]) ft.init.lookup ft.made F.newNe_bool prog w A.in1 (fun r s' => r = .ok (.ret .none) ∧ Q (.bool b) s') s1 ⟨hT, rfl, q⟩
        refine codeAny_mono (codeAny_call_builtin (R := fun r s' => r = .ok (.ret .none) ∧ Q (.bool b) s') ft.init.plain PySem.F.entry_object_init (ft.init.check _ _ _ _ _ _ _ _ hT (F.args_object_init_2 _ x) im)) fun r2 s2 hr2 => ?_
        obtain ⟨rfl, q2⟩ := hr2
        repeat (any_goals (first | assumption | wp_step))
      | _ => exact hr.elim
theorem pe_ownBool (hm : Meth X.K C "__bool__" f) (F : FnOk X.prog X.w X.K X.mg X.base (L2.CX X.prog X.w) k f fd ps sp) (hr : Room (k + 1 + 1) X.A) (hb : Binds X.K fd ps []) (tk : Takes X W) (hg : Gl X "bool") (hmn : X.mg "bool" = none) (ha : PA X (e :: es) t)
    (he : starEach (e :: es) X.env = (false, eval e X.env) :: starEach es X.env := by rfl) (hpl : (backTo pos (starEach es X.env)).any (·.1) = false := by rfl) : PE X (.Call (.Name "bool" p) (e :: es) [] pos) (tOwnB C sp W t) := by
  refine ⟨fun pins s σ H Q I h => ?_⟩
  refine wpAny_Call_Name_kw (ld_blt I hg hmn (u := Value.type "bool") (by decide +kernel) ?_ (by decide) (by decide))
  refine PyProof.Rows.callWith_type1 (thn (ha.run pos pins s σ H _ I h) fun us s1 ⟨vs, H1, I1, r1, a, dx, fs, ex, ea, q⟩ => ?_) he hpl
  subst ex
  obtain ⟨u, rfl, rx⟩ := vals1 r1
  obtain rfl : u = Value.ref a := rx
  obtain ⟨m, F0⟩ := I1.fr
  obtain ⟨od, J⟩ := ins_atS I1 ea
  refine bool_hereS (truthy_K F0 I1.mod.kin J hm.at_ hm.fn (wpAny_mono (runS F hr.in1.in1 I1.env0.in1.in1 hb tk I1 (us := [.ref a]) (vs := [.ref a]) (.cons rfl .nil) q) (fun z s' hz => ?_) fun _ _ e => e))
  obtain ⟨v', H', I', r', b, rfl, q'⟩ := hz
  cases (show z = Value.bool b from r')
  exact ⟨.bl b, H', I', rfl, q'⟩
theorem pe_ownStr (hm : Meth X.K C "__str__" f) (F : FnOk X.prog X.w X.K X.mg X.base (L2.CX X.prog X.w) k f fd ps sp) (hr : Room (k + 1 + 1) X.A) (hb : Binds X.K fd ps []) (tk : Takes X W) (hg : Gl X "str") (hmn : X.mg "str" = none) (ha : PA X (e :: es) t)
    (he : starEach (e :: es) X.env = (false, eval e X.env) :: starEach es X.env := by rfl) (hpl : (backTo pos (starEach es X.env)).any (·.1) = false := by rfl) : PE X (.Call (.Name "str" p) (e :: es) [] pos) (tOwnS C sp W t) := by
  refine ⟨fun pins s σ H Q I h => ?_⟩
  refine wpAny_Call_Name_kw (ld_blt I hg hmn (u := Value.type "str") (by decide +kernel) ?_ (by decide) (by decide))
  refine PyProof.Rows.callWith_type1 (thn (ha.run pos pins s σ H _ I h) fun us s1 ⟨vs, H1, I1, r1, a, dx, fs, ex, ea, q⟩ => ?_) he hpl
  subst ex
  obtain ⟨u, rfl, rx⟩ := vals1 r1
  obtain rfl : u = Value.ref a := rx
  obtain ⟨od, J⟩ := ins_atS I1 ea
  refine kso_call hr.in1.in1.units0 I1.kIn J hm.at_ hm.fn (wpAny_mono (runS F hr.in1.in1 I1.env0.in1.in1 hb tk I1 (us := [.ref a]) (vs := [.ref a]) (.cons rfl .nil) q) (fun z s' hz => ?_) fun _ _ e => e)
  obtain ⟨v', H', I', r', b, rfl, q'⟩ := hz
  obtain ⟨tk', rfl⟩ := (show ∃ t, z = Value.str b t from r')
  exact ⟨.str b, H', I', ⟨_, rfl⟩, q'⟩
theorem pe_ownLen (hm : Meth X.K C "__len__" f) (F : FnOk X.prog X.w X.K X.mg X.base (L2.CX X.prog X.w) k f fd ps sp) (hr : Room (k + 1) X.A) (hb : Binds X.K fd ps []) (tk : Takes X W) (hg : Gl X "len") (hmn : X.mg "len" = none) (ha : PA X (e :: es) t)
    (he : starEach (e :: es) X.env = (false, eval e X.env) :: starEach es X.env := by rfl) (hpl : (backTo pos (starEach es X.env)).any (·.1) = false := by rfl) : PE X (.Call (.Name "len" p) (e :: es) [] pos) (tOwnL C sp W t) := by
  refine ⟨fun pins s σ H Q I h => ?_⟩
  refine wpAny_Call_Name_kw (ld_blt I hg hmn (u := Value.builtin "len") (by decide +kernel) ?_ (by decide) (by decide))
  refine PyProof.Rows.callWith_builtin1 (thn (ha.run pos pins s σ H _ I h) fun us s1 ⟨vs, H1, I1, r1, a, dx, fs, ex, ea, q⟩ => ?_) he hpl
  subst ex
  obtain ⟨u, rfl, rx⟩ := vals1 r1
  obtain rfl : u = Value.ref a := rx
  obtain ⟨m, F0⟩ := I1.fr
  obtain ⟨od, J⟩ := ins_atS I1 ea
  refine len_K F0 I1.mod.kin J hm.at_ hm.fn (wpAny_mono (runS F hr.in1 I1.env0.in1 hb tk I1 (us := [.ref a]) (vs := [.ref a]) (.cons rfl .nil) q) (fun z s' hz => ?_) fun _ _ e => e)
  obtain ⟨v', H', I', r', n, rfl, hn, q'⟩ := hz
  obtain ⟨tk', rfl⟩ := (show ∃ t, z = Value.int n t from r')
  exact ⟨hn, .int n, H', I'.tok _, ⟨_, rfl⟩, q'⟩
theorem pe_ownIx {a b : Expr} {tb : TE} (hq : noSeq X.K C = true) (hm : Meth X.K C "__getitem__" f) (F : FnOk X.prog X.w X.K X.mg X.base (L2.CX X.prog X.w) k f fd ps sp) (hr : Room k X.A) (hb : Binds X.K fd ps []) (tk : Takes X W) (ha : PE X a ta) (hb2 : PE X b tb) (hs : PlainIx b)
    (htail : ∀ (pins : List (Addr × Obj)) (s : Shared) (σ : L2.St) (H : Hp) (x : Addr) (dx : Addr) (fs : List (Str × V)) (u : Value) (Q : Value → Shared → Prop), Inv X pins σ H s → H x = some (.ins C dx fs) → wpAny (model X.prog X.w) X.A (getItem (.ref x) u) Q X.xe s → wpAny (model X.prog X.w) X.A (subscriptTail a b (.ref x) u) Q X.xe s) :
    PE X (.Subscript a b pos) (tOwnIx C sp W ta tb) := by
  refine ⟨fun pins s σ H Q I h => ?_⟩
  refine PyProof.Rows.Subscript_ (binT ha hb2 I h fun v u s2 x y H2 I2 rx ry q => ?_)
  obtain ⟨a, dx, fs, rfl, ha, q⟩ := q
  obtain rfl : v = Value.ref a := rx
  obtain ⟨m, F0⟩ := I2.fr
  obtain ⟨od, J⟩ := ins_atS I2 ha
  refine htail pins s2 σ H2 a dx fs u _ I2 ha (getItem_K F0 I2.mod.kin J hq hm.at_ hm.fn ?_)
  exact runS F hr I2.env0 hb tk I2 (us := [.ref a, u]) (vs := [.ref a, y]) (.cons rfl (.cons ry .nil)) q
theorem pe_ownIn {a b : Expr} {tb : TE} (hm : Meth X.K C "__contains__" f) (F : FnOk X.prog X.w X.K X.mg X.base (L2.CX X.prog X.w) k f fd ps sp) (hr : Room k X.A) (hb : Binds X.K fd ps []) (tk : Takes X W) (ha : PE X a ta) (hb2 : PE X b tb) (hmk : behindInMarks .In b = false := by rfl) :
    PE X (.Compare a [.In] [b] pos) (tOwnIn C sp W ta tb) := by
  refine ⟨fun pins s σ H Q I h => ?_⟩
  refine wpAny_Compare1 (binT ha hb2 I h fun v u s2 x y H2 I2 rx ry q => ?_) hmk
  obtain ⟨a, dx, fs, rfl, ha, q⟩ := q
  obtain rfl : u = Value.ref a := ry
  obtain ⟨m, F0⟩ := I2.fr
  obtain ⟨od, J⟩ := ins_atS I2 ha
  refine in_K F0 I2.mod.kin J hm.at_ hm.fn (wpAny_mono (runS F hr I2.env0 hb tk I2 (us := [.ref a, v]) (vs := [.ref a, x]) (.cons rfl (.cons rx .nil)) q) (fun z s' hz => ?_) fun _ _ e => e)
  obtain ⟨v', H', I', r', b, rfl, q'⟩ := hz
  cases (show z = Value.bool b from r')
  exact wpAny_truthy_bool ⟨.bl b, H', I', rfl, q'⟩
end
end L2

set_option autoImplicit true
set_option Elab.async false
set_option linter.all false
set_option maxRecDepth 100000
set_option maxHeartbeats 4000000
/-! rules: methods, objects made, own operators, errors raised and caught -/
namespace Ed
open PySem L2

section
variable {X : Cx} {cn : Cn} {W : WX} {a b e o : Expr} {es : List Expr} {pos apos : Pos} {ea eb eo : EV} {qa qb : QV} {av : AV} {lv : LV} {sa sb : SV}
variable {k c : Nat} {f : Addr} {fd : FuncData} {ps : List Str} {ms : List Bool} {Ff : FV} {x m : Str} {p : Pos}
theorem insOf {F : Hp} {v : V} {c : Nat} {fs : List (Nat × D)} (h : Rep X.K cn F v (.ins c fs)) : ∃ a dx fvs, v = .ref a ∧ F a = some (.ins (cn.ca c) dx fvs) ∧ fvs.map (·.1) = fs.map (fun p => cn.fa p.1) := by
  cases h with
  | ins h hk r => exact ⟨_, _, _, rfl, h, hk⟩
theorem look_no {m : Str} {fa : Nat → Str} (hm : ∀ g, fa g ≠ m) : ∀ {fvs : List (Str × V)} {fs : List (Nat × D)}, fvs.map (·.1) = fs.map (fun p => fa p.1) → fvs.lookup m = none
  | [], _, _ => rfl
  | _ :: _, [], h => by simp at h
  | (g, y) :: r, (g2, z) :: r2, h => by
    simp only [List.map_cons, List.cons.injEq] at h
    obtain ⟨h1, h2⟩ := h
    have h1 : g = fa g2 := h1
    subst h1
    have q : (m == fa g2) = false := beq_eq_false_iff_ne.mpr fun z => hm g2 z.symm
    simp only [List.lookup, q]
    exact look_no hm h2
theorem dn_meth {t1 : TE} {t : TA} {C0 : Addr} {ms : List Bool} {Q : VK} {P' : D × Env → Prop} {C : Ct} {Γ : Env} {σ : L2.St} {F H : Hp} {fin : DV × Env → R (D × Env)} (hC : C0 = cn.ca c) (hm : ∀ g, cn.fa g ≠ m) (h1 : DE cn W X.K t1 eo) (h2 : DA cn W X.K t av) (R : RelS X.K cn C Γ σ F H)
    (k : Post ((eo Γ).bind fun (d, Γ0) => match d with
      | .ins c' _ => if c' = c then (av Γ0).bind fun (ps, Γ1) => (callF Ff (false :: ms) (.pd d :: ps) Γ1).bind fin else .bad
      | _ => .bad) P' (XW X.K cn C F W))
    (hP : ∀ o Γ2 v F2 H2, Post (fin (o, Γ2)) P' (XW X.K cn C F W) → Same F F2 → RelS X.K cn C Γ2 σ F2 H2 → DVN X.K cn C Γ2 σ F2 H2 v o → Q v H2) : tMethX C0 m (spD X.K cn (false :: ms) Ff) W t1 t σ H Q := by
  subst hC
  refine h1 C Γ σ F H _ R (k.bind.mono (fun p k v F' H' s1 R1 hv => ?_) fun _ _ z => z)
  obtain ⟨d, Γ0⟩ := p
  cases d with
  | ins c' fs =>
    dsimp only at k R1 hv
    by_cases ec : c' = c
    · subst ec
      rw [if_pos rfl] at k
      obtain ⟨a, dx, fvs, ev, ha, hk⟩ := insOf hv
      refine ⟨a, dx, fvs, ev, R1.bs.fh _ _ ha, look_no hm hk, ?_⟩
      refine h2 C Γ0 σ F' H' _ R1 (k.bind.mono (fun q k vs F2 H2 s2 R2 hw => ?_) fun _ _ z => XW.up s1 z)
      exact call_ok (ps := .pd (.ins c' fs) :: q.1) R2 ⟨hv.mono s2, hw⟩ (k.bind.mono (fun _ z => z) fun _ _ z => XW.up (s1.trans s2) z) fun o Γ2 v2 F3 H3 hp s3 R3 dv => hP o Γ2 v2 F3 H3 hp ((s1.trans s2).trans s3) R3 dv
    · rw [if_neg ec] at k; exact k.elim
  | _ => exact k.elim
theorem je_meth {pl : Sem Bool} (he : JE X cn W o eo) (hc : Cls X.K (cn.ca c)) (hm : Meth X.K (cn.ca c) m f) (hno : ∀ g, cn.fa g ≠ m) (F : FnOk X.prog X.w X.K X.mg X.base (L2.CX X.prog X.w) k f fd ps (spD X.K cn (false :: ms) Ff)) (hr : Room k X.A) (hb : Binds X.K fd ps []) (tk : Takes X W) (ha : JA X cn W (e :: es) av)
    (hst : starEach (e :: es) X.env = (false, eval e X.env) :: starEach es X.env := by rfl) (hpl : (backTo pos (starEach es X.env)).any (·.1) = false := by rfl)
    (ht : eval (.Call (.Attribute o m apos) (e :: es) [] pos) X.env = (do
      let ov ← eval o X.env
      standAt apos.atName
      let (f, first) ← holding [ov] (getMethod ov m pl)
      callWith pos f first (backTo pos (starEach (e :: es) X.env)) (backToKw pos (keywordEach [] X.env))) := by rfl) : JE X cn W (.Call (.Attribute o m apos) (e :: es) [] pos) (eMeth c Ff ms eo av) := by
  obtain ⟨t1, p1, d1⟩ := he
  obtain ⟨t2, p2, d2⟩ := ha
  exact ⟨_, pe_methX p1 hc hm F hr hb tk p2 hst hpl ht, fun C Γ σ F H Q R k => dn_meth rfl hno d1 d2 R k fun o Γ2 v F2 H2 hp s R2 dv => dvn_e s R2 dv hp⟩
theorem jn_meth {pl : Sem Bool} (he : JE X cn W o eo) (hc : Cls X.K (cn.ca c)) (hm : Meth X.K (cn.ca c) m f) (hno : ∀ g, cn.fa g ≠ m) (F : FnOk X.prog X.w X.K X.mg X.base (L2.CX X.prog X.w) k f fd ps (spD X.K cn (false :: ms) Ff)) (hr : Room k X.A) (hb : Binds X.K fd ps []) (tk : Takes X W) (ha : JA X cn W (e :: es) av)
    (hst : starEach (e :: es) X.env = (false, eval e X.env) :: starEach es X.env := by rfl) (hpl : (backTo pos (starEach es X.env)).any (·.1) = false := by rfl)
    (ht : eval (.Call (.Attribute o m apos) (e :: es) [] pos) X.env = (do
      let ov ← eval o X.env
      standAt apos.atName
      let (f, first) ← holding [ov] (getMethod ov m pl)
      callWith pos f first (backTo pos (starEach (e :: es) X.env)) (backToKw pos (keywordEach [] X.env))) := by rfl) : JN X cn W (.Call (.Attribute o m apos) (e :: es) [] pos) (nMeth c Ff ms eo av) := by
  obtain ⟨t1, p1, d1⟩ := he
  obtain ⟨t2, p2, d2⟩ := ha
  refine ⟨_, pe_methX p1 hc hm F hr hb tk p2 hst hpl ht, fun C Γ σ F H Q R k => dn_meth rfl hno d1 d2 R k fun o Γ2 v F2 H2 hp s R2 dv => ?_⟩
  cases o with
  | fz d => exact hp.elim
  | fr d => exact hp v F2 H2 s R2 dv
theorem da_nil : DA cn W X.K tNil aNil := fun C Γ σ F H Q r k => k [] F H (Same.refl _) r True.intro
theorem je_meth0 {pl : Sem Bool} (he : JE X cn W o eo) (hc : Cls X.K (cn.ca c)) (hm : Meth X.K (cn.ca c) m f) (hno : ∀ g, cn.fa g ≠ m) (F : FnOk X.prog X.w X.K X.mg X.base (L2.CX X.prog X.w) k f fd ps (spD X.K cn [false] Ff)) (hr : Room k X.A) (hb : Binds X.K fd ps []) (tk : Takes X W)
    (ht : eval (.Call (.Attribute o m apos) [] [] pos) X.env = (do
      let ov ← eval o X.env
      standAt apos.atName
      let (f, first) ← holding [ov] (getMethod ov m pl)
      callWith pos f first (backTo pos (starEach [] X.env)) (backToKw pos (keywordEach [] X.env))) := by rfl) : JE X cn W (.Call (.Attribute o m apos) [] [] pos) (eMeth c Ff [] eo aNil) := by
  obtain ⟨t1, p1, d1⟩ := he
  exact ⟨_, pe_methX0 p1 hc hm F hr hb tk ht, fun C Γ σ F H Q R k => dn_meth rfl hno d1 da_nil R k fun o Γ2 v F2 H2 hp s R2 dv => dvn_e s R2 dv hp⟩
theorem jn_meth0 {pl : Sem Bool} (he : JE X cn W o eo) (hc : Cls X.K (cn.ca c)) (hm : Meth X.K (cn.ca c) m f) (hno : ∀ g, cn.fa g ≠ m) (F : FnOk X.prog X.w X.K X.mg X.base (L2.CX X.prog X.w) k f fd ps (spD X.K cn [false] Ff)) (hr : Room k X.A) (hb : Binds X.K fd ps []) (tk : Takes X W)
    (ht : eval (.Call (.Attribute o m apos) [] [] pos) X.env = (do
      let ov ← eval o X.env
      standAt apos.atName
      let (f, first) ← holding [ov] (getMethod ov m pl)
      callWith pos f first (backTo pos (starEach [] X.env)) (backToKw pos (keywordEach [] X.env))) := by rfl) : JN X cn W (.Call (.Attribute o m apos) [] [] pos) (nMeth c Ff [] eo aNil) := by
  obtain ⟨t1, p1, d1⟩ := he
  refine ⟨_, pe_methX0 p1 hc hm F hr hb tk ht, fun C Γ σ F H Q R k => dn_meth rfl hno d1 da_nil R k fun o Γ2 v F2 H2 hp s R2 dv => ?_⟩
  cases o with
  | fz d => exact hp.elim
  | fr d => exact hp v F2 H2 s R2 dv
/-- C(e, ..) -/
theorem je_make {Fi : List D → R (List (Nat × D))} (M : Mk X.K (cn.ca c) f) (F : FnOk X.prog X.w X.K X.mg X.base (L2.CX X.prog X.w) k f fd ps (spI X.K cn c ms Fi)) (hr : Room (k + 1) X.A) (hg : Gl X x) (hm : X.mg x = some (.ref (cn.ca c))) (hb : Binds X.K fd ps []) (tk : Takes X W)
    (ha : JA X cn W (e :: es) av) (hdb : (x == ("__debug__" : Str)) = false := by decide) (he : starEach (e :: es) X.env = (false, eval e X.env) :: starEach es X.env := by rfl) (hpl : (backTo pos (starEach es X.env)).any (·.1) = false := by rfl) :
    JE X cn W (.Call (.Name x p) (e :: es) [] pos) (eCall (mkF c Fi) ms av) := by
  obtain ⟨t, pa, d⟩ := ha
  refine ⟨_, pe_makeX M F hr hg hm hb tk pa hdb he hpl, fun C Γ σ F0 H Q R k => ?_⟩
  refine d C Γ σ F0 H _ R (k.bind.mono (fun p k vs F' H' s1 R1 hv => ?_) fun _ _ z => z)
  exact spD_make (call_ok R1 hv (k.bind.mono (fun _ z => z) fun _ _ z => XW.up s1 z) fun o Γ2 v F2 H2 hP s R2 dv => dvn_e (s1.trans s) R2 dv hP)
/-- C.m(e, ..), a staticmethod -/
theorem je_sm {pl : Sem Bool} {mc : Value} {q : Addr} {px : Pos} (hg : Gl X x) (hm : X.mg x = some (.ref (cn.ca c))) (S : SMeth X.K (cn.ca c) f m mc q) (F : FnOk X.prog X.w X.K X.mg X.base (L2.CX X.prog X.w) k f fd ps (spD X.K cn ms Ff)) (hr : Room k X.A) (hb : Binds X.K fd ps []) (tk : Takes X W) (ha : JA X cn W (e :: es) av)
    (hdb : (x == ("__debug__" : Str)) = false := by decide) (hst : starEach (e :: es) X.env = (false, eval e X.env) :: starEach es X.env := by rfl) (hpl : (backTo pos (starEach es X.env)).any (·.1) = false := by rfl)
    (ht : eval (.Call (.Attribute (.Name x px) m apos) (e :: es) [] pos) X.env = (do
      let ov ← eval (.Name x px) X.env
      standAt apos.atName
      let (f, first) ← holding [ov] (getMethod ov m pl)
      callWith pos f first (backTo pos (starEach (e :: es) X.env)) (backToKw pos (keywordEach [] X.env))) := by rfl) :
    JE X cn W (.Call (.Attribute (.Name x px) m apos) (e :: es) [] pos) (eCall Ff ms av) := by
  obtain ⟨t, pa, d⟩ := ha
  refine ⟨_, pe_smX hg hm S F hr hb tk pa hdb hst hpl ht, fun C Γ σ F0 H Q R k => ?_⟩
  refine d C Γ σ F0 H _ R (k.bind.mono (fun p k vs F' H' s1 R1 hv => ?_) fun _ _ z => z)
  exact call_ok R1 hv (k.bind.mono (fun _ z => z) fun _ _ z => XW.up s1 z) fun o Γ2 v F2 H2 hP s R2 dv => dvn_e (s1.trans s) R2 dv hP
/-! own operators -/
theorem je_own2 {op : Operator} (sf : PySem.W.selfFirst X.K (cn.ca c) = true) (hm : Meth X.K (cn.ca c) (PySem.dunder op.info.2) f) (F : FnOk X.prog X.w X.K X.mg X.base (L2.CX X.prog X.w) k f fd ps (spD X.K cn [false, false] Ff)) (hr : Room k X.A) (hb : Binds X.K fd ps []) (tk : Takes X W) (ha : JE X cn W a ea) (hb2 : JE X cn W b eb) :
    JE X cn W (.BinOp a op b pos) (eOwn2 c Ff ea eb) := by
  obtain ⟨t1, p1, d1⟩ := ha
  obtain ⟨t2, p2, d2⟩ := hb2
  refine ⟨_, pe_own2 sf hm F hr hb tk p1 p2, fun C Γ σ F0 H Q R k => ?_⟩
  refine d1 C Γ σ F0 H _ R (k.bind.mono (fun p k v F' H' s1 R1 hv => ?_) fun _ _ z => z)
  refine d2 C p.2 σ F' H' _ R1 (k.bind.mono (fun q k w F2 H2 s2 R2 hw => ?_) fun _ _ z => XW.up s1 z)
  obtain ⟨x1, Γ1⟩ := p
  obtain ⟨x2, Γ2⟩ := q
  cases x1 with
  | ins c1 fs1 =>
    cases x2 with
    | ins c2 fs2 =>
      dsimp only at k hv hw R2
      by_cases ec : c1 = c ∧ c2 = c
      · rw [if_pos ec] at k
        obtain ⟨e1, e2⟩ := ec
        have kk := k
        subst e1 e2
        obtain ⟨a1, dx, fvs, ev, ha, _⟩ := insOf (hv.mono s2)
        obtain ⟨a2, dy, gvs, ew, ha2, _⟩ := insOf hw
        exact ⟨a1, dx, fvs, a2, dy, gvs, ev, ew, R2.bs.fh _ _ ha, R2.bs.fh _ _ ha2, call_ok (vs := [v, w]) (ps := [.pd (.ins _ fs1), .pd (.ins _ fs2)]) R2 ⟨hv.mono s2, hw, True.intro⟩ (kk.bind.mono (fun _ z => z) fun _ _ z => XW.up (s1.trans s2) z) fun o Γ3 v3 F3 H3 hP s3 R3 dv => dvn_e ((s1.trans s2).trans s3) R3 dv hP⟩
      · rw [if_neg ec] at k; exact k.elim
    | _ => exact k.elim
  | _ => exact k.elim
theorem je_ownEq (nf : PySem.W.notFirst X.K (cn.ca c) (.ref (cn.ca c)) = true) (hm : Meth X.K (cn.ca c) "__eq__" f) (F : FnOk X.prog X.w X.K X.mg X.base (L2.CX X.prog X.w) k f fd ps (spD X.K cn [false, false] Ff)) (hr : Room k X.A) (hb : Binds X.K fd ps []) (tk : Takes X W) (ha : JE X cn W a ea) (hb2 : JE X cn W b eb) :
    JE X cn W (.Compare a [.Eq] [b] pos) (eOwn2 c Ff ea eb) := by
  obtain ⟨t1, p1, d1⟩ := ha
  obtain ⟨t2, p2, d2⟩ := hb2
  refine ⟨_, pe_ownEq nf hm F hr hb tk p1 p2, fun C Γ σ F0 H Q R k => ?_⟩
  refine d1 C Γ σ F0 H _ R (k.bind.mono (fun p k v F' H' s1 R1 hv => ?_) fun _ _ z => z)
  refine d2 C p.2 σ F' H' _ R1 (k.bind.mono (fun q k w F2 H2 s2 R2 hw => ?_) fun _ _ z => XW.up s1 z)
  obtain ⟨x1, Γ1⟩ := p
  obtain ⟨x2, Γ2⟩ := q
  cases x1 with
  | ins c1 fs1 =>
    cases x2 with
    | ins c2 fs2 =>
      dsimp only at k hv hw R2
      by_cases ec : c1 = c ∧ c2 = c
      · rw [if_pos ec] at k
        obtain ⟨e1, e2⟩ := ec
        have kk := k
        subst e1 e2
        obtain ⟨a1, dx, fvs, ev, ha, _⟩ := insOf (hv.mono s2)
        obtain ⟨a2, dy, gvs, ew, ha2, _⟩ := insOf hw
        exact ⟨a1, dx, fvs, a2, dy, gvs, ev, ew, R2.bs.fh _ _ ha, R2.bs.fh _ _ ha2, call_ok (vs := [v, w]) (ps := [.pd (.ins _ fs1), .pd (.ins _ fs2)]) R2 ⟨hv.mono s2, hw, True.intro⟩ (kk.bind.mono (fun _ z => z) fun _ _ z => XW.up (s1.trans s2) z) fun o Γ3 v3 F3 H3 hP s3 R3 dv => dvn_e ((s1.trans s2).trans s3) R3 dv hP⟩
      · rw [if_neg ec] at k; exact k.elim
    | _ => exact k.elim
  | _ => exact k.elim
theorem je_ownInv (hm : Meth X.K (cn.ca c) "__invert__" f) (F : FnOk X.prog X.w X.K X.mg X.base (L2.CX X.prog X.w) k f fd ps (spD X.K cn [false] Ff)) (hr : Room k X.A) (hb : Binds X.K fd ps []) (tk : Takes X W) (ha : JE X cn W a ea) : JE X cn W (.UnaryOp .Invert a pos) (eOwn1 c Ff ea) := by
  obtain ⟨t1, p1, d1⟩ := ha
  refine ⟨_, pe_ownInv hm F hr hb tk p1, fun C Γ σ F0 H Q R k => ?_⟩
  refine d1 C Γ σ F0 H _ R (k.bind.mono (fun p k v F' H' s1 R1 hv => ?_) fun _ _ z => z)
  obtain ⟨x1, Γ1⟩ := p
  cases x1 with
  | ins c1 fs1 =>
    dsimp only at k hv R1
    by_cases ec : c1 = c
    · rw [if_pos ec] at k
      have kk := k
      subst ec
      obtain ⟨a1, dx, fvs, ev, ha, _⟩ := insOf hv
      exact ⟨a1, dx, fvs, ev, R1.bs.fh _ _ ha, call_ok (vs := [v]) (ps := [.pd (.ins _ fs1)]) R1 ⟨hv, True.intro⟩ (kk.bind.mono (fun _ z => z) fun _ _ z => XW.up s1 z) fun o Γ3 v3 F3 H3 hP s3 R3 dv => dvn_e (s1.trans s3) R3 dv hP⟩
    · rw [if_neg ec] at k; exact k.elim
  | _ => exact k.elim
theorem dc_own {t : TA} {kd : D → Bool} {C : Ct} {Γ : Env} {σ : L2.St} {F0 H : Hp} {Q : VK} {Q' : VK} (d1 : ∀ Q : List V → Hp → Prop, Post (ea Γ) (fun p => ∀ v F' H', Same F0 F' → RelS X.K cn C p.2 σ F' H' → Rep X.K cn F' v p.1 → Q [v] H') (XW X.K cn C F0 W) → t σ H Q)
    (hq : ∀ d v F2 H2 Γ2, kd d = true → Rep X.K cn F2 v d → EEnd X.K cn C σ F0 Q (d, Γ2) → Same F0 F2 → RelS X.K cn C Γ2 σ F2 H2 → Q' v H2)
    (k : Post (eOwnC c kd Ff ea Γ) (EEnd X.K cn C σ F0 Q) (XW X.K cn C F0 W)) : t σ H fun xs H1 => ∃ a dx fs, xs = [.ref a] ∧ H1 a = some (.ins (cn.ca c) dx fs) ∧ spD X.K cn [false] Ff xs H1 Q' (WE W σ) := by
  refine d1 _ (k.bind.mono (fun p k v F' H' s1 R1 hv => ?_) fun _ _ z => z)
  obtain ⟨x1, Γ1⟩ := p
  cases x1 with
  | ins c1 fs1 =>
    dsimp only at k hv R1
    by_cases ec : c1 = c
    · rw [if_pos ec] at k
      have kk := k
      subst ec
      obtain ⟨a1, dx, fvs, ev, ha, _⟩ := insOf hv
      refine ⟨a1, dx, fvs, by rw [ev], R1.bs.fh _ _ ha, call_ok (vs := [v]) (ps := [.pd (.ins _ fs1)]) R1 ⟨hv, True.intro⟩ (kk.bind.mono (fun _ z => z) fun _ _ z => XW.up s1 z) fun o Γ3 v3 F3 H3 hP s3 R3 dv => ?_⟩
      cases o with
      | fz d =>
        dsimp only at hP
        split at hP
        · rename_i hk
          exact hq d v3 F3 H3 Γ3 hk dv hP (s1.trans s3) R3
        · exact hP.elim
      | fr d => exact hP.elim
    · rw [if_neg ec] at k; exact k.elim
  | _ => exact k.elim
theorem ta_one {te : TE} (h : DE cn W X.K te ea) {C : Ct} {Γ : Env} {σ : L2.St} {F0 H : Hp} (R : RelS X.K cn C Γ σ F0 H) (Q : List V → Hp → Prop) (k : Post (ea Γ) (fun p => ∀ v F' H', Same F0 F' → RelS X.K cn C p.2 σ F' H' → Rep X.K cn F' v p.1 → Q [v] H') (XW X.K cn C F0 W)) : tCons te tNil σ H Q :=
  h C Γ σ F0 H _ R k
theorem je_ownBool (hm : Meth X.K (cn.ca c) "__bool__" f) (F : FnOk X.prog X.w X.K X.mg X.base (L2.CX X.prog X.w) k f fd ps (spD X.K cn [false] Ff)) (hr : Room (k + 1 + 1) X.A) (hb : Binds X.K fd ps []) (tk : Takes X W) (hg : Gl X "bool") (hmn : X.mg "bool" = none) (ha : JE X cn W e ea)
    (he : starEach [e] X.env = (false, eval e X.env) :: starEach [] X.env := by rfl) (hpl : (backTo pos (starEach [] X.env)).any (·.1) = false := by rfl) : JE X cn W (.Call (.Name "bool" p) [e] [] pos) (eOwnC c isB Ff ea) := by
  obtain ⟨t1, p1, d1⟩ := ha
  refine ⟨_, pe_ownBool hm F hr hb tk hg hmn (pa_cons p1 pa_nil he) he hpl, fun C Γ σ F H Q R k => ?_⟩
  refine dc_own (ta_one d1 R) (fun d v F2 H2 Γ2 hk rv hP s R2 => ?_) k
  cases d with
  | bl b => cases rv; exact ⟨b, rfl, hP _ F2 H2 s R2 (.bl b)⟩
  | _ => cases hk
theorem je_ownStr (hm : Meth X.K (cn.ca c) "__str__" f) (F : FnOk X.prog X.w X.K X.mg X.base (L2.CX X.prog X.w) k f fd ps (spD X.K cn [false] Ff)) (hr : Room (k + 1 + 1) X.A) (hb : Binds X.K fd ps []) (tk : Takes X W) (hg : Gl X "str") (hmn : X.mg "str" = none) (ha : JE X cn W e ea)
    (he : starEach [e] X.env = (false, eval e X.env) :: starEach [] X.env := by rfl) (hpl : (backTo pos (starEach [] X.env)).any (·.1) = false := by rfl) : JE X cn W (.Call (.Name "str" p) [e] [] pos) (eOwnC c isS Ff ea) := by
  obtain ⟨t1, p1, d1⟩ := ha
  refine ⟨_, pe_ownStr hm F hr hb tk hg hmn (pa_cons p1 pa_nil he) he hpl, fun C Γ σ F H Q R k => ?_⟩
  refine dc_own (ta_one d1 R) (fun d v F2 H2 Γ2 hk rv hP s R2 => ?_) k
  cases d with
  | str b => cases rv; exact ⟨b, rfl, hP _ F2 H2 s R2 (.str b)⟩
  | _ => cases hk
theorem je_ownLen (hm : Meth X.K (cn.ca c) "__len__" f) (F : FnOk X.prog X.w X.K X.mg X.base (L2.CX X.prog X.w) k f fd ps (spD X.K cn [false] Ff)) (hr : Room (k + 1) X.A) (hb : Binds X.K fd ps []) (tk : Takes X W) (hg : Gl X "len") (hmn : X.mg "len" = none) (ha : JE X cn W e ea)
    (he : starEach [e] X.env = (false, eval e X.env) :: starEach [] X.env := by rfl) (hpl : (backTo pos (starEach [] X.env)).any (·.1) = false := by rfl) : JE X cn W (.Call (.Name "len" p) [e] [] pos) (eOwnC c isL Ff ea) := by
  obtain ⟨t1, p1, d1⟩ := ha
  refine ⟨_, pe_ownLen hm F hr hb tk hg hmn (pa_cons p1 pa_nil he) he hpl, fun C Γ σ F H Q R k => ?_⟩
  refine dc_own (ta_one d1 R) (fun d v F2 H2 Γ2 hk rv hP s R2 => ?_) k
  cases d with
  | int b =>
    cases rv
    have hk := Bool.and_eq_true_iff.mp (show (decide (0 ≤ b) && decide (b < 2 ^ 62)) = true from hk)
    have h1 := of_decide_eq_true hk.1
    have h2 := of_decide_eq_true hk.2
    exact ⟨b, rfl, ⟨h1, Int.lt_trans h2 (by decide)⟩, hP _ F2 H2 s R2 (.int b)⟩
  | _ => cases hk
/-! errors -/
/-- X(), X an own exception class without own __init__ -/
theorem pmk_own0 {C : Addr} {bmB : List Value} {B newId initId : String} (F : ExcBaseFacts B newId initId bmB) (q : PySem.W.excIn X.K C bmB newId = true) (gC : X.mg x = some (.ref C))
    (kC : PySem.W.keepIn X.K (.ref C) = true) (r : Raises X (.ref C)) (hg : Gl X x) (hdb : (x == ("__debug__" : Str)) = false := by decide) : PMk X (.Call (.Name x p) [] [] pos) (fun _ H Q => Q (.ref C) none H) := by
  intro pins s σ H Q I h
  refine wpAny_Call_Name_kw (ld_glob I hg gC ?_ hdb)
  refine PySem.W.callWith_K0 I.kIn kC ?_
  show wpAny _ _ (call (.ref C) []) _ _ _
  obtain ⟨bm, N, nm, qn, bs, hdct, sn, sub, ab, col, dd, k0, k1, k2, k3, k5, mN, hC, hN, hni, T⟩ := exc_obj I.kIn q
  exact wpAny_call_exc_subT F T hC hN hni (fun h' e hm => mk_of I hm r h (I.hok.gone hm.new)) (Nat.zero_le _)
theorem js_raise0 {C : Addr} {bmB : List Value} {B newId initId : String} {pos2 : Pos} (hc : X.calm = true) (tk : Takes X W) (hC : C = cn.ca c) (F : ExcBaseFacts B newId initId bmB) (q : PySem.W.excIn X.K C bmB newId = true) (gC : X.mg x = some (.ref C))
    (kC : PySem.W.keepIn X.K (.ref C) = true) (r : Raises X (.ref C)) (hg : Gl X x) (hdb : (x == ("__debug__" : Str)) = false := by decide) : JS X cn W (.Raise (some (.Call (.Name x p) [] [] pos)) none pos2) (sRaise c [] lNil) := by
  subst hC
  refine ⟨_, ps_raise hc tk (pmk_own0 F q gC kC r hg hdb), fun C Γ σ F H Dn R k => ?_⟩
  exact k (.ref (cn.ca c)) none σ F H (Same.refl _) R ⟨rfl, .inl ⟨rfl, rfl⟩⟩
/-- the caught error does not matter to what data stands where -/
theorem Rep.cx {K : PySem.W.Frag} {ca : Nat → Addr} {fa : Nat → Str} {e e' : Option (Addr × Value × Option Addr)} {F : Hp} {v : V} {d : D} (h : Rep K ⟨ca, fa, e⟩ F v d) : Rep K ⟨ca, fa, e'⟩ F v d := by
  induction h with
  | non => exact .non
  | bl b => exact .bl b
  | int i => exact .int i
  | str z => exact .str z
  | lst h hl _ ih => exact .lst h hl ih
  | tup h hl _ ih => exact .tup h hl ih
  | dct h hk _ ih => exact .dct h hk ih
  | ins h hk _ ih => exact .ins h hk ih
  | scr h => exact .scr h
section
variable {K : PySem.W.Frag} {ca : Nat → Addr} {fa : Nat → Str} {e e' : Option (Addr × Value × Option Addr)} {F H : Hp} {v : V} {d : D} {C : Ct} {Γ : Env} {σ : St} {a : Addr}
theorem Reps.cx {vs : List V} {ds : List D} (h : Reps K ⟨ca, fa, e⟩ F vs ds) : Reps K ⟨ca, fa, e'⟩ F vs ds := ⟨h.1, fun i v d a b => (h.2 i v d a b).cx⟩
theorem RepP.cx {κ κ' : Type} {g : κ' → κ} {vs : List (κ × V)} {ds : List (κ' × D)} (h : RepP K ⟨ca, fa, e⟩ g F vs ds) : RepP K ⟨ca, fa, e'⟩ g F vs ds := ⟨h.1, fun i v d a b => (h.2 i v d a b).cx⟩
theorem OwnR.cx (h : OwnR K ⟨ca, fa, e⟩ F H a d) : OwnR K ⟨ca, fa, e'⟩ F H a d := by
  cases d with
  | lst ds => obtain ⟨vs, h, r⟩ := h; exact ⟨vs, h, r.cx⟩
  | dct ds => obtain ⟨vs, h, r⟩ := h; exact ⟨vs, h, r.cx⟩
  | _ => exact h.elim
theorem Shal.cx (h : Shal K ⟨ca, fa, e⟩ F H v d) : Shal K ⟨ca, fa, e'⟩ F H v d := by
  cases d with
  | lst ds => obtain ⟨a, vs, e1, h, r⟩ := h; exact ⟨a, vs, e1, h, r.cx⟩
  | dct ds => obtain ⟨a, vs, e1, h, r⟩ := h; exact ⟨a, vs, e1, h, r.cx⟩
  | _ => exact Rep.cx h
theorem RepX.cx {cls : Value} {od : Option Addr} {x : Xc} (h : RepX K ⟨ca, fa, e⟩ F cls od x) : RepX K ⟨ca, fa, e'⟩ F cls od x := by
  obtain ⟨h1, h2⟩ := h
  refine ⟨h1, ?_⟩
  rcases h2 with h2 | ⟨d, fvs, h3, h4, h6, h5⟩
  · exact .inl h2
  · exact .inr ⟨d, fvs, h3, h4, h6, fun f z q => (h5 f z q).imp fun v w => ⟨w.1, w.2.cx⟩⟩
theorem RelS.cx (r : RelS K ⟨ca, fa, e⟩ C Γ σ F H) (hx : (∀ (i : Nat) x, Γ[i]? ≠ some (.exn x)) ∨ e' = none) : RelS K ⟨ca, fa, e'⟩ C Γ σ F H := by
  refine ⟨r.bs, r.len, fun j t h => ?_, r.ow, r.s0⟩
  have w := r.sl j t h
  cases t with
  | emp => trivial
  | val x => obtain ⟨v, a1, r1⟩ := w; exact ⟨v, a1, r1.cx⟩
  | own x => obtain ⟨b, e1, m, m0, r1⟩ := w; exact ⟨b, e1, m, m0, r1.cx⟩
  | bor x => obtain ⟨v, a1, r1⟩ := w; exact ⟨v, a1, r1.cx⟩
  | slf c fs => obtain ⟨b, dx, fvs, e1, e2, m, h5, r1⟩ := w; exact ⟨b, dx, fvs, e1, e2, m, h5, r1.cx⟩
  | exn x =>
    rcases hx with hx | hx
    · exact absurd h (hx j x)
    · subst hx
      obtain ⟨a1, e1, _⟩ := w
      exact ⟨a1, e1, fun _ _ _ z => by cases z⟩
theorem noX_ok : ∀ {Γ : Env}, noX Γ = true → ∀ (i : Nat) x, Γ[i]? ≠ some (.exn x)
  | [], _, i, x => by simp
  | s :: Γ, h, i, x => by
    unfold noX at h
    rw [List.all_cons, Bool.and_eq_true] at h
    cases i with
    | zero =>
      intro q
      have : s = .exn x := by simpa using q
      subst this
      exact Bool.noConfusion (show false = true from h.1)
    | succ i => rw [List.getElem?_cons_succ]; exact noX_ok (Γ := Γ) h.2 i x
end
/-- the wish within a try -/
theorem js_try {i : Nat} {n : Str} {cv : Value} {ex : Nat → Option Bool} {body suite : List Stmt} {b₀ : Stmt} {np pos' : Pos} (hx0 : cn.ex = none) (hs : X.stack = X.env :: X.outer) (hf : X.env.frame = some X.env.locals) (hN : X.N.Nodup) (hi : X.N[i]? = some n) (hln : X.env.kindOf n = some .local) (hc : Names X x cv) (hex : ∀ c b, ex c = some b → PySem.W.exmOne X.K (.ref (cn.ca c)) cv = some b) (tk : Takes X W)
    (hb : ∀ (W : WX) (pn : List (Addr × Obj)) (xe : Value → Shared → Prop), Takes (X.tr pn xe) W → PassesOwn (model X.prog X.w) X.A X.env xe → JSs (X.tr pn xe) cn W body sa)
    (hsu : ∀ (a : Addr) (oe : Obj) (cls : Value) (d : Option Addr) (pn : List (Addr × Obj)), Zc cls d oe → (∃ vs, oe.data = .fields vs) → JSs (X.suite a ((a, oe) :: pn)) ⟨cn.ca, cn.fa, some (a, cls, d)⟩ (fun _ _ _ _ => False) (b₀ :: suite) sb) :
    JS X cn W (.Try body [.ExceptHandler (some (.Name x np)) (some n) (b₀ :: suite) pos'] [] [] pos) (sTry i ex sa sb) := by
  obtain ⟨ca, fa, ex0⟩ := cn
  cases hx0
  refine ⟨_, ps_try_as (ts := fun a cls d Dn σ H => ∃ C Γ F, RelS X.K ⟨ca, fa, some (a, cls, d)⟩ C Γ σ F H ∧ Post (sb Γ) (SEnd X.K ⟨ca, fa, some (a, cls, d)⟩ C F Dn) (fun _ _ => False))
    (tb := fun W Dn σ H => ∃ C Γ F, RelS X.K ⟨ca, fa, none⟩ C Γ σ F H ∧ Post (sa Γ) (SEnd X.K ⟨ca, fa, none⟩ C F Dn) (XW X.K ⟨ca, fa, none⟩ C F W)) hs hf hN hi hln hc tk (fun W pn xe t1 t2 => ?_) (fun a oe cls d pn hz hv => ?_), fun C Γ σ F H Dn R k => ?_⟩
  · obtain ⟨t, p, d⟩ := hb W pn xe t1 t2
    refine ⟨fun pins s σ H D I h => p.run pins s σ H D I ?_⟩
    obtain ⟨C, Γ, F, h1, h2⟩ := h
    exact d C Γ σ F H D h1 h2
  · obtain ⟨ts, p, dd⟩ := hsu a oe cls d pn hz hv
    refine ⟨fun pins s σ H D I h => p.run pins s σ H D I ?_⟩
    obtain ⟨C, Γ, F, h1, h5⟩ := h
    exact dd C Γ σ F H D h1 (Post.mono h5 (fun _ z => z) fun _ _ z => z.elim)
  · refine ⟨C, Γ, F, R, ?_⟩
    unfold sTry at k
    cases e : sa Γ with
    | bad => rw [e] at k; exact k.elim
    | ok p => rw [e] at k; exact k
    | exc y Γ1 =>
      rw [e] at k
      dsimp only at k
      intro cls od σ1 F1 H1 s1 R1 rx
      cases ee : ex y.c with
      | none => rw [ee] at k; exact k.elim
      | some bb =>
        rw [ee] at k
        refine ⟨bb, by rw [rx.1]; exact hex _ _ ee, fun hbb a na => ?_, fun hbb => ?_⟩
        · subst hbb
          dsimp only at k
          by_cases hi1 : i < Γ1.length ∧ noX Γ1 = true
          · rw [if_pos hi1] at k
            have R2 : RelS X.K ⟨ca, fa, some (a, cls, od)⟩ C Γ1 σ1 F1 H1 := R1.cx (.inl (noX_ok hi1.2))
            refine ⟨C, put Γ1 i (.exn y), F1, R2.setX (fun a' cls' od' z => by cases z; exact ⟨rfl, rx.cx⟩), ?_⟩
            cases es : sb (put Γ1 i (.exn y)) with
            | bad => rw [es] at k; exact k.elim
            | exc _ _ => rw [es] at k; exact k.elim
            | ok p =>
              obtain ⟨ct, Γ2⟩ := p
              rw [es] at k
              cases ct with
              | nx => exact fun σ2 F2 H2 s2 R2 => k _ F2 H2 (s1.trans s2) (R2.cx (.inr rfl)).setE
              | brk => exact fun σ2 F2 H2 s2 R2 => k _ F2 H2 (s1.trans s2) (R2.cx (.inr rfl)).setE
              | cnt => exact fun σ2 F2 H2 s2 R2 => k _ F2 H2 (s1.trans s2) (R2.cx (.inr rfl)).setE
              | ret o =>
                refine fun v F2 H2 s2 b r => k v F2 H2 (s1.trans s2) b ?_
                cases o with
                | fz d => exact Rep.cx r
                | fr d => obtain ⟨a1, e1, h1, h2, h3⟩ := r; exact ⟨a1, e1, h1, h2, h3.cx⟩
          · rw [if_neg hi1] at k; exact k.elim
        · subst hbb
          exact k cls od σ1 F1 H1 s1 R1 rx
end
end Ed

set_option autoImplicit true
set_option Elab.async false
set_option linter.all false
set_option maxRecDepth 100000
set_option maxHeartbeats 4000000
set_option exponentiation.threshold 10000
/-! Python's operations, over data -/
namespace Ed
open PySem L2

section
variable {X : Cx} {cn : Cn} {W : WX} {a b c e : Expr} {es : List Expr} {pos : Pos} {ea eb : EV} {qa qb : QV} {ta : TV} {av : AV} {lv : LV}
theorem ext0 {F H : Hp} (s : Same F H) : Ext F H F H := Ext.refl s
theorem log2_of {n k : Nat} (h : n < 2 ^ k) (hk : 0 < k) : n.log2 < k := by
  by_cases h0 : n = 0
  · subst h0; exact hk
  · exact (Nat.log2_lt h0).mpr h
/-- two rules for one operation -/
theorem R2D.or {K : PySem.W.Frag} {cn : Cn} {r r' : R2} {f : D → D → Option D} (h : ∀ F H x y dx dy d Q, Same F H → Shal K cn F H x dx → Shal K cn F H y dy → f dx dy = some d → (∀ z F' H', Ext F H F' H' → Rep K cn F' z d → Q z H') → r x y H Q ∨ r' x y H Q) : R2D K cn (fun x y H Q => r x y H Q ∨ r' x y H Q) f := h
/-! + -/
def rAddD (K : PySem.W.Frag) : R2 := fun x y H Q => rI0 (fun i j => .int (i + j)) x y H Q ∨ ((∃ i j, x = .str i ∧ y = .str j ∧ i.length + j.length ≤ sizeLine ∧ Q (.str (i ++ j)) H) ∨ (rCat x y H Q ∨ rCatA K x y H Q))
theorem op_addD : OpR X (binaryOp .Add) (rAddD X.K) := OpR.or op_add (OpR.or op_add_str (OpR.or op_cat op_catA))
theorem sm : (seqMax : Nat) = sizeLine := by rw [sizeLine_eq]; rfl
theorem r_add : R2D X.K cn (rAddD X.K) dAdd := fun F H x y dx dy d Q s hx hy e k => by
  cases dx with
  | int i =>
    cases dy with
    | int j => cases e; rw [hx.int, hy.int]; exact .inl ⟨i, j, rfl, rfl, k _ F H (ext0 s) (.int _)⟩
    | _ => cases e
  | str i =>
    cases dy with
    | str j =>
      have e : (if i.length + j.length ≤ seqMax then some (D.str (i ++ j)) else none) = some d := e
      split at e
      · rename_i hz; cases e; rw [hx.str, hy.str]; exact .inr (.inl ⟨i, j, rfl, rfl, by rw [← sm]; exact hz, k _ F H (ext0 s) (.str _)⟩)
      · cases e
    | _ => cases e
  | lst i =>
    cases dy with
    | lst j =>
      have e : (if i.length + j.length ≤ seqMax then some (D.lst (i ++ j)) else none) = some d := e
      split at e
      · rename_i hz
        cases e
        obtain ⟨a, vs, rfl, ha, ra⟩ := hx
        obtain ⟨b, ws, rfl, hb, rb⟩ := hy
        refine .inr (.inr (.inl ⟨a, b, vs, ws, rfl, rfl, ha, hb, by rw [← sm, ra.1, rb.1]; exact hz, fun p hp => ?_⟩))
        have ex := Ext.new (o := HO.lst (vs ++ ws)) s hp
        exact k _ _ _ ex (.lst upd_same ((ra.app rb).mono ex.f).1 ((ra.app rb).mono ex.f).2)
      · cases e
    | _ => cases e
  | tup i =>
    cases dy with
    | tup j =>
      have e : (if i.length + j.length ≤ seqMax then some (D.tup (i ++ j)) else none) = some d := e
      split at e
      · rename_i hz
        cases e
        obtain ⟨a, vs, ea, ha, ra⟩ := hx.tup s
        obtain ⟨b, ws, eb, hb, rb⟩ := hy.tup s
        have rx : Rep X.K cn F x (.tup i) := hx
        have ry : Rep X.K cn F y (.tup j) := hy
        refine .inr (.inr (.inr ⟨a, b, vs, ws, ea, eb, ha, hb, by rw [← sm, ra.1, rb.1]; exact hz, fun e => ?_, fun _ e => ?_, fun _ _ p hp => ?_⟩))
        · have : i = [] := by have := ra.1; rw [e] at this; exact List.length_eq_zero_iff.mp this.symm
          subst this
          rw [← eb]
          exact k _ F H (ext0 s) (by simpa using ry)
        · have : j = [] := by have := rb.1; rw [e] at this; exact List.length_eq_zero_iff.mp this.symm
          subst this
          rw [← ea]
          exact k _ F H (ext0 s) (by simpa using rx)
        · have ex := Ext.new (o := HO.tup (vs ++ ws)) s hp
          exact k _ _ _ ex (.tup (SqT.of upd_same) ((ra.app rb).mono ex.f).1 ((ra.app rb).mono ex.f).2)
      · cases e
    | _ => cases e
  | _ => cases e
theorem r_cat : R2N X.K cn rCat dCat := fun F H x y dx dy d Q s hx hy e k => by
  cases dx with
  | lst i =>
    cases dy with
    | lst j =>
      have e : (if i.length + j.length ≤ seqMax then some (D.lst (i ++ j)) else none) = some d := e
      split at e
      · rename_i hz
        cases e
        obtain ⟨a, vs, rfl, ha, ra⟩ := hx
        obtain ⟨b, ws, rfl, hb, rb⟩ := hy
        exact ⟨a, b, vs, ws, rfl, rfl, ha, hb, by rw [← sm, ra.1, rb.1]; exact hz, fun p hp => k p _ _ rfl hp (ra.app rb)⟩
      · cases e
    | _ => cases e
  | _ => cases e
theorem cat_l : ∀ x y z, dCat x y = some z → ∃ l, z = .lst l := fun x y z e => by
  cases x with
  | lst i =>
    cases y with
    | lst j =>
      have e : (if i.length + j.length ≤ seqMax then some (D.lst (i ++ j)) else none) = some z := e
      split at e
      · cases e; exact ⟨_, rfl⟩
      · cases e
    | _ => cases e
  | _ => cases e
/-! ints -/
theorem r2i {C : Int → Int → Prop} {g : Int → Int → V} {f : D → D → Option D} (h : ∀ dx dy d, f dx dy = some d → ∃ i j, dx = .int i ∧ dy = .int j ∧ C i j ∧ ∀ F, Rep X.K cn F (g i j) d) : R2D X.K cn (rI C g) f := fun F H x y dx dy d Q s hx hy e k => by
  obtain ⟨i, j, rfl, rfl, hc, hr⟩ := h dx dy d e
  rw [hx.int, hy.int]
  exact ⟨i, j, rfl, rfl, hc, k _ F H (ext0 s) (hr F)⟩
theorem r2i0 {g : Int → Int → V} {f : D → D → Option D} (h : ∀ dx dy d, f dx dy = some d → ∃ i j, dx = .int i ∧ dy = .int j ∧ ∀ F, Rep X.K cn F (g i j) d) : R2D X.K cn (rI0 g) f := fun F H x y dx dy d Q s hx hy e k => by
  obtain ⟨i, j, rfl, rfl, hr⟩ := h dx dy d e
  rw [hx.int, hy.int]
  exact ⟨i, j, rfl, rfl, k _ F H (ext0 s) (hr F)⟩
theorem r_sub : R2D X.K cn (rI0 fun i j => .int (i - j)) dSub := r2i0 fun dx dy d e => by
  cases dx <;> cases dy <;> first | (cases e; exact ⟨_, _, rfl, rfl, fun _ => .int _⟩) | cases e
theorem r_lt : R2D X.K cn (rI0 fun i j => .bl (decide (i < j))) dLt := r2i0 fun dx dy d e => by
  cases dx <;> cases dy <;> first | (cases e; exact ⟨_, _, rfl, rfl, fun _ => .bl _⟩) | cases e
theorem r_le : R2D X.K cn (rI0 fun i j => .bl (decide (i ≤ j))) dLe := r2i0 fun dx dy d e => by
  cases dx <;> cases dy <;> first | (cases e; exact ⟨_, _, rfl, rfl, fun _ => .bl _⟩) | cases e
theorem r_gt : R2D X.K cn (rI0 fun i j => .bl (decide (j < i))) dGt := r2i0 fun dx dy d e => by
  cases dx <;> cases dy <;> first | (cases e; exact ⟨_, _, rfl, rfl, fun _ => .bl _⟩) | cases e
theorem r_ge : R2D X.K cn (rI0 fun i j => .bl (decide (j ≤ i))) dGe := r2i0 fun dx dy d e => by
  cases dx <;> cases dy <;> first | (cases e; exact ⟨_, _, rfl, rfl, fun _ => .bl _⟩) | cases e
theorem mulOk_ok {i j : Int} (h : mulOk i j = true) : PySem.IntMulOk i j := by
  unfold mulOk nLt at h
  simp only [Bool.or_eq_true, Bool.and_eq_true, decide_eq_true_eq] at h
  rcases h with (h | h) | ⟨h, h2⟩
  · exact CMul.ok (.inl ⟨by omega, by omega⟩)
  · exact CMul.ok (.inr ⟨by omega, by omega⟩)
  · exact (wide_mul h h2 (by decide) (by decide) (by decide)).ok
theorem op_mulD : OpR X (binaryOp .Mult) (rI PySem.IntMulOk fun i j => .int (i * j)) := opI fun _ _ _ _ _ _ _ hc q => PyProof.Rows.mul_int q hc
theorem r_mul : R2D X.K cn (rI PySem.IntMulOk fun i j => .int (i * j)) dMul := r2i fun dx dy d e => by
  cases dx with
  | int i =>
    cases dy with
    | int j =>
      have e : (if mulOk i j then some (D.int (i * j)) else none) = some d := e
      split at e
      · rename_i h; cases e; exact ⟨i, j, rfl, rfl, mulOk_ok h, fun _ => .int _⟩
      · cases e
    | _ => cases e
  | _ => cases e
def CDivD (_ j : Int) : Prop := j ≠ 0 ∧ j.natAbs.log2 < 9000
theorem op_divD : OpR X (binaryOp .FloorDiv) (rI CDivD fun i j => .int (i.fdiv j)) := opI fun _ _ _ _ _ _ _ hc q => PyProof.Rows.floordiv_int hc.1 q (.inl (PyProof.noPylong_of_log2 hc.2))
theorem r_div : R2D X.K cn (rI CDivD fun i j => .int (i.fdiv j)) dDiv := r2i fun dx dy d e => by
  cases dx with
  | int i =>
    cases dy with
    | int j =>
      have e : (if j ≠ 0 ∧ j.natAbs < 2 ^ 8000 then some (D.int (i.fdiv j)) else none) = some d := e
      split at e
      · rename_i h; cases e; exact ⟨i, j, rfl, rfl, ⟨h.1, Nat.lt_of_lt_of_le (log2_of h.2 (by decide)) (by decide)⟩, fun _ => .int _⟩
      · cases e
    | _ => cases e
  | _ => cases e
theorem r_mod : R2D X.K cn (rI (fun _ j => j ≠ 0) fun i j => .int (i.fmod j)) dMod := r2i fun dx dy d e => by
  cases dx with
  | int i =>
    cases dy with
    | int j =>
      have e : (if j ≠ 0 then some (D.int (i.fmod j)) else none) = some d := e
      split at e
      · rename_i h; cases e; exact ⟨i, j, rfl, rfl, h, fun _ => .int _⟩
      · cases e
    | _ => cases e
  | _ => cases e
theorem r_pow : R2D X.K cn (rI CPow fun i j => .int (i ^ j.toNat)) dPow := r2i fun dx dy d e => by
  cases dx with
  | int i =>
    cases dy with
    | int j =>
      have e : (if 0 ≤ j ∧ j ≤ 1000000 ∧ i.natAbs < 2 ^ 64 then some (D.int (i ^ j.toNat)) else none) = some d := e
      split at e
      · rename_i h; cases e; exact ⟨i, j, rfl, rfl, h, fun _ => .int _⟩
      · cases e
    | _ => cases e
  | _ => cases e
theorem r_neg : R1D X.K cn (rU fun i => .int (-i)) dNeg := fun F H x dx d Q s hx e k => by
  cases dx with
  | int i => cases e; rw [hx.int]; exact ⟨i, rfl, k _ F H (ext0 s) (.int _)⟩
  | _ => cases e
/-! built-in calls -/
theorem je_bi {id : String} {r : List V → Hp → VK → Prop} {f : List D → Option D} {x : Str} {p : Pos} (hc : CallR X (.builtin id) r) (h : RCD X.K cn r f) (hg : Gl X x) (hm : X.mg x = none) (hv : bootBuiltins x = some (.builtin id)) (ha : JA X cn W (e :: es) av) (hn : x ≠ "__name__" := by decide) (hdb : (x == ("__debug__" : Str)) = false := by decide)
    (he : starEach (e :: es) X.env = (false, eval e X.env) :: starEach es X.env := by rfl) (hpl : (backTo pos (starEach es X.env)).any (·.1) = false := by rfl) : JE X cn W (.Call (.Name x p) (e :: es) [] pos) (eF f av) := by
  obtain ⟨t, pa, d⟩ := ha
  exact ⟨_, pe_callB hc hg hm hv pa hn hdb he hpl, de_F (r := r) h d⟩
theorem jn_bi {id : String} {r : List V → Hp → VK → Prop} {f : List D → Option D} {x : Str} {p : Pos} (hc : CallR X (.builtin id) r) (h : RCN X.K cn r f) (hg : Gl X x) (hm : X.mg x = none) (hv : bootBuiltins x = some (.builtin id)) (ha : JA X cn W (e :: es) av) (hn : x ≠ "__name__" := by decide) (hdb : (x == ("__debug__" : Str)) = false := by decide)
    (he : starEach (e :: es) X.env = (false, eval e X.env) :: starEach es X.env := by rfl) (hpl : (backTo pos (starEach es X.env)).any (·.1) = false := by rfl) : JN X cn W (.Call (.Name x p) (e :: es) [] pos) (eF f av) := by
  obtain ⟨t, pa, d⟩ := ha
  exact ⟨_, pe_callB hc hg hm hv pa hn hdb he hpl, dn_F (r := r) h d⟩
theorem je_ty {T : String} {r : List V → Hp → VK → Prop} {f : List D → Option D} {x : Str} {p : Pos} (hc : CallR X (.type T) r) (h : RCD X.K cn r f) (hg : Gl X x) (hm : X.mg x = none) (hv : bootBuiltins x = some (.type T)) (ha : JA X cn W (e :: es) av) (hn : x ≠ "__name__" := by decide) (hdb : (x == ("__debug__" : Str)) = false := by decide)
    (he : starEach (e :: es) X.env = (false, eval e X.env) :: starEach es X.env := by rfl) (hpl : (backTo pos (starEach es X.env)).any (·.1) = false := by rfl) : JE X cn W (.Call (.Name x p) (e :: es) [] pos) (eF f av) := by
  obtain ⟨t, pa, d⟩ := ha
  exact ⟨_, pe_callTy hc hg hm hv pa hn hdb he hpl, de_F (r := r) h d⟩
theorem jn_ty {T : String} {r : List V → Hp → VK → Prop} {f : List D → Option D} {x : Str} {p : Pos} (hc : CallR X (.type T) r) (h : RCN X.K cn r f) (hg : Gl X x) (hm : X.mg x = none) (hv : bootBuiltins x = some (.type T)) (ha : JA X cn W (e :: es) av) (hn : x ≠ "__name__" := by decide) (hdb : (x == ("__debug__" : Str)) = false := by decide)
    (he : starEach (e :: es) X.env = (false, eval e X.env) :: starEach es X.env := by rfl) (hpl : (backTo pos (starEach es X.env)).any (·.1) = false := by rfl) : JN X cn W (.Call (.Name x p) (e :: es) [] pos) (eF f av) := by
  obtain ⟨t, pa, d⟩ := ha
  exact ⟨_, pe_callTy hc hg hm hv pa hn hdb he hpl, dn_F (r := r) h d⟩
theorem rc1 {r : List V → Hp → VK → Prop} {f : D → Option D} (h : R1D X.K cn (fun x H Q => r [x] H Q) f) : RCD X.K cn r (o1 f) := fun F H vs ds d Q s p e k => by
  cases p with
  | nil => cases e
  | cons h1 t =>
    cases t with
    | nil => exact h F H _ _ d Q s h1 e k
    | cons _ _ => cases e
theorem rn1 {r : List V → Hp → VK → Prop} {f : D → Option D} (h : R1N X.K cn (fun x H Q => r [x] H Q) f) : RCN X.K cn r (o1 f) := fun F H vs ds d Q s p e k => by
  cases p with
  | nil => cases e
  | cons h1 t =>
    cases t with
    | nil => exact h F H _ _ d Q s h1 e k
    | cons _ _ => cases e
theorem r_abs : RCD X.K cn (fun xs H Q => ∃ i, xs = [.int i] ∧ Q (.int (if i < 0 then -i else i)) H) (o1 dAbs) := rc1 fun F H x dx d Q s hx e k => by
  cases dx with
  | int i => cases e; rw [hx.int]; exact ⟨i, rfl, k _ F H (ext0 s) (.int _)⟩
  | _ => cases e
theorem r_int : RCD X.K cn (fun xs H Q => (∃ i, xs = [.int i] ∧ Q (.int i) H) ∨ ∃ k, xs = [.bl k] ∧ Q (.int (if k then 1 else 0)) H) (o1 dInt) := rc1 fun F H x dx d Q s hx e k => by
  cases dx with
  | int i => cases e; rw [hx.int]; exact .inl ⟨i, rfl, k _ F H (ext0 s) (.int _)⟩
  | bl i => cases e; rw [hx.bl]; exact .inr ⟨i, rfl, k _ F H (ext0 s) (.int _)⟩
  | _ => cases e
theorem r_bool : RCD X.K cn (fun xs H Q => (∃ i, xs = [.int i] ∧ Q (.bl (i != 0)) H) ∨ ∃ k, xs = [.bl k] ∧ Q (.bl k) H) (o1 dBool) := rc1 fun F H x dx d Q s hx e k => by
  cases dx with
  | int i => cases e; rw [hx.int]; exact .inl ⟨i, rfl, k _ F H (ext0 s) (.bl _)⟩
  | bl i => cases e; rw [hx.bl]; exact .inr ⟨i, rfl, k _ F H (ext0 s) (.bl _)⟩
  | _ => cases e
theorem r_strI : RCD X.K cn (fun xs H Q => ∃ i, xs = [.int i] ∧ i.natAbs.log2 < 1920 ∧ Q (.str (toString i)) H) (o1 dStrI) := rc1 fun F H x dx d Q s hx e k => by
  cases dx with
  | int i =>
    have e : (if i.natAbs < 2 ^ 1900 then some (D.str (toString i)) else none) = some d := e
    split at e
    · rename_i h
      cases e; rw [hx.int]
      exact ⟨i, rfl, Nat.lt_of_lt_of_le (log2_of h (by decide)) (by decide), k _ F H (ext0 s) (.str _)⟩
    · cases e
  | _ => cases e
def rLenA (K : PySem.W.Frag) : List V → Hp → VK → Prop := fun xs H Q => (∃ x n, xs = [x] ∧ LenV K x H n ∧ Q (.int n) H) ∨ ∃ a kvs, xs = [V.ref a] ∧ H a = some (.dK kvs) ∧ Q (.int kvs.length) H
theorem call_lenA : CallR X (.builtin "len") (rLenA X.K) := CallR.or call_len call_lenD
theorem r_len : RCD X.K cn (rLenA X.K) (o1 dLen) := rc1 fun F H x dx d Q s hx e k => by
  cases dx with
  | str z =>
    have e : (if z.length ≤ seqMax then some (D.int z.length) else none) = some d := e
    split at e
    · rename_i h; cases e; rw [hx.str]; exact .inl ⟨_, _, rfl, ⟨by rw [← sm]; exact h, rfl⟩, k _ F H (ext0 s) (.int _)⟩
    · cases e
  | lst xs =>
    cases e
    obtain ⟨a, vs, rfl, h, r⟩ := hx
    exact .inl ⟨_, _, rfl, .inl ⟨vs, SqL.of h, r.1.symm⟩, k _ F H (ext0 s) (.int _)⟩
  | tup xs =>
    cases e
    obtain ⟨a, vs, rfl, h, r⟩ := hx.tup s
    exact .inl ⟨_, _, rfl, .inr ⟨vs, h, r.1.symm⟩, k _ F H (ext0 s) (.int _)⟩
  | scr ns =>
    cases e
    cases (show Rep X.K cn F x (.scr ns) from hx) with
    | scr h => exact .inl ⟨_, _, rfl, .inl ⟨_, s.seq h, by rw [List.length_map]⟩, k _ F H (ext0 s) (.int _)⟩
  | dct kvs =>
    cases e
    obtain ⟨a, vs, rfl, h, r⟩ := hx
    have hl : vs.length = kvs.length := by have := congrArg List.length r.1; simpa using this
    exact .inr ⟨_, _, rfl, h, by rw [hl]; exact k _ F H (ext0 s) (.int _)⟩
  | _ => cases e
end
end Ed

set_option autoImplicit true
set_option Elab.async false
set_option linter.all false
set_option maxRecDepth 100000
set_option maxHeartbeats 4000000
set_option autoImplicit false
/-! ==, in, is None, indices, slices -/
namespace Ed
open PySem L2

mutual
def toP : D → PyData
  | .non => .none
  | .bl b => .bool b
  | .int i => .int i
  | .str s => .str s
  | .lst xs => .list (toPs xs)
  | .tup xs => .tuple (toPs xs)
  | _ => .none
def toPs : List D → List PyData
  | [] => []
  | x :: xs => toP x :: toPs xs
end
theorem okDat_cases {n : Nat} {d : D} (h : okDat n d = true) : (∃ m xs, n = m + 1 ∧ (d = .lst xs ∨ d = .tup xs) ∧ ∀ x ∈ xs, okDat m x = true) ∨ d = .non ∨ (∃ b, d = .bl b) ∨ (∃ i, d = .int i) ∨ ∃ s, d = .str s ∧ PyData.strOk s = true := by
  cases d with
  | non => exact .inr (.inl rfl)
  | bl b => exact .inr (.inr (.inl ⟨_, rfl⟩))
  | int b => exact .inr (.inr (.inr (.inl ⟨_, rfl⟩)))
  | str b => exact .inr (.inr (.inr (.inr ⟨_, rfl, by simpa [okDat, PyData.strOk] using h⟩)))
  | lst xs =>
    cases n with
    | zero => simp [okDat] at h
    | succ m => exact .inl ⟨m, xs, rfl, .inl rfl, by simpa [okDat] using h⟩
  | tup xs =>
    cases n with
    | zero => simp [okDat] at h
    | succ m => exact .inl ⟨m, xs, rfl, .inr rfl, by simpa [okDat] using h⟩
  | _ => cases n <;> simp [okDat] at h
theorem toPs_ok {m : Nat} (ih : ∀ d, okDat m d = true → (toP d).canLay0 = true ∧ (toP d).depth ≤ m) : ∀ xs : List D, (∀ x ∈ xs, okDat m x = true) → PyData.canLayAll0 (toPs xs) = true ∧ PyData.depthAll (toPs xs) ≤ m
  | [], _ => ⟨by simp [toPs, PyData.canLayAll0], by simp [toPs, PyData.depthAll]⟩
  | x :: xs, h => by
    have h1 := ih x (h x (by simp))
    have h2 := toPs_ok ih xs fun y hy => h y (by simp [hy])
    refine ⟨by simp [toPs, PyData.canLayAll0, h1.1, h2.1], ?_⟩
    simp only [toPs, PyData.depthAll]
    exact Nat.max_le.mpr ⟨h1.2, h2.2⟩
theorem toP_ok : ∀ (n : Nat) (d : D), okDat n d = true → (toP d).canLay0 = true ∧ (toP d).depth ≤ n := by
  intro n
  induction n with
  | zero =>
    intro d h
    rcases okDat_cases h with ⟨m, xs, e, _⟩ | rfl | ⟨b, rfl⟩ | ⟨b, rfl⟩ | ⟨b, rfl, hs⟩
    · cases e
    all_goals first | exact ⟨rfl, Nat.zero_le _⟩ | exact ⟨hs, Nat.zero_le _⟩
  | succ n ih =>
    intro d h
    rcases okDat_cases h with ⟨m, xs, e, hd, hx⟩ | rfl | ⟨b, rfl⟩ | ⟨b, rfl⟩ | ⟨b, rfl, hs⟩
    · cases e
      have := toPs_ok ih xs hx
      rcases hd with rfl | rfl
      · exact ⟨by simpa [toP, PyData.canLay0] using this.1, by simpa [toP, PyData.depth] using this.2⟩
      · exact ⟨by simpa [toP, PyData.canLay0] using this.1, by simpa [toP, PyData.depth] using this.2⟩
    all_goals first | exact ⟨rfl, Nat.zero_le _⟩ | exact ⟨hs, Nat.zero_le _⟩
theorem toP_sh {d : D} (h : okDat 60 d = true) : SeqAt.shaped (toP d) = true := by
  have := toP_ok 60 d h
  unfold SeqAt.shaped
  simp [this.1]
  omega
theorem eqvs {m : Nat} (ih : ∀ d e k, okDat m d = true → okDat k e = true → PyData.eqv (toP d) (toP e) = deq d e) : ∀ (xs ys : List D) (k : Nat), (∀ x ∈ xs, okDat m x = true) → (∀ y ∈ ys, okDat k y = true) → PyData.eqvAll (toPs xs) (toPs ys) = deqs xs ys
  | [], [], _, _, _ => by simp [toPs, PyData.eqvAll, deqs]
  | [], _ :: _, _, _, _ => by simp [toPs, PyData.eqvAll, deqs]
  | _ :: _, [], _, _, _ => by simp [toPs, PyData.eqvAll, deqs]
  | x :: xs, y :: ys, k, h1, h2 => by
    simp only [toPs, PyData.eqvAll, deqs]
    rw [ih x y k (h1 x (by simp)) (h2 y (by simp)), eqvs ih xs ys k (fun z hz => h1 z (by simp [hz])) fun z hz => h2 z (by simp [hz])]
theorem eqv_deq : ∀ (n : Nat) (d e : D) (k : Nat), okDat n d = true → okDat k e = true → PyData.eqv (toP d) (toP e) = deq d e := by
  intro n
  induction n with
  | zero =>
    intro d e k hd he
    rcases okDat_cases hd with ⟨m, xs, z, _⟩ | rfl | ⟨b, rfl⟩ | ⟨b, rfl⟩ | ⟨b, rfl, _⟩
    · cases z
    all_goals (rcases okDat_cases he with ⟨m, ys, z, rfl | rfl, _⟩ | rfl | ⟨c, rfl⟩ | ⟨c, rfl⟩ | ⟨c, rfl, _⟩ <;> simp [toP, PyData.eqv, deq])
  | succ n ih =>
    intro d e k hd he
    rcases okDat_cases hd with ⟨m, xs, z, h1 | h1, hx⟩ | rfl | ⟨b, rfl⟩ | ⟨b, rfl⟩ | ⟨b, rfl, _⟩
    · cases z; subst h1
      rcases okDat_cases he with ⟨m, ys, z, rfl | rfl, hy⟩ | rfl | ⟨c, rfl⟩ | ⟨c, rfl⟩ | ⟨c, rfl, _⟩
      · simp only [toP, PyData.eqv, deq]; exact eqvs ih xs ys _ hx hy
      all_goals simp [toP, PyData.eqv, deq]
    · cases z; subst h1
      rcases okDat_cases he with ⟨m, ys, z, rfl | rfl, hy⟩ | rfl | ⟨c, rfl⟩ | ⟨c, rfl⟩ | ⟨c, rfl, _⟩
      · simp [toP, PyData.eqv, deq]
      · simp only [toP, PyData.eqv, deq]; exact eqvs ih xs ys _ hx hy
      all_goals simp [toP, PyData.eqv, deq]
    all_goals (rcases okDat_cases he with ⟨m, ys, z, rfl | rfl, _⟩ | rfl | ⟨c, rfl⟩ | ⟨c, rfl⟩ | ⟨c, rfl, _⟩ <;> simp [toP, PyData.eqv, deq])
section
variable {K : PySem.W.Frag} {cn : Cn} {F H : Hp} {v : V} {d : D}
theorem dps {m : Nat} (ih : ∀ v d, okDat m d = true → Rep K cn F v d → Dp K H v (toP d)) : ∀ (ds : List D) (vs : List V), (∀ x ∈ ds, okDat m x = true) → Reps K cn F vs ds → DpAll K H vs (toPs ds)
  | [], vs, _, r => by
    cases r.inv0
    exact .nil
  | d :: ds, vs, h, r => by
    obtain ⟨v, vs', rfl, r1, r2⟩ := r.inv
    exact .cons (ih v d (h d (by simp)) r1) (dps ih ds vs' (fun x hx => h x (by simp [hx])) r2)
theorem dp_rep (s : Same F H) : ∀ (n : Nat) (v : V) (d : D), okDat n d = true → Rep K cn F v d → Dp K H v (toP d) := by
  intro n
  induction n with
  | zero =>
    intro v d h r
    rcases okDat_cases h with ⟨m, xs, e, _⟩ | rfl | ⟨b, rfl⟩ | ⟨b, rfl⟩ | ⟨b, rfl, hs⟩
    · cases e
    all_goals (cases r; constructor)
  | succ n ih =>
    intro v d h r
    rcases okDat_cases h with ⟨m, xs, e, rfl | rfl, hx⟩ | rfl | ⟨b, rfl⟩ | ⟨b, rfl⟩ | ⟨b, rfl, hs⟩
    · cases e
      cases r with
      | lst h hl q => exact .lst (.inl (.inl (s _ _ h))) (dps ih _ _ hx ⟨hl, q⟩)
    · cases e
      obtain ⟨a, vs, rfl, ha, q⟩ := r.tupE s
      exact .tup ha (dps ih _ _ hx q)
    all_goals (cases r; constructor)
theorem dp_shal (s : Same F H) {n : Nat} (h : okDat n d = true) (r : Shal K cn F H v d) : Dp K H v (toP d) := by
  cases d with
  | lst ds =>
    rcases okDat_cases h with ⟨m, xs, e, h1 | h1, hx⟩ | h1 | ⟨b, h1⟩ | ⟨b, h1⟩ | ⟨b, h1, _⟩ <;> cases h1
    obtain ⟨a, vs, rfl, ha, q⟩ := r
    exact .lst (SqL.of ha) (dps (dp_rep s m) _ _ hx q)
  | dct ds => cases n <;> simp [okDat] at h
  | _ => exact dp_rep s n v _ h r
end
section
variable {X : Cx} {cn : Cn} {W : WX} {a b c e : Expr} {es : List Expr} {pos : Pos} {ea eb : EV} {qa qb : QV} {ta tb : TV} {av : AV} {lv : LV} {bq bl bh : QV}
/-! == -/
def rEqDD (K : PySem.W.Frag) : R2 := fun x y H Q => rEq x y H Q ∨ rEqD K x y H Q
theorem op_eqDD (hu : X.A.units + 64 < cLine) : OpR X (compareOp .Eq) (rEqDD X.K) := OpR.or op_eq (op_eqD hu)
def rNeDD (K : PySem.W.Frag) : R2 := fun x y H Q => rNe x y H Q ∨ rNeD K x y H Q
theorem op_neDD (hu : X.A.units + 64 < cLine) : OpR X (compareOp .NotEq) (rNeDD X.K) := OpR.or op_ne (op_neD hu)
theorem sca_ok {F H : Hp} {x y : V} {dx dy : D} (h : sca dx dy = true) (hx : Shal X.K cn F H x dx) (hy : Shal X.K cn F H y dy) : scal x y = true ∧ decide (x = y) = deq dx dy := by
  cases dx <;> cases dy <;> first
    | exact Bool.noConfusion (show false = true from h)
    | skip
  all_goals (cases (show Rep X.K cn F x _ from hx); cases (show Rep X.K cn F y _ from hy); refine ⟨rfl, ?_⟩; simp [deq])
  all_goals (rw [Bool.eq_iff_iff]; simp)
theorem r_eq : R2D X.K cn (rEqDD X.K) dEq := fun F H x y dx dy d Q s hx hy e k => by
  unfold dEq at e
  by_cases h : sca dx dy = true
  · rw [if_pos (by simp [h])] at e
    cases e
    obtain ⟨h1, h2⟩ := sca_ok h hx hy
    exact .inl ⟨h1, by rw [h2]; exact k _ F H (ext0 s) (.bl _)⟩
  · split at e
    · rename_i h2
      simp only [h, Bool.false_or, Bool.and_eq_true] at h2
      cases e
      exact .inr ⟨_, _, dp_shal s h2.1 hx, dp_shal s h2.2 hy, toP_sh h2.1, toP_sh h2.2, by rw [eqv_deq _ _ _ _ h2.1 h2.2]; exact k _ F H (ext0 s) (.bl _)⟩
    · cases e
theorem r_ne : R2D X.K cn (rNeDD X.K) dNe := fun F H x y dx dy d Q s hx hy e k => by
  unfold dNe at e
  by_cases h : sca dx dy = true
  · rw [if_pos (by simp [h])] at e
    cases e
    obtain ⟨h1, h2⟩ := sca_ok h hx hy
    exact .inl ⟨h1, by rw [h2]; exact k _ F H (ext0 s) (.bl _)⟩
  · split at e
    · rename_i h2
      simp only [h, Bool.false_or, Bool.and_eq_true] at h2
      cases e
      exact .inr ⟨_, _, dp_shal s h2.1 hx, dp_shal s h2.2 hy, toP_sh h2.1, toP_sh h2.2, by rw [eqv_deq _ _ _ _ h2.1 h2.2]; exact k _ F H (ext0 s) (.bl _)⟩
    · cases e
/-! in -/
def rInDD (K : PySem.W.Frag) : R2 := fun x y H Q => rIn K false x y H Q ∨ (rInD K x y H Q ∨ ∃ (c : Nat) (z : Str), x = .str ⟨#[c]⟩ ∧ y = .str z ∧ Q (.bl (decide (c ∈ z.cps.toList))) H)
theorem op_inDD (hu : X.A.units + 65 < cLine) : OpR X (compareOp .In) (rInDD X.K) := OpR.or op_in_seq (OpR.or (op_inD hu) op_in_sign)
def rNinDD (K : PySem.W.Frag) : R2 := fun x y H Q => rIn K true x y H Q ∨ (rNotInD K x y H Q ∨ ∃ (c : Nat) (z : Str), x = .str ⟨#[c]⟩ ∧ y = .str z ∧ Q (.bl (!decide (c ∈ z.cps.toList))) H)
theorem op_ninDD (hu : X.A.units + 65 < cLine) : OpR X (compareOp .NotIn) (rNinDD X.K) := OpR.or op_notIn_seq (OpR.or (op_notInD hu) op_notIn_sign)
theorem flat_v {F : Hp} {x : V} {dx : D} (h : flat dx = true) (r : Rep X.K cn F x dx) : flatV x = true := by
  cases dx <;> first | exact Bool.noConfusion (show false = true from h) | (cases r; rfl)
theorem flat_eqV {F : Hp} {x y : V} {dx dy : D} (h : flat dx = true) (h2 : flat dy = true) (r : Rep X.K cn F x dx) (q : Rep X.K cn F y dy) : eqV y x = deq dy dx := by
  cases dx <;> first | exact Bool.noConfusion (show false = true from h) | skip
  all_goals (cases dy <;> first | exact Bool.noConfusion (show false = true from h2) | (cases r; cases q; simp [eqV, deq]))
theorem flat_any {F : Hp} {x : V} {dx : D} (h : flat dx = true) (r : Rep X.K cn F x dx) : ∀ (ds : List D) (vs : List V), ds.all flat = true → Reps X.K cn F vs ds → vs.all flatV = true ∧ inV x vs = ds.any fun y => deq y dx
  | [], vs, _, q => by cases q.inv0; exact ⟨rfl, rfl⟩
  | d :: ds, vs, h2, q => by
    obtain ⟨v, vs', rfl, r1, r2⟩ := q.inv
    rw [List.all_cons, Bool.and_eq_true] at h2
    obtain ⟨i1, i2⟩ := flat_any h r ds vs' h2.2 r2
    refine ⟨by rw [List.all_cons, i1, flat_v h2.1 r1]; rfl, ?_⟩
    unfold inV at *
    rw [List.any_cons, List.any_cons, i2, flat_eqV h h2.1 r r1]
theorem flat_rep {F H : Hp} {x : V} {dx : D} (h : flat dx = true) (r : Shal X.K cn F H x dx) : Rep X.K cn F x dx := by
  cases dx <;> first | exact Bool.noConfusion (show false = true from h) | exact r
theorem toP_any {m k : Nat} {x : D} (hx : okDat m x = true) : ∀ ys : List D, (∀ y ∈ ys, okDat k y = true) → ((toPs ys).any fun z => PyData.eqv z (toP x)) = ys.any fun y => deq y x
  | [], _ => rfl
  | y :: ys, h => by
    simp only [toPs, List.any_cons]
    rw [toP_any hx ys fun z hz => h z (by simp [hz]), eqv_deq _ _ _ _ (h y (by simp)) hx]
theorem isIn_cases {F H : Hp} {x y : V} {dx dy : D} {b : Bool} (s : Same F H) (hx : Shal X.K cn F H x dx) (hy : Shal X.K cn F H y dy) (e : isIn dx dy = some b) :
    (∃ p xs, y = .ref p ∧ (SqL X.K H p xs ∨ SqT X.K H p xs) ∧ flatV x = true ∧ xs.all flatV = true ∧ inV x xs = b) ∨
    (∃ d ds, Dp X.K H x d ∧ Dp X.K H y (.list ds) ∧ SeqAt.shaped d = true ∧ SeqAt.shaped (.list ds) = true ∧ (ds.any fun z => PyData.eqv z d) = b) ∨
    (∃ (c : Nat) (z : Str), x = .str ⟨#[c]⟩ ∧ y = .str z ∧ decide (c ∈ z.cps.toList) = b) := by
  cases dy with
  | lst ys =>
    have e : (if flat dx && ys.all flat then some (ys.any fun y => deq y dx) else if okDat 60 dx && okDat 60 (.lst ys) then some (ys.any fun y => deq y dx) else none) = some b := e
    split at e
    · rename_i h
      rw [Bool.and_eq_true] at h
      cases e
      obtain ⟨a, vs, rfl, ha, q⟩ := hy
      have f := flat_any h.1 (flat_rep h.1 hx) ys vs h.2 q
      exact .inl ⟨a, vs, rfl, .inl (SqL.of ha), flat_v h.1 (flat_rep h.1 hx), f.1, f.2⟩
    · split at e
      · rename_i h
        rw [Bool.and_eq_true] at h
        cases e
        have hd := dp_shal s h.2 hy
        have hs := toP_sh h.2
        rw [toP] at hd hs
        refine .inr (.inl ⟨_, _, dp_shal s h.1 hx, hd, toP_sh h.1, hs, ?_⟩)
        rcases okDat_cases h.2 with ⟨m, xs, z, h1 | h1, hx2⟩ | h1 | ⟨b, h1⟩ | ⟨b, h1⟩ | ⟨b, h1, _⟩ <;> cases h1
        exact toP_any h.1 ys hx2
      · cases e
  | tup ys =>
    have e : (if flat dx && ys.all flat then some (ys.any fun y => deq y dx) else none) = some b := e
    split at e
    · rename_i h
      rw [Bool.and_eq_true] at h
      cases e
      obtain ⟨a, vs, rfl, ha, q⟩ := hy.tup s
      have f := flat_any h.1 (flat_rep h.1 hx) ys vs h.2 q
      exact .inl ⟨a, vs, rfl, .inr ha, flat_v h.1 (flat_rep h.1 hx), f.1, f.2⟩
    · cases e
  | str z =>
    cases dx with
    | str c =>
      have e : (if c.length = 1 then some (decide (c.cps.getD 0 0 ∈ z.cps.toList)) else none) = some b := e
      split at e
      · rename_i h
        cases e
        rw [hx.str, hy.str]
        refine .inr (.inr ⟨c.cps.getD 0 0, z, ?_, rfl, rfl⟩)
        obtain ⟨cs⟩ := c
        have : cs = #[cs.getD 0 0] := by
          apply Array.ext
          · exact h
          · intro i h1 h2
            have : i = 0 := by simp at h2; omega
            subst this
            simp [Array.getD, h1]
        rw [← this]
      · cases e
    | _ => cases e
  | _ => cases e
theorem r_in : R2D X.K cn (rInDD X.K) dIn := fun F H x y dx dy d Q s hx hy e k => by
  unfold dIn at e
  cases h : isIn dx dy with
  | none => rw [h] at e; cases e
  | some b =>
    rw [h] at e
    cases e
    have kk := k _ F H (ext0 s) (.bl b)
    rcases isIn_cases s hx hy h with ⟨p, xs, h1, h2, h3, h4, rfl⟩ | ⟨dd, ds, h1, h2, h3, h4, rfl⟩ | ⟨c, z, h1, h2, rfl⟩
    · exact .inl ⟨p, xs, h1, h2, h3, h4, kk⟩
    · exact .inr (.inl ⟨dd, ds, h1, h2, h3, h4, kk⟩)
    · exact .inr (.inr ⟨c, z, h1, h2, kk⟩)
theorem r_nin : R2D X.K cn (rNinDD X.K) dNin := fun F H x y dx dy d Q s hx hy e k => by
  unfold dNin at e
  cases h : isIn dx dy with
  | none => rw [h] at e; cases e
  | some b =>
    rw [h] at e
    cases e
    have kk := k _ F H (ext0 s) (.bl (!b))
    rcases isIn_cases s hx hy h with ⟨p, xs, h1, h2, h3, h4, rfl⟩ | ⟨dd, ds, h1, h2, h3, h4, rfl⟩ | ⟨c, z, h1, h2, rfl⟩
    · exact .inl ⟨p, xs, h1, h2, h3, h4, kk⟩
    · exact .inr (.inl ⟨dd, ds, h1, h2, h3, h4, kk⟩)
    · exact .inr (.inr ⟨c, z, h1, h2, kk⟩)
/-! is None -/
def rIsN1 : R2 := fun x y H Q => y = .non ∧ Q (.bl (decide (x = .non))) H
def rNotN1 : R2 := fun x y H Q => y = .non ∧ Q (.bl (!decide (x = .non))) H
theorem isnon {F H : Hp} {x : V} {dx : D} (h : Shal X.K cn F H x dx) : decide (x = .non) = (match dx with | .non => true | _ => false) := by
  cases dx with
  | lst ds => obtain ⟨a, vs, rfl, _⟩ := h; simp
  | dct ds => obtain ⟨a, vs, rfl, _⟩ := h; simp
  | _ => cases (show Rep X.K cn F x _ from h) <;> simp
theorem r_isN : R2D X.K cn rIsN1 dIsN := fun F H x y dx dy d Q s hx hy e k => by
  cases dy with
  | non =>
    refine ⟨hy.non, ?_⟩
    rw [isnon hx]
    cases dx <;> (cases (show some _ = some d from e); exact k _ F H (ext0 s) (.bl _))
  | _ => cases e
theorem r_notN : R2D X.K cn rNotN1 dNotN := fun F H x y dx dy d Q s hx hy e k => by
  cases dy with
  | non =>
    refine ⟨hy.non, ?_⟩
    rw [isnon hx]
    cases dx <;> (cases (show some _ = some d from e); exact k _ F H (ext0 s) (.bl _))
  | _ => cases e
/-! indices -/
theorem at1_eq {α : Type} (xs : List α) (i : Int) : at1 xs i = atI xs i := by
  unfold atI at1 Ed.ixN L2.ixN
  by_cases h : 0 ≤ i
  · rw [if_pos h, if_pos h]
  · rw [if_neg h, if_neg h, Int.add_comm]
theorem atI_map {α β : Type} (f : α → β) (xs : List α) (i : Int) : atI (xs.map f) i = (atI xs i).map f := by
  unfold atI
  rw [List.length_map]
  cases L2.ixN xs.length i <;> simp
theorem Reps.atI {F : Hp} {vs : List V} {ds : List D} {i : Int} {d : D} (r : Reps X.K cn F vs ds) (h : L2.atI ds i = some d) : ∃ v, L2.atI vs i = some v ∧ Rep X.K cn F v d := by
  unfold L2.atI at *
  rw [r.1]
  cases e : L2.ixN ds.length i with
  | none => rw [e] at h; cases h
  | some j =>
    rw [e] at h
    exact r.get h
theorem r_ix : R2D X.K cn (rIx X.K) dIx := fun F H x y dx dy d Q s hx hy e k => by
  cases dy with
  | int i =>
    rw [hy.int]
    cases dx with
    | lst ds =>
      have e : at1 ds i = some d := e
      rw [at1_eq] at e
      obtain ⟨a, vs, rfl, ha, q⟩ := hx
      obtain ⟨v, h1, h2⟩ := q.atI e
      exact .inl ⟨a, vs, i, v, rfl, rfl, SqL.of ha, h1, k v F H (ext0 s) h2⟩
    | tup ds =>
      have e : at1 ds i = some d := e
      rw [at1_eq] at e
      obtain ⟨a, vs, rfl, ha, q⟩ := hx.tup s
      obtain ⟨v, h1, h2⟩ := q.atI e
      exact .inr (.inl ⟨a, vs, i, v, rfl, rfl, ha, h1, k v F H (ext0 s) h2⟩)
    | scr ns =>
      have e : (at1 ns i).map D.int = some d := e
      rw [at1_eq] at e
      cases h : atI ns i with
      | none => rw [h] at e; cases e
      | some z =>
        rw [h] at e
        cases e
        cases (show Rep X.K cn F x (.scr ns) from hx) with
        | scr hq => exact .inl ⟨_, _, i, .int z, rfl, rfl, s.seq hq, by rw [atI_map, h]; rfl, k _ F H (ext0 s) (.int z)⟩
    | str z =>
      have e : (if z.length ≤ seqMax then (at1 z.cps.toList i).map fun c => D.str ⟨#[c]⟩ else none) = some d := e
      split at e
      · rename_i hz
        rw [at1_eq] at e
        rw [hx.str]
        cases h : atI z.cps.toList i with
        | none => rw [h] at e; cases e
        | some c =>
          rw [h] at e
          cases e
          exact .inr (.inr ⟨z, i, c, rfl, rfl, by rw [← sm]; exact hz, h, k _ F H (ext0 s) (.str _)⟩)
      · cases e
    | _ => cases e
  | _ => cases dx <;> cases e
theorem je_ix (h1 : JQ X cn W a qa) (h2 : JQ X cn W b qb) (hs : PlainIx b := by first | exact (fun _ _ => rfl) | (intro o i; rfl)) : JE X cn W (.Subscript a b pos) (eB dIx qa qb) := by
  obtain ⟨t1, p1, d1⟩ := h1
  obtain ⟨t2, p2, d2⟩ := h2
  exact ⟨_, pe_ix ix_seq p1 p2 hs, de_B r_ix d1 d2⟩
/-! slices -/
theorem slI_eq (n d : Nat) (o : Option Int) : slI n d o = HT.sIx n d o := by
  unfold slI HT.sIx
  cases o <;> rfl
theorem cut_eq (xs : List V) (lo hi : Option Int) : cut xs lo hi = cutV xs lo hi := by
  unfold cut cutV
  simp only [slI_eq]
theorem cut_map {α β : Type} (f : α → β) (xs : List α) (lo hi : Option Int) : cut (xs.map f) lo hi = (cut xs lo hi).map f := by
  unfold cut
  simp [List.length_map, List.map_take, List.map_drop]
theorem Reps.cut {F : Hp} {vs : List V} {ds : List D} (r : Reps X.K cn F vs ds) (lo hi : Option Int) : Reps X.K cn F (Ed.cut vs lo hi) (Ed.cut ds lo hi) := by
  unfold Ed.cut
  rw [r.1]
  exact (r.drop _).take _
/-- a part of a slice -/
def DP (cn : Cn) (W : WX) (K : PySem.W.Frag) (t : TO) (o : Option QV) : Prop := ∀ C Γ σ F H Q, RelS K cn C Γ σ F H → Post (oPart o Γ) (fun p : Option Int × Env => ∀ F' H', Same F F' → RelS K cn C p.2 σ F' H' → Q p.1 H') (XW K cn C F W) → t σ H Q
def JP (X : Cx) (cn : Cn) (W : WX) (e : Option Expr) (o : Option QV) : Prop := ∃ t, PO X e t ∧ DP cn W X.K t o
theorem jp_none : JP X cn W none none := ⟨_, po_none, fun C Γ σ F H Q R k => k F H (Same.refl _) R⟩
theorem jp_some (h : JQ X cn W e qa) : JP X cn W (some e) (some qa) := by
  obtain ⟨t, p, d⟩ := h
  refine ⟨_, po_some p, fun C Γ σ F H Q R k => d C Γ σ F H _ R (k.bind.mono (fun q k v F' H' s1 R1 hv => ?_) fun _ _ z => z)⟩
  cases e1 : rd q.2 q.1 with
  | none => simp only [e1] at k; exact k.elim
  | some dd =>
    cases dd with
    | int i =>
      simp only [e1] at k
      have hv' := R1.rd e1 hv
      exact ⟨i, hv'.int, k F' H' s1 R1⟩
    | _ => simp only [e1] at k; exact k.elim
def RSD (K : PySem.W.Frag) (cn : Cn) (r : V → Option Int → Option Int → Hp → VK → Prop) (f : D → Option Int → Option Int → Option D) : Prop := ∀ F H x dx l u d Q, Same F H → Shal K cn F H x dx → f dx l u = some d → (∀ z F' H', Ext F H F' H' → Rep K cn F' z d → Q z H') → r x l u H Q
def RSN (K : PySem.W.Frag) (cn : Cn) (r : V → Option Int → Option Int → Hp → VK → Prop) (f : D → Option Int → Option Int → Option D) : Prop := ∀ F H x dx l u d Q, Same F H → Shal K cn F H x dx → f dx l u = some d → (∀ p vs ds, d = .lst ds → H p = none → Reps K cn F vs ds → Q (.ref p) (upd H p (.lst vs))) → r x l u H Q
def rSlAll (K : PySem.W.Frag) : V → Option Int → Option Int → Hp → VK → Prop := fun x lo hi H Q => rSlL K x lo hi H Q ∨ (rSlA K x lo hi H Q ∨ rSlS x lo hi H Q)
theorem sl_all : L2.SlR X (rSlAll X.K) := L2.SlR.or sl_list (L2.SlR.or sl_tupA sl_str)
theorem sl_tupD {F : Hp} {H : Hp} {x : V} {xs : List D} {l u : Option Int} {Q : VK} (s : Same F H) (hx : Shal X.K cn F H x (.tup xs)) (k : ∀ z F' H', Ext F H F' H' → Rep X.K cn F' z (.tup (cut xs l u)) → Q z H') : rSlA X.K x l u H Q := by
  obtain ⟨a, vs, rfl, ha, q⟩ := hx.tup s
  have hx' : Rep X.K cn F (.ref a) (.tup xs) := hx
  refine ⟨a, vs, rfl, ha, fun hw => ?_, fun hw p hp => ?_⟩
  · refine k _ F H (ext0 s) ?_
    have : cut xs l u = xs := by
      unfold cut
      rw [slI_eq, slI_eq, ← q.1, hw.1, hw.2]
      simp [q.1]
    rw [this]; exact hx'
  · have ex := Ext.new (o := HO.tup (cutV vs l u)) s hp
    have qq := (q.cut l u).mono ex.f
    rw [cut_eq] at qq
    exact k _ _ _ ex (.tup (SqT.of upd_same) qq.1 qq.2)
theorem r_cut : RSD X.K cn (rSlAll X.K) dCut := fun F H x dx l u d Q s hx e k => by
  cases dx with
  | lst xs =>
    cases e
    obtain ⟨a, vs, rfl, ha, q⟩ := hx
    refine .inl ⟨a, vs, rfl, SqL.of ha, fun p hp => ?_⟩
    have ex := Ext.new (o := HO.lst (cutV vs l u)) s hp
    have qq := (q.cut l u).mono ex.f
    rw [cut_eq] at qq
    exact k _ _ _ ex (.lst upd_same qq.1 qq.2)
  | scr ns =>
    cases e
    cases (show Rep X.K cn F x (.scr ns) from hx) with
    | scr hq =>
      refine .inl ⟨_, _, rfl, s.seq hq, fun p hp => ?_⟩
      have ex := Ext.new (o := HO.lst (cutV (ns.map V.int) l u)) s hp
      refine k _ _ _ ex (.lst upd_same (by rw [← cut_eq, cut_map]; simp) fun i v d h1 h2 => ?_)
      rw [← cut_eq, cut_map, List.getElem?_map] at h1
      rw [List.getElem?_map] at h2
      cases h : (cut ns l u)[i]? with
      | none => rw [h] at h1; cases h1
      | some z => rw [h] at h1 h2; cases h1; cases h2; exact .int z
  | tup xs => cases e; exact .inr (.inl (sl_tupD s hx k))
  | str z =>
    have e : (if z.length ≤ seqMax then some (D.str ⟨(cut z.cps.toList l u).toArray⟩) else none) = some d := e
    split at e
    · rename_i hz
      cases e
      rw [hx.str]
      refine .inr (.inr ⟨z, rfl, by rw [← sm]; exact hz, ?_⟩)
      have : cutS z l u = ⟨(cut z.cps.toList l u).toArray⟩ := by
        unfold cutS cut
        simp only [slI_eq, Array.length_toList]
        rfl
      rw [this]
      exact k _ F H (ext0 s) (.str _)
    · cases e
  | _ => cases e
theorem ints_reps {F : Hp} (ns : List Int) : Reps X.K cn F (ns.map V.int) (ns.map D.int) := ⟨by simp, fun i v d h1 h2 => by
  rw [List.getElem?_map] at h1 h2
  cases h : ns[i]? with
  | none => rw [h] at h1; cases h1
  | some z => rw [h] at h1 h2; cases h1; cases h2; exact .int z⟩
theorem r_cutL : RSN X.K cn (rSlL X.K) dCutL := fun F H x dx l u d Q s hx e k => by
  cases dx with
  | lst xs =>
    cases e
    obtain ⟨a, vs, rfl, ha, q⟩ := hx
    exact ⟨a, vs, rfl, SqL.of ha, fun p hp => k p _ _ rfl hp (by have := q.cut l u; rwa [cut_eq] at this)⟩
  | scr ns =>
    cases e
    cases (show Rep X.K cn F x (.scr ns) from hx) with
    | scr hq => exact ⟨_, _, rfl, s.seq hq, fun p hp => k p _ _ rfl hp (by rw [← cut_eq, cut_map]; exact ints_reps _)⟩
  | _ => cases e
theorem je_sl {lo hi : Option Expr} {ol oh : Option QV} {p2 : Pos} (h1 : JQ X cn W a qa) (h2 : JP X cn W lo ol) (h3 : JP X cn W hi oh) : JE X cn W (.Subscript a (.Slice lo hi none p2) pos) (eSl dCut qa ol oh) := by
  obtain ⟨t1, p1, d1⟩ := h1
  obtain ⟨t2, q2, d2⟩ := h2
  obtain ⟨t3, q3, d3⟩ := h3
  refine ⟨_, pe_slice sl_all p1 q2 q3, fun C Γ σ F H Q R k => ?_⟩
  refine d1 C Γ σ F H _ R (k.bind.mono (fun p k v F' H' s1 R1 hv => ?_) fun _ _ z => z)
  refine d2 C p.2 σ F' H' _ R1 (k.bind.mono (fun q k F2 H2 s2 R2 => ?_) fun _ _ z => XW.up s1 z)
  refine d3 C q.2 σ F2 H2 _ R2 (k.bind.mono (fun r k F3 H3 s3 R3 => ?_) fun _ _ z => XW.up (s1.trans s2) z)
  cases e1 : rd r.2 p.1 with
  | none => simp only [e1] at k; exact k.elim
  | some dd =>
    simp only [e1] at k
    obtain ⟨z, e3, k⟩ := k.bind.of
    exact r_cut F3 H3 v dd q.1 r.1 z Q R3.bs.fh (R3.rd e1 (hv.mono (s2.trans s3))) e3 fun zv F4 H4 ex rz => k zv F4 H4 (((s1.trans s2).trans s3).trans ex.f) (R3.ext ex) rz
theorem jn_sl {lo hi : Option Expr} {ol oh : Option QV} {p2 : Pos} (h1 : JQ X cn W a qa) (h2 : JP X cn W lo ol) (h3 : JP X cn W hi oh) : JN X cn W (.Subscript a (.Slice lo hi none p2) pos) (eSl dCutL qa ol oh) := by
  obtain ⟨t1, p1, d1⟩ := h1
  obtain ⟨t2, q2, d2⟩ := h2
  obtain ⟨t3, q3, d3⟩ := h3
  refine ⟨_, pe_slice sl_list p1 q2 q3, fun C Γ σ F H Q R k => ?_⟩
  refine d1 C Γ σ F H _ R (k.bind.mono (fun p k v F' H' s1 R1 hv => ?_) fun _ _ z => z)
  refine d2 C p.2 σ F' H' _ R1 (k.bind.mono (fun q k F2 H2 s2 R2 => ?_) fun _ _ z => XW.up s1 z)
  refine d3 C q.2 σ F2 H2 _ R2 (k.bind.mono (fun r k F3 H3 s3 R3 => ?_) fun _ _ z => XW.up (s1.trans s2) z)
  cases e1 : rd r.2 p.1 with
  | none => simp only [e1] at k; exact k.elim
  | some dd =>
    simp only [e1] at k
    obtain ⟨z, e3, k⟩ := k.bind.of
    refine r_cutL F3 H3 v dd q.1 r.1 z Q R3.bs.fh (R3.rd e1 (hv.mono (s2.trans s3))) e3 fun a vs ds ez ha hr => ?_
    subst ez
    obtain ⟨r3, nw⟩ := NewR.laid R3 hr ha
    exact k (.ref a) F3 _ ((s1.trans s2).trans s3) r3 nw
theorem je_rev {k : Nat} {p1 p2 p3 : Pos} (h : JQ X cn W a qa) : JE X cn W (.Subscript a (.Slice none none (some (.UnaryOp .USub (.Constant (.int 1) k p1) p2)) p3) pos) (eU dRev qa) := by
  obtain ⟨t1, p1, d1⟩ := h
  refine ⟨_, pe_revL p1, de_U (r := fun x H Q => ∃ a xs, x = .ref a ∧ SqL X.K H a xs ∧ ∀ p, H p = none → Q (.ref p) (upd H p (.lst xs.reverse))) (fun F H x dx d Q s hx e k => ?_) d1⟩
  cases dx with
  | lst xs =>
    cases e
    obtain ⟨a, vs, rfl, ha, q⟩ := hx
    refine ⟨a, vs, rfl, SqL.of ha, fun p hp => ?_⟩
    have ex := Ext.new (o := HO.lst vs.reverse) s hp
    exact k _ _ _ ex (.lst upd_same (q.rev.mono ex.f).1 (q.rev.mono ex.f).2)
  | _ => cases e
theorem jn_rev {k : Nat} {p1 p2 p3 : Pos} (h : JQ X cn W a qa) : JN X cn W (.Subscript a (.Slice none none (some (.UnaryOp .USub (.Constant (.int 1) k p1) p2)) p3) pos) (eU dRev qa) := by
  obtain ⟨t1, p1, d1⟩ := h
  refine ⟨_, pe_revL p1, dn_U (r := fun x H Q => ∃ a xs, x = .ref a ∧ SqL X.K H a xs ∧ ∀ p, H p = none → Q (.ref p) (upd H p (.lst xs.reverse))) (fun F H x dx d Q s hx e k => ?_) d1⟩
  cases dx with
  | lst xs =>
    cases e
    obtain ⟨a, vs, rfl, ha, q⟩ := hx
    exact ⟨a, vs, rfl, SqL.of ha, fun p hp => k p _ _ rfl hp q.rev⟩
  | _ => cases e
end
end Ed

set_option autoImplicit true
set_option Elab.async false
set_option linter.all false
set_option maxRecDepth 100000
set_option maxHeartbeats 4000000
set_option autoImplicit false
/-! isinstance, gcd, list, tuple, sum, all, any, max, min, texts -/
namespace Ed
open PySem L2
section
variable {X : Cx} {cn : Cn} {W : WX} {a b c e : Expr} {es : List Expr} {pos : Pos} {ea eb : EV} {qa qb : QV} {ta tb : TV} {av : AV} {lv : LV}
/-! isinstance -/
/-- what the second place holds: a class, as a value -/
def JC (X : Cx) (e : Expr) (v : V) (u : Value) : Prop := PE X e (tC v) ∧ ClsV v u
theorem jc_own {x : Str} {p : Pos} {C : Addr} (hg : Gl X x) (hm : X.mg x = some (.ref C)) (hd : (x == ("__debug__" : Str)) = false := by decide) : JC X (.Name x p) (.ref C) (.ref C) := ⟨pe_glob hg hm rfl hd, .own C⟩
theorem jc_ty {x : Str} {p : Pos} {T : String} (hg : Gl X x) (hm : X.mg x = none) (hv : bootBuiltins x = some (.type T)) (hn : x ≠ "__name__" := by decide) (hd : (x == ("__debug__" : Str)) = false := by decide) : JC X (.Name x p) (.ty T) (.type T) := ⟨pe_bltn hg hm hv rfl hn hd, .ty T⟩
/-- what is asked of the data, whose class the other is -/
def TyD (K : PySem.W.Frag) (cn : Cn) (u : Value) : D → Bool → Prop
  | .non, b => PySem.W.kitOne K (.type "NoneType") u = some b
  | .bl _, b => PySem.W.kitOne K (.type "bool") u = some b
  | .int _, b => PySem.W.kitOne K (.type "int") u = some b
  | .str _, b => PySem.W.kitOne K (.type "str") u = some b
  | .lst _, b => PySem.W.kitOne K (.type "list") u = some b
  | .tup _, b => PySem.W.kitOne K (.type "tuple") u = some b
  | .dct _, b => PySem.W.kitOne K (.type "dict") u = some b
  | .ins c _, b => PySem.W.kitOne K (.ref (cn.ca c)) u = some b ∧ Cls K (cn.ca c) ∧ PySem.W.findIn K (.ref (cn.ca c)) "__class__" = some (some (.builtin "object.__class__")) ∧
      PySem.W.specialIn K (.builtin "object.__class__") "__get__" = some (some (.builtin "getset_descriptor.__get__")) ∧ PySem.W.takesIn K (.builtin "object.__class__") = some true ∧ PySem.W.mroIn K (cn.ca c) (.type "object") = some true
  | .scr _, _ => False
theorem tyx {F H : Hp} {x : V} {d : D} {u : Value} {b : Bool} (s : Same F H) (hx : Shal X.K cn F H x d) (h : TyD X.K cn u d b) : ∃ t, TyX X.K H x t ∧ PySem.W.kitOne X.K t u = some b := by
  cases d with
  | non => rw [hx.non]; exact ⟨_, .base .non, h⟩
  | bl z => rw [hx.bl]; exact ⟨_, .base (.bl z), h⟩
  | int z => rw [hx.int]; exact ⟨_, .base (.int z), h⟩
  | str z => rw [hx.str]; exact ⟨_, .base (.str z), h⟩
  | lst ds => obtain ⟨a, vs, rfl, ha, _⟩ := hx; exact ⟨_, .base (.lst ha), h⟩
  | dct ds => obtain ⟨a, vs, rfl, ha, _⟩ := hx; exact ⟨_, .base (.dK ha), h⟩
  | tup ds =>
    obtain ⟨a, vs, rfl, ha, _⟩ := hx.tup s
    rcases ha with (ha | ⟨o, ha⟩) | ⟨o, _, _, ho, hc, _⟩
    · exact ⟨_, .base (.tup ha), h⟩
    · exact ⟨_, .fTuple ha, h⟩
    · exact ⟨_, .kTuple ho hc, h⟩
  | ins c fs =>
    obtain ⟨h, h1, h2, h3, h4, h5⟩ := h
    cases (show Rep X.K cn F x (.ins c fs) from hx) with
    | ins he => exact ⟨_, .base (.ins (s _ _ he) h1 h2 h3 h4 h5), h⟩
  | scr ns => exact h.elim
theorem je_isi {p : Pos} {v : V} {u : Value} {f : D → Option Bool} (hg : Gl X "isinstance") (hm : X.mg "isinstance" = none) (h1 : JQ X cn W a qa) (h2 : JC X b v u) (hf : ∀ d k, f d = some k → TyD X.K cn u d k)
    (he : starEach [a, b] X.env = (false, eval a X.env) :: starEach [b] X.env := by rfl) (he2 : starEach [b] X.env = (false, eval b X.env) :: starEach [] X.env := by rfl) (hpl : (backTo pos (starEach [b] X.env)).any (·.1) = false := by rfl) :
    JE X cn W (.Call (.Name "isinstance" p) [a, b] [] pos) (eU (fun d => (f d).map .bl) qa) := by
  obtain ⟨t1, p1, d1⟩ := h1
  refine ⟨_, pe_callB call_isi hg hm rfl (pa_cons p1 (pa_cons h2.1 pa_nil he2) he) (by decide) (by decide) he hpl, fun C Γ σ F H Q R k => ?_⟩
  refine d1 C Γ σ F H _ R (k.bind.mono (fun q k w F' H' s1 R1 hv => ?_) fun _ _ z => z)
  cases e1 : rd q.2 q.1 with
  | none => simp only [e1] at k; exact k.elim
  | some dd =>
    simp only [e1] at k
    obtain ⟨z, e3, k⟩ := k.bind.of
    cases e4 : f dd with
    | none => rw [e4] at e3; cases e3
    | some bb =>
      rw [e4] at e3
      cases e3
      obtain ⟨t, ty, kk⟩ := tyx R1.bs.fh (R1.rd e1 hv) (hf dd bb e4)
      exact ⟨w, v, t, u, bb, rfl, h2.2, ty, kk, k (.bl bb) F' H' s1 R1 (.bl bb)⟩
/-! the built-in types -/
theorem ty_int (d : D) (k : Bool) (h : dIsT .tInt d = some (.bl k)) : TyD X.K cn (.type "int") d k := by
  cases d <;> first | (cases h; exact kit_ty (by decide +kernel)) | cases h
theorem ty_bool (d : D) (k : Bool) (h : dIsT .tBool d = some (.bl k)) : TyD X.K cn (.type "bool") d k := by
  cases d <;> first | (cases h; exact kit_ty (by decide +kernel)) | cases h
theorem ty_str (d : D) (k : Bool) (h : dIsT .tStr d = some (.bl k)) : TyD X.K cn (.type "str") d k := by
  cases d <;> first | (cases h; exact kit_ty (by decide +kernel)) | cases h
theorem ty_list (d : D) (k : Bool) (h : dIsT .tList d = some (.bl k)) : TyD X.K cn (.type "list") d k := by
  cases d <;> first | (cases h; exact kit_ty (by decide +kernel)) | cases h
theorem ty_tuple (d : D) (k : Bool) (h : dIsT .tTuple d = some (.bl k)) : TyD X.K cn (.type "tuple") d k := by
  cases d <;> first | (cases h; exact kit_ty (by decide +kernel)) | cases h
end
end Ed

set_option autoImplicit true
set_option Elab.async false
set_option linter.all false
set_option maxRecDepth 100000
set_option maxHeartbeats 4000000
set_option autoImplicit false
/-! comprehensions -/
namespace Ed
open PySem L2
section
variable {K : PySem.W.Frag} {cn : Cn} {C : Ct} {Γ Γ' Γ1 Γ2 : Env} {σ : St} {F F' F1 F2 H H' H1 H2 : Hp} {v : V} {d : D} {i : Nat} {D0 : Addr} {o o' : HO} {vs : List Nat}
/-- the heap at the entry with one thing more: what is being made is kept -/
def Ct.at (C : Ct) (a : Addr) (o : HO) : Ct := ⟨C.B0, upd C.H0 a o, C.F0, C.slf⟩
theorem RelS.toD (R : RelS K cn C Γ σ F H) (hD : H D0 = some o) (fD : F D0 = none) (nD : ∀ (j : Nat) d', Γ[j]? = some (.own d') → σ[j]? ≠ some (some (V.ref D0))) (h0 : C.H0 D0 = none) : RelS K cn (C.at D0 o) Γ σ F H := by
  refine ⟨⟨R.bs.fh, R.bs.f0, fun b o' h1 h2 => ?_, fun b h1 h2 => ?_, fun a h => ?_, fun b o' h => ?_⟩, R.len, fun j t h => ?_, R.ow, R.s0⟩
  · by_cases z : b = D0
    · subst z
      have : (upd C.H0 b o) b = some o' := h1
      rw [upd_same] at this
      cases this; exact hD
    · have : (upd C.H0 D0 o) b = some o' := h1
      rw [upd_ne z] at this
      exact R.bs.h0 b o' this h2
  · by_cases z : b = D0
    · subst z; exact fD
    · have : (upd C.H0 D0 o) b ≠ none := h2
      rw [upd_ne z] at this
      exact R.bs.nw b h1 this
  · obtain ⟨⟨c, dx, fs, q⟩, q2⟩ := R.bs.si a h
    refine ⟨⟨c, dx, fs, ?_⟩, q2⟩
    have z : a ≠ D0 := fun z => by subst z; rw [h0] at q; cases q
    show (upd C.H0 D0 o) a = _
    rw [upd_ne z]; exact q
  · have q := R.bs.b0 b o' h
    have z : b ≠ D0 := fun z => by subst z; rw [h0] at q; cases q
    show (upd C.H0 D0 o) b = _
    rw [upd_ne z]; exact q
  · have w := R.sl j t h
    cases t with
    | emp => trivial
    | val x => exact w
    | bor x => exact w
    | slf c fs => exact w
    | exn x => exact w
    | own x =>
      obtain ⟨a, e1, n, n0, r⟩ := w
      refine ⟨a, e1, n, ?_, r⟩
      have z : a ≠ D0 := fun z => nD j x h (by rw [← z]; exact join_some e1)
      show (upd C.H0 D0 o) a = none
      rw [upd_ne z]; exact n0
theorem Bas.ofD (R : Bas (C.at D0 o) F H) (h0 : C.H0 D0 = none) (f0 : C.F0 D0 = none) (hs : C.slf ≠ some D0) (hb : ∀ b o, C.B0 b = some o → C.H0 b = some o) (hi : ∀ a, C.slf = some a → ∃ c dx fs, C.H0 a = some (.ins c dx fs)) : Bas C F H ∧ H D0 = some o ∧ F D0 = none := by
  have e : (C.at D0 o).H0 D0 = some o := by show (upd C.H0 D0 o) D0 = _; exact upd_same
  refine ⟨⟨R.fh, R.f0, fun b o' h1 h2 => ?_, fun b h1 h2 => ?_, fun a h => ⟨hi a h, (R.si a h).2⟩, hb⟩, R.h0 D0 o e hs, R.nw D0 f0 (by rw [e]; simp)⟩
  · have z : b ≠ D0 := fun z => by subst z; rw [h0] at h1; cases h1
    exact R.h0 b o' (by show (upd C.H0 D0 o) b = _; rw [upd_ne z]; exact h1) h2
  · have z : b ≠ D0 := fun z => by subst z; exact h2 h0
    exact R.nw b h1 (by show (upd C.H0 D0 o) b ≠ _; rw [upd_ne z]; exact h2)
theorem RelS.ofD (R : RelS K cn (C.at D0 o) Γ σ F H) (h0 : C.H0 D0 = none) (f0 : C.F0 D0 = none) (hs : C.slf ≠ some D0) (hb : ∀ b o, C.B0 b = some o → C.H0 b = some o) (hi : ∀ a, C.slf = some a → ∃ c dx fs, C.H0 a = some (.ins c dx fs)) :
    RelS K cn C Γ σ F H ∧ H D0 = some o ∧ F D0 = none ∧ ∀ (j : Nat) d', Γ[j]? = some (.own d') → σ[j]? ≠ some (some (V.ref D0)) := by
  obtain ⟨b1, b2, b3⟩ := R.bs.ofD h0 f0 hs hb hi
  refine ⟨⟨b1, R.len, fun j t h => ?_, R.ow, R.s0⟩, b2, b3, fun j d' h z => ?_⟩
  · have w := R.sl j t h
    cases t with
    | emp => trivial
    | val x => exact w
    | bor x => exact w
    | slf c fs => exact w
    | exn x => exact w
    | own x =>
      obtain ⟨a, e1, n, n0, r⟩ := w
      refine ⟨a, e1, n, ?_, r⟩
      have n0 : (upd C.H0 D0 o) a = none := n0
      by_cases z : a = D0
      · subst z; exact h0
      · rw [upd_ne z] at n0; exact n0
  · obtain ⟨a, e1, n, n0, r⟩ := R.sl j _ h
    rw [join_some e1] at z
    cases z
    have n0 : (upd C.H0 D0 o) D0 = none := n0
    rw [upd_same] at n0; cases n0
theorem RelS.updD (R : RelS K cn C Γ σ F H) (fD : F D0 = none) (nD : ∀ (j : Nat) d', Γ[j]? = some (.own d') → σ[j]? ≠ some (some (V.ref D0))) (h0 : C.H0 D0 = none) (hs : C.slf ≠ some D0) : RelS K cn C Γ σ F (upd H D0 o) := by
  refine ⟨⟨same_out R.bs.fh fD, R.bs.f0, fun b o' h1 h2 => ?_, R.bs.nw, fun a h => ⟨(R.bs.si a h).1, ?_⟩, R.bs.b0⟩, R.len, fun j t h => ?_, R.ow, R.s0⟩
  · have z : b ≠ D0 := fun z => by subst z; rw [h0] at h1; cases h1
    rw [upd_ne z]; exact R.bs.h0 b o' h1 h2
  · have z : a ≠ D0 := fun z => by subst z; exact hs h
    rw [upd_ne z]; exact (R.bs.si a h).2
  · have w := R.sl j t h
    cases t with
    | emp => trivial
    | val x => exact w
    | bor x => exact w
    | slf c fs =>
      obtain ⟨a, dx, fvs, e1, e2, n, h, r⟩ := w
      have z : a ≠ D0 := fun z => by subst z; exact hs e2
      exact ⟨a, dx, fvs, e1, e2, n, by rw [upd_ne z]; exact h, r⟩
    | exn x => exact w
    | own x =>
      obtain ⟨a, e1, n, n0, r⟩ := w
      have z : a ≠ D0 := fun z => nD j x h (by rw [← z]; exact join_some e1)
      refine ⟨a, e1, n, n0, ?_⟩
      cases x with
      | lst ds => obtain ⟨vs, h, p⟩ := r; exact ⟨vs, by rw [upd_ne z]; exact h, p⟩
      | dct ds => obtain ⟨vs, h, p⟩ := r; exact ⟨vs, by rw [upd_ne z]; exact h, p⟩
      | _ => exact r.elim
theorem RelS.wipe (R : RelS K cn C Γ σ F H) : ∀ vs : List Nat, RelS K cn C (wipeG Γ vs) (L2.wipe σ vs) F H
  | [] => R
  | v :: vs => (RelS.wipe R vs).setE
theorem wipe_ne : ∀ {vs : List Nat} {j : Nat}, j ∉ vs → (L2.wipe σ vs)[j]? = σ[j]?
  | [], _, _ => rfl
  | v :: vs, j, h => by
    show ((L2.wipe σ vs).set v none)[j]? = _
    rw [List.getElem?_set_ne (fun z => h (by simp [z]))]
    exact wipe_ne (fun z => h (by simp [z]))
theorem wipe_in : ∀ {vs : List Nat} {j : Nat}, j ∈ vs → j < σ.length → (L2.wipe σ vs)[j]? = some none
  | [], _, h, _ => by cases h
  | v :: vs, j, h, hl => by
    show ((L2.wipe σ vs).set v none)[j]? = _
    by_cases z : v = j
    · subst z; rw [List.getElem?_set_self (by rw [L2.wipe_length]; exact hl)]
    · rw [List.getElem?_set_ne z]
      rcases List.mem_cons.mp h with q | q
      · exact absurd q.symm z
      · exact wipe_in q hl
theorem wipe_ext {σ1 σ2 : St} (hl : σ1.length = σ2.length) (h : ∀ j, j ∉ vs → σ1[j]? = σ2[j]?) : L2.wipe σ1 vs = L2.wipe σ2 vs := by
  apply List.ext_getElem?
  intro j
  by_cases z : j ∈ vs
  · by_cases hj : j < σ1.length
    · rw [wipe_in z hj, wipe_in z (hl ▸ hj)]
    · rw [List.getElem?_eq_none (by rw [L2.wipe_length]; omega), List.getElem?_eq_none (by rw [L2.wipe_length]; omega)]
  · rw [wipe_ne z, wipe_ne z, h j z]
theorem wipe_wipe : L2.wipe (L2.wipe σ vs) vs = L2.wipe σ vs := wipe_ext (L2.wipe_length σ vs) fun j h => wipe_ne h
theorem restG_get {Γ0 Γ : Env} {t : Sl} : ∀ {vs : List Nat} {j : Nat}, (restG Γ0 Γ vs)[j]? = some t → (j ∈ vs ∧ t = get Γ0 j) ∨ (j ∉ vs ∧ Γ[j]? = some t)
  | [], j, h => .inr ⟨by simp, h⟩
  | v :: vs, j, h => by
    have h : (put (restG Γ0 Γ vs) v (get Γ0 v))[j]? = some t := h
    rw [put_eq] at h
    rcases getSet h with ⟨rfl, rfl⟩ | ⟨z, h⟩
    · exact .inl ⟨by simp, rfl⟩
    · rcases restG_get h with ⟨h1, h2⟩ | ⟨h1, h2⟩
      · exact .inl ⟨by simp [h1], h2⟩
      · exact .inr ⟨by simp [h1, Ne.symm z], h2⟩
theorem restG_len {Γ0 Γ : Env} : ∀ vs : List Nat, (restG Γ0 Γ vs).length = Γ.length
  | [] => rfl
  | v :: vs => by show (put (restG Γ0 Γ vs) v (get Γ0 v)).length = _; rw [put_eq, List.length_set, restG_len vs]
theorem RelS.rest (R1 : RelS K cn C Γ1 σ F1 H1) (st : ∀ i ∈ vs, stb (get Γ1 i) = true) (s : Same F1 F2) (R2 : RelS K cn C Γ2 (L2.wipe σ vs) F2 H2) : RelS K cn C (restG Γ1 Γ2 vs) σ F2 H2 := by
  have own : ∀ {j : Nat} {d : D}, (restG Γ1 Γ2 vs)[j]? = some (.own d) → j ∉ vs ∧ Γ2[j]? = some (.own d) := fun {j d} h => by
    rcases restG_get h with ⟨h1, h2⟩ | h1
    · have := st j h1
      rw [← h2] at this; cases this
    · exact h1
  refine ⟨R2.bs, by rw [restG_len, R2.len, L2.wipe_length], fun j t h => ?_, fun j k x y b h1 h2 h3 h4 => ?_, fun j c fs h => ?_⟩
  · rcases restG_get h with ⟨h1, h2⟩ | ⟨h1, h2⟩
    · have hst := st j h1
      rw [← h2] at hst
      cases t with
      | emp => trivial
      | val x =>
        obtain ⟨v, e, r⟩ := R1.at h2.symm (fun z => by cases z)
        exact ⟨v, e, r.mono s⟩
      | bor x =>
        obtain ⟨v, e, r⟩ := R1.at h2.symm (fun z => by cases z)
        exact ⟨v, e, r.mono s (Same.refl _)⟩
      | exn x =>
        obtain ⟨a, e, q1⟩ := R1.at h2.symm (fun z => by cases z)
        exact ⟨a, e, fun a' cls od z => ⟨(q1 a' cls od z).1, (q1 a' cls od z).2.mono s⟩⟩
      | own x => cases hst
      | slf c fs => cases hst
    · have w := R2.sl j t h2
      rw [wipe_ne h1] at w
      exact w
  · obtain ⟨a1, a2⟩ := own h1
    obtain ⟨b1, b2⟩ := own h2
    exact R2.ow j k x y b a2 b2 (by rw [wipe_ne a1]; exact h3) (by rw [wipe_ne b1]; exact h4)
  · rcases restG_get h with ⟨h1, h2⟩ | ⟨h1, h2⟩
    · have := st j h1
      rw [← h2] at this; cases this
    · exact R2.s0 j c fs h2
end
end Ed

set_option autoImplicit true
set_option Elab.async false
set_option linter.all false
set_option maxRecDepth 100000
set_option maxHeartbeats 4000000
set_option autoImplicit false
namespace Ed
open PySem L2
/-- no exception is wished -/
abbrev W0 : WX := fun _ _ _ _ => False
section
variable (K : PySem.W.Frag) (cn : Cn)
/-- what the data function says of an expression, as a reading -/
def tSem (ev : EV) : TE := fun σ H Q => ∃ C Γ F, RelS K cn C Γ σ F H ∧ Post (ev Γ) (EEnd K cn C σ F Q) (XW K cn C F W0)
def tSemT (ev : TV) : TT := fun σ H Q => ∃ C Γ F, RelS K cn C Γ σ F H ∧ Post (ev Γ) (TEnd K cn C σ F Q) (XW K cn C F W0)
/-- a target that stays within the slots vs -/
def DGc (vs : List Nat) (g : TG) (gv : GV) : Prop := ∀ C Γ σ F H v d Γ' N, RelS K cn C Γ σ F H → Rep K cn F v d → gv d Γ = some Γ' → (∀ σ' F' H', Same F F' → RelS K cn C Γ' σ' F' H' → L2.wipe σ' vs = L2.wipe σ vs → N σ' H') → g v σ H N
def DGcs (vs : List Nat) (g : TGs) (gv : List GV) : Prop := ∀ C Γ σ F H ws ds Γ' N, RelS K cn C Γ σ F H → Reps K cn F ws ds → gs gv ds Γ = some Γ' → (∀ σ' F' H', Same F F' → RelS K cn C Γ' σ' F' H' → L2.wipe σ' vs = L2.wipe σ vs → N σ' H') → g ws σ H N
def tSemG (vs : List Nat) (gv : GV) : TG := fun v σ H N => ∃ C Γ F d Γ', RelS K cn C Γ σ F H ∧ Rep K cn F v d ∧ gv d Γ = some Γ' ∧ ∀ σ' F' H', Same F F' → RelS K cn C Γ' σ' F' H' → L2.wipe σ' vs = L2.wipe σ vs → N σ' H'
end
def JGc (X : Cx) (cn : Cn) (vs : List Nat) (e : Expr) (g : GV) : Prop := ∃ t, PG X e t ∧ DGc X.K cn vs t g
def JGcs (X : Cx) (cn : Cn) (vs : List Nat) (es : List Expr) (g : List GV) : Prop := ∃ t, PGs X es t ∧ DGcs X.K cn vs t g
def JTs (X : Cx) (cn : Cn) (W : WX) (ifs : List Expr) (tv : TV) : Prop := ∃ t, PTs X ifs t ∧ DT cn W X.K t tv
section
variable {X : Cx} {cn : Cn} {W : WX} {a b c e : Expr} {es : List Expr} {pos : Pos} {ea eb ev : EV} {qa qb : QV} {ta tb tv : TV} {av : AV} {lv : LV} {vs : List Nat} {g : GV}
theorem JE.sem (h : JE X cn W0 e ev) : PE X e (tSem X.K cn ev) := by
  obtain ⟨t, p, d⟩ := h
  refine ⟨fun pins s σ H Q I h => p.run pins s σ H Q I ?_⟩
  obtain ⟨C, Γ, F, r, k⟩ := h
  exact d C Γ σ F H Q r k
theorem JTs.sem {ifs : List Expr} (h : JTs X cn W0 ifs tv) : PTs X ifs (tSemT X.K cn tv) := by
  obtain ⟨t, p, d⟩ := h
  refine ⟨fun pins s σ H Q I h => p.run pins s σ H Q I ?_⟩
  obtain ⟨C, Γ, F, r, k⟩ := h
  exact d C Γ σ F H Q r k
theorem JGc.sem (h : JGc X cn vs e g) : PG X e (tSemG X.K cn vs g) := by
  obtain ⟨t, p, d⟩ := h
  refine ⟨fun pins s σ H v u Q I r h => p.run pins s σ H v u Q I r ?_⟩
  obtain ⟨C, Γ, F, d0, Γ', r1, r2, e, k⟩ := h
  exact d C Γ σ F H v d0 Γ' Q r1 r2 e k
theorem jts_nil : JTs X cn W [] tYs := ⟨_, pts_nil, fun C Γ σ F H Q r k => k F H (Same.refl _) r⟩
theorem jts_one (h : JT X cn W c tv) : JTs X cn W [c] tv := by
  obtain ⟨t, p, d⟩ := h
  exact ⟨_, pts_one p, d⟩
theorem wipe_set {σ : St} {i : Nat} {x : Option V} (h : i ∈ vs) : L2.wipe (σ.set i x) vs = L2.wipe σ vs := wipe_ext (by simp) fun j hj => List.getElem?_set_ne fun z => hj (by rw [← z]; exact h)
theorem jgc_n {i : Nat} {x : Str} {pos : Pos} (hN : X.N.Nodup) (hi : X.N[i]? = some x) (hx : Loc X.env.scope x) (hv : i ∈ vs) (hf : X.fn x = true ∨ X.env.scope.names.lookup x = some .local) : JGc X cn vs (.Name x pos) (gN i) :=
  ⟨_, pg_name hN hi hx hf, fun C Γ σ F H v d Γ' N R rv e k => by
    cases e
    exact k _ F H (Same.refl _) (R.setV rv) (wipe_set hv)⟩
theorem jgcs_nil : JGcs X cn vs [] [] := ⟨_, pgs_nil, fun C Γ σ F H ws ds Γ' N R rv e k => by
  cases ds with
  | nil =>
    cases e
    exact ⟨rv.inv0, k _ F H (Same.refl _) R rfl⟩
  | cons _ _ => cases e⟩
theorem jgcs_cons {gr : List GV} (h1 : JGc X cn vs e g) (h2 : JGcs X cn vs es gr) (hs : (assignEach (e :: es) X.env).map (·.2) = assign e X.env :: (assignEach es X.env).map (·.2) := by rfl) : JGcs X cn vs (e :: es) (g :: gr) := by
  obtain ⟨t1, p1, d1⟩ := h1
  obtain ⟨t2, p2, d2⟩ := h2
  refine ⟨_, pgs_cons p1 p2 hs, fun C Γ σ F H ws ds Γ' N R rv e k => ?_⟩
  cases ds with
  | nil => cases e
  | cons d ds =>
    obtain ⟨w, ws', rfl, r1, r2⟩ := rv.inv
    refine ⟨w, ws', rfl, ?_⟩
    have e : (match g d Γ with | some Γ' => gs gr ds Γ' | none => none) = some Γ' := e
    cases eg : g d Γ with
    | none => rw [eg] at e; cases e
    | some Γ1 =>
      rw [eg] at e
      exact d1 C Γ σ F H w d Γ1 _ R r1 eg fun σ1 F1 H1 s1 R1 w1 => d2 C Γ1 σ1 F1 H1 ws' ds Γ' N R1 (r2.mono s1) e fun σ2 F2 H2 s2 R2 w2 => k σ2 F2 H2 (s1.trans s2) R2 (w2.trans w1)
theorem jgc_t {k : Nat} {gl : List GV} {n : Nat} (hc : X.calm = true) (h : JGcs X cn vs es gl) (hg : gl.length = n) (hn : (assignEach es X.env).length = n) (hst : (assignEach es X.env).findIdx? (·.1) = none) : JGc X cn vs (.Tuple es k pos) (gT gl) := by
  obtain ⟨t, p, d⟩ := h
  have pp : PG X (.Tuple es k pos) (fun v σ H Q => gTup X.K n t v σ H Q ∨ gLst X.K n t v σ H Q) := ⟨fun pins s σ H v u Q I r q => q.elim (fun q => (pg_tup hc p hn hst).run pins s σ H v u Q I r q) fun q => (pg_lst hc p hn hst).run pins s σ H v u Q I r q⟩
  refine ⟨_, pp, fun C Γ σ F H v dd Γ' N R rv e k => ?_⟩
  have gsl : ∀ {gl : List GV} {ds : List D} {Γ Γ' : Env}, gs gl ds Γ = some Γ' → ds.length = gl.length := by
    intro gl
    induction gl with
    | nil => intro ds Γ Γ' e; cases ds with | nil => rfl | cons _ _ => cases e
    | cons g gl ih =>
      intro ds Γ Γ' e
      cases ds with
      | nil => cases e
      | cons d ds =>
        have e : (match g d Γ with | some Γ' => gs gl ds Γ' | none => none) = some Γ' := e
        cases eg : g d Γ with
        | none => rw [eg] at e; cases e
        | some Γ1 => rw [eg] at e; simp [ih e]
  cases dd with
  | tup ds =>
    obtain ⟨a, ws, rfl, ha, q⟩ := rv.tupE R.bs.fh
    exact .inl ⟨a, ws, rfl, ha, by rw [q.1, gsl e, hg], d C Γ σ F H ws ds Γ' N R q e k⟩
  | lst ds =>
    cases rv with
    | lst h hl q => exact .inr ⟨_, _, rfl, SqL.of (R.bs.fh _ _ h), by rw [hl, gsl e, hg], d C Γ σ F H _ ds Γ' N R ⟨hl, q⟩ e k⟩
  | _ => cases e
theorem dn_lc {wi : TI} (hi : DI X.K cn W wi lv) : DN cn W X.K (tLc wi (tSemG X.K cn vs g) (tSemT X.K cn tv) (tSem X.K cn ev) vs) (eLc vs lv g tv ev) := fun C Γ σ F H Q R k => by
  refine hi C Γ σ F H _ R (k.bind.mono (fun p k J F1 H1 s1 R1 hJ => ?_) fun _ _ z => z)
  obtain ⟨ds, Γ1⟩ := p
  dsimp only at k R1 hJ
  intro D0 hD0
  by_cases hst : vs.all (fun i => stb (get Γ1 i)) = true
  · rw [if_pos hst] at k
    cases el : lcL g tv ev vs ds (wipeG Γ1 vs) 0 with
    | none => rw [el] at k; exact k.elim
    | some lp =>
      obtain ⟨L, Γe⟩ := lp
      rw [el] at k
      have k : NEnd X.K cn C σ F Q (D.lst L, restG Γ1 Γe vs) := k
      have st : ∀ i ∈ vs, stb (get Γ1 i) = true := List.all_eq_true.mp hst
      have hs : C.slf ≠ some D0 := fun z => by
        obtain ⟨_, o, q⟩ := R1.bs.si _ z
        rw [hD0] at q; cases q
      have h0 : C.H0 D0 = none := by
        cases q : C.H0 D0 with
        | none => rfl
        | some o => rw [R1.bs.h0 D0 o q hs] at hD0; cases hD0
      have f1 : F1 D0 = none := R1.bs.fh.free hD0
      have f0 : C.F0 D0 = none := by
        cases q : C.F0 D0 with
        | none => rfl
        | some o => rw [R1.bs.f0 _ _ q] at f1; cases f1
      have hb := R1.bs.b0
      have hsi := fun a h => (R1.bs.si a h).1
      have ex0 := Ext.new0 (o := HO.lst []) R1.bs.fh hD0
      refine ⟨fun i m H2 => m = ds.length - i ∧ i ≤ ds.length ∧ ∃ Γ2 F2 acc dacc l, Same F1 F2 ∧ RelS X.K cn C Γ2 (L2.wipe σ vs) F2 H2 ∧ H2 D0 = some (.lst acc) ∧ F2 D0 = none ∧ Reps X.K cn F2 acc dacc ∧
        (∀ (j : Nat) d', Γ2[j]? = some (.own d') → (L2.wipe σ vs)[j]? ≠ some (some (V.ref D0))) ∧ lcL g tv ev vs (ds.drop i) Γ2 dacc.length = some (l, Γe) ∧ L = dacc ++ l,
        ⟨ds.length, by simp, Nat.zero_le _, wipeG Γ1 vs, F1, [], [], L, Same.refl _, (R1.wipe vs).ext ex0, upd_same, f1, .nil, fun j d' h z => ?_, el, rfl⟩, ?_⟩
      · obtain ⟨a, e1, _, _, r⟩ := (R1.wipe vs).sl j _ h
        rw [join_some e1] at z
        cases z
        obtain ⟨o, ho⟩ := r.some
        rw [hD0] at ho; cases ho
      · rintro i m H2 ⟨rfl, hi, Γ2, F2, acc, dacc, l, s2, R2, hD2, fD2, racc, nD2, el2, eL⟩
        by_cases hlt : i < ds.length
        · refine .inr ?_
          obtain ⟨d, ed⟩ : ∃ d, ds[i]? = some d := ⟨ds[i], by simp [hlt]⟩
          obtain ⟨go, yl⟩ := (hJ i F2 H2 s2 R2.bs).1 d ed
          have edr : ds.drop i = d :: ds.drop (i + 1) := by
            rw [List.drop_eq_getElem_cons hlt]
            rw [List.getElem?_eq_getElem hlt] at ed
            cases ed; rfl
          rw [edr] at el2
          unfold lcL at el2
          refine ⟨go, fun H' => ∃ Γ3 F3 acc dacc l, Same F1 F3 ∧ RelS X.K cn C Γ3 (L2.wipe σ vs) F3 H' ∧ H' D0 = some (.lst acc) ∧ F3 D0 = none ∧ Reps X.K cn F3 acc dacc ∧
            (∀ (j : Nat) d', Γ3[j]? = some (.own d') → (L2.wipe σ vs)[j]? ≠ some (some (V.ref D0))) ∧ lcL g tv ev vs (ds.drop (i + 1)) Γ3 dacc.length = some (l, Γe) ∧ L = dacc ++ l, fun H' q => ⟨ds.length - (i + 1), by omega, rfl, hlt, q⟩, fun x H3 y => ?_⟩
          obtain ⟨F3, ex, rx⟩ := yl x H3 y
          have R3 := R2.ext ex
          have hD3 := ex.h _ _ hD2
          have fD3 : F3 D0 = none := ex.ne fD2 hD2
          have RC := R3.toD hD3 fD3 nD2 h0
          cases eg : g d Γ2 with
          | none => rw [eg] at el2; cases el2
          | some Γ3 =>
            rw [eg] at el2
            dsimp only at el2
            refine ⟨C.at D0 (.lst acc), Γ2, F3, d, Γ3, RC, rx, eg, fun σ2 F4 H4 s4 R4 hw => ⟨hw.trans wipe_wipe, C.at D0 (.lst acc), Γ3, F4, R4, ?_⟩⟩
            have hw2 : L2.wipe σ2 vs = L2.wipe σ vs := hw.trans wipe_wipe
            cases et : tv Γ3 with
            | bad => rw [et] at el2; cases el2
            | exc _ _ => rw [et] at el2; cases el2
            | ok p =>
              obtain ⟨b, Γ4⟩ := p
              rw [et] at el2
              intro F5 H5 s5 R5
              have fin : ∀ {Γ5 : Env} {F6 H6 : Hp}, Same F5 F6 → RelS X.K cn (C.at D0 (.lst acc)) Γ5 σ2 F6 H6 → RelS X.K cn C (wipeG Γ5 vs) (L2.wipe σ vs) F6 H6 ∧ H6 D0 = some (.lst acc) ∧ F6 D0 = none ∧ Same F1 F6 ∧ Reps X.K cn F6 acc dacc ∧ ∀ (j : Nat) d', (wipeG Γ5 vs)[j]? = some (.own d') → (L2.wipe σ vs)[j]? ≠ some (some (V.ref D0)) := fun {Γ5 F6 H6} s6 R6 => by
                obtain ⟨q1, q2, q3, q4⟩ := R6.ofD h0 f0 hs hb hsi
                have qw := R6.wipe vs
                rw [hw2] at qw
                obtain ⟨w1, w2, w3, w4⟩ := qw.ofD h0 f0 hs hb hsi
                exact ⟨w1, q2, q3, ((s2.trans ex.f).trans s4).trans (s5.trans s6), racc.mono ((ex.f.trans s4).trans (s5.trans s6)), w4⟩
              cases b with
              | false =>
                rw [if_neg Bool.false_ne_true]
                obtain ⟨w1, w2, w3, w4, w5, w6⟩ := fin (Same.refl _) R5
                exact ⟨wipeG Γ4 vs, F5, acc, dacc, l, w4, w1, w2, w3, w5, w6, el2, eL⟩
              | true =>
                rw [if_pos rfl]
                dsimp only at el2
                cases ee : ev Γ4 with
                | bad => rw [ee] at el2; cases el2
                | exc _ _ => rw [ee] at el2; cases el2
                | ok p =>
                  obtain ⟨xd, Γ5⟩ := p
                  rw [ee] at el2
                  dsimp only at el2
                  split at el2
                  · rename_i hz
                    cases er : lcL g tv ev vs (ds.drop (i + 1)) (wipeG Γ5 vs) (dacc.length + 1) with
                    | none => rw [er] at el2; cases el2
                    | some lp2 =>
                      obtain ⟨l2, Γx⟩ := lp2
                      rw [er] at el2
                      cases el2
                      refine ⟨C.at D0 (.lst acc), Γ4, F5, R5, ?_⟩
                      rw [ee]
                      intro v F6 H6 s6 R6 rv
                      obtain ⟨w1, w2, w3, w4, w5, w6⟩ := fin s6 R6
                      refine ⟨acc, w2, by rw [w5.1, ← sm]; exact hz, wipeG Γ5 vs, F6, acc ++ [v], dacc ++ [xd], l2, w4, w1.updD w3 w6 h0 hs, upd_same, w3, w5.app (.cons rv .nil), w6, by rw [List.length_append]; exact er, by rw [List.append_assoc]; exact eL⟩
                  · cases el2
        · have e : i = ds.length := by omega
          refine .inl ⟨(hJ i F2 H2 s2 R2.bs).2 (by omega), ?_⟩
          rw [List.drop_eq_nil_of_le (by omega)] at el2
          cases el2
          rw [List.append_nil] at eL
          subst eL
          refine k (.ref D0) F2 H2 (s1.trans s2) (R1.rest st s2 R2) ⟨D0, rfl, fD2, h0, ⟨acc, hD2, racc⟩, fun j d' h => ?_⟩
          rcases restG_get h with ⟨h1, h2⟩ | ⟨h1, h2⟩
          · have := st j h1
            rw [← h2] at this; cases this
          · have := nD2 j d' h2
            rw [wipe_ne h1] at this; exact this
  · rw [if_neg hst] at k; exact k.elim
/-- [elt for tg in iter if ..] -/
theorem jn_lc {elt tg iter : Expr} {ifs : List Expr} {scope : Scope} {own : List (Str × Nat)} (hv : own.map (·.2) = vs) (hc : X.calm = true) (hN : X.N.Nodup) (hi : JI X cn W tg iter lv) (ok : BlkOk X.N X.env.scope scope own)
    (hg : ∀ (s : Shared) (H : Hp) (C : Addr) (cl : List (Str × Addr)) (fp : List Addr), JGc (X.blk s H scope (compEnvC scope cl C X.env) fp) cn vs tg g) (ht : ∀ (s : Shared) (H : Hp) (C : Addr) (cl : List (Str × Addr)) (fp : List Addr), JTs (X.blk s H scope (compEnvC scope cl C X.env) fp) cn W0 ifs tv)
    (he : ∀ (s : Shared) (H : Hp) (C : Addr) (cl : List (Str × Addr)) (fp : List Addr), JE (X.blk s H scope (compEnvC scope cl C X.env) fp) cn W0 elt ev) (hs : ∀ x, foldedSetIterable iter X.env x = pure x := by intro _; rfl) :
    JN X cn W (.ListComp elt [⟨tg, iter, ifs, 0⟩] scope pos) (eLc vs lv g tv ev) := by
  subst hv
  obtain ⟨wi, p, d⟩ := hi
  exact ⟨_, pe_lc (te := tSem X.K cn ev) (tt := tSemT X.K cn tv) (g := tSemG X.K cn (own.map (·.2)) g) hc hN p ok (fun s H C cl fp => (hg s H C cl fp).sem) (fun s H C cl fp => (ht s H C cl fp).sem) (fun s H C cl fp => (he s H C cl fp).sem) hs, dn_lc d⟩
/-- name = [..], the name a local -/
theorem js_setLc {i : Nat} {y : Str} {py spos : Pos} {elt tg iter : Expr} {ifs : List Expr} {scope : Scope} {own : List (Str × Nat)} (hv : own.map (·.2) = vs) (hc : X.calm = true) (hN : X.N.Nodup) (hy : X.N[i]? = some y) (hyl : X.env.scope.names.lookup y = some .local)
    (hsw : swapsWith (.ListComp elt [⟨tg, iter, ifs, 0⟩] scope pos) (some (.Name y py)) spos.line X.env = pure true) (hi : JI X cn W tg iter lv) (ok : BlkOk X.N X.env.scope scope own)
    (hg : ∀ (s : Shared) (H : Hp) (C : Addr) (cl : List (Str × Addr)) (fp : List Addr), JGc (X.blk s H scope (compEnvC scope cl C X.env) fp) cn vs tg g) (ht : ∀ (s : Shared) (H : Hp) (C : Addr) (cl : List (Str × Addr)) (fp : List Addr), JTs (X.blk s H scope (compEnvC scope cl C X.env) fp) cn W0 ifs tv)
    (he : ∀ (s : Shared) (H : Hp) (C : Addr) (cl : List (Str × Addr)) (fp : List Addr), JE (X.blk s H scope (compEnvC scope cl C X.env) fp) cn W0 elt ev) (hs : ∀ x, foldedSetIterable iter X.env x = pure x := by intro _; rfl) :
    JS X cn W (.Assign [.Name y py] (.ListComp elt [⟨tg, iter, ifs, 0⟩] scope pos) spos) (sOwn i (eLc vs lv g tv ev)) := by
  subst hv
  obtain ⟨wi, p, d⟩ := hi
  refine ⟨_, ps_setLc (te := tSem X.K cn ev) (tt := tSemT X.K cn tv) (g := tSemG X.K cn (own.map (·.2)) g) hc hN hy hyl hsw p ok (fun s H C cl fp => (hg s H C cl fp).sem) (fun s H C cl fp => (ht s H C cl fp).sem) (fun s H C cl fp => (he s H C cl fp).sem) hs, fun C Γ σ F H Dn R k => ?_⟩
  exact dn_lc (cn := cn) (W := W) d C Γ σ F H _ R (k.bind.mono (fun p k v F' H' s r rv => k _ F' H' s (r.setO rv)) fun _ _ z => z)
end
end Ed

set_option autoImplicit true
set_option Elab.async false
set_option linter.all false
set_option maxRecDepth 100000
set_option maxHeartbeats 4000000
set_option autoImplicit false
/-! more operations -/
namespace Ed
open PySem L2
section
variable {X : Cx} {cn : Cn} {W : WX} {a b c e : Expr} {es rest : List Expr} {pos : Pos} {ea eb ec : EV} {qa qb qc : QV} {ta tb : TV} {av : AV} {lv : LV} {st : Stmt}
theorem js_never : JS X cn W st sBad := ⟨_, ps_never, fun C Γ σ F H Dn R k => k.elim⟩
theorem je_bad : PE X e (fun _ _ _ => False) → JE X cn W e (fun _ => .bad) := fun p => ⟨_, p, fun C Γ σ F H Q R k => k.elim⟩
/-! and, or, not, as values -/
theorem je_one {op : BoolOp} (h : JE X cn W a ea) : JE X cn W (.BoolOp op [a] pos) ea := by
  obtain ⟨t, p, d⟩ := h
  exact ⟨t, pe_one p, d⟩
theorem je_and (h : JE X cn W a ea) (h2 : JE X cn W (.BoolOp .And (b :: rest) pos) eb) : JE X cn W (.BoolOp .And (a :: b :: rest) pos) (eAndV ea eb) := by
  obtain ⟨t1, p1, d1⟩ := h
  obtain ⟨t2, p2, d2⟩ := h2
  refine ⟨_, pe_and p1 p2, fun C Γ σ F H Q R k => ?_⟩
  refine d1 C Γ σ F H _ R (k.bind.mono (fun p k v F' H' s1 R1 hv => ?_) fun _ _ z => z)
  obtain ⟨x, Γ1⟩ := p
  cases x with
  | bl z =>
    cases hv
    refine ⟨z, rfl, ?_⟩
    cases z with
    | true =>
      rw [if_pos rfl]
      exact d2 C Γ1 σ F' H' Q R1 (Post.mono (P := EEnd X.K cn C σ F Q) (W := XW X.K cn C F W) k (fun p k v F2 H2 s r rv => k v F2 H2 (s1.trans s) r rv) fun _ _ z => XW.up s1 z)
    | false =>
      rw [if_neg Bool.false_ne_true]
      exact k _ F' H' s1 R1 (.bl _)
  | _ => exact k.elim
theorem je_or (h : JE X cn W a ea) (h2 : JE X cn W (.BoolOp .Or (b :: rest) pos) eb) : JE X cn W (.BoolOp .Or (a :: b :: rest) pos) (eOrV ea eb) := by
  obtain ⟨t1, p1, d1⟩ := h
  obtain ⟨t2, p2, d2⟩ := h2
  refine ⟨_, pe_or p1 p2, fun C Γ σ F H Q R k => ?_⟩
  refine d1 C Γ σ F H _ R (k.bind.mono (fun p k v F' H' s1 R1 hv => ?_) fun _ _ z => z)
  obtain ⟨x, Γ1⟩ := p
  cases x with
  | bl z =>
    cases hv
    refine ⟨z, rfl, ?_⟩
    cases z with
    | false =>
      rw [if_neg Bool.false_ne_true]
      exact d2 C Γ1 σ F' H' Q R1 (Post.mono (P := EEnd X.K cn C σ F Q) (W := XW X.K cn C F W) k (fun p k v F2 H2 s r rv => k v F2 H2 (s1.trans s) r rv) fun _ _ z => XW.up s1 z)
    | true =>
      rw [if_pos rfl]
      exact k _ F' H' s1 R1 (.bl _)
  | _ => exact k.elim
theorem je_not (h : JE X cn W a ea) : JE X cn W (.UnaryOp .Not a pos) (eNotV ea) := by
  obtain ⟨t1, p1, d1⟩ := h
  refine ⟨_, pe_not p1, fun C Γ σ F H Q R k => ?_⟩
  refine d1 C Γ σ F H _ R (k.bind.mono (fun p k v F' H' s1 R1 hv => ?_) fun _ _ z => z)
  obtain ⟨x, Γ1⟩ := p
  cases x with
  | bl z =>
    cases hv
    exact ⟨z, rfl, k _ F' H' s1 R1 (.bl _)⟩
  | _ => exact k.elim
/-! a op b op' c -/
theorem dchain {t1 t2 t3 : TE} {r r' : R2} {f f' : D → D → Option D} (h : R2D X.K cn r f) (h' : R2D X.K cn r' f') (h1 : DQ cn W X.K t1 qa) (h2 : DQ cn W X.K t2 qb) (h3 : DQ cn W X.K t3 qc) (hb : ∀ x y d, f x y = some d → ∃ k, d = .bl k) : DE cn W X.K (tChain r r' t1 t2 t3) (eChain f f' qa qb qc) := fun C Γ σ F H Q R k => by
  refine h1 C Γ σ F H _ R (k.bind.mono (fun p k v F' H' s1 R1 hv => ?_) fun _ _ z => z)
  refine h2 C p.2 σ F' H' _ R1 (k.bind.mono (fun q k w F2 H2 s2 R2 hw => ?_) fun _ _ z => XW.up s1 z)
  cases e1 : rd q.2 p.1 with
  | none => simp only [e1] at k; exact k.elim
  | some d1 =>
    cases e2 : rd q.2 q.1 with
    | none => simp only [e1, e2] at k; exact k.elim
    | some d2 =>
      simp only [e1, e2] at k
      cases e3 : f d1 d2 with
      | none => rw [e3] at k; exact k.elim
      | some d3 =>
        obtain ⟨kk, rfl⟩ := hb _ _ _ e3
        rw [e3] at k
        refine h F2 H2 v w d1 d2 _ _ R2.bs.fh (R2.rd e1 (hv.mono s2)) (R2.rd e2 hw) e3 fun z F3 H3 ex rz => ?_
        cases rz
        refine ⟨kk, rfl, ?_⟩
        have R3 := R2.ext ex
        have s3 := (s1.trans s2).trans ex.f
        cases kk with
        | false => rw [if_neg Bool.false_ne_true]; exact k _ F3 H3 s3 R3 (.bl _)
        | true =>
          rw [if_pos rfl]
          refine h3 C q.2 σ F3 H3 _ R3 (k.bind.mono (fun r k u F4 H4 s4 R4 hu => ?_) fun _ _ z => XW.up s3 z)
          cases e4 : rd r.2 q.1 with
          | none => simp only [e4] at k; exact k.elim
          | some y' =>
            cases e5 : rd r.2 r.1 with
            | none => simp only [e4, e5] at k; exact k.elim
            | some z' =>
              simp only [e4, e5] at k
              obtain ⟨zz, e6, k⟩ := k.bind.of
              exact h' F4 H4 w u y' z' zz Q R4.bs.fh (R4.rd e4 ((hw.mono ex.f).mono s4)) (R4.rd e5 hu) e6 fun zv F5 H5 ex2 rz => k zv F5 H5 ((s3.trans s4).trans ex2.f) (R4.ext ex2) rz
theorem je_chain {op op' : CmpOp} {r r' : R2} {f f' : D → D → Option D} (ho : OpR X (compareOp op) r) (h : R2D X.K cn r f) (hb : ∀ x y d, f x y = some d → ∃ k, d = .bl k) (ho' : OpR X (compareOp op') r') (h' : R2D X.K cn r' f') (h1 : JQ X cn W a qa) (h2 : JQ X cn W b qb) (h3 : JQ X cn W c qc)
    (hm : lastMarks [op, op'] [b, c] = false := by with_unfolding_all rfl) : JE X cn W (.Compare a [op, op'] [b, c] pos) (eChain f f' qa qb qc) := by
  obtain ⟨t1, p1, d1⟩ := h1
  obtain ⟨t2, p2, d2⟩ := h2
  obtain ⟨t3, p3, d3⟩ := h3
  exact ⟨_, pe_chain ho ho' p1 p2 p3 hm, dchain h h' d1 d2 d3 hb⟩
theorem bl_lt : ∀ x y d, dLt x y = some d → ∃ k, d = .bl k := fun x y d e => by cases x <;> cases y <;> first | (cases e; exact ⟨_, rfl⟩) | cases e
theorem bl_le : ∀ x y d, dLe x y = some d → ∃ k, d = .bl k := fun x y d e => by cases x <;> cases y <;> first | (cases e; exact ⟨_, rfl⟩) | cases e
theorem bl_eq : ∀ x y d, dEq x y = some d → ∃ k, d = .bl k := fun x y d e => by
  unfold dEq at e
  split at e
  · cases e; exact ⟨_, rfl⟩
  · cases e
/-! statements -/
theorem js_par {i j : Nat} {x y : Str} {px py pt : Pos} {kt k2 : Nat} {pt2 : Pos} (hc : X.calm = true) (hN : X.N.Nodup) (hi : X.N[i]? = some x) (hj : X.N[j]? = some y) (hij : i ≠ j)
    (hx : X.env.scope.names.lookup x = some .local) (hy : X.env.scope.names.lookup y = some .local) (h1 : JE X cn W a ea) (h2 : JE X cn W b eb)
    (hw : swappedStores [.Tuple [.Name x px, .Name y py] kt pt] (.Tuple [a, b] k2 pt2) X.env = pure (some [x, y]))
    (hs1 : starEach [a, b] X.env = (false, eval a X.env) :: starEach [b] X.env := by rfl) (hs2 : starEach [b] X.env = (false, eval b X.env) :: starEach [] X.env := by rfl)
    (hs : swapsWithSole [.Tuple [.Name x px, .Name y py] kt pt] (.Tuple [a, b] k2 pt2) pos.line X.env = pure false := by rfl) :
    JS X cn W (.Assign [.Tuple [.Name x px, .Name y py] kt pt] (.Tuple [a, b] k2 pt2) pos) (sPar i j ea eb) := by
  obtain ⟨t1, p1, d1⟩ := h1
  obtain ⟨t2, p2, d2⟩ := h2
  refine ⟨_, ps_par hc hN hi hj hij hx hy (pa_cons p1 (pa_cons p2 pa_nil hs2) hs1) hw hs, fun C Γ σ F H Dn R k => ?_⟩
  refine d1 C Γ σ F H _ R (k.bind.mono (fun p k v F' H' s1 R1 hv => ?_) fun _ _ z => z)
  refine d2 C p.2 σ F' H' _ R1 (k.bind.mono (fun q k w F2 H2 s2 R2 hw => ?_) fun _ _ z => XW.up s1 z)
  exact ⟨v, w, rfl, k _ F2 H2 (s1.trans s2) ((R2.setV (hv.mono s2)).setV hw)⟩
/-- xs[j] = e, xs owned -/
theorem js_puti (i : Nat) {x : Str} {px ps : Pos} (he : JE X cn W e ea) (h2 : JQ X cn W b qb) (hN : X.N[i]? = some x := by rfl) (hv : Vis X.env.scope x := by first | exact Or.inl rfl | exact Or.inr (Or.inl rfl) | exact Or.inr (Or.inr rfl)) (hd : (x == ("__debug__" : Str)) = false := by decide)
    (hcd : (x == ("__classdict__" : Str)) = false := by decide)
    (ha : ∀ v, assign (.Subscript (.Name x px) b ps) X.env v = (do
      let ov ← holding [v] (eval (.Name x px) X.env)
      let iv ← holding [v, ov] (eval b X.env)
      standAt ps
      holding [v, ov, iv] (setItem ov iv v)
      release [v, ov, iv] []) := by intro _; rfl)
    (hs : swapsWithSole [.Subscript (.Name x px) b ps] e pos.line X.env = pure false := by rfl) (hw : swappedStores [.Subscript (.Name x px) b ps] e X.env = pure none := by rfl)
    (h1 : (assignEach [.Subscript (.Name x px) b ps] X.env).map (·.2) = [assign (.Subscript (.Name x px) b ps) X.env] := by rfl) : JS X cn W (.Assign [.Subscript (.Name x px) b ps] e pos) (sPutI i qb ea) := by
  obtain ⟨t1, p1, d1⟩ := he
  obtain ⟨t2, p2, d2⟩ := h2
  refine ⟨_, ps_asg p1 (pg_sub (pe_var hN hv hd hcd) p2 set_list ha) hs hw h1, fun C Γ σ F H Dn R k => ?_⟩
  refine d1 C Γ σ F H _ R (k.bind.mono (fun p k v F' H' s1 R1 hv => ?_) fun _ _ z => z)
  obtain ⟨d, Γ1⟩ := p
  dsimp only at k R1 hv
  cases q : look (get Γ1 i) with
  | none => rw [q] at k; exact k.elim
  | some x0 =>
    rw [q] at k
    obtain ⟨v0, e0, _⟩ := R1.read q
    refine ⟨v0, e0, ?_⟩
    refine d2 C Γ1 σ F' H' _ R1 (k.bind.mono (fun q k w F2 H2 s2 R2 hw => ?_) fun _ _ z => XW.up s1 z)
    obtain ⟨pv, Γ2⟩ := q
    dsimp only at k R2 hw
    cases e1 : rd Γ2 pv with
    | none => simp only [e1] at k; exact k.elim
    | some dj =>
      cases dj with
      | int kk =>
        cases g : get Γ2 i with
        | own dd =>
          cases dd with
          | lst xs =>
            simp only [e1, g] at k
            cases em : Ed.ixN xs.length kk with
            | none => rw [em] at k; exact k.elim
            | some m =>
              rw [em] at k
              dsimp only at k
              obtain ⟨a, e2, n, n0, ws, hws, rws⟩ := R2.at g (fun z => by cases z)
              have e3 := join_some e2
              rw [e0] at e3
              cases e3
              have rj := R2.rd e1 hw
              refine ⟨a, ws, kk, m, rfl, rj.int, hws, ?_, ?_⟩
              · rw [rws.1]
                rw [← em]
                unfold Ed.ixN L2.ixN
                by_cases h : 0 ≤ kk
                · rw [if_pos h, if_pos h]
                · rw [if_neg h, if_neg h, Int.add_comm]
              · refine k σ F2 _ (s1.trans s2) (R2.mut g e0 ?_)
                exact ⟨_, upd_same, rws.set (hv.mono s2)⟩
          | _ => simp only [e1, g] at k; exact k.elim
        | _ => simp only [e1, g] at k; exact k.elim
      | _ => simp only [e1] at k; exact k.elim
/-! lists and tuples made of others; sums -/
theorem r_listof : RCN X.K cn (fun xs H Q => ∃ p ys, xs = [.ref p] ∧ (SqL X.K H p ys ∨ SqT X.K H p ys) ∧ ∀ l, H l = none → Q (.ref l) (upd H l (.lst ys))) (o1 dLst) := rn1 fun F H x dx d Q s hx e k => by
  cases dx with
  | lst xs => cases e; obtain ⟨a, vs, rfl, h, r⟩ := hx; exact ⟨a, vs, rfl, .inl (SqL.of h), fun l hl => k l vs xs rfl hl r⟩
  | tup xs => cases e; obtain ⟨a, vs, rfl, h, r⟩ := hx.tup s; exact ⟨a, vs, rfl, .inr h, fun l hl => k l vs xs rfl hl r⟩
  | _ => cases e
theorem r_tupleof : RCD X.K cn (fun xs H Q => ∃ p ys, xs = [.ref p] ∧ ((SqL X.K H p ys ∧ ∀ l, H l = none → Q (.ref l) (upd H l (.tup ys))) ∨ (SqT X.K H p ys ∧ Q (.ref p) H))) (o1 dTup) := rc1 fun F H x dx d Q s hx e k => by
  cases dx with
  | lst xs =>
    cases e
    obtain ⟨a, vs, rfl, h, r⟩ := hx
    refine ⟨a, vs, rfl, .inl ⟨SqL.of h, fun l hl => ?_⟩⟩
    have ex := Ext.new (o := HO.tup vs) s hl
    exact k _ _ _ ex (.tup (SqT.of upd_same) (r.mono ex.f).1 (r.mono ex.f).2)
  | tup xs => cases e; obtain ⟨a, vs, rfl, h, r⟩ := hx.tup s; exact ⟨a, vs, rfl, .inr ⟨h, k _ F H (ext0 s) hx⟩⟩
  | _ => cases e
theorem ints_ok {F : Hp} : ∀ (xs : List D) (vs : List V) (ns : List Int), intsL xs = some ns → Reps X.K cn F vs xs → vs = ns.map V.int
  | [], vs, ns, e, r => by cases e; exact r.inv0
  | x :: xs, vs, ns, e, r => by
    obtain ⟨v, vs', rfl, r1, r2⟩ := r.inv
    cases x with
    | int i =>
      have e : (intsL xs).map (i :: ·) = some ns := e
      cases q : intsL xs with
      | none => rw [q] at e; cases e
      | some ms =>
        rw [q] at e; cases e
        cases r1
        rw [ints_ok xs vs' ms q r2]; rfl
    | _ => cases e
theorem bools_ok {F : Hp} : ∀ (xs : List D) (vs : List V) (ns : List Bool), boolsL xs = some ns → Reps X.K cn F vs xs → vs = ns.map V.bl
  | [], vs, ns, e, r => by cases e; exact r.inv0
  | x :: xs, vs, ns, e, r => by
    obtain ⟨v, vs', rfl, r1, r2⟩ := r.inv
    cases x with
    | bl i =>
      have e : (boolsL xs).map (i :: ·) = some ns := e
      cases q : boolsL xs with
      | none => rw [q] at e; cases e
      | some ms =>
        rw [q] at e; cases e
        cases r1
        rw [bools_ok xs vs' ms q r2]; rfl
    | _ => cases e
theorem r_sum : RCD X.K cn (rSum X.K) (o1 dSum) := rc1 fun F H x dx d Q s hx e k => by
  cases dx with
  | lst xs =>
    have e : (intsL xs).map (fun ns => D.int ns.sum) = some d := e
    cases q : intsL xs with
    | none => rw [q] at e; cases e
    | some ns =>
      rw [q] at e; cases e
      obtain ⟨a, vs, rfl, h, r⟩ := hx
      rw [ints_ok xs vs ns q r] at h
      exact ⟨a, ns, rfl, SqL.of h, k _ F H (ext0 s) (.int _)⟩
  | _ => cases e
theorem r_all : RCD X.K cn (rAll X.K) (o1 dAll) := rc1 fun F H x dx d Q s hx e k => by
  cases dx with
  | lst xs =>
    have e : (boolsL xs).map (fun ns => D.bl (ns.all id)) = some d := e
    cases q : boolsL xs with
    | none => rw [q] at e; cases e
    | some ns =>
      rw [q] at e; cases e
      obtain ⟨a, vs, rfl, h, r⟩ := hx
      rw [bools_ok xs vs ns q r] at h
      exact ⟨a, ns, rfl, SqL.of h, k _ F H (ext0 s) (.bl _)⟩
  | _ => cases e
theorem r_any : RCD X.K cn (rAny X.K) (o1 dAny) := rc1 fun F H x dx d Q s hx e k => by
  cases dx with
  | lst xs =>
    have e : (boolsL xs).map (fun ns => D.bl (ns.any id)) = some d := e
    cases q : boolsL xs with
    | none => rw [q] at e; cases e
    | some ns =>
      rw [q] at e; cases e
      obtain ⟨a, vs, rfl, h, r⟩ := hx
      rw [bools_ok xs vs ns q r] at h
      exact ⟨a, ns, rfl, SqL.of h, k _ F H (ext0 s) (.bl _)⟩
  | _ => cases e
theorem two_ok {F H : Hp} {vs : List V} {d1 d2 : D} (p : Paired (fun v d => Shal X.K cn F H v d) vs [d1, d2]) : ∃ v1 v2, vs = [v1, v2] ∧ Shal X.K cn F H v1 d1 ∧ Shal X.K cn F H v2 d2 := by
  cases p with
  | cons h1 t => cases t with
    | cons h2 t => cases t; exact ⟨_, _, rfl, h1, h2⟩
theorem int2_cases {f : List D → Option D} {ds : List D} {d : D} (h : f ds = some d) (h0 : ∀ ds, (∀ i j, ds ≠ [.int i, .int j]) → f ds = none) : ∃ i j, ds = [.int i, .int j] := by
  by_cases q : ∃ i j, ds = [.int i, .int j]
  · exact q
  · rw [h0 ds fun i j z => q ⟨i, j, z⟩] at h; cases h
theorem r_max2 : RCD X.K cn (fun xs H Q => ∃ i j, xs = [.int i, .int j] ∧ Q (.int (if j > i then j else i)) H) dMax2 := fun F H vs ds d Q s p e k => by
  obtain ⟨i, j, rfl⟩ := int2_cases e (fun ds h => by unfold dMax2; split <;> first | exact absurd rfl (h _ _) | rfl)
  obtain ⟨v1, v2, rfl, h1, h2⟩ := two_ok p
  cases e
  exact ⟨i, j, by rw [h1.int, h2.int], k _ F H (ext0 s) (.int _)⟩
theorem r_min2 : RCD X.K cn (fun xs H Q => ∃ i j, xs = [.int i, .int j] ∧ Q (.int (if j < i then j else i)) H) dMin2 := fun F H vs ds d Q s p e k => by
  obtain ⟨i, j, rfl⟩ := int2_cases e (fun ds h => by unfold dMin2; split <;> first | exact absurd rfl (h _ _) | rfl)
  obtain ⟨v1, v2, rfl, h1, h2⟩ := two_ok p
  cases e
  exact ⟨i, j, by rw [h1.int, h2.int], k _ F H (ext0 s) (.int _)⟩
theorem r_gcd : RCD X.K cn rGcd dGcd := fun F H vs ds d Q s p e k => by
  obtain ⟨i, j, rfl⟩ := int2_cases e (fun ds h => by unfold dGcd; split <;> first | exact absurd rfl (h _ _) | rfl)
  obtain ⟨v1, v2, rfl, h1, h2⟩ := two_ok p
  cases e
  exact ⟨i, j, by rw [h1.int, h2.int], k _ F H (ext0 s) (.int _)⟩
theorem je_gcd {x : Str} {p : Pos} (hg : Gl X x) (hm : X.mg x = some (.builtin "math.gcd")) (ha : JA X cn W (e :: es) av) (hdb : (x == ("__debug__" : Str)) = false := by decide)
    (he : starEach (e :: es) X.env = (false, eval e X.env) :: starEach es X.env := by rfl) (hpl : (backTo pos (starEach es X.env)).any (·.1) = false := by rfl) : JE X cn W (.Call (.Name x p) (e :: es) [] pos) (eF dGcd av) := by
  obtain ⟨t, pa, d⟩ := ha
  exact ⟨_, pe_callBfun cr_gcd hg hm pa hdb he hpl, de_F (r := rGcd) r_gcd d⟩
theorem max_of {n : Int} : ∀ (ns : List Int) (n : Int), (ns.foldl max n) ∈ n :: ns ∧ ∀ y ∈ n :: ns, y ≤ ns.foldl max n
  | [], n => ⟨by simp, by simp⟩
  | m :: ns, n => by
    obtain ⟨h1, h2⟩ := max_of (n := n) ns (max n m)
    rw [List.foldl_cons]
    refine ⟨?_, fun y hy => ?_⟩
    · rcases List.mem_cons.mp h1 with h | h
      · rw [h]
        rcases Int.le_total n m with q | q
        · rw [Int.max_eq_right q]; simp
        · rw [Int.max_eq_left q]; simp
      · simp [h]
    · have := h2 (max n m) (by simp)
      rcases List.mem_cons.mp hy with rfl | hy
      · exact Int.le_trans (Int.le_max_left _ _) this
      · rcases List.mem_cons.mp hy with rfl | hy
        · exact Int.le_trans (Int.le_max_right _ _) this
        · exact h2 y (by simp [hy])
theorem min_of {n : Int} : ∀ (ns : List Int) (n : Int), (ns.foldl min n) ∈ n :: ns ∧ ∀ y ∈ n :: ns, ns.foldl min n ≤ y
  | [], n => ⟨by simp, by simp⟩
  | m :: ns, n => by
    obtain ⟨h1, h2⟩ := min_of (n := n) ns (min n m)
    rw [List.foldl_cons]
    refine ⟨?_, fun y hy => ?_⟩
    · rcases List.mem_cons.mp h1 with h | h
      · rw [h]
        rcases Int.le_total n m with q | q
        · rw [Int.min_eq_left q]; simp
        · rw [Int.min_eq_right q]; simp
      · simp [h]
    · have := h2 (min n m) (by simp)
      rcases List.mem_cons.mp hy with rfl | hy
      · exact Int.le_trans this (Int.min_le_left _ _)
      · rcases List.mem_cons.mp hy with rfl | hy
        · exact Int.le_trans this (Int.min_le_right _ _)
        · exact h2 y (by simp [hy])
theorem r_maxL : RCD X.K cn (rMax X.K) (o1 dMaxL) := rc1 fun F H x dx d Q s hx e k => by
  cases dx with
  | lst xs =>
    have e : ((intsL xs).bind fun ns => (maxL ns).map D.int) = some d := e
    cases q : intsL xs with
    | none => rw [q] at e; cases e
    | some ns =>
      rw [q] at e
      cases ns with
      | nil => cases e
      | cons n ns =>
        cases e
        obtain ⟨a, vs, rfl, h, r⟩ := hx
        rw [ints_ok xs vs _ q r] at h
        refine ⟨a, n :: ns, rfl, SqL.of h, by simp, fun m hm hy => ?_⟩
        obtain ⟨h1, h2⟩ := max_of (n := n) ns n
        have : m = ns.foldl max n := Int.le_antisymm (h2 m hm) (hy _ h1)
        rw [this]; exact k _ F H (ext0 s) (.int _)
  | _ => cases e
theorem r_minL : RCD X.K cn (rMin X.K) (o1 dMinL) := rc1 fun F H x dx d Q s hx e k => by
  cases dx with
  | lst xs =>
    have e : ((intsL xs).bind fun ns => (minL ns).map D.int) = some d := e
    cases q : intsL xs with
    | none => rw [q] at e; cases e
    | some ns =>
      rw [q] at e
      cases ns with
      | nil => cases e
      | cons n ns =>
        cases e
        obtain ⟨a, vs, rfl, h, r⟩ := hx
        rw [ints_ok xs vs _ q r] at h
        refine ⟨a, n :: ns, rfl, SqL.of h, by simp, fun m hm hy => ?_⟩
        obtain ⟨h1, h2⟩ := min_of (n := n) ns n
        have : m = ns.foldl min n := Int.le_antisymm (hy _ h1) (h2 m hm)
        rw [this]; exact k _ F H (ext0 s) (.int _)
  | _ => cases e
/-! f-strings -/
theorem je_fmt (h : JQ X cn W a qa) : JE X cn W (.FormattedValue a (-1) none pos) (eU dTxt qa) := by
  obtain ⟨t1, p1, d1⟩ := h
  refine ⟨_, pe_fmt p1, de_U (r := fun x H Q => (∃ y : Str, x = .str y ∧ y.length ≤ sizeLine ∧ Q (.str y) H) ∨ ∃ i : Int, x = .int i ∧ i.natAbs.log2 < 1920 ∧ Q (.str (toString i)) H) (fun F H x dx d Q s hx e k => ?_) d1⟩
  cases dx with
  | str z =>
    have e : (if z.length ≤ seqMax then some (D.str z) else none) = some d := e
    split at e
    · rename_i hz; cases e; exact .inl ⟨z, hx.str, by rw [← sm]; exact hz, k _ F H (ext0 s) (.str _)⟩
    · cases e
  | int i =>
    have e : (if i.natAbs < 2 ^ 1900 then some (D.str (toString i)) else none) = some d := e
    split at e
    · rename_i hz; cases e; exact .inr ⟨i, hx.int, Nat.lt_of_lt_of_le (log2_of hz (by decide)) (by decide), k _ F H (ext0 s) (.str _)⟩
    · cases e
  | _ => cases e
/-- the parts -/
def JF (X : Cx) (cn : Cn) (W : WX) (es : List Expr) (l : List EV) : Prop := ∃ ts, PJ X es ts ∧ ∀ acc C Γ σ F H (Q : Str → Hp → Prop), RelS X.K cn C Γ σ F H → Post (eJs l acc Γ) (fun p => ∀ F' H', Same F F' → RelS X.K cn C p.2 σ F' H' → ∀ s, p.1 = .str s → Q s H') (XW X.K cn C F W) → tJs ts acc σ H Q
theorem jf_nil : JF X cn W [] [] := ⟨_, .nil, fun acc C Γ σ F H Q R k => k F H (Same.refl _) R acc rfl⟩
theorem jf_cons {l : List EV} (h : JE X cn W e ea) (h2 : JF X cn W es l) : JF X cn W (e :: es) (ea :: l) := by
  obtain ⟨t, p, d⟩ := h
  obtain ⟨ts, p2, d2⟩ := h2
  refine ⟨_, .cons p p2, fun acc C Γ σ F H Q R k => ?_⟩
  refine d C Γ σ F H _ R (k.bind.mono (fun p k v F' H' s1 R1 hv => ?_) fun _ _ z => z)
  obtain ⟨x, Γ1⟩ := p
  cases x with
  | str y =>
    cases hv
    dsimp only at k
    split at k
    · rename_i hz
      refine ⟨y, rfl, by rw [← sm]; exact hz, d2 (acc ++ y) C Γ1 σ F' H' Q R1 (Post.mono (P := fun p => ∀ F' H', Same F F' → RelS X.K cn C p.2 σ F' H' → ∀ s, p.1 = .str s → Q s H') (W := XW X.K cn C F W) k (fun p k F2 H2 s r z q => k F2 H2 (s1.trans s) r z q) fun _ _ z => XW.up s1 z)⟩
    · exact k.elim
  | _ => exact k.elim
theorem eJs_str : ∀ (l : List EV) (acc : Str) (Γ : Env) (p : D × Env), eJs l acc Γ = .ok p → ∃ s, p.1 = .str s
  | [], acc, Γ, p, h => by cases h; exact ⟨_, rfl⟩
  | e :: l, acc, Γ, p, h => by
    unfold eJs at h
    cases q : e Γ with
    | bad => rw [q] at h; cases h
    | exc _ _ => rw [q] at h; cases h
    | ok r =>
      rw [q] at h
      obtain ⟨x, Γ1⟩ := r
      have h : (match x with | .str y => if (acc ++ y).length ≤ seqMax then eJs l (acc ++ y) Γ1 else .bad | _ => .bad) = .ok p := h
      cases x with
      | str y =>
        dsimp only at h
        split at h
        · exact eJs_str l _ _ _ h
        · cases h
      | _ => cases h
theorem je_joined {v1 v2 : Expr} {l : List EV} (h : JF X cn W (v1 :: v2 :: rest) l) : JE X cn W (.JoinedStr (v1 :: v2 :: rest) pos) (eJs l Str.empty) := by
  obtain ⟨ts, p, d⟩ := h
  refine ⟨_, pe_joined p, fun C Γ σ F H Q R k => d _ C Γ σ F H _ R (k.mono (fun p k F' H' s r z hz => ?_) fun _ _ z => z)⟩
  obtain ⟨x, Γ1⟩ := p
  cases hz
  exact k _ F' H' s r (.str z)
theorem je_joined1 {v1 : Expr} (h : JE X cn W v1 ea) : JE X cn W (.JoinedStr [v1] pos) ea := by
  obtain ⟨t, p, d⟩ := h
  exact ⟨_, pe_joined1 p, d⟩
end
end Ed

set_option autoImplicit true
set_option Elab.async false
set_option linter.all false
set_option maxRecDepth 100000
set_option maxHeartbeats 4000000
set_option autoImplicit false
/-! in an except suite; isinstance of own classes -/
namespace Ed
open PySem L2
section
variable {X : Cx} {cn : Cn} {W : WX} {pos : Pos}
theorem eX_at {K : PySem.W.Frag} {C : Ct} {Γ : Env} {σ : St} {F H : Hp} {i : Nat} {x : Xc} (R : RelS K cn C Γ σ F H) (g : get Γ i = .exn x) {a0 : Addr} {cls : Value} {od : Option Addr} (hx : cn.ex = some (a0, cls, od)) : σ[i]? = some (some (.ref a0)) ∧ RepX K cn F cls od x := by
  obtain ⟨a1, e1, q1⟩ := R.at g (fun z => by cases z)
  obtain ⟨h1, h2⟩ := q1 _ _ _ hx
  subst h1
  exact ⟨join_some e1, h2⟩
/-- err.f in an except suite -/
theorem je_xf {i f : Nat} {cs : List Nat} {a0 : Addr} {oe : Obj} {cls : Value} {od : Option Addr} {pn : List (Addr × Obj)} {n m : Str} {pos2 : Pos} (hx0 : cn.ex = some (a0, cls, od)) (hz : Zc cls od oe) (hf : ∃ vs, oe.data = .fields vs)
    (T : ∀ c, cs.contains c = true → XfC X.K (cn.ca c) ∧ PySem.W.findIn X.K (.ref (cn.ca c)) n = some none) (hn : cn.fa f = n)
    (hN : X.N[i]? = some m := by rfl) (hv : Vis X.env.scope m := by first | exact Or.inl rfl | exact Or.inr (Or.inl rfl) | exact Or.inr (Or.inr rfl)) (hd : (m == ("__debug__" : Str)) = false := by decide)
    (hcd : (m == ("__classdict__" : Str)) = false := by decide) (hb : attributeBase (.Name m pos) n X.env (eval (.Name m pos) X.env) = eval (.Name m pos) X.env := by rfl) : JE (X.suite a0 ((a0, oe) :: pn)) cn W (.Attribute (.Name m pos) n pos2) (eXf cs i f) := by
  by_cases h : ∃ c, cs.contains c = true ∧ cls = .ref (cn.ca c)
  · obtain ⟨c, hc, rfl⟩ := h
    obtain ⟨T1, T2⟩ := T c hc
    refine ⟨_, pe_xf T1 T2 hz hf (pe_var (X := X.suite a0 ((a0, oe) :: pn)) (i := i) (x := m) (pos := pos) hN hv hd hcd) hb, fun C Γ σ F H Q R k => ?_⟩
    unfold eXf at k
    cases g : get Γ i with
    | exn x =>
      rw [g] at k
      dsimp only at k
      by_cases hcc : cs.contains x.c = true
      · rw [if_pos hcc] at k
        cases el : x.fs.lookup f with
        | none => rw [el] at k; exact k.elim
        | some d =>
          rw [el] at k
          obtain ⟨e1, rx⟩ := eX_at R g hx0
          refine ⟨_, e1, rfl, rfl, ?_⟩
          rcases rx.2 with ⟨h0, _⟩ | ⟨dd, fvs, h1, h2, _, h3⟩
          · rw [h0] at el; cases el
          · obtain ⟨v, hv1, hv2⟩ := h3 f d el
            exact ⟨dd, fvs, v, h1, R.bs.fh _ _ h2, by rw [← hn]; exact hv1, k v F H (Same.refl _) R hv2⟩
      · rw [if_neg hcc] at k; exact k.elim
    | _ => rw [g] at k; exact k.elim
  · refine ⟨fun _ _ _ => False, ⟨fun _ _ _ _ _ _ z => z.elim⟩, fun C Γ σ F H Q R k => ?_⟩
    unfold eXf at k
    cases g : get Γ i with
    | exn x =>
      rw [g] at k
      dsimp only at k
      by_cases hcc : cs.contains x.c = true
      · obtain ⟨e1, rx⟩ := eX_at R g hx0
        exact h ⟨x.c, hcc, rx.1⟩
      · rw [if_neg hcc] at k; exact k.elim
    | _ => rw [g] at k; exact k.elim
/-- isinstance(err, D) in an except suite -/
theorem je_isE {i : Nat} {is : Nat → Option Bool} {a0 : Addr} {oe : Obj} {cls : Value} {od : Option Addr} {pn : List (Addr × Obj)} {m : Str} {b : Expr} {p p1 : Pos} {v : V} {u : Value} (hx0 : cn.ex = some (a0, cls, od)) (hz : Zc cls od oe) (hf : ∃ vs, oe.data = .fields vs)
    (hg : Gl X "isinstance") (hm : X.mg "isinstance" = none) (h2 : JC (X.suite a0 ((a0, oe) :: pn)) b v u)
    (T : ∀ c k, is c = some k → ExcC X.K (cn.ca c) ∧ PySem.W.kitOne X.K (.ref (cn.ca c)) u = some k)
    (hN : X.N[i]? = some m := by rfl) (hv : Vis X.env.scope m := by first | exact Or.inl rfl | exact Or.inr (Or.inl rfl) | exact Or.inr (Or.inr rfl)) (hd : (m == ("__debug__" : Str)) = false := by decide)
    (hcd : (m == ("__classdict__" : Str)) = false := by decide)
    (he : starEach [.Name m p1, b] X.env = (false, eval (.Name m p1) X.env) :: starEach [b] X.env := by rfl) (he2 : starEach [b] X.env = (false, eval b X.env) :: starEach [] X.env := by rfl) (hpl : (backTo pos (starEach [b] X.env)).any (·.1) = false := by rfl) :
    JE (X.suite a0 ((a0, oe) :: pn)) cn W (.Call (.Name "isinstance" p) [.Name m p1, b] [] pos) (eIsE i is) := by
  by_cases h : od = none ∧ ∃ c k, is c = some k ∧ cls = .ref (cn.ca c)
  · obtain ⟨rfl, c, kk, hc, rfl⟩ := h
    obtain ⟨T1, T2⟩ := T c kk hc
    refine ⟨_, pe_callB (X := X.suite a0 ((a0, oe) :: pn)) (call_isE T1 hz hf) hg hm rfl (pa_cons (X := X.suite a0 ((a0, oe) :: pn)) (pe_var (X := X.suite a0 ((a0, oe) :: pn)) (i := i) (x := m) (pos := p1) hN hv hd hcd) (pa_cons (X := X.suite a0 ((a0, oe) :: pn)) h2.1 pa_nil he2) he) (by decide) (by decide) he hpl, fun C Γ σ F H Q R k => ?_⟩
    unfold eIsE at k
    cases g : get Γ i with
    | exn x =>
      rw [g] at k
      dsimp only at k
      by_cases hcc : x.fs.isEmpty = true
      · rw [if_pos hcc] at k
        cases el : is x.c with
        | none => rw [el] at k; exact k.elim
        | some d =>
          rw [el] at k
          obtain ⟨e1, rx⟩ := eX_at R g hx0
          have q := (T x.c d el).2
          refine ⟨_, e1, v, u, d, rfl, fun w r => ?_, ?_, k (.bl d) F H (Same.refl _) R (.bl d)⟩
          · exact h2.2.eq r
          · rw [rx.1]; exact q
      · rw [if_neg hcc] at k; exact k.elim
    | _ => rw [g] at k; exact k.elim
  · refine ⟨fun _ _ _ => False, ⟨fun _ _ _ _ _ _ z => z.elim⟩, fun C Γ σ F H Q R k => ?_⟩
    unfold eIsE at k
    cases g : get Γ i with
    | exn x =>
      rw [g] at k
      dsimp only at k
      by_cases hcc : x.fs.isEmpty = true
      · rw [if_pos hcc] at k
        cases el : is x.c with
        | none => rw [el] at k; exact k.elim
        | some d =>
          obtain ⟨e1, rx⟩ := eX_at R g hx0
          rcases rx.2 with ⟨_, h1⟩ | ⟨dd, fvs, h1, _, h3, _⟩
          · exact h ⟨h1, x.c, d, el, rx.1⟩
          · exact absurd (List.isEmpty_iff.mp hcc) h3
      · rw [if_neg hcc] at k; exact k.elim
    | _ => rw [g] at k; exact k.elim
/-! isinstance(x, C), C an own class: tb says it of the own classes -/
structure IsC (K : PySem.W.Frag) (C : Addr) : Prop where
  none : PySem.W.kitOne K (.type "NoneType") (.ref C) = some false
  bool : PySem.W.kitOne K (.type "bool") (.ref C) = some false
  int : PySem.W.kitOne K (.type "int") (.ref C) = some false
  str : PySem.W.kitOne K (.type "str") (.ref C) = some false
  list : PySem.W.kitOne K (.type "list") (.ref C) = some false
  tuple : PySem.W.kitOne K (.type "tuple") (.ref C) = some false
theorem ty_own {tb : Nat → Option Bool} {C : Addr} (h : IsC X.K C) (T : ∀ c k, tb c = some k → PySem.W.kitOne X.K (.ref (cn.ca c)) (.ref C) = some k ∧ Cls X.K (cn.ca c) ∧ PySem.W.findIn X.K (.ref (cn.ca c)) "__class__" = some (some (.builtin "object.__class__")) ∧ PySem.W.mroIn X.K (cn.ca c) (.type "object") = some true)
    (h3 : PySem.W.specialIn X.K (.builtin "object.__class__") "__get__" = some (some (.builtin "getset_descriptor.__get__"))) (h4 : PySem.W.takesIn X.K (.builtin "object.__class__") = some true) (d : D) (k : Bool) (e : isB2 tb d = some k) : TyD X.K cn (.ref C) d k := by
  cases d with
  | ins c fs => obtain ⟨t1, t2, t3, t4⟩ := T c k e; exact ⟨t1, t2, t3, h3, h4, t4⟩
  | non => cases e; exact h.none
  | bl _ => cases e; exact h.bool
  | int _ => cases e; exact h.int
  | str _ => cases e; exact h.str
  | lst _ => cases e; exact h.list
  | tup _ => cases e; exact h.tuple
  | dct _ => cases e
  | scr _ => cases e
end
end Ed

set_option autoImplicit true
set_option Elab.async false
set_option linter.all false
set_option maxRecDepth 100000
set_option maxHeartbeats 4000000
set_option autoImplicit false
/-! default values; the law itself -/
namespace L2
open PySem PySem.Spec PyProof.Rows PySem.W
section
variable {X : Cx} {k : Nat} {f C : Addr} {fd : FuncData} {ps : List Str} {sp : Sp} {W : WX} {x m : Str} {p pos apos : Pos} {e o : Expr} {es : List Expr} {ta te : TE} {t : TA}
theorem runS_makeD {ds : List Value} {dvs : List V} {pins : List (Addr × Obj)} {σ : L2.St} {H : Hp} {s : Shared} {Q : VK} {us : List Value} {vs : List V} (M : Mk X.K C f) (F : FnOk X.prog X.w X.K X.mg X.base (L2.CX X.prog X.w) k f fd ps sp) (hr : Room (k + 1) X.A) (hb : Binds X.K fd ps ds) (hd : Vals dvs ds)
    (tk : Takes X W) (I : Inv X pins σ H s) (r : Vals vs us)
    (h : ∀ x dx, H x = none → H dx = none → dx ≠ x → sp (.ref x :: (vs ++ dvs)) (upd (upd H dx (.own x)) x (.ins C dx [])) (fun v H2 => v = .non ∧ Q (.ref x) H2) (WE W σ)) :
    wpAny (model X.prog X.w) X.A (call (.ref C) us) (EP X pins σ Q) X.xe s := by
  have hq := h (s.heap.objs.size + 1) s.heap.objs.size (I.hok.fresh (Nat.le_succ _)) (I.hok.fresh (Nat.le_refl _)) (Nat.ne_of_lt (Nat.lt_succ_self _))
  have I2 := Inv.made (C := C) I
  have r2 : Vals (V.ref (s.heap.objs.size + 1) :: (vs ++ dvs)) (Value.ref (s.heap.objs.size + 1) :: (us ++ ds)) := .cons rfl (r.append hd)
  have hl : ((Value.ref (s.heap.objs.size + 1) :: us) ++ ds).length = ps.length := by
    have e := r2.length
    rw [F.len _ _ _ _ hq] at e
    exact e.symm
  have b := hb _ (Value.ref (s.heap.objs.size + 1) :: us) I2.kIn hl
  refine wpAny_call (make_map (f := f) I.kIn M.makes M.init (beq_iff_eq.mp M.fn) (codeAny_mono (F.run _ X.stack _ _ ⟨Value.ref (s.heap.objs.size + 1) :: us, []⟩ (Value.ref (s.heap.objs.size + 1) :: (us ++ ds)) _ _ (WE W σ) (hr.make C us [])
    (I2.env0.make C us []) b r2 hq) fun r s' hq' => ?_))
  cases r with
  | error e => exact passAt tk σ pins _ _ e s' I2 hq'
  | ok fl =>
    cases fl with
    | ret u =>
      obtain ⟨v, H', I3, rv, ev, q3⟩ := I2.after hq'
      subst ev
      exact ⟨rv, ⟨V.ref (s.heap.objs.size + 1), H', I3, rfl, q3⟩⟩
    | next => exact False.elim hq'
    | brk => exact False.elim hq'
    | cont => exact False.elim hq'
def tMakeXD (C : Addr) (sp : Sp) (dvs : List V) (W : WX) (t : TA) : TE := fun σ H Q => t σ H fun vs H1 => ∀ x dx, H1 x = none → H1 dx = none → dx ≠ x →
  sp (.ref x :: (vs ++ dvs)) (upd (upd H1 dx (.own x)) x (.ins C dx [])) (fun v H2 => v = .non ∧ Q (.ref x) H2) (WE W σ)
theorem pe_makeXD {ds : List Value} {dvs : List V} (M : Mk X.K C f) (F : FnOk X.prog X.w X.K X.mg X.base (L2.CX X.prog X.w) k f fd ps sp) (hr : Room (k + 1) X.A) (hg : Gl X x) (hm : X.mg x = some (.ref C)) (hb : Binds X.K fd ps ds) (hd : Vals dvs ds) (tk : Takes X W)
    (ha : PA X (e :: es) t) (hdb : (x == ("__debug__" : Str)) = false := by decide) (he : starEach (e :: es) X.env = (false, eval e X.env) :: starEach es X.env := by rfl) (hpl : (backTo pos (starEach es X.env)).any (·.1) = false := by rfl) :
    PE X (.Call (.Name x p) (e :: es) [] pos) (tMakeXD C sp dvs W t) := by
  refine ⟨fun pins s σ H Q I h => ?_⟩
  refine wpAny_Call_Name_kw (ld_glob I hg hm ?_ hdb)
  refine PySem.W.callWith_K (h₀ := X.base) I.ok.mod.kin M.kp (thn (ha.run pos pins s σ H _ I h) fun us s1 ⟨vs, H1, I1, r, q⟩ => ⟨I1.kIn, ?_⟩) he hpl
  exact runS_makeD M F hr hb hd tk I1 r q
end
end L2
namespace Ed
open PySem L2
section
variable {P : Program} {w : World} {K : PySem.W.Frag} {mg : Str → Option Value} {base : Heap} {cn : Cn}
theorem okDD {x qual : Str} {params : Arguments} {body : List Stmt} {scope : Scope} {dvs : List V} {kws : List (Str × V)} {f : Addr} {fd : FuncData} {N ps : List Str} {k : Nat} {ms : List Bool} {n : Nat} {sv : SV} {Ff : FV} (F : FunD K x qual params body scope dvs kws f fd) (S : FnScope N ps scope) (hp : ms.length = ps.length) (hN : N.length = ms.length + n) (hF : ∀ ds, Ff ds = runF ms n sv ds)
    (hbody : ∀ (cdv : Value) (A : Around) (outer : List PySem.Env) (s : Shared) (H : Hp) (E : XK), Room k (A.deeper (PyProof.Rows.envOfC qual scope s.heap.objs.size f cdv)) →
      JSs (cxOf (L2.CX P w) P w K mg base N qual scope f cdv A outer s H E) cn (fun cls d _ H => E cls d H) body sv) : FnOk P w K mg base (L2.CX P w) (k + 1) f fd ps (spD K cn ms Ff) :=
  F.ok S (fun vs H Q E h => by rw [h.1]; exact hp) fun cdv A outer s H vs Q E hr h => bodyD (X := cxOf (L2.CX P w) P w K mg base N qual scope f cdv A outer s H E) hN hF h (hbody cdv A outer s H E hr)
theorem okID {x qual : Str} {params : Arguments} {body : List Stmt} {scope : Scope} {dvs : List V} {kws : List (Str × V)} {f : Addr} {fd : FuncData} {N ps : List Str} {k c : Nat} {ms : List Bool} {n : Nat} {sv : SV} {Ff : List D → R (List (Nat × D))} (F : FunD K x qual params body scope dvs kws f fd) (S : FnScope N ps scope) (hp : ms.length + 1 = ps.length) (hN : N.length = ms.length + 1 + n) (hF : ∀ ds, Ff ds = runI c ms n sv ds)
    (hbody : ∀ (cdv : Value) (A : Around) (outer : List PySem.Env) (s : Shared) (H : Hp) (E : XK), Room k (A.deeper (PyProof.Rows.envOfC qual scope s.heap.objs.size f cdv)) →
      JSs (cxOf (L2.CX P w) P w K mg base N qual scope f cdv A outer s H E) cn (fun cls d _ H => E cls d H) body sv) : FnOk P w K mg base (L2.CX P w) (k + 1) f fd ps (spI K cn c ms Ff) :=
  F.ok S (fun vs H Q E h => by rw [h.1]; exact hp) fun cdv A outer s H vs Q E hr h => bodyI (hbody cdv A outer s H E hr) hN hF h
theorem ArgR.app {F H : Hp} {ms1 : List Bool} {vs1 : List V} {ds1 : List D} (q : ArgR K cn F H ms1 vs1 ds1) : ∀ {ms : List Bool} {vs : List V} {ds : List D}, ArgR K cn F H ms vs ds → ArgR K cn F H (ms ++ ms1) (vs ++ vs1) (ds ++ ds1)
  | [], [], [], _ => q
  | m :: ms, _ :: _, _ :: _, h => ⟨h.1, ArgR.app q h.2⟩
  | [], [], _ :: _, h => h.elim
  | [], _ :: _, _, h => h.elim
  | _ :: _, [], _, h => h.elim
  | _ :: _, _ :: _, [], h => h.elim
theorem spD_dfl {ms ms1 : List Bool} {Ff : FV} {vs dvs : List V} {dd : List D} {H : Hp} {Q : VK} {E : XK} (hd : ∀ F H, Same F H → ArgR K cn F H ms1 dvs dd) (h : spD K cn ms (fun ds => Ff (ds ++ dd)) vs H Q E) : spD K cn (ms ++ ms1) Ff (vs ++ dvs) H Q E := by
  obtain ⟨hl, F, ds, hs, ha, k⟩ := h
  have q := hd F H hs
  exact ⟨by rw [List.length_append, List.length_append, hl, q.len.1], F, ds ++ dd, hs, q.app ha, k⟩
theorem spI_dfl {c : Nat} {ms ms1 : List Bool} {Ff : List D → R (List (Nat × D))} {vs dvs : List V} {dd : List D} {p : Addr} {H : Hp} {Q : VK} {E : XK} (hd : ∀ F H, Same F H → ArgR K cn F H ms1 dvs dd) (h : spI K cn c ms (fun ds => Ff (ds ++ dd)) (.ref p :: vs) H Q E) : spI K cn c (ms ++ ms1) Ff (.ref p :: (vs ++ dvs)) H Q E := by
  obtain ⟨hl, p', vs', dx, F, ds, e, hp, fp, hs, ha, k⟩ := h
  cases e
  have q := hd F H hs
  exact ⟨by simp only [List.length_cons, List.length_append, ha.len.1, q.len.1], p, vs ++ dvs, dx, F, ds ++ dd, rfl, hp, fp, hs, q.app ha, k⟩
end
section
variable {X : Cx} {cn : Cn} {W : WX} {e : Expr} {es : List Expr} {pos : Pos} {av : AV} {k c : Nat} {f : Addr} {fd : FuncData} {ps : List Str} {ms ms1 : List Bool} {Ff : FV} {x : Str} {p : Pos} {dvs : List V} {dd : List D} {dls : List Value}
theorem je_callD (F : FnOk X.prog X.w X.K X.mg X.base (L2.CX X.prog X.w) k f fd ps (spD X.K cn (ms ++ ms1) Ff)) (hr : Room k X.A) (hg : Gl X x) (hm : X.mg x = some (.ref f)) (hk : PySem.W.keepIn X.K (.ref f) = true) (hb : Binds X.K fd ps dls) (hd : Vals dvs dls) (hdd : ∀ F H, Same F H → ArgR X.K cn F H ms1 dvs dd) (tk : Takes X W)
    (ha : JA X cn W (e :: es) av) (hdb : (x == ("__debug__" : Str)) = false := by decide) (he : starEach (e :: es) X.env = (false, eval e X.env) :: starEach es X.env := by rfl) (hpl : (backTo pos (starEach es X.env)).any (·.1) = false := by rfl) :
    JE X cn W (.Call (.Name x p) (e :: es) [] pos) (eCall (fun ds => Ff (ds ++ dd)) ms av) := by
  obtain ⟨t, pa, d⟩ := ha
  refine ⟨_, pe_callSD F hr hg hm hk hb hd (fun σ => passAt tk σ) pa hdb he hpl, fun C Γ σ F H Q R k => ?_⟩
  refine d C Γ σ F H _ R (k.bind.mono (fun p k vs F' H' s1 R1 hv => ?_) fun _ _ z => z)
  exact spD_dfl hdd (call_ok R1 hv (k.bind.mono (fun _ z => z) fun _ _ z => XW.up s1 z) fun o Γ2 v F2 H2 hP s R2 dv => dvn_e (s1.trans s) R2 dv hP)
theorem jn_callD (F : FnOk X.prog X.w X.K X.mg X.base (L2.CX X.prog X.w) k f fd ps (spD X.K cn (ms ++ ms1) Ff)) (hr : Room k X.A) (hg : Gl X x) (hm : X.mg x = some (.ref f)) (hk : PySem.W.keepIn X.K (.ref f) = true) (hb : Binds X.K fd ps dls) (hd : Vals dvs dls) (hdd : ∀ F H, Same F H → ArgR X.K cn F H ms1 dvs dd) (tk : Takes X W)
    (ha : JA X cn W (e :: es) av) (hdb : (x == ("__debug__" : Str)) = false := by decide) (he : starEach (e :: es) X.env = (false, eval e X.env) :: starEach es X.env := by rfl) (hpl : (backTo pos (starEach es X.env)).any (·.1) = false := by rfl) :
    JN X cn W (.Call (.Name x p) (e :: es) [] pos) (nCall (fun ds => Ff (ds ++ dd)) ms av) := by
  obtain ⟨t, pa, d⟩ := ha
  refine ⟨_, pe_callSD F hr hg hm hk hb hd (fun σ => passAt tk σ) pa hdb he hpl, fun C Γ σ F H Q R k => ?_⟩
  refine d C Γ σ F H _ R (k.bind.mono (fun p k vs F' H' s1 R1 hv => ?_) fun _ _ z => z)
  refine spD_dfl hdd (call_ok R1 hv (k.bind.mono (fun _ z => z) fun _ _ z => XW.up s1 z) fun o Γ2 v F2 H2 hP s R2 dv => ?_)
  cases o with
  | fz d => exact hP.elim
  | fr d => exact hP v F2 H2 (s1.trans s) R2 dv
theorem je_makeD {Fi : List D → R (List (Nat × D))} (M : Mk X.K (cn.ca c) f) (F : FnOk X.prog X.w X.K X.mg X.base (L2.CX X.prog X.w) k f fd ps (spI X.K cn c (ms ++ ms1) Fi)) (hr : Room (k + 1) X.A) (hg : Gl X x) (hm : X.mg x = some (.ref (cn.ca c))) (hb : Binds X.K fd ps dls) (hd : Vals dvs dls) (hdd : ∀ F H, Same F H → ArgR X.K cn F H ms1 dvs dd) (tk : Takes X W)
    (ha : JA X cn W (e :: es) av) (hdb : (x == ("__debug__" : Str)) = false := by decide) (he : starEach (e :: es) X.env = (false, eval e X.env) :: starEach es X.env := by rfl) (hpl : (backTo pos (starEach es X.env)).any (·.1) = false := by rfl) :
    JE X cn W (.Call (.Name x p) (e :: es) [] pos) (eCall (mkF c fun ds => Fi (ds ++ dd)) ms av) := by
  obtain ⟨t, pa, d⟩ := ha
  refine ⟨_, pe_makeXD M F hr hg hm hb hd tk pa hdb he hpl, fun C Γ σ F0 H Q R k => ?_⟩
  refine d C Γ σ F0 H _ R (k.bind.mono (fun p k vs F' H' s1 R1 hv => ?_) fun _ _ z => z)
  have q := spD_make (call_ok R1 hv (k.bind.mono (fun _ z => z) fun _ _ z => XW.up s1 z) fun o Γ2 v F2 H2 hP s R2 dv => dvn_e (s1.trans s) R2 dv hP)
  exact fun x dx h1 h2 h3 => spI_dfl hdd (q x dx h1 h2 h3)
end
/-- default values of plain kinds -/
theorem dfl_nil {K : PySem.W.Frag} {cn : Cn} : ∀ F H, Same F H → ArgR K cn F H [] [] [] := fun _ _ _ => True.intro
theorem dfl_int {K : PySem.W.Frag} {cn : Cn} {i : Int} {ms : List Bool} {vs : List V} {ds : List D} {m : Bool} (h : ∀ F H, Same F H → ArgR K cn F H ms vs ds) : ∀ F H, Same F H → ArgR K cn F H (m :: ms) (.int i :: vs) (.int i :: ds) := fun F H s => ⟨by cases m <;> exact Rep.int i, h F H s⟩
theorem dfl_bl {K : PySem.W.Frag} {cn : Cn} {i : Bool} {ms : List Bool} {vs : List V} {ds : List D} {m : Bool} (h : ∀ F H, Same F H → ArgR K cn F H ms vs ds) : ∀ F H, Same F H → ArgR K cn F H (m :: ms) (.bl i :: vs) (.bl i :: ds) := fun F H s => ⟨by cases m <;> exact Rep.bl i, h F H s⟩
theorem dfl_non {K : PySem.W.Frag} {cn : Cn} {ms : List Bool} {vs : List V} {ds : List D} {m : Bool} (h : ∀ F H, Same F H → ArgR K cn F H ms vs ds) : ∀ F H, Same F H → ArgR K cn F H (m :: ms) (.non :: vs) (.non :: ds) := fun F H s => ⟨by cases m <;> exact Rep.non, h F H s⟩
/-! the law -/
def spLaw (K : PySem.W.Frag) : Sp := fun vs H Q _ => ∃ (a : Addr) (ns : List Int), vs = [.ref a] ∧ SqL K H a (ns.map V.int) ∧ ns.length ≤ 63 ∧ ∀ H', Q (.bl true) H'
theorem law_sp {P : Program} {w : World} {K : PySem.W.Frag} {mg : Str → Option Value} {base : Heap} {cn : Cn} {k : Nat} {f : Addr} {fd : FuncData} {ps : List Str} {m : Bool} {Ff : FV} (F : FnOk P w K mg base (L2.CX P w) k f fd ps (spD K cn [m] Ff)) (h : ∀ ns : List Int, ns.length ≤ 63 → Ff [.scr ns] = .ok (.fz (.bl true))) : FnOk P w K mg base (L2.CX P w) k f fd ps (spLaw K) := by
  have up : ∀ vs H Q E, spLaw K vs H Q E → spD K cn [m] Ff vs H Q E := fun vs H Q E ⟨a, ns, e, hs, hl, q⟩ => by
    subst e
    have r : Rep K cn H (.ref a) (.scr ns) := .scr hs
    refine ⟨rfl, H, [.scr ns], Same.refl _, ⟨by cases m <;> exact r, True.intro⟩, ?_⟩
    rw [h ns hl]
    intro v F' H' ex dv
    cases (show Rep K cn F' v (.bl true) from dv)
    exact q H'
  exact ⟨fun vs H Q E q => F.len vs H Q E (up vs H Q E q), fun A outer s H args us vs Q E hr he hb r q => F.run A outer s H args us vs Q E hr he hb r (up vs H Q E q)⟩
theorem CX_false {P : Program} {w : World} {H : Hp} {s : Shared} {e : Value} {s' : Shared} (h : L2.CX P w [] H s (fun _ _ _ => False) e s') : False := by
  obtain ⟨a, B, H', cls, d, _, _, _, _, _, _, _, z⟩ := h
  exact z
end Ed

set_option autoImplicit true
set_option Elab.async false
set_option linter.all false
set_option maxRecDepth 100000
set_option maxHeartbeats 4000000
set_option autoImplicit false
/-! small helpers for what gen2 prints -/
namespace L2
open PySem PySem.Spec PyProof.Rows PySem.W
theorem Room.units65 {k : Nat} {A : Around} (r : Room k A) : A.units + 65 < cLine := by have := r.un; omega
end L2
namespace Ed
open PySem L2
theorem takesW {X : Cx} : Takes X W0 := fun _ _ h => by
  obtain ⟨a, B, sI, pins, σ, H, cls, d, _, _, _, _, _, _, _, _, z⟩ := h
  exact z.elim
theorem tab_nil {P : Nat → Bool → Prop} : ∀ c k, tbl [] c = some k → P c k := fun c k h => by cases h
theorem tab_cons {P : Nat → Bool → Prop} {a : Nat} {b : Bool} {l : List (Nat × Bool)} (h : P a b) (t : ∀ c k, tbl l c = some k → P c k) : ∀ c k, tbl ((a, b) :: l) c = some k → P c k := fun c k e => by
  unfold tbl at e
  rw [List.lookup_cons] at e
  by_cases q : (c == a) = true
  · rw [q] at e
    cases e
    rw [beq_iff_eq.mp q]; exact h
  · rw [Bool.not_eq_true _ |>.mp q] at e
    exact t c k e
theorem mem_nil {P : Nat → Prop} : ∀ c, ([] : List Nat).contains c = true → P c := fun c h => by simp at h
theorem mem_cons {P : Nat → Prop} {a : Nat} {l : List Nat} (h : P a) (t : ∀ c, l.contains c = true → P c) : ∀ c, (a :: l).contains c = true → P c := fun c e => by
  rw [List.contains_cons, Bool.or_eq_true] at e
  rcases e with e | e
  · rw [beq_iff_eq.mp e]; exact h
  · exact t c e
theorem binds0 {K : PySem.W.Frag} {fd : FuncData} {ps : List Str} (h : ∃ ds, Vals [] ds ∧ Binds K fd ps ds) : Binds K fd ps [] := by
  obtain ⟨ds, r, b⟩ := h
  cases r
  exact b
theorem kit_self (K : PySem.W.Frag) (t : Value) : PySem.W.kitOne K t t = some true := if_pos (by simp)
theorem kit_other {K : PySem.W.Frag} {t : String} {C : Addr} {b : Option Bool} (h2 : PySem.W.isClsIn K C = true) (h3 : PySem.W.typeIn K (.ref C) = some (.type "type")) (h4 : PySem.W.subIn K (.type t) (.ref C) = b) : PySem.W.kitOne K (.type t) (.ref C) = b := by
  have e2 : ((PySem.W.clsIn K C).isSome && PySem.W.typeIn K (.ref C) == some (.type "type")) = true := by
    have h2' : (PySem.W.clsIn K C).isSome = true := h2
    rw [h2', h3]
    rfl
  unfold PySem.W.kitOne
  rw [show (Value.type t == Value.ref C) = false from beq_eq_false_iff_ne.mpr (by intro h; cases h)]
  show (if ((PySem.W.clsIn K C).isSome && PySem.W.typeIn K (.ref C) == some (.type "type")) = true then PySem.W.subIn K (.type t) (.ref C) else none) = b
  rw [if_pos e2, h4]
theorem kit_refTy {K : PySem.W.Frag} {t : String} {C : Addr} {b : Option Bool} (h4 : PySem.W.subIn K (.ref C) (.type t) = b) (hm : PySem.W.kitMeta t = true := by decide +kernel) : PySem.W.kitOne K (.ref C) (.type t) = b := by
  unfold PySem.W.kitOne
  rw [show (Value.ref C == Value.type t) = false from beq_eq_false_iff_ne.mpr (by intro h; cases h)]
  show (if PySem.W.kitMeta t = true then PySem.W.subIn K (.ref C) (.type t) else none) = b
  rw [if_pos hm, h4]
/-- two own classes: a subclass counts as itself -/
theorem kit_ownT {K : PySem.W.Frag} {D C : Addr} (h2 : PySem.W.isClsIn K C = true) (h3 : PySem.W.typeIn K (.ref C) = some (.type "type")) (h4 : PySem.W.subIn K (.ref D) (.ref C) = some true) : PySem.W.kitOne K (.ref D) (.ref C) = some true := by
  have e2 : ((PySem.W.clsIn K C).isSome && PySem.W.typeIn K (.ref C) == some (.type "type")) = true := by
    have h2' : (PySem.W.clsIn K C).isSome = true := h2
    rw [h2', h3]
    rfl
  unfold PySem.W.kitOne
  split
  · rfl
  · show (if ((PySem.W.clsIn K C).isSome && PySem.W.typeIn K (.ref C) == some (.type "type")) = true then PySem.W.subIn K (.ref D) (.ref C) else none) = _
    rw [if_pos e2, h4]
theorem kit_ownF {K : PySem.W.Frag} {D C : Addr} (h2 : PySem.W.isClsIn K C = true) (h3 : PySem.W.typeIn K (.ref C) = some (.type "type")) (h4 : PySem.W.subIn K (.ref D) (.ref C) = some false) (hne : PySem.W.subIn K (.ref C) (.ref C) = some true) : PySem.W.kitOne K (.ref D) (.ref C) = some false := by
  have e2 : ((PySem.W.clsIn K C).isSome && PySem.W.typeIn K (.ref C) == some (.type "type")) = true := by
    have h2' : (PySem.W.clsIn K C).isSome = true := h2
    rw [h2', h3]
    rfl
  unfold PySem.W.kitOne
  split
  · rename_i q
    have : D = C := Value.ref.inj (beq_iff_eq.mp q)
    rw [this, hne] at h4
    cases h4
  · show (if ((PySem.W.clsIn K C).isSome && PySem.W.typeIn K (.ref C) == some (.type "type")) = true then PySem.W.subIn K (.ref D) (.ref C) else none) = _
    rw [if_pos e2, h4]
section
variable {X : Cx} {cn : Cn} {W : WX} {a b c : Expr} {pos : Pos} {qa qb qc : QV}
theorem ty2_int (d : D) (k : Bool) (h : isT2 .tInt d = some k) : TyD X.K cn (.type "int") d k := by
  cases d <;> first | (cases h; exact kit_ty (by decide +kernel)) | cases h
theorem ty2_bool (d : D) (k : Bool) (h : isT2 .tBool d = some k) : TyD X.K cn (.type "bool") d k := by
  cases d <;> first | (cases h; exact kit_ty (by decide +kernel)) | cases h
theorem ty2_str (d : D) (k : Bool) (h : isT2 .tStr d = some k) : TyD X.K cn (.type "str") d k := by
  cases d <;> first | (cases h; exact kit_ty (by decide +kernel)) | cases h
theorem ty2_list (d : D) (k : Bool) (h : isT2 .tList d = some k) : TyD X.K cn (.type "list") d k := by
  cases d <;> first | (cases h; exact kit_ty (by decide +kernel)) | cases h
theorem ty2_tuple (d : D) (k : Bool) (h : isT2 .tTuple d = some k) : TyD X.K cn (.type "tuple") d k := by
  cases d <;> first | (cases h; exact kit_ty (by decide +kernel)) | cases h
theorem jt_chain {op op' : CmpOp} {r r' : R2} {f f' : D → D → Option D} (ho : OpR X (compareOp op) r) (h : R2D X.K cn r f) (hb : ∀ x y d, f x y = some d → ∃ k, d = .bl k) (ho' : OpR X (compareOp op') r') (h' : R2D X.K cn r' f') (h1 : JQ X cn W a qa) (h2 : JQ X cn W b qb) (h3 : JQ X cn W c qc)
    (hm : lastMarks [op, op'] [b, c] = false := by with_unfolding_all rfl) : JT X cn W (.Compare a [op, op'] [b, c] pos) (tE (eChain f f' qa qb qc)) := by
  obtain ⟨t1, p1, d1⟩ := h1
  obtain ⟨t2, p2, d2⟩ := h2
  obtain ⟨t3, p3, d3⟩ := h3
  refine ⟨_, pt_chain ho ho' p1 p2 p3 hm, fun C Γ σ F H Q R k => ?_⟩
  refine dchain h h' d1 d2 d3 hb C Γ σ F H _ R (k.bind.mono (fun p k v F' H' s r rv => ?_) fun _ _ z => z)
  obtain ⟨x, Γ1⟩ := p
  cases x with
  | bl z => cases rv; exact ⟨z, rfl, k F' H' s r⟩
  | _ => exact k.elim
end
end Ed

set_option autoImplicit true
set_option Elab.async false
set_option linter.all false
set_option maxRecDepth 100000
set_option maxHeartbeats 4000000
set_option autoImplicit false
/-! errors with fields -/
namespace Ed
open PySem L2
def spXv (C : Addr) (fl : List Str) : Sp := fun vs H Q E => ∃ a ws, vs = .ref a :: ws ∧ ws.length = fl.length ∧ H a = some (exo a C none) ∧
  ∀ d H', H d = none → d ≠ a → H' a = some (exo a C (some d)) → H' d = some (exd d ((fl.zip ws).reverse)) → (∀ b, b ≠ a → b ≠ d → H' b = H b) → Q .non H'
section
variable {K : PySem.W.Frag} {C a : Addr} {H : Hp} {Q : VK} {f1 f2 f3 : Str} {w1 w2 w3 : V}
theorem ost1 (T : OexC K C) (h1 : PySem.W.findIn K (.ref C) f1 = some none) (ha : H a = some (exo a C none))
    (k : ∀ d H', H d = none → d ≠ a → H' a = some (exo a C (some d)) → H' d = some (exd d [(f1, w1)]) → (∀ b, b ≠ a → b ≠ d → H' b = H b) → Q .non H') :
    tOst K f1 (tVar 0) (tVar 1) { nx := fun _ H' => Q .non H', rt := Q } [some (.ref a), some w1] H :=
  ⟨w1, rfl, .ref a, rfl, a, C, rfl, T, h1, .inl ⟨ha, fun dx hd hne => k dx _ hd hne upd_same (by rw [upd_ne hne, upd_same]) fun b e1 e2 => by rw [upd_ne e1, upd_ne e2]⟩⟩
theorem ost2 (T : OexC K C) (h1 : PySem.W.findIn K (.ref C) f1 = some none) (h2 : PySem.W.findIn K (.ref C) f2 = some none) (ha : H a = some (exo a C none))
    (k : ∀ d H', H d = none → d ≠ a → H' a = some (exo a C (some d)) → H' d = some (exd d [(f2, w2), (f1, w1)]) → (∀ b, b ≠ a → b ≠ d → H' b = H b) → Q .non H') :
    tOst K f1 (tVar 0) (tVar 1) { nx := tOst K f2 (tVar 0) (tVar 2) { nx := fun _ H' => Q .non H', rt := Q }, rt := Q } [some (.ref a), some w1, some w2] H :=
  ⟨w1, rfl, .ref a, rfl, a, C, rfl, T, h1, .inl ⟨ha, fun dx hd hne => ⟨w2, rfl, .ref a, rfl, a, C, rfl, T, h2, .inr ⟨dx, [(f1, w1)], upd_same, by rw [upd_ne hne, upd_same], by simp,
    k dx _ hd hne (by rw [upd_ne (Ne.symm hne), upd_same]) upd_same fun b e1 e2 => by rw [upd_ne e2, upd_ne e1, upd_ne e2]⟩⟩⟩⟩
theorem ost3 (T : OexC K C) (h1 : PySem.W.findIn K (.ref C) f1 = some none) (h2 : PySem.W.findIn K (.ref C) f2 = some none) (h3 : PySem.W.findIn K (.ref C) f3 = some none) (ha : H a = some (exo a C none))
    (k : ∀ d H', H d = none → d ≠ a → H' a = some (exo a C (some d)) → H' d = some (exd d [(f3, w3), (f2, w2), (f1, w1)]) → (∀ b, b ≠ a → b ≠ d → H' b = H b) → Q .non H') :
    tOst K f1 (tVar 0) (tVar 1) { nx := tOst K f2 (tVar 0) (tVar 2) { nx := tOst K f3 (tVar 0) (tVar 3) { nx := fun _ H' => Q .non H', rt := Q }, rt := Q }, rt := Q } [some (.ref a), some w1, some w2, some w3] H :=
  ⟨w1, rfl, .ref a, rfl, a, C, rfl, T, h1, .inl ⟨ha, fun dx hd hne => ⟨w2, rfl, .ref a, rfl, a, C, rfl, T, h2, .inr ⟨dx, [(f1, w1)], upd_same, by rw [upd_ne hne, upd_same], by simp,
    ⟨w3, rfl, .ref a, rfl, a, C, rfl, T, h3, .inr ⟨dx, [(f2, w2), (f1, w1)], by rw [upd_ne (Ne.symm hne), upd_same], upd_same, by simp,
      k dx _ hd hne (by rw [upd_ne (Ne.symm hne), upd_ne (Ne.symm hne), upd_same]) upd_same fun b e1 e2 => by rw [upd_ne e2, upd_ne e2, upd_ne e1, upd_ne e2]⟩⟩⟩⟩⟩⟩
end
section
variable {X : Cx} {cn : Cn} {W : WX} {e : Expr} {es : List Expr} {pos p : Pos} {lv : LV} {x : Str}
/-- the fields' codes, one by one -/
def Codes (cn : Cn) : List Nat → List Str → Prop
  | [], [] => True
  | c :: cs, f :: fs => cn.fa c = f ∧ f ∉ fs ∧ Codes cn cs fs
  | _, _ => False
theorem lookup_rev {β : Type} {f : Str} {v : β} : ∀ {l : List (Str × β)}, (f, v) ∈ l → (∀ v', (f, v') ∈ l → v' = v) → l.lookup f = some v
  | (g, u) :: l, h, h2 => by
    rw [List.lookup_cons]
    by_cases q : (f == g) = true
    · rw [q]
      have : f = g := by simpa using q
      subst this
      rw [h2 u (by simp)]
    · rw [Bool.not_eq_true _ |>.mp q]
      have : f ≠ g := fun z => q (by subst z; exact beq_self_eq_true f)
      rcases List.mem_cons.mp h with z | z
      · cases z; exact absurd rfl this
      · exact lookup_rev z fun v' hv => h2 v' (by simp [hv])
theorem codes_look {K : PySem.W.Frag} {F : Hp} (hinj : ∀ f g, cn.fa f = cn.fa g → cn.fa f ≠ "?" → f = g) : ∀ {cs : List Nat} {fl : List Str} {vs : List V} {ds : List D}, Codes cn cs fl → Reps K cn F vs ds → ds.length = fl.length →
    ∀ f z, (cs.zip ds).lookup f = some z → ∃ v, (cn.fa f, v) ∈ fl.zip vs ∧ Rep K cn F v z ∧ ∀ v', (cn.fa f, v') ∈ fl.zip vs → v' = v
  | [], [], vs, ds, _, _, _, f, z, h => by simp at h
  | c :: cs, g :: fl, vs, [], _, _, hl, f, z, h => by simp at hl
  | c :: cs, g :: fl, vs, d :: ds, hc, r, hl, f, z, h => by
    obtain ⟨v, vs', rfl, r1, r2⟩ := r.inv
    obtain ⟨e1, e2, e3⟩ := hc
    rw [List.zip_cons_cons, List.lookup_cons] at h
    by_cases q : (f == c) = true
    · rw [q] at h
      cases h
      have : f = c := by simpa using q
      subst this
      refine ⟨v, by rw [e1]; simp, r1, fun v' hv => ?_⟩
      rw [List.zip_cons_cons] at hv
      rcases List.mem_cons.mp hv with z | z
      · exact (Prod.mk.inj z).2
      · exact absurd (e1 ▸ (List.of_mem_zip z).1) e2
    · rw [Bool.not_eq_true _ |>.mp q] at h
      obtain ⟨u, h1, h2, h3⟩ := codes_look hinj e3 r2 (by simpa using hl) f z h
      refine ⟨u, by simp [h1], h2, fun v' hv => ?_⟩
      rw [List.zip_cons_cons] at hv
      rcases List.mem_cons.mp hv with w | w
      · exact absurd ((Prod.mk.inj w).1 ▸ (List.of_mem_zip h1).1) e2
      · exact h3 v' w
  | [], _ :: _, _, _, hc, _, _, _, _, _ => hc.elim
  | _ :: _, [], _, _, hc, _, _, _, _, _ => hc.elim
theorem js_raiseO {c : Nat} {cs : List Nat} {fl : List Str} {k : Nat} {fI : Addr} {fd : FuncData} {ps : List Str} {pos2 : Pos} (hc : X.calm = true) (tk : Takes X W) (hinj : ∀ f g, cn.fa f = cn.fa g → cn.fa f ≠ "?" → f = g) (hcs : Codes cn cs fl) (hne : cs ≠ []) (hl : fl.length ≤ 1000)
    (T : OexC X.K (cn.ca c)) (iC : PySem.W.findIn X.K (.ref (cn.ca c)) "__init__" = some (some (.ref fI))) (tI : PySem.W.typeIn X.K (.ref fI) = some (.type "function"))
    (F1 : FnOk X.prog X.w X.K X.mg X.base CX0 k fI fd ps (spXv (cn.ca c) fl)) (hr : Room (k + 1) X.A) (hb : Binds X.K fd ps []) (hg : Gl X x) (hm : X.mg x = some (.ref (cn.ca c))) (ha : JL X cn W (e :: es) lv)
    (hn : ∀ Γ ds Γ', lv Γ = .ok (ds, Γ') → ds.length = fl.length)
    (hdb : (x == ("__debug__" : Str)) = false := by decide) (he : starEach (e :: es) X.env = (false, eval e X.env) :: starEach es X.env := by rfl) (hpl : (backTo pos (starEach es X.env)).any (·.1) = false := by rfl) :
    JS X cn W (.Raise (some (.Call (.Name x p) (e :: es) [] pos)) none pos2) (sRaise c cs lv) := by
  obtain ⟨t, pa, d⟩ := ha
  refine ⟨_, ps_raise hc tk (pmk_oex T iC tI F1 hr hb .nil pass0 hg hm pa hdb he hpl), fun C Γ σ F H Dn R k => ?_⟩
  have k0 := k
  unfold sRaise at k
  refine d C Γ σ F H _ R ?_
  cases el : lv Γ with
  | bad => rw [el] at k; exact k.elim
  | exc y Γ1 => rw [el] at k; exact k
  | ok q =>
    obtain ⟨ds, Γ1⟩ := q
    rw [el] at k
    intro vs F1 H1 s1 R1 rv
    have hds := hn Γ ds Γ1 el
    have hvl : vs.length = fl.length := rv.1.trans hds
    refine ⟨by omega, fun a na => ⟨a, vs ++ [], rfl, by rw [List.append_nil]; exact hvl, upd_same, fun dd H' hd hda g1 g2 g3 => ⟨rfl, dd, _, g1, g2, ?_, ?_⟩⟩⟩
    · rw [upd_ne hda] at hd; exact hd
    · have hd1 : H1 dd = none := by rw [upd_ne hda] at hd; exact hd
      rw [List.append_nil] at g2
      have eH : upd (L2.del H' a) dd (.xd ((fl.zip vs).reverse)) = upd H1 dd (.xd ((fl.zip vs).reverse)) := by
        funext b
        by_cases z : b = dd
        · subst z; rw [upd_same, upd_same]
        · rw [upd_ne z, upd_ne z]
          by_cases y : b = a
          · subst y; rw [L2.del_same, na]
          · rw [L2.del_ne y, g3 b y z, upd_ne y]
      rw [List.append_nil, eH]
      have ex := Ext.new (o := HO.xd ((fl.zip vs).reverse)) R1.bs.fh hd1
      refine k _ _ σ _ _ (s1.trans ex.f) (R1.ext ex) ⟨rfl, .inr ⟨dd, _, rfl, upd_same, ?_, fun f z hz => ?_⟩⟩
      · cases cs with
        | nil => exact absurd rfl hne
        | cons c0 cs' => cases ds with
          | nil => cases fl with
            | nil => exact hcs.elim
            | cons _ _ => cases hds
          | cons _ _ => intro z; cases z
      · obtain ⟨v, h1, h2, h3⟩ := codes_look hinj hcs rv hds f z hz
        exact ⟨v, lookup_rev (List.mem_reverse.mpr h1) (fun v' hv => h3 v' (List.mem_reverse.mp hv)), h2.mono ex.f⟩
end
end Ed

set_option autoImplicit true
set_option Elab.async false
set_option linter.all false
set_option maxRecDepth 100000
set_option maxHeartbeats 4000000
set_option autoImplicit false
/-! isinstance of a caught error of an own class, with or without fields -/
namespace PySem.W
open PySem PySem.Spec PySem.Calls PyProof.Rows
section
variable {prog : Program} {w : World} {A : Around} {E : Value → Shared → Prop} {s : Shared} {K : Frag} {x D : Addr} {ox : Obj} {od : Option Obj}
theorem ed_findClass {C : Addr} {name : Str} {a g : Value} (hc : (clsIn K C).isSome = true) (ha : findIn K (.ref C) name = some (some a)) (hg : specialIn K a "__get__" = some (some g)) (ht : takesIn K a = some true) : findObj K C od name = some (.bind g a) := by
  obtain ⟨cd, hc⟩ := Option.isSome_iff_exists.mp hc
  unfold findObj
  rw [hc, Option.bind_some, ha, Option.bind_some]
  simp [hg, ht]
theorem ed_classE {Q : Option Value → Shared → Prop} (T : L2.ExcC K D) (X : K.In s.heap) (I : InstAt s.heap x ox D od) (h : Q (some (.ref D)) { s with toks := s.toks + 1 }) : wpAny (model prog w) A (getAttr? (.ref x) "__class__") Q E s := by
  have hf : findObj K D od "__class__" = some (.bind (.builtin "getset_descriptor.__get__") (.builtin "object.__class__")) := ed_findClass (by obtain ⟨cd, hc, _⟩ := any_some T.hd; rw [hc]; rfl) T.ha T.hn T.ht
  obtain ⟨hp, g, d, t, os⟩ := s
  have L0 := I.type (M := model prog w)
  have L1 := looks_findIn (M := model prog w) X T.hg
  have L2' := looks_findIn (M := model prog w) X T.hk
  have L3 := looks_find (M := model prog w) X I hf
  have sub : Looks (model prog w) hp (isInstance (.ref x) (.type "BaseException")) true := L0.andThen (looks_subIn X T.hs)
  have hx0 : (false && onTheHeap (Value.builtin "BaseException.__getattribute__")) = false := rfl
  have hx2 : (Value.builtin "BaseException.__getattribute__" == Value.builtin "object.__getattribute__") = false := by decide +kernel
  have hx1 : (onTheHeap (Value.ref D) && Value.builtin "BaseException.__getattribute__" == Value.builtin "object.__getattribute__") = false := by rw [hx2]; rfl
  unfold getAttr? getAttrBy? getAttrBy
  refine wpAny_bind (wpAny_mkText (wpAny_bind (wpAny_attempt (wpAny_holding (wpAny_bind (L0.at (wpAny_bind (L1.at ?_))))))))
  show wpAny _ _ (if (onTheHeap (Value.ref D) && Value.builtin "BaseException.__getattribute__" == Value.builtin "object.__getattribute__") = true then _ else _) _ _ _
  rw [hx1, if_neg Bool.false_ne_true]
  unfold getAttrByItsOwn hookBefore
  refine wpAny_bind ?_
  rw [if_pos (show onTheHeap (Value.ref D) = true from rfl)]
  refine L2'.at ?_
  refine wpAny_bind (wpAny_attempt (wpAny_holding ?_))
  unfold callGetattribute
  rw [hx0, if_neg Bool.false_ne_true]
  unfold boundAndCalled
  rw [PySem.F.excAttr_ValueError.ga.bind (.ref x)]
  refine wpAny_bind (wpAny_pure ?_)
  show wpAny _ _ (call (.builtin "BaseException.__getattribute__") [.ref x, .str "__class__" t]) _ _ _
  refine wpAny_call (codeAny_call_builtin PySem.F.excAttr_ValueError.ga.plain PySem.F.entry_bexc_ga ?_)
  refine @check_slot (model prog w) _ _ ⟨hp, g, d, t + 1, os⟩ "BaseException.__getattribute__" "BaseException" "__getattribute__" (.ref x) [.str "__class__" t] [] _ (by decide +kernel) (by decide +kernel) sub (PySem.F.args_bexc_ga (.ref x) (.str "__class__" t)) ?_
  unfold Builtin.«object.__getattribute__»
  refine wpAny_bind (wpAny_of_eq (a := ((Value.ref x : Value), [Value.str "__class__" t])) (by first | rfl | (simp only [slotArgs]; rfl)) ?_)
  refine wpAny_bind (wpAny_pure (wpAny_bind (L0.at (wpAny_bind (L3.at ?_)))))
  show wpAny _ _ (holding [Value.builtin "object.__class__"] (call (.builtin "getset_descriptor.__get__") [.builtin "object.__class__", .ref x, .ref D]) >>= ret) _ _ _
  refine wpAny_bind (wpAny_holding (wpAny_call (class_get (s := ⟨hp, g, d, t + 1, os⟩) (ox := ox) (od := od) X I T.hm ?_)))
  refine wpAny_pure ?_
  show wpAny _ _ (handedOut (.ref D)) _ _ _
  rw [handedOut_of (v := .ref D) rfl]
  first
    | exact wpAny_pure (wpAny_pure h)
    | exact wpAny_pure h
    | exact wpAny_pure (wpAny_bind (wpAny_pure (wpAny_pure h)))
theorem ed_kitx (T : L2.ExcC K D) : KitX K (.ref x) (.ref D) (fun h => InstAt h x ox D od) where
  ty := fun _ _ _ I => I.type
  it := fun _ _ X _ => by
    obtain ⟨cdD, hcD, _⟩ := any_some T.hd
    unfold clsIn at hcD
    split at hcD
    · rename_i c' d' cd' sl' ho
      intro A' Q' E' s' k q
      unfold isType loadHead
      exact wpAny_bind (wpAny_loadPart (k _ _ (X _ _ ho)) (wpAny_pure q))
    · cases hcD
  ne := fun h tp dd its n sl X htp => by
    obtain ⟨cdD, hcD, _⟩ := any_some T.hd
    refine Bool.eq_false_iff.mpr fun q => ?_
    have e : D = tp := Value.ref.inj (beq_iff_eq.mp q)
    subst e
    unfold clsIn at hcD
    split at hcD
    · rename_i c' d' cd' sl' ho
      have z := (X _ _ ho).symm.trans htp
      cases z
    · cases hcD
  ca := fun X I k => ed_classE T X I k
end
end PySem.W
namespace L2
open PySem PySem.Spec PyProof.Rows
/-- isinstance(e, c), e the suite's error; od its dict -/
def rIsED (K : PySem.W.Frag) (D a : Addr) (od : Option Addr) : List V → Hp → VK → Prop := fun xs H Q => ∃ (c : V) (cv : Value) (b : Bool), xs = [.ref a, c] ∧ (∀ u, RelV c u → u = cv) ∧ PySem.W.kitOne K (.ref D) cv = some b ∧ (∀ dd, od = some dd → ∃ fs, H dd = some (.xd fs)) ∧ Q (.bl b) H
theorem call_isED {X : Cx} {a D : Addr} {oe : Obj} {od : Option Addr} {pn : List (Addr × Obj)} (C : ExcC X.K D) (hz : Zc (.ref D) od oe) (hf : ∃ vs, oe.data = .fields vs) : CallR (X.suite a ((a, oe) :: pn)) (.builtin "isinstance") (rIsED X.K D a od) := by
  intro pins s σ H xs us Q I r h
  obtain ⟨c, cv, b, rfl, hcv, e, hd, q⟩ := h
  cases r with
  | cons rx rr =>
    cases rr with
    | cons rt rr =>
      cases rr
      cases rx
      have ec := hcv _ rt
      subst ec
      obtain ⟨hget, _⟩ := I.pin (a, oe) (List.mem_append.mpr (.inl List.mem_cons_self))
      obtain ⟨vs, hv⟩ := hf
      obtain ⟨odo, J⟩ : ∃ odo : Option Obj, PySem.W.InstAt s.heap a oe D odo := by
        cases od with
        | none =>
          refine ⟨none, hget, hz.1, by unfold PySem.W.notCls; rw [hv] <;> rfl, by rw [hz.2]; trivial⟩
        | some dd =>
          obtain ⟨fs, hxd⟩ := hd dd rfl
          have hx : ObjOk X.prog X.w H s.heap dd (.xd fs) := I.hok dd _ hxd
          obtain ⟨mA, hns, _⟩ := hx
          obtain ⟨oo, ho, _⟩ := lookIn_ns hns
          exact ⟨some oo, hget, hz.1, by unfold PySem.W.notCls; rw [hv] <;> rfl, by rw [hz.2]; exact ho⟩
      exact PySem.W.kia_one (PySem.W.ed_kitx C) I.kIn J e (fun z => nomatch z) fun tk => ⟨.bl b, H, I.kept (t' := tk) fun _ _ z => z, rfl, q⟩
end L2
namespace Ed
open PySem L2
section
variable {X : Cx} {cn : Cn} {W : WX} {pos : Pos}
/-- isinstance(err, D) in an except suite -/
theorem je_isED {i : Nat} {is : Nat → Option Bool} {a0 : Addr} {oe : Obj} {cls : Value} {od : Option Addr} {pn : List (Addr × Obj)} {m : Str} {b : Expr} {p p1 : Pos} {v : V} {u : Value} (hx0 : cn.ex = some (a0, cls, od)) (hz : Zc cls od oe) (hf : ∃ vs, oe.data = .fields vs)
    (hg : Gl X "isinstance") (hm : X.mg "isinstance" = none) (h2 : JC (X.suite a0 ((a0, oe) :: pn)) b v u)
    (T : ∀ c k, is c = some k → ExcC X.K (cn.ca c) ∧ PySem.W.kitOne X.K (.ref (cn.ca c)) u = some k)
    (hN : X.N[i]? = some m := by rfl) (hv : Vis X.env.scope m := by first | exact Or.inl rfl | exact Or.inr (Or.inl rfl) | exact Or.inr (Or.inr rfl)) (hd : (m == ("__debug__" : Str)) = false := by decide)
    (hcd : (m == ("__classdict__" : Str)) = false := by decide)
    (he : starEach [.Name m p1, b] X.env = (false, eval (.Name m p1) X.env) :: starEach [b] X.env := by rfl) (he2 : starEach [b] X.env = (false, eval b X.env) :: starEach [] X.env := by rfl) (hpl : (backTo pos (starEach [b] X.env)).any (·.1) = false := by rfl) :
    JE (X.suite a0 ((a0, oe) :: pn)) cn W (.Call (.Name "isinstance" p) [.Name m p1, b] [] pos) (eIsED i is) := by
  by_cases h : ∃ c k, is c = some k ∧ cls = .ref (cn.ca c)
  · obtain ⟨c, kk, hc, rfl⟩ := h
    obtain ⟨T1, T2⟩ := T c kk hc
    refine ⟨_, pe_callB (X := X.suite a0 ((a0, oe) :: pn)) (call_isED T1 hz hf) hg hm rfl (pa_cons (X := X.suite a0 ((a0, oe) :: pn)) (pe_var (X := X.suite a0 ((a0, oe) :: pn)) (i := i) (x := m) (pos := p1) hN hv hd hcd) (pa_cons (X := X.suite a0 ((a0, oe) :: pn)) h2.1 pa_nil he2) he) (by decide) (by decide) he hpl, fun C Γ σ F H Q R k => ?_⟩
    unfold eIsED at k
    cases g : get Γ i with
    | exn x =>
      rw [g] at k
      dsimp only at k
      cases el : is x.c with
      | none => rw [el] at k; exact k.elim
      | some d =>
        rw [el] at k
        obtain ⟨e1, rx⟩ := eX_at R g hx0
        refine ⟨_, e1, v, u, d, rfl, fun w r => h2.2.eq r, by rw [rx.1]; exact (T x.c d el).2, fun dd hdd => ?_, k (.bl d) F H (Same.refl _) R (.bl d)⟩
        rcases rx.2 with ⟨_, h0⟩ | ⟨d2, fvs, h1, h2, _⟩
        · rw [h0] at hdd; cases hdd
        · rw [h1] at hdd; cases hdd
          exact ⟨fvs, R.bs.fh _ _ h2⟩
    | _ => rw [g] at k; exact k.elim
  · refine ⟨fun _ _ _ => False, ⟨fun _ _ _ _ _ _ z => z.elim⟩, fun C Γ σ F H Q R k => ?_⟩
    unfold eIsED at k
    cases g : get Γ i with
    | exn x =>
      rw [g] at k
      dsimp only at k
      cases el : is x.c with
      | none => rw [el] at k; exact k.elim
      | some d =>
        obtain ⟨e1, rx⟩ := eX_at R g hx0
        exact h ⟨x.c, d, el, rx.1⟩
    | _ => rw [g] at k; exact k.elim
end
end Ed

set_option autoImplicit true
set_option Elab.async false
set_option linter.all false
set_option maxRecDepth 100000
set_option maxHeartbeats 4000000
set_option autoImplicit false
/-! methods of texts and lists; constants -/
namespace Ed
open PySem L2 ClX
section
variable {X : Cx} {cn : Cn} {W : WX} {e o : Expr} {es : List Expr} {pos apos cpos : Pos} {qa : QV} {av : AV}
/-- a method's reading is had from the data -/
def RMD (K : PySem.W.Frag) (cn : Cn) (r : V → List V → Hp → VK → Prop) (f : D → List D → Option D) : Prop := ∀ F H x vs dx ds d Q, Same F H → Shal K cn F H x dx → Paired (fun v d => Shal K cn F H v d) vs ds → f dx ds = some d → (∀ z F' H', Ext F H F' H' → Rep K cn F' z d → Q z H') → r x vs H Q
def RMN (K : PySem.W.Frag) (cn : Cn) (r : V → List V → Hp → VK → Prop) (f : D → List D → Option D) : Prop := ∀ F H x vs dx ds d Q, Same F H → Shal K cn F H x dx → Paired (fun v d => Shal K cn F H v d) vs ds → f dx ds = some d → (∀ p vs ds, d = .lst ds → H p = none → Reps K cn F vs ds → Q (.ref p) (upd H p (.lst vs))) → r x vs H Q
/-- which receiver the type's name stands for -/
def kindD (T : String) : D → Bool
  | .str _ => T == "str"
  | .lst _ => T == "list"
  | _ => false
theorem kind_ty {T : String} {F H : Hp} {x : V} {d : D} (h : kindD T d = true) (hx : Shal X.K cn F H x d) : tyV X.K T x H := by
  cases d with
  | str z => rw [hx.str]; exact eq_of_beq h
  | lst ds => obtain ⟨a, vs, rfl, ha, _⟩ := hx; exact .inl ⟨eq_of_beq h, _, SqL.of ha⟩
  | _ => cases h
theorem de_BM {t1 : TE} {t : TA} {T : String} {r : V → List V → Hp → VK → Prop} {f : D → List D → Option D} (h : RMD X.K cn r f) (h1 : DQ cn W X.K t1 qa) (h2 : DA cn W X.K t av) : DE cn W X.K (tBM X.K T r t1 t) (eBMT (kindD T) f qa av) := fun C Γ σ F H Q R k => by
  refine h1 C Γ σ F H _ R (k.bind.mono (fun p k v F' H' s1 R1 hv => ?_) fun _ _ z => z)
  cases e0 : rd p.2 p.1 with
  | none => simp only [e0] at k; exact k.elim
  | some d0 =>
    simp only [e0] at k
    by_cases hk : kindD T d0 = true
    · rw [if_pos hk] at k
      refine ⟨kind_ty hk (R1.rd e0 hv), ?_⟩
      refine h2 C p.2 σ F' H' _ R1 (k.bind.mono (fun q k ws F2 H2 s2 R2 hw => ?_) fun _ _ z => XW.up s1 z)
      cases e1 : rd q.2 p.1 with
      | none => simp only [e1] at k; exact k.elim
      | some d1 =>
        cases e2 : rds q.2 q.1 with
        | none => simp only [e1, e2] at k; exact k.elim
        | some ds =>
          simp only [e1, e2] at k
          obtain ⟨z, e3, k⟩ := k.bind.of
          exact h F2 H2 v ws d1 ds z Q R2.bs.fh (R2.rd e1 (hv.mono s2)) (rds_ok R2 e2 hw) e3 fun zv F3 H3 ex rz => k zv F3 H3 ((s1.trans s2).trans ex.f) (R2.ext ex) rz
    · rw [if_neg hk] at k; exact k.elim
theorem dn_BM {t1 : TE} {t : TA} {T : String} {r : V → List V → Hp → VK → Prop} {f : D → List D → Option D} (h : RMN X.K cn r f) (h1 : DQ cn W X.K t1 qa) (h2 : DA cn W X.K t av) (hf : ∀ x y z, f x y = some z → ∃ l, z = .lst l) : DN cn W X.K (tBM X.K T r t1 t) (eBMT (kindD T) f qa av) := fun C Γ σ F H Q R k => by
  refine h1 C Γ σ F H _ R (k.bind.mono (fun p k v F' H' s1 R1 hv => ?_) fun _ _ z => z)
  cases e0 : rd p.2 p.1 with
  | none => simp only [e0] at k; exact k.elim
  | some d0 =>
    simp only [e0] at k
    by_cases hk : kindD T d0 = true
    · rw [if_pos hk] at k
      refine ⟨kind_ty hk (R1.rd e0 hv), ?_⟩
      refine h2 C p.2 σ F' H' _ R1 (k.bind.mono (fun q k ws F2 H2 s2 R2 hw => ?_) fun _ _ z => XW.up s1 z)
      cases e1 : rd q.2 p.1 with
      | none => simp only [e1] at k; exact k.elim
      | some d1 =>
        cases e2 : rds q.2 q.1 with
        | none => simp only [e1, e2] at k; exact k.elim
        | some ds =>
          simp only [e1, e2] at k
          obtain ⟨z, e3, k⟩ := k.bind.of
          refine h F2 H2 v ws d1 ds z Q R2.bs.fh (R2.rd e1 (hv.mono s2)) (rds_ok R2 e2 hw) e3 fun a vs ds ez ha hr => ?_
          subst ez
          obtain ⟨r3, nw⟩ := NewR.laid R2 hr ha
          exact k (.ref a) F2 _ (s1.trans s2) r3 nw
    · rw [if_neg hk] at k; exact k.elim
theorem je_bm {T id : String} {name : Str} {r : V → List V → Hp → VK → Prop} {f : D → List D → Option D} (pa : PlainAttrs T) (slot : Slot T name id) (hty : typeOf (.builtin id) = pure (.type "method_descriptor")) (hm : MtR X id r) (h : RMD X.K cn r f) (ho : JQ X cn W o qa) (ha : JA X cn W (e :: es) av)
    (hbase : attributeBase o name X.env (eval o X.env) = eval o X.env := by rfl)
    (hfew : ((backTo cpos (starEach (e :: es) X.env)).all (fun x => !x.1) && (backToKw cpos (keywordEach [] X.env)).all (fun x => x.1.isSome)
      && decide ((e :: es).length + ([] : List Keyword).length + (if ([] : List Keyword).isEmpty then 0 else 1) < 30)) = true := by rfl)
    (hline : (apos.endLine == cpos.line) = true := by rfl) (hs : starEach (e :: es) X.env = (false, eval e X.env) :: starEach es X.env := by rfl) (hplain : (backTo cpos (starEach es X.env)).any (·.1) = false := by rfl) :
    JE X cn W (.Call (.Attribute o name apos) (e :: es) [] cpos) (eBMT (kindD T) f qa av) := by
  obtain ⟨t1, p1, d1⟩ := ho
  obtain ⟨t2, p2, d2⟩ := ha
  exact ⟨_, pe_bm pa slot hty hm p1 p2 hbase hfew hline hs hplain, de_BM h d1 d2⟩
theorem jn_bm {T id : String} {name : Str} {r : V → List V → Hp → VK → Prop} {f : D → List D → Option D} (pa : PlainAttrs T) (slot : Slot T name id) (hty : typeOf (.builtin id) = pure (.type "method_descriptor")) (hm : MtR X id r) (h : RMN X.K cn r f) (hf : ∀ x y z, f x y = some z → ∃ l, z = .lst l) (ho : JQ X cn W o qa) (ha : JA X cn W (e :: es) av)
    (hbase : attributeBase o name X.env (eval o X.env) = eval o X.env := by rfl)
    (hfew : ((backTo cpos (starEach (e :: es) X.env)).all (fun x => !x.1) && (backToKw cpos (keywordEach [] X.env)).all (fun x => x.1.isSome)
      && decide ((e :: es).length + ([] : List Keyword).length + (if ([] : List Keyword).isEmpty then 0 else 1) < 30)) = true := by rfl)
    (hline : (apos.endLine == cpos.line) = true := by rfl) (hs : starEach (e :: es) X.env = (false, eval e X.env) :: starEach es X.env := by rfl) (hplain : (backTo cpos (starEach es X.env)).any (·.1) = false := by rfl) :
    JN X cn W (.Call (.Attribute o name apos) (e :: es) [] cpos) (eBMT (kindD T) f qa av) := by
  obtain ⟨t1, p1, d1⟩ := ho
  obtain ⟨t2, p2, d2⟩ := ha
  exact ⟨_, pe_bm pa slot hty hm p1 p2 hbase hfew hline hs hplain, dn_BM h d1 d2 hf⟩
/-- C.f, a constant of a class -/
theorem je_cval {x : Str} {p : Pos} {C : Addr} {f : Str} {v : V} {u : Value} {d : D} {mc : Value} (hg : Gl X x) (hm : X.mg x = some (.ref C)) (R : CRead X.K C mc) (c : CVal X.K C mc f v u) (h : ∀ F, Rep X.K cn F v d) (hd : (x == ("__debug__" : Str)) = false := by decide)
    (hb : attributeBase (.Name x p) f X.env (eval (.Name x p) X.env) = eval (.Name x p) X.env := by rfl) : JE X cn W (.Attribute (.Name x p) f pos) (eC d) :=
  ⟨_, pe_cval (pe_glob (v := .ref C) hg hm rfl hd) hb, fun C' Γ σ F H Q R' k => ⟨C, mc, v, u, rfl, R, c, k v F H (Same.refl _) R' (h F)⟩⟩
end
end Ed

set_option autoImplicit true
set_option Elab.async false
set_option linter.all false
set_option maxRecDepth 100000
set_option maxHeartbeats 4000000
set_option autoImplicit false
/-! raise with fields: the lengths; the __init__ of such a class -/
namespace Ed
open PySem L2
def LenV (lv : LV) (n : Nat) : Prop := ∀ Γ ds Γ', lv Γ = .ok (ds, Γ') → ds.length = n
theorem len_nil : LenV lNil 0 := fun Γ ds Γ' h => by
  unfold lNil at h
  cases h; rfl
theorem len_cons {a : EV} {l : LV} {n : Nat} (h : LenV l n) : LenV (lCons a l) (n + 1) := fun Γ ds Γ' e => by
  unfold lCons at e
  cases ea : a Γ with
  | bad => rw [ea] at e; cases e
  | exc _ _ => rw [ea] at e; cases e
  | ok q =>
    rw [ea] at e
    obtain ⟨x, Γ1⟩ := q
    simp only [R.bind] at e
    cases el : l Γ1 with
    | bad => rw [el] at e; cases e
    | exc _ _ => rw [el] at e; cases e
    | ok q2 =>
      rw [el] at e
      obtain ⟨xs, Γ2⟩ := q2
      have := h _ _ _ el
      cases e
      simp [this]
section
variable {P : Program} {w : World} {K : PySem.W.Frag} {mg : Str → Option Value} {base : Heap}
theorem okX1 {C : Addr} {x qual f1 p1 : Str} {st : Stmt} {f : Addr} {fd : FuncData} {a b c pos : Pos} {nS nV : Str} (F : Fun K x qual st f fd) (S : FnScope ["self", p1] ["self", p1] (defScope st)) (T : OexC K C) (h1 : PySem.W.findIn K (.ref C) f1 = some none)
    (hb : defBody st = [.Assign [.Attribute (.Name "self" a) f1 b] (.Name p1 c) pos])
    (hk : ∀ (cdv : Value) (A : Around) (outer : List PySem.Env) (s : Shared) (H : Hp) (E : XK), ∃ t, PSs (cxOf CX0 P w K mg base ["self", p1] qual (defScope st) f cdv A outer s H E).nox (defBody st) t ∧ t = (fun D σ H => tOst K f1 (tVar 0) (tVar 1) D σ H)) :
    FnOk P w K mg base CX0 1 f fd ["self", p1] (spXv C [f1]) :=
  F.ok S (fun vs H Q E h => by obtain ⟨a, ws, rfl, hl, _⟩ := h; simpa using hl) fun cdv A outer s H vs Q E hr h => by
    obtain ⟨a, ws, rfl, hl, ha, k⟩ := h
    obtain ⟨t, pt, rfl⟩ := hk cdv A outer s H E
    match ws, hl with
    | [w1], _ => exact ⟨_, pt, ost1 T h1 ha k⟩
end
end Ed

set_option autoImplicit true
set_option Elab.async false
set_option linter.all false
set_option maxRecDepth 100000
set_option maxHeartbeats 4000000
set_option autoImplicit false
/-! o[i] by an own __getitem__; is of bools -/
namespace L2
open PySem PySem.Spec PyProof.Rows
section
variable {X : Cx} {W : WX} {C f : Addr} {sp : Sp} {k : Nat} {fd : FuncData} {ps : List Str} {ta tb : TE} {a b : Expr} {pos : Pos}
theorem pe_ownSub (hm : Meth X.K C "__getitem__" f) (hfn : PySem.W.fnIn X.K f = true) (F : FnOk X.prog X.w X.K X.mg X.base (L2.CX X.prog X.w) k f fd ps sp) (hr : Room (k + 1) X.A) (hb : Binds X.K fd ps []) (tk : Takes X W) (ha : PE X a ta) (hb2 : PE X b tb)
    (hsl : ∀ x i, subscripted b true (.ref x) i = runValue (.builtin "lifetime.subscript" ⟨[.ref x, i], []⟩) := by intro _ _; rfl) :
    PE X (.Subscript a b pos) (tOwnIx C sp W ta tb) := by
  refine ⟨fun pins s σ H Q I h => ?_⟩
  refine PyProof.Rows.Subscript_ (binT ha hb2 I h fun v u s2 x y H2 I2 rx ry q => ?_)
  obtain ⟨a, dx, fs, rfl, ha, q⟩ := q
  obtain rfl : v = Value.ref a := rx
  obtain ⟨m, F0⟩ := I2.fr
  obtain ⟨od, J⟩ := ins_atS I2 ha
  refine PySem.W.sub_K F0 I2.mod.kin J hm.at_ hfn hm.fn ?_ (hsl a u)
  exact runS F hr.in1 I2.env0.in1 hb tk I2 (us := [.ref a, u]) (vs := [.ref a, y]) (.cons rfl (.cons ry .nil)) q
end
end L2
namespace Ed
open PySem L2
section
variable {X : Cx} {cn : Cn} {W : WX} {c : Nat} {f : Addr} {Ff : FV} {k : Nat} {fd : FuncData} {ps : List Str} {ea eb : EV} {a b : Expr} {pos : Pos}
theorem je_ownIx (hm : Meth X.K (cn.ca c) "__getitem__" f) (hfn : PySem.W.fnIn X.K f = true) (F : FnOk X.prog X.w X.K X.mg X.base (L2.CX X.prog X.w) k f fd ps (spD X.K cn [false, false] Ff)) (hr : Room (k + 1) X.A) (hb : Binds X.K fd ps []) (tk : Takes X W) (ha : JE X cn W a ea) (hb2 : JE X cn W b eb)
    (hsl : ∀ x i, subscripted b true (.ref x) i = runValue (.builtin "lifetime.subscript" ⟨[.ref x, i], []⟩) := by intro _ _; rfl) :
    JE X cn W (.Subscript a b pos) (eOwnX c Ff ea eb) := by
  obtain ⟨t1, p1, d1⟩ := ha
  obtain ⟨t2, p2, d2⟩ := hb2
  refine ⟨_, pe_ownSub hm hfn F hr hb tk p1 p2 hsl, fun C Γ σ F0 H Q R k => ?_⟩
  refine d1 C Γ σ F0 H _ R (k.bind.mono (fun p k v F' H' s1 R1 hv => ?_) fun _ _ z => z)
  refine d2 C p.2 σ F' H' _ R1 (k.bind.mono (fun q k w F2 H2 s2 R2 hw => ?_) fun _ _ z => XW.up s1 z)
  obtain ⟨x1, Γ1⟩ := p
  obtain ⟨x2, Γ2⟩ := q
  cases x1 with
  | ins c1 fs1 =>
    dsimp only at k hv hw R2
    by_cases ec : c1 = c
    · rw [if_pos ec] at k
      have kk := k
      subst ec
      obtain ⟨a1, dx, fvs, ev, ha, _⟩ := insOf (hv.mono s2)
      exact ⟨a1, dx, fvs, ev, R2.bs.fh _ _ ha, call_ok (vs := [v, w]) (ps := [.pd (.ins _ fs1), .pd x2]) R2 ⟨hv.mono s2, hw, True.intro⟩ (kk.bind.mono (fun _ z => z) fun _ _ z => XW.up (s1.trans s2) z) fun o Γ3 v3 F3 H3 hP s3 R3 dv => dvn_e ((s1.trans s2).trans s3) R3 dv hP⟩
    · rw [if_neg ec] at k; exact k.elim
  | _ => exact k.elim
theorem r_isB {K : PySem.W.Frag} : R2D K cn (fun x y H Q => ∃ a b, x = V.bl a ∧ y = V.bl b ∧ Q (V.bl (decide (a = b))) H) dIsB := fun F H x y dx dy d Q s hx hy e k => by
  cases dx with
  | bl a => cases dy with
    | bl b =>
      cases e
      have ex : x = V.bl a := by cases (show Rep K cn F x _ from hx); rfl
      have ey : y = V.bl b := by cases (show Rep K cn F y _ from hy); rfl
      exact ⟨a, b, ex, ey, k _ F H (ext0 s) (.bl _)⟩
    | _ => cases e
  | _ => cases e
theorem r_notB {K : PySem.W.Frag} : R2D K cn (fun x y H Q => ∃ a b, x = V.bl a ∧ y = V.bl b ∧ Q (V.bl (!decide (a = b))) H) dNotB := fun F H x y dx dy d Q s hx hy e k => by
  cases dx with
  | bl a => cases dy with
    | bl b =>
      cases e
      have ex : x = V.bl a := by cases (show Rep K cn F x _ from hx); rfl
      have ey : y = V.bl b := by cases (show Rep K cn F y _ from hy); rfl
      exact ⟨a, b, ex, ey, k _ F H (ext0 s) (.bl _)⟩
    | _ => cases e
  | _ => cases e
end
end Ed

set_option autoImplicit true
set_option Elab.async false
set_option linter.all false
set_option maxRecDepth 100000
set_option maxHeartbeats 4000000
set_option autoImplicit false
/-! xs.index(y), s.index(t) -/
namespace Ed
open PySem L2
section
variable {X : Cx} {cn : Cn}
theorem idx_ok {F : Hp} {y : V} {dy : D} (h2 : flat dy = true) (q : Rep X.K cn F y dy) : ∀ {vs : List V} {ds : List D} {n : Nat}, Reps X.K cn F vs ds → ds.all flat = true → idxD dy ds = some n →
    ∃ z, vs[n]? = some z ∧ eqV z y = true ∧ ∀ (m : Nat) (z' : V), m < n → vs[m]? = some z' → eqV z' y = false
  | vs, [], n, r, hf, h => by cases h
  | vs, d :: ds, n, r, hf, h => by
    obtain ⟨v, vs', rfl, r1, r2⟩ := r.inv
    rw [List.all_cons, Bool.and_eq_true] at hf
    unfold idxD at h
    have e := flat_eqV h2 hf.1 q r1
    by_cases c : deq d dy = true
    · rw [if_pos c] at h
      cases h
      exact ⟨v, rfl, e.trans c, fun m _ hm _ => absurd hm (Nat.not_lt_zero m)⟩
    · rw [if_neg c] at h
      cases ei : idxD dy ds with
      | none => rw [ei] at h; cases h
      | some k =>
        rw [ei] at h
        cases h
        obtain ⟨z, a1, a2, a3⟩ := idx_ok h2 q r2 hf.2 ei
        refine ⟨z, by simpa using a1, a2, fun m z' hm hz => ?_⟩
        cases m with
        | zero => rw [List.getElem?_cons_zero] at hz; cases hz; rw [e]; simpa using c
        | succ m => exact a3 m z' (Nat.lt_of_succ_lt_succ hm) (by simpa using hz)
def rSIdx : V → List V → Hp → VK → Prop := fun x xs H Q => ∃ (a b : Str) (i : Nat) (rest : List Nat), x = V.str a ∧ xs = [V.str b] ∧ Builtin.Str.occurrences a b 0 a.length 1 = i :: rest ∧ Q (.int (i : Nat)) H
theorem pair1 {F H : Hp} {vs : List V} {d : D} (p : Paired (fun v d => Shal X.K cn F H v d) vs [d]) : ∃ v, vs = [v] ∧ Shal X.K cn F H v d := by
  cases p with
  | cons h t => cases t; exact ⟨_, rfl, h⟩
theorem rm_index : RMD X.K cn (rIndex X.K) dLIdx := fun F H x vs dx ds d Q s hx hp e k => by
  cases dx with
  | lst xs =>
    match ds, hp, e with
    | [dy], hp, e =>
      obtain ⟨v, rfl, hv⟩ := pair1 hp
      have e : (if flat dy && xs.all flat then (idxD dy xs).map fun n => D.int n else none) = some d := e
      split at e
      · rename_i h
        rw [Bool.and_eq_true] at h
        obtain ⟨a, ws, rfl, ha, q⟩ := hx
        cases ei : idxD dy xs with
        | none => rw [ei] at e; cases e
        | some n =>
          rw [ei] at e
          cases e
          have rv := flat_rep h.1 hv
          obtain ⟨z, a1, a2, a3⟩ := idx_ok h.1 rv q h.2 ei
          exact ⟨a, ws, v, n, z, rfl, rfl, SqL.of ha, flat_v h.1 rv, (flat_any h.1 rv xs ws h.2 q).1, a1, a2, a3, k _ F H (ext0 s) (.int _)⟩
      · cases e
    | [], hp, e => cases e
    | _ :: _ :: _, hp, e => cases e
  | _ => cases e
theorem rm_sindex : RMD X.K cn rSIdx dSIdx := fun F H x vs dx ds d Q s hx hp e k => by
  cases dx with
  | str a =>
    match ds, hp, e with
    | [.str b], hp, e =>
      obtain ⟨v, rfl, hv⟩ := pair1 hp
      have e : ((Builtin.Str.occurrences a b 0 a.length 1).head?.map fun n => D.int n) = some d := e
      have ev : v = V.str b := hv.str
      subst ev
      cases eo : Builtin.Str.occurrences a b 0 a.length 1 with
      | nil => rw [eo] at e; cases e
      | cons i rest =>
        rw [eo] at e
        cases e
        exact ⟨a, b, i, rest, hx.str, rfl, eo, k _ F H (ext0 s) (.int _)⟩
    | [], hp, e => cases e
    | .non :: _, hp, e => cases e
    | .bl _ :: _, hp, e => cases e
    | .int _ :: _, hp, e => cases e
    | .lst _ :: _, hp, e => cases e
    | .tup _ :: _, hp, e => cases e
    | .dct _ :: _, hp, e => cases e
    | .ins _ _ :: _, hp, e => cases e
    | .scr _ :: _, hp, e => cases e
    | .str _ :: _ :: _, hp, e => cases e
  | _ => cases e
end
end Ed

set_option autoImplicit true
set_option Elab.async false
set_option linter.all false
set_option maxRecDepth 100000
set_option maxHeartbeats 4000000
set_option autoImplicit false
/-! more operations -/
namespace Ed
open PySem L2
section
variable {X : Cx} {cn : Cn}
theorem r_band : R2D X.K cn (rI0 fun i j => .int (Builtin.bitAnd i j)) dBAnd := r2i0 fun dx dy d e => by
  cases dx <;> cases dy <;> first | (cases e; exact ⟨_, _, rfl, rfl, fun _ => .int _⟩) | cases e
theorem r_bor : R2D X.K cn (rI0 fun i j => .int (Builtin.bitOr i j)) dBOr := r2i0 fun dx dy d e => by
  cases dx <;> cases dy <;> first | (cases e; exact ⟨_, _, rfl, rfl, fun _ => .int _⟩) | cases e
/-- a tuple of the text, of numbers and texts -/
theorem tup_const {K : PySem.W.Frag} {a : Addr} {o : Obj} {its : List Value} {n : Nat} {vs : List V} {ds : List D} (h1 : K.lookup a = some o) (h2 : o.cls = .type "tuple") (h3 : o.data = .seq its.toArray n) (h4 : its.length ≤ 4096) (h5 : Vals vs its) (h6 : ∀ F, Reps K cn F vs ds) (F : Hp) : Rep K cn F (.ref a) (.tup ds) :=
  .tup (.inr ⟨o, its.toArray, n, h1, h2, h3, by rw [List.size_toArray, sizeLine_eq]; omega, by simpa using h5⟩) (h6 F).1 (h6 F).2
theorem je_tupc {W : WX} {x : Str} {p : Pos} {a : Addr} {ds : List D} (hg : Gl X x) (hm : X.mg x = some (.ref a)) (h : ∀ F, Rep X.K cn F (.ref a) (.tup ds)) (hd : (x == ("__debug__" : Str)) = false := by decide) : JE X cn W (.Name x p) (eC (.tup ds)) :=
  je_c (t := tC (.ref a)) (pe_glob (v := .ref a) hg hm rfl hd) h
end
end Ed

set_option autoImplicit true
set_option Elab.async false
set_option linter.all false
set_option maxRecDepth 100000
set_option maxHeartbeats 4000000
set_option autoImplicit false
/-! texts repeated; isinstance of a caught error and two classes; () as a default -/
namespace Ed
open PySem L2 PyProof.Rows
section
variable {X : Cx} {cn : Cn}
def rRepS : R2 := fun x y H Q => ∃ i n, x = .str i ∧ y = .int n ∧ -1000 ≤ n ∧ n ≤ 1000 ∧ i.length ≤ 1000 ∧ Q (.str (strRep i n.toNat)) H
theorem foldl_size (c : Array Nat) : ∀ (n : Nat) (a : Array Nat), ((List.replicate n c).foldl (· ++ ·) a).size = a.size + n * c.size
  | 0, a => by simp
  | n + 1, a => by rw [List.replicate_succ, List.foldl_cons, foldl_size c n, Array.size_append]; rw [Nat.succ_mul]; omega
theorem strRep_len (x : Str) (n : Nat) : (strRep x n).length = n * x.length := by
  have := foldl_size x.cps n #[]
  simpa [strRep, Str.length] using this
theorem strRep_one (x : Str) : strRep x 1 = x := by
  show (⟨(List.replicate 1 x.cps).foldl (· ++ ·) #[]⟩ : Str) = x
  simp
theorem strRep_zero (x : Str) : strRep x 0 = Str.empty := rfl
theorem strRep_nil {x : Str} (h : x.length = 0) (n : Nat) : strRep x n = x := by
  have h1 := strRep_len x n
  rw [h, Nat.mul_zero] at h1
  have e : ∀ y : Str, y.length = 0 → y = ⟨#[]⟩ := fun y hy => by
    obtain ⟨c⟩ := y
    have : c = #[] := Array.eq_empty_of_size_eq_zero hy
    rw [this]
  rw [e _ h1, e _ h]
theorem op_repS : OpR X (binaryOp .Mult) rRepS := by
  intro pins s σ H x y v u Q I rx ry h
  obtain ⟨i, n, rfl, rfl, h1, h2, h3, q⟩ := h
  obtain ⟨t, rfl⟩ := rx
  obtain ⟨t', rfl⟩ := ry
  have hl := strRep_len i n.toNat
  have hm : n.toNat * i.length ≤ 1000 * 1000 := Nat.mul_le_mul (by omega) h3
  refine P.mul_str ?_ (fun ha _ => ?_) (fun ha _ => ?_) ?_
  · rw [decide_eq_false (by omega), decide_eq_false (by omega)]; rfl
  · have hq : (1000 : Int) ≤ (2 ^ 63 - 1) / n := by
      rw [Int.le_ediv_iff_mul_le (by omega)]
      omega
    omega
  · unfold Builtin.Str.tooLong
    have hz : i.length * n.toNat ≤ 1000000 := by rw [Nat.mul_comm]; exact hm
    have : ¬ (i.length * n.toNat > sizeLine) := by rw [sizeLine_eq]; omega
    simp only [decide_eq_false this]
  · by_cases c : n < 1
    · rw [if_pos c]
      have e0 : n.toNat = 0 := by omega
      rw [e0] at q
      exact ⟨by decide, ⟨.str Str.empty, H, I.tok _, ⟨_, rfl⟩, q⟩⟩
    · rw [if_neg c]
      by_cases c2 : (n == 1 || i.length == 0) = true
      · rw [if_pos c2]
        have e : strRep i n.toNat = i := by
          rcases Bool.or_eq_true_iff.mp c2 with c2 | c2
          · have : n = 1 := by simpa using c2
            rw [this]; exact strRep_one i
          · exact strRep_nil (by simpa using c2) _
        rw [e] at q
        exact ⟨.str i, H, I, ⟨_, rfl⟩, q⟩
      · rw [if_neg c2]
        exact ⟨by rw [sizeLine_eq]; show (strRep i n.toNat).length ≤ _; rw [hl]; omega, ⟨.str (strRep i n.toNat), H, I.tok _, ⟨_, rfl⟩, q⟩⟩
theorem r_repS : R2D X.K cn rRepS dRepS := fun F H x y dx dy d Q s hx hy e k => by
  cases dx with
  | str i =>
    cases dy with
    | int n =>
      have e : (if -1000 ≤ n ∧ n ≤ 1000 ∧ i.length ≤ 1000 then some (D.str (strRep i n.toNat)) else none) = some d := e
      split at e
      · rename_i h; cases e; rw [hx.str, hy.int]; exact ⟨i, n, rfl, rfl, h.1, h.2.1, h.2.2, k _ F H (ext0 s) (.str _)⟩
      · cases e
    | _ => cases e
  | _ => cases e
theorem dfl_tup {K : PySem.W.Frag} {a : Addr} {ts : List D} (ht : ∀ (cn : Cn) F, Rep K cn F (.ref a) (.tup ts)) {ms : List Bool} {vs : List V} {ds : List D} {m : Bool} (h : ∀ F H, Same F H → ArgR K cn F H ms vs ds) : ∀ F H, Same F H → ArgR K cn F H (m :: ms) (.ref a :: vs) (.tup ts :: ds) := fun F H s => ⟨by cases m with | true => exact (ht cn F).shal s | false => exact ht cn F, h F H s⟩
end
end Ed

set_option autoImplicit true
set_option Elab.async false
set_option linter.all false
set_option maxRecDepth 100000
set_option maxHeartbeats 4000000
set_option autoImplicit false
/-! isinstance of a caught error and two classes -/
namespace L2
open PySem PySem.Spec PyProof.Rows
def rIsEDT (K : PySem.W.Frag) (D a : Addr) (od : Option Addr) : List V → Hp → VK → Prop := fun xs H Q => ∃ (tp : Addr) (cs : List V) (ws : List Value) (b : Bool), xs = [.ref a, .ref tp] ∧ H tp = some (.tup cs) ∧ Paired ClsV cs ws ∧ PySem.W.kitAny K (.ref D) ws = some b ∧ (∀ dd, od = some dd → ∃ fs, H dd = some (.xd fs)) ∧ Q (.bl b) H
theorem call_isEDT {X : Cx} {a D : Addr} {oe : Obj} {od : Option Addr} {pn : List (Addr × Obj)} (C : ExcC X.K D) (hz : Zc (.ref D) od oe) (hf : ∃ vs, oe.data = .fields vs) : CallR (X.suite a ((a, oe) :: pn)) (.builtin "isinstance") (rIsEDT X.K D a od) := by
  intro pins s σ H xs us Q I r h
  obtain ⟨tp, cs, ws, b, rfl, hT, k, e, hd, q⟩ := h
  cases r with
  | cons rx rr =>
    cases rr with
    | cons rt rr =>
      cases rr
      cases rx
      rename_i u2
      cases (show u2 = Value.ref tp from rt)
      obtain ⟨hget, _⟩ := I.pin (a, oe) (List.mem_append.mpr (.inl List.mem_cons_self))
      obtain ⟨vs, hv⟩ := hf
      obtain ⟨odo, J⟩ : ∃ odo : Option Obj, PySem.W.InstAt s.heap a oe D odo := by
        cases od with
        | none =>
          refine ⟨none, hget, hz.1, by unfold PySem.W.notCls; rw [hv] <;> rfl, by rw [hz.2]; trivial⟩
        | some dd =>
          obtain ⟨fs, hxd⟩ := hd dd rfl
          have hx : ObjOk X.prog X.w H s.heap dd (.xd fs) := I.hok dd _ hxd
          obtain ⟨mA, hns, _⟩ := hx
          obtain ⟨oo, ho, _⟩ := lookIn_ns hns
          exact ⟨some oo, hget, hz.1, by unfold PySem.W.notCls; rw [hv] <;> rfl, by rw [hz.2]; exact ho⟩
      obtain ⟨_, its, rv, o, h1, h2, n, h3⟩ := (show ObjOk X.prog X.w H s.heap tp (.tup cs) from I.hok tp _ hT)
      have e3 := ClsV.all k rv
      subst e3
      obtain ⟨oc, od2, dt, sl⟩ := o
      simp only at h2 h3
      subst h2 h3
      exact PySem.W.kia_tup (PySem.W.ed_kitx C) I.kIn J h1 e (fun z => nomatch z) fun tk => ⟨.bl b, H, I.kept (t' := tk) fun _ _ z => z, rfl, q⟩
end L2
namespace Ed
open PySem L2
theorem kit_any2 {K : PySem.W.Frag} {t u1 u2 : Value} {b1 b2 : Bool} (h1 : PySem.W.kitOne K t u1 = some b1) (h2 : PySem.W.kitOne K t u2 = some b2) : PySem.W.kitAny K t [u1, u2] = some (b1 || b2) := by
  refine kitAny_cons h1 (fun e => ?_) (fun e => by rw [e]; rfl)
  subst e
  refine kitAny_cons h2 (fun e => ?_) (fun e => by rw [e]; rfl)
  subst e
  rfl
section
variable {X : Cx} {cn : Cn} {W : WX} {pos : Pos}
/-- isinstance(err, (D, D2)) in an except suite -/
theorem je_isEDT {i : Nat} {is : Nat → Option Bool} {a0 : Addr} {oe : Obj} {cls : Value} {od : Option Addr} {pn : List (Addr × Obj)} {m : Str} {b1 b2 : Expr} {p p1 p2 : Pos} {x1} {v1 v2 : V} {u1 u2 : Value} (hx0 : cn.ex = some (a0, cls, od)) (hz : Zc cls od oe) (hf : ∃ vs, oe.data = .fields vs)
    (hg : Gl X "isinstance") (hm : X.mg "isinstance" = none) (h1 : JC (X.suite a0 ((a0, oe) :: pn)) b1 v1 u1) (h2 : JC (X.suite a0 ((a0, oe) :: pn)) b2 v2 u2)
    (T : ∀ c k, is c = some k → ExcC X.K (cn.ca c) ∧ PySem.W.kitAny X.K (.ref (cn.ca c)) [u1, u2] = some k)
    (hN : X.N[i]? = some m := by rfl) (hv : Vis X.env.scope m := by first | exact Or.inl rfl | exact Or.inr (Or.inl rfl) | exact Or.inr (Or.inr rfl)) (hd : (m == ("__debug__" : Str)) = false := by decide)
    (hcd : (m == ("__classdict__" : Str)) = false := by decide)
    (hq1 : starEach [b1, b2] X.env = (false, eval b1 X.env) :: starEach [b2] X.env := by rfl) (hq2 : starEach [b2] X.env = (false, eval b2 X.env) :: starEach [] X.env := by rfl)
    (he : starEach [.Name m p1, .Tuple [b1, b2] x1 p2] X.env = (false, eval (.Name m p1) X.env) :: starEach [.Tuple [b1, b2] x1 p2] X.env := by rfl) (he2 : starEach [.Tuple [b1, b2] x1 p2] X.env = (false, eval (.Tuple [b1, b2] x1 p2) X.env) :: starEach [] X.env := by rfl) (hpl : (backTo pos (starEach [.Tuple [b1, b2] x1 p2] X.env)).any (·.1) = false := by rfl) :
    JE (X.suite a0 ((a0, oe) :: pn)) cn W (.Call (.Name "isinstance" p) [.Name m p1, .Tuple [b1, b2] x1 p2] [] pos) (eIsED i is) := by
  by_cases h : ∃ c k, is c = some k ∧ cls = .ref (cn.ca c)
  · obtain ⟨c, kk, hc, rfl⟩ := h
    obtain ⟨T1, T2⟩ := T c kk hc
    have pt : PE (X.suite a0 ((a0, oe) :: pn)) (.Tuple [b1, b2] x1 p2) (tTup (tCons (tC v1) (tCons (tC v2) tNil))) := pe_tup (pa_cons (X := X.suite a0 ((a0, oe) :: pn)) h1.1 (pa_cons (X := X.suite a0 ((a0, oe) :: pn)) h2.1 pa_nil hq2) hq1)
    refine ⟨_, pe_callB (X := X.suite a0 ((a0, oe) :: pn)) (call_isEDT T1 hz hf) hg hm rfl (pa_cons (X := X.suite a0 ((a0, oe) :: pn)) (pe_var (X := X.suite a0 ((a0, oe) :: pn)) (i := i) (x := m) (pos := p1) hN hv hd hcd) (pa_cons (X := X.suite a0 ((a0, oe) :: pn)) pt pa_nil he2) he) (by decide) (by decide) he hpl, fun C Γ σ F H Q R k => ?_⟩
    unfold eIsED at k
    cases g : get Γ i with
    | exn x =>
      rw [g] at k
      dsimp only at k
      cases el : is x.c with
      | none => rw [el] at k; exact k.elim
      | some d =>
        rw [el] at k
        obtain ⟨e1, rx⟩ := eX_at R g hx0
        refine ⟨_, e1, by rw [sizeLine_eq]; show 2 ≤ 16777216; decide, fun tp htp => ?_⟩
        have ex := Ext.new0 (o := HO.tup [v1, v2]) R.bs.fh htp
        refine ⟨tp, [v1, v2], [u1, u2], d, rfl, upd_same, .cons h1.2 (.cons h2.2 .nil), by rw [rx.1]; exact (T x.c d el).2, fun dd hdd => ?_, k (.bl d) F _ (Same.refl _) (R.ext ex) (.bl d)⟩
        rcases rx.2 with ⟨_, h0⟩ | ⟨d2, fvs, q1, q2, _⟩
        · rw [h0] at hdd; cases hdd
        · rw [q1] at hdd; cases hdd
          exact ⟨fvs, ex.h _ _ (R.bs.fh _ _ q2)⟩
    | _ => rw [g] at k; exact k.elim
  · refine ⟨fun _ _ _ => False, ⟨fun _ _ _ _ _ _ z => z.elim⟩, fun C Γ σ F H Q R k => ?_⟩
    unfold eIsED at k
    cases g : get Γ i with
    | exn x =>
      rw [g] at k
      dsimp only at k
      cases el : is x.c with
      | none => rw [el] at k; exact k.elim
      | some d =>
        obtain ⟨e1, rx⟩ := eX_at R g hx0
        exact h ⟨x.c, d, el, rx.1⟩
    | _ => rw [g] at k; exact k.elim
end
end Ed

set_option autoImplicit true
set_option Elab.async false
set_option linter.all false
set_option maxRecDepth 100000
set_option maxHeartbeats 4000000
set_option autoImplicit false
/-! a walk over a text -/
namespace Ed
open PySem L2 PyProof.Rows
section
variable {X : Cx} {cn : Cn} {W : WX} {a : Expr} {qa : QV}
theorem itd_str {C : Ct} {F : Hp} (s : Str) : ItD X.K cn C F (Its s) (sgn s) := fun i F2 H2 sm b => by
  have hl : (sgn s).length = s.cps.size := by simp [sgn]
  refine ⟨fun d hd => ?_, fun hi => by
    show s.cps.size ≤ i
    rw [← hl]; exact hi⟩
  obtain ⟨hi, e⟩ := List.getElem?_eq_some_iff.mp hd
  have hi' : i < s.cps.size := by rw [← hl]; exact hi
  have e' : d = .str ⟨#[s.cps[i]]⟩ := by rw [← e]; simp [sgn]
  refine ⟨hi', fun x H3 y => ?_⟩
  obtain ⟨e1, c, hc, rfl⟩ := y
  subst e1
  have : c = s.cps[i] := by
    rw [Array.getElem?_eq_getElem hi'] at hc
    cases hc; rfl
  subst this
  rw [e']
  exact ⟨F2, Ext.refl b.fh, .str _⟩
theorem ji_str {tg : Expr} (ha : JQ X cn W a qa) : JI X cn W tg a (Ed.iSgn qa) := by
  obtain ⟨t, pe, d⟩ := ha
  refine ⟨_, pi_str pe, fun C Γ σ F H R RR k => ?_⟩
  refine d C Γ σ F H _ RR (k.bind.mono (fun p k v F' H' s1 R1 hv => ?_) fun _ _ z => z)
  obtain ⟨pv, Γ1⟩ := p
  dsimp only at k hv R1
  cases e1 : rd Γ1 pv with
  | none => simp only [e1] at k; exact k.elim
  | some d1 =>
    cases d1 with
    | str n =>
      simp only [e1] at k
      have sh := (R1.rd e1 hv).str
      subst sh
      exact ⟨n, rfl, k _ F' H' s1 R1 (itd_str n)⟩
    | _ => simp only [e1] at k; exact k.elim
end
end Ed

set_option autoImplicit true
set_option Elab.async false
set_option linter.all false
set_option maxRecDepth 100000
set_option maxHeartbeats 4000000
set_option autoImplicit false
/-! the sum of a tuple of numbers -/
namespace L2
open PySem PySem.Spec PyProof.Rows
section
variable {prog : Program} {w : World} {A : Around} {E : Value → Shared → Prop} {s : Shared} {l : Addr} {its : List Value} {ns : List Int} {Q : Value → Shared → Prop}
theorem ed_sum_tup (hh : A.handled = none) (hl : s.heap.IsTuple l its.toArray) (hi : IntsAre its ns)
    (h : ∀ h' tk t', (∀ b o, s.heap.get? b = some o → h'.get? b = some o) → Q (.int ns.sum t') { s with heap := h', toks := tk }) : wpAny (model prog w) A (call (.builtin "sum") [.ref l]) Q E s := by
  obtain ⟨xs, e⟩ := hi.allInts.items
  have hn : numsOf (intItems xs).toList = ns := by rw [← e]; exact hi.numsOf
  rw [nums_intItems] at hn
  rw [e] at hl
  have hlt : l < s.heap.objs.size := by obtain ⟨o, ho, _⟩ := hl; exact Heap.lt_size ho
  refine call_sum_walkG (wpAny_pyIter_tuple hl ?_)
  refine ⟨_, [_, l], [_], _, _, _, numAt xs, rfl, Walks.tuple (A := A.in1) hh _ l (Nat.ne_of_lt hlt) (intItems xs), ⟨⟨_, Heap.get?_push_size _ rfl, rfl, rfl⟩, hl.push _⟩, fun c hc => ?_, (fun _ _ => intItems_at), fun h' tk t' hk => ?_⟩
  · show c < (s.heap.push _).objs.size
    rw [Heap.size_push]
    rcases List.mem_cons.mp hc with rfl | hc
    · exact Nat.lt_succ_self _
    · rw [List.mem_singleton.mp hc]; exact Nat.lt_succ_of_lt hlt
  · have hold : ∀ c o, s.heap.get? c = some o → h'.get? c = some o := fun c o e => hk c o (by
      rw [List.mem_singleton]; exact Nat.ne_of_lt (Heap.lt_size e)) (Heap.get?_push_of_some _ e)
    have := h h' tk t' hold
    have e2 : preSum (numAt xs) (intItems xs).size = ns.sum := by
      rw [preSum_eq, List.take_of_length_le (by simp [intItems]), hn]
    rw [e2]; exact this
end
section
variable {X : Cx}
def rSumT (K : PySem.W.Frag) : List V → Hp → VK → Prop := fun vs H Q => ∃ (a : Addr) (ns : List Int), vs = [V.ref a] ∧ SqT K H a (ns.map V.int) ∧ Q (.int ns.sum) H
theorem cr_sumT (hc : X.calm = true) : CallR X (.builtin "sum") (rSumT X.K) := by
  intro pins s σ H vs us Q I r h
  obtain ⟨a, ns, rfl, hs, q⟩ := h
  obtain ⟨its, rv, hl, _⟩ := I.tuple hs
  rw [Vals.ref1 r]
  exact ed_sum_tup (I.ok.hd hc) hl rv.ints fun h' tk t' hk => ⟨.int _, H, I.kept hk, ⟨_, rfl⟩, q⟩
end
end L2
namespace Ed
open PySem L2
section
variable {X : Cx} {cn : Cn}
theorem r_sumT : RCD X.K cn (rSumT X.K) (o1 dSumT) := rc1 fun F H x dx d Q s hx e k => by
  cases dx with
  | tup xs =>
    have e : (intsL xs).map (fun ns => D.int ns.sum) = some d := e
    cases q : intsL xs with
    | none => rw [q] at e; cases e
    | some ns =>
      rw [q] at e; cases e
      obtain ⟨a, vs, rfl, h, r⟩ := hx.tup s
      rw [ints_ok xs vs ns q r] at h
      exact ⟨a, ns, rfl, h, k _ F H (ext0 s) (.int _)⟩
  | _ => cases e
end
end Ed

set_option autoImplicit true
set_option Elab.async false
set_option linter.all false
set_option maxRecDepth 100000
set_option exponentiation.threshold 10000
/-! running the data functions by rewriting: every rest of a run is a named function of what came -/
namespace Ed
open PySem
section
variable {α β : Type} {Γ Γ1 Γ' : Env} {a b c : QV} {e e1 e2 : EV} {t t1 t2 : TV} {av : AV} {lv : LV} {s s1 s2 : SV} {f f' : D → D → Option D} {f1 : D → Option D} {fl : List D → Option D} {i j n m : Nat} {d x y z : D} {F : FV} {ms : List Bool} {g : GV} {p q : PV} {ps qs : List PV} {ds es : List D} {k : Bool} {xc : Xc} {o : DV} {ct : Ctl} {l : List EV} {acc st : Str}
def kR (Γ : Env) : Option D → R (D × Env)
  | some d => .ok (d, Γ)
  | none => .bad
theorem kR_s : kR Γ (some d) = .ok (d, Γ) := rfl
theorem eC_ap : eC d Γ = .ok (d, Γ) := rfl
def kN (i : Nat) (Γ : Env) : Option (D × Sl) → R (D × Env)
  | some (d, s) => .ok (d, put Γ i s)
  | none => .bad
theorem eN_ap : eN i Γ = kN i Γ (frzS (get Γ i)) := by
  unfold eN
  cases frzS (get Γ i) <;> rfl
theorem kN_s {w : Sl} : kN i Γ (some (d, w)) = .ok (d, put Γ i w) := rfl
def kP (i : Nat) (Γ : Env) : Option D → R (PV × Env)
  | some _ => .ok (.pn i, Γ)
  | none => .bad
theorem pN_ap : pN i Γ = kP i Γ (look (get Γ i)) := by
  unfold pN
  cases look (get Γ i) <;> rfl
theorem kP_s : kP i Γ (some d) = .ok (.pn i, Γ) := rfl
def kpE  : R (D × Env) → R (PV × Env)
  | .ok (d, Γ) => .ok (.pd d, Γ)
  | .exc x Γ => .exc x Γ
  | .bad => .bad
theorem kpE_ok : kpE  (.ok (d, Γ)) = .ok (.pd d, Γ) := rfl
theorem kpE_ex : kpE  (.exc xc Γ) = .exc xc Γ := rfl
theorem pE_ap : pE e Γ = kpE (e Γ) := by unfold pE; cases e Γ <;> rfl
def kU2 (f : D → Option D) (Γ : Env) : Option D → R (D × Env)
  | some d => kR Γ (f d)
  | none => .bad
theorem kU2_s : kU2 f1 Γ (some x) = kR Γ (f1 x) := rfl
def kU (f1 : D → Option D) : R (PV × Env) → R (D × Env)
  | .ok (p, Γ) => kU2 f1 Γ (rd Γ p)
  | .exc x Γ => .exc x Γ
  | .bad => .bad
theorem kU_ok : kU f1 (.ok (p, Γ)) = kU2 f1 Γ (rd Γ p) := rfl
theorem kU_ex : kU f1 (.exc xc Γ) = .exc xc Γ := rfl
theorem eU_ap : eU f1 a Γ = kU f1 (a Γ) := by
  unfold eU
  cases a Γ with
  | ok r => obtain ⟨p, Γ'⟩ := r; show (match rd Γ' p with | some d => (R.of (f1 d)).bind fun z => .ok (z, Γ') | none => .bad) = kU2 f1 Γ' (rd Γ' p); cases rd Γ' p with
    | none => rfl
    | some d => show (R.of (f1 d)).bind _ = kR Γ' (f1 d); cases f1 d <;> rfl
  | exc x Γ => rfl
  | bad => rfl
def kB3 (f : D → D → Option D) (Γ : Env) : Option D → Option D → R (D × Env)
  | some d, some e => kR Γ (f d e)
  | _, _ => .bad
theorem kB3_s : kB3 f Γ (some x) (some y) = kR Γ (f x y) := rfl
def kB2 (f : D → D → Option D) (p : PV) : R (PV × Env) → R (D × Env)
  | .ok (q, Γ) => kB3 f Γ (rd Γ p) (rd Γ q)
  | .exc x Γ => .exc x Γ
  | .bad => .bad
theorem kB2_ok : kB2 f p (.ok (q, Γ)) = kB3 f Γ (rd Γ p) (rd Γ q) := rfl
theorem kB2_ex : kB2 f p (.exc xc Γ) = .exc xc Γ := rfl
def kB1 (f : D → D → Option D) (b : QV) : R (PV × Env) → R (D × Env)
  | .ok (p, Γ) => kB2 f p (b Γ)
  | .exc x Γ => .exc x Γ
  | .bad => .bad
theorem kB1_ok : kB1 f b (.ok (p, Γ)) = kB2 f p (b Γ) := rfl
theorem kB1_ex : kB1 f b (.exc xc Γ) = .exc xc Γ := rfl
theorem eB_ap : eB f a b Γ = kB1 f b (a Γ) := by
  unfold eB
  cases a Γ with
  | ok r =>
    obtain ⟨p, Γ1⟩ := r
    show (b Γ1).bind _ = kB2 f p (b Γ1)
    cases b Γ1 with
    | ok r =>
      obtain ⟨q, Γ2⟩ := r
      show (match rd Γ2 p, rd Γ2 q with | some d, some e => (R.of (f d e)).bind fun z => .ok (z, Γ2) | _, _ => .bad) = kB3 f Γ2 (rd Γ2 p) (rd Γ2 q)
      cases rd Γ2 p with
      | none => cases rd Γ2 q <;> rfl
      | some d => cases rd Γ2 q with
        | none => rfl
        | some e => show (R.of (f d e)).bind _ = kR Γ2 (f d e); cases f d e <;> rfl
    | exc x Γ => rfl
    | bad => rfl
  | exc x Γ => rfl
  | bad => rfl
def kF2 (f : List D → Option D) (Γ : Env) : Option (List D) → R (D × Env)
  | some d => kR Γ (f d)
  | none => .bad
theorem kF2_s : kF2 fl Γ (some ds) = kR Γ (fl ds) := rfl
def kF (fl : List D → Option D) : R (List PV × Env) → R (D × Env)
  | .ok (ps, Γ) => kF2 fl Γ (rds Γ ps)
  | .exc x Γ => .exc x Γ
  | .bad => .bad
theorem kF_ok : kF fl (.ok (ps, Γ)) = kF2 fl Γ (rds Γ ps) := rfl
theorem kF_ex : kF fl (.exc xc Γ) = .exc xc Γ := rfl
theorem eF_ap : eF fl av Γ = kF fl (av Γ) := by
  unfold eF
  cases av Γ with
  | ok r => obtain ⟨p, Γ'⟩ := r; show (match rds Γ' p with | some d => (R.of (fl d)).bind fun z => .ok (z, Γ') | none => .bad) = kF2 fl Γ' (rds Γ' p); cases rds Γ' p with
    | none => rfl
    | some d => show (R.of (fl d)).bind _ = kR Γ' (fl d); cases fl d <;> rfl
  | exc x Γ => rfl
  | bad => rfl
theorem aNil_ap : aNil Γ = .ok ([], Γ) := rfl
theorem lNil_ap : lNil Γ = .ok ([], Γ) := rfl
def kA2 (p : PV) : R (List PV × Env) → R (List PV × Env)
  | .ok (ps, Γ) => .ok (p :: ps, Γ)
  | .exc x Γ => .exc x Γ
  | .bad => .bad
theorem kA2_ok : kA2 p (.ok (ps, Γ)) = .ok (p :: ps, Γ) := rfl
theorem kA2_ex : kA2 p (.exc xc Γ) = .exc xc Γ := rfl
def kA1 (av : AV) : R (PV × Env) → R (List PV × Env)
  | .ok (p, Γ) => kA2 p (av Γ)
  | .exc x Γ => .exc x Γ
  | .bad => .bad
theorem kA1_ok : kA1 av (.ok (p, Γ)) = kA2 p (av Γ) := rfl
theorem kA1_ex : kA1 av (.exc xc Γ) = .exc xc Γ := rfl
theorem aCons_ap : aCons a av Γ = kA1 av (a Γ) := by
  unfold aCons
  cases a Γ with
  | ok r =>
    obtain ⟨p, Γ1⟩ := r
    show (av Γ1).bind _ = kA2 p (av Γ1)
    cases av Γ1 <;> rfl
  | exc x Γ => rfl
  | bad => rfl
def kL2 (d : D) : R (List D × Env) → R (List D × Env)
  | .ok (ds, Γ) => .ok (d :: ds, Γ)
  | .exc x Γ => .exc x Γ
  | .bad => .bad
theorem kL2_ok : kL2 d (.ok (ds, Γ)) = .ok (d :: ds, Γ) := rfl
theorem kL2_ex : kL2 d (.exc xc Γ) = .exc xc Γ := rfl
def kL1 (lv : LV) : R (D × Env) → R (List D × Env)
  | .ok (d, Γ) => kL2 d (lv Γ)
  | .exc x Γ => .exc x Γ
  | .bad => .bad
theorem kL1_ok : kL1 lv (.ok (d, Γ)) = kL2 d (lv Γ) := rfl
theorem kL1_ex : kL1 lv (.exc xc Γ) = .exc xc Γ := rfl
theorem lCons_ap : lCons e lv Γ = kL1 lv (e Γ) := by
  unfold lCons
  cases e Γ with
  | ok r =>
    obtain ⟨p, Γ1⟩ := r
    show (lv Γ1).bind _ = kL2 p (lv Γ1)
    cases lv Γ1 <;> rfl
  | exc x Γ => rfl
  | bad => rfl
def kSz (r : R (D × Env)) : Bool → R (D × Env)
  | true => r
  | false => .bad
theorem kSz_t : kSz (.ok (d, Γ)) true = .ok (d, Γ) := rfl
def kTp  : R (List D × Env) → R (D × Env)
  | .ok (ds, Γ) => kSz (.ok (.tup ds, Γ)) (decide (ds.length ≤ seqMax))
  | .exc x Γ => .exc x Γ
  | .bad => .bad
theorem kTp_ok : kTp  (.ok (ds, Γ)) = kSz (.ok (.tup ds, Γ)) (decide (ds.length ≤ seqMax)) := rfl
theorem kTp_ex : kTp  (.exc xc Γ) = .exc xc Γ := rfl
def kLs  : R (List D × Env) → R (D × Env)
  | .ok (ds, Γ) => kSz (.ok (.lst ds, Γ)) (decide (ds.length ≤ seqMax))
  | .exc x Γ => .exc x Γ
  | .bad => .bad
theorem kLs_ok : kLs  (.ok (ds, Γ)) = kSz (.ok (.lst ds, Γ)) (decide (ds.length ≤ seqMax)) := rfl
theorem kLs_ex : kLs  (.exc xc Γ) = .exc xc Γ := rfl
theorem eTup_ap : eTup lv Γ = kTp (lv Γ) := by
  unfold eTup
  cases lv Γ with
  | ok r => obtain ⟨ds, Γ1⟩ := r; show (if ds.length ≤ seqMax then _ else _) = kSz _ _; by_cases h : ds.length ≤ seqMax <;> simp [h, kSz]
  | exc x Γ => rfl
  | bad => rfl
theorem nLst_ap : nLst lv Γ = kLs (lv Γ) := by
  unfold nLst
  cases lv Γ with
  | ok r => obtain ⟨ds, Γ1⟩ := r; show (if ds.length ≤ seqMax then _ else _) = kSz _ _; by_cases h : ds.length ≤ seqMax <;> simp [h, kSz]
  | exc x Γ => rfl
  | bad => rfl
def kIf {α : Type} (a b : Env → R α) : R (Bool × Env) → R α
  | .ok (true, Γ) => a Γ
  | .ok (false, Γ) => b Γ
  | .exc x Γ => .exc x Γ
  | .bad => .bad
theorem kIf_t {u v : Env → R α} : kIf u v (.ok (true, Γ)) = u Γ := rfl
theorem kIf_f {u v : Env → R α} : kIf u v (.ok (false, Γ)) = v Γ := rfl
theorem kIf_ex {u v : Env → R α} : kIf u v (.exc xc Γ) = .exc xc Γ := rfl
def tC (k : Bool) : TV := fun Γ => .ok (k, Γ)
theorem tC_ap : tC k Γ = .ok (k, Γ) := rfl
theorem eAnd_ap : eAnd t1 t2 Γ = kIf (t2) (tC false) (t1 Γ) := by
  unfold eAnd
  cases t1 Γ with
  | ok r => obtain ⟨k, Γ1⟩ := r; cases k <;> rfl
  | exc x Γ => rfl
  | bad => rfl
theorem eOr_ap : eOr t1 t2 Γ = kIf (tC true) (t2) (t1 Γ) := by
  unfold eOr
  cases t1 Γ with
  | ok r => obtain ⟨k, Γ1⟩ := r; cases k <;> rfl
  | exc x Γ => rfl
  | bad => rfl
theorem eNot_ap : eNot t1 Γ = kIf (tC false) (tC true) (t1 Γ) := by
  unfold eNot
  cases t1 Γ with
  | ok r => obtain ⟨k, Γ1⟩ := r; cases k <;> rfl
  | exc x Γ => rfl
  | bad => rfl
theorem eIf_ap : eIf t1 e1 e2 Γ = kIf (e1) (e2) (t1 Γ) := by
  unfold eIf
  cases t1 Γ with
  | ok r => obtain ⟨k, Γ1⟩ := r; cases k <;> rfl
  | exc x Γ => rfl
  | bad => rfl
theorem sIf_ap : sIf t1 s1 s2 Γ = kIf (s1) (s2) (t1 Γ) := by
  unfold sIf
  cases t1 Γ with
  | ok r => obtain ⟨k, Γ1⟩ := r; cases k <;> rfl
  | exc x Γ => rfl
  | bad => rfl
def kE2 (Γ : Env) : D → R (Bool × Env)
  | .bl b => .ok (b, Γ)
  | _ => .bad
theorem kE2_b : kE2 Γ (.bl k) = .ok (k, Γ) := rfl
def kE  : R (D × Env) → R (Bool × Env)
  | .ok (d, Γ) => kE2 Γ d
  | .exc x Γ => .exc x Γ
  | .bad => .bad
theorem kE_ok : kE  (.ok (d, Γ)) = kE2 Γ d := rfl
theorem kE_ex : kE  (.exc xc Γ) = .exc xc Γ := rfl
theorem tE_ap : tE e Γ = kE (e Γ) := by
  unfold tE
  cases e Γ with
  | ok r => obtain ⟨d, Γ1⟩ := r; cases d <;> rfl
  | exc x Γ => rfl
  | bad => rfl
def kT3 (Γ : Env) : Option Bool → R (Bool × Env)
  | some d => .ok (d, Γ)
  | none => .bad
theorem kT3_s : kT3 Γ (some k) = .ok (k, Γ) := rfl
def kT2 (Γ : Env) : Option D → R (Bool × Env)
  | some d => kT3 Γ (truth d)
  | none => .bad
theorem kT2_s : kT2 Γ (some x) = kT3 Γ (truth x) := rfl
def kT  : R (PV × Env) → R (Bool × Env)
  | .ok (p, Γ) => kT2 Γ (rd Γ p)
  | .exc x Γ => .exc x Γ
  | .bad => .bad
theorem kT_ok : kT  (.ok (p, Γ)) = kT2 Γ (rd Γ p) := rfl
theorem kT_ex : kT  (.exc xc Γ) = .exc xc Γ := rfl
theorem tTru_ap : tTru a Γ = kT (a Γ) := by
  unfold tTru
  cases a Γ with
  | ok r => obtain ⟨p, Γ'⟩ := r; show (match rd Γ' p with | some d => (R.of (truth d)).bind fun z => .ok (z, Γ') | none => .bad) = kT2 Γ' (rd Γ' p); cases rd Γ' p with
    | none => rfl
    | some d => show (R.of (truth d)).bind _ = kT3 Γ' (truth d); cases truth d <;> rfl
  | exc x Γ => rfl
  | bad => rfl
theorem tru_int {k : Int} : truth (.int k) = some (k != 0) := rfl
theorem tru_bl {k : Bool} : truth (.bl k) = some k := rfl
theorem tru_lst {k : List D} : truth (.lst k) = some (!k.isEmpty) := rfl
theorem tru_tup {k : List D} : truth (.tup k) = some (!k.isEmpty) := rfl
theorem tru_non : truth .non = some false := rfl
theorem tYs_ap : tYs Γ = .ok (true, Γ) := rfl
def eCB (k : Bool) : EV := fun Γ => .ok (.bl k, Γ)
theorem eCB_ap : eCB k Γ = .ok (.bl k, Γ) := rfl
theorem eAndV_ap : eAndV e1 e2 Γ = kIf (e2) (eCB false) (kE (e1 Γ)) := by
  unfold eAndV
  cases e1 Γ with
  | ok r => obtain ⟨d, Γ1⟩ := r; cases d with
    | bl k => cases k <;> rfl
    | _ => rfl
  | exc x Γ => rfl
  | bad => rfl
theorem eOrV_ap : eOrV e1 e2 Γ = kIf (eCB true) (e2) (kE (e1 Γ)) := by
  unfold eOrV
  cases e1 Γ with
  | ok r => obtain ⟨d, Γ1⟩ := r; cases d with
    | bl k => cases k <;> rfl
    | _ => rfl
  | exc x Γ => rfl
  | bad => rfl
theorem eNotV_ap : eNotV e1 Γ = kIf (eCB false) (eCB true) (kE (e1 Γ)) := by
  unfold eNotV
  cases e1 Γ with
  | ok r => obtain ⟨d, Γ1⟩ := r; cases d with
    | bl k => cases k <;> rfl
    | _ => rfl
  | exc x Γ => rfl
  | bad => rfl
def kCh4 (f' : D → D → Option D) (Γ : Env) : Option D → Option D → R (D × Env)
  | some y, some z => kR Γ (f' y z)
  | _, _ => .bad
theorem kCh4_s : kCh4 f' Γ (some x) (some y) = kR Γ (f' x y) := rfl
def kCh3 (f' : D → D → Option D) (q : PV) : R (PV × Env) → R (D × Env)
  | .ok (p, Γ) => kCh4 f' Γ (rd Γ q) (rd Γ p)
  | .exc x Γ => .exc x Γ
  | .bad => .bad
theorem kCh3_ok : kCh3 f' q (.ok (p, Γ)) = kCh4 f' Γ (rd Γ q) (rd Γ p) := rfl
theorem kCh3_ex : kCh3 f' q (.exc xc Γ) = .exc xc Γ := rfl
def kCh2 (f' : D → D → Option D) (q : PV) (c : QV) (Γ : Env) : Option D → R (D × Env)
  | some (.bl true) => kCh3 f' q (c Γ)
  | some (.bl false) => .ok (.bl false, Γ)
  | _ => .bad
theorem kCh2_t : kCh2 f' q c Γ (some (.bl true)) = kCh3 f' q (c Γ) := rfl
theorem kCh2_f : kCh2 f' q c Γ (some (.bl false)) = .ok (.bl false, Γ) := rfl
def kCh1 (f f' : D → D → Option D) (q : PV) (c : QV) (Γ : Env) : Option D → Option D → R (D × Env)
  | some x, some y => kCh2 f' q c Γ (f x y)
  | _, _ => .bad
theorem kCh1_s : kCh1 f f' q c Γ (some x) (some y) = kCh2 f' q c Γ (f x y) := rfl
def kCh0 (f f' : D → D → Option D) (c : QV) (p : PV) : R (PV × Env) → R (D × Env)
  | .ok (q, Γ) => kCh1 f f' q c Γ (rd Γ p) (rd Γ q)
  | .exc x Γ => .exc x Γ
  | .bad => .bad
theorem kCh0_ok : kCh0 f f' c p (.ok (q, Γ)) = kCh1 f f' q c Γ (rd Γ p) (rd Γ q) := rfl
theorem kCh0_ex : kCh0 f f' c p (.exc xc Γ) = .exc xc Γ := rfl
def kCh (f f' : D → D → Option D) (b c : QV) : R (PV × Env) → R (D × Env)
  | .ok (p, Γ) => kCh0 f f' c p (b Γ)
  | .exc x Γ => .exc x Γ
  | .bad => .bad
theorem kCh_ok : kCh f f' b c (.ok (p, Γ)) = kCh0 f f' c p (b Γ) := rfl
theorem kCh_ex : kCh f f' b c (.exc xc Γ) = .exc xc Γ := rfl
theorem eChain_ap : eChain f f' a b c Γ = kCh f f' b c (a Γ) := by
  unfold eChain
  cases a Γ with
  | ok r =>
    obtain ⟨p, Γ1⟩ := r
    show (b Γ1).bind _ = kCh0 f f' c p (b Γ1)
    cases b Γ1 with
    | ok r =>
      obtain ⟨q, Γ2⟩ := r
      show (match rd Γ2 p, rd Γ2 q with | some x, some y => _ | _, _ => _) = kCh1 f f' q c Γ2 (rd Γ2 p) (rd Γ2 q)
      cases rd Γ2 p with
      | none => cases rd Γ2 q <;> rfl
      | some x => cases rd Γ2 q with
        | none => rfl
        | some y =>
          show (match f x y with | some (.bl true) => _ | some (.bl false) => _ | _ => _) = kCh2 f' q c Γ2 (f x y)
          cases f x y with
          | none => rfl
          | some d => cases d with
            | bl k => cases k with
              | false => rfl
              | true =>
                show (c Γ2).bind _ = kCh3 f' q (c Γ2)
                cases c Γ2 with
                | ok r =>
                  obtain ⟨u, Γ3⟩ := r
                  show (match rd Γ3 q, rd Γ3 u with | some y', some z => (R.of (f' y' z)).bind _ | _, _ => _) = kCh4 f' Γ3 (rd Γ3 q) (rd Γ3 u)
                  cases rd Γ3 q with
                  | none => cases rd Γ3 u <;> rfl
                  | some y' => cases rd Γ3 u with
                    | none => rfl
                    | some z => show (R.of (f' y' z)).bind _ = kR Γ3 (f' y' z); cases f' y' z <;> rfl
                | exc x Γ => rfl
                | bad => rfl
            | _ => rfl
    | exc x Γ => rfl
    | bad => rfl
  | exc x Γ => rfl
  | bad => rfl
def kC (Γ : Env) : R DV → R (DV × Env)
  | .ok o => .ok (o, Γ)
  | .exc x _ => .exc x Γ
  | .bad => .bad
def kCp (F : FV) : Option (List D × Env) → R (DV × Env)
  | some (ds, Γ) => kC Γ (F ds)
  | none => .bad
theorem callF_ap : callF F ms ps Γ = kCp F (prep Γ ms ps) := by
  unfold callF kCp
  cases prep Γ ms ps with
  | none => rfl
  | some p => obtain ⟨ds, Γ'⟩ := p; dsimp only; unfold kC; cases F ds <;> rfl
theorem kCp_s : kCp F (some (ds, Γ)) = kC Γ (F ds) := rfl
theorem kC_ok : kC Γ (.ok o) = .ok (o, Γ) := rfl
theorem kC_ex : kC Γ (.exc xc Γ') = .exc xc Γ := rfl
def kCd  : R (DV × Env) → R (D × Env)
  | .ok (o, Γ) => .ok (o.d, Γ)
  | .exc x Γ => .exc x Γ
  | .bad => .bad
theorem kCd_ok : kCd  (.ok (o, Γ)) = .ok (o.d, Γ) := rfl
theorem kCd_ex : kCd  (.exc xc Γ) = .exc xc Γ := rfl
def kFr2 (Γ : Env) : DV → R (D × Env)
  | .fr d => .ok (d, Γ)
  | .fz _ => .bad
theorem kFr2_r : kFr2 Γ (.fr d) = .ok (d, Γ) := rfl
def kFr  : R (DV × Env) → R (D × Env)
  | .ok (o, Γ) => kFr2 Γ o
  | .exc x Γ => .exc x Γ
  | .bad => .bad
theorem kFr_ok : kFr  (.ok (o, Γ)) = kFr2 Γ o := rfl
theorem kFr_ex : kFr  (.exc xc Γ) = .exc xc Γ := rfl
def kC1 (F : FV) (ms : List Bool) : R (List PV × Env) → R (D × Env)
  | .ok (ps, Γ) => kCd (callF F ms ps Γ)
  | .exc x Γ => .exc x Γ
  | .bad => .bad
theorem kC1_ok : kC1 F ms (.ok (ps, Γ)) = kCd (callF F ms ps Γ) := rfl
theorem kC1_ex : kC1 F ms (.exc xc Γ) = .exc xc Γ := rfl
theorem eCall_ap : eCall F ms av Γ = kC1 F ms (av Γ) := by
  unfold eCall
  cases av Γ with
  | ok r =>
    obtain ⟨ps, Γ1⟩ := r
    show (callF F ms ps Γ1).bind _ = kCd (callF F ms ps Γ1)
    cases callF F ms ps Γ1 with
    | ok r => obtain ⟨o, Γ2⟩ := r; cases o <;> rfl
    | exc x Γ => rfl
    | bad => rfl
  | exc x Γ => rfl
  | bad => rfl
def kC2 (F : FV) (ms : List Bool) : R (List PV × Env) → R (D × Env)
  | .ok (ps, Γ) => kFr (callF F ms ps Γ)
  | .exc x Γ => .exc x Γ
  | .bad => .bad
theorem kC2_ok : kC2 F ms (.ok (ps, Γ)) = kFr (callF F ms ps Γ) := rfl
theorem kC2_ex : kC2 F ms (.exc xc Γ) = .exc xc Γ := rfl
theorem nCall_ap : nCall F ms av Γ = kC2 F ms (av Γ) := by
  unfold nCall
  cases av Γ with
  | ok r =>
    obtain ⟨ps, Γ1⟩ := r
    show (callF F ms ps Γ1).bind _ = kFr (callF F ms ps Γ1)
    cases callF F ms ps Γ1 with
    | ok r => obtain ⟨o, Γ2⟩ := r; cases o <;> rfl
    | exc x Γ => rfl
    | bad => rfl
  | exc x Γ => rfl
  | bad => rfl
theorem dfz : (DV.fz d).d = d := rfl
theorem dfr : (DV.fr d).d = d := rfl
theorem prep0 : prep Γ [] [] = some ([], Γ) := rfl
def pK (d : D) : Option (List D × Env) → Option (List D × Env)
  | some (ds, Γ) => some (d :: ds, Γ)
  | none => none
theorem pK_s : pK d (some (ds, Γ)) = some (d :: ds, Γ) := rfl
theorem prep_d {m : Bool} : prep Γ (m :: ms) (.pd d :: ps) = pK d (prep Γ ms ps) := by
  show (match prep Γ ms ps with | some (ds, Γ') => some (d :: ds, Γ') | none => none) = _
  cases prep Γ ms ps <;> rfl
def pKt (r : Option (List D × Env)) : Option D → Option (List D × Env)
  | some d => pK d r
  | none => none
theorem prep_t : prep Γ (true :: ms) (.pn i :: ps) = pKt (prep Γ ms ps) (look (get Γ i)) := by
  rw [prep]
  simp only [if_true]
  cases look (get Γ i) <;> cases prep Γ ms ps <;> rfl
theorem pKt_s {r : Option (List D × Env)} : pKt r (some d) = pK d r := rfl
def pKf (Γ : Env) (i : Nat) (ms : List Bool) (ps : List PV) : Option (D × Sl) → Option (List D × Env)
  | some (d, s) => pK d (prep (put Γ i s) ms ps)
  | none => none
theorem prep_f : prep Γ (false :: ms) (.pn i :: ps) = pKf Γ i ms ps (frzS (get Γ i)) := by
  rw [prep]
  simp only [Bool.false_eq_true, if_false]
  cases frzS (get Γ i) with
  | none => rfl
  | some r => obtain ⟨d, s⟩ := r; show (match prep (put Γ i s) ms ps with | some (ds, Γ') => some (d :: ds, Γ') | none => none) = pK d (prep (put Γ i s) ms ps); cases prep (put Γ i s) ms ps <;> rfl
theorem pKf_s {w : Sl} : pKf Γ i ms ps (some (d, w)) = pK d (prep (put Γ i w) ms ps) := rfl
def kMk (c : Nat) : R (List (Nat × D)) → R DV
  | .ok fs => .ok (.fz (.ins c fs))
  | .exc x _ => .exc x []
  | .bad => .bad
theorem mkF_ap {Fi : List D → R (List (Nat × D))} : mkF n Fi ds = kMk n (Fi ds) := by unfold mkF kMk; cases Fi ds <;> rfl
theorem kMk_ok {fs : List (Nat × D)} : kMk n (.ok fs) = .ok (.fz (.ins n fs)) := rfl
theorem kMk_ex : kMk n (.exc xc Γ) = .exc xc [] := rfl
def kFl (n m : Nat) : R (D × Env) → R (D × Env)
  | .ok (d, Γ) => kR Γ (fld n m d)
  | .exc x Γ => .exc x Γ
  | .bad => .bad
theorem kFl_ok : kFl n m (.ok (d, Γ)) = kR Γ (fld n m d) := rfl
theorem kFl_ex : kFl n m (.exc xc Γ) = .exc xc Γ := rfl
theorem eFld_ap : eFld n m e Γ = kFl n m (e Γ) := by
  unfold eFld
  cases e Γ with
  | ok r => obtain ⟨d, Γ'⟩ := r; show (R.of (fld n m d)).bind _ = kR Γ' (fld n m d); cases fld n m d <;> rfl
  | exc x Γ => rfl
  | bad => rfl
theorem fld_s {fs : List (Nat × D)} : fld n m (.ins n fs) = fs.lookup m := if_pos rfl
def kO2 (c : Nat) (F : FV) (Γ : Env) : D → D → R (D × Env)
  | .ins c1 a, .ins c2 b => if c1 = c ∧ c2 = c then kCd (callF F [false, false] [.pd (.ins c1 a), .pd (.ins c2 b)] Γ) else .bad
  | _, _ => .bad
theorem kO2_s {u v : List (Nat × D)} : kO2 n F Γ (.ins n u) (.ins n v) = kCd (callF F [false, false] [.pd (.ins n u), .pd (.ins n v)] Γ) := if_pos ⟨rfl, rfl⟩
def kO1 (n : Nat) (F : FV) (x : D) : R (D × Env) → R (D × Env)
  | .ok (y, Γ) => kO2 n F Γ x y
  | .exc x Γ => .exc x Γ
  | .bad => .bad
theorem kO1_ok : kO1 n F x (.ok (y, Γ)) = kO2 n F Γ x y := rfl
theorem kO1_ex : kO1 n F x (.exc xc Γ) = .exc xc Γ := rfl
def kO0 (n : Nat) (F : FV) (e2 : EV) : R (D × Env) → R (D × Env)
  | .ok (x, Γ) => kO1 n F x (e2 Γ)
  | .exc x Γ => .exc x Γ
  | .bad => .bad
theorem kO0_ok : kO0 n F e2 (.ok (x, Γ)) = kO1 n F x (e2 Γ) := rfl
theorem kO0_ex : kO0 n F e2 (.exc xc Γ) = .exc xc Γ := rfl
theorem bind_cd (r : R (DV × Env)) : (r.bind fun (o, Γ3) => R.ok (o.d, Γ3)) = kCd r := by
  cases r with
  | ok p => rfl
  | exc x Γ => rfl
  | bad => rfl
theorem eOwn2_ap : eOwn2 n F e1 e2 Γ = kO0 n F e2 (e1 Γ) := by
  unfold eOwn2
  cases e1 Γ with
  | ok r =>
    obtain ⟨x, Γ1⟩ := r
    show (e2 Γ1).bind _ = kO1 n F x (e2 Γ1)
    cases e2 Γ1 with
    | ok r =>
      obtain ⟨y, Γ2⟩ := r
      cases x with
      | ins c1 u => cases y with
        | ins c2 v =>
          show (if c1 = n ∧ c2 = n then (callF F [false, false] [.pd (.ins c1 u), .pd (.ins c2 v)] Γ2).bind _ else _) = (if c1 = n ∧ c2 = n then kCd _ else _)
          by_cases h : c1 = n ∧ c2 = n
          · rw [if_pos h, if_pos h, ← bind_cd]
          · rw [if_neg h, if_neg h]
        | _ => rfl
      | _ => rfl
    | exc x Γ => rfl
    | bad => rfl
  | exc x Γ => rfl
  | bad => rfl
def kOC3 (k : D → Bool) (Γ : Env) : DV → R (D × Env)
  | .fz d => kSz (.ok (d, Γ)) (k d)
  | .fr _ => .bad
theorem kOC3_s {kk : D → Bool} : kOC3 kk Γ (.fz d) = kSz (.ok (d, Γ)) (kk d) := rfl
def kOC2 (kk : D → Bool) : R (DV × Env) → R (D × Env)
  | .ok (o, Γ) => kOC3 kk Γ o
  | .exc x Γ => .exc x Γ
  | .bad => .bad
theorem kOC2_ok {kk : D → Bool} : kOC2 kk (.ok (o, Γ)) = kOC3 kk Γ o := rfl
theorem kOC2_ex {kk : D → Bool} : kOC2 kk (.exc xc Γ) = .exc xc Γ := rfl
def kOC1 (c : Nat) (kk : D → Bool) (F : FV) (Γ : Env) : D → R (D × Env)
  | .ins c1 a => if c1 = c then kOC2 kk (callF F [false] [.pd (.ins c1 a)] Γ) else .bad
  | _ => .bad
theorem kOC1_s {kk : D → Bool} {u : List (Nat × D)} : kOC1 n kk F Γ (.ins n u) = kOC2 kk (callF F [false] [.pd (.ins n u)] Γ) := if_pos rfl
def kOC0 (n : Nat) (kk : D → Bool) (F : FV) : R (D × Env) → R (D × Env)
  | .ok (x, Γ) => kOC1 n kk F Γ x
  | .exc x Γ => .exc x Γ
  | .bad => .bad
theorem kOC0_ok {kk : D → Bool} : kOC0 n kk F (.ok (x, Γ)) = kOC1 n kk F Γ x := rfl
theorem kOC0_ex {kk : D → Bool} : kOC0 n kk F (.exc xc Γ) = .exc xc Γ := rfl
theorem eOwnC_ap {kk : D → Bool} : eOwnC n kk F e Γ = kOC0 n kk F (e Γ) := by
  unfold eOwnC
  cases e Γ with
  | ok r =>
    obtain ⟨x, Γ1⟩ := r
    cases x with
    | ins c1 u =>
      show (if c1 = n then (callF F [false] [.pd (.ins c1 u)] Γ1).bind _ else _) = (if c1 = n then kOC2 kk (callF F [false] [.pd (.ins c1 u)] Γ1) else _)
      by_cases h : c1 = n
      · rw [if_pos h, if_pos h]
        cases callF F [false] [.pd (.ins c1 u)] Γ1 with
        | ok r =>
          obtain ⟨o, Γ2⟩ := r
          cases o with
          | fz d => show (if kk d = true then _ else _) = kSz _ (kk d); cases kk d <;> rfl
          | fr d => rfl
        | exc x Γ => rfl
        | bad => rfl
      · rw [if_neg h, if_neg h]
    | _ => rfl
  | exc x Γ => rfl
  | bad => rfl
def kM2 (F : FV) (ms : List Bool) (d : D) : R (List PV × Env) → R (D × Env)
  | .ok (ps, Γ) => kCd (callF F (false :: ms) (.pd d :: ps) Γ)
  | .exc x Γ => .exc x Γ
  | .bad => .bad
theorem kM2_ok : kM2 F ms d (.ok (ps, Γ)) = kCd (callF F (false :: ms) (.pd d :: ps) Γ) := rfl
theorem kM2_ex : kM2 F ms d (.exc xc Γ) = .exc xc Γ := rfl
def kM1 (c : Nat) (F : FV) (ms : List Bool) (av : AV) (Γ : Env) : D → R (D × Env)
  | .ins c1 a => if c1 = c then kM2 F ms (.ins c1 a) (av Γ) else .bad
  | _ => .bad
theorem kM1_s {u : List (Nat × D)} : kM1 n F ms av Γ (.ins n u) = kM2 F ms (.ins n u) (av Γ) := if_pos rfl
def kM0 (n : Nat) (F : FV) (ms : List Bool) (av : AV) : R (D × Env) → R (D × Env)
  | .ok (x, Γ) => kM1 n F ms av Γ x
  | .exc x Γ => .exc x Γ
  | .bad => .bad
theorem kM0_ok : kM0 n F ms av (.ok (x, Γ)) = kM1 n F ms av Γ x := rfl
theorem kM0_ex : kM0 n F ms av (.exc xc Γ) = .exc xc Γ := rfl
theorem eMeth_ap : eMeth n F ms e av Γ = kM0 n F ms av (e Γ) := by
  unfold eMeth
  cases e Γ with
  | ok r =>
    obtain ⟨x, Γ1⟩ := r
    cases x with
    | ins c1 u =>
      show (if c1 = n then (av Γ1).bind _ else _) = (if c1 = n then kM2 F ms (.ins c1 u) (av Γ1) else _)
      by_cases h : c1 = n
      · rw [if_pos h, if_pos h]
        cases av Γ1 with
        | ok r => obtain ⟨ps, Γ2⟩ := r; exact bind_cd _
        | exc x Γ => rfl
        | bad => rfl
      · rw [if_neg h, if_neg h]
    | _ => rfl
  | exc x Γ => rfl
  | bad => rfl
theorem eJs_nil : eJs [] acc Γ = .ok (.str acc, Γ) := rfl
def kJz (r : Env → R (D × Env)) (Γ : Env) : Bool → R (D × Env)
  | true => r Γ
  | false => .bad
theorem kJz_t {r : Env → R (D × Env)} : kJz r Γ true = r Γ := rfl
def kJ2 (l : List EV) (acc : Str) (Γ : Env) : D → R (D × Env)
  | .str y => kJz (eJs l (acc ++ y)) Γ (decide ((acc ++ y).length ≤ seqMax))
  | _ => .bad
theorem kJ2_s : kJ2 l acc Γ (.str st) = kJz (eJs l (acc ++ st)) Γ (decide ((acc ++ st).length ≤ seqMax)) := rfl
def kJ (l : List EV) (acc : Str) : R (D × Env) → R (D × Env)
  | .ok (d, Γ) => kJ2 l acc Γ d
  | .exc x Γ => .exc x Γ
  | .bad => .bad
theorem kJ_ok : kJ l acc (.ok (d, Γ)) = kJ2 l acc Γ d := rfl
theorem kJ_ex : kJ l acc (.exc xc Γ) = .exc xc Γ := rfl
theorem eJs_cons : eJs (e :: l) acc Γ = kJ l acc (e Γ) := by
  rw [eJs]
  cases e Γ with
  | ok r =>
    obtain ⟨d, Γ1⟩ := r
    cases d with
    | str y => show (if (acc ++ y).length ≤ seqMax then _ else _) = kJz _ _ _; by_cases h : (acc ++ y).length ≤ seqMax <;> simp [h, kJz]
    | _ => rfl
  | exc x Γ => rfl
  | bad => rfl
def kSl4 (f : D → Option Int → Option Int → Option D) (lo hi : Option Int) (Γ : Env) : Option D → R (D × Env)
  | some d => kR Γ (f d lo hi)
  | none => .bad
theorem kSl4_s {fs : D → Option Int → Option Int → Option D} {lo hi : Option Int} : kSl4 fs lo hi Γ (some d) = kR Γ (fs d lo hi) := rfl
def kSl3 (f : D → Option Int → Option Int → Option D) (p : PV) (lo : Option Int) : R (Option Int × Env) → R (D × Env)
  | .ok (hi, Γ) => kSl4 f lo hi Γ (rd Γ p)
  | .exc x Γ => .exc x Γ
  | .bad => .bad
theorem kSl3_s {fs : D → Option Int → Option Int → Option D} {lo hi : Option Int} : kSl3 fs p lo (.ok (hi, Γ)) = kSl4 fs lo hi Γ (rd Γ p) := rfl
def kSl2 (f : D → Option Int → Option Int → Option D) (p : PV) (oh : Option QV) : R (Option Int × Env) → R (D × Env)
  | .ok (lo, Γ) => kSl3 f p lo (oPart oh Γ)
  | .exc x Γ => .exc x Γ
  | .bad => .bad
theorem kSl2_s {fs : D → Option Int → Option Int → Option D} {lo : Option Int} {oh : Option QV} : kSl2 fs p oh (.ok (lo, Γ)) = kSl3 fs p lo (oPart oh Γ) := rfl
def kSl1 (f : D → Option Int → Option Int → Option D) (ol oh : Option QV) : R (PV × Env) → R (D × Env)
  | .ok (p, Γ) => kSl2 f p oh (oPart ol Γ)
  | .exc x Γ => .exc x Γ
  | .bad => .bad
theorem kSl1_s {fs : D → Option Int → Option Int → Option D} {ol oh : Option QV} : kSl1 fs ol oh (.ok (p, Γ)) = kSl2 fs p oh (oPart ol Γ) := rfl
theorem eSl_ap {fs : D → Option Int → Option Int → Option D} {ol oh : Option QV} : eSl fs a ol oh Γ = kSl1 fs ol oh (a Γ) := by
  unfold eSl
  cases a Γ with
  | ok r =>
    obtain ⟨p, Γ1⟩ := r
    show (oPart ol Γ1).bind _ = kSl2 fs p oh (oPart ol Γ1)
    cases oPart ol Γ1 with
    | ok r =>
      obtain ⟨lo, Γ2⟩ := r
      show (oPart oh Γ2).bind _ = kSl3 fs p lo (oPart oh Γ2)
      cases oPart oh Γ2 with
      | ok r =>
        obtain ⟨hi, Γ3⟩ := r
        show (match rd Γ3 p with | some d => (R.of (fs d lo hi)).bind _ | none => _) = kSl4 fs lo hi Γ3 (rd Γ3 p)
        cases rd Γ3 p with
        | none => rfl
        | some d => show (R.of (fs d lo hi)).bind _ = kR Γ3 (fs d lo hi); cases fs d lo hi <;> rfl
      | exc x Γ => rfl
      | bad => rfl
    | exc x Γ => rfl
    | bad => rfl
  | exc x Γ => rfl
  | bad => rfl
theorem oP_n : oPart none Γ = .ok (none, Γ) := rfl
def kOp2 (Γ : Env) : Option D → R (Option Int × Env)
  | some (.int i) => .ok (some i, Γ)
  | _ => .bad
theorem kOp2_s {v : Int} : kOp2 Γ (some (.int v)) = .ok (some v, Γ) := rfl
def kOp : R (PV × Env) → R (Option Int × Env)
  | .ok (p, Γ) => kOp2 Γ (rd Γ p)
  | .exc x Γ => .exc x Γ
  | .bad => .bad
theorem kOp_s : kOp (.ok (p, Γ)) = kOp2 Γ (rd Γ p) := rfl
theorem oP_s : oPart (some a) Γ = kOp (a Γ) := by
  show (a Γ).bind _ = kOp (a Γ)
  cases a Γ with
  | ok r => obtain ⟨p, Γ1⟩ := r; show (match rd Γ1 p with | some (.int i) => _ | _ => _) = kOp2 Γ1 (rd Γ1 p); cases rd Γ1 p with
    | none => rfl
    | some d => cases d <;> rfl
  | exc x Γ => rfl
  | bad => rfl
def kLc2 (Γ : Env) (vs : List Nat) : Option (List D × Env) → R (D × Env)
  | some (l, Γ2) => .ok (.lst l, restG Γ Γ2 vs)
  | none => .bad
theorem kLc2_s {vs : List Nat} : kLc2 Γ vs (some (ds, Γ1)) = .ok (.lst ds, restG Γ Γ1 vs) := rfl
def kLc1 (vs : List Nat) (g : GV) (t : TV) (e : EV) (ds : List D) (Γ : Env) : Bool → R (D × Env)
  | true => kLc2 Γ vs (lcL g t e vs ds (wipeG Γ vs) 0)
  | false => .bad
theorem kLc1_t {vs : List Nat} : kLc1 vs g t e ds Γ true = kLc2 Γ vs (lcL g t e vs ds (wipeG Γ vs) 0) := rfl
def kLc (vs : List Nat) (g : GV) (t : TV) (e : EV) : R (List D × Env) → R (D × Env)
  | .ok (ds, Γ) => kLc1 vs g t e ds Γ (vs.all fun i => stb (get Γ i))
  | .exc x Γ => .exc x Γ
  | .bad => .bad
theorem kLc_ok {vs : List Nat} : kLc vs g t e (.ok (ds, Γ)) = kLc1 vs g t e ds Γ (vs.all fun i => stb (get Γ i)) := rfl
theorem eLc_ap {vs : List Nat} : eLc vs lv g t e Γ = kLc vs g t e (lv Γ) := by
  unfold eLc
  cases lv Γ with
  | ok r =>
    obtain ⟨ds, Γ1⟩ := r
    show (if (vs.all fun i => stb (get Γ1 i)) = true then _ else _) = kLc1 vs g t e ds Γ1 (vs.all fun i => stb (get Γ1 i))
    cases vs.all fun i => stb (get Γ1 i) with
    | false => rfl
    | true => show (match lcL g t e vs ds (wipeG Γ1 vs) 0 with | some (l, Γ2) => _ | none => _) = kLc2 Γ1 vs _; cases lcL g t e vs ds (wipeG Γ1 vs) 0 <;> rfl
  | exc x Γ => rfl
  | bad => rfl
def kIs2 (Γ : Env) : Option (List D) → R (List D × Env)
  | some ds => .ok (ds, Γ)
  | none => .bad
theorem kIs2_s : kIs2 Γ (some ds) = .ok (ds, Γ) := rfl
def kIs : R (D × Env) → R (List D × Env)
  | .ok (d, Γ) => kIs2 Γ (items d)
  | .exc x Γ => .exc x Γ
  | .bad => .bad
theorem kIs_ok : kIs (.ok (d, Γ)) = kIs2 Γ (items d) := rfl
theorem iSeq_ap : iSeq e Γ = kIs (e Γ) := by
  unfold iSeq
  cases e Γ with
  | ok r => obtain ⟨d, Γ1⟩ := r; show (R.of (items d)).bind _ = kIs2 Γ1 (items d); cases items d <;> rfl
  | exc x Γ => rfl
  | bad => rfl
theorem it_l : items (.lst ds) = some ds := rfl
theorem it_t : items (.tup ds) = some ds := rfl
def kIn (i : Nat) (Γ : Env) : Option (D × Sl) → R (List D × Env)
  | some (d, s) => kIs2 (put Γ i s) (items d)
  | none => .bad
theorem kIn_s {w : Sl} : kIn i Γ (some (d, w)) = kIs2 (put Γ i w) (items d) := rfl
theorem iN_ap : iN i Γ = kIn i Γ (stay (get Γ i)) := by
  unfold iN
  cases stay (get Γ i) with
  | none => rfl
  | some r => obtain ⟨d, s⟩ := r; show (R.of (items d)).bind _ = kIs2 _ (items d); cases items d <;> rfl
def kRg2 (Γ : Env) : Option D → R (List D × Env)
  | some (.int n) => if rngB n then .ok (rngL 0 n.toNat, Γ) else .bad
  | _ => .bad
theorem kRg2_s {v : Int} (h : rngB v = true) : kRg2 Γ (some (.int v)) = .ok (rngL 0 v.toNat, Γ) := if_pos h
def kRg : R (PV × Env) → R (List D × Env)
  | .ok (p, Γ) => kRg2 Γ (rd Γ p)
  | .exc x Γ => .exc x Γ
  | .bad => .bad
theorem kRg_ok : kRg (.ok (p, Γ)) = kRg2 Γ (rd Γ p) := rfl
theorem iRg1_ap : iRg1 a Γ = kRg (a Γ) := by
  unfold iRg1
  cases a Γ with
  | ok r => obtain ⟨p, Γ1⟩ := r; show (match rd Γ1 p with | some (.int n) => _ | _ => _) = kRg2 Γ1 (rd Γ1 p); cases rd Γ1 p with
    | none => rfl
    | some d => cases d <;> rfl
  | exc x Γ => rfl
  | bad => rfl
def kRh3 (Γ : Env) : Option D → Option D → R (List D × Env)
  | some (.int m), some (.int n) => if rngB m && rngB n then .ok (rngL m (n - m).toNat, Γ) else .bad
  | _, _ => .bad
theorem kRh3_s {u v : Int} (h : (rngB u && rngB v) = true) : kRh3 Γ (some (.int u)) (some (.int v)) = .ok (rngL u (v - u).toNat, Γ) := if_pos h
def kRh2 (p : PV) : R (PV × Env) → R (List D × Env)
  | .ok (q, Γ) => kRh3 Γ (rd Γ p) (rd Γ q)
  | .exc x Γ => .exc x Γ
  | .bad => .bad
theorem kRh2_ok : kRh2 p (.ok (q, Γ)) = kRh3 Γ (rd Γ p) (rd Γ q) := rfl
def kRh1 (b : QV) : R (PV × Env) → R (List D × Env)
  | .ok (p, Γ) => kRh2 p (b Γ)
  | .exc x Γ => .exc x Γ
  | .bad => .bad
theorem kRh1_ok : kRh1 b (.ok (p, Γ)) = kRh2 p (b Γ) := rfl
theorem iRg2_ap : iRg2 a b Γ = kRh1 b (a Γ) := by
  unfold iRg2
  cases a Γ with
  | ok r =>
    obtain ⟨p, Γ1⟩ := r
    show (b Γ1).bind _ = kRh2 p (b Γ1)
    cases b Γ1 with
    | ok r =>
      obtain ⟨q, Γ2⟩ := r
      show (match rd Γ2 p, rd Γ2 q with | some (.int m), some (.int n) => _ | _, _ => _) = kRh3 Γ2 (rd Γ2 p) (rd Γ2 q)
      cases rd Γ2 p with
      | none => cases rd Γ2 q <;> rfl
      | some d => cases rd Γ2 q with
        | none => cases d <;> rfl
        | some d2 => cases d <;> cases d2 <;> rfl
    | exc x Γ => rfl
    | bad => rfl
  | exc x Γ => rfl
  | bad => rfl
theorem sNext_ap : sNext Γ = .ok (.nx, Γ) := rfl
theorem sBrk_ap : sBrk Γ = .ok (.brk, Γ) := rfl
theorem sCnt_ap : sCnt Γ = .ok (.cnt, Γ) := rfl
theorem sRetN_ap : sRetN Γ = .ok (.ret (.fz .non), Γ) := rfl
def kS (s : SV) : R (Ctl × Env) → R (Ctl × Env)
  | .ok (.nx, Γ) => s Γ
  | .ok (c, Γ) => .ok (c, Γ)
  | .exc x Γ => .exc x Γ
  | .bad => .bad
theorem kS_nx : kS s (.ok (.nx, Γ)) = s Γ := rfl
theorem kS_rt : kS s (.ok (.ret o, Γ)) = .ok (.ret o, Γ) := rfl
theorem kS_bk : kS s (.ok (.brk, Γ)) = .ok (.brk, Γ) := rfl
theorem kS_ct : kS s (.ok (.cnt, Γ)) = .ok (.cnt, Γ) := rfl
theorem kS_ex : kS s (.exc xc Γ) = .exc xc Γ := rfl
theorem sSeq_ap : sSeq s1 s2 Γ = kS s2 (s1 Γ) := by
  unfold sSeq
  cases s1 Γ with
  | ok r => obtain ⟨c, Γ1⟩ := r; cases c <;> rfl
  | exc x Γ => rfl
  | bad => rfl
def kSet (i : Nat) : R (D × Env) → R (Ctl × Env)
  | .ok (d, Γ) => .ok (.nx, put Γ i (.val d))
  | .exc x Γ => .exc x Γ
  | .bad => .bad
theorem kSet_ok : kSet i (.ok (d, Γ)) = .ok (.nx, put Γ i (.val d)) := rfl
theorem kSet_ex : kSet i (.exc xc Γ) = .exc xc Γ := rfl
theorem sSet_ap : sSet i e Γ = kSet i (e Γ) := by
  unfold sSet
  cases e Γ <;> rfl
def kOwn (i : Nat) : R (D × Env) → R (Ctl × Env)
  | .ok (d, Γ) => .ok (.nx, put Γ i (.own d))
  | .exc x Γ => .exc x Γ
  | .bad => .bad
theorem kOwn_ok : kOwn i (.ok (d, Γ)) = .ok (.nx, put Γ i (.own d)) := rfl
theorem kOwn_ex : kOwn i (.exc xc Γ) = .exc xc Γ := rfl
theorem sOwn_ap : sOwn i e Γ = kOwn i (e Γ) := by
  unfold sOwn
  cases e Γ <;> rfl
def kDrp  : R (D × Env) → R (Ctl × Env)
  | .ok (d, Γ) => .ok (.nx, Γ)
  | .exc x Γ => .exc x Γ
  | .bad => .bad
theorem kDrp_ok : kDrp  (.ok (d, Γ)) = .ok (.nx, Γ) := rfl
theorem kDrp_ex : kDrp  (.exc xc Γ) = .exc xc Γ := rfl
theorem sDrop_ap : sDrop  e Γ = kDrp  (e Γ) := by
  unfold sDrop
  cases e Γ <;> rfl
def kRet  : R (D × Env) → R (Ctl × Env)
  | .ok (d, Γ) => .ok (.ret (.fz d), Γ)
  | .exc x Γ => .exc x Γ
  | .bad => .bad
theorem kRet_ok : kRet  (.ok (d, Γ)) = .ok (.ret (.fz d), Γ) := rfl
theorem kRet_ex : kRet  (.exc xc Γ) = .exc xc Γ := rfl
theorem sRet_ap : sRet  e Γ = kRet  (e Γ) := by
  unfold sRet
  cases e Γ <;> rfl
def kReO  : R (D × Env) → R (Ctl × Env)
  | .ok (d, Γ) => .ok (.ret (.fr d), Γ)
  | .exc x Γ => .exc x Γ
  | .bad => .bad
theorem kReO_ok : kReO  (.ok (d, Γ)) = .ok (.ret (.fr d), Γ) := rfl
theorem kReO_ex : kReO  (.exc xc Γ) = .exc xc Γ := rfl
theorem sRetO_ap : sRetO  e Γ = kReO  (e Γ) := by
  unfold sRetO
  cases e Γ <;> rfl
def kRx (Γ : Env) : Sl → R (Ctl × Env)
  | .own d => .ok (.ret (.fr d), Γ)
  | .val d => .ok (.ret (.fz d), Γ)
  | _ => .bad
theorem sRetX_ap : sRetX i Γ = kRx Γ (get Γ i) := by unfold sRetX kRx; cases get Γ i <;> rfl
theorem kRx_o : kRx Γ (.own d) = .ok (.ret (.fr d), Γ) := rfl
theorem kRx_v : kRx Γ (.val d) = .ok (.ret (.fz d), Γ) := rfl
def kAp3 (Γ : Env) (i : Nat) (xs : List D) (d : D) : Bool → R (Ctl × Env)
  | true => .ok (.nx, put Γ i (.own (.lst (xs ++ [d]))))
  | false => .bad
theorem kAp3_t : kAp3 Γ i ds d true = .ok (.nx, put Γ i (.own (.lst (ds ++ [d])))) := rfl
def kAp2 (Γ : Env) (i : Nat) (d : D) : Sl → R (Ctl × Env)
  | .own (.lst xs) => kAp3 Γ i xs d (decide (xs.length < seqMax))
  | _ => .bad
theorem kAp2_o : kAp2 Γ i d (.own (.lst ds)) = kAp3 Γ i ds d (decide (ds.length < seqMax)) := rfl
def kAp1 (i : Nat) : R (D × Env) → R (Ctl × Env)
  | .ok (d, Γ) => kAp2 Γ i d (get Γ i)
  | .exc x Γ => .exc x Γ
  | .bad => .bad
theorem kAp1_ok : kAp1 i (.ok (d, Γ)) = kAp2 Γ i d (get Γ i) := rfl
def kAp0 (i : Nat) (e : EV) (Γ : Env) : Option D → R (Ctl × Env)
  | some (.lst _) => kAp1 i (e Γ)
  | _ => .bad
theorem kAp0_s : kAp0 i e Γ (some (.lst ds)) = kAp1 i (e Γ) := rfl
theorem sApp_ap : sApp i e Γ = kAp0 i e Γ (look (get Γ i)) := by
  unfold sApp
  cases look (get Γ i) with
  | none => rfl
  | some d => cases d with
    | lst xs =>
      show (e Γ).bind _ = kAp1 i (e Γ)
      cases e Γ with
      | ok r =>
        obtain ⟨d, Γ1⟩ := r
        show (match get Γ1 i with | .own (.lst xs) => _ | _ => _) = kAp2 Γ1 i d (get Γ1 i)
        cases get Γ1 i with
        | own z => cases z with
          | lst xs => show (if xs.length < seqMax then _ else _) = kAp3 _ _ _ _ _; by_cases h : xs.length < seqMax <;> simp [h, kAp3]
          | _ => rfl
        | _ => rfl
      | exc x Γ => rfl
      | bad => rfl
    | _ => rfl
def kPi4 (Γ : Env) (i : Nat) (xs : List D) (d : D) : Option Nat → R (Ctl × Env)
  | some m => .ok (.nx, put Γ i (.own (.lst (xs.set m d))))
  | none => .bad
theorem kPi4_s : kPi4 Γ i ds d (some m) = .ok (.nx, put Γ i (.own (.lst (ds.set m d)))) := rfl
def kPi3 (Γ : Env) (i : Nat) (d : D) : Option D → Sl → R (Ctl × Env)
  | some (.int k), .own (.lst xs) => kPi4 Γ i xs d (ixN xs.length k)
  | _, _ => .bad
theorem kPi3_s {v : Int} : kPi3 Γ i d (some (.int v)) (.own (.lst ds)) = kPi4 Γ i ds d (ixN ds.length v) := rfl
def kPi2 (i : Nat) (d : D) : R (PV × Env) → R (Ctl × Env)
  | .ok (p, Γ) => kPi3 Γ i d (rd Γ p) (get Γ i)
  | .exc x Γ => .exc x Γ
  | .bad => .bad
theorem kPi2_ok : kPi2 i d (.ok (p, Γ)) = kPi3 Γ i d (rd Γ p) (get Γ i) := rfl
def kPi1 (i : Nat) (b : QV) (d : D) (Γ : Env) : Option D → R (Ctl × Env)
  | some _ => kPi2 i d (b Γ)
  | none => .bad
theorem kPi1_s : kPi1 i b d Γ (some x) = kPi2 i d (b Γ) := rfl
def kPi0 (i : Nat) (b : QV) : R (D × Env) → R (Ctl × Env)
  | .ok (d, Γ) => kPi1 i b d Γ (look (get Γ i))
  | .exc x Γ => .exc x Γ
  | .bad => .bad
theorem kPi0_ok : kPi0 i b (.ok (d, Γ)) = kPi1 i b d Γ (look (get Γ i)) := rfl
theorem sPutI_ap : sPutI i b e Γ = kPi0 i b (e Γ) := by
  unfold sPutI
  cases e Γ with
  | ok r =>
    obtain ⟨d, Γ1⟩ := r
    show (match look (get Γ1 i) with | some _ => (b Γ1).bind _ | none => _) = kPi1 i b d Γ1 (look (get Γ1 i))
    cases look (get Γ1 i) with
    | none => rfl
    | some x =>
      show (b Γ1).bind _ = kPi2 i d (b Γ1)
      cases b Γ1 with
      | ok r =>
        obtain ⟨p, Γ2⟩ := r
        show (match rd Γ2 p, get Γ2 i with | some (.int k), .own (.lst xs) => _ | _, _ => _) = kPi3 Γ2 i d (rd Γ2 p) (get Γ2 i)
        cases rd Γ2 p with
        | none => rfl
        | some z => cases z with
          | int v => cases get Γ2 i with
            | own w => cases w with
              | lst xs => show (match ixN xs.length v with | some m => _ | none => _) = kPi4 _ _ _ _ (ixN xs.length v); cases ixN xs.length v <;> rfl
              | _ => rfl
            | _ => rfl
          | _ => rfl
      | exc x Γ => rfl
      | bad => rfl
  | exc x Γ => rfl
  | bad => rfl
def kPr2 (i j : Nat) (x : D) : R (D × Env) → R (Ctl × Env)
  | .ok (y, Γ) => .ok (.nx, put (put Γ i (.val x)) j (.val y))
  | .exc x Γ => .exc x Γ
  | .bad => .bad
theorem kPr2_ok : kPr2 i j x (.ok (y, Γ)) = .ok (.nx, put (put Γ i (.val x)) j (.val y)) := rfl
def kPr1 (i j : Nat) (e2 : EV) : R (D × Env) → R (Ctl × Env)
  | .ok (x, Γ) => kPr2 i j x (e2 Γ)
  | .exc x Γ => .exc x Γ
  | .bad => .bad
theorem kPr1_ok : kPr1 i j e2 (.ok (x, Γ)) = kPr2 i j x (e2 Γ) := rfl
theorem sPar_ap : sPar i j e1 e2 Γ = kPr1 i j e2 (e1 Γ) := by
  unfold sPar
  cases e1 Γ with
  | ok r => obtain ⟨x, Γ1⟩ := r; show (e2 Γ1).bind _ = kPr2 i j x (e2 Γ1); cases e2 Γ1 <;> rfl
  | exc x Γ => rfl
  | bad => rfl
def kAs2 : Option Env → R (Ctl × Env)
  | some Γ => .ok (.nx, Γ)
  | none => .bad
theorem kAs2_s : kAs2 (some Γ) = .ok (.nx, Γ) := rfl
def kAs (g : GV) : R (D × Env) → R (Ctl × Env)
  | .ok (d, Γ) => kAs2 (g d Γ)
  | .exc x Γ => .exc x Γ
  | .bad => .bad
theorem kAs_ok : kAs g (.ok (d, Γ)) = kAs2 (g d Γ) := rfl
theorem sAsg_ap : sAsg g e Γ = kAs g (e Γ) := by
  unfold sAsg
  cases e Γ with
  | ok r => obtain ⟨d, Γ1⟩ := r; show (match g d Γ1 with | some _ => _ | none => _) = kAs2 (g d Γ1); cases g d Γ1 <;> rfl
  | exc x Γ => rfl
  | bad => rfl
theorem gN_ap : gN i d Γ = some (put Γ i (.val d)) := rfl
theorem gT_t {l : List GV} : gT l (.tup ds) Γ = gs l ds Γ := rfl
theorem gT_l {l : List GV} : gT l (.lst ds) Γ = gs l ds Γ := rfl
theorem gs_nil : gs [] [] Γ = some Γ := rfl
def kGs (l : List GV) (ds : List D) : Option Env → Option Env
  | some Γ => gs l ds Γ
  | none => none
theorem kGs_s {l : List GV} : kGs l ds (some Γ) = gs l ds Γ := rfl
theorem gs_cons {l : List GV} : gs (g :: l) (d :: ds) Γ = kGs l ds (g d Γ) := by
  show (match g d Γ with | some Γ' => gs l ds Γ' | none => none) = _
  cases g d Γ <;> rfl
def kFor (g : GV) (s : SV) : R (List D × Env) → R (Ctl × Env)
  | .ok (ds, Γ) => forL g s ds Γ
  | .exc x Γ => .exc x Γ
  | .bad => .bad
theorem kFor_ok : kFor g s (.ok (ds, Γ)) = forL g s ds Γ := rfl
theorem sFor_ap : sFor g lv s Γ = kFor g s (lv Γ) := by unfold sFor; cases lv Γ <;> rfl
theorem sWhl_ap : sWhl n t s Γ = whl t s n Γ := rfl
def kFd2 (c f : Nat) (d : D) (Γ : Env) : Sl → R (Ctl × Env)
  | .slf c' fs => if c' = c ∧ fs.length < 900 then .ok (.nx, put Γ 0 (.slf c' (putFd f d fs))) else .bad
  | _ => .bad
theorem kFd2_s {fs : List (Nat × D)} (h : fs.length < 900) : kFd2 n m d Γ (.slf n fs) = .ok (.nx, put Γ 0 (.slf n (putFd m d fs))) := if_pos ⟨rfl, h⟩
def kFd (c f : Nat) : R (D × Env) → R (Ctl × Env)
  | .ok (d, Γ) => kFd2 c f d Γ (get Γ 0)
  | .exc x Γ => .exc x Γ
  | .bad => .bad
theorem kFd_ok : kFd n m (.ok (d, Γ)) = kFd2 n m d Γ (get Γ 0) := rfl
theorem sFld_ap : sFld n m e Γ = kFd n m (e Γ) := by
  unfold sFld
  cases e Γ with
  | ok r => obtain ⟨d, Γ1⟩ := r; show (match get Γ1 0 with | .slf c' fs => _ | _ => _) = kFd2 n m d Γ1 (get Γ1 0); cases get Γ1 0 <;> rfl
  | exc x Γ => rfl
  | bad => rfl
def kRs (c : Nat) (fs : List Nat) : R (List D × Env) → R (Ctl × Env)
  | .ok (ds, Γ) => .exc ⟨c, fs.zip ds⟩ Γ
  | .exc x Γ => .exc x Γ
  | .bad => .bad
theorem kRs_ok {fs : List Nat} : kRs n fs (.ok (ds, Γ)) = .exc ⟨n, fs.zip ds⟩ Γ := rfl
theorem sRaise_ap {fs : List Nat} : sRaise n fs lv Γ = kRs n fs (lv Γ) := by unfold sRaise; cases lv Γ <;> rfl
def kSu (i : Nat) : R (Ctl × Env) → R (Ctl × Env)
  | .ok (c, Γ) => .ok (c, put Γ i .emp)
  | _ => .bad
theorem kSu_ok : kSu i (.ok (ct, Γ)) = .ok (ct, put Γ i .emp) := rfl
def kTr3 (i : Nat) (s : SV) (Γ : Env) (x : Xc) : Bool → R (Ctl × Env)
  | true => kSu i (s (put Γ i (.exn x)))
  | false => .bad
theorem kTr3_t : kTr3 i s Γ xc true = kSu i (s (put Γ i (.exn xc))) := rfl
def kTr2 (i : Nat) (s : SV) (Γ : Env) (x : Xc) : Option Bool → R (Ctl × Env)
  | some true => kTr3 i s Γ x (decide (i < Γ.length) && noX Γ)
  | some false => .exc x Γ
  | none => .bad
theorem kTr2_t : kTr2 i s Γ xc (some true) = kTr3 i s Γ xc (decide (i < Γ.length) && noX Γ) := rfl
theorem kTr2_f : kTr2 i s Γ xc (some false) = .exc xc Γ := rfl
def kTr (i : Nat) (ex : Nat → Option Bool) (s : SV) : R (Ctl × Env) → R (Ctl × Env)
  | .exc x Γ => kTr2 i s Γ x (ex x.c)
  | r => r
theorem kTr_ok {ex : Nat → Option Bool} {r : Ctl × Env} : kTr i ex s (.ok r) = .ok r := rfl
theorem kTr_ex {ex : Nat → Option Bool} : kTr i ex s (.exc xc Γ) = kTr2 i s Γ xc (ex xc.c) := rfl
theorem sTry_ap {ex : Nat → Option Bool} : sTry i ex s1 s2 Γ = kTr i ex s2 (s1 Γ) := by
  unfold sTry
  cases s1 Γ with
  | ok r => rfl
  | bad => rfl
  | exc x Γ1 =>
    show (match ex x.c with | some true => _ | some false => _ | none => _) = kTr2 i s2 Γ1 x (ex x.c)
    cases ex x.c with
    | none => rfl
    | some b => cases b with
      | false => rfl
      | true =>
        show (if i < Γ1.length ∧ noX Γ1 = true then _ else _) = kTr3 i s2 Γ1 x (decide (i < Γ1.length) && noX Γ1)
        by_cases h : i < Γ1.length ∧ noX Γ1 = true
        · rw [if_pos h, h.2, decide_eq_true h.1]
          show (match s2 (put Γ1 i (.exn x)) with | .ok (c, Γ2) => _ | _ => _) = kSu i (s2 (put Γ1 i (.exn x)))
          cases s2 (put Γ1 i (.exn x)) with
          | ok r => rfl
          | exc _ _ => rfl
          | bad => rfl
        · rw [if_neg h]
          have : (decide (i < Γ1.length) && noX Γ1) = false := by
            by_cases h1 : i < Γ1.length
            · cases h2 : noX Γ1 with
              | false => rw [Bool.and_false]
              | true => exact absurd ⟨h1, h2⟩ h
            · rw [decide_eq_false h1, Bool.false_and]
          rw [this]; rfl
def kIE2 (Γ : Env) : Option Bool → R (D × Env)
  | some b => .ok (.bl b, Γ)
  | none => .bad
theorem kIE2_s : kIE2 Γ (some k) = .ok (.bl k, Γ) := rfl
def kIE (is : Nat → Option Bool) (Γ : Env) : Sl → R (D × Env)
  | .exn x => kIE2 Γ (if x.fs.isEmpty then is x.c else none)
  | _ => .bad
theorem kIE_s {is : Nat → Option Bool} : kIE is Γ (.exn ⟨n, []⟩) = kIE2 Γ (is n) := rfl
theorem eIsE_ap {is : Nat → Option Bool} : eIsE i is Γ = kIE is Γ (get Γ i) := by
  unfold eIsE kIE
  cases get Γ i with
  | exn x => dsimp only; cases (if x.fs.isEmpty = true then is x.c else none) <;> rfl
  | _ => rfl
def kXf (cs : List Nat) (f : Nat) (Γ : Env) : Sl → R (D × Env)
  | .exn x => kR Γ (if cs.contains x.c then x.fs.lookup f else none)
  | _ => .bad
theorem kXf_s {cs : List Nat} : kXf cs n Γ (.exn xc) = kR Γ (if cs.contains xc.c then xc.fs.lookup n else none) := rfl
theorem eXf_ap {cs : List Nat} : eXf cs i n Γ = kXf cs n Γ (get Γ i) := by
  unfold eXf kXf
  cases get Γ i with
  | exn x => dsimp only; cases (if cs.contains x.c = true then x.fs.lookup n else none) <;> rfl
  | _ => rfl
theorem runF_ap (h : ds.length = ms.length) : runF ms n s ds = fin (s (ins0 ms ds ++ pad n)) := if_pos h
theorem runI_ap (h : ds.length = ms.length) : runI m ms n s ds = finI m (s (.slf m [] :: (ins0 ms ds ++ pad n))) := if_pos h
theorem fin_nx : fin (.ok (.nx, Γ)) = .ok (.fz .non) := rfl
theorem fin_rt : fin (.ok (.ret o, Γ)) = .ok o := rfl
theorem fin_ex : fin (.exc xc Γ) = .exc xc [] := rfl
theorem finI_ex : finI n (.exc xc Γ) = .exc xc [] := rfl
def kFi (c : Nat) : Sl → R (List (Nat × D))
  | .slf c' fs => if c' = c then .ok fs else .bad
  | _ => .bad
theorem kFi_s {fs : List (Nat × D)} : kFi n (.slf n fs) = .ok fs := if_pos rfl
theorem finI_nx : finI n (.ok (.nx, Γ)) = kFi n (get Γ 0) := by
  show (match get Γ 0 with | .slf c' fs => _ | _ => _) = _
  cases get Γ 0 <;> rfl
theorem app_nil {α : Type} (l : List α) : [] ++ l = l := rfl
theorem app_cons {α : Type} (x : α) (l r : List α) : (x :: l) ++ r = x :: (l ++ r) := rfl
theorem ins0_nil : ins0 [] [] = [] := rfl
theorem ins0_cons {b : Bool} : ins0 (b :: ms) (d :: ds) = inSl b d :: ins0 ms ds := rfl
theorem inSl_f : inSl false d = .val d := by cases d <;> rfl
theorem inSl_l : inSl true (.lst ds) = .bor (.lst ds) := rfl
theorem inSl_i {v : Int} {b : Bool} : inSl b (.int v) = .val (.int v) := by cases b <;> rfl
theorem inSl_b {v : Bool} {b : Bool} : inSl b (.bl v) = .val (.bl v) := by cases b <;> rfl
theorem inSl_s {b : Bool} : inSl b (.str st) = .val (.str st) := by cases b <;> rfl
theorem inSl_n {b : Bool} : inSl b .non = .val .non := by cases b <;> rfl
theorem inSl_t {b : Bool} : inSl b (.tup ds) = .val (.tup ds) := by cases b <;> rfl
theorem inSl_c {b : Bool} {v : List Int} : inSl b (.scr v) = .val (.scr v) := by cases b <;> rfl
theorem inSl_o {b : Bool} {fs : List (Nat × D)} : inSl b (.ins n fs) = .val (.ins n fs) := by cases b <;> rfl
theorem pad_0 : pad 0 = [] := rfl
theorem pad_1 : pad (n + 1) = .emp :: pad n := rfl
theorem get_0 {w : Sl} : get (w :: Γ) 0 = w := rfl
theorem get_1 {w : Sl} : get (w :: Γ) (n + 1) = get Γ n := rfl
theorem put_0 {w v : Sl} : put (w :: Γ) 0 v = v :: Γ := rfl
theorem put_1 {w v : Sl} : put (w :: Γ) (n + 1) v = w :: put Γ n v := rfl
theorem look_v : look (.val d) = some d := rfl
theorem look_o : look (.own d) = some d := rfl
theorem look_b : look (.bor d) = some d := rfl
theorem frz_v : frzS (.val d) = some (d, .val d) := rfl
theorem frz_o : frzS (.own d) = some (d, .val d) := rfl
theorem stay_v : stay (.val d) = some (d, .val d) := rfl
theorem stay_o : stay (.own d) = some (d, .val d) := rfl
theorem stay_b : stay (.bor d) = some (d, .bor d) := rfl
theorem rd_d : rd Γ (.pd d) = some d := rfl
theorem rd_n : rd Γ (.pn i) = look (get Γ i) := rfl
theorem rds_nil : rds Γ [] = some [] := rfl
def kRd : Option D → Option (List D) → Option (List D)
  | some d, some ds => some (d :: ds)
  | _, _ => none
theorem kRd_s : kRd (some d) (some ds) = some (d :: ds) := rfl
theorem rds_cons : rds Γ (p :: ps) = kRd (rd Γ p) (rds Γ ps) := by
  show (match rd Γ p, rds Γ ps with | some d, some ds => some (d :: ds) | _, _ => none) = _
  cases rd Γ p <;> cases rds Γ ps <;> rfl
theorem wipe_nil : wipeG Γ [] = Γ := rfl
theorem wipe_cons {vs : List Nat} : wipeG Γ (i :: vs) = put (wipeG Γ vs) i .emp := rfl
theorem rest_nil : restG Γ Γ1 [] = Γ1 := rfl
theorem rest_cons {vs : List Nat} : restG Γ Γ1 (i :: vs) = put (restG Γ Γ1 vs) i (get Γ i) := rfl
theorem all_nil {α : Type} {u : α → Bool} : List.all [] u = true := rfl
theorem all_cons {α : Type} {u : α → Bool} {v : α} {l : List α} : List.all (v :: l) u = (u v && List.all l u) := rfl
theorem stb_e : stb .emp = true := rfl
theorem stb_v : stb (.val d) = true := rfl
theorem stb_b : stb (.bor d) = true := rfl
theorem noX_nil : noX [] = true := rfl
theorem noX_e : noX (.emp :: Γ) = noX Γ := rfl
theorem noX_v : noX (.val d :: Γ) = noX Γ := rfl
theorem noX_o : noX (.own d :: Γ) = noX Γ := rfl
theorem noX_b : noX (.bor d :: Γ) = noX Γ := rfl
theorem true_and' {b : Bool} : (true && b) = b := rfl
theorem tbl_ap {l : List (Nat × Bool)} : tbl l n = l.lookup n := rfl
theorem putFd_nil : putFd n d [] = [(n, d)] := rfl
theorem putFd_cons {fs : List (Nat × D)} : putFd n d ((m, x) :: fs) = if m = n then (m, d) :: fs else (m, x) :: putFd n d fs := rfl
/-! operations -/
theorem dAdd_i {u v : Int} : dAdd (.int u) (.int v) = some (.int (u + v)) := rfl
theorem dSub_i {u v : Int} : dSub (.int u) (.int v) = some (.int (u - v)) := rfl
theorem dMul_i {u v : Int} (h : mulOk u v = true) : dMul (.int u) (.int v) = some (.int (u * v)) := if_pos h
theorem mulOk_r {u v : Int} (h : v.natAbs < 2 ^ 64) : mulOk u v = true := by unfold mulOk nLt; rw [decide_eq_true h]; simp
theorem mulOk_l {u v : Int} (h : u.natAbs < 2 ^ 64) : mulOk u v = true := by unfold mulOk nLt; rw [decide_eq_true h]; simp
theorem mulOk_b {u v : Int} (h : u.natAbs < 2 ^ 8000) (h2 : v.natAbs < 2 ^ 8000) : mulOk u v = true := by unfold mulOk nLt; rw [decide_eq_true h, decide_eq_true h2]; simp
theorem dDiv_i {u v : Int} (h : v ≠ 0 ∧ v.natAbs < 2 ^ 8000) : dDiv (.int u) (.int v) = some (.int (u.fdiv v)) := if_pos h
theorem dDiv_r {u v : Int} (h0 : v ≠ 0) (h : -18446744073709551616 < v) (h2 : v < 18446744073709551616) : dDiv (.int u) (.int v) = some (.int (u.fdiv v)) := if_pos ⟨h0, Nat.lt_of_lt_of_le (show v.natAbs < 2 ^ 64 by omega) (Nat.pow_le_pow_right (by decide) (by decide))⟩
theorem mul_r {u v : Int} (h : -18446744073709551616 < v) (h2 : v < 18446744073709551616) : dMul (.int u) (.int v) = some (.int (u * v)) := dMul_i (mulOk_r (by omega))
theorem mul_l {u v : Int} (h : -18446744073709551616 < u) (h2 : u < 18446744073709551616) : dMul (.int u) (.int v) = some (.int (u * v)) := dMul_i (mulOk_l (by omega))
theorem dMod_i {u v : Int} (h : v ≠ 0) : dMod (.int u) (.int v) = some (.int (u.fmod v)) := if_pos h
theorem dPow_i {u v : Int} (h : 0 ≤ v ∧ v ≤ 1000000 ∧ u.natAbs < 2 ^ 64) : dPow (.int u) (.int v) = some (.int (u ^ v.toNat)) := if_pos h
theorem dNeg_i {u : Int} : dNeg (.int u) = some (.int (-u)) := rfl
theorem dLt_i {u v : Int} : dLt (.int u) (.int v) = some (.bl (decide (u < v))) := rfl
theorem dLe_i {u v : Int} : dLe (.int u) (.int v) = some (.bl (decide (u ≤ v))) := rfl
theorem dGt_i {u v : Int} : dGt (.int u) (.int v) = some (.bl (decide (v < u))) := rfl
theorem dGe_i {u v : Int} : dGe (.int u) (.int v) = some (.bl (decide (v ≤ u))) := rfl
theorem dEq_i {u v : Int} : dEq (.int u) (.int v) = some (.bl (u == v)) := by simp [dEq, sca, deq]
theorem dNe_i {u v : Int} : dNe (.int u) (.int v) = some (.bl (!(u == v))) := by simp [dNe, sca, deq]
theorem dEq_b {u v : Bool} : dEq (.bl u) (.bl v) = some (.bl (u == v)) := by simp [dEq, sca, deq]
theorem dNe_b {u v : Bool} : dNe (.bl u) (.bl v) = some (.bl (!(u == v))) := by simp [dNe, sca, deq]
theorem dEq_s {u v : Str} : dEq (.str u) (.str v) = some (.bl (u == v)) := by simp [dEq, sca, deq]
theorem dNe_s {u v : Str} : dNe (.str u) (.str v) = some (.bl (!(u == v))) := by simp [dNe, sca, deq]
theorem o1_ap : o1 f1 [d] = f1 d := rfl
theorem dAbs_i {u : Int} : dAbs (.int u) = some (.int (if u < 0 then -u else u)) := rfl
theorem dInt_i {u : Int} : dInt (.int u) = some (.int u) := rfl
theorem dInt_b {u : Bool} : dInt (.bl u) = some (.int (if u then 1 else 0)) := rfl
theorem dBool_i {u : Int} : dBool (.int u) = some (.bl (u != 0)) := rfl
theorem dLen_l : dLen (.lst ds) = some (.int ds.length) := rfl
theorem dLen_t : dLen (.tup ds) = some (.int ds.length) := rfl
theorem dLen_c {v : List Int} : dLen (.scr v) = some (.int v.length) := rfl
theorem dIx_l {v : Int} : dIx (.lst ds) (.int v) = at1 ds v := rfl
theorem dIx_t {v : Int} : dIx (.tup ds) (.int v) = at1 ds v := rfl
theorem dIx_c {v : Int} {ns : List Int} : dIx (.scr ns) (.int v) = (at1 ns v).map .int := rfl
theorem at_0 {α : Type} {u : α} {l : List α} : at1 (u :: l) 0 = some u := by simp [at1, ixN]
theorem at_nat {α : Type} {l : List α} {k : Nat} : at1 l (k : Int) = l[k]? := by
  unfold at1 ixN
  by_cases h : (k : Int) < l.length
  · rw [if_pos (by omega), if_pos h]; simp
  · rw [if_pos (by omega), if_neg h]; simp; omega
theorem at_1 {α : Type} {u v : α} {l : List α} : at1 (u :: v :: l) 1 = some v := at_nat (k := 1)
theorem at_2 {α : Type} {u v w : α} {l : List α} : at1 (u :: v :: w :: l) 2 = some w := at_nat (k := 2)
theorem at_3 {α : Type} {u v w r : α} {l : List α} : at1 (u :: v :: w :: r :: l) 3 = some r := at_nat (k := 3)
theorem isT_ii {u : Int} : isT2 .tInt (.int u) = some true := rfl
theorem isT_bi {u : Int} : isT2 .tBool (.int u) = some false := rfl
theorem isT_bb {u : Bool} : isT2 .tBool (.bl u) = some true := rfl
theorem isT_ss : isT2 .tStr (.str st) = some true := rfl
theorem isT_ll : isT2 .tList (.lst ds) = some true := rfl
theorem isT_tt : isT2 .tTuple (.tup ds) = some true := rfl
theorem isB2_i {tb : Nat → Option Bool} {fs : List (Nat × D)} : isB2 tb (.ins n fs) = tb n := rfl
theorem map_s {α β : Type} {u : α → β} {v : α} : Option.map u (some v) = some (u v) := rfl
theorem dRev_l : dRev (.lst ds) = some (.lst ds.reverse) := rfl
theorem dTup_l : dTup (.lst ds) = some (.tup ds) := rfl
theorem dTup_t : dTup (.tup ds) = some (.tup ds) := rfl
theorem dLst_l : dLst (.lst ds) = some (.lst ds) := rfl
theorem dLst_t : dLst (.tup ds) = some (.lst ds) := rfl
theorem dCut_l {lo hi : Option Int} : dCut (.lst ds) lo hi = some (.lst (cut ds lo hi)) := rfl
theorem dCutL_l {lo hi : Option Int} : dCutL (.lst ds) lo hi = some (.lst (cut ds lo hi)) := rfl
theorem dGcd_i {u v : Int} : dGcd [.int u, .int v] = some (.int ((Nat.gcd u.natAbs v.natAbs : Nat) : Int)) := rfl
theorem dTxt_i {u : Int} (h : u.natAbs < 2 ^ 1900) : dTxt (.int u) = some (.str (toString u)) := if_pos h
theorem dTxt_s (h : st.length ≤ seqMax) : dTxt (.str st) = some (.str st) := if_pos h
theorem dStrI_i {u : Int} (h : u.natAbs < 2 ^ 1900) : dStrI (.int u) = some (.str (toString u)) := if_pos h
theorem dAdd_s {u v : Str} (h : u.length + v.length ≤ seqMax) : dAdd (.str u) (.str v) = some (.str (u ++ v)) := if_pos h
theorem dAdd_l (h : ds.length + es.length ≤ seqMax) : dAdd (.lst ds) (.lst es) = some (.lst (ds ++ es)) := if_pos h
theorem dCat_l (h : ds.length + es.length ≤ seqMax) : dCat (.lst ds) (.lst es) = some (.lst (ds ++ es)) := if_pos h
theorem dAdd_t (h : ds.length + es.length ≤ seqMax) : dAdd (.tup ds) (.tup es) = some (.tup (ds ++ es)) := if_pos h
theorem isB_b : isB (.bl k) = true := rfl
theorem isS_s : isS (.str st) = true := rfl
/-! loops -/
def kGb (s : SV) : Option Env → R (Ctl × Env)
  | some Γ => s Γ
  | none => .bad
theorem kGb_s : kGb s (some Γ) = s Γ := rfl
/-- a for that runs through: what holds before each turn -/
theorem forL_run {P : Nat → Env → Prop} (h0 : P 0 Γ) (h : ∀ (i : Nat) (Γ : Env) (d : D), ds[i]? = some d → P i Γ → ∃ Γ2, kGb s (g d Γ) = .ok (.nx, Γ2) ∧ P (i + 1) Γ2) : ∃ Γ', forL g s ds Γ = .ok (.nx, Γ') ∧ P ds.length Γ' := by
  induction ds generalizing Γ P with
  | nil => exact ⟨Γ, rfl, h0⟩
  | cons d ds ih =>
    obtain ⟨Γ2, e2, p⟩ := h 0 Γ d rfl h0
    cases e1 : g d Γ with
    | none => rw [e1] at e2; cases e2
    | some Γ1 =>
    rw [e1] at e2
    have e2 : s Γ1 = .ok (.nx, Γ2) := e2
    obtain ⟨Γ', e3, p'⟩ := ih (P := fun i => P (i + 1)) p fun i Γ d hd q => h (i + 1) Γ d hd q
    refine ⟨Γ', ?_, p'⟩
    show (match g d Γ with | none => R.bad | some Γ1 => match s Γ1 with | .ok (.nx, Γ2) => forL g s ds Γ2 | .ok (.cnt, Γ2) => forL g s ds Γ2 | .ok (.brk, Γ2) => .ok (.nx, Γ2) | .ok (.ret o, Γ2) => .ok (.ret o, Γ2) | .exc x Γ2 => .exc x Γ2 | .bad => .bad) = _
    rw [e1]; dsimp only; rw [e2]; exact e3
/-- a while by a measure -/
theorem whl_run {P : Nat → Env → Prop} {Qe : Env → Prop} (h : ∀ (m : Nat) (Γ : Env), P m Γ → (∃ Γ1, t Γ = .ok (false, Γ1) ∧ Qe Γ1) ∨ ∃ Γ1 Γ2 m', t Γ = .ok (true, Γ1) ∧ s Γ1 = .ok (.nx, Γ2) ∧ m' < m ∧ P m' Γ2) : ∀ (n m : Nat) (Γ : Env), m < n → P m Γ → ∃ Γ', whl t s n Γ = .ok (.nx, Γ') ∧ Qe Γ'
  | 0, m, Γ, hm, _ => absurd hm (Nat.not_lt_zero _)
  | n + 1, m, Γ, hm, p => by
    rcases h m Γ p with ⟨Γ1, e, q⟩ | ⟨Γ1, Γ2, m', e1, e2, hl, p2⟩
    · refine ⟨Γ1, ?_, q⟩
      rw [whl, e]; rfl
    · obtain ⟨Γ', e3, q⟩ := whl_run h n m' Γ2 (by omega) p2
      refine ⟨Γ', ?_, q⟩
      rw [whl, e1]
      show (match s Γ1 with | .ok (.nx, Γ2) => whl t s n Γ2 | .ok (.cnt, Γ2) => whl t s n Γ2 | .ok (.brk, Γ2) => .ok (.nx, Γ2) | .ok (.ret o, Γ2) => .ok (.ret o, Γ2) | .exc x Γ2 => .exc x Γ2 | .bad => .bad) = _
      rw [e2]; exact e3
def kGe (e : EV) : Option Env → R (D × Env)
  | some Γ => e Γ
  | none => .bad
theorem kGe_s : kGe e (some Γ) = e Γ := rfl
/-- a comprehension without tests -/
theorem lcL_map {vs : List Nat} {P : Env → Prop} (u : D → D) (h : ∀ (d : D) (Γ : Env), d ∈ ds → P Γ → ∃ Γ2, kGe e (g d Γ) = .ok (u d, Γ2) ∧ P (wipeG Γ2 vs)) (h0 : P Γ) {n : Nat} (hn : n + ds.length ≤ seqMax) : ∃ Γ', lcL g tYs e vs ds Γ n = some (ds.map u, Γ') ∧ P Γ' := by
  induction ds generalizing Γ n with
  | nil => exact ⟨Γ, rfl, h0⟩
  | cons d ds ih =>
    obtain ⟨Γ2, e2, p⟩ := h d Γ (by simp) h0
    cases e1 : g d Γ with
    | none => rw [e1] at e2; cases e2
    | some Γ1 =>
    rw [e1] at e2
    have e2 : e Γ1 = .ok (u d, Γ2) := e2
    rw [List.length_cons] at hn
    obtain ⟨Γ', e3, q⟩ := ih (fun d Γ hd => h d Γ (by simp [hd])) p (n := n + 1) (by omega)
    refine ⟨Γ', ?_, q⟩
    rw [lcL, e1]
    dsimp only [tYs]
    show (match e Γ1 with | .ok (x, Γ3) => if n < seqMax then (match lcL g tYs e vs ds (wipeG Γ3 vs) (n + 1) with | some (l, Γ4) => some (x :: l, Γ4) | none => none) else none | _ => none) = _
    rw [e2]
    show (if n < seqMax then (match lcL g tYs e vs ds (wipeG Γ2 vs) (n + 1) with | some (l, Γ4) => some (u d :: l, Γ4) | none => none) else none) = _
    rw [if_pos (by omega), e3]; rfl
end
end Ed

set_option autoImplicit true
set_option Elab.async false
set_option linter.all false
set_option maxRecDepth 100000
set_option exponentiation.threshold 10000
set_option maxHeartbeats 4000000
/-! plain tools: loops with any end, comprehensions with tests, lists of texts and of numbers -/
namespace Ed
open PySem
abbrev sL (xs : List Str) : D := .lst (xs.map .str)
abbrev sT (xs : List Str) : D := .tup (xs.map .str)
abbrev iL (xs : List Int) : D := .lst (xs.map .int)
abbrev sLL (xs : List (List Str)) : D := .lst (xs.map sL)
section
variable {α β : Type} {Γ Γ1 Γ2 Γ0 Γ' : Env} {g : GV} {s : SV} {t : TV} {e : EV} {n : Nat} {vs : List Nat}
/-! loops -/
/-- what a turn that ends the loop leaves -/
def fin1 : R (Ctl × Env) → Option (R (Ctl × Env))
  | .ok (.brk, Γ) => some (.ok (.nx, Γ))
  | .ok (.ret o, Γ) => some (.ok (.ret o, Γ))
  | .exc x Γ => some (.exc x Γ)
  | _ => none
theorem forL_nx {d : D} {ds : List D} (h : kGb s (g d Γ) = .ok (.nx, Γ2)) : forL g s (d :: ds) Γ = forL g s ds Γ2 := by
  cases e1 : g d Γ with
  | none => rw [e1] at h; cases h
  | some Γ1 =>
    rw [e1] at h
    have h : s Γ1 = .ok (.nx, Γ2) := h
    show (match g d Γ with | none => R.bad | some Γ1 => match s Γ1 with | .ok (.nx, Γ2) => forL g s ds Γ2 | .ok (.cnt, Γ2) => forL g s ds Γ2 | .ok (.brk, Γ2) => .ok (.nx, Γ2) | .ok (.ret o, Γ2) => .ok (.ret o, Γ2) | .exc x Γ2 => .exc x Γ2 | .bad => .bad) = _
    rw [e1]; dsimp only; rw [h]
theorem forL_fin {d : D} {ds : List D} {r : R (Ctl × Env)} (h : fin1 (kGb s (g d Γ)) = some r) : forL g s (d :: ds) Γ = r := by
  cases e1 : g d Γ with
  | none => rw [e1] at h; cases h
  | some Γ1 =>
    rw [e1] at h
    have h : fin1 (s Γ1) = some r := h
    show (match g d Γ with | none => R.bad | some Γ1 => match s Γ1 with | .ok (.nx, Γ2) => forL g s ds Γ2 | .ok (.cnt, Γ2) => forL g s ds Γ2 | .ok (.brk, Γ2) => .ok (.nx, Γ2) | .ok (.ret o, Γ2) => .ok (.ret o, Γ2) | .exc x Γ2 => .exc x Γ2 | .bad => .bad) = _
    rw [e1]; dsimp only
    cases e2 : s Γ1 with
    | ok r2 =>
      rw [e2] at h
      obtain ⟨c, Γ2⟩ := r2
      cases c with
      | nx => cases h
      | cnt => cases h
      | brk => cases h; rfl
      | ret o => cases h; rfl
    | exc x Γ2 => rw [e2] at h; cases h; rfl
    | bad => rw [e2] at h; cases h
/-- a for: P i before turn i; each turn goes on or ends the loop; Z: what is wanted of the whole -/
theorem forL_z {f : α → D} {xs : List α} {P : Nat → Env → Prop} {Z : R (Ctl × Env) → Prop} (h0 : P 0 Γ)
    (h : ∀ (i : Nat) (x : α) (Γ : Env), xs[i]? = some x → P i Γ → (∃ Γ2, kGb s (g (f x) Γ) = .ok (.nx, Γ2) ∧ P (i + 1) Γ2) ∨ ∃ r, fin1 (kGb s (g (f x) Γ)) = some r ∧ Z r)
    (he : ∀ Γ', P xs.length Γ' → Z (.ok (.nx, Γ'))) : Z (forL g s (xs.map f) Γ) := by
  induction xs generalizing Γ P with
  | nil => exact he Γ h0
  | cons x xs ih =>
    rcases h 0 x Γ rfl h0 with ⟨Γ2, e2, p⟩ | ⟨r, e2, z⟩
    · rw [List.map_cons, forL_nx e2]
      exact ih (P := fun i => P (i + 1)) p (fun i y Γ hd q => h (i + 1) y Γ hd q) he
    · rw [List.map_cons, forL_fin e2]; exact z
/-- a for that runs through -/
theorem forL_m {f : α → D} {xs : List α} {P : Nat → Env → Prop} (h0 : P 0 Γ)
    (h : ∀ (i : Nat) (x : α) (Γ : Env), xs[i]? = some x → P i Γ → ∃ Γ2, kGb s (g (f x) Γ) = .ok (.nx, Γ2) ∧ P (i + 1) Γ2) : ∃ Γ', forL g s (xs.map f) Γ = .ok (.nx, Γ') ∧ P xs.length Γ' :=
  forL_z (Z := fun r => ∃ Γ', r = .ok (.nx, Γ') ∧ P xs.length Γ') h0 (fun i x Γ hx p => .inl (h i x Γ hx p)) fun Γ' p => ⟨Γ', rfl, p⟩
theorem rng_map (lo : Int) (n : Nat) : rngL lo n = (List.range n).map fun (k : Nat) => D.int (lo + k) := rfl
theorem range_get {n i x : Nat} (h : (List.range n)[i]? = some x) : x = i ∧ i < n := by
  by_cases hi : i < n
  · rw [List.getElem?_range hi] at h; cases h; exact ⟨rfl, hi⟩
  · rw [List.getElem?_eq_none (by simpa using hi)] at h; cases h
/-- a for over a range, with any end -/
theorem forL_rg {lo : Int} {m : Nat} {P : Nat → Env → Prop} {Z : R (Ctl × Env) → Prop} (h0 : P 0 Γ)
    (h : ∀ (i : Nat) (Γ : Env), i < m → P i Γ → (∃ Γ2, kGb s (g (.int (lo + i)) Γ) = .ok (.nx, Γ2) ∧ P (i + 1) Γ2) ∨ ∃ r, fin1 (kGb s (g (.int (lo + i)) Γ)) = some r ∧ Z r)
    (he : ∀ Γ', P m Γ' → Z (.ok (.nx, Γ'))) : Z (forL g s (rngL lo m) Γ) := by
  rw [rng_map]
  refine forL_z h0 (fun i x Γ hx p => ?_) (fun Γ' p => he Γ' (by rwa [List.length_range] at p))
  obtain ⟨rfl, hi⟩ := range_get hx
  exact h _ Γ hi p
theorem forL_rm {lo : Int} {m : Nat} {P : Nat → Env → Prop} (h0 : P 0 Γ)
    (h : ∀ (i : Nat) (Γ : Env), i < m → P i Γ → ∃ Γ2, kGb s (g (.int (lo + i)) Γ) = .ok (.nx, Γ2) ∧ P (i + 1) Γ2) : ∃ Γ', forL g s (rngL lo m) Γ = .ok (.nx, Γ') ∧ P m Γ' :=
  forL_rg (Z := fun r => ∃ Γ', r = .ok (.nx, Γ') ∧ P m Γ') h0 (fun i Γ hx p => .inl (h i Γ hx p)) fun Γ' p => ⟨Γ', rfl, p⟩
/-! comprehensions -/
def kTn3 (vs : List Nat) : R (D × Env) → Option (Option D × Env)
  | .ok (x, Γ) => some (some x, wipeG Γ vs)
  | _ => none
theorem kTn3_ok {x : D} : kTn3 vs (.ok (x, Γ)) = some (some x, wipeG Γ vs) := rfl
def kTn2 (e : EV) (vs : List Nat) : R (Bool × Env) → Option (Option D × Env)
  | .ok (true, Γ) => kTn3 vs (e Γ)
  | .ok (false, Γ) => some (none, wipeG Γ vs)
  | _ => none
theorem kTn2_t : kTn2 e vs (.ok (true, Γ)) = kTn3 vs (e Γ) := rfl
theorem kTn2_f : kTn2 e vs (.ok (false, Γ)) = some (none, wipeG Γ vs) := rfl
theorem kTn2_p {p : Prop} [Decidable p] : kTn2 e vs (.ok (decide p, Γ)) = if p then kTn3 vs (e Γ) else some (none, wipeG Γ vs) := by
  by_cases h : p <;> simp [h, kTn2]
theorem kTn2_n {p : Prop} [Decidable p] : kTn2 e vs (.ok (!decide p, Γ)) = if p then some (none, wipeG Γ vs) else kTn3 vs (e Γ) := by
  by_cases h : p <;> simp [h, kTn2]
def kTn1 (t : TV) (e : EV) (vs : List Nat) : Option Env → Option (Option D × Env)
  | some Γ => kTn2 e vs (t Γ)
  | none => none
theorem kTn1_s : kTn1 t e vs (some Γ) = kTn2 e vs (t Γ) := rfl
/-- one turn of a comprehension -/
def turn (g : GV) (t : TV) (e : EV) (vs : List Nat) (d : D) (Γ : Env) : Option (Option D × Env) := kTn1 t e vs (g d Γ)
theorem turn_ap {d : D} : turn g t e vs d Γ = kTn1 t e vs (g d Γ) := rfl
theorem lcL_m (f : α → D) (w : α → Option D) (xs : List α) (h : ∀ x ∈ xs, turn g t e vs (f x) Γ0 = some (w x, Γ0)) {n : Nat} (hn : n + xs.length ≤ seqMax) : lcL g t e vs (xs.map f) Γ0 n = some (xs.filterMap w, Γ0) := by
  induction xs generalizing n with
  | nil => rfl
  | cons x xs ih =>
    have hx := h x (by simp)
    have hr := fun n hn => ih (fun y hy => h y (by simp [hy])) (n := n) hn
    rw [List.length_cons] at hn
    unfold turn at hx
    rw [List.map_cons, lcL]
    cases e1 : g (f x) Γ0 with
    | none => rw [e1] at hx; cases hx
    | some Γ1 =>
      rw [e1] at hx
      have hx : kTn2 e vs (t Γ1) = some (w x, Γ0) := hx
      dsimp only
      cases e2 : t Γ1 with
      | ok r =>
        obtain ⟨c, Γ2⟩ := r
        rw [e2] at hx
        cases c with
        | true =>
          have hx : kTn3 vs (e Γ2) = some (w x, Γ0) := hx
          dsimp only
          cases e3 : e Γ2 with
          | ok r =>
            obtain ⟨y, Γ3⟩ := r
            rw [e3] at hx
            have hx : some (some y, wipeG Γ3 vs) = some (w x, Γ0) := hx
            injection hx with hx
            injection hx with h1 h2
            dsimp only
            rw [if_pos (by omega), h2, hr _ (by omega), List.filterMap_cons, ← h1]
          | exc _ _ => rw [e3] at hx; cases hx
          | bad => rw [e3] at hx; cases hx
        | false =>
          have hx : some (none, wipeG Γ2 vs) = some (w x, Γ0) := hx
          injection hx with hx
          injection hx with h1 h2
          dsimp only
          rw [h2, hr _ (by omega), List.filterMap_cons, ← h1]
      | exc _ _ => rw [e2] at hx; cases hx
      | bad => rw [e2] at hx; cases hx
theorem filterMap_congr' {f g : α → Option β} : ∀ {xs : List α}, (∀ x ∈ xs, f x = g x) → xs.filterMap f = xs.filterMap g
  | [], _ => rfl
  | x :: xs, h => by rw [List.filterMap_cons, List.filterMap_cons, h x (by simp), filterMap_congr' fun y hy => h y (by simp [hy])]
theorem filterMap_if (p : α → Prop) [DecidablePred p] (f : α → β) (xs : List α) : xs.filterMap (fun x => if p x then some (f x) else none) = (xs.filter (fun x => decide (p x))).map f := by
  induction xs with
  | nil => rfl
  | cons x xs ih =>
    rw [List.filterMap_cons]
    by_cases h : p x
    · rw [if_pos h, List.filter_cons_of_pos (by simpa using h), List.map_cons, ← ih]
    · rw [if_neg h, List.filter_cons_of_neg (by simpa using h), ← ih]
/-- [e for x in xs if p] -/
theorem lcL_if (f : α → D) (p : α → Prop) [DecidablePred p] (u : α → D) (xs : List α) (h : ∀ x ∈ xs, turn g t e vs (f x) Γ0 = if p x then some (some (u x), Γ0) else some (none, Γ0)) {n : Nat} (hn : n + xs.length ≤ seqMax) : lcL g t e vs (xs.map f) Γ0 n = some ((xs.filter (fun x => decide (p x))).map u, Γ0) := by
  rw [lcL_m f (fun x => if p x then some (u x) else none) xs (fun x hx => by rw [h x hx]; by_cases q : p x <;> simp [q]) hn, filterMap_if]
/-- [e for x in xs if not p] -/
theorem lcL_ifn (f : α → D) (p : α → Prop) [DecidablePred p] (u : α → D) (xs : List α) (h : ∀ x ∈ xs, turn g t e vs (f x) Γ0 = if p x then some (none, Γ0) else some (some (u x), Γ0)) {n : Nat} (hn : n + xs.length ≤ seqMax) : lcL g t e vs (xs.map f) Γ0 n = some ((xs.filter (fun x => !decide (p x))).map u, Γ0) := by
  rw [lcL_m f (fun x => if ¬ p x then some (u x) else none) xs (fun x hx => by rw [h x hx]; by_cases q : p x <;> simp [q]) hn, filterMap_if]
  have e : (fun x => decide ¬p x) = (fun x => !decide (p x)) := by
    funext x
    by_cases q : p x <;> simp [q]
  rw [e]
/-- [e for x in xs] -/
theorem lcL_a (f : α → D) (u : α → D) (xs : List α) (h : ∀ x ∈ xs, turn g t e vs (f x) Γ0 = some (some (u x), Γ0)) {n : Nat} (hn : n + xs.length ≤ seqMax) : lcL g t e vs (xs.map f) Γ0 n = some (xs.map u, Γ0) := by
  rw [lcL_m f _ xs h hn, List.filterMap_eq_map']
end
/-! one statement at a time -/
section
variable {a b : SV} {Γ Γ1 : Env} {r : R (Ctl × Env)} {X : R DV}
theorem seq_nx (h : a Γ = .ok (.nx, Γ1)) (h2 : b Γ1 = r) : sSeq a b Γ = r := by
  rw [sSeq_ap, h, kS_nx, h2]
theorem seq_rt {o : DV} (h : a Γ = .ok (.ret o, Γ1)) (h2 : .ok (.ret o, Γ1) = r) : sSeq a b Γ = r := by
  rw [sSeq_ap, h, kS_rt, h2]
theorem seq_bk (h : a Γ = .ok (.brk, Γ1)) (h2 : .ok (.brk, Γ1) = r) : sSeq a b Γ = r := by
  rw [sSeq_ap, h, kS_bk, h2]
theorem seq_ex {x : Xc} (h : a Γ = .exc x Γ1) (h2 : .exc x Γ1 = r) : sSeq a b Γ = r := by
  rw [sSeq_ap, h, kS_ex, h2]
theorem if_t {t : TV} {r : R (Ctl × Env)} (h : t Γ = .ok (true, Γ1)) (h2 : a Γ1 = r) : sIf t a b Γ = r := by rw [sIf_ap, h, kIf_t, h2]
theorem if_f {t : TV} {r : R (Ctl × Env)} (h : t Γ = .ok (false, Γ1)) (h2 : b Γ1 = r) : sIf t a b Γ = r := by rw [sIf_ap, h, kIf_f, h2]
theorem fin_of (h : a Γ = r) (h2 : fin r = X) : fin (a Γ) = X := by rw [h, h2]
theorem fini_of {n : Nat} {Y : R (List (Nat × D))} (h : a Γ = r) (h2 : finI n r = Y) : finI n (a Γ) = Y := by rw [h, h2]
theorem gb_of {g : GV} {d : D} (h : g d Γ = some Γ1) (h2 : a Γ1 = r) : kGb a (g d Γ) = r := by rw [h, kGb_s, h2]
end
theorem nodup_le {α : Type} [DecidableEq α] : ∀ {r ns : List α}, r.Nodup → (∀ x ∈ r, x ∈ ns) → r.length ≤ ns.length
  | [], ns, _, _ => by simp
  | x :: r, ns, h, hs => by
    rw [List.nodup_cons] at h
    have hx := hs x (by simp)
    have := nodup_le (ns := ns.erase x) h.2 fun y hy => (List.mem_erase_of_ne (show y ≠ x from fun e => h.1 (by rw [← e]; exact hy))).mpr (hs y (by simp [hy]))
    rw [List.length_erase_of_mem hx] at this
    have : 0 < ns.length := List.length_pos_of_mem hx
    rw [List.length_cons]; omega
/-! more evaluation -/
section
variable {Γ Γ1 : Env} {a b : QV} {e1 e2 : EV} {x y d : D} {p : PV} {ps : List PV} {ds : List D} {n i : Nat} {F : FV} {k : Bool} {xc : Xc} {av : AV} {kd : D → Bool} {f : D → List D → Option D} {is : Nat → Option Bool} {fs : List (Nat × D)}
def kSg2 (Γ : Env) : Option D → R (List D × Env)
  | some (.str s) => .ok (sgn s, Γ)
  | _ => .bad
theorem kSg2_s {s : Str} : kSg2 Γ (some (.str s)) = .ok (sgn s, Γ) := rfl
def kSg : R (PV × Env) → R (List D × Env)
  | .ok (p, Γ) => kSg2 Γ (rd Γ p)
  | .exc x Γ => .exc x Γ
  | .bad => .bad
theorem kSg_ok : kSg (.ok (p, Γ)) = kSg2 Γ (rd Γ p) := rfl
theorem iSgn_ap : iSgn a Γ = kSg (a Γ) := by
  unfold iSgn
  cases a Γ with
  | ok r => obtain ⟨p, Γ1⟩ := r; show (match rd Γ1 p with | some (.str s) => R.ok (sgn s, Γ1) | _ => R.bad) = kSg2 Γ1 (rd Γ1 p); unfold kSg2; cases rd Γ1 p with
    | none => rfl
    | some d => cases d <;> rfl
  | exc x Γ => rfl
  | bad => rfl
def kED (is : Nat → Option Bool) (Γ : Env) : Sl → R (D × Env)
  | .exn x => kIE2 Γ (is x.c)
  | _ => .bad
theorem kED_s {is : Nat → Option Bool} : kED is Γ (.exn ⟨n, fs⟩) = kIE2 Γ (is n) := rfl
theorem eIsED_ap : eIsED i is Γ = kED is Γ (get Γ i) := by
  unfold eIsED kED
  cases get Γ i with
  | exn x => dsimp only; cases is x.c <;> rfl
  | _ => rfl
def kX2 (n : Nat) (F : FV) (Γ : Env) (x y : D) : R (D × Env) := match x with
  | .ins c1 _ => if c1 = n then kCd (callF F [false, false] [.pd x, .pd y] Γ) else .bad
  | _ => .bad
theorem kX2_s : kX2 n F Γ (.ins n fs) y = kCd (callF F [false, false] [.pd (.ins n fs), .pd y] Γ) := if_pos rfl
def kX1 (n : Nat) (F : FV) (x : D) : R (D × Env) → R (D × Env)
  | .ok (y, Γ) => kX2 n F Γ x y
  | .exc x Γ => .exc x Γ
  | .bad => .bad
theorem kX1_ok : kX1 n F x (.ok (y, Γ)) = kX2 n F Γ x y := rfl
theorem kX1_ex : kX1 n F x (.exc xc Γ) = .exc xc Γ := rfl
def kX0 (n : Nat) (F : FV) (e2 : EV) : R (D × Env) → R (D × Env)
  | .ok (x, Γ) => kX1 n F x (e2 Γ)
  | .exc x Γ => .exc x Γ
  | .bad => .bad
theorem kX0_ok : kX0 n F e2 (.ok (x, Γ)) = kX1 n F x (e2 Γ) := rfl
theorem kX0_ex : kX0 n F e2 (.exc xc Γ) = .exc xc Γ := rfl
theorem eOwnX_ap : eOwnX n F e1 e2 Γ = kX0 n F e2 (e1 Γ) := by
  unfold eOwnX
  cases e1 Γ with
  | ok r =>
    obtain ⟨x, Γ1⟩ := r
    show (e2 Γ1).bind _ = kX1 n F x (e2 Γ1)
    cases e2 Γ1 with
    | ok r =>
      obtain ⟨y, Γ2⟩ := r
      cases x with
      | ins c1 u =>
        show (if c1 = n then _ else _) = (if c1 = n then _ else _)
        rw [← bind_cd]
      | _ => rfl
    | exc x Γ => rfl
    | bad => rfl
  | exc x Γ => rfl
  | bad => rfl
def kBT4 (Γ : Env) (f : D → List D → Option D) : Option D → Option (List D) → R (D × Env)
  | some x, some ys => kR Γ (f x ys)
  | _, _ => .bad
theorem kBT4_s : kBT4 Γ f (some x) (some ds) = kR Γ (f x ds) := rfl
def kBT3 (f : D → List D → Option D) (p : PV) : R (List PV × Env) → R (D × Env)
  | .ok (ps, Γ) => kBT4 Γ f (rd Γ p) (rds Γ ps)
  | .exc x Γ => .exc x Γ
  | .bad => .bad
theorem kBT3_ok : kBT3 f p (.ok (ps, Γ)) = kBT4 Γ f (rd Γ p) (rds Γ ps) := rfl
theorem kBT3_ex : kBT3 f p (.exc xc Γ) = .exc xc Γ := rfl
def kBT2 (kd : D → Bool) (f : D → List D → Option D) (av : AV) (Γ : Env) (p : PV) : Option D → R (D × Env)
  | some x => if kd x = true then kBT3 f p (av Γ) else .bad
  | none => .bad
theorem kBT2_s (h : kd x = true) : kBT2 kd f av Γ p (some x) = kBT3 f p (av Γ) := if_pos h
def kBT1 (kd : D → Bool) (f : D → List D → Option D) (av : AV) : R (PV × Env) → R (D × Env)
  | .ok (p, Γ) => kBT2 kd f av Γ p (rd Γ p)
  | .exc x Γ => .exc x Γ
  | .bad => .bad
theorem kBT1_ok : kBT1 kd f av (.ok (p, Γ)) = kBT2 kd f av Γ p (rd Γ p) := rfl
theorem kBT1_ex : kBT1 kd f av (.exc xc Γ) = .exc xc Γ := rfl
theorem eBMT_ap : eBMT kd f a av Γ = kBT1 kd f av (a Γ) := by
  unfold eBMT
  cases a Γ with
  | ok r =>
    obtain ⟨p, Γ1⟩ := r
    show (match rd Γ1 p with | some x0 => _ | none => _) = kBT2 kd f av Γ1 p (rd Γ1 p)
    cases rd Γ1 p with
    | none => rfl
    | some x0 =>
      show (if kd x0 = true then _ else _) = (if kd x0 = true then _ else _)
      congr 1
      cases av Γ1 with
      | ok r =>
        obtain ⟨ps, Γ2⟩ := r
        show (match rd Γ2 p, rds Γ2 ps with | some x, some ys => (R.of (f x ys)).bind fun d => R.ok (d, Γ2) | _, _ => R.bad) = kBT4 Γ2 f (rd Γ2 p) (rds Γ2 ps)
        unfold kBT4
        cases rd Γ2 p with
        | none => rfl
        | some x => cases rds Γ2 ps with
          | none => rfl
          | some ys =>
            show (R.of (f x ys)).bind _ = kR Γ2 (f x ys)
            cases f x ys <;> rfl
      | exc x Γ => rfl
      | bad => rfl
  | exc x Γ => rfl
  | bad => rfl
theorem at_4 {α : Type} {u0 u1 u2 u3 u4 : α} {l : List α} : at1 (u0 :: u1 :: u2 :: u3 :: u4 :: l) 4 = some u4 := at_nat (k := 4)
theorem at_5 {α : Type} {u0 u1 u2 u3 u4 u5 : α} {l : List α} : at1 (u0 :: u1 :: u2 :: u3 :: u4 :: u5 :: l) 5 = some u5 := at_nat (k := 5)
theorem at_6 {α : Type} {u0 u1 u2 u3 u4 u5 u6 : α} {l : List α} : at1 (u0 :: u1 :: u2 :: u3 :: u4 :: u5 :: u6 :: l) 6 = some u6 := at_nat (k := 6)
theorem at_7 {α : Type} {u0 u1 u2 u3 u4 u5 u6 u7 : α} {l : List α} : at1 (u0 :: u1 :: u2 :: u3 :: u4 :: u5 :: u6 :: u7 :: l) 7 = some u7 := at_nat (k := 7)
theorem at_8 {α : Type} {u0 u1 u2 u3 u4 u5 u6 u7 u8 : α} {l : List α} : at1 (u0 :: u1 :: u2 :: u3 :: u4 :: u5 :: u6 :: u7 :: u8 :: l) 8 = some u8 := at_nat (k := 8)
theorem at_9 {α : Type} {u0 u1 u2 u3 u4 u5 u6 u7 u8 u9 : α} {l : List α} : at1 (u0 :: u1 :: u2 :: u3 :: u4 :: u5 :: u6 :: u7 :: u8 :: u9 :: l) 9 = some u9 := at_nat (k := 9)
theorem at_10 {α : Type} {u0 u1 u2 u3 u4 u5 u6 u7 u8 u9 u10 : α} {l : List α} : at1 (u0 :: u1 :: u2 :: u3 :: u4 :: u5 :: u6 :: u7 :: u8 :: u9 :: u10 :: l) 10 = some u10 := at_nat (k := 10)
theorem at_11 {α : Type} {u0 u1 u2 u3 u4 u5 u6 u7 u8 u9 u10 u11 : α} {l : List α} : at1 (u0 :: u1 :: u2 :: u3 :: u4 :: u5 :: u6 :: u7 :: u8 :: u9 :: u10 :: u11 :: l) 11 = some u11 := at_nat (k := 11)
theorem at_12 {α : Type} {u0 u1 u2 u3 u4 u5 u6 u7 u8 u9 u10 u11 u12 : α} {l : List α} : at1 (u0 :: u1 :: u2 :: u3 :: u4 :: u5 :: u6 :: u7 :: u8 :: u9 :: u10 :: u11 :: u12 :: l) 12 = some u12 := at_nat (k := 12)
theorem at_13 {α : Type} {u0 u1 u2 u3 u4 u5 u6 u7 u8 u9 u10 u11 u12 u13 : α} {l : List α} : at1 (u0 :: u1 :: u2 :: u3 :: u4 :: u5 :: u6 :: u7 :: u8 :: u9 :: u10 :: u11 :: u12 :: u13 :: l) 13 = some u13 := at_nat (k := 13)
theorem dAdd_L {a b : List D} (h : a.length + b.length ≤ 16777216) : dAdd (.lst a) (.lst b) = some (.lst (a ++ b)) := if_pos h
theorem dAdd_T {a b : List D} (h : a.length + b.length ≤ 16777216) : dAdd (.tup a) (.tup b) = some (.tup (a ++ b)) := if_pos h
theorem dCat_L {a b : List D} (h : a.length + b.length ≤ 16777216) : dCat (.lst a) (.lst b) = some (.lst (a ++ b)) := if_pos h
theorem dIsN_n : dIsN .non .non = some (.bl true) := rfl
theorem dIsN_l : dIsN (.lst ds) .non = some (.bl false) := rfl
theorem dIsN_t : dIsN (.tup ds) .non = some (.bl false) := rfl
theorem dIsN_i {v : Int} : dIsN (.int v) .non = some (.bl false) := rfl
theorem dIsN_s {v : Str} : dIsN (.str v) .non = some (.bl false) := rfl
theorem dNotN_n : dNotN .non .non = some (.bl false) := rfl
theorem dNotN_l : dNotN (.lst ds) .non = some (.bl true) := rfl
theorem dNotN_t : dNotN (.tup ds) .non = some (.bl true) := rfl
theorem dNotN_i {v : Int} : dNotN (.int v) .non = some (.bl true) := rfl
theorem dNotN_s {v : Str} : dNotN (.str v) .non = some (.bl true) := rfl
theorem dBAnd_i {u v : Int} : dBAnd (.int u) (.int v) = some (.int (Builtin.bitAnd u v)) := rfl
theorem dBOr_i {u v : Int} : dBOr (.int u) (.int v) = some (.int (Builtin.bitOr u v)) := rfl
theorem dMin2_i {u v : Int} : dMin2 [.int u, .int v] = some (.int (if v < u then v else u)) := rfl
theorem dMax2_i {u v : Int} : dMax2 [.int u, .int v] = some (.int (if v > u then v else u)) := rfl
theorem dCut_l2 {lo hi : Option Int} : dCut (.lst ds) lo hi = some (.lst (cut ds lo hi)) := rfl
theorem dCut_t {lo hi : Option Int} : dCut (.tup ds) lo hi = some (.tup (cut ds lo hi)) := rfl
theorem dCut_c {lo hi : Option Int} {ns : List Int} : dCut (.scr ns) lo hi = some (.lst ((cut ns lo hi).map .int)) := rfl
end
/-! lists -/
section
variable {α β : Type}
theorem at_getD {α : Type} {l : List α} {k : Int} {d : α} (h : 0 ≤ k) (h2 : k < l.length) : at1 l k = some (l.getD k.toNat d) := by
  unfold at1 ixN
  rw [if_pos h, if_pos h2]
  show l[k.toNat]? = _
  rw [List.getD_eq_getElem?_getD, List.getElem?_eq_getElem (by omega)]; rfl
theorem at_some {l : List α} {k : Int} {x : α} (h : 0 ≤ k) (h2 : l[k.toNat]? = some x) : at1 l k = some x := by
  have : k.toNat < l.length := (List.getElem?_eq_some_iff.mp h2).1
  unfold at1 ixN
  rw [if_pos h, if_pos (by omega)]
  exact h2
theorem at_mapn {f : α → β} {l : List α} {i : Nat} {x : α} (h : l[i]? = some x) : at1 (l.map f) (i : Int) = some (f x) := by
  refine at_some (by omega) ?_
  rw [List.getElem?_map]
  show (l[(i : Int).toNat]?).map f = _
  rw [Int.toNat_natCast, h]; rfl
/-- an item of a list of numbers, texts .. at a place -/
theorem at_map {f : α → β} {l : List α} {k : Int} (d : α) (h : 0 ≤ k) (h2 : k < l.length) : at1 (l.map f) k = some (f (l.getD k.toNat d)) := by
  refine at_some h ?_
  rw [List.getElem?_map, List.getD_eq_getElem?_getD, List.getElem?_eq_getElem (by omega)]; rfl
theorem getD_mem {l : List α} {k : Nat} {d : α} (h : k < l.length) : l.getD k d ∈ l := by
  rw [List.getD_eq_getElem?_getD, List.getElem?_eq_getElem h]
  exact List.getElem_mem h
theorem take_s {l : List α} {i : Nat} {p : α} (h : l[i]? = some p) : l.take (i + 1) = l.take i ++ [p] := by
  rw [List.take_succ, h]; rfl
theorem get_mem {l : List α} {i : Nat} {p : α} (h : l[i]? = some p) : p ∈ l := List.mem_of_getElem? h
theorem get_lt {l : List α} {i : Nat} {p : α} (h : l[i]? = some p) : i < l.length := (List.getElem?_eq_some_iff.mp h).1
theorem map_app1 (f : α → β) (xs : List α) (x : α) : xs.map f ++ [f x] = (xs ++ [x]).map f := by simp
theorem fm_lt (a : Int) {m : Int} (h : 0 < m) : 0 ≤ a.fmod m ∧ a.fmod m < m := ⟨Int.fmod_nonneg_of_pos a h, Int.fmod_lt_of_pos a h⟩
theorem rngB_of {n : Int} (h : -100000 ≤ n) (h2 : n < 1000000000) : rngB n = true := by
  unfold rngB
  rw [decide_eq_true (by omega), decide_eq_true (by omega)]; rfl
theorem cut_to {l : List α} {k : Int} (h : 0 ≤ k) : cut l none (some k) = l.take k.toNat := by
  unfold cut slI
  dsimp only
  rw [if_neg (by omega), List.drop_zero, Nat.sub_zero, List.take_eq_take_iff]
  omega
theorem cut_from {l : List α} {k : Int} (h : 0 ≤ k) : cut l (some k) none = l.drop k.toNat := by
  unfold cut slI
  dsimp only
  rw [if_neg (by omega), List.take_of_length_le (by rw [List.length_drop]; omega)]
  by_cases hk : k.toNat ≤ l.length
  · rw [Nat.min_eq_left hk]
  · rw [Nat.min_eq_right (by omega), List.drop_eq_nil_of_le (by omega), List.drop_eq_nil_of_le (by omega)]
theorem cut_mid {l : List α} {j k : Int} (h : 0 ≤ j) (h2 : 0 ≤ k) : cut l (some j) (some k) = (l.drop j.toNat).take (k.toNat - j.toNat) := by
  unfold cut slI
  dsimp only
  rw [if_neg (by omega), if_neg (by omega)]
  by_cases hj : j.toNat ≤ l.length
  · rw [Nat.min_eq_left (show j.toNat ≤ l.length from hj), List.take_eq_take_iff, List.length_drop]
    omega
  · have e1 : l.drop l.length = [] := List.drop_eq_nil_of_le (Nat.le_refl _)
    have e2 : l.drop j.toNat = [] := List.drop_eq_nil_of_le (by omega)
    rw [Nat.min_eq_right (show l.length ≤ j.toNat by omega), e1, e2]
    simp
end
/-! membership among texts -/
theorem all_flat_s (xs : List Str) : (xs.map D.str).all flat = true := by induction xs with
  | nil => rfl
  | cons x xs ih => rw [List.map_cons, List.all_cons, ih]; rfl
theorem any_s (x : Str) (xs : List Str) : ((xs.map D.str).any fun y => deq y (.str x)) = decide (x ∈ xs) := by
  induction xs with
  | nil => simp
  | cons y xs ih =>
    rw [List.map_cons, List.any_cons, ih]
    have e : deq (.str y) (.str x) = (y == x) := by simp [deq]
    rw [e]
    by_cases h : y = x
    · subst h; simp
    · have h2 : x ≠ y := fun z => h z.symm
      simp [h, h2]
theorem isIn_sl {x : Str} {xs : List Str} : isIn (.str x) (.lst (xs.map .str)) = some (decide (x ∈ xs)) := by
  unfold isIn
  dsimp only
  rw [all_flat_s, any_s]; rfl
theorem isIn_st {x : Str} {xs : List Str} : isIn (.str x) (.tup (xs.map .str)) = some (decide (x ∈ xs)) := by
  unfold isIn
  dsimp only
  rw [all_flat_s, any_s]; rfl
theorem dIn_sl {x : Str} {xs : List Str} : dIn (.str x) (.lst (xs.map .str)) = some (.bl (decide (x ∈ xs))) := by unfold dIn; rw [isIn_sl]; rfl
theorem dIn_st {x : Str} {xs : List Str} : dIn (.str x) (.tup (xs.map .str)) = some (.bl (decide (x ∈ xs))) := by unfold dIn; rw [isIn_st]; rfl
theorem dNin_sl {x : Str} {xs : List Str} : dNin (.str x) (.lst (xs.map .str)) = some (.bl (!decide (x ∈ xs))) := by unfold dNin; rw [isIn_sl]; rfl
theorem dNin_st {x : Str} {xs : List Str} : dNin (.str x) (.tup (xs.map .str)) = some (.bl (!decide (x ∈ xs))) := by unfold dNin; rw [isIn_st]; rfl
theorem all_flat_i (xs : List Int) : (xs.map D.int).all flat = true := by induction xs with
  | nil => rfl
  | cons x xs ih => rw [List.map_cons, List.all_cons, ih]; rfl
theorem any_i (x : Int) (xs : List Int) : ((xs.map D.int).any fun y => deq y (.int x)) = decide (x ∈ xs) := by
  induction xs with
  | nil => simp
  | cons y xs ih =>
    rw [List.map_cons, List.any_cons, ih]
    have e : deq (.int y) (.int x) = (y == x) := by simp [deq]
    rw [e]
    by_cases h : y = x
    · subst h; simp
    · have h2 : x ≠ y := fun z => h z.symm
      simp [h, h2]
theorem dIn_il {x : Int} {xs : List Int} : dIn (.int x) (.lst (xs.map .int)) = some (.bl (decide (x ∈ xs))) := by
  unfold dIn isIn
  dsimp only
  rw [all_flat_i, any_i]; rfl
theorem dNin_il {x : Int} {xs : List Int} : dNin (.int x) (.lst (xs.map .int)) = some (.bl (!decide (x ∈ xs))) := by
  unfold dNin isIn
  dsimp only
  rw [all_flat_i, any_i]; rfl
/-! equality of plain data -/
def okS (s : Str) : Prop := s.cps.all (· < 0x110000) = true
mutual
theorem deq_refl : ∀ d : D, (∀ n, okDat n d = true → deq d d = true)
  | .non, n, _ => by simp [deq]
  | .bl b, n, _ => by simp [deq]
  | .int b, n, _ => by simp [deq]
  | .str b, n, _ => by simp [deq]
  | .lst xs, 0, h => by simp [okDat] at h
  | .tup xs, 0, h => by simp [okDat] at h
  | .lst xs, n + 1, h => by
    rw [deq]; exact deqs_refl xs n (by rw [okDat] at h; exact h)
  | .tup xs, n + 1, h => by
    rw [deq]; exact deqs_refl xs n (by rw [okDat] at h; exact h)
  | .dct _, n, h => by cases n <;> simp [okDat] at h
  | .ins _ _, n, h => by cases n <;> simp [okDat] at h
  | .scr _, n, h => by cases n <;> simp [okDat] at h
theorem deqs_refl : ∀ ds : List D, (∀ n, ds.all (okDat n) = true → deqs ds ds = true)
  | [], n, _ => by rw [deqs]
  | d :: ds, n, h => by
    rw [List.all_cons, Bool.and_eq_true] at h
    rw [deqs, deq_refl d n h.1, deqs_refl ds n h.2]; rfl
end
theorem dEq_refl {d : D} (h : okDat 60 d = true) : dEq d d = some (.bl true) := by
  unfold dEq
  rw [h, deq_refl d 60 h]; simp
theorem dNe_refl {d : D} (h : okDat 60 d = true) : dNe d d = some (.bl false) := by
  unfold dNe
  rw [h, deq_refl d 60 h]; simp
theorem ok_sl {n : Nat} {xs : List Str} (h : ∀ x ∈ xs, okS x) : (xs.map D.str).all (okDat n) = true := by
  rw [List.all_map, List.all_eq_true]
  intro x hx
  have := h x hx
  unfold okS at this
  cases n <;> exact this
theorem ok_sL {n : Nat} {xs : List Str} (h : ∀ x ∈ xs, okS x) : okDat (n + 1) (sL xs) = true := by rw [okDat]; exact ok_sl h
theorem ok_sT {n : Nat} {xs : List Str} (h : ∀ x ∈ xs, okS x) : okDat (n + 1) (sT xs) = true := by rw [okDat]; exact ok_sl h
theorem ok_map {α : Type} {n : Nat} {f : α → D} {xs : List α} (h : ∀ x ∈ xs, okDat n (f x) = true) : (xs.map f).all (okDat n) = true := by
  rw [List.all_map, List.all_eq_true]
  exact h
theorem deqs_s : ∀ (xs ys : List Str), deqs (xs.map .str) (ys.map .str) = decide (xs = ys)
  | [], [] => by simp [deqs]
  | [], y :: ys => by simp [deqs]
  | x :: xs, [] => by simp [deqs]
  | x :: xs, y :: ys => by
    rw [List.map_cons, List.map_cons, deqs, deqs_s xs ys]
    have e : deq (.str x) (.str y) = (x == y) := by simp [deq]
    rw [e]
    by_cases h : x = y
    · subst h; simp
    · simp [h]
theorem deqs_i : ∀ (xs ys : List Int), deqs (xs.map .int) (ys.map .int) = decide (xs = ys)
  | [], [] => by simp [deqs]
  | [], y :: ys => by simp [deqs]
  | x :: xs, [] => by simp [deqs]
  | x :: xs, y :: ys => by
    rw [List.map_cons, List.map_cons, deqs, deqs_i xs ys]
    have e : deq (.int x) (.int y) = (x == y) := by simp [deq]
    rw [e]
    by_cases h : x = y
    · subst h; simp
    · simp [h]
theorem dEq_sL {xs ys : List Str} (h : ∀ x ∈ xs, okS x) (h2 : ∀ x ∈ ys, okS x) : dEq (.lst (xs.map .str)) (.lst (ys.map .str)) = some (.bl (decide (xs = ys))) := by
  unfold dEq
  have a : okDat 60 (.lst (xs.map .str)) = true := ok_sL h
  have b : okDat 60 (.lst (ys.map .str)) = true := ok_sL h2
  rw [a, b, deq, deqs_s]; simp
theorem dNe_sL {xs ys : List Str} (h : ∀ x ∈ xs, okS x) (h2 : ∀ x ∈ ys, okS x) : dNe (.lst (xs.map .str)) (.lst (ys.map .str)) = some (.bl (!decide (xs = ys))) := by
  unfold dNe
  have a : okDat 60 (.lst (xs.map .str)) = true := ok_sL h
  have b : okDat 60 (.lst (ys.map .str)) = true := ok_sL h2
  rw [a, b, deq, deqs_s]; simp
end Ed

set_option autoImplicit true
set_option Elab.async false
set_option linter.all false
set_option maxRecDepth 100000
set_option exponentiation.threshold 10000
set_option maxHeartbeats 4000000
namespace K24
open PySem Ed
def sg_pair_mask_0 (fu : Nat) : SV := (sSeq (sIf (tE (eB dEq (pN 0) (pE (eC (.str "both")))))
    (sRet (eN 3))
    sNext)
  (sSeq (sIf (tE (eB dEq (pN 0) (pE (eC (.str "either")))))
    (sRet (eB dBOr (pN 1) (pN 2)))
    sNext)
  (sSeq (sIf (eOr (tE (eB dEq (pN 3) (pN 1))) (tE (eB dEq (pN 3) (pN 2))))
    (sRet (eC (.int 0)))
    sNext)
  (sRet (eB dSub (pN 1) (pN 3))))))
def sv_pair_mask (fu : Nat) : SV := (sSeq (sSet 3 (eB dBAnd (pN 1) (pN 2)))
  (sSeq (sIf (tE (eB dEq (pN 3) (pE (eC (.int 0)))))
    (sRet (eC (.int 0)))
    sNext)
  (sg_pair_mask_0 fu)))
def F_pair_mask (fu : Nat) : FV := runF [true, true, true] 1 (sv_pair_mask fu)
def sv_is_pair_step (fu : Nat) : SV := (sRet (eB dIn (pE (eB dIx (pN 0) (pE (eC (.int 0))))) (pE (eTup (lCons (eC (.str "both")) (lCons (eC (.str "either")) (lCons (eC (.str "first")) lNil)))))))
def F_is_pair_step (fu : Nat) : FV := runF [true] 0 (sv_is_pair_step fu)
def lb_mask_of_0 (fu : Nat) : SV := (sIf (tE (eB dIn (pE (eB dIx (pN 0) (pN 3))) (pN 1)))
    (sSet 2 (eB dAdd (pN 2) (pE (eB dIx (pE (eC (.tup [.int 1, .int 2, .int 4, .int 8, .int 16, .int 32, .int 64, .int 128, .int 256, .int 512, .int 1024, .int 2048]))) (pN 3)))))
    sNext)
def sv_mask_of (fu : Nat) : SV := (sSeq (sSet 2 (eC (.int 0)))
  (sSeq (sFor (gN 3) (iRg1 (pE (eF (o1 dLen) (aCons (pN 0) aNil)))) (lb_mask_of_0 fu))
  (sRet (eN 2))))
def F_mask_of (fu : Nat) : FV := runF [true, true] 2 (sv_mask_of fu)
def el_bits_0 (fu : Nat) : EV := (eN 1)
def et_bits_1 (fu : Nat) : TV := (tE (eB dNe (pE (eB dBAnd (pN 0) (pE (eB dIx (pE (eC (.tup [.int 1, .int 2, .int 4, .int 8, .int 16, .int 32, .int 64, .int 128, .int 256, .int 512, .int 1024, .int 2048]))) (pN 1))))) (pE (eC (.int 0)))))
def sv_bits (fu : Nat) : SV := (sRetO (eLc [1] (iRg1 (pE (eF (o1 dLen) (aCons (pE (eC (.tup [.int 1, .int 2, .int 4, .int 8, .int 16, .int 32, .int 64, .int 128, .int 256, .int 512, .int 1024, .int 2048]))) aNil)))) (gN 1) (et_bits_1 fu) (el_bits_0 fu)))
def F_bits (fu : Nat) : FV := runF [true] 1 (sv_bits fu)
def el_names_of_0 (fu : Nat) : EV := (eB dIx (pN 0) (pN 2))
def sv_names_of (fu : Nat) : SV := (sRet (eF (o1 dTup) (aCons (pE (eLc [2] (iSeq (eCall (F_bits fu) [true] (aCons (pN 1) aNil))) (gN 2) tYs (el_names_of_0 fu))) aNil)))
def F_names_of (fu : Nat) : FV := runF [true, true] 1 (sv_names_of fu)
def sv_full_mask (fu : Nat) : SV := (sRet (eF (o1 dSumT) (aCons (pE (eSl dCut (pE (eC (.tup [.int 1, .int 2, .int 4, .int 8, .int 16, .int 32, .int 64, .int 128, .int 256, .int 512, .int 1024, .int 2048]))) none (some (pN 0)))) aNil)))
def F_full_mask (fu : Nat) : FV := runF [true] 0 (sv_full_mask fu)
def el_is_name_0 (fu : Nat) : EV := (eB dIn (pN 1) (pE (eC (.str "abcdefghijklmnopqrstuvwxyz"))))
def sv_is_name (fu : Nat) : SV := (sSeq (sIf (eNot (tE (eChain dLe dLe (pE (eC (.int 1))) (pE (eF (o1 dLen) (aCons (pN 0) aNil))) (pE (eC (.int 8))))))
    (sRet (eC (.bl false)))
    sNext)
  (sRet (eF (o1 dAll) (aCons (pE (eLc [1] (iSgn (pN 0)) (gN 1) tYs (el_is_name_0 fu))) aNil))))
def F_is_name (fu : Nat) : FV := runF [true] 1 (sv_is_name fu)
def lb_first_misnamed_0 (fu : Nat) : SV := (sIf (eOr (eNot (tE (eCall (F_is_name fu) [true] (aCons (pE (eB dIx (pN 0) (pN 1))) aNil)))) (tE (eB dIn (pE (eB dIx (pN 0) (pN 1))) (pE (eSl dCut (pN 0) none (some (pN 1)))))))
    (sRet (eN 1))
    sNext)
def sv_first_misnamed (fu : Nat) : SV := (sSeq (sFor (gN 1) (iRg1 (pE (eF (o1 dLen) (aCons (pN 0) aNil)))) (lb_first_misnamed_0 fu))
  (sRet (eU dNeg (pE (eC (.int 1))))))
def F_first_misnamed (fu : Nat) : FV := runF [true] 1 (sv_first_misnamed fu)
def lb_is_row_0 (fu : Nat) : SV := (sIf (eOr (tE (eB dNin (pE (eB dIx (pN 1) (pN 2))) (pN 0))) (tE (eB dIn (pE (eB dIx (pN 1) (pN 2))) (pE (eSl dCut (pN 1) none (some (pN 2)))))))
    (sRet (eC (.bl false)))
    sNext)
def sv_is_row (fu : Nat) : SV := (sSeq (sFor (gN 2) (iRg1 (pE (eF (o1 dLen) (aCons (pN 1) aNil)))) (lb_is_row_0 fu))
  (sRet (eC (.bl true))))
def F_is_row (fu : Nat) : FV := runF [true, true] 1 (sv_is_row fu)
def el_common_names_0 (fu : Nat) : EV := (eN 2)
def et_common_names_1 (fu : Nat) : TV := (tE (eB dIn (pN 2) (pN 1)))
def sv_common_names (fu : Nat) : SV := (sRetO (eLc [2] (iN 0) (gN 2) (et_common_names_1 fu) (el_common_names_0 fu)))
def F_common_names (fu : Nat) : FV := runF [true, true] 1 (sv_common_names fu)
def lb_TableD_initD_0 (fu : Nat) : SV := (sIf (eNot (tE (eCall (F_is_row fu) [true, true] (aCons (pN 1) (aCons (pE (eB dIx (pN 2) (pN 4))) aNil)))))
    (sRaise 1 [0, 1] (lCons (eC (.str "row")) (lCons (eN 4) lNil)))
    sNext)
def el_TableD_initD_1 (fu : Nat) : EV := (eF (o1 dTup) (aCons (pE (eCall (F_common_names fu) [true, true] (aCons (pN 1) (aCons (pN 5) aNil)))) aNil))
def sg_TableD_initD_2 (fu : Nat) : SV := (sSeq (sIf (tE (eB dGt (pE (eF (o1 dLen) (aCons (pN 2) aNil))) (pE (eC (.int 48)))))
    (sRaise 1 [0, 1] (lCons (eC (.str "rows")) (lCons (eC (.int 0)) lNil)))
    sNext)
  (sSeq (sFor (gN 4) (iRg1 (pE (eF (o1 dLen) (aCons (pN 2) aNil)))) (lb_TableD_initD_0 fu))
  (sSeq (sFld 0 2 (eF (o1 dTup) (aCons (pN 1) aNil)))
  (sFld 0 3 (eF (o1 dTup) (aCons (pE (eLc [5] (iN 2) (gN 5) tYs (el_TableD_initD_1 fu))) aNil))))))
def sv_TableD_initD (fu : Nat) : SV := (sSeq (sIf (tE (eB dGt (pE (eF (o1 dLen) (aCons (pN 1) aNil))) (pE (eC (.int 12)))))
    (sRaise 1 [0, 1] (lCons (eC (.str "columns")) (lCons (eC (.int 0)) lNil)))
    sNext)
  (sSeq (sSet 3 (eCall (F_first_misnamed fu) [true] (aCons (pN 1) aNil)))
  (sSeq (sIf (tE (eB dGe (pN 3) (pE (eC (.int 0)))))
    (sRaise 1 [0, 1] (lCons (eC (.str "column")) (lCons (eN 3) lNil)))
    sNext)
  (sg_TableD_initD_2 fu))))
def F_TableD_initD (fu : Nat) : List D → R (List (Nat × D)) := runI 0 [true, true] 3 (sv_TableD_initD fu)
def sv_TableD_getitemD (fu : Nat) : SV := (sSeq (sIf (eNot (tE (eChain dLe dLt (pE (eC (.int 0))) (pN 1) (pE (eF (o1 dLen) (aCons (pE (eFld 0 3 (eN 0))) aNil))))))
    (sRaise 2 [4] (lCons (eN 1) lNil))
    sNext)
  (sRet (eB dIx (pE (eFld 0 3 (eN 0))) (pN 1))))
def F_TableD_getitemD (fu : Nat) : FV := runF [false, false] 0 (sv_TableD_getitemD fu)
def sv_TableD_lenD (fu : Nat) : SV := (sRet (eF (o1 dLen) (aCons (pE (eFld 0 3 (eN 0))) aNil)))
def F_TableD_lenD (fu : Nat) : FV := runF [false] 0 (sv_TableD_lenD fu)
def sv_single_mask (fu : Nat) : SV := (sSeq (sIf (tE (eB dEq (pE (eB dIx (pN 1) (pE (eC (.int 0))))) (pE (eC (.str "all")))))
    (sRet (eCall (F_full_mask fu) [true] (aCons (pE (eF (o1 dLen) (aCons (pE (eFld 0 2 (eN 0))) aNil))) aNil)))
    sNext)
  (sSeq (sIf (tE (eB dEq (pE (eB dIx (pN 1) (pE (eC (.int 0))))) (pE (eC (.str "one")))))
    (sRet (eCall (F_mask_of fu) [true, true] (aCons (pE (eFld 0 2 (eN 0))) (aCons (pE (nLst (lCons (eB dIx (pN 1) (pE (eC (.int 1)))) lNil))) aNil))))
    sNext)
  (sSeq (sIf (tE (eChain dLe dLt (pE (eC (.int 0))) (pE (eB dIx (pN 1) (pE (eC (.int 1))))) (pE (eOwnC 0 isL (F_TableD_lenD fu) (eN 0)))))
    (sRet (eCall (F_mask_of fu) [true, true] (aCons (pE (eFld 0 2 (eN 0))) (aCons (pE (eOwnX 0 (F_TableD_getitemD fu) (eN 0) (eB dIx (pN 1) (pE (eC (.int 1)))))) aNil))))
    sNext)
  (sRet (eC (.int 0))))))
def F_single_mask (fu : Nat) : FV := runF [true, true] 0 (sv_single_mask fu)
def sv_step_mask (fu : Nat) : SV := (sSeq (sIf (eNot (tE (eCall (F_is_pair_step fu) [true] (aCons (pN 2) aNil))))
    (sRet (eCall (F_single_mask fu) [true, true] (aCons (pN 0) (aCons (pN 2) aNil))))
    sNext)
  (sSeq (sIf (eOr (eNot (tE (eChain dLe dLt (pE (eC (.int 0))) (pE (eB dIx (pN 2) (pE (eC (.int 1))))) (pE (eF (o1 dLen) (aCons (pN 1) aNil)))))) (eNot (tE (eChain dLe dLt (pE (eC (.int 0))) (pE (eB dIx (pN 2) (pE (eC (.int 2))))) (pE (eF (o1 dLen) (aCons (pN 1) aNil)))))))
    (sRet (eC (.int 0)))
    sNext)
  (sRet (eCall (F_pair_mask fu) [true, true, true] (aCons (pE (eB dIx (pN 2) (pE (eC (.int 0))))) (aCons (pE (eB dIx (pN 1) (pE (eB dIx (pN 2) (pE (eC (.int 1))))))) (aCons (pE (eB dIx (pN 1) (pE (eB dIx (pN 2) (pE (eC (.int 2))))))) aNil)))))))
def F_step_mask (fu : Nat) : FV := runF [true, true, true] 0 (sv_step_mask fu)
def lb_follow_0 (fu : Nat) : SV := (sSeq (sSet 4 (eCall (F_step_mask fu) [true, true, true] (aCons (pN 0) (aCons (pN 2) (aCons (pE (eB dIx (pN 1) (pN 3))) aNil)))))
  (sSeq (sIf (tE (eB dEq (pN 4) (pE (eC (.int 0)))))
    (sRaise 3 [1] (lCons (eN 3) lNil))
    sNext)
  (sApp 2 (eN 4))))
def el_follow_1 (fu : Nat) : EV := (eCall (F_names_of fu) [true, true] (aCons (pE (eFld 0 2 (eN 0))) (aCons (pN 4) aNil)))
def sv_follow (fu : Nat) : SV := (sSeq (sOwn 2 (nLst lNil))
  (sSeq (sFor (gN 3) (iRg1 (pE (eF (o1 dLen) (aCons (pN 1) aNil)))) (lb_follow_0 fu))
  (sRetO (eLc [4] (iN 2) (gN 4) tYs (el_follow_1 fu)))))
def F_follow (fu : Nat) : FV := runF [true, true] 3 (sv_follow fu)
def sv_law_cell (fu : Nat) : SV := (sSeq (sIf (tE (eB dLt (pN 1) (pE (eF (o1 dLen) (aCons (pN 0) aNil)))))
    (sRet (eB dIx (pN 0) (pN 1)))
    sNext)
  (sRet (eC (.int 0))))
def F_law_cell (fu : Nat) : FV := runF [true, true] 0 (sv_law_cell fu)
def lb_law_pool_0 (fu : Nat) : SV := (sSeq (sApp 4 (eB dMod (pE (eF (o1 dInt) (aCons (pN 3) aNil))) (pE (eC (.int 27720)))))
  (sSet 3 (eB dDiv (pN 3) (pE (eC (.int 27720))))))
def lb_law_pool_1 (fu : Nat) : SV := (sSeq (sSet 6 (eB dMod (pE (eF (o1 dInt) (aCons (pE (eB dAdd (pE (eB dAdd (pE (eB dAdd (pE (eB dMul (pN 3) (pE (eC (.int 48271))))) (pE (eB dMul (pE (eB dAdd (pN 5) (pE (eC (.int 1))))) (pE (eC (.int 69621))))))) (pE (eB dMul (pN 1) (pE (eC (.int 7919))))))) (pE (eC (.int 1234577))))) aNil))) (pE (eC (.int 2147483647)))))
  (sSeq (sSet 7 (eB dMod (pE (eF (o1 dInt) (aCons (pE (eB dAdd (pE (eB dAdd (pE (eB dMul (pN 6) (pN 6))) (pE (eB dMul (pN 3) (pE (eC (.int 16807))))))) (pN 5))) aNil))) (pE (eC (.int 2147483629)))))
  (sSeq (sSet 8 (eB dMod (pE (eF (o1 dInt) (aCons (pE (eB dAdd (pE (eB dMul (pN 7) (pN 7))) (pN 6))) aNil))) (pE (eC (.int 2147483587)))))
  (sApp 4 (eB dMod (pE (eF (o1 dInt) (aCons (pE (eB dDiv (pN 8) (pE (eC (.int 17))))) aNil))) (pE (eC (.int 27720))))))))
def sg_law_pool_2 (fu : Nat) : SV := (sSeq (sOwn 4 (nLst lNil))
  (sSeq (sIf (tE (eB dGe (pN 3) (pE (eB dPow (pE (eC (.int 10))) (pE (eC (.int 18)))))))
    (sSeq (sSet 3 (eB dSub (pN 3) (pE (eB dPow (pE (eC (.int 10))) (pE (eC (.int 18)))))))
  (sSeq (sFor (gN 5) (iRg1 (pN 2)) (lb_law_pool_0 fu))
  (sRetX 4)))
    sNext)
  (sSeq (sFor (gN 5) (iRg1 (pN 2)) (lb_law_pool_1 fu))
  (sRetX 4))))
def sv_law_pool (fu : Nat) : SV := (sSeq (sSet 3 (eF (o1 dAbs) (aCons (pE (eCall (F_law_cell fu) [true, true] (aCons (pN 0) (aCons (pN 1) aNil)))) aNil)))
  (sg_law_pool_2 fu))
def F_law_pool (fu : Nat) : FV := runF [true, true, true] 6 (sv_law_pool fu)
def sv_law_size (fu : Nat) : SV := (sSeq (sSet 2 (nLst (lCons (eC (.int 3)) (lCons (eC (.int 4)) (lCons (eC (.int 5)) (lCons (eC (.int 2)) (lCons (eC (.int 4)) (lCons (eC (.int 6)) (lCons (eC (.int 3)) (lCons (eC (.int 5)) (lCons (eC (.int 1)) (lCons (eC (.int 7)) (lCons (eC (.int 0)) (lCons (eC (.int 12)) (lCons (eC (.int 4)) (lCons (eC (.int 5)) (lCons (eC (.int 3)) (lCons (eC (.int 6)) (lCons (eC (.int 8)) (lCons (eC (.int 4)) (lCons (eC (.int 5)) (lCons (eC (.int 9)) (lCons (eC (.int 10)) (lCons (eC (.int 4)) (lCons (eC (.int 7)) (lCons (eC (.int 11)) lNil))))))))))))))))))))))))))
  (sRet (eF dMin2 (aCons (pN 1) (aCons (pE (eB dIx (pN 2) (pE (eB dMod (pE (eF (o1 dInt) (aCons (pN 0) aNil))) (pE (eC (.int 24))))))) aNil)))))
def F_law_size (fu : Nat) : FV := runF [true, true] 1 (sv_law_size fu)
def sg_law_names_0 (fu : Nat) : SV := (sSeq (sSet 7 (eB dRepS (pE (eB dIx (pE (eC (.str "mnopqrstuvwxyz"))) (pE (eB dMod (pE (eF (o1 dInt) (aCons (pE (eB dAdd (pE (eB dDiv (pN 1) (pE (eC (.int 12))))) (pN 5))) aNil))) (pE (eC (.int 14))))))) (pE (eB dMod (pE (eF (o1 dInt) (aCons (pE (eB dAdd (pE (eB dDiv (pN 1) (pE (eC (.int 5))))) (pE (eB dMul (pN 5) (pE (eC (.int 2))))))) aNil))) (pE (eC (.int 3)))))))
  (sSeq (sSet 8 (eB dRepS (pE (eB dIx (pE (eC (.str "zyxwvutsrqponm"))) (pE (eB dMod (pE (eF (o1 dInt) (aCons (pE (eB dAdd (pE (eB dDiv (pN 1) (pE (eC (.int 7))))) (pE (eB dMul (pN 5) (pE (eC (.int 3))))))) aNil))) (pE (eC (.int 14))))))) (pE (eB dMod (pE (eF (o1 dInt) (aCons (pE (eB dAdd (pE (eB dDiv (pN 1) (pE (eC (.int 11))))) (pN 5))) aNil))) (pE (eC (.int 4)))))))
  (sSeq (sIf (tE (eB dEq (pE (eB dMod (pE (eF (o1 dInt) (aCons (pN 1) aNil))) (pE (eC (.int 2))))) (pE (eC (.int 0)))))
    (sSeq (sSet 7 (eB dRepS (pE (eC (.str "m"))) (pE (eB dMod (pE (eF (o1 dInt) (aCons (pE (eB dDiv (pN 1) (pE (eC (.int 2))))) aNil))) (pE (eC (.int 3)))))))
  (sSet 8 (eB dRepS (pE (eC (.str "z"))) (pE (eB dMod (pE (eF (o1 dInt) (aCons (pE (eB dDiv (pN 1) (pE (eC (.int 6))))) aNil))) (pE (eC (.int 3))))))))
    sNext)
  (sApp 4 (eB dAdd (pE (eB dAdd (pN 7) (pN 6))) (pN 8))))))
def lb_law_names_1 (fu : Nat) : SV := (sSeq (sSet 6 (eB dIx (pE (eC (.str "abcdefghijkl"))) (pE (eB dMod (pE (eF (o1 dInt) (aCons (pE (eB dAdd (pE (eB dMul (pN 5) (pE (eC (.int 5))))) (pN 1))) aNil))) (pE (eC (.int 12)))))))
  (sg_law_names_0 fu))
def sv_law_names (fu : Nat) : SV := (sSeq (sIf (tE (eB dGt (pE (eB dMod (pE (eF (o1 dInt) (aCons (pN 1) aNil))) (pE (eC (.int 6))))) (pE (eC (.int 3)))))
    (sSeq (sSet 2 (nLst (lCons (eC (.str "ab")) (lCons (eC (.str "a")) (lCons (eC (.str "abc")) (lCons (eC (.str "aa")) (lCons (eC (.str "b")) (lCons (eC (.str "ba")) (lCons (eC (.str "aab")) (lCons (eC (.str "bb")) (lCons (eC (.str "abcdefg")) (lCons (eC (.str "abcdefh")) (lCons (eC (.str "aba")) (lCons (eC (.str "bab")) lNil))))))))))))))
  (sSeq (sIf (tE (eB dEq (pE (eB dMod (pE (eF (o1 dInt) (aCons (pN 1) aNil))) (pE (eC (.int 6))))) (pE (eC (.int 5)))))
    (sSet 2 (nLst (lCons (eC (.str "first")) (lCons (eC (.str "row")) (lCons (eC (.str "end")) (lCons (eC (.str "near")) (lCons (eC (.str "span")) (lCons (eC (.str "last")) (lCons (eC (.str "before")) (lCons (eC (.str "window")) (lCons (eC (.str "over")) (lCons (eC (.str "column")) (lCons (eC (.str "not")) (lCons (eC (.str "ask")) lNil))))))))))))))
    sNext)
  (sSeq (sSet 3 (eB dMod (pE (eF (o1 dInt) (aCons (pE (eB dDiv (pN 1) (pE (eC (.int 6))))) aNil))) (pE (eC (.int 12)))))
  (sRet (eSl dCut (pE (eB dAdd (pE (eSl dCut (pN 2) (some (pN 3)) none)) (pE (eSl dCut (pN 2) none (some (pN 3)))))) none (some (pN 0)))))))
    sNext)
  (sSeq (sOwn 4 (nLst lNil))
  (sSeq (sFor (gN 5) (iRg1 (pN 0)) (lb_law_names_1 fu))
  (sRetX 4))))
def F_law_names (fu : Nat) : FV := runF [true, true] 7 (sv_law_names fu)
def lb_law_order_0 (fu : Nat) : SV := (sSeq (sSet 6 (eB dMod (pE (eF (o1 dInt) (aCons (pE (eB dIx (pN 1) (pE (eB dAdd (pN 2) (pN 5))))) aNil))) (pE (eF (o1 dLen) (aCons (pN 3) aNil)))))
  (sSeq (sApp 4 (eB dIx (pN 3) (pN 6)))
  (sSet 3 (eB dAdd (pE (eSl dCut (pN 3) none (some (pN 6)))) (pE (eSl dCut (pN 3) (some (pE (eB dAdd (pN 6) (pE (eC (.int 1)))))) none))))))
def sv_law_order (fu : Nat) : SV := (sSeq (sSet 3 (eF (o1 dLst) (aCons (pN 0) aNil)))
  (sSeq (sOwn 4 (nLst lNil))
  (sSeq (sFor (gN 5) (iRg1 (pE (eF (o1 dLen) (aCons (pN 0) aNil)))) (lb_law_order_0 fu))
  (sRetX 4))))
def F_law_order (fu : Nat) : FV := runF [true, true, true] 4 (sv_law_order fu)
def lb_law_row_0 (fu : Nat) : SV := (sSeq (sIf (tE (eB dEq (pE (eB dMod (pE (eF (o1 dInt) (aCons (pN 2) aNil))) (pE (eC (.int 2))))) (pE (eC (.int 1)))))
    (sApp 4 (eN 5))
    sNext)
  (sSet 2 (eB dDiv (pN 2) (pE (eC (.int 2))))))
def sg_law_row_1 (fu : Nat) : SV := (sSeq (sSet 8 (eB dMod (pE (eF (o1 dInt) (aCons (pE (eB dDiv (pN 2) (pE (eC (.int 13))))) aNil))) (pN 6)))
  (sSeq (sOwn 4 (eSl dCutL (pN 1) (some (pN 7)) (some (pE (eB dAdd (pN 7) (pN 8))))))
  (sSeq (sSet 9 (eB dMod (pE (eF (o1 dInt) (aCons (pE (eB dDiv (pN 2) (pE (eC (.int 169))))) aNil))) (pN 6)))
  (sRet (eB dAdd (pE (eSl dCut (pN 4) (some (pN 9)) none)) (pE (eSl dCut (pN 4) none (some (pN 9)))))))))
def sv_law_row (fu : Nat) : SV := (sSeq (sOwn 4 (nLst lNil))
  (sSeq (sIf (tE (eN 3))
    (sSeq (sFor (gN 5) (iN 0) (lb_law_row_0 fu))
  (sRetX 4))
    sNext)
  (sSeq (sSet 6 (eB dAdd (pE (eF (o1 dLen) (aCons (pN 1) aNil))) (pE (eC (.int 1)))))
  (sSeq (sSet 7 (eB dMod (pE (eF (o1 dInt) (aCons (pN 2) aNil))) (pN 6)))
  (sg_law_row_1 fu)))))
def F_law_row (fu : Nat) : FV := runF [true, true, true, true] 6 (sv_law_row fu)
def lb_law_rows_0 (fu : Nat) : SV := (sSeq (sSet 8 (eOrV (eB dEq (pN 5) (pE (eC (.int 2)))) (eAndV (eB dEq (pN 5) (pE (eC (.int 1)))) (eB dEq (pN 7) (pE (eB dSub (pN 4) (pE (eC (.int 1)))))))))
  (sApp 6 (eCall (F_law_row fu) [true, true, true, true] (aCons (pN 0) (aCons (pN 1) (aCons (pE (eB dIx (pN 2) (pE (eB dAdd (pN 3) (pN 7))))) (aCons (pN 8) aNil)))))))
def sv_law_rows (fu : Nat) : SV := (sSeq (sOwn 6 (nLst lNil))
  (sSeq (sFor (gN 7) (iRg1 (pN 4)) (lb_law_rows_0 fu))
  (sRetX 6)))
def F_law_rows (fu : Nat) : FV := runF [true, true, true, true, true, true] 3 (sv_law_rows fu)
def el_law_sorted_0 (fu : Nat) : EV := (eN 2)
def et_law_sorted_1 (fu : Nat) : TV := (tE (eB dIn (pN 2) (pN 1)))
def sv_law_sorted (fu : Nat) : SV := (sRetO (eLc [2] (iN 0) (gN 2) (et_law_sorted_1 fu) (el_law_sorted_0 fu)))
def F_law_sorted (fu : Nat) : FV := runF [true, true] 1 (sv_law_sorted fu)
def sv_law_is_number (fu : Nat) : SV := (sRet (eAndV (eU (fun d => (isT2 .tInt d).map .bl) (pN 0)) (eAndV (eNotV (eU (fun d => (isT2 .tBool d).map .bl) (pN 0))) (eAndV (eB dLe (pN 1) (pN 0)) (eB dLe (pN 0) (pN 2))))))
def F_law_is_number (fu : Nat) : FV := runF [true, true, true] 0 (sv_law_is_number fu)
def el_law_step_0 (fu : Nat) : EV := (eN 8)
def et_law_step_1 (fu : Nat) : TV := (tE (eB dIn (pN 8) (pN 6)))
def el_law_step_2 (fu : Nat) : EV := (eN 8)
def et_law_step_3 (fu : Nat) : TV := (eOr (tE (eB dIn (pN 8) (pN 5))) (tE (eB dIn (pN 8) (pN 6))))
def el_law_step_4 (fu : Nat) : EV := (eN 8)
def et_law_step_5 (fu : Nat) : TV := (tE (eB dNin (pN 8) (pN 6)))
def sg_law_step_6 (fu : Nat) : SV := (sSeq (sIf (tE (eB dEq (pE (eB dIx (pN 0) (pE (eC (.int 0))))) (pE (eC (.str "both")))))
    (sRet (eN 7))
    sNext)
  (sSeq (sIf (tE (eB dEq (pE (eB dIx (pN 0) (pE (eC (.int 0))))) (pE (eC (.str "either")))))
    (sRet (eLc [8] (iN 2) (gN 8) (et_law_step_3 fu) (el_law_step_2 fu)))
    sNext)
  (sSeq (sIf (eAnd (tE (eB dEq (pE (eB dIx (pN 0) (pE (eC (.int 0))))) (pE (eC (.str "first"))))) (eAnd (tE (eB dLt (pE (eF (o1 dLen) (aCons (pN 7) aNil))) (pE (eF (o1 dLen) (aCons (pN 5) aNil))))) (tE (eB dLt (pE (eF (o1 dLen) (aCons (pN 7) aNil))) (pE (eF (o1 dLen) (aCons (pN 6) aNil)))))))
    (sRet (eLc [8] (iN 5) (gN 8) (et_law_step_5 fu) (el_law_step_4 fu)))
    sNext)
  (sRet (eC .non)))))
def sg_law_step_7 (fu : Nat) : SV := (sSeq (sSet 5 (eB dIx (pN 1) (pE (eB dIx (pN 0) (pE (eC (.int 1)))))))
  (sSeq (sSet 6 (eB dIx (pN 1) (pE (eB dIx (pN 0) (pE (eC (.int 2)))))))
  (sSeq (sOwn 7 (eLc [8] (iN 5) (gN 8) (et_law_step_1 fu) (el_law_step_0 fu)))
  (sSeq (sIf (tE (eB dEq (pE (eF (o1 dLen) (aCons (pN 7) aNil))) (pE (eC (.int 0)))))
    (sRet (eC .non))
    sNext)
  (sg_law_step_6 fu)))))
def sg_law_step_8 (fu : Nat) : SV := (sSeq (sIf (eAnd (tE (eB dEq (pE (eB dIx (pN 0) (pE (eC (.int 0))))) (pE (eC (.str "all"))))) (eAnd (tE (eB dEq (pE (eF (o1 dLen) (aCons (pN 0) aNil))) (pE (eC (.int 1))))) (tE (eB dGt (pE (eF (o1 dLen) (aCons (pN 2) aNil))) (pE (eC (.int 0)))))))
    (sRet (eF (o1 dLst) (aCons (pN 2) aNil)))
    sNext)
  (sSeq (sIf (eAnd (tE (eB dEq (pE (eB dIx (pN 0) (pE (eC (.int 0))))) (pE (eC (.str "one"))))) (eAnd (tE (eB dEq (pE (eF (o1 dLen) (aCons (pN 0) aNil))) (pE (eC (.int 2))))) (tE (eB dIn (pE (eB dIx (pN 0) (pE (eC (.int 1))))) (pN 2)))))
    (sRet (nLst (lCons (eB dIx (pN 0) (pE (eC (.int 1)))) lNil)))
    sNext)
  (sSeq (sIf (eAnd (tE (eB dEq (pE (eB dIx (pN 0) (pE (eC (.int 0))))) (pE (eC (.str "row"))))) (eAnd (tE (eB dEq (pE (eF (o1 dLen) (aCons (pN 0) aNil))) (pE (eC (.int 2))))) (tE (eCall (F_law_is_number fu) [true, true, true] (aCons (pE (eB dIx (pN 0) (pE (eC (.int 1))))) (aCons (pE (eC (.int 0))) (aCons (pE (eB dSub (pE (eF (o1 dLen) (aCons (pN 3) aNil))) (pE (eC (.int 1))))) aNil)))))))
    (sSeq (sSet 4 (eCall (F_law_sorted fu) [true, true] (aCons (pN 2) (aCons (pE (eB dIx (pN 3) (pE (eB dIx (pN 0) (pE (eC (.int 1))))))) aNil))))
  (sSeq (sIf (tE (eB dGt (pE (eF (o1 dLen) (aCons (pN 4) aNil))) (pE (eC (.int 0)))))
    (sRet (eN 4))
    sNext)
  (sRet (eC .non))))
    sNext)
  (sSeq (sIf (eOr (tE (eB dNe (pE (eF (o1 dLen) (aCons (pN 0) aNil))) (pE (eC (.int 3))))) (eOr (eNot (tE (eCall (F_law_is_number fu) [true, true, true] (aCons (pE (eB dIx (pN 0) (pE (eC (.int 1))))) (aCons (pE (eC (.int 0))) (aCons (pE (eB dSub (pE (eF (o1 dLen) (aCons (pN 1) aNil))) (pE (eC (.int 1))))) aNil)))))) (eNot (tE (eCall (F_law_is_number fu) [true, true, true] (aCons (pE (eB dIx (pN 0) (pE (eC (.int 2))))) (aCons (pE (eC (.int 0))) (aCons (pE (eB dSub (pE (eF (o1 dLen) (aCons (pN 1) aNil))) (pE (eC (.int 1))))) aNil))))))))
    (sRet (eC .non))
    sNext)
  (sg_law_step_7 fu)))))
def sv_law_step (fu : Nat) : SV := (sSeq (sIf (eOr (eNot (tE (eU (fun d => (isT2 .tTuple d).map .bl) (pN 0)))) (tE (eB dEq (pE (eF (o1 dLen) (aCons (pN 0) aNil))) (pE (eC (.int 0))))))
    (sRet (eC .non))
    sNext)
  (sg_law_step_8 fu))
def F_law_step (fu : Nat) : FV := runF [true, true, true, true] 5 (sv_law_step fu)
def sg_law_drawn_0 (fu : Nat) : SV := (sSeq (sIf (tE (eB dEq (pN 6) (pE (eC (.str "row")))))
    (sRet (eTup (lCons (eN 6) (lCons (eB dSub (pE (eB dMod (pE (eF (o1 dInt) (aCons (pN 4) aNil))) (pE (eB dAdd (pE (eF (o1 dLen) (aCons (pN 3) aNil))) (pE (eC (.int 2))))))) (pE (eC (.int 1)))) lNil))))
    sNext)
  (sSeq (sIf (tE (eB dEq (pN 6) (pE (eC (.str "one")))))
    (sSeq (sSet 7 (eB dAdd (pN 2) (pE (nLst (lCons (eC (.str "stranger")) lNil)))))
  (sRet (eTup (lCons (eN 6) (lCons (eB dIx (pN 7) (pE (eB dMod (pE (eF (o1 dInt) (aCons (pN 4) aNil))) (pE (eF (o1 dLen) (aCons (pN 7) aNil)))))) lNil)))))
    sNext)
  (sSeq (sIf (tE (eB dEq (pN 6) (pE (eC (.str "all")))))
    (sRet (eTup (lCons (eN 6) lNil)))
    sNext)
  (sRet (eTup (lCons (eN 6) (lCons (eB dSub (pE (eB dMod (pE (eF (o1 dInt) (aCons (pN 4) aNil))) (pE (eB dAdd (pN 1) (pE (eC (.int 2))))))) (pE (eC (.int 1)))) (lCons (eB dSub (pE (eB dMod (pE (eF (o1 dInt) (aCons (pN 5) aNil))) (pE (eB dAdd (pN 1) (pE (eC (.int 2))))))) (pE (eC (.int 1)))) lNil))))))))
def sv_law_drawn (fu : Nat) : SV := (sSeq (sSet 4 (eB dMod (pE (eF (o1 dInt) (aCons (pE (eB dDiv (pN 0) (pE (eC (.int 6))))) aNil))) (pE (eC (.int 50)))))
  (sSeq (sSet 5 (eB dMod (pE (eF (o1 dInt) (aCons (pE (eB dDiv (pN 0) (pE (eC (.int 300))))) aNil))) (pE (eC (.int 92)))))
  (sSeq (sSet 6 (eB dIx (pE (nLst (lCons (eC (.str "row")) (lCons (eC (.str "both")) (lCons (eC (.str "either")) (lCons (eC (.str "first")) (lCons (eC (.str "one")) (lCons (eC (.str "all")) lNil)))))))) (pE (eB dMod (pE (eF (o1 dInt) (aCons (pN 0) aNil))) (pE (eC (.int 6)))))))
  (sg_law_drawn_0 fu))))
def F_law_drawn (fu : Nat) : FV := runF [true, true, true, true] 4 (sv_law_drawn fu)
def lb_law_instead_0 (fu : Nat) : SV := (sIf (eAnd (tE (eB dGt (pN 5) (pE (eC (.int 0))))) (tE (eB dIn (pN 0) (pE (nLst (lCons (eC (.str "both")) (lCons (eC (.str "either")) (lCons (eC (.str "first")) lNil))))))))
    (sSeq (sSet 7 (eTup (lCons (eN 0) (lCons (eB dMod (pE (eF (o1 dInt) (aCons (pE (eB dAdd (pE (eB dDiv (pN 1) (pE (eC (.int 9))))) (pN 6))) aNil))) (pN 5)) (lCons (eB dMod (pE (eF (o1 dInt) (aCons (pE (eB dAdd (pE (eB dDiv (pN 1) (pE (eC (.int 360))))) (pE (eB dMul (pN 6) (pE (eC (.int 3))))))) aNil))) (pN 5)) lNil)))))
  (sIf (tE (eB dNotN (pE (eCall (F_law_step fu) [true, true, true, true] (aCons (pN 7) (aCons (pN 2) (aCons (pN 3) (aCons (pN 4) aNil)))))) (pE (eC .non))))
    (sRet (eN 7))
    sNext))
    sNext)
def el_law_instead_1 (fu : Nat) : EV := (eN 9)
def et_law_instead_2 (fu : Nat) : TV := (tE (eB dGt (pE (eF (o1 dLen) (aCons (pE (eB dIx (pN 4) (pN 9))) aNil))) (pE (eC (.int 0)))))
def sg_law_instead_3 (fu : Nat) : SV := (sSeq (sFor (gN 6) (iRg1 (pE (eC (.int 8)))) (lb_law_instead_0 fu))
  (sSeq (sOwn 8 (eLc [9] (iRg1 (pE (eF (o1 dLen) (aCons (pN 4) aNil)))) (gN 9) (et_law_instead_2 fu) (el_law_instead_1 fu)))
  (sSeq (sIf (eAnd (tE (eB dGt (pE (eF (o1 dLen) (aCons (pN 8) aNil))) (pE (eC (.int 0))))) (tE (eB dGt (pE (eB dMod (pE (eF (o1 dInt) (aCons (pN 1) aNil))) (pE (eC (.int 3))))) (pE (eC (.int 0))))))
    (sRet (eTup (lCons (eC (.str "row")) (lCons (eB dIx (pN 8) (pE (eB dMod (pE (eF (o1 dInt) (aCons (pE (eB dDiv (pN 1) (pE (eC (.int 9))))) aNil))) (pE (eF (o1 dLen) (aCons (pN 8) aNil)))))) lNil))))
    sNext)
  (sRet (eTup (lCons (eC (.str "one")) (lCons (eB dIx (pN 3) (pE (eB dMod (pE (eF (o1 dInt) (aCons (pE (eB dDiv (pN 1) (pE (eC (.int 9))))) aNil))) (pE (eF (o1 dLen) (aCons (pN 3) aNil)))))) lNil)))))))
def sv_law_instead (fu : Nat) : SV := (sSeq (sSet 5 (eF (o1 dLen) (aCons (pN 2) aNil)))
  (sg_law_instead_3 fu))
def F_law_instead (fu : Nat) : FV := runF [false, true, true, true, true] 5 (sv_law_instead fu)
def el_law_pair_0 (fu : Nat) : EV := (eN 6)
def et_law_pair_1 (fu : Nat) : TV := (tE (eB dIn (pN 6) (pE (eB dIx (pN 0) (pN 4)))))
def lb_law_pair_2 (fu : Nat) : SV := (sSeq (sOwn 5 (eLc [6] (iSeq (eB dIx (pN 0) (pN 3))) (gN 6) (et_law_pair_1 fu) (el_law_pair_0 fu)))
  (sSeq (sIf (eAnd (tE (eN 1)) (eAnd (tE (eB dEq (pE (eF (o1 dLen) (aCons (pN 5) aNil))) (pE (eF (o1 dLen) (aCons (pE (eB dIx (pN 0) (pN 4))) aNil))))) (tE (eB dLt (pE (eF (o1 dLen) (aCons (pN 5) aNil))) (pE (eF (o1 dLen) (aCons (pE (eB dIx (pN 0) (pN 3))) aNil)))))))
    (sRet (eTup (lCons (eN 3) (lCons (eN 4) lNil))))
    sNext)
  (sIf (eAnd (eNot (tE (eN 1))) (tE (eB dEq (pE (eF (o1 dLen) (aCons (pN 5) aNil))) (pE (eC (.int 0))))))
    (sRet (eTup (lCons (eN 3) (lCons (eN 4) lNil))))
    sNext)))
def lb_law_pair_3 (fu : Nat) : SV := (sFor (gN 4) (iRg2 (pE (eF dMax2 (aCons (pE (eC (.int 0))) (aCons (pE (eB dSub (pN 2) (pE (eC (.int 7))))) aNil)))) (pN 2)) (lb_law_pair_2 fu))
def sv_law_pair (fu : Nat) : SV := (sSeq (sSet 2 (eF (o1 dLen) (aCons (pN 0) aNil)))
  (sSeq (sFor (gN 3) (iRg2 (pE (eF dMax2 (aCons (pE (eC (.int 0))) (aCons (pE (eB dSub (pN 2) (pE (eC (.int 7))))) aNil)))) (pN 2)) (lb_law_pair_3 fu))
  (sRet (eTup (lCons (eC (.int 0)) (lCons (eN 2) lNil))))))
def F_law_pair (fu : Nat) : FV := runF [true, true] 5 (sv_law_pair fu)
def sg_law_bad_0 (fu : Nat) : SV := (sSeq (sSet 4 (nLst (lCons (eTup (lCons (eC (.str "both")) (lCons (eN 3) (lCons (eC (.int 0)) lNil)))) (lCons (eTup (lCons (eC (.str "either")) (lCons (eC (.int 0)) (lCons (eN 3) lNil)))) (lCons (eTup (lCons (eC (.str "row")) (lCons (eF (o1 dLen) (aCons (pN 2) aNil)) lNil))) (lCons (eTup (lCons (eC (.str "one")) (lCons (eC (.str "stranger")) lNil))) (lCons (eTup (lCons (eC (.str "first")) (lCons (eC (.int 0)) (lCons (eC (.int 0)) lNil)))) lNil)))))))
  (sSeq (sSet 4 (eB dAdd (pN 4) (pE (nLst (lCons (eTup (lCons (eC (.str "row")) (lCons (eU dNeg (pE (eC (.int 1)))) lNil))) (lCons (eTup (lCons (eC (.str "either")) (lCons (eU dNeg (pE (eC (.int 1)))) (lCons (eC (.int 0)) lNil)))) (lCons (eB dAdd (pE (eTup (lCons (eC (.str "first")) lNil))) (pE (eCall (F_law_pair fu) [true, true] (aCons (pN 1) (aCons (pE (eC (.bl true))) aNil))))) lNil)))))))
  (sSeq (sSet 4 (eB dAdd (pN 4) (pE (nLst (lCons (eB dAdd (pE (eTup (lCons (eC (.str "either")) lNil))) (pE (eCall (F_law_pair fu) [true, true] (aCons (pN 1) (aCons (pE (eC (.bl false))) aNil))))) (lCons (eB dAdd (pE (eTup (lCons (eC (.str "both")) lNil))) (pE (eCall (F_law_pair fu) [true, true] (aCons (pN 1) (aCons (pE (eC (.bl false))) aNil))))) lNil))))))
  (sRet (eB dIx (pN 4) (pE (eB dMod (pE (eF (o1 dInt) (aCons (pN 0) aNil))) (pE (eC (.int 10))))))))))
def sv_law_bad (fu : Nat) : SV := (sSeq (sSet 3 (eF (o1 dLen) (aCons (pN 1) aNil)))
  (sg_law_bad_0 fu))
def F_law_bad (fu : Nat) : FV := runF [true, true, true] 2 (sv_law_bad fu)
def lb_law_same_0 (fu : Nat) : SV := (sIf (eOr (eNot (tE (eU (fun d => (isT2 .tTuple d).map .bl) (pE (eB dIx (pN 0) (pN 2)))))) (tE (eB dNe (pE (eF (o1 dLst) (aCons (pE (eB dIx (pN 0) (pN 2))) aNil))) (pE (eB dIx (pN 1) (pN 2))))))
    (sRet (eC (.bl false)))
    sNext)
def sv_law_same (fu : Nat) : SV := (sSeq (sIf (eOr (eNot (tE (eU (fun d => (isT2 .tList d).map .bl) (pN 0)))) (tE (eB dNe (pE (eF (o1 dLen) (aCons (pN 0) aNil))) (pE (eF (o1 dLen) (aCons (pN 1) aNil))))))
    (sRet (eC (.bl false)))
    sNext)
  (sSeq (sFor (gN 2) (iRg1 (pE (eF (o1 dLen) (aCons (pN 1) aNil)))) (lb_law_same_0 fu))
  (sRet (eC (.bl true)))))
def F_law_same (fu : Nat) : FV := runF [true, true] 1 (sv_law_same fu)
def sv_law_refusal (fu : Nat) : SV := (sSeq (sSet 2 (eC .non))
  (sSeq (sTry 3 (tbl [(3, true)])
    (sDrop (eCall (F_follow fu) [true, true] (aCons (pN 0) (aCons (pN 1) aNil))))
    (sSet 2 (eTup (lCons (eXf [3] 3 1) (lCons (eAndV (eIsED 3 (tbl [(3, true)])) (eIsED 3 (tbl [(3, true)]))) (lCons (eIsED 3 (tbl [(3, false)])) lNil))))))
  (sRet (eN 2))))
def F_law_refusal (fu : Nat) : FV := runF [true, true] 2 (sv_law_refusal fu)
def lb_law_0 (fu : Nat) : SV := (sApp 8 (eCall (F_law_row fu) [true, true, true, true] (aCons (pN 5) (aCons (pN 6) (aCons (pE (eF (o1 dAbs) (aCons (pN 9) aNil))) (aCons (pE (eB dEq (pN 7) (pE (eC (.int 2))))) aNil))))))
def sg_law_1 (fu : Nat) : SV := (sSeq (sApp 10 (eN 14))
  (sApp 11 (eN 15)))
def sg_law_2 (fu : Nat) : SV := (sSeq (sIf (eAnd (tE (eB dIsN (pN 15) (pE (eC .non)))) (eAnd (tE (eB dGt (pN 4) (pE (eC (.int 0))))) (eOr (tE (eB dEq (pE (eB dMod (pE (eF (o1 dInt) (aCons (pE (eB dIx (pN 2) (pE (eC (.int 0))))) aNil))) (pE (eC (.int 3))))) (pE (eC (.int 0))))) (tE (eB dGt (pE (eB dMod (pE (eF (o1 dInt) (aCons (pE (eB dIx (pN 2) (pE (eB dAdd (pE (eC (.int 1))) (pN 13))))) aNil))) (pE (eC (.int 9))))) (pE (eC (.int 0))))))))
    (sSeq (sSet 14 (eCall (F_law_instead fu) [false, true, true, true, true] (aCons (pE (eB dIx (pN 14) (pE (eC (.int 0))))) (aCons (pE (eB dIx (pN 2) (pE (eB dAdd (pE (eC (.int 1))) (pN 13))))) (aCons (pN 11) (aCons (pN 5) (aCons (pN 8) aNil)))))))
  (sSet 15 (eCall (F_law_step fu) [true, true, true, true] (aCons (pN 14) (aCons (pN 11) (aCons (pN 5) (aCons (pN 8) aNil)))))))
    sNext)
  (sSeq (sIf (tE (eB dIsN (pN 15) (pE (eC .non))))
    (sSeq (sSet 12 (eN 14))
  sBrk)
    sNext)
  (sg_law_1 fu)))
def lb_law_3 (fu : Nat) : SV := (sSeq (sSet 14 (eCall (F_law_drawn fu) [true, true, true, true] (aCons (pE (eB dIx (pN 3) (pE (eB dAdd (pE (eC (.int 1))) (pN 13))))) (aCons (pN 13) (aCons (pN 5) (aCons (pN 8) aNil))))))
  (sSeq (sSet 15 (eCall (F_law_step fu) [true, true, true, true] (aCons (pN 14) (aCons (pN 11) (aCons (pN 5) (aCons (pN 8) aNil))))))
  (sg_law_2 fu)))
def el_law_4 (fu : Nat) : EV := (eF (o1 dLst) (aCons (pN 18) aNil))
def sg_law_5 (fu : Nat) : SV := (sSeq (sApp 20 (eTup lNil))
  (sIf (eNot (tE (eCall (F_law_same fu) [true, true] (aCons (pE (eCall (F_follow fu) [true, true] (aCons (pN 19) (aCons (pE (eF (o1 dTup) (aCons (pN 10) aNil))) aNil)))) (aCons (pN 11) aNil)))))
    (sRet (eC (.bl false)))
    sNext))
def el_law_6 (fu : Nat) : EV := (eF (o1 dLst) (aCons (pN 18) aNil))
def el_law_7 (fu : Nat) : EV := (eCall (F_law_sorted fu) [true, true] (aCons (pN 5) (aCons (pN 18) aNil)))
def sg_law_8 (fu : Nat) : SV := (sSeq (sIf (tE (eB dNe (pE (eLc [18] (iSeq (eFld 0 3 (eN 19))) (gN 18) tYs (el_law_6 fu))) (pE (eLc [18] (iN 8) (gN 18) tYs (el_law_7 fu)))))
    (sRet (eC (.bl false)))
    sNext)
  (sRet (eB dEq (pN 17) (pE (nLst (lCons (eN 5) (lCons (eN 8) (lCons (eN 10) (lCons (eB dAdd (pE (eB dAdd (pN 10) (pE (nLst (lCons (eN 12) lNil))))) (pN 16)) lNil)))))))))
def sg_law_9 (fu : Nat) : SV := (sSeq (sSet 21 (eCall (F_law_refusal fu) [true, true] (aCons (pN 19) (aCons (pE (eB dIx (pN 17) (pE (eC (.int 3))))) aNil))))
  (sSeq (sIf (eOr (tE (eB dIsN (pN 21) (pE (eC .non)))) (eOr (eNot (tE (eCall (F_law_is_number fu) [true, true, true] (aCons (pE (eB dIx (pN 21) (pE (eC (.int 0))))) (aCons (pE (eF (o1 dLen) (aCons (pN 10) aNil))) (aCons (pE (eF (o1 dLen) (aCons (pN 10) aNil))) aNil)))))) (eOr (eNot (tTru (pE (eB dIx (pN 21) (pE (eC (.int 1))))))) (tTru (pE (eB dIx (pN 21) (pE (eC (.int 2)))))))))
    (sRet (eC (.bl false)))
    sNext)
  (sg_law_8 fu)))
def sg_law_10 (fu : Nat) : SV := (sSeq (sSet 19 (eCall (mkF 0 (F_TableD_initD fu)) [true, true] (aCons (pE (eB dIx (pN 17) (pE (eC (.int 0))))) (aCons (pE (eB dIx (pN 17) (pE (eC (.int 1))))) aNil))))
  (sSeq (sIf (tE (eB dGt (pE (eF (o1 dLen) (aCons (pN 10) aNil))) (pE (eC (.int 0)))))
    (sSeq (sOwn 20 (nCall (F_follow fu) [true, true] (aCons (pN 19) (aCons (pE (eB dIx (pN 17) (pE (eC (.int 2))))) aNil))))
  (sSeq (sIf (eNot (tE (eCall (F_law_same fu) [true, true] (aCons (pN 20) (aCons (pN 11) aNil)))))
    (sRet (eC (.bl false)))
    sNext)
  (sg_law_5 fu)))
    sNext)
  (sg_law_9 fu)))
def sg_law_11 (fu : Nat) : SV := (sSeq (sSet 16 (eB dIx (pE (nLst (lCons (nLst lNil) (lCons (nLst (lCons (eTup (lCons (eC (.str "all")) lNil)) lNil)) (lCons (nLst (lCons (eTup (lCons (eC (.str "row")) (lCons (eU dNeg (pE (eC (.int 1)))) lNil))) (lCons (eTup (lCons (eC (.str "all")) lNil)) lNil))) lNil))))) (pE (eB dMod (pE (eF (o1 dInt) (aCons (pE (eB dIx (pN 2) (pE (eC (.int 46))))) aNil))) (pE (eC (.int 3)))))))
  (sSeq (sSet 17 (nLst (lCons (eF (o1 dLst) (aCons (pN 5) aNil)) (lCons (eLc [18] (iN 8) (gN 18) tYs (el_law_4 fu)) (lCons (eF (o1 dLst) (aCons (pN 10) aNil)) (lCons (eB dAdd (pE (eB dAdd (pE (eF (o1 dLst) (aCons (pN 10) aNil))) (pE (nLst (lCons (eN 12) lNil))))) (pN 16)) lNil))))))
  (sg_law_10 fu)))
def sg_law_12 (fu : Nat) : SV := (sSeq (sFor (gN 13) (iRg1 (pE (eB dAdd (pE (eC (.int 1))) (pE (eB dMod (pE (eF (o1 dInt) (aCons (pE (eB dIx (pN 3) (pE (eC (.int 0))))) aNil))) (pE (eC (.int 40)))))))) (lb_law_3 fu))
  (sSeq (sIf (eAnd (tE (eB dGt (pE (eF (o1 dLen) (aCons (pN 10) aNil))) (pE (eC (.int 0))))) (tE (eB dEq (pN 12) (pE (eTup (lCons (eC (.str "one")) (lCons (eC (.str "stranger")) lNil)))))))
    (sSet 12 (eCall (F_law_bad fu) [true, true, true] (aCons (pE (eB dIx (pN 2) (pE (eC (.int 45))))) (aCons (pN 11) (aCons (pN 8) aNil)))))
    sNext)
  (sg_law_11 fu)))
def sg_law_13 (fu : Nat) : SV := (sSeq (sOwn 11 (nLst lNil))
  (sSeq (sSet 12 (eTup (lCons (eC (.str "one")) (lCons (eC (.str "stranger")) lNil))))
  (sg_law_12 fu)))
def sg_law_14 (fu : Nat) : SV := (sSeq (sIf (tE (eB dEq (pE (eB dMod (pE (eF (o1 dInt) (aCons (pE (eB dIx (pN 2) (pE (eC (.int 47))))) aNil))) (pE (eC (.int 8))))) (pE (eC (.int 7)))))
    (sOwn 8 (eB dCat (pE (eB dAdd (pE (eB dAdd (pN 8) (pN 8))) (pN 8))) (pN 8)))
    sNext)
  (sSeq (sOwn 10 (nLst lNil))
  (sg_law_13 fu)))
def sg_law_15 (fu : Nat) : SV := (sSeq (sOwn 8 (nCall (F_law_rows fu) [true, true, true, true, true, true] (aCons (pN 5) (aCons (pN 6) (aCons (pN 1) (aCons (pE (eC (.int 14))) (aCons (pE (eB dMod (pE (eF (o1 dInt) (aCons (pE (eB dIx (pN 1) (pE (eC (.int 26))))) aNil))) (pE (eC (.int 7))))) (aCons (pN 7) aNil))))))))
  (sSeq (sFor (gN 9) (iSeq (eSl dCut (pN 0) (some (pE (eC (.int 3)))) (some (pE (eC (.int 9)))))) (lb_law_0 fu))
  (sg_law_14 fu)))
def sg_law_16 (fu : Nat) : SV := (sSeq (sSet 6 (eCall (F_law_order fu) [true, true, true] (aCons (pN 5) (aCons (pN 1) (aCons (pE (eC (.int 2))) aNil)))))
  (sSeq (sSet 7 (eB dMod (pE (eF (o1 dInt) (aCons (pE (eB dIx (pN 1) (pE (eC (.int 27))))) aNil))) (pE (eC (.int 3)))))
  (sg_law_15 fu)))
def sg_law_17 (fu : Nat) : SV := (sSeq (sSet 4 (eCall (F_law_size fu) [true, true] (aCons (pE (eB dIx (pN 1) (pE (eC (.int 0))))) (aCons (pE (eC (.int 12))) aNil))))
  (sSeq (sSet 5 (eCall (F_law_names fu) [true, true] (aCons (pN 4) (aCons (pE (eB dIx (pN 1) (pE (eC (.int 1))))) aNil))))
  (sg_law_16 fu)))
def sg_law_18 (fu : Nat) : SV := (sSeq (sSet 2 (eCall (F_law_pool fu) [true, true, true] (aCons (pN 0) (aCons (pE (eC (.int 1))) (aCons (pE (eC (.int 60))) aNil)))))
  (sSeq (sSet 3 (eCall (F_law_pool fu) [true, true, true] (aCons (pN 0) (aCons (pE (eC (.int 2))) (aCons (pE (eC (.int 60))) aNil)))))
  (sg_law_17 fu)))
def sv_law (fu : Nat) : SV := (sSeq (sSet 1 (eCall (F_law_pool fu) [true, true, true] (aCons (pN 0) (aCons (pE (eC (.int 0))) (aCons (pE (eC (.int 60))) aNil)))))
  (sg_law_18 fu))
def F_law (fu : Nat) : FV := runF [true] 21 (sv_law fu)
end K24

set_option autoImplicit true
set_option Elab.async false
set_option linter.all false
set_option maxRecDepth 100000
set_option exponentiation.threshold 10000
set_option maxHeartbeats 4000000
namespace K24
open PySem Ed
local macro_rules | `(tactic| simp? only [$hs,*]) => `(tactic| simp (implicitDefEqProofs := false) only [kR_s, eC_ap, eN_ap, kN_s, pN_ap, kP_s, kpE_ok, kpE_ex, pE_ap, kU2_s, kU_ok, kU_ex, eU_ap, kB3_s, kB2_ok, kB2_ex, kB1_ok, kB1_ex, eB_ap, kF2_s, kF_ok, kF_ex, eF_ap, aNil_ap, lNil_ap, kA2_ok, kA2_ex, kA1_ok, kA1_ex, aCons_ap, kL2_ok, kL2_ex, kL1_ok, kL1_ex, lCons_ap, kSz_t, kTp_ok, kTp_ex, kLs_ok, kLs_ex, eTup_ap, nLst_ap, kIf_t, kIf_f, kIf_ex, tC_ap, eAnd_ap, eOr_ap, eNot_ap, eIf_ap, sIf_ap, kE2_b, kE_ok, kE_ex, tE_ap, kT3_s, kT2_s, kT_ok, kT_ex, tTru_ap, tru_int, tru_bl, tru_lst, tru_tup, tru_non, tYs_ap, eCB_ap, eAndV_ap, eOrV_ap, eNotV_ap, kCh4_s, kCh3_ok, kCh3_ex, kCh2_t, kCh2_f, kCh1_s, kCh0_ok, kCh0_ex, kCh_ok, kCh_ex, eChain_ap, callF_ap, kCp_s, kC_ok, kC_ex, kCd_ok, kCd_ex, kFr2_r, kFr_ok, kFr_ex, kC1_ok, kC1_ex, eCall_ap, kC2_ok, kC2_ex, nCall_ap, dfz, dfr, prep0, pK_s, prep_d, prep_t, pKt_s, prep_f, pKf_s, mkF_ap, kMk_ok, kMk_ex, kFl_ok, kFl_ex, eFld_ap, fld_s, kO2_s, kO1_ok, kO1_ex, kO0_ok, kO0_ex, eOwn2_ap, kOC3_s, kOC2_ok, kOC2_ex, kOC1_s, kOC0_ok, kOC0_ex, eOwnC_ap, kM2_ok, kM2_ex, kM1_s, kM0_ok, kM0_ex, eMeth_ap, eJs_nil, kJz_t, kJ2_s, kJ_ok, kJ_ex, eJs_cons, kSl4_s, kSl3_s, kSl2_s, kSl1_s, eSl_ap, oP_n, kOp2_s, kOp_s, oP_s, kLc2_s, kLc1_t, kLc_ok, eLc_ap, kIs2_s, kIs_ok, iSeq_ap, it_l, it_t, kIn_s, iN_ap, kRg_ok, iRg1_ap, kRh2_ok, kRh1_ok, iRg2_ap, sNext_ap, sBrk_ap, sCnt_ap, sRetN_ap, kS_nx, kS_rt, kS_bk, kS_ct, kS_ex, sSeq_ap, kSet_ok, kSet_ex, sSet_ap, kOwn_ok, kOwn_ex, sOwn_ap, kDrp_ok, kDrp_ex, sDrop_ap, kRet_ok, kRet_ex, sRet_ap, kReO_ok, kReO_ex, sRetO_ap, sRetX_ap, kRx_o, kRx_v, kAp3_t, kAp2_o, kAp1_ok, kAp0_s, sApp_ap, kPi4_s, kPi3_s, kPi2_ok, kPi1_s, kPi0_ok, sPutI_ap, kPr2_ok, kPr1_ok, sPar_ap, kAs2_s, kAs_ok, sAsg_ap, gN_ap, gT_t, gT_l, gs_nil, kGs_s, gs_cons, kFor_ok, sFor_ap, sWhl_ap, kFd_ok, sFld_ap, kRs_ok, sRaise_ap, kSu_ok, kTr3_t, kTr2_t, kTr2_f, kTr_ok, kTr_ex, sTry_ap, kIE2_s, kIE_s, eIsE_ap, kXf_s, eXf_ap, fin_nx, fin_rt, fin_ex, finI_ex, kFi_s, finI_nx, app_nil, app_cons, ins0_nil, ins0_cons, inSl_f, inSl_l, inSl_i, inSl_b, inSl_s, inSl_n, inSl_t, inSl_c, inSl_o, pad_0, pad_1, get_0, get_1, put_0, put_1, look_v, look_o, look_b, frz_v, frz_o, stay_v, stay_o, stay_b, rd_d, rd_n, rds_nil, kRd_s, rds_cons, wipe_nil, wipe_cons, rest_nil, rest_cons, all_nil, all_cons, stb_e, stb_v, stb_b, noX_nil, noX_e, noX_v, noX_o, noX_b, true_and', tbl_ap, putFd_nil, putFd_cons, dAdd_i, dSub_i, dNeg_i, dLt_i, dLe_i, dGt_i, dGe_i, dEq_i, dNe_i, dEq_b, dNe_b, dEq_s, dNe_s, o1_ap, dAbs_i, dInt_i, dInt_b, dBool_i, dLen_l, dLen_t, dLen_c, dIx_l, dIx_t, dIx_c, at_0, at_1, at_2, at_3, isT_ii, isT_bi, isT_bb, isT_ss, isT_ll, isT_tt, isB2_i, map_s, dRev_l, dTup_l, dTup_t, dLst_l, dLst_t, dCut_l, dCutL_l, dGcd_i, isB_b, isS_s, mul_r, mul_l, dDiv_r, dMod_i, kGb_s, kGe_s,   decide_true, decide_false, Bool.not_true, Bool.not_false, Bool.and_true, Bool.and_false, Bool.false_and, if_true, if_false, ite_true, ite_false, Bool.false_eq_true, List.lookup_cons, List.lookup_nil, List.length_cons, List.length_nil, Nat.reduceBEq, Nat.reduceLT, Nat.reduceLeDiff, Nat.zero_le, seqMax, List.length_map, Nat.reduceAdd, Nat.reduceEqDiff, Nat.reducePow, Int.reduceNe, Int.reduceEq, Int.reduceLT, Int.reduceLE, Int.reduceBEq, Int.reduceNeg, Int.natAbs_neg, ne_eq, not_true, not_false_eq_true, and_self, true_and, and_true, beq_self_eq_true, turn_ap, kTn1_s, kTn2_t, kTn2_f, kTn2_p, kTn2_n, kTn3_ok, dIn_sl, dIn_st, dNin_sl, dNin_st, dIn_il, dNin_il, kSg2_s, kSg_ok, iSgn_ap, kED_s, eIsED_ap, kX2_s, kX1_ok, kX1_ex, kX0_ok, kX0_ex, eOwnX_ap, kBT4_s, kBT3_ok, kBT3_ex, kBT1_ok, kBT1_ex, eBMT_ap, dIsN_n, dIsN_l, dIsN_t, dIsN_i, dIsN_s, dNotN_n, dNotN_l, dNotN_t, dNotN_i, dNotN_s, dBAnd_i, dBOr_i, dMin2_i, dMax2_i, dCut_t, dCut_c, dCut_l2, Int.cast_ofNat_Int, at_4, at_5, at_6, at_7, at_8, at_9, at_10, at_11, at_12, at_13, $hs,*])
theorem rng_len {lo : Int} {n : Nat} : (rngL lo n).length = n := by unfold rngL; simp
theorem cell_ok (fu : Nat) (ns : List Int) {k : Int} (h : 0 ≤ k) : F_law_cell fu [.scr ns, .int k] = .ok (.fz (.int (ns.getD k.toNat 0))) := by
  unfold F_law_cell sv_law_cell
  rw [runF_ap rfl]
  by_cases h2 : k < ns.length
  · simp? only [h2, at_getD (d := 0) h h2]
  · simp? only [h2]
    rw [List.getD_eq_getElem?_getD, List.getElem?_eq_none (by omega)]; rfl
theorem rng_get {lo : Int} {n i : Nat} {d : D} (h : (rngL lo n)[i]? = some d) : d = .int (lo + i) ∧ i < n := by
  unfold rngL at h
  rw [List.getElem?_map] at h
  by_cases hi : i < n
  · rw [List.getElem?_range hi] at h; cases h; exact ⟨rfl, hi⟩
  · rw [List.getElem?_eq_none (by simpa using hi)] at h; cases h
def PoolI (ns : List Int) (k n : Int) (i : Nat) (Γ : Ed.Env) : Prop := ∃ (v : Int) (xs : List Int) (j5 j6 j7 j8 : Sl), Γ = [.val (.scr ns), .val (.int k), .val (.int n), .val (.int v), .own (.lst (xs.map D.int)), j5, j6, j7, j8] ∧ xs.length = i ∧ ∀ x ∈ xs, 0 ≤ x ∧ x < 27720
theorem app_int (xs : List Int) (x : Int) : xs.map D.int ++ [D.int x] = (xs ++ [x]).map D.int := by simp
theorem mem_app {xs : List Int} {x : Int} (hb : ∀ x ∈ xs, 0 ≤ x ∧ x < 27720) (hx : 0 ≤ x ∧ x < 27720) : ∀ y ∈ xs ++ [x], 0 ≤ y ∧ y < 27720 := fun y hy => by
  rcases List.mem_append.mp hy with h | h
  · exact hb y h
  · rw [List.mem_singleton.mp h]; exact hx
theorem pool_step0 {ns : List Int} {k n : Int} {i : Nat} {Γ : Ed.Env} {d : D} (fu : Nat) (hn : n < 10000) (hd : (rngL 0 n.toNat)[i]? = some d) (h : PoolI ns k n i Γ) : ∃ Γ2, kGb (lb_law_pool_0 fu) (gN 5 d Γ) = .ok (.nx, Γ2) ∧ PoolI ns k n (i + 1) Γ2 := by
  obtain ⟨v, xs, j5, j6, j7, j8, rfl, hl, hb⟩ := h
  obtain ⟨rfl, hi⟩ := rng_get hd
  have hz : xs.length < 16777216 := by omega
  unfold lb_law_pool_0
  refine' ⟨_, ?_, ?_⟩
  rotate_left
  · simp? only [hz, app_int]
    rfl
  · exact ⟨_, _, _, _, _, _, rfl, by simp [hl], mem_app hb (fm_lt _ (by decide))⟩
theorem fmA (a : Int) : (-18446744073709551616 < a.fmod 2147483647) = True := by have := fm_lt a (m := 2147483647) (by decide); simp; omega
theorem fmB (a : Int) : (a.fmod 2147483647 < 18446744073709551616) = True := by have := fm_lt a (m := 2147483647) (by decide); simp; omega
theorem fmC (a : Int) : (-18446744073709551616 < a.fmod 2147483629) = True := by have := fm_lt a (m := 2147483629) (by decide); simp; omega
theorem fmD (a : Int) : (a.fmod 2147483629 < 18446744073709551616) = True := by have := fm_lt a (m := 2147483629) (by decide); simp; omega
theorem pool_step1 {ns : List Int} {k n : Int} {i : Nat} {Γ : Ed.Env} {d : D} (fu : Nat) (hn : n < 10000) (hd : (rngL 0 n.toNat)[i]? = some d) (h : PoolI ns k n i Γ) : ∃ Γ2, kGb (lb_law_pool_1 fu) (gN 5 d Γ) = .ok (.nx, Γ2) ∧ PoolI ns k n (i + 1) Γ2 := by
  obtain ⟨v, xs, j5, j6, j7, j8, rfl, hl, hb⟩ := h
  obtain ⟨rfl, hi⟩ := rng_get hd
  have hz : xs.length < 16777216 := by omega
  unfold lb_law_pool_1
  refine' ⟨_, ?_, ?_⟩
  rotate_left
  · simp? only [hz, app_int, fmA, fmB, fmC, fmD]
    rfl
  · exact ⟨_, _, _, _, _, _, rfl, by simp [hl], mem_app hb (fm_lt _ (by decide))⟩
theorem pow18 : dPow (.int 10) (.int 18) = some (.int 1000000000000000000) := rfl
theorem pool_ok (fu : Nat) (ns : List Int) {k n : Int} (hk : 0 ≤ k) (hn : 0 ≤ n) (hn2 : n < 10000) : ∃ xs : List Int, F_law_pool fu [.scr ns, .int k, .int n] = .ok (.fr (.lst (xs.map D.int))) ∧ xs.length = n.toNat ∧ ∀ x ∈ xs, 0 ≤ x ∧ x < 27720 := by
  unfold F_law_pool sv_law_pool sg_law_pool_2
  rw [runF_ap rfl]
  generalize hv : (if ns.getD k.toNat 0 < 0 then -(ns.getD k.toNat 0) else ns.getD k.toNat 0) = v
  have h0 : PoolI ns k n 0 [.val (.scr ns), .val (.int k), .val (.int n), .val (.int v), .own (.lst []), .emp, .emp, .emp, .emp] := ⟨_, [], _, _, _, _, rfl, rfl, fun x hx => by cases hx⟩
  have h1 : PoolI ns k n 0 [.val (.scr ns), .val (.int k), .val (.int n), .val (.int (v - 1000000000000000000)), .own (.lst []), .emp, .emp, .emp, .emp] := ⟨_, [], _, _, _, _, rfl, rfl, fun x hx => by cases hx⟩
  obtain ⟨Γa, ea, xs, _, _, _, _, _, rfl, hl, hb⟩ := forL_run (g := gN 5) (s := lb_law_pool_1 fu) (ds := rngL 0 n.toNat) h0 fun i Γ d => pool_step1 fu hn2
  obtain ⟨Γb, eb, ys, _, _, _, _, _, rfl, hl2, hb2⟩ := forL_run (g := gN 5) (s := lb_law_pool_0 fu) (ds := rngL 0 n.toNat) h1 fun i Γ d => pool_step0 fu hn2
  rw [rng_len] at hl hl2
  by_cases hc : 1000000000000000000 ≤ v
  · refine' ⟨_, ?_, hl2, hb2⟩
    simp? only [cell_ok fu ns hk, hv, pow18, hc, kRg2_s (rngB_of (n := n) (by omega) (by omega)), eb]
  · refine' ⟨_, ?_, hl, hb⟩
    simp? only [cell_ok fu ns hk, hv, pow18, hc, kRg2_s (rngB_of (n := n) (by omega) (by omega)), ea]
end K24

set_option autoImplicit true
set_option Elab.async false
set_option linter.all false
set_option maxRecDepth 100000
set_option exponentiation.threshold 10000
set_option maxHeartbeats 4000000
namespace K24
open PySem Ed
local macro_rules | `(tactic| simp? only [$hs,*]) => `(tactic| simp (implicitDefEqProofs := false) only [kR_s, eC_ap, eN_ap, kN_s, pN_ap, kP_s, kpE_ok, kpE_ex, pE_ap, kU2_s, kU_ok, kU_ex, eU_ap, kB3_s, kB2_ok, kB2_ex, kB1_ok, kB1_ex, eB_ap, kF2_s, kF_ok, kF_ex, eF_ap, aNil_ap, lNil_ap, kA2_ok, kA2_ex, kA1_ok, kA1_ex, aCons_ap, kL2_ok, kL2_ex, kL1_ok, kL1_ex, lCons_ap, kSz_t, kTp_ok, kTp_ex, kLs_ok, kLs_ex, eTup_ap, nLst_ap, kIf_t, kIf_f, kIf_ex, tC_ap, eAnd_ap, eOr_ap, eNot_ap, eIf_ap, sIf_ap, kE2_b, kE_ok, kE_ex, tE_ap, kT3_s, kT2_s, kT_ok, kT_ex, tTru_ap, tru_int, tru_bl, tru_lst, tru_tup, tru_non, tYs_ap, eCB_ap, eAndV_ap, eOrV_ap, eNotV_ap, kCh4_s, kCh3_ok, kCh3_ex, kCh2_t, kCh2_f, kCh1_s, kCh0_ok, kCh0_ex, kCh_ok, kCh_ex, eChain_ap, callF_ap, kCp_s, kC_ok, kC_ex, kCd_ok, kCd_ex, kFr2_r, kFr_ok, kFr_ex, kC1_ok, kC1_ex, eCall_ap, kC2_ok, kC2_ex, nCall_ap, dfz, dfr, prep0, pK_s, prep_d, prep_t, pKt_s, prep_f, pKf_s, mkF_ap, kMk_ok, kMk_ex, kFl_ok, kFl_ex, eFld_ap, fld_s, kO2_s, kO1_ok, kO1_ex, kO0_ok, kO0_ex, eOwn2_ap, kOC3_s, kOC2_ok, kOC2_ex, kOC1_s, kOC0_ok, kOC0_ex, eOwnC_ap, kM2_ok, kM2_ex, kM1_s, kM0_ok, kM0_ex, eMeth_ap, eJs_nil, kJz_t, kJ2_s, kJ_ok, kJ_ex, eJs_cons, kSl4_s, kSl3_s, kSl2_s, kSl1_s, eSl_ap, oP_n, kOp2_s, kOp_s, oP_s, kLc2_s, kLc1_t, kLc_ok, eLc_ap, kIs2_s, kIs_ok, iSeq_ap, it_l, it_t, kIn_s, iN_ap, kRg_ok, iRg1_ap, kRh2_ok, kRh1_ok, iRg2_ap, sNext_ap, sBrk_ap, sCnt_ap, sRetN_ap, kS_nx, kS_rt, kS_bk, kS_ct, kS_ex, sSeq_ap, kSet_ok, kSet_ex, sSet_ap, kOwn_ok, kOwn_ex, sOwn_ap, kDrp_ok, kDrp_ex, sDrop_ap, kRet_ok, kRet_ex, sRet_ap, kReO_ok, kReO_ex, sRetO_ap, sRetX_ap, kRx_o, kRx_v, kAp3_t, kAp2_o, kAp1_ok, kAp0_s, sApp_ap, kPi4_s, kPi3_s, kPi2_ok, kPi1_s, kPi0_ok, sPutI_ap, kPr2_ok, kPr1_ok, sPar_ap, kAs2_s, kAs_ok, sAsg_ap, gN_ap, gT_t, gT_l, gs_nil, kGs_s, gs_cons, kFor_ok, sFor_ap, sWhl_ap, kFd_ok, sFld_ap, kRs_ok, sRaise_ap, kSu_ok, kTr3_t, kTr2_t, kTr2_f, kTr_ok, kTr_ex, sTry_ap, kIE2_s, kIE_s, eIsE_ap, kXf_s, eXf_ap, fin_nx, fin_rt, fin_ex, finI_ex, kFi_s, finI_nx, app_nil, app_cons, ins0_nil, ins0_cons, inSl_f, inSl_l, inSl_i, inSl_b, inSl_s, inSl_n, inSl_t, inSl_c, inSl_o, pad_0, pad_1, get_0, get_1, put_0, put_1, look_v, look_o, look_b, frz_v, frz_o, stay_v, stay_o, stay_b, rd_d, rd_n, rds_nil, kRd_s, rds_cons, wipe_nil, wipe_cons, rest_nil, rest_cons, all_nil, all_cons, stb_e, stb_v, stb_b, noX_nil, noX_e, noX_v, noX_o, noX_b, true_and', tbl_ap, putFd_nil, putFd_cons, dAdd_i, dSub_i, dNeg_i, dLt_i, dLe_i, dGt_i, dGe_i, dEq_i, dNe_i, dEq_b, dNe_b, dEq_s, dNe_s, o1_ap, dAbs_i, dInt_i, dInt_b, dBool_i, dLen_l, dLen_t, dLen_c, dIx_l, dIx_t, dIx_c, at_0, at_1, at_2, at_3, isT_ii, isT_bi, isT_bb, isT_ss, isT_ll, isT_tt, isB2_i, map_s, dRev_l, dTup_l, dTup_t, dLst_l, dLst_t, dCut_l, dCutL_l, dGcd_i, isB_b, isS_s, mul_r, mul_l, dDiv_r, dMod_i, kGb_s, kGe_s,   decide_true, decide_false, Bool.not_true, Bool.not_false, Bool.and_true, Bool.and_false, Bool.false_and, if_true, if_false, ite_true, ite_false, Bool.false_eq_true, List.lookup_cons, List.lookup_nil, List.length_cons, List.length_nil, Nat.reduceBEq, Nat.reduceLT, Nat.reduceLeDiff, Nat.zero_le, seqMax, List.length_map, Nat.reduceAdd, Nat.reduceEqDiff, Nat.reducePow, Int.reduceNe, Int.reduceEq, Int.reduceLT, Int.reduceLE, Int.reduceBEq, Int.reduceNeg, Int.natAbs_neg, ne_eq, not_true, not_false_eq_true, and_self, true_and, and_true, beq_self_eq_true, turn_ap, kTn1_s, kTn2_t, kTn2_f, kTn2_p, kTn2_n, kTn3_ok, dIn_sl, dIn_st, dNin_sl, dNin_st, dIn_il, dNin_il, kSg2_s, kSg_ok, iSgn_ap, kED_s, eIsED_ap, kX2_s, kX1_ok, kX1_ex, kX0_ok, kX0_ex, eOwnX_ap, kBT4_s, kBT3_ok, kBT3_ex, kBT1_ok, kBT1_ex, eBMT_ap, dIsN_n, dIsN_l, dIsN_t, dIsN_i, dIsN_s, dNotN_n, dNotN_l, dNotN_t, dNotN_i, dNotN_s, dBAnd_i, dBOr_i, dMin2_i, dMax2_i, dCut_t, dCut_c, dCut_l2, Int.cast_ofNat_Int, at_4, at_5, at_6, at_7, at_8, at_9, at_10, at_11, at_12, at_13, $hs,*])
/-! drawn names -/
def nameOk (s : Str) : Prop := 1 ≤ s.length ∧ s.length ≤ 8 ∧ ∀ c ∈ s.cps.toList, 97 ≤ c ∧ c ≤ 122
instance (s : Str) : Decidable (nameOk s) := by unfold nameOk; infer_instance
def NameL (m : Nat) (ns : List Str) : Prop := ns.Nodup ∧ ∀ s ∈ ns, nameOk s ∧ s.length ≤ m
theorem nameOk.ok {s : Str} (h : nameOk s) : okS s := by
  unfold okS
  rw [← Array.all_toList, List.all_eq_true]
  intro c hc
  have := h.2.2 c hc
  simp; omega
theorem dRepS_i {a : Str} {n : Int} (h : 0 ≤ n) (h2 : n ≤ 1000) (h3 : a.length ≤ 1000) : dRepS (.str a) (.int n) = some (.str (strRep a n.toNat)) := if_pos ⟨by omega, h2, h3⟩
theorem dIx_S {z : Str} {i : Int} (h : 0 ≤ i) (h2 : i < z.length) (h3 : z.length ≤ 16777216) : dIx (.str z) (.int i) = some (.str ⟨#[z.cps.toList.getD i.toNat 0]⟩) := by
  have hl : z.cps.toList.length = z.length := by simp [Str.length]
  show (if z.length ≤ seqMax then (at1 z.cps.toList i).map fun c => D.str ⟨#[c]⟩ else none) = _
  rw [if_pos (show z.length ≤ seqMax from h3), at_getD (d := 0) h (by rw [hl]; exact h2)]; rfl
theorem dAdd_S {a b : Str} (h : a.length + b.length ≤ 16777216) : dAdd (.str a) (.str b) = some (.str (a ++ b)) := if_pos h
theorem app_cps (a b : Str) : (a ++ b).cps.toList = a.cps.toList ++ b.cps.toList := by
  show (a.cps ++ b.cps).toList = _
  simp
theorem app_len (a b : Str) : (a ++ b).length = a.length + b.length := by
  show (a.cps ++ b.cps).size = _
  simp [Str.length]
theorem foldl_app : ∀ (n : Nat) (c a : Array Nat), ((List.replicate n c).foldl (· ++ ·) a).toList = a.toList ++ (List.replicate n c.toList).flatten
  | 0, c, a => by simp
  | n + 1, c, a => by rw [List.replicate_succ, List.foldl_cons, foldl_app n, Array.toList_append, List.replicate_succ, List.flatten_cons, List.append_assoc]
theorem rep_cps (x : Str) (n : Nat) : (strRep x n).cps.toList = (List.replicate n x.cps.toList).flatten := by
  have := foldl_app n x.cps #[]
  simpa [strRep] using this
def Bd (m : Nat) (s : Str) : Prop := s.length ≤ m ∧ ∀ c ∈ s.cps.toList, 109 ≤ c ∧ c ≤ 122
theorem rep_bd {c n m : Nat} (h : 109 ≤ c ∧ c ≤ 122) (hn : n ≤ m) : Bd m (strRep ⟨#[c]⟩ n) := by
  have e := rep_cps ⟨#[c]⟩ n
  have e2 : (strRep ⟨#[c]⟩ n).cps.toList = List.replicate n c := by
    rw [e]
    induction n with
    | zero => rfl
    | succ n ih => rw [List.replicate_succ, List.flatten_cons, ih (by omega) (rep_cps _ n), List.replicate_succ]; rfl
  refine ⟨?_, fun d hd => ?_⟩
  · show (strRep ⟨#[c]⟩ n).cps.size ≤ m
    rw [← Array.length_toList, e2, List.length_replicate]; exact hn
  · rw [e2] at hd
    rw [(List.mem_replicate.mp hd).2]; exact h
theorem lit_m : ∀ k < 14, 109 ≤ ("mnopqrstuvwxyz" : Str).cps.toList.getD k 0 ∧ ("mnopqrstuvwxyz" : Str).cps.toList.getD k 0 ≤ 122 := by decide +kernel
theorem lit_z : ∀ k < 14, 109 ≤ ("zyxwvutsrqponm" : Str).cps.toList.getD k 0 ∧ ("zyxwvutsrqponm" : Str).cps.toList.getD k 0 ≤ 122 := by decide +kernel
theorem lit_a : ∀ k < 12, ("abcdefghijkl" : Str).cps.toList.getD k 0 = 97 + k := by decide +kernel
theorem len_m : ("mnopqrstuvwxyz" : Str).length = 14 := by decide +kernel
theorem len_z : ("zyxwvutsrqponm" : Str).length = 14 := by decide +kernel
theorem len_a : ("abcdefghijkl" : Str).length = 12 := by decide +kernel
/-- the name at place j -/
def NmAt (seed : Int) (j : Nat) (s : Str) : Prop := (nameOk s ∧ s.length ≤ 7) ∧ s.cps.toList.filter (fun c => decide (c < 109)) = [97 + (((j : Int) * 5 + seed).fmod 12).toNat]
theorem nm_at {seed : Int} {j : Nat} {l r : Str} (hl : Bd 2 l) (hr : Bd 3 r) : NmAt seed j (l ++ ⟨#[97 + (((j : Int) * 5 + seed).fmod 12).toNat]⟩ ++ r) := by
  have hm := fm_lt ((j : Int) * 5 + seed) (m := 12) (by decide)
  unfold NmAt
  generalize (((j : Int) * 5 + seed).fmod 12) = q at hm ⊢
  have e1 : ∀ s : Str, (∀ c ∈ s.cps.toList, 109 ≤ c ∧ c ≤ 122) → s.cps.toList.filter (fun c => decide (c < 109)) = [] := fun s h => List.filter_eq_nil_iff.mpr fun c hc => by have := h c hc; simp; omega
  have e2 : (l ++ ⟨#[97 + q.toNat]⟩ ++ r).cps.toList = l.cps.toList ++ [97 + q.toNat] ++ r.cps.toList := by rw [app_cps, app_cps]
  have e3 : (l ++ ⟨#[97 + q.toNat]⟩ ++ r).length = l.length + 1 + r.length := by rw [app_len, app_len]; rfl
  have := hl.1
  have := hr.1
  refine ⟨⟨⟨by omega, by omega, fun c hc => ?_⟩, by omega⟩, ?_⟩
  · rw [e2] at hc
    rcases List.mem_append.mp hc with hc | hc
    · rcases List.mem_append.mp hc with hc | hc
      · have := hl.2 c hc; omega
      · rw [List.mem_singleton.mp hc]; omega
    · have := hr.2 c hc; omega
  · rw [e2, List.filter_append, List.filter_append, e1 _ hl.2, e1 _ hr.2]
    have : 97 + q.toNat < 109 := by omega
    simp [this]
def NamI (size seed : Int) (i : Nat) (Γ : Ed.Env) : Prop := ∃ (ns : List Str) (j5 j6 j7 j8 : Sl), Γ = [.val (.int size), .val (.int seed), .emp, .emp, .own (sL ns), j5, j6, j7, j8] ∧ ns.length = i ∧ ∀ j s, ns[j]? = some s → NmAt seed j s
theorem names_step (fu : Nat) {size seed : Int} {i : Nat} {Γ : Ed.Env} (hi : i < 100) (h : NamI size seed i Γ) : ∃ Γ2, kGb (lb_law_names_1 fu) (gN 5 (.int (0 + (i : Int))) Γ) = .ok (.nx, Γ2) ∧ NamI size seed (i + 1) Γ2 := by
  obtain ⟨ns, j5, j6, j7, j8, rfl, hl, hb⟩ := h
  have hz : ns.length < 16777216 := by omega
  have f0 := fm_lt ((i : Int) * 5 + seed) (m := 12) (by decide)
  have f1 := fm_lt (seed.fdiv 12 + (i : Int)) (m := 14) (by decide)
  have f2 := fm_lt (seed.fdiv 5 + (i : Int) * 2) (m := 3) (by decide)
  have f3 := fm_lt (seed.fdiv 7 + (i : Int) * 3) (m := 14) (by decide)
  have f4 := fm_lt (seed.fdiv 11 + (i : Int)) (m := 4) (by decide)
  have f5 := fm_lt (seed.fdiv 2) (m := 3) (by decide)
  have f6 := fm_lt (seed.fdiv 6) (m := 3) (by decide)
  have x0 := dIx_S (z := "abcdefghijkl") (i := ((i : Int) * 5 + seed).fmod 12) f0.1 (by rw [len_a]; exact f0.2) (by rw [len_a]; decide)
  rw [lit_a _ (by omega)] at x0
  have x1 := dIx_S (z := "mnopqrstuvwxyz") (i := (seed.fdiv 12 + (i : Int)).fmod 14) f1.1 (by rw [len_m]; exact f1.2) (by rw [len_m]; decide)
  have x3 := dIx_S (z := "zyxwvutsrqponm") (i := (seed.fdiv 7 + (i : Int) * 3).fmod 14) f3.1 (by rw [len_z]; exact f3.2) (by rw [len_z]; decide)
  have l1 := lit_m ((seed.fdiv 12 + (i : Int)).fmod 14).toNat (by omega)
  have l3 := lit_z ((seed.fdiv 7 + (i : Int) * 3).fmod 14).toNat (by omega)
  have one : ∀ c : Nat, (⟨#[c]⟩ : Str).length ≤ 1000 := fun c => by show 1 ≤ 1000; decide
  have b1 := rep_bd (m := 2) l1 (n := ((seed.fdiv 5 + (i : Int) * 2).fmod 3).toNat) (by omega)
  have b3 := rep_bd (m := 3) l3 (n := ((seed.fdiv 11 + (i : Int)).fmod 4).toNat) (by omega)
  have b5 := rep_bd (m := 2) (c := 109) (by decide) (n := ((seed.fdiv 2).fmod 3).toNat) (by omega)
  have b6 := rep_bd (m := 3) (c := 122) (by decide) (n := ((seed.fdiv 6).fmod 3).toNat) (by omega)
  have r1 := dRepS_i (n := (seed.fdiv 5 + (i : Int) * 2).fmod 3) f2.1 (by omega) (one (("mnopqrstuvwxyz" : Str).cps.toList.getD ((seed.fdiv 12 + (i : Int)).fmod 14).toNat 0))
  have r3 := dRepS_i (n := (seed.fdiv 11 + (i : Int)).fmod 4) f4.1 (by omega) (one (("zyxwvutsrqponm" : Str).cps.toList.getD ((seed.fdiv 7 + (i : Int) * 3).fmod 14).toNat 0))
  have r5 : dRepS (.str "m") (.int ((seed.fdiv 2).fmod 3)) = _ := dRepS_i (a := "m") f5.1 (by omega) (by decide +kernel)
  have r6 : dRepS (.str "z") (.int ((seed.fdiv 6).fmod 3)) = _ := dRepS_i (a := "z") f6.1 (by omega) (by decide +kernel)
  rw [show ("m" : Str) = ⟨#[109]⟩ by decide +kernel] at r5
  rw [show ("z" : Str) = ⟨#[122]⟩ by decide +kernel] at r6
  have fin : ∀ (l r : Str) (j5 j6 j7 j8 : Sl), Bd 2 l → Bd 3 r → NamI size seed (i + 1) [.val (.int size), .val (.int seed), .emp, .emp, .own (.lst (ns.map .str ++ [.str (l ++ ⟨#[97 + (((i : Int) * 5 + seed).fmod 12).toNat]⟩ ++ r)])), j5, j6, j7, j8] := fun l r j5 j6 j7 j8 hl' hr' => by
    refine ⟨ns ++ [l ++ ⟨#[97 + (((i : Int) * 5 + seed).fmod 12).toNat]⟩ ++ r], _, _, _, _, by rw [map_app1], by simp [hl], fun j s hs => ?_⟩
    by_cases hj : j < ns.length
    · rw [List.getElem?_append_left hj] at hs; exact hb j s hs
    · rw [List.getElem?_append_right (by omega)] at hs
      have hj2 : j = i := by
        have := get_lt hs
        simp at this; omega
      subst hj2
      rw [show j - ns.length = 0 by omega] at hs
      cases hs
      exact nm_at hl' hr'
  have ad : ∀ (l r : Str) (c : Nat), Bd 2 l → Bd 3 r → dAdd (.str l) (.str ⟨#[c]⟩) = some (.str (l ++ ⟨#[c]⟩)) ∧ dAdd (.str (l ++ ⟨#[c]⟩)) (.str r) = some (.str (l ++ ⟨#[c]⟩ ++ r)) := fun l r c hl' hr' => by
    have := hl'.1
    have := hr'.1
    have e : (⟨#[c]⟩ : Str).length = 1 := rfl
    exact ⟨dAdd_S (by rw [e]; omega), dAdd_S (by rw [app_len, e]; omega)⟩
  have zi : (0 : Int) + (i : Int) = i := by omega
  unfold lb_law_names_1 sg_law_names_0
  by_cases hp : seed.fmod 2 = 0
  · have a := ad _ _ (97 + (((i : Int) * 5 + seed).fmod 12).toNat) b5 b6
    refine' ⟨_, ?_, ?_⟩
    rotate_left
    · simp? only [zi, x0, x1, x3, r1, r3, show ("m" : Str) = ⟨#[109]⟩ by decide +kernel, show ("z" : Str) = ⟨#[122]⟩ by decide +kernel, r5, r6, hp, a.1, a.2, hz]
      rfl
    · exact fin _ _ _ _ _ _ b5 b6
  · have a := ad _ _ (97 + (((i : Int) * 5 + seed).fmod 12).toNat) b1 b3
    have hp2 : (seed.fmod 2 == 0) = false := by simp [hp]
    refine' ⟨_, ?_, ?_⟩
    rotate_left
    · simp? only [zi, x0, x1, x3, r1, r3, hp2, a.1, a.2, hz]
      rfl
    · exact fin _ _ _ _ _ _ b1 b3
theorem NmAt.inj {seed : Int} {i j : Nat} {s : Str} (hi : i < 12) (hj : j < 12) (a : NmAt seed i s) (b : NmAt seed j s) : i = j := by
  have h := a.2.symm.trans b.2
  have h1 := fm_lt ((i : Int) * 5 + seed) (m := 12) (by decide)
  have h2 := fm_lt ((j : Int) * 5 + seed) (m := 12) (by decide)
  simp at h
  have e : ((i : Int) * 5 + seed).fmod 12 = ((j : Int) * 5 + seed).fmod 12 := by omega
  rw [Int.fmod_eq_emod_of_nonneg _ (by decide), Int.fmod_eq_emod_of_nonneg _ (by decide)] at e
  omega
theorem nodup_at {α : Type} {l : List α} {P : Nat → α → Prop} (h : ∀ j s, l[j]? = some s → P j s) (hi : ∀ i j s, i < l.length → j < l.length → P i s → P j s → i = j) : l.Nodup := by
  show List.Pairwise _ l
  rw [List.pairwise_iff_getElem]
  intro i j hi' hj hij e
  have a := h i l[i] (by simp)
  have b := h j l[j] (by simp)
  rw [e] at a
  have := hi i j _ hi' hj a b
  omega
def wordsA : List Str := ["ab", "a", "abc", "aa", "b", "ba", "aab", "bb", "abcdefg", "abcdefh", "aba", "bab"]
def wordsB : List Str := ["first", "row", "end", "near", "span", "last", "before", "window", "over", "column", "not", "ask"]
theorem wordsA_ok : NameL 7 wordsA := by unfold NameL; decide +kernel
theorem wordsB_ok : NameL 7 wordsB := by unfold NameL; decide +kernel
theorem NameL.turned {m : Nat} {ns : List Str} (h : NameL m ns) (c k : Nat) : NameL m ((ns.drop c ++ ns.take c).take k) := by
  have p : (ns.drop c ++ ns.take c).Perm ns := by
    refine List.perm_append_comm.trans ?_
    rw [List.take_append_drop]
  have h2 : NameL m (ns.drop c ++ ns.take c) := ⟨p.nodup_iff.mpr h.1, fun s hs => h.2 s (p.mem_iff.mp hs)⟩
  exact ⟨h2.1.sublist (List.take_sublist _ _), fun s hs => h2.2 s ((List.take_sublist _ _).mem hs)⟩
theorem dCut_s {ds : List D} {lo hi : Option Int} : dCut (.lst ds) lo hi = some (.lst (cut ds lo hi)) := rfl
theorem names_words {size seed : Int} {ws : List Str} (hw : NameL 7 ws) (hl : ws.length = 12) (h0 : 0 ≤ size) (h1 : size ≤ 12) :
    dAdd (.lst (cut (ws.map D.str) (some ((seed.fdiv 6).fmod 12)) none)) (.lst (cut (ws.map D.str) none (some ((seed.fdiv 6).fmod 12)))) = some (sL (ws.drop ((seed.fdiv 6).fmod 12).toNat ++ ws.take ((seed.fdiv 6).fmod 12).toNat))
    ∧ cut ((ws.drop ((seed.fdiv 6).fmod 12).toNat ++ ws.take ((seed.fdiv 6).fmod 12).toNat).map D.str) none (some size) = ((ws.drop ((seed.fdiv 6).fmod 12).toNat ++ ws.take ((seed.fdiv 6).fmod 12).toNat).take size.toNat).map D.str
    ∧ ((ws.drop ((seed.fdiv 6).fmod 12).toNat ++ ws.take ((seed.fdiv 6).fmod 12).toNat).take size.toNat).length = size.toNat := by
  have f := fm_lt (seed.fdiv 6) (m := 12) (by decide)
  refine ⟨?_, ?_, ?_⟩
  · rw [cut_from f.1, cut_to f.1, dAdd_L (by simp; omega)]
    simp
  · rw [cut_to h0, List.map_take]
  · simp; omega
theorem names_ok (fu : Nat) {size seed : Int} (h0 : 0 ≤ size) (h1 : size ≤ 12) : ∃ (o : DV) (ns : List Str), F_law_names fu [.int size, .int seed] = .ok o ∧ o.d = sL ns ∧ ns.length = size.toNat ∧ NameL 7 ns := by
  have h00 : NamI size seed 0 [.val (.int size), .val (.int seed), .emp, .emp, .own (.lst []), .emp, .emp, .emp, .emp] := ⟨[], _, _, _, _, rfl, rfl, fun j s h => by simp at h⟩
  obtain ⟨Γ', e, ns, j5, j6, j7, j8, rfl, hl, hb⟩ := forL_rm (g := gN 5) (s := lb_law_names_1 fu) (lo := 0) (m := size.toNat) h00 fun i Γ hi p => names_step fu (by omega) p
  unfold F_law_names sv_law_names
  rw [runF_ap rfl]
  by_cases c : 3 < seed.fmod 6
  · by_cases c2 : seed.fmod 6 = 5
    · obtain ⟨a1, a2, a3⟩ := names_words (seed := seed) wordsB_ok rfl h0 h1
      refine ⟨.fz (sL ((wordsB.drop ((seed.fdiv 6).fmod 12).toNat ++ wordsB.take ((seed.fdiv 6).fmod 12).toNat).take size.toNat)), _, ?_, rfl, a3, wordsB_ok.turned _ _⟩
      have c2' : (seed.fmod 6 == 5) = true := by simp [c2]
      unfold wordsB at a1 a2
      simp only [List.map_cons, List.map_nil] at a1
      simp? only [c, c2', a1, a2]
      rfl
    · obtain ⟨a1, a2, a3⟩ := names_words (seed := seed) wordsA_ok rfl h0 h1
      refine ⟨.fz (sL ((wordsA.drop ((seed.fdiv 6).fmod 12).toNat ++ wordsA.take ((seed.fdiv 6).fmod 12).toNat).take size.toNat)), _, ?_, rfl, a3, wordsA_ok.turned _ _⟩
      have c2' : (seed.fmod 6 == 5) = false := by simp [c2]
      unfold wordsA at a1 a2
      simp only [List.map_cons, List.map_nil] at a1
      simp? only [c, c2', a1, a2]
      rfl
  · refine ⟨.fr (sL ns), ns, ?_, rfl, hl, nodup_at hb (fun i j s hi hj a b => a.inj (by omega) (by omega) b), fun s hs => ?_⟩
    · simp? only [c, kRg2_s (rngB_of (n := size) (by omega) (by omega)), e]
    · obtain ⟨j, hj, rfl⟩ := List.mem_iff_getElem.mp hs
      exact (hb j _ (by simp)).1
end K24

set_option autoImplicit true
set_option Elab.async false
set_option linter.all false
set_option maxRecDepth 100000
set_option exponentiation.threshold 10000
set_option maxHeartbeats 4000000
namespace K24
open PySem Ed
local macro_rules | `(tactic| simp? only [$hs,*]) => `(tactic| simp (implicitDefEqProofs := false) only [kR_s, eC_ap, eN_ap, kN_s, pN_ap, kP_s, kpE_ok, kpE_ex, pE_ap, kU2_s, kU_ok, kU_ex, eU_ap, kB3_s, kB2_ok, kB2_ex, kB1_ok, kB1_ex, eB_ap, kF2_s, kF_ok, kF_ex, eF_ap, aNil_ap, lNil_ap, kA2_ok, kA2_ex, kA1_ok, kA1_ex, aCons_ap, kL2_ok, kL2_ex, kL1_ok, kL1_ex, lCons_ap, kSz_t, kTp_ok, kTp_ex, kLs_ok, kLs_ex, eTup_ap, nLst_ap, kIf_t, kIf_f, kIf_ex, tC_ap, eAnd_ap, eOr_ap, eNot_ap, eIf_ap, sIf_ap, kE2_b, kE_ok, kE_ex, tE_ap, kT3_s, kT2_s, kT_ok, kT_ex, tTru_ap, tru_int, tru_bl, tru_lst, tru_tup, tru_non, tYs_ap, eCB_ap, eAndV_ap, eOrV_ap, eNotV_ap, kCh4_s, kCh3_ok, kCh3_ex, kCh2_t, kCh2_f, kCh1_s, kCh0_ok, kCh0_ex, kCh_ok, kCh_ex, eChain_ap, callF_ap, kCp_s, kC_ok, kC_ex, kCd_ok, kCd_ex, kFr2_r, kFr_ok, kFr_ex, kC1_ok, kC1_ex, eCall_ap, kC2_ok, kC2_ex, nCall_ap, dfz, dfr, prep0, pK_s, prep_d, prep_t, pKt_s, prep_f, pKf_s, mkF_ap, kMk_ok, kMk_ex, kFl_ok, kFl_ex, eFld_ap, fld_s, kO2_s, kO1_ok, kO1_ex, kO0_ok, kO0_ex, eOwn2_ap, kOC3_s, kOC2_ok, kOC2_ex, kOC1_s, kOC0_ok, kOC0_ex, eOwnC_ap, kM2_ok, kM2_ex, kM1_s, kM0_ok, kM0_ex, eMeth_ap, eJs_nil, kJz_t, kJ2_s, kJ_ok, kJ_ex, eJs_cons, kSl4_s, kSl3_s, kSl2_s, kSl1_s, eSl_ap, oP_n, kOp2_s, kOp_s, oP_s, kLc2_s, kLc1_t, kLc_ok, eLc_ap, kIs2_s, kIs_ok, iSeq_ap, it_l, it_t, kIn_s, iN_ap, kRg_ok, iRg1_ap, kRh2_ok, kRh1_ok, iRg2_ap, sNext_ap, sBrk_ap, sCnt_ap, sRetN_ap, kS_nx, kS_rt, kS_bk, kS_ct, kS_ex, sSeq_ap, kSet_ok, kSet_ex, sSet_ap, kOwn_ok, kOwn_ex, sOwn_ap, kDrp_ok, kDrp_ex, sDrop_ap, kRet_ok, kRet_ex, sRet_ap, kReO_ok, kReO_ex, sRetO_ap, sRetX_ap, kRx_o, kRx_v, kAp3_t, kAp2_o, kAp1_ok, kAp0_s, sApp_ap, kPi4_s, kPi3_s, kPi2_ok, kPi1_s, kPi0_ok, sPutI_ap, kPr2_ok, kPr1_ok, sPar_ap, kAs2_s, kAs_ok, sAsg_ap, gN_ap, gT_t, gT_l, gs_nil, kGs_s, gs_cons, kFor_ok, sFor_ap, sWhl_ap, kFd_ok, sFld_ap, kRs_ok, sRaise_ap, kSu_ok, kTr3_t, kTr2_t, kTr2_f, kTr_ok, kTr_ex, sTry_ap, kIE2_s, kIE_s, eIsE_ap, kXf_s, eXf_ap, fin_nx, fin_rt, fin_ex, finI_ex, kFi_s, finI_nx, app_nil, app_cons, ins0_nil, ins0_cons, inSl_f, inSl_l, inSl_i, inSl_b, inSl_s, inSl_n, inSl_t, inSl_c, inSl_o, pad_0, pad_1, get_0, get_1, put_0, put_1, look_v, look_o, look_b, frz_v, frz_o, stay_v, stay_o, stay_b, rd_d, rd_n, rds_nil, kRd_s, rds_cons, wipe_nil, wipe_cons, rest_nil, rest_cons, all_nil, all_cons, stb_e, stb_v, stb_b, noX_nil, noX_e, noX_v, noX_o, noX_b, true_and', tbl_ap, putFd_nil, putFd_cons, dAdd_i, dSub_i, dNeg_i, dLt_i, dLe_i, dGt_i, dGe_i, dEq_i, dNe_i, dEq_b, dNe_b, dEq_s, dNe_s, o1_ap, dAbs_i, dInt_i, dInt_b, dBool_i, dLen_l, dLen_t, dLen_c, dIx_l, dIx_t, dIx_c, at_0, at_1, at_2, at_3, isT_ii, isT_bi, isT_bb, isT_ss, isT_ll, isT_tt, isB2_i, map_s, dRev_l, dTup_l, dTup_t, dLst_l, dLst_t, dCut_l, dCutL_l, dGcd_i, isB_b, isS_s, mul_r, mul_l, dDiv_r, dMod_i, kGb_s, kGe_s,   decide_true, decide_false, Bool.not_true, Bool.not_false, Bool.and_true, Bool.and_false, Bool.false_and, if_true, if_false, ite_true, ite_false, Bool.false_eq_true, List.lookup_cons, List.lookup_nil, List.length_cons, List.length_nil, Nat.reduceBEq, Nat.reduceLT, Nat.reduceLeDiff, Nat.zero_le, seqMax, List.length_map, Nat.reduceAdd, Nat.reduceEqDiff, Nat.reducePow, Int.reduceNe, Int.reduceEq, Int.reduceLT, Int.reduceLE, Int.reduceBEq, Int.reduceNeg, Int.natAbs_neg, ne_eq, not_true, not_false_eq_true, and_self, true_and, and_true, beq_self_eq_true, turn_ap, kTn1_s, kTn2_t, kTn2_f, kTn2_p, kTn2_n, kTn3_ok, dIn_sl, dIn_st, dNin_sl, dNin_st, dIn_il, dNin_il, kSg2_s, kSg_ok, iSgn_ap, kED_s, eIsED_ap, kX2_s, kX1_ok, kX1_ex, kX0_ok, kX0_ex, eOwnX_ap, kBT4_s, kBT3_ok, kBT3_ex, kBT1_ok, kBT1_ex, eBMT_ap, dIsN_n, dIsN_l, dIsN_t, dIsN_i, dIsN_s, dNotN_n, dNotN_l, dNotN_t, dNotN_i, dNotN_s, dBAnd_i, dBOr_i, dMin2_i, dMax2_i, dCut_t, dCut_c, dCut_l2, Int.cast_ofNat_Int, at_4, at_5, at_6, at_7, at_8, at_9, at_10, at_11, at_12, at_13, $hs,*])
/-! a drawn sequence of names -/
theorem pick_perm {α : Type} {l : List α} {p : Nat} {x : α} (h : l[p]? = some x) : (x :: (l.take p ++ l.drop (p + 1))).Perm l := by
  have e : l = l.take p ++ x :: l.drop (p + 1) := by
    have h1 := List.take_append_drop p l
    have h2 : l.drop p = x :: l.drop (p + 1) := by
      obtain ⟨hp, rfl⟩ := List.getElem?_eq_some_iff.mp h
      exact List.drop_eq_getElem_cons hp
    rw [h2] at h1; exact h1.symm
  have := (List.perm_middle (a := x) (l₁ := l.take p) (l₂ := l.drop (p + 1))).symm
  rw [← e] at this
  exact this
def OrdI (ns : List Str) (pool : List Int) (st : Int) (i : Nat) (Γ : Ed.Env) : Prop := ∃ (left ord : List Str) (j5 j6 : Sl), Γ = [.bor (sL ns), .bor (iL pool), .val (.int st), .val (sL left), .own (sL ord), j5, j6] ∧ (ord ++ left).Perm ns ∧ ord.length = i
theorem order_step (fu : Nat) {ns : List Str} {pool : List Int} {st : Int} {i : Nat} {Γ : Ed.Env} (h0 : 0 ≤ st) (h1 : st + ns.length ≤ pool.length) (h2 : ns.length ≤ 1000) (hi : i < ns.length) (h : OrdI ns pool st i Γ) : ∃ Γ2, kGb (lb_law_order_0 fu) (gN 5 (.int (0 + (i : Int))) Γ) = .ok (.nx, Γ2) ∧ OrdI ns pool st (i + 1) Γ2 := by
  obtain ⟨left, ord, j5, j6, rfl, hp, hl⟩ := h
  have hlen := hp.length_eq
  rw [List.length_append] at hlen
  have hz : ord.length < 16777216 := by omega
  have a1 := at_map (f := D.int) (l := pool) (k := st + i) 0 (by omega) (by omega)
  have hm := fm_lt (pool.getD (st + (i : Int)).toNat 0) (m := (left.length : Int)) (by omega)
  have hne : (left.length : Int) ≠ 0 := by omega
  generalize hq : (pool.getD (st + (i : Int)).toNat 0).fmod (left.length : Int) = q at hm
  have a2 := at_map (f := D.str) (l := left) (k := q) default hm.1 hm.2
  have gx : left[q.toNat]? = some (left.getD q.toNat default) := by
    rw [List.getD_eq_getElem?_getD, List.getElem?_eq_getElem (by omega)]; rfl
  have c1 := cut_to (l := left.map D.str) hm.1
  have c2 := cut_from (l := left.map D.str) (k := q + 1) (by omega)
  have ad : dAdd (.lst ((left.map D.str).take q.toNat)) (.lst ((left.map D.str).drop (q + 1).toNat)) = some (sL (left.take q.toNat ++ left.drop (q.toNat + 1))) := by
    rw [dAdd_L (by simp; omega), show (q + 1).toNat = q.toNat + 1 by omega]
    simp
  have zi : (0 : Int) + (i : Int) = i := by omega
  unfold lb_law_order_0
  refine' ⟨_, ?_, ?_⟩
  rotate_left
  · apply gb_of
    · rfl
    try simp only [put_0, put_1]
    apply seq_nx
    · simp? only [zi, a1, dMod_i hne, hq]
      rfl
    apply seq_nx
    · simp? only [a2, hz]
      rfl
    simp? only [c1, c2, ad, dCut_s]
    rfl
  · refine ⟨left.take q.toNat ++ left.drop (q.toNat + 1), ord ++ [left.getD q.toNat default], _, _, by rw [map_app1], ?_, by simp [hl]⟩
    refine List.Perm.trans ?_ hp
    rw [List.append_assoc]
    exact List.Perm.append_left _ (pick_perm gx)
theorem order_ok (fu : Nat) {ns : List Str} {pool : List Int} {st : Int} (h0 : 0 ≤ st) (h1 : st + ns.length ≤ pool.length) (h2 : ns.length ≤ 1000) : ∃ ord : List Str, F_law_order fu [sL ns, iL pool, .int st] = .ok (.fr (sL ord)) ∧ ord.Perm ns := by
  have h00 : OrdI ns pool st 0 [.bor (sL ns), .bor (iL pool), .val (.int st), .val (sL ns), .own (.lst []), .emp, .emp] := ⟨ns, [], _, _, rfl, List.Perm.refl _, rfl⟩
  obtain ⟨Γ', e, left, ord, j5, j6, rfl, hp, hl⟩ := forL_rm (g := gN 5) (s := lb_law_order_0 fu) (lo := 0) (m := ns.length) h00 fun i Γ hi p => order_step fu h0 h1 h2 hi p
  have hleft : left = [] := by
    have := hp.length_eq
    rw [List.length_append] at this
    exact List.length_eq_zero_iff.mp (by omega)
  subst hleft
  rw [List.append_nil] at hp
  refine ⟨ord, ?_, hp⟩
  have tn : ((ns.length : Int)).toNat = ns.length := by omega
  unfold F_law_order sv_law_order
  rw [runF_ap rfl]
  apply fin_of
  try simp only [app_nil, app_cons, ins0_nil, ins0_cons, inSl_f, inSl_l, inSl_i, inSl_b, inSl_s, inSl_n, inSl_t, inSl_c, inSl_o, pad_0, pad_1]
  · apply seq_nx
    · simp? only []
      rfl
    apply seq_nx
    · simp? only []
      rfl
    apply seq_nx
    · simp? only [kRg2_s (rngB_of (n := (ns.length : Int)) (by omega) (by omega)), tn, e]
      rfl
    simp? only []
    rfl
  · rfl
/-! drawn rows -/
def RowOk (ns r : List Str) : Prop := r.Nodup ∧ ∀ x ∈ r, x ∈ ns
theorem RowOk.le {ns r : List Str} (h : RowOk ns r) : r.length ≤ ns.length := nodup_le h.1 h.2
theorem RowOk.turned {ns r : List Str} (h : RowOk ns r) (c : Nat) : RowOk ns (r.drop c ++ r.take c) := by
  have p : (r.drop c ++ r.take c).Perm r := by
    refine List.perm_append_comm.trans ?_
    rw [List.take_append_drop]
  exact ⟨p.nodup_iff.mpr h.1, fun s hs => h.2 s (p.mem_iff.mp hs)⟩
theorem RowOk.sub {ns r q : List Str} (h : RowOk ns r) (s : q.Sublist r) : RowOk ns q := ⟨h.1.sublist s, fun x hx => h.2 x (s.mem hx)⟩
def RowI (ns hid : List Str) (i : Nat) (Γ : Ed.Env) : Prop := ∃ (d : Int) (r : List Str) (j5 j6 j7 j8 j9 : Sl), Γ = [.bor (sL ns), .bor (sL hid), .val (.int d), .val (.bl true), .own (sL r), j5, j6, j7, j8, j9] ∧ r.Sublist (ns.take i)
theorem row_step (fu : Nat) {ns hid : List Str} {i : Nat} {Γ : Ed.Env} {x : Str} (hn : ns.length ≤ 1000) (hx : ns[i]? = some x) (h : RowI ns hid i Γ) : ∃ Γ2, kGb (lb_law_row_0 fu) (gN 5 (.str x) Γ) = .ok (.nx, Γ2) ∧ RowI ns hid (i + 1) Γ2 := by
  obtain ⟨d, r, j5, j6, j7, j8, j9, rfl, hs⟩ := h
  have hz : r.length < 16777216 := by
    have := hs.length_le
    rw [List.length_take] at this
    omega
  have ht := take_s hx
  unfold lb_law_row_0
  by_cases hp : d.fmod 2 = 1
  · refine' ⟨_, ?_, ?_⟩
    rotate_left
    · simp? only [hp, hz]
      rfl
    · exact ⟨_, r ++ [x], _, _, _, _, _, by rw [map_app1], by rw [ht]; exact hs.append (List.Sublist.refl _)⟩
  · have hp2 : (d.fmod 2 == 1) = false := by simp [hp]
    refine' ⟨_, ?_, ?_⟩
    rotate_left
    · simp? only [hp2, hz]
      rfl
    · exact ⟨_, r, _, _, _, _, _, rfl, by rw [ht]; exact hs.trans (List.sublist_append_left _ _)⟩
theorem row_ok (fu : Nat) {ns hid : List Str} {d : Int} {free : Bool} (hn : ns.Nodup) (hh : RowOk ns hid) (hl : ns.length ≤ 1000) : ∃ (o : DV) (r : List Str), F_law_row fu [sL ns, sL hid, .int d, .bl free] = .ok o ∧ o.d = sL r ∧ RowOk ns r := by
  have hhl := hh.le
  cases free with
  | true =>
    have h00 : RowI ns hid 0 [.bor (sL ns), .bor (sL hid), .val (.int d), .val (.bl true), .own (.lst []), .emp, .emp, .emp, .emp, .emp] := ⟨d, [], _, _, _, _, _, rfl, List.nil_sublist _⟩
    obtain ⟨Γ', e, d', r, j5, j6, j7, j8, j9, rfl, hs⟩ := forL_m (g := gN 5) (s := lb_law_row_0 fu) (f := D.str) (xs := ns) h00 fun i x Γ hi p => row_step fu hl hi p
    rw [List.take_length] at hs
    refine ⟨.fr (sL r), r, ?_, rfl, hn.sublist hs, fun x hx => hs.mem hx⟩
    unfold F_law_row sv_law_row
    rw [runF_ap rfl]
    simp? only [e]
  | false =>
    have f0 := fm_lt d (m := (hid.length : Int) + 1) (by omega)
    have f1 := fm_lt (d.fdiv 13) (m := (hid.length : Int) + 1) (by omega)
    have f2 := fm_lt (d.fdiv 169) (m := (hid.length : Int) + 1) (by omega)
    have hne : (hid.length : Int) + 1 ≠ 0 := by omega
    have s1 : ((hid.drop (d.fmod ((hid.length : Int) + 1)).toNat).take ((d.fmod ((hid.length : Int) + 1) + (d.fdiv 13).fmod ((hid.length : Int) + 1)).toNat - (d.fmod ((hid.length : Int) + 1)).toNat)).Sublist hid := (List.take_sublist _ _).trans (List.drop_sublist _ _)
    have c1 : cut (hid.map D.str) (some (d.fmod ((hid.length : Int) + 1))) (some (d.fmod ((hid.length : Int) + 1) + (d.fdiv 13).fmod ((hid.length : Int) + 1))) = ((hid.drop (d.fmod ((hid.length : Int) + 1)).toNat).take ((d.fmod ((hid.length : Int) + 1) + (d.fdiv 13).fmod ((hid.length : Int) + 1)).toNat - (d.fmod ((hid.length : Int) + 1)).toNat)).map D.str := by
      rw [cut_mid f0.1 (by omega), List.map_take, List.map_drop]
    have hz := s1.length_le
    generalize hr : (hid.drop (d.fmod ((hid.length : Int) + 1)).toNat).take ((d.fmod ((hid.length : Int) + 1) + (d.fdiv 13).fmod ((hid.length : Int) + 1)).toNat - (d.fmod ((hid.length : Int) + 1)).toNat) = r at s1 c1 hz
    generalize hq2 : (d.fdiv 169).fmod ((hid.length : Int) + 1) = q at f2
    have c2 : dAdd (.lst (cut (r.map D.str) (some q) none)) (.lst (cut (r.map D.str) none (some q))) = some (sL (r.drop q.toNat ++ r.take q.toNat)) := by
      rw [cut_from f2.1, cut_to f2.1, dAdd_L (by simp; omega)]
      simp
    refine ⟨.fz (sL (r.drop q.toNat ++ r.take q.toNat)), _, ?_, rfl, (hh.sub s1).turned _⟩
    unfold F_law_row sv_law_row sg_law_row_1
    rw [runF_ap rfl]
    apply fin_of
    try simp only [app_nil, app_cons, ins0_nil, ins0_cons, inSl_f, inSl_l, inSl_i, inSl_b, inSl_s, inSl_n, inSl_t, inSl_c, inSl_o, pad_0, pad_1]
    · apply seq_nx
      · simp? only []
        rfl
      apply seq_nx
      · simp? only []
        rfl
      apply seq_nx
      · simp? only []
        rfl
      apply seq_nx
      · simp? only [dMod_i hne]
        rfl
      apply seq_nx
      · simp? only [dMod_i hne]
        rfl
      apply seq_nx
      · simp? only [c1]
        rfl
      apply seq_nx
      · simp? only [dMod_i hne, hq2]
        rfl
      simp? only [c2, dCut_s]
      rfl
    · rfl
end K24

set_option autoImplicit true
set_option Elab.async false
set_option linter.all false
set_option maxRecDepth 100000
set_option exponentiation.threshold 10000
set_option maxHeartbeats 4000000
namespace K24
open PySem Ed
local macro_rules | `(tactic| simp? only [$hs,*]) => `(tactic| simp (implicitDefEqProofs := false) only [kR_s, eC_ap, eN_ap, kN_s, pN_ap, kP_s, kpE_ok, kpE_ex, pE_ap, kU2_s, kU_ok, kU_ex, eU_ap, kB3_s, kB2_ok, kB2_ex, kB1_ok, kB1_ex, eB_ap, kF2_s, kF_ok, kF_ex, eF_ap, aNil_ap, lNil_ap, kA2_ok, kA2_ex, kA1_ok, kA1_ex, aCons_ap, kL2_ok, kL2_ex, kL1_ok, kL1_ex, lCons_ap, kSz_t, kTp_ok, kTp_ex, kLs_ok, kLs_ex, eTup_ap, nLst_ap, kIf_t, kIf_f, kIf_ex, tC_ap, eAnd_ap, eOr_ap, eNot_ap, eIf_ap, sIf_ap, kE2_b, kE_ok, kE_ex, tE_ap, kT3_s, kT2_s, kT_ok, kT_ex, tTru_ap, tru_int, tru_bl, tru_lst, tru_tup, tru_non, tYs_ap, eCB_ap, eAndV_ap, eOrV_ap, eNotV_ap, kCh4_s, kCh3_ok, kCh3_ex, kCh2_t, kCh2_f, kCh1_s, kCh0_ok, kCh0_ex, kCh_ok, kCh_ex, eChain_ap, callF_ap, kCp_s, kC_ok, kC_ex, kCd_ok, kCd_ex, kFr2_r, kFr_ok, kFr_ex, kC1_ok, kC1_ex, eCall_ap, kC2_ok, kC2_ex, nCall_ap, dfz, dfr, prep0, pK_s, prep_d, prep_t, pKt_s, prep_f, pKf_s, mkF_ap, kMk_ok, kMk_ex, kFl_ok, kFl_ex, eFld_ap, fld_s, kO2_s, kO1_ok, kO1_ex, kO0_ok, kO0_ex, eOwn2_ap, kOC3_s, kOC2_ok, kOC2_ex, kOC1_s, kOC0_ok, kOC0_ex, eOwnC_ap, kM2_ok, kM2_ex, kM1_s, kM0_ok, kM0_ex, eMeth_ap, eJs_nil, kJz_t, kJ2_s, kJ_ok, kJ_ex, eJs_cons, kSl4_s, kSl3_s, kSl2_s, kSl1_s, eSl_ap, oP_n, kOp2_s, kOp_s, oP_s, kLc2_s, kLc1_t, kLc_ok, eLc_ap, kIs2_s, kIs_ok, iSeq_ap, it_l, it_t, kIn_s, iN_ap, kRg_ok, iRg1_ap, kRh2_ok, kRh1_ok, iRg2_ap, sNext_ap, sBrk_ap, sCnt_ap, sRetN_ap, kS_nx, kS_rt, kS_bk, kS_ct, kS_ex, sSeq_ap, kSet_ok, kSet_ex, sSet_ap, kOwn_ok, kOwn_ex, sOwn_ap, kDrp_ok, kDrp_ex, sDrop_ap, kRet_ok, kRet_ex, sRet_ap, kReO_ok, kReO_ex, sRetO_ap, sRetX_ap, kRx_o, kRx_v, kAp3_t, kAp2_o, kAp1_ok, kAp0_s, sApp_ap, kPi4_s, kPi3_s, kPi2_ok, kPi1_s, kPi0_ok, sPutI_ap, kPr2_ok, kPr1_ok, sPar_ap, kAs2_s, kAs_ok, sAsg_ap, gN_ap, gT_t, gT_l, gs_nil, kGs_s, gs_cons, kFor_ok, sFor_ap, sWhl_ap, kFd_ok, sFld_ap, kRs_ok, sRaise_ap, kSu_ok, kTr3_t, kTr2_t, kTr2_f, kTr_ok, kTr_ex, sTry_ap, kIE2_s, kIE_s, eIsE_ap, kXf_s, eXf_ap, fin_nx, fin_rt, fin_ex, finI_ex, kFi_s, finI_nx, app_nil, app_cons, ins0_nil, ins0_cons, inSl_f, inSl_l, inSl_i, inSl_b, inSl_s, inSl_n, inSl_t, inSl_c, inSl_o, pad_0, pad_1, get_0, get_1, put_0, put_1, look_v, look_o, look_b, frz_v, frz_o, stay_v, stay_o, stay_b, rd_d, rd_n, rds_nil, kRd_s, rds_cons, wipe_nil, wipe_cons, rest_nil, rest_cons, all_nil, all_cons, stb_e, stb_v, stb_b, noX_nil, noX_e, noX_v, noX_o, noX_b, true_and', tbl_ap, putFd_nil, putFd_cons, dAdd_i, dSub_i, dNeg_i, dLt_i, dLe_i, dGt_i, dGe_i, dEq_i, dNe_i, dEq_b, dNe_b, dEq_s, dNe_s, o1_ap, dAbs_i, dInt_i, dInt_b, dBool_i, dLen_l, dLen_t, dLen_c, dIx_l, dIx_t, dIx_c, at_0, at_1, at_2, at_3, isT_ii, isT_bi, isT_bb, isT_ss, isT_ll, isT_tt, isB2_i, map_s, dRev_l, dTup_l, dTup_t, dLst_l, dLst_t, dCut_l, dCutL_l, dGcd_i, isB_b, isS_s, mul_r, mul_l, dDiv_r, dMod_i, kGb_s, kGe_s,   decide_true, decide_false, Bool.not_true, Bool.not_false, Bool.and_true, Bool.and_false, Bool.false_and, if_true, if_false, ite_true, ite_false, Bool.false_eq_true, List.lookup_cons, List.lookup_nil, List.length_cons, List.length_nil, Nat.reduceBEq, Nat.reduceLT, Nat.reduceLeDiff, Nat.zero_le, seqMax, List.length_map, Nat.reduceAdd, Nat.reduceEqDiff, Nat.reducePow, Int.reduceNe, Int.reduceEq, Int.reduceLT, Int.reduceLE, Int.reduceBEq, Int.reduceNeg, Int.natAbs_neg, ne_eq, not_true, not_false_eq_true, and_self, true_and, and_true, beq_self_eq_true, turn_ap, kTn1_s, kTn2_t, kTn2_f, kTn2_p, kTn2_n, kTn3_ok, dIn_sl, dIn_st, dNin_sl, dNin_st, dIn_il, dNin_il, kSg2_s, kSg_ok, iSgn_ap, kED_s, eIsED_ap, kX2_s, kX1_ok, kX1_ex, kX0_ok, kX0_ex, eOwnX_ap, kBT4_s, kBT3_ok, kBT3_ex, kBT1_ok, kBT1_ex, eBMT_ap, dIsN_n, dIsN_l, dIsN_t, dIsN_i, dIsN_s, dNotN_n, dNotN_l, dNotN_t, dNotN_i, dNotN_s, dBAnd_i, dBOr_i, dMin2_i, dMax2_i, dCut_t, dCut_c, dCut_l2, Int.cast_ofNat_Int, at_4, at_5, at_6, at_7, at_8, at_9, at_10, at_11, at_12, at_13, $hs,*])
def sizesL : List Int := [3, 4, 5, 2, 4, 6, 3, 5, 1, 7, 0, 12, 4, 5, 3, 6, 8, 4, 5, 9, 10, 4, 7, 11]
theorem sizes_b : ∀ k < 24, 0 ≤ sizesL.getD k 0 ∧ sizesL.getD k 0 ≤ 12 := by decide +kernel
theorem size_ok (fu : Nat) (d : Int) {m : Int} (hm : 0 ≤ m) : ∃ v : Int, F_law_size fu [.int d, .int m] = .ok (.fz (.int v)) ∧ 0 ≤ v ∧ v ≤ 12 ∧ v ≤ m := by
  have f := fm_lt d (m := 24) (by decide)
  have a := at_map (f := D.int) (l := sizesL) (k := d.fmod 24) 0 f.1 (by show _ < ((24 : Nat) : Int); omega)
  have b := sizes_b (d.fmod 24).toNat (by omega)
  generalize sizesL.getD (d.fmod 24).toNat 0 = v at a b
  unfold sizesL at a
  simp only [List.map_cons, List.map_nil] at a
  refine ⟨if v < m then v else m, ?_, by split <;> omega, by split <;> omega, by split <;> omega⟩
  unfold F_law_size sv_law_size
  rw [runF_ap rfl]
  apply fin_of
  try simp only [app_nil, app_cons, ins0_nil, ins0_cons, inSl_f, inSl_l, inSl_i, inSl_b, inSl_s, inSl_n, inSl_t, inSl_c, inSl_o, pad_0, pad_1]
  · apply seq_nx
    · simp? only []
      rfl
    simp? only [a]
    rfl
  · rfl
def RowsI (ns hid : List Str) (pool : List Int) (st ct md : Int) (i : Nat) (Γ : Ed.Env) : Prop := ∃ (rows : List (List Str)) (j7 j8 : Sl), Γ = [.bor (sL ns), .bor (sL hid), .bor (iL pool), .val (.int st), .val (.int ct), .val (.int md), .own (sLL rows), j7, j8] ∧ rows.length = i ∧ ∀ r ∈ rows, RowOk ns r
theorem mem_app1 {α : Type} {P : α → Prop} {xs : List α} {x : α} (h : ∀ y ∈ xs, P y) (hx : P x) : ∀ y ∈ xs ++ [x], P y := fun y hy => by
  rcases List.mem_append.mp hy with h' | h'
  · exact h y h'
  · rw [List.mem_singleton.mp h']; exact hx
theorem rows_step (fu : Nat) {ns hid : List Str} {pool : List Int} {st ct md : Int} {i : Nat} {Γ : Ed.Env} (hn : ns.Nodup) (hh : RowOk ns hid) (hl : ns.length ≤ 1000) (h0 : 0 ≤ st) (h1 : st + i < pool.length) (hi : i < 1000) (h : RowsI ns hid pool st ct md i Γ) : ∃ Γ2, kGb (lb_law_rows_0 fu) (gN 7 (.int (0 + (i : Int))) Γ) = .ok (.nx, Γ2) ∧ RowsI ns hid pool st ct md (i + 1) Γ2 := by
  obtain ⟨rows, j7, j8, rfl, hr, hb⟩ := h
  have hz : rows.length < 16777216 := by omega
  have zi : (0 : Int) + (i : Int) = i := by omega
  have a1 := at_map (f := D.int) (l := pool) (k := st + i) 0 (by omega) (by omega)
  have fr : ∃ f : Bool, ∀ Γ, sSet 8 (eOrV (eB dEq (pN 5) (pE (eC (.int 2)))) (eAndV (eB dEq (pN 5) (pE (eC (.int 1)))) (eB dEq (pN 7) (pE (eB dSub (pN 4) (pE (eC (.int 1)))))))) [.bor (sL ns), .bor (sL hid), .bor (iL pool), .val (.int st), .val (.int ct), .val (.int md), .own (sLL rows), .val (.int i), j8] = .ok (.nx, Γ) ↔ Γ = [.bor (sL ns), .bor (sL hid), .bor (iL pool), .val (.int st), .val (.int ct), .val (.int md), .own (sLL rows), .val (.int i), .val (.bl f)] := by
    cases h1 : (md == 2) with
    | true => exact ⟨true, fun Γ => by simp? only [h1]; simp [eq_comm]⟩
    | false =>
      cases h2 : (md == 1) with
      | true => exact ⟨_, fun Γ => by simp? only [h1, h2]; simp [eq_comm]; rfl⟩
      | false => exact ⟨false, fun Γ => by simp? only [h1, h2]; simp [eq_comm]⟩
  obtain ⟨f, hf⟩ := fr
  obtain ⟨o, r, ho, hd, hrow⟩ := row_ok fu (d := pool.getD (st + (i : Int)).toNat 0) (free := f) hn hh hl
  unfold lb_law_rows_0
  refine' ⟨_, ?_, ?_⟩
  rotate_left
  · apply gb_of
    · rfl
    try simp only [put_0, put_1]
    rw [zi]
    apply seq_nx
    · exact (hf _).mpr rfl
    simp? only [a1, ho, hd, hz]
    rfl
  · exact ⟨rows ++ [r], _, _, by rw [map_app1], by simp [hr], mem_app1 hb hrow⟩
theorem rows_ok (fu : Nat) {ns hid : List Str} {pool : List Int} {st ct md : Int} (hn : ns.Nodup) (hh : RowOk ns hid) (hl : ns.length ≤ 1000) (h0 : 0 ≤ st) (hc : 0 ≤ ct) (h1 : st + ct ≤ pool.length) (h2 : ct < 1000) : ∃ rows : List (List Str), F_law_rows fu [sL ns, sL hid, iL pool, .int st, .int ct, .int md] = .ok (.fr (sLL rows)) ∧ rows.length = ct.toNat ∧ ∀ r ∈ rows, RowOk ns r := by
  have h00 : RowsI ns hid pool st ct md 0 [.bor (sL ns), .bor (sL hid), .bor (iL pool), .val (.int st), .val (.int ct), .val (.int md), .own (.lst []), .emp, .emp] := ⟨[], _, _, rfl, rfl, fun r hr => by cases hr⟩
  obtain ⟨Γ', e, rows, j7, j8, rfl, hr, hb⟩ := forL_rm (g := gN 7) (s := lb_law_rows_0 fu) (lo := 0) (m := ct.toNat) h00 fun i Γ hi p => rows_step fu hn hh hl h0 (by omega) (by omega) p
  refine ⟨rows, ?_, hr, hb⟩
  unfold F_law_rows sv_law_rows
  rw [runF_ap rfl]
  apply fin_of
  try simp only [app_nil, app_cons, ins0_nil, ins0_cons, inSl_f, inSl_l, inSl_i, inSl_b, inSl_s, inSl_n, inSl_t, inSl_c, inSl_o, pad_0, pad_1]
  · apply seq_nx
    · simp? only []
      rfl
    apply seq_nx
    · simp? only [kRg2_s (rngB_of (n := ct) (by omega) (by omega)), e]
      rfl
    simp? only []
    rfl
  · rfl
/-! the columns that a row has, in order -/
def srt (ns r : List Str) : List Str := ns.filter fun x => decide (x ∈ r)
theorem sorted_ok (fu : Nat) {ns r : List Str} (hl : ns.length ≤ 1000) : F_law_sorted fu [sL ns, sL r] = .ok (.fr (sL (srt ns r))) := by
  have e := lcL_if (g := gN 2) (t := et_law_sorted_1 fu) (e := el_law_sorted_0 fu) (vs := [2]) (Γ0 := [.bor (sL ns), .bor (sL r), .emp]) D.str (fun x => x ∈ r) D.str ns (fun x hx => by
    unfold et_law_sorted_1 el_law_sorted_0
    simp? only []) (n := 0) (by show 0 + ns.length ≤ 16777216; omega)
  unfold F_law_sorted sv_law_sorted
  rw [runF_ap rfl]
  apply fin_of
  try simp only [app_nil, app_cons, ins0_nil, ins0_cons, inSl_f, inSl_l, inSl_i, inSl_b, inSl_s, inSl_n, inSl_t, inSl_c, inSl_o, pad_0, pad_1]
  · simp? only [e]
    rfl
  · rfl
theorem is_number_int (fu : Nat) {v a b : Int} : F_law_is_number fu [.int v, .int a, .int b] = .ok (.fz (.bl (decide (a ≤ v) && decide (v ≤ b)))) := by
  unfold F_law_is_number sv_law_is_number
  by_cases h : a ≤ v
  · rw [decide_eq_true h]
    rw [runF_ap rfl]
    apply fin_of
    try simp only [app_nil, app_cons, ins0_nil, ins0_cons, inSl_f, inSl_l, inSl_i, inSl_b, inSl_s, inSl_n, inSl_t, inSl_c, inSl_o, pad_0, pad_1]
    · simp? only [h]
      rfl
    · rfl
  · rw [decide_eq_false h]
    rw [runF_ap rfl]
    apply fin_of
    try simp only [app_nil, app_cons, ins0_nil, ins0_cons, inSl_f, inSl_l, inSl_i, inSl_b, inSl_s, inSl_n, inSl_t, inSl_c, inSl_o, pad_0, pad_1]
    · simp? only [h]
      rfl
    · rfl
end K24

set_option autoImplicit true
set_option Elab.async false
set_option linter.all false
set_option maxRecDepth 100000
set_option exponentiation.threshold 10000
set_option maxHeartbeats 4000000
namespace K24
open PySem Ed
local macro_rules | `(tactic| simp? only [$hs,*]) => `(tactic| simp (implicitDefEqProofs := false) only [kR_s, eC_ap, eN_ap, kN_s, pN_ap, kP_s, kpE_ok, kpE_ex, pE_ap, kU2_s, kU_ok, kU_ex, eU_ap, kB3_s, kB2_ok, kB2_ex, kB1_ok, kB1_ex, eB_ap, kF2_s, kF_ok, kF_ex, eF_ap, aNil_ap, lNil_ap, kA2_ok, kA2_ex, kA1_ok, kA1_ex, aCons_ap, kL2_ok, kL2_ex, kL1_ok, kL1_ex, lCons_ap, kSz_t, kTp_ok, kTp_ex, kLs_ok, kLs_ex, eTup_ap, nLst_ap, kIf_t, kIf_f, kIf_ex, tC_ap, eAnd_ap, eOr_ap, eNot_ap, eIf_ap, sIf_ap, kE2_b, kE_ok, kE_ex, tE_ap, kT3_s, kT2_s, kT_ok, kT_ex, tTru_ap, tru_int, tru_bl, tru_lst, tru_tup, tru_non, tYs_ap, eCB_ap, eAndV_ap, eOrV_ap, eNotV_ap, kCh4_s, kCh3_ok, kCh3_ex, kCh2_t, kCh2_f, kCh1_s, kCh0_ok, kCh0_ex, kCh_ok, kCh_ex, eChain_ap, callF_ap, kCp_s, kC_ok, kC_ex, kCd_ok, kCd_ex, kFr2_r, kFr_ok, kFr_ex, kC1_ok, kC1_ex, eCall_ap, kC2_ok, kC2_ex, nCall_ap, dfz, dfr, prep0, pK_s, prep_d, prep_t, pKt_s, prep_f, pKf_s, mkF_ap, kMk_ok, kMk_ex, kFl_ok, kFl_ex, eFld_ap, fld_s, kO2_s, kO1_ok, kO1_ex, kO0_ok, kO0_ex, eOwn2_ap, kOC3_s, kOC2_ok, kOC2_ex, kOC1_s, kOC0_ok, kOC0_ex, eOwnC_ap, kM2_ok, kM2_ex, kM1_s, kM0_ok, kM0_ex, eMeth_ap, eJs_nil, kJz_t, kJ2_s, kJ_ok, kJ_ex, eJs_cons, kSl4_s, kSl3_s, kSl2_s, kSl1_s, eSl_ap, oP_n, kOp2_s, kOp_s, oP_s, kLc2_s, kLc1_t, kLc_ok, eLc_ap, kIs2_s, kIs_ok, iSeq_ap, it_l, it_t, kIn_s, iN_ap, kRg_ok, iRg1_ap, kRh2_ok, kRh1_ok, iRg2_ap, sNext_ap, sBrk_ap, sCnt_ap, sRetN_ap, kS_nx, kS_rt, kS_bk, kS_ct, kS_ex, sSeq_ap, kSet_ok, kSet_ex, sSet_ap, kOwn_ok, kOwn_ex, sOwn_ap, kDrp_ok, kDrp_ex, sDrop_ap, kRet_ok, kRet_ex, sRet_ap, kReO_ok, kReO_ex, sRetO_ap, sRetX_ap, kRx_o, kRx_v, kAp3_t, kAp2_o, kAp1_ok, kAp0_s, sApp_ap, kPi4_s, kPi3_s, kPi2_ok, kPi1_s, kPi0_ok, sPutI_ap, kPr2_ok, kPr1_ok, sPar_ap, kAs2_s, kAs_ok, sAsg_ap, gN_ap, gT_t, gT_l, gs_nil, kGs_s, gs_cons, kFor_ok, sFor_ap, sWhl_ap, kFd_ok, sFld_ap, kRs_ok, sRaise_ap, kSu_ok, kTr3_t, kTr2_t, kTr2_f, kTr_ok, kTr_ex, sTry_ap, kIE2_s, kIE_s, eIsE_ap, kXf_s, eXf_ap, fin_nx, fin_rt, fin_ex, finI_ex, kFi_s, finI_nx, app_nil, app_cons, ins0_nil, ins0_cons, inSl_f, inSl_l, inSl_i, inSl_b, inSl_s, inSl_n, inSl_t, inSl_c, inSl_o, pad_0, pad_1, get_0, get_1, put_0, put_1, look_v, look_o, look_b, frz_v, frz_o, stay_v, stay_o, stay_b, rd_d, rd_n, rds_nil, kRd_s, rds_cons, wipe_nil, wipe_cons, rest_nil, rest_cons, all_nil, all_cons, stb_e, stb_v, stb_b, noX_nil, noX_e, noX_v, noX_o, noX_b, true_and', tbl_ap, putFd_nil, putFd_cons, dAdd_i, dSub_i, dNeg_i, dLt_i, dLe_i, dGt_i, dGe_i, dEq_i, dNe_i, dEq_b, dNe_b, dEq_s, dNe_s, o1_ap, dAbs_i, dInt_i, dInt_b, dBool_i, dLen_l, dLen_t, dLen_c, dIx_l, dIx_t, dIx_c, at_0, at_1, at_2, at_3, isT_ii, isT_bi, isT_bb, isT_ss, isT_ll, isT_tt, isB2_i, map_s, dRev_l, dTup_l, dTup_t, dLst_l, dLst_t, dCut_l, dCutL_l, dGcd_i, isB_b, isS_s, mul_r, mul_l, dDiv_r, dMod_i, kGb_s, kGe_s,   decide_true, decide_false, Bool.not_true, Bool.not_false, Bool.and_true, Bool.and_false, Bool.false_and, if_true, if_false, ite_true, ite_false, Bool.false_eq_true, List.lookup_cons, List.lookup_nil, List.length_cons, List.length_nil, Nat.reduceBEq, Nat.reduceLT, Nat.reduceLeDiff, Nat.zero_le, seqMax, List.length_map, Nat.reduceAdd, Nat.reduceEqDiff, Nat.reducePow, Int.reduceNe, Int.reduceEq, Int.reduceLT, Int.reduceLE, Int.reduceBEq, Int.reduceNeg, Int.natAbs_neg, ne_eq, not_true, not_false_eq_true, and_self, true_and, and_true, beq_self_eq_true, turn_ap, kTn1_s, kTn2_t, kTn2_f, kTn2_p, kTn2_n, kTn3_ok, dIn_sl, dIn_st, dNin_sl, dNin_st, dIn_il, dNin_il, kSg2_s, kSg_ok, iSgn_ap, kED_s, eIsED_ap, kX2_s, kX1_ok, kX1_ex, kX0_ok, kX0_ex, eOwnX_ap, kBT4_s, kBT3_ok, kBT3_ex, kBT1_ok, kBT1_ex, eBMT_ap, dIsN_n, dIsN_l, dIsN_t, dIsN_i, dIsN_s, dNotN_n, dNotN_l, dNotN_t, dNotN_i, dNotN_s, dBAnd_i, dBOr_i, dMin2_i, dMax2_i, dCut_t, dCut_c, dCut_l2, Int.cast_ofNat_Int, at_4, at_5, at_6, at_7, at_8, at_9, at_10, at_11, at_12, at_13, $hs,*])
/-! names, rows, tables -/
theorem ltr_in : ∀ c : Nat, decide (c ∈ ("abcdefghijklmnopqrstuvwxyz" : Str).cps.toList) = decide (97 ≤ c ∧ c ≤ 122) := by
  have e : ("abcdefghijklmnopqrstuvwxyz" : Str).cps.toList = [97, 98, 99, 100, 101, 102, 103, 104, 105, 106, 107, 108, 109, 110, 111, 112, 113, 114, 115, 116, 117, 118, 119, 120, 121, 122] := by decide +kernel
  intro c
  rw [e]
  congr 1
  simp only [List.mem_cons, List.not_mem_nil, or_false, eq_iff_iff]
  omega
theorem dIn_ltr {c : Nat} : dIn (.str ⟨#[c]⟩) (.str "abcdefghijklmnopqrstuvwxyz") = some (.bl (decide (97 ≤ c ∧ c ≤ 122))) := by
  rw [← ltr_in]; rfl
theorem boolsL_map (f : Nat → Bool) : ∀ xs : List Nat, boolsL (xs.map fun c => D.bl (f c)) = some (xs.map f)
  | [] => rfl
  | x :: xs => by rw [List.map_cons, boolsL, boolsL_map f xs]; rfl
theorem is_name_ok (fu : Nat) {s : Str} (hs : s.length ≤ 16777216) : F_is_name fu [.str s] = .ok (.fz (.bl (decide (nameOk s)))) := by
  have hl : s.cps.toList.length = s.length := by simp [Str.length]
  have e := lcL_a (g := gN 1) (t := tYs) (e := el_is_name_0 fu) (vs := [1]) (Γ0 := [.val (.str s), .emp]) (fun c => D.str ⟨#[c]⟩) (fun c => D.bl (decide (97 ≤ c ∧ c ≤ 122))) s.cps.toList (fun x hx => by
    unfold el_is_name_0
    simp? only [dIn_ltr]) (n := 0) (by show 0 + _ ≤ 16777216; omega)
  have e2 : dAll (.lst (s.cps.toList.map fun c => D.bl (decide (97 ≤ c ∧ c ≤ 122)))) = some (.bl (decide (∀ c ∈ s.cps.toList, 97 ≤ c ∧ c ≤ 122))) := by
    show (boolsL _).map _ = _
    rw [boolsL_map]
    show some (D.bl _) = _
    congr 2
    rw [List.all_map]
    by_cases h : ∀ c ∈ s.cps.toList, 97 ≤ c ∧ c ≤ 122
    · rw [decide_eq_true h, List.all_eq_true]
      intro c hc
      simpa using h c hc
    · rw [decide_eq_false h]
      rw [Bool.eq_false_iff]
      intro h2
      rw [List.all_eq_true] at h2
      exact h fun c hc => by simpa using h2 c hc
  have dl : dLen (.str s) = some (.int s.length) := if_pos hs
  unfold F_is_name sv_is_name
  by_cases h1 : (1 : Int) ≤ s.length
  · by_cases h2 : (s.length : Int) ≤ 8
    · have hd : decide (nameOk s) = decide (∀ c ∈ s.cps.toList, 97 ≤ c ∧ c ≤ 122) := by
        congr 1
        unfold nameOk
        rw [eq_iff_iff]
        exact ⟨fun h => h.2.2, fun h => ⟨by omega, by omega, h⟩⟩
      rw [hd]
      rw [runF_ap rfl]
      apply fin_of
      try simp only [app_nil, app_cons, ins0_nil, ins0_cons, inSl_f, inSl_l, inSl_i, inSl_b, inSl_s, inSl_n, inSl_t, inSl_c, inSl_o, pad_0, pad_1]
      · apply seq_nx
        · simp? only [dl, h1, h2]
          rfl
        simp? only [sgn, e, e2]
        rfl
      · rfl
    · have hd : decide (nameOk s) = false := decide_eq_false fun h => by have := h.2.1; omega
      rw [hd]
      rw [runF_ap rfl]
      apply fin_of
      try simp only [app_nil, app_cons, ins0_nil, ins0_cons, inSl_f, inSl_l, inSl_i, inSl_b, inSl_s, inSl_n, inSl_t, inSl_c, inSl_o, pad_0, pad_1]
      · apply seq_rt
        · simp? only [dl, h1, h2]
          rfl
        rfl
      · rfl
  · have hd : decide (nameOk s) = false := decide_eq_false fun h => by have := h.1; omega
    rw [hd]
    rw [runF_ap rfl]
    apply fin_of
    try simp only [app_nil, app_cons, ins0_nil, ins0_cons, inSl_f, inSl_l, inSl_i, inSl_b, inSl_s, inSl_n, inSl_t, inSl_c, inSl_o, pad_0, pad_1]
    · apply seq_rt
      · simp? only [dl, h1]
        rfl
      rfl
    · rfl
/-- the columns are names, all different -/
theorem misnamed_ok (fu : Nat) {cs : List Str} (h : ∀ s ∈ cs, nameOk s) (hn : cs.Nodup) (hl : cs.length ≤ 1000) : F_first_misnamed fu [sL cs] = .ok (.fz (.int (-1))) := by
  have h00 : ∃ j, [Sl.bor (sL cs), .emp] = [Sl.bor (sL cs), j] := ⟨_, rfl⟩
  obtain ⟨Γ', e, j, rfl⟩ := forL_rm (g := gN 1) (s := lb_first_misnamed_0 fu) (lo := 0) (m := cs.length) (P := fun i Γ => ∃ j, Γ = [Sl.bor (sL cs), j]) h00 fun i Γ hi ⟨j, hΓ⟩ => by
    subst hΓ
    have zi : (0 : Int) + (i : Int) = i := by omega
    have gx : cs[i]? = some cs[i] := by simp
    have a := at_mapn (f := D.str) gx
    have hno := h _ (List.getElem_mem hi)
    have nm := is_name_ok fu (s := cs[i]) (by have := hno.2.1; omega)
    rw [decide_eq_true hno] at nm
    have c := cut_to (l := cs.map D.str) (k := (i : Int)) (by omega)
    have ni : cs[i] ∉ cs.take i := fun hm => by
      obtain ⟨j, hj, e⟩ := List.mem_iff_getElem.mp hm
      rw [List.getElem_take] at e
      rw [List.length_take] at hj
      have := (List.pairwise_iff_getElem.mp hn) j i (by omega) hi (by omega)
      exact this e
    have c2 : cut (cs.map D.str) none (some (i : Int)) = (cs.take i).map D.str := by rw [c, List.map_take]; rfl
    refine ⟨[Sl.bor (sL cs), .val (.int i)], ?_, _, rfl⟩
    unfold lb_first_misnamed_0
    apply gb_of
    · rfl
    try simp only [put_0, put_1]
    simp? only [zi, a, nm, c2, dCut_l2, ni]
  have tn : ((cs.length : Int)).toNat = cs.length := by omega
  unfold F_first_misnamed sv_first_misnamed
  rw [runF_ap rfl]
  apply fin_of
  try simp only [app_nil, app_cons, ins0_nil, ins0_cons, inSl_f, inSl_l, inSl_i, inSl_b, inSl_s, inSl_n, inSl_t, inSl_c, inSl_o, pad_0, pad_1]
  · apply seq_nx
    · simp? only [kRg2_s (rngB_of (n := (cs.length : Int)) (by omega) (by omega)), tn, e]
      rfl
    simp? only []
    rfl
  · rfl
theorem nin_take {α : Type} {l : List α} (hn : l.Nodup) {i : Nat} (hi : i < l.length) : l[i] ∉ l.take i := fun hm => by
  obtain ⟨j, hj, e⟩ := List.mem_iff_getElem.mp hm
  rw [List.getElem_take] at e
  rw [List.length_take] at hj
  have := (List.pairwise_iff_getElem.mp hn) j i (by omega) hi (by omega)
  exact this e
theorem is_row_ok (fu : Nat) {cs r : List Str} (h : RowOk cs r) (hl : r.length ≤ 1000) : F_is_row fu [sL cs, sL r] = .ok (.fz (.bl true)) := by
  have h00 : ∃ j, [Sl.bor (sL cs), .bor (sL r), .emp] = [Sl.bor (sL cs), .bor (sL r), j] := ⟨_, rfl⟩
  obtain ⟨Γ', e, j, rfl⟩ := forL_rm (g := gN 2) (s := lb_is_row_0 fu) (lo := 0) (m := r.length) (P := fun i Γ => ∃ j, Γ = [Sl.bor (sL cs), .bor (sL r), j]) h00 fun i Γ hi ⟨j, hΓ⟩ => by
    subst hΓ
    have zi : (0 : Int) + (i : Int) = i := by omega
    have gx : r[i]? = some r[i] := by simp
    have a := at_mapn (f := D.str) gx
    have hm := h.2 _ (List.getElem_mem hi)
    have ni := nin_take h.1 hi
    have c2 : cut (r.map D.str) none (some (i : Int)) = (r.take i).map D.str := by rw [cut_to (by omega), List.map_take]; rfl
    refine ⟨[Sl.bor (sL cs), .bor (sL r), .val (.int i)], ?_, _, rfl⟩
    unfold lb_is_row_0
    apply gb_of
    · rfl
    try simp only [put_0, put_1]
    simp? only [zi, a, hm, c2, ni]
  have tn : ((r.length : Int)).toNat = r.length := by omega
  unfold F_is_row sv_is_row
  rw [runF_ap rfl]
  apply fin_of
  try simp only [app_nil, app_cons, ins0_nil, ins0_cons, inSl_f, inSl_l, inSl_i, inSl_b, inSl_s, inSl_n, inSl_t, inSl_c, inSl_o, pad_0, pad_1]
  · apply seq_nx
    · simp? only [kRg2_s (rngB_of (n := (r.length : Int)) (by omega) (by omega)), tn, e]
      rfl
    simp? only []
    rfl
  · rfl
theorem common_ok (fu : Nat) {ns r : List Str} (hl : ns.length ≤ 1000) : F_common_names fu [sL ns, sL r] = .ok (.fr (sL (srt ns r))) := by
  have e := lcL_if (g := gN 2) (t := et_common_names_1 fu) (e := el_common_names_0 fu) (vs := [2]) (Γ0 := [.bor (sL ns), .bor (sL r), .emp]) D.str (fun x => x ∈ r) D.str ns (fun x hx => by
    unfold et_common_names_1 el_common_names_0
    simp? only []) (n := 0) (by show 0 + ns.length ≤ 16777216; omega)
  unfold F_common_names sv_common_names
  rw [runF_ap rfl]
  apply fin_of
  try simp only [app_nil, app_cons, ins0_nil, ins0_cons, inSl_f, inSl_l, inSl_i, inSl_b, inSl_s, inSl_n, inSl_t, inSl_c, inSl_o, pad_0, pad_1]
  · simp? only [e]
    rfl
  · rfl
/-- a table: its columns, its rows in order -/
def tb (cs : List Str) (rows : List (List Str)) : D := .ins 0 [(2, sT cs), (3, .tup (rows.map fun r => sT (srt cs r)))]
theorem table_init (fu : Nat) {cs : List Str} {rows : List (List Str)} (h : ∀ s ∈ cs, nameOk s) (hn : cs.Nodup) (hl : cs.length ≤ 12) (hr : ∀ r ∈ rows, RowOk cs r) (hrl : rows.length ≤ 48) :
    F_TableD_initD fu [sL cs, sLL rows] = .ok [(2, sT cs), (3, .tup (rows.map fun r => sT (srt cs r)))] := by
  have nm := misnamed_ok fu h hn (by omega)
  have n1 : ¬ (12 : Int) < cs.length := by omega
  have n2 : ¬ (48 : Int) < rows.length := by omega
  have h00 : ∃ j, [Sl.slf 0 [], .bor (sL cs), .bor (sLL rows), .val (.int (-1)), .emp, .emp] = [Sl.slf 0 [], .bor (sL cs), .bor (sLL rows), .val (.int (-1)), j, .emp] := ⟨_, rfl⟩
  obtain ⟨Γ', e, j, rfl⟩ := forL_rm (g := gN 4) (s := lb_TableD_initD_0 fu) (lo := 0) (m := rows.length) (P := fun i Γ => ∃ j, Γ = [Sl.slf 0 [], .bor (sL cs), .bor (sLL rows), .val (.int (-1)), j, .emp]) h00 fun i Γ hi ⟨j, hΓ⟩ => by
    subst hΓ
    have zi : (0 : Int) + (i : Int) = i := by omega
    have gx : rows[i]? = some rows[i] := by simp
    have a := at_mapn (f := sL) gx
    have hro := hr _ (List.getElem_mem hi)
    have ir := is_row_ok fu hro (by have := hro.le; omega)
    refine ⟨[Sl.slf 0 [], .bor (sL cs), .bor (sLL rows), .val (.int (-1)), .val (.int i), .emp], ?_, _, rfl⟩
    unfold lb_TableD_initD_0
    apply gb_of
    · rfl
    try simp only [put_0, put_1]
    simp? only [zi, a, ir]
  have e2 : ∀ j, lcL (gN 5) tYs (el_TableD_initD_1 fu) [5] (rows.map sL) [Sl.slf 0 [(2, sT cs)], .bor (sL cs), .bor (sLL rows), .val (.int (-1)), j, .emp] 0 = some (rows.map fun r => sT (srt cs r), [Sl.slf 0 [(2, sT cs)], .bor (sL cs), .bor (sLL rows), .val (.int (-1)), j, .emp]) := fun j =>
    lcL_a (f := sL) (u := fun r => sT (srt cs r)) rows (fun r hr' => by
      unfold el_TableD_initD_1
      simp? only [common_ok fu (ns := cs) (r := r) (by omega)]) (n := 0) (by show 0 + rows.length ≤ 16777216; omega)
  have tn : ((rows.length : Int)).toNat = rows.length := by omega
  unfold F_TableD_initD sv_TableD_initD sg_TableD_initD_2
  rw [runI_ap rfl]
  apply fini_of
  try simp only [app_nil, app_cons, ins0_nil, ins0_cons, inSl_f, inSl_l, inSl_i, inSl_b, inSl_s, inSl_n, inSl_t, inSl_c, inSl_o, pad_0, pad_1]
  · apply seq_nx
    · simp? only [n1]
      rfl
    apply seq_nx
    · simp? only [nm]
      rfl
    apply seq_nx
    · simp? only []
      rfl
    apply seq_nx
    · simp? only [n2]
      rfl
    apply seq_nx
    · simp? only [kRg2_s (rngB_of (n := (rows.length : Int)) (by omega) (by omega)), tn, e]
      rfl
    apply seq_nx
    · simp? only []
      rfl
    simp? only [e2]
    rfl
  · rfl
theorem table_len (fu : Nat) {cs : List Str} {rows : List (List Str)} : F_TableD_lenD fu [tb cs rows] = .ok (.fz (.int rows.length)) := by
  unfold F_TableD_lenD sv_TableD_lenD tb
  rw [runF_ap rfl]
  apply fin_of
  try simp only [app_nil, app_cons, ins0_nil, ins0_cons, inSl_f, inSl_l, inSl_i, inSl_b, inSl_s, inSl_n, inSl_t, inSl_c, inSl_o, pad_0, pad_1]
  · simp? only []
    rfl
  · rfl
theorem table_get (fu : Nat) {cs : List Str} {rows : List (List Str)} {i : Int} (h : 0 ≤ i) (h2 : i < rows.length) : F_TableD_getitemD fu [tb cs rows, .int i] = .ok (.fz (sT (srt cs (rows.getD i.toNat [])))) := by
  have a := at_map (f := fun r => sT (srt cs r)) (l := rows) (k := i) [] h h2
  unfold F_TableD_getitemD sv_TableD_getitemD tb
  rw [runF_ap rfl]
  apply fin_of
  try simp only [app_nil, app_cons, ins0_nil, ins0_cons, inSl_f, inSl_l, inSl_i, inSl_b, inSl_s, inSl_n, inSl_t, inSl_c, inSl_o, pad_0, pad_1]
  · apply seq_nx
    · simp? only [h, h2]
      rfl
    simp? only [a]
    rfl
  · rfl
end K24

set_option autoImplicit true
set_option Elab.async false
set_option linter.all false
set_option maxRecDepth 100000
set_option exponentiation.threshold 10000
set_option maxHeartbeats 4000000
namespace K24
open PySem Ed
local macro_rules | `(tactic| simp? only [$hs,*]) => `(tactic| simp (implicitDefEqProofs := false) only [kR_s, eC_ap, eN_ap, kN_s, pN_ap, kP_s, kpE_ok, kpE_ex, pE_ap, kU2_s, kU_ok, kU_ex, eU_ap, kB3_s, kB2_ok, kB2_ex, kB1_ok, kB1_ex, eB_ap, kF2_s, kF_ok, kF_ex, eF_ap, aNil_ap, lNil_ap, kA2_ok, kA2_ex, kA1_ok, kA1_ex, aCons_ap, kL2_ok, kL2_ex, kL1_ok, kL1_ex, lCons_ap, kSz_t, kTp_ok, kTp_ex, kLs_ok, kLs_ex, eTup_ap, nLst_ap, kIf_t, kIf_f, kIf_ex, tC_ap, eAnd_ap, eOr_ap, eNot_ap, eIf_ap, sIf_ap, kE2_b, kE_ok, kE_ex, tE_ap, kT3_s, kT2_s, kT_ok, kT_ex, tTru_ap, tru_int, tru_bl, tru_lst, tru_tup, tru_non, tYs_ap, eCB_ap, eAndV_ap, eOrV_ap, eNotV_ap, kCh4_s, kCh3_ok, kCh3_ex, kCh2_t, kCh2_f, kCh1_s, kCh0_ok, kCh0_ex, kCh_ok, kCh_ex, eChain_ap, callF_ap, kCp_s, kC_ok, kC_ex, kCd_ok, kCd_ex, kFr2_r, kFr_ok, kFr_ex, kC1_ok, kC1_ex, eCall_ap, kC2_ok, kC2_ex, nCall_ap, dfz, dfr, prep0, pK_s, prep_d, prep_t, pKt_s, prep_f, pKf_s, mkF_ap, kMk_ok, kMk_ex, kFl_ok, kFl_ex, eFld_ap, fld_s, kO2_s, kO1_ok, kO1_ex, kO0_ok, kO0_ex, eOwn2_ap, kOC3_s, kOC2_ok, kOC2_ex, kOC1_s, kOC0_ok, kOC0_ex, eOwnC_ap, kM2_ok, kM2_ex, kM1_s, kM0_ok, kM0_ex, eMeth_ap, eJs_nil, kJz_t, kJ2_s, kJ_ok, kJ_ex, eJs_cons, kSl4_s, kSl3_s, kSl2_s, kSl1_s, eSl_ap, oP_n, kOp2_s, kOp_s, oP_s, kLc2_s, kLc1_t, kLc_ok, eLc_ap, kIs2_s, kIs_ok, iSeq_ap, it_l, it_t, kIn_s, iN_ap, kRg_ok, iRg1_ap, kRh2_ok, kRh1_ok, iRg2_ap, sNext_ap, sBrk_ap, sCnt_ap, sRetN_ap, kS_nx, kS_rt, kS_bk, kS_ct, kS_ex, sSeq_ap, kSet_ok, kSet_ex, sSet_ap, kOwn_ok, kOwn_ex, sOwn_ap, kDrp_ok, kDrp_ex, sDrop_ap, kRet_ok, kRet_ex, sRet_ap, kReO_ok, kReO_ex, sRetO_ap, sRetX_ap, kRx_o, kRx_v, kAp3_t, kAp2_o, kAp1_ok, kAp0_s, sApp_ap, kPi4_s, kPi3_s, kPi2_ok, kPi1_s, kPi0_ok, sPutI_ap, kPr2_ok, kPr1_ok, sPar_ap, kAs2_s, kAs_ok, sAsg_ap, gN_ap, gT_t, gT_l, gs_nil, kGs_s, gs_cons, kFor_ok, sFor_ap, sWhl_ap, kFd_ok, sFld_ap, kRs_ok, sRaise_ap, kSu_ok, kTr3_t, kTr2_t, kTr2_f, kTr_ok, kTr_ex, sTry_ap, kIE2_s, kIE_s, eIsE_ap, kXf_s, eXf_ap, fin_nx, fin_rt, fin_ex, finI_ex, kFi_s, finI_nx, app_nil, app_cons, ins0_nil, ins0_cons, inSl_f, inSl_l, inSl_i, inSl_b, inSl_s, inSl_n, inSl_t, inSl_c, inSl_o, pad_0, pad_1, get_0, get_1, put_0, put_1, look_v, look_o, look_b, frz_v, frz_o, stay_v, stay_o, stay_b, rd_d, rd_n, rds_nil, kRd_s, rds_cons, wipe_nil, wipe_cons, rest_nil, rest_cons, all_nil, all_cons, stb_e, stb_v, stb_b, noX_nil, noX_e, noX_v, noX_o, noX_b, true_and', tbl_ap, putFd_nil, putFd_cons, dAdd_i, dSub_i, dNeg_i, dLt_i, dLe_i, dGt_i, dGe_i, dEq_i, dNe_i, dEq_b, dNe_b, dEq_s, dNe_s, o1_ap, dAbs_i, dInt_i, dInt_b, dBool_i, dLen_l, dLen_t, dLen_c, dIx_l, dIx_t, dIx_c, at_0, at_1, at_2, at_3, isT_ii, isT_bi, isT_bb, isT_ss, isT_ll, isT_tt, isB2_i, map_s, dRev_l, dTup_l, dTup_t, dLst_l, dLst_t, dCut_l, dCutL_l, dGcd_i, isB_b, isS_s, mul_r, mul_l, dDiv_r, dMod_i, kGb_s, kGe_s,   decide_true, decide_false, Bool.not_true, Bool.not_false, Bool.and_true, Bool.and_false, Bool.false_and, if_true, if_false, ite_true, ite_false, Bool.false_eq_true, List.lookup_cons, List.lookup_nil, List.length_cons, List.length_nil, Nat.reduceBEq, Nat.reduceLT, Nat.reduceLeDiff, Nat.zero_le, seqMax, List.length_map, Nat.reduceAdd, Nat.reduceEqDiff, Nat.reducePow, Int.reduceNe, Int.reduceEq, Int.reduceLT, Int.reduceLE, Int.reduceBEq, Int.reduceNeg, Int.natAbs_neg, ne_eq, not_true, not_false_eq_true, and_self, true_and, and_true, beq_self_eq_true, turn_ap, kTn1_s, kTn2_t, kTn2_f, kTn2_p, kTn2_n, kTn3_ok, dIn_sl, dIn_st, dNin_sl, dNin_st, dIn_il, dNin_il, kSg2_s, kSg_ok, iSgn_ap, kED_s, eIsED_ap, kX2_s, kX1_ok, kX1_ex, kX0_ok, kX0_ex, eOwnX_ap, kBT4_s, kBT3_ok, kBT3_ex, kBT1_ok, kBT1_ex, eBMT_ap, dIsN_n, dIsN_l, dIsN_t, dIsN_i, dIsN_s, dNotN_n, dNotN_l, dNotN_t, dNotN_i, dNotN_s, dBAnd_i, dBOr_i, dMin2_i, dMax2_i, dCut_t, dCut_c, dCut_l2, Int.cast_ofNat_Int, at_4, at_5, at_6, at_7, at_8, at_9, at_10, at_11, at_12, at_13, $hs,*])
/-! sets of columns as numbers -/
def msk {α : Type} : List α → (α → Bool) → Nat
  | [], _ => 0
  | c :: cs, p => (if p c then 1 else 0) + 2 * msk cs p
theorem msk_app {α : Type} (p : α → Bool) (x : α) : ∀ l : List α, msk (l ++ [x]) p = msk l p + if p x then 2 ^ l.length else 0
  | [] => by simp [msk]
  | c :: cs => by
    rw [List.cons_append, msk, msk, msk_app p x cs, List.length_cons, Nat.pow_succ]
    by_cases h : p x = true
    · rw [if_pos h, if_pos h]; omega
    · rw [if_neg h, if_neg h]; omega
theorem msk_lt {α : Type} (p : α → Bool) : ∀ l : List α, msk l p < 2 ^ l.length
  | [] => by simp [msk]
  | c :: cs => by
    have := msk_lt p cs
    rw [msk, List.length_cons, Nat.pow_succ]
    split <;> omega
theorem msk_bit {α : Type} (p : α → Bool) : ∀ (l : List α) (i : Nat), (msk l p).testBit i = ((l[i]?.map p).getD false)
  | [], i => by simp [msk]
  | c :: cs, 0 => by
    rw [msk, Nat.testBit_zero]
    show _ = p c
    cases p c with
    | true => first | (simp; done) | (simp; omega)
    | false => simp
  | c :: cs, i + 1 => by
    rw [Nat.testBit_succ, show (c :: cs)[i + 1]? = cs[i]? from rfl, ← msk_bit p cs i]
    congr 1
    rw [msk]
    split <;> omega
theorem msk_ext {α : Type} {p q : α → Bool} : ∀ {l : List α}, (∀ x ∈ l, p x = q x) → msk l p = msk l q
  | [], _ => rfl
  | c :: cs, h => by rw [msk, msk, h c (by simp), msk_ext fun x hx => h x (by simp [hx])]
theorem msk_inj {α : Type} {p q : α → Bool} {l : List α} (h : msk l p = msk l q) : ∀ x ∈ l, p x = q x := fun x hx => by
  obtain ⟨i, hi, rfl⟩ := List.mem_iff_getElem.mp hx
  have a := msk_bit p l i
  have b := msk_bit q l i
  rw [h, b, List.getElem?_eq_getElem hi] at a
  simpa using a.symm
theorem msk_and {α : Type} (p q : α → Bool) (l : List α) : msk l p &&& msk l q = msk l fun x => p x && q x := Nat.eq_of_testBit_eq fun i => by
  rw [Nat.testBit_and, msk_bit, msk_bit, msk_bit]
  cases l[i]? <;> simp
theorem msk_or {α : Type} (p q : α → Bool) (l : List α) : msk l p ||| msk l q = msk l fun x => p x || q x := Nat.eq_of_testBit_eq fun i => by
  rw [Nat.testBit_or, msk_bit, msk_bit, msk_bit]
  cases l[i]? <;> simp
theorem msk_zero {α : Type} {p : α → Bool} {l : List α} : msk l p = 0 ↔ ∀ x ∈ l, p x = false := by
  constructor
  · intro h
    have : msk l p = msk l fun _ => false := by
      rw [h]
      clear h
      induction l with
      | nil => rfl
      | cons c cs ih => rw [msk, ← ih]; simp
    exact msk_inj this
  · intro h
    rw [msk_ext h]
    clear h
    induction l with
    | nil => rfl
    | cons c cs ih => rw [msk, ih]; simp
theorem msk_sub {α : Type} {p q : α → Bool} : ∀ {l : List α}, (∀ x ∈ l, q x = true → p x = true) → msk l p = msk l q + msk l fun x => p x && !q x
  | [], _ => rfl
  | c :: cs, h => by
    have := msk_sub (p := p) (q := q) (l := cs) fun x hx => h x (by simp [hx])
    rw [msk, msk, msk]
    have hc := h c (by simp)
    cases hp : p c <;> cases hq : q c <;> simp [hp, hq] at hc ⊢ <;> omega
theorem filter_bits {α : Type} (p : α → Bool) : ∀ (l : List α) (n : Nat), l.length ≤ n → (List.range n).filterMap (fun i => if (msk l p).testBit i = true then l[i]? else none) = l.filter p
  | [], n, _ => by
    rw [List.filter_nil, List.filterMap_eq_nil_iff]
    intro i _
    simp
  | c :: cs, 0, h => by simp at h
  | c :: cs, n + 1, h => by
    rw [List.range_succ_eq_map, List.filterMap_cons, List.filterMap_map]
    have e : (fun i => if (msk (c :: cs) p).testBit i = true then (c :: cs)[i]? else none) ∘ Nat.succ = fun i => if (msk cs p).testBit i = true then cs[i]? else none := by
      funext i
      show (if (msk (c :: cs) p).testBit (i + 1) = true then (c :: cs)[i + 1]? else none) = _
      rw [msk_bit, msk_bit]; rfl
    rw [e, filter_bits p cs n (by simpa using h), msk_bit]
    show (match (if p c = true then some c else none) with | none => _ | some b => _) = _
    by_cases hc : p c = true
    · rw [if_pos hc, List.filter_cons_of_pos hc]
    · rw [if_neg hc, List.filter_cons_of_neg hc]
/-! the program's -/
abbrev BITSD : List D := [.int 1, .int 2, .int 4, .int 8, .int 16, .int 32, .int 64, .int 128, .int 256, .int 512, .int 1024, .int 2048]
theorem bits_at : ∀ {i : Nat}, i < 12 → at1 BITSD (i : Int) = some (.int ((2 ^ i : Nat) : Int))
  | 0, _ => rfl | 1, _ => rfl | 2, _ => rfl | 3, _ => rfl | 4, _ => rfl | 5, _ => rfl | 6, _ => rfl | 7, _ => rfl | 8, _ => rfl | 9, _ => rfl | 10, _ => rfl | 11, _ => rfl
  | n + 12, h => absurd h (by omega)
theorem and_nat (a b : Nat) : Builtin.bitAnd (a : Int) (b : Int) = ((a &&& b : Nat) : Int) := by rw [PyProof.Rows.bitAnd_pp (by omega) (by omega)]; rfl
theorem or_nat (a b : Nat) : Builtin.bitOr (a : Int) (b : Int) = ((a ||| b : Nat) : Int) := by
  have h1 : Builtin.bitNot (a : Int) = -(a : Int) - 1 := by unfold Builtin.bitNot; omega
  have h2 : Builtin.bitNot (b : Int) = -(b : Int) - 1 := by unfold Builtin.bitNot; omega
  have h3 : ∀ z : Int, Builtin.bitNot (Builtin.bitNot z) = z := fun z => by unfold Builtin.bitNot; omega
  unfold Builtin.bitOr
  rw [PyProof.Rows.bitAnd_nn (by omega) (by omega), h3, h3, h3]
  rfl
theorem mask_loop (fu : Nat) {cs : List Str} {w : D} {sl : Sl} {p : Str → Bool} (hl : cs.length ≤ 12) (hs : look sl = some w) (hp : ∀ x ∈ cs, dIn (.str x) w = some (.bl (p x))) : ∃ j, forL (gN 3) (lb_mask_of_0 fu) (rngL 0 cs.length) [.val (sT cs), sl, .val (.int 0), .emp] = .ok (.nx, [.val (sT cs), sl, .val (.int (msk cs p : Nat)), j]) := by
  have h00 : ∃ j, [Sl.val (sT cs), sl, .val (.int 0), .emp] = [Sl.val (sT cs), sl, .val (.int (msk (cs.take 0) p : Nat)), j] := ⟨_, rfl⟩
  obtain ⟨Γ', e, j, rfl⟩ := forL_rm (g := gN 3) (s := lb_mask_of_0 fu) (lo := 0) (m := cs.length) (P := fun i Γ => ∃ j, Γ = [Sl.val (sT cs), sl, .val (.int (msk (cs.take i) p : Nat)), j]) h00 fun i Γ hi ⟨j, hΓ⟩ => by
    subst hΓ
    have zi : (0 : Int) + (i : Int) = i := by omega
    have gx : cs[i]? = some cs[i] := by simp
    have a := at_mapn (f := D.str) gx
    have b := bits_at (i := i) (by omega)
    have c := hp _ (List.getElem_mem hi)
    have e1 := msk_app p cs[i] (cs.take i)
    rw [← take_s gx] at e1
    have ln : (cs.take i).length = i := by rw [List.length_take]; omega
    rw [ln] at e1
    refine ⟨[Sl.val (sT cs), sl, .val (.int (msk (cs.take (i + 1)) p : Nat)), .val (.int i)], ?_, _, rfl⟩
    unfold lb_mask_of_0
    apply gb_of
    · rfl
    try simp only [put_0, put_1]
    cases q : p cs[i] with
    | true =>
      rw [q] at c
      rw [q, if_pos rfl] at e1
      have e2 : ((msk (cs.take i) p : Nat) : Int) + ((2 ^ i : Nat) : Int) = ((msk (cs.take (i + 1)) p : Nat) : Int) := by rw [e1]; omega
      simp? only [zi, a, hs, c, b, e2]
    | false =>
      rw [q] at c
      rw [q, if_neg (by decide)] at e1
      have e2 : msk (cs.take (i + 1)) p = msk (cs.take i) p := by rw [e1]; omega
      rw [e2]
      simp? only [zi, a, hs, c, b]
  rw [List.take_length] at e
  exact ⟨j, e⟩
theorem mask_l (fu : Nat) {cs ns : List Str} (hl : cs.length ≤ 12) : F_mask_of fu [sT cs, sL ns] = .ok (.fz (.int (msk cs (fun x => decide (x ∈ ns)) : Nat))) := by
  obtain ⟨j, e⟩ := mask_loop fu (cs := cs) (w := sL ns) (sl := .bor (sL ns)) (p := fun x => decide (x ∈ ns)) hl rfl fun x _ => dIn_sl
  have tn : ((cs.length : Int)).toNat = cs.length := by omega
  unfold F_mask_of sv_mask_of
  rw [runF_ap rfl]
  apply fin_of
  try simp only [app_nil, app_cons, ins0_nil, ins0_cons, inSl_f, inSl_l, inSl_i, inSl_b, inSl_s, inSl_n, inSl_t, inSl_c, inSl_o, pad_0, pad_1]
  · apply seq_nx
    · simp? only []
      rfl
    apply seq_nx
    · simp? only [kRg2_s (rngB_of (n := (cs.length : Int)) (by omega) (by omega)), tn, e]
      rfl
    simp? only []
    rfl
  · rfl
theorem mask_t (fu : Nat) {cs ns : List Str} (hl : cs.length ≤ 12) : F_mask_of fu [sT cs, sT ns] = .ok (.fz (.int (msk cs (fun x => decide (x ∈ ns)) : Nat))) := by
  obtain ⟨j, e⟩ := mask_loop fu (cs := cs) (w := sT ns) (sl := .val (sT ns)) (p := fun x => decide (x ∈ ns)) hl rfl fun x _ => dIn_st
  have tn : ((cs.length : Int)).toNat = cs.length := by omega
  unfold F_mask_of sv_mask_of
  rw [runF_ap rfl]
  apply fin_of
  try simp only [app_nil, app_cons, ins0_nil, ins0_cons, inSl_f, inSl_l, inSl_i, inSl_b, inSl_s, inSl_n, inSl_t, inSl_c, inSl_o, pad_0, pad_1]
  · apply seq_nx
    · simp? only []
      rfl
    apply seq_nx
    · simp? only [kRg2_s (rngB_of (n := (cs.length : Int)) (by omega) (by omega)), tn, e]
      rfl
    simp? only []
    rfl
  · rfl
theorem and_pow (m i : Nat) : (Builtin.bitAnd (m : Int) ((2 ^ i : Nat) : Int) == 0) = !(m.testBit i) := by
  rw [and_nat]
  have h : m &&& 2 ^ i = if m.testBit i then 2 ^ i else 0 := Nat.eq_of_testBit_eq fun j => by
    rw [Nat.testBit_and, Nat.testBit_two_pow]
    by_cases q : i = j
    · subst q
      cases hb : m.testBit i <;> simp [Nat.testBit_two_pow]
    · cases hb : m.testBit i <;> simp [q, Nat.testBit_two_pow]
  rw [h]
  have hp : 0 < 2 ^ i := Nat.two_pow_pos i
  cases m.testBit i with
  | true =>
    rw [if_pos rfl]
    simp only [Bool.not_true]
    rw [beq_eq_false_iff_ne]; omega
  | false => simp
theorem bits_ok (fu : Nat) (m : Nat) : F_bits fu [.int (m : Int)] = .ok (.fr (.lst (((List.range 12).filter fun i => decide (m.testBit i = true)).map fun i => D.int ((0 : Int) + (i : Nat))))) := by
  have e := lcL_if (g := gN 1) (t := et_bits_1 fu) (e := el_bits_0 fu) (vs := [1]) (Γ0 := [.val (.int (m : Int)), .emp]) (fun i : Nat => D.int (0 + (i : Int))) (fun i => m.testBit i = true) (fun i : Nat => D.int (0 + (i : Int))) (List.range 12) (fun i hi => by
    have zi : (0 : Int) + (i : Int) = i := by omega
    have b := bits_at (i := i) (List.mem_range.mp hi)
    unfold et_bits_1 el_bits_0
    cases q : m.testBit i with
    | true => simp? only [zi, b, and_pow, q]
    | false => simp? only [zi, b, and_pow, q]) (n := 0) (by show 0 + (List.range 12).length ≤ 16777216; rw [List.length_range]; decide)
  have er : rngL 0 (12 : Int).toNat = (List.range 12).map (fun i : Nat => D.int (0 + (i : Int))) := rfl
  unfold F_bits sv_bits
  rw [runF_ap rfl]
  apply fin_of
  try simp only [app_nil, app_cons, ins0_nil, ins0_cons, inSl_f, inSl_l, inSl_i, inSl_b, inSl_s, inSl_n, inSl_t, inSl_c, inSl_o, pad_0, pad_1]
  · simp? only [kRg2_s (rngB_of (n := 12) (by omega) (by omega)), er, e]
    rfl
  · rfl
theorem names_of_ok (fu : Nat) {cs : List Str} (p : Str → Bool) (hl : cs.length ≤ 12) : F_names_of fu [sT cs, .int (msk cs p : Nat)] = .ok (.fz (sT (cs.filter p))) := by
  have hsub : ∀ i ∈ ((List.range 12).filter fun i => decide ((msk cs p).testBit i = true)), i < cs.length := fun i hi => by
    have := (List.mem_filter.mp hi).2
    simp only [decide_eq_true_eq] at this
    rw [msk_bit] at this
    by_cases q : i < cs.length
    · exact q
    · rw [List.getElem?_eq_none (by omega)] at this; cases this
  have e := lcL_a (g := gN 2) (t := tYs) (e := el_names_of_0 fu) (vs := [2]) (Γ0 := [.val (sT cs), .val (.int (msk cs p : Nat)), .emp]) (fun i : Nat => D.int (0 + (i : Int))) (fun i => D.str (cs.getD i default)) ((List.range 12).filter fun i => decide ((msk cs p).testBit i = true)) (fun i hi => by
    have zi : (0 : Int) + (i : Int) = i := by omega
    have a := at_map (f := D.str) (l := cs) (k := (i : Int)) default (by omega) (by have := hsub i hi; omega)
    rw [show (i : Int).toNat = i by omega] at a
    unfold el_names_of_0
    simp? only [zi, a]) (n := 0) (by
      show 0 + _ ≤ 16777216
      have := List.length_filter_le (fun i => decide ((msk cs p).testBit i = true)) (List.range 12)
      rw [List.length_range] at this
      omega)
  have e2 : ((List.range 12).filter fun i => decide ((msk cs p).testBit i = true)).map (fun i => D.str (cs.getD i default)) = (cs.filter p).map D.str := by
    rw [← filter_bits p cs 12 hl, ← filterMap_if (fun i => (msk cs p).testBit i = true) (fun i => D.str (cs.getD i default)), List.map_filterMap]
    apply filterMap_congr'
    intro i _
    by_cases q : (msk cs p).testBit i = true
    · rw [if_pos q, if_pos q]
      rw [msk_bit] at q
      by_cases q2 : i < cs.length
      · rw [List.getD_eq_getElem?_getD, List.getElem?_eq_getElem q2]; rfl
      · rw [List.getElem?_eq_none (by omega)] at q; cases q
    · rw [if_neg q, if_neg q]; rfl
  have b := bits_ok fu (msk cs p)
  unfold F_names_of sv_names_of
  rw [runF_ap rfl]
  apply fin_of
  try simp only [app_nil, app_cons, ins0_nil, ins0_cons, inSl_f, inSl_l, inSl_i, inSl_b, inSl_s, inSl_n, inSl_t, inSl_c, inSl_o, pad_0, pad_1]
  · simp? only [b, e, e2]
    rfl
  · rfl
theorem msk_all {α : Type} : ∀ l : List α, msk l (fun _ => true) = 2 ^ l.length - 1
  | [] => rfl
  | c :: cs => by
    rw [msk, msk_all cs, List.length_cons, Nat.pow_succ]
    have := Nat.two_pow_pos cs.length
    simp; omega
theorem full_ok (fu : Nat) : ∀ {n : Nat}, n ≤ 12 → F_full_mask fu [.int (n : Int)] = .ok (.fz (.int ((2 ^ n - 1 : Nat) : Int)))
  | 0, _ => rfl | 1, _ => rfl | 2, _ => rfl | 3, _ => rfl | 4, _ => rfl | 5, _ => rfl | 6, _ => rfl | 7, _ => rfl | 8, _ => rfl | 9, _ => rfl | 10, _ => rfl | 11, _ => rfl | 12, _ => rfl
  | n + 13, h => absurd h (by omega)
end K24

set_option autoImplicit true
set_option Elab.async false
set_option linter.all false
set_option maxRecDepth 100000
set_option exponentiation.threshold 10000
set_option maxHeartbeats 4000000
namespace K24
open PySem Ed
local macro_rules | `(tactic| simp? only [$hs,*]) => `(tactic| simp (implicitDefEqProofs := false) only [kR_s, eC_ap, eN_ap, kN_s, pN_ap, kP_s, kpE_ok, kpE_ex, pE_ap, kU2_s, kU_ok, kU_ex, eU_ap, kB3_s, kB2_ok, kB2_ex, kB1_ok, kB1_ex, eB_ap, kF2_s, kF_ok, kF_ex, eF_ap, aNil_ap, lNil_ap, kA2_ok, kA2_ex, kA1_ok, kA1_ex, aCons_ap, kL2_ok, kL2_ex, kL1_ok, kL1_ex, lCons_ap, kSz_t, kTp_ok, kTp_ex, kLs_ok, kLs_ex, eTup_ap, nLst_ap, kIf_t, kIf_f, kIf_ex, tC_ap, eAnd_ap, eOr_ap, eNot_ap, eIf_ap, sIf_ap, kE2_b, kE_ok, kE_ex, tE_ap, kT3_s, kT2_s, kT_ok, kT_ex, tTru_ap, tru_int, tru_bl, tru_lst, tru_tup, tru_non, tYs_ap, eCB_ap, eAndV_ap, eOrV_ap, eNotV_ap, kCh4_s, kCh3_ok, kCh3_ex, kCh2_t, kCh2_f, kCh1_s, kCh0_ok, kCh0_ex, kCh_ok, kCh_ex, eChain_ap, callF_ap, kCp_s, kC_ok, kC_ex, kCd_ok, kCd_ex, kFr2_r, kFr_ok, kFr_ex, kC1_ok, kC1_ex, eCall_ap, kC2_ok, kC2_ex, nCall_ap, dfz, dfr, prep0, pK_s, prep_d, prep_t, pKt_s, prep_f, pKf_s, mkF_ap, kMk_ok, kMk_ex, kFl_ok, kFl_ex, eFld_ap, fld_s, kO2_s, kO1_ok, kO1_ex, kO0_ok, kO0_ex, eOwn2_ap, kOC3_s, kOC2_ok, kOC2_ex, kOC1_s, kOC0_ok, kOC0_ex, eOwnC_ap, kM2_ok, kM2_ex, kM1_s, kM0_ok, kM0_ex, eMeth_ap, eJs_nil, kJz_t, kJ2_s, kJ_ok, kJ_ex, eJs_cons, kSl4_s, kSl3_s, kSl2_s, kSl1_s, eSl_ap, oP_n, kOp2_s, kOp_s, oP_s, kLc2_s, kLc1_t, kLc_ok, eLc_ap, kIs2_s, kIs_ok, iSeq_ap, it_l, it_t, kIn_s, iN_ap, kRg_ok, iRg1_ap, kRh2_ok, kRh1_ok, iRg2_ap, sNext_ap, sBrk_ap, sCnt_ap, sRetN_ap, kS_nx, kS_rt, kS_bk, kS_ct, kS_ex, sSeq_ap, kSet_ok, kSet_ex, sSet_ap, kOwn_ok, kOwn_ex, sOwn_ap, kDrp_ok, kDrp_ex, sDrop_ap, kRet_ok, kRet_ex, sRet_ap, kReO_ok, kReO_ex, sRetO_ap, sRetX_ap, kRx_o, kRx_v, kAp3_t, kAp2_o, kAp1_ok, kAp0_s, sApp_ap, kPi4_s, kPi3_s, kPi2_ok, kPi1_s, kPi0_ok, sPutI_ap, kPr2_ok, kPr1_ok, sPar_ap, kAs2_s, kAs_ok, sAsg_ap, gN_ap, gT_t, gT_l, gs_nil, kGs_s, gs_cons, kFor_ok, sFor_ap, sWhl_ap, kFd_ok, sFld_ap, kRs_ok, sRaise_ap, kSu_ok, kTr3_t, kTr2_t, kTr2_f, kTr_ok, kTr_ex, sTry_ap, kIE2_s, kIE_s, eIsE_ap, kXf_s, eXf_ap, fin_nx, fin_rt, fin_ex, finI_ex, kFi_s, finI_nx, app_nil, app_cons, ins0_nil, ins0_cons, inSl_f, inSl_l, inSl_i, inSl_b, inSl_s, inSl_n, inSl_t, inSl_c, inSl_o, pad_0, pad_1, get_0, get_1, put_0, put_1, look_v, look_o, look_b, frz_v, frz_o, stay_v, stay_o, stay_b, rd_d, rd_n, rds_nil, kRd_s, rds_cons, wipe_nil, wipe_cons, rest_nil, rest_cons, all_nil, all_cons, stb_e, stb_v, stb_b, noX_nil, noX_e, noX_v, noX_o, noX_b, true_and', tbl_ap, putFd_nil, putFd_cons, dAdd_i, dSub_i, dNeg_i, dLt_i, dLe_i, dGt_i, dGe_i, dEq_i, dNe_i, dEq_b, dNe_b, dEq_s, dNe_s, o1_ap, dAbs_i, dInt_i, dInt_b, dBool_i, dLen_l, dLen_t, dLen_c, dIx_l, dIx_t, dIx_c, at_0, at_1, at_2, at_3, isT_ii, isT_bi, isT_bb, isT_ss, isT_ll, isT_tt, isB2_i, map_s, dRev_l, dTup_l, dTup_t, dLst_l, dLst_t, dCut_l, dCutL_l, dGcd_i, isB_b, isS_s, mul_r, mul_l, dDiv_r, dMod_i, kGb_s, kGe_s,   decide_true, decide_false, Bool.not_true, Bool.not_false, Bool.and_true, Bool.and_false, Bool.false_and, if_true, if_false, ite_true, ite_false, Bool.false_eq_true, List.lookup_cons, List.lookup_nil, List.length_cons, List.length_nil, Nat.reduceBEq, Nat.reduceLT, Nat.reduceLeDiff, Nat.zero_le, seqMax, List.length_map, Nat.reduceAdd, Nat.reduceEqDiff, Nat.reducePow, Int.reduceNe, Int.reduceEq, Int.reduceLT, Int.reduceLE, Int.reduceBEq, Int.reduceNeg, Int.natAbs_neg, ne_eq, not_true, not_false_eq_true, and_self, true_and, and_true, beq_self_eq_true, turn_ap, kTn1_s, kTn2_t, kTn2_f, kTn2_p, kTn2_n, kTn3_ok, dIn_sl, dIn_st, dNin_sl, dNin_st, dIn_il, dNin_il, kSg2_s, kSg_ok, iSgn_ap, kED_s, eIsED_ap, kX2_s, kX1_ok, kX1_ex, kX0_ok, kX0_ex, eOwnX_ap, kBT4_s, kBT3_ok, kBT3_ex, kBT1_ok, kBT1_ex, eBMT_ap, dIsN_n, dIsN_l, dIsN_t, dIsN_i, dIsN_s, dNotN_n, dNotN_l, dNotN_t, dNotN_i, dNotN_s, dBAnd_i, dBOr_i, dMin2_i, dMax2_i, dCut_t, dCut_c, dCut_l2, Int.cast_ofNat_Int, at_4, at_5, at_6, at_7, at_8, at_9, at_10, at_11, at_12, at_13, $hs,*])
/-! the steps -/
inductive W3 where
  | bo | ei | fi
def W3.s : W3 → Str
  | .bo => "both" | .ei => "either" | .fi => "first"
inductive Stp where
  | all
  | one (s : Str)
  | row (i : Int)
  | pr (w : W3) (i j : Int)
def enc : Stp → D
  | .all => .tup [.str "all"]
  | .one s => .tup [.str "one", .str s]
  | .row i => .tup [.str "row", .int i]
  | .pr w i j => .tup [.str w.s, .int i, .int j]
def inR (i : Int) (n : Nat) : Prop := 0 ≤ i ∧ i < n
instance (i : Int) (n : Nat) : Decidable (inR i n) := by unfold inR; infer_instance
def pairMade (cs a b : List Str) (w : W3) : Option (List Str) :=
  if a.filter (fun x => decide (x ∈ b)) = [] then none else match w with
  | .bo => some (a.filter fun x => decide (x ∈ b))
  | .ei => some (cs.filter fun x => decide (x ∈ a ∨ x ∈ b))
  | .fi => if (a.filter fun x => decide (x ∈ b)).length < a.length ∧ (a.filter fun x => decide (x ∈ b)).length < b.length then some (a.filter fun x => !decide (x ∈ b)) else none
def made (cs : List Str) (rows sets : List (List Str)) : Stp → Option (List Str)
  | .all => if cs = [] then none else some cs
  | .one s => if s ∈ cs then some [s] else none
  | .row i => if inR i rows.length then (if srt cs (rows.getD i.toNat []) = [] then none else some (srt cs (rows.getD i.toNat []))) else none
  | .pr w i j => if inR i sets.length ∧ inR j sets.length then pairMade cs (sets.getD i.toNat []) (sets.getD j.toNat []) w else none
def optL : Option (List Str) → D
  | none => .non
  | some l => sL l
theorem w_all_one : (("all" : Str) == "one") = false := by decide +kernel
theorem w_all_row : (("all" : Str) == "row") = false := by decide +kernel
theorem w_all_both : (("all" : Str) == "both") = false := by decide +kernel
theorem w_all_either : (("all" : Str) == "either") = false := by decide +kernel
theorem w_all_first : (("all" : Str) == "first") = false := by decide +kernel
theorem w_one_all : (("one" : Str) == "all") = false := by decide +kernel
theorem w_one_row : (("one" : Str) == "row") = false := by decide +kernel
theorem w_one_both : (("one" : Str) == "both") = false := by decide +kernel
theorem w_one_either : (("one" : Str) == "either") = false := by decide +kernel
theorem w_one_first : (("one" : Str) == "first") = false := by decide +kernel
theorem w_row_all : (("row" : Str) == "all") = false := by decide +kernel
theorem w_row_one : (("row" : Str) == "one") = false := by decide +kernel
theorem w_row_both : (("row" : Str) == "both") = false := by decide +kernel
theorem w_row_either : (("row" : Str) == "either") = false := by decide +kernel
theorem w_row_first : (("row" : Str) == "first") = false := by decide +kernel
theorem w_both_all : (("both" : Str) == "all") = false := by decide +kernel
theorem w_both_one : (("both" : Str) == "one") = false := by decide +kernel
theorem w_both_row : (("both" : Str) == "row") = false := by decide +kernel
theorem w_both_either : (("both" : Str) == "either") = false := by decide +kernel
theorem w_both_first : (("both" : Str) == "first") = false := by decide +kernel
theorem w_either_all : (("either" : Str) == "all") = false := by decide +kernel
theorem w_either_one : (("either" : Str) == "one") = false := by decide +kernel
theorem w_either_row : (("either" : Str) == "row") = false := by decide +kernel
theorem w_either_both : (("either" : Str) == "both") = false := by decide +kernel
theorem w_either_first : (("either" : Str) == "first") = false := by decide +kernel
theorem w_first_all : (("first" : Str) == "all") = false := by decide +kernel
theorem w_first_one : (("first" : Str) == "one") = false := by decide +kernel
theorem w_first_row : (("first" : Str) == "row") = false := by decide +kernel
theorem w_first_both : (("first" : Str) == "both") = false := by decide +kernel
theorem w_first_either : (("first" : Str) == "either") = false := by decide +kernel
theorem len0 {l : List Str} : ((l.length : Int) == 0) = decide (l = []) := by
  cases l with
  | nil => rfl
  | cons a l =>
    rw [decide_eq_false (by simp), beq_eq_false_iff_ne, List.length_cons]; omega
theorem rng1 {i : Int} {n : Nat} : (decide (0 ≤ i) && decide (i ≤ (n : Int) - 1)) = decide (inR i n) := by
  by_cases h : inR i n
  · have h' := h
    unfold inR at h'
    rw [decide_eq_true h, decide_eq_true h'.1, decide_eq_true (by omega)]; rfl
  · rw [decide_eq_false h]
    unfold inR at h
    by_cases h1 : 0 ≤ i
    · rw [decide_eq_false (show ¬ i ≤ (n : Int) - 1 by omega), Bool.and_false]
    · rw [decide_eq_false h1, Bool.false_and]
theorem step_all (fu : Nat) {cs : List Str} {rows sets : List (List Str)} : F_law_step fu [enc .all, sLL sets, sL cs, sLL rows] = .ok (.fz (optL (made cs rows sets .all))) := by
  unfold F_law_step sv_law_step sg_law_step_8 enc
  by_cases h : cs = []
  · subst h
    rw [runF_ap rfl]
    apply fin_of
    try simp only [app_nil, app_cons, ins0_nil, ins0_cons, inSl_f, inSl_l, inSl_i, inSl_b, inSl_s, inSl_n, inSl_t, inSl_c, inSl_o, pad_0, pad_1]
    · apply seq_nx
      · simp? only []
        rfl
      apply seq_nx
      · simp? only []
        rfl
      apply seq_nx
      · simp? only [w_all_one]
        rfl
      apply seq_nx
      · simp? only [w_all_row]
        rfl
      apply seq_rt
      · simp? only []
        rfl
      rfl
    · rfl
  · have hl : (0 : Int) < cs.length := by
      have := List.length_pos_iff.mpr h
      omega
    rw [runF_ap rfl]
    apply fin_of
    try simp only [app_nil, app_cons, ins0_nil, ins0_cons, inSl_f, inSl_l, inSl_i, inSl_b, inSl_s, inSl_n, inSl_t, inSl_c, inSl_o, pad_0, pad_1]
    · apply seq_nx
      · simp? only []
        rfl
      apply seq_rt
      · simp? only [hl]
        rfl
      rfl
    · show _ = R.ok (DV.fz (optL (if cs = [] then none else some cs)))
      rw [if_neg h]; rfl
theorem step_one (fu : Nat) {cs : List Str} {rows sets : List (List Str)} {s : Str} : F_law_step fu [enc (.one s), sLL sets, sL cs, sLL rows] = .ok (.fz (optL (made cs rows sets (.one s)))) := by
  unfold F_law_step sv_law_step sg_law_step_8 enc
  by_cases h : s ∈ cs
  · rw [runF_ap rfl]
    apply fin_of
    try simp only [app_nil, app_cons, ins0_nil, ins0_cons, inSl_f, inSl_l, inSl_i, inSl_b, inSl_s, inSl_n, inSl_t, inSl_c, inSl_o, pad_0, pad_1]
    · apply seq_nx
      · simp? only []
        rfl
      apply seq_nx
      · simp? only [w_one_all]
        rfl
      apply seq_rt
      · simp? only [h]
        rfl
      rfl
    · show _ = R.ok (DV.fz (optL (if s ∈ cs then some [s] else none)))
      rw [if_pos h]; rfl
  · rw [runF_ap rfl]
    apply fin_of
    try simp only [app_nil, app_cons, ins0_nil, ins0_cons, inSl_f, inSl_l, inSl_i, inSl_b, inSl_s, inSl_n, inSl_t, inSl_c, inSl_o, pad_0, pad_1]
    · apply seq_nx
      · simp? only []
        rfl
      apply seq_nx
      · simp? only [w_one_all]
        rfl
      apply seq_nx
      · simp? only [h]
        rfl
      apply seq_nx
      · simp? only [w_one_row]
        rfl
      apply seq_rt
      · simp? only []
        rfl
      rfl
    · show _ = R.ok (DV.fz (optL (if s ∈ cs then some [s] else none)))
      rw [if_neg h]; rfl
theorem getD_row {cs : List Str} {rows : List (List Str)} {i : Int} (h : inR i rows.length) : at1 (rows.map sL) i = some (sL (rows.getD i.toNat [])) := at_map (f := sL) [] h.1 h.2
theorem step_row (fu : Nat) {cs : List Str} {rows sets : List (List Str)} {i : Int} (hl : cs.length ≤ 12) : F_law_step fu [enc (.row i), sLL sets, sL cs, sLL rows] = .ok (.fz (optL (made cs rows sets (.row i)))) := by
  have nn := is_number_int fu (v := i) (a := 0) (b := (rows.length : Int) - 1)
  rw [rng1] at nn
  unfold F_law_step sv_law_step sg_law_step_8 enc
  by_cases h : inR i rows.length
  · have a := getD_row (cs := cs) h
    have so := sorted_ok fu (ns := cs) (r := rows.getD i.toNat []) (by omega)
    by_cases h2 : srt cs (rows.getD i.toNat []) = []
    · have hl0 : ¬ (0 : Int) < (srt cs (rows.getD i.toNat [])).length := by rw [h2]; simp
      rw [runF_ap rfl]
      apply fin_of
      try simp only [app_nil, app_cons, ins0_nil, ins0_cons, inSl_f, inSl_l, inSl_i, inSl_b, inSl_s, inSl_n, inSl_t, inSl_c, inSl_o, pad_0, pad_1]
      · apply seq_nx
        · simp? only []
          rfl
        apply seq_nx
        · simp? only [w_row_all]
          rfl
        apply seq_nx
        · simp? only [w_row_one]
          rfl
        apply seq_rt
        · simp? only [nn, h, a, so, hl0]
          rfl
        rfl
      · show _ = R.ok (DV.fz (optL (if inR i rows.length then (if srt cs (rows.getD i.toNat []) = [] then none else some (srt cs (rows.getD i.toNat []))) else none)))
        rw [if_pos h, if_pos h2]; rfl
    · have hl0 : (0 : Int) < (srt cs (rows.getD i.toNat [])).length := by
        have := List.length_pos_iff.mpr h2
        omega
      rw [runF_ap rfl]
      apply fin_of
      try simp only [app_nil, app_cons, ins0_nil, ins0_cons, inSl_f, inSl_l, inSl_i, inSl_b, inSl_s, inSl_n, inSl_t, inSl_c, inSl_o, pad_0, pad_1]
      · apply seq_nx
        · simp? only []
          rfl
        apply seq_nx
        · simp? only [w_row_all]
          rfl
        apply seq_nx
        · simp? only [w_row_one]
          rfl
        apply seq_rt
        · simp? only [nn, h, a, so, hl0]
          rfl
        rfl
      · show _ = R.ok (DV.fz (optL (if inR i rows.length then (if srt cs (rows.getD i.toNat []) = [] then none else some (srt cs (rows.getD i.toNat []))) else none)))
        rw [if_pos h, if_neg h2]; rfl
  · rw [runF_ap rfl]
    apply fin_of
    try simp only [app_nil, app_cons, ins0_nil, ins0_cons, inSl_f, inSl_l, inSl_i, inSl_b, inSl_s, inSl_n, inSl_t, inSl_c, inSl_o, pad_0, pad_1]
    · apply seq_nx
      · simp? only []
        rfl
      apply seq_nx
      · simp? only [w_row_all]
        rfl
      apply seq_nx
      · simp? only [w_row_one]
        rfl
      apply seq_nx
      · simp? only [nn, h]
        rfl
      apply seq_rt
      · simp? only []
        rfl
      rfl
    · show _ = R.ok (DV.fz (optL (if inR i rows.length then (if srt cs (rows.getD i.toNat []) = [] then none else some (srt cs (rows.getD i.toNat []))) else none)))
      rw [if_neg h]; rfl
end K24

set_option autoImplicit true
set_option Elab.async false
set_option linter.all false
set_option maxRecDepth 100000
set_option exponentiation.threshold 10000
set_option maxHeartbeats 4000000
namespace K24
open PySem Ed
local macro_rules | `(tactic| simp? only [$hs,*]) => `(tactic| simp (implicitDefEqProofs := false) only [kR_s, eC_ap, eN_ap, kN_s, pN_ap, kP_s, kpE_ok, kpE_ex, pE_ap, kU2_s, kU_ok, kU_ex, eU_ap, kB3_s, kB2_ok, kB2_ex, kB1_ok, kB1_ex, eB_ap, kF2_s, kF_ok, kF_ex, eF_ap, aNil_ap, lNil_ap, kA2_ok, kA2_ex, kA1_ok, kA1_ex, aCons_ap, kL2_ok, kL2_ex, kL1_ok, kL1_ex, lCons_ap, kSz_t, kTp_ok, kTp_ex, kLs_ok, kLs_ex, eTup_ap, nLst_ap, kIf_t, kIf_f, kIf_ex, tC_ap, eAnd_ap, eOr_ap, eNot_ap, eIf_ap, sIf_ap, kE2_b, kE_ok, kE_ex, tE_ap, kT3_s, kT2_s, kT_ok, kT_ex, tTru_ap, tru_int, tru_bl, tru_lst, tru_tup, tru_non, tYs_ap, eCB_ap, eAndV_ap, eOrV_ap, eNotV_ap, kCh4_s, kCh3_ok, kCh3_ex, kCh2_t, kCh2_f, kCh1_s, kCh0_ok, kCh0_ex, kCh_ok, kCh_ex, eChain_ap, callF_ap, kCp_s, kC_ok, kC_ex, kCd_ok, kCd_ex, kFr2_r, kFr_ok, kFr_ex, kC1_ok, kC1_ex, eCall_ap, kC2_ok, kC2_ex, nCall_ap, dfz, dfr, prep0, pK_s, prep_d, prep_t, pKt_s, prep_f, pKf_s, mkF_ap, kMk_ok, kMk_ex, kFl_ok, kFl_ex, eFld_ap, fld_s, kO2_s, kO1_ok, kO1_ex, kO0_ok, kO0_ex, eOwn2_ap, kOC3_s, kOC2_ok, kOC2_ex, kOC1_s, kOC0_ok, kOC0_ex, eOwnC_ap, kM2_ok, kM2_ex, kM1_s, kM0_ok, kM0_ex, eMeth_ap, eJs_nil, kJz_t, kJ2_s, kJ_ok, kJ_ex, eJs_cons, kSl4_s, kSl3_s, kSl2_s, kSl1_s, eSl_ap, oP_n, kOp2_s, kOp_s, oP_s, kLc2_s, kLc1_t, kLc_ok, eLc_ap, kIs2_s, kIs_ok, iSeq_ap, it_l, it_t, kIn_s, iN_ap, kRg_ok, iRg1_ap, kRh2_ok, kRh1_ok, iRg2_ap, sNext_ap, sBrk_ap, sCnt_ap, sRetN_ap, kS_nx, kS_rt, kS_bk, kS_ct, kS_ex, sSeq_ap, kSet_ok, kSet_ex, sSet_ap, kOwn_ok, kOwn_ex, sOwn_ap, kDrp_ok, kDrp_ex, sDrop_ap, kRet_ok, kRet_ex, sRet_ap, kReO_ok, kReO_ex, sRetO_ap, sRetX_ap, kRx_o, kRx_v, kAp3_t, kAp2_o, kAp1_ok, kAp0_s, sApp_ap, kPi4_s, kPi3_s, kPi2_ok, kPi1_s, kPi0_ok, sPutI_ap, kPr2_ok, kPr1_ok, sPar_ap, kAs2_s, kAs_ok, sAsg_ap, gN_ap, gT_t, gT_l, gs_nil, kGs_s, gs_cons, kFor_ok, sFor_ap, sWhl_ap, kFd_ok, sFld_ap, kRs_ok, sRaise_ap, kSu_ok, kTr3_t, kTr2_t, kTr2_f, kTr_ok, kTr_ex, sTry_ap, kIE2_s, kIE_s, eIsE_ap, kXf_s, eXf_ap, fin_nx, fin_rt, fin_ex, finI_ex, kFi_s, finI_nx, app_nil, app_cons, ins0_nil, ins0_cons, inSl_f, inSl_l, inSl_i, inSl_b, inSl_s, inSl_n, inSl_t, inSl_c, inSl_o, pad_0, pad_1, get_0, get_1, put_0, put_1, look_v, look_o, look_b, frz_v, frz_o, stay_v, stay_o, stay_b, rd_d, rd_n, rds_nil, kRd_s, rds_cons, wipe_nil, wipe_cons, rest_nil, rest_cons, all_nil, all_cons, stb_e, stb_v, stb_b, noX_nil, noX_e, noX_v, noX_o, noX_b, true_and', tbl_ap, putFd_nil, putFd_cons, dAdd_i, dSub_i, dNeg_i, dLt_i, dLe_i, dGt_i, dGe_i, dEq_i, dNe_i, dEq_b, dNe_b, dEq_s, dNe_s, o1_ap, dAbs_i, dInt_i, dInt_b, dBool_i, dLen_l, dLen_t, dLen_c, dIx_l, dIx_t, dIx_c, at_0, at_1, at_2, at_3, isT_ii, isT_bi, isT_bb, isT_ss, isT_ll, isT_tt, isB2_i, map_s, dRev_l, dTup_l, dTup_t, dLst_l, dLst_t, dCut_l, dCutL_l, dGcd_i, isB_b, isS_s, mul_r, mul_l, dDiv_r, dMod_i, kGb_s, kGe_s,   decide_true, decide_false, Bool.not_true, Bool.not_false, Bool.and_true, Bool.and_false, Bool.false_and, if_true, if_false, ite_true, ite_false, Bool.false_eq_true, List.lookup_cons, List.lookup_nil, List.length_cons, List.length_nil, Nat.reduceBEq, Nat.reduceLT, Nat.reduceLeDiff, Nat.zero_le, seqMax, List.length_map, Nat.reduceAdd, Nat.reduceEqDiff, Nat.reducePow, Int.reduceNe, Int.reduceEq, Int.reduceLT, Int.reduceLE, Int.reduceBEq, Int.reduceNeg, Int.natAbs_neg, ne_eq, not_true, not_false_eq_true, and_self, true_and, and_true, beq_self_eq_true, turn_ap, kTn1_s, kTn2_t, kTn2_f, kTn2_p, kTn2_n, kTn3_ok, dIn_sl, dIn_st, dNin_sl, dNin_st, dIn_il, dNin_il, kSg2_s, kSg_ok, iSgn_ap, kED_s, eIsED_ap, kX2_s, kX1_ok, kX1_ex, kX0_ok, kX0_ex, eOwnX_ap, kBT4_s, kBT3_ok, kBT3_ex, kBT1_ok, kBT1_ex, eBMT_ap, dIsN_n, dIsN_l, dIsN_t, dIsN_i, dIsN_s, dNotN_n, dNotN_l, dNotN_t, dNotN_i, dNotN_s, dBAnd_i, dBOr_i, dMin2_i, dMax2_i, dCut_t, dCut_c, dCut_l2, Int.cast_ofNat_Int, at_4, at_5, at_6, at_7, at_8, at_9, at_10, at_11, at_12, at_13, $hs,*])
theorem inR_not {i : Int} {n : Nat} : (!decide (inR i n)) = decide (¬ inR i n) := by by_cases h : inR i n <;> simp [h]
theorem pairMade_nil {cs a b : List Str} {w : W3} (h : a.filter (fun x => decide (x ∈ b)) = []) : pairMade cs a b w = none := if_pos h
theorem step_pr (fu : Nat) {cs : List Str} {rows sets : List (List Str)} {w : W3} {i j : Int} (hl : cs.length ≤ 12) (hs : ∀ l ∈ sets, l.length ≤ 12) : F_law_step fu [enc (.pr w i j), sLL sets, sL cs, sLL rows] = .ok (.fz (optL (made cs rows sets (.pr w i j)))) := by
  have n1 := is_number_int fu (v := i) (a := 0) (b := (sets.length : Int) - 1)
  have n2 := is_number_int fu (v := j) (a := 0) (b := (sets.length : Int) - 1)
  rw [rng1] at n1 n2
  have w1 : (w.s == "all") = false := by cases w <;> decide +kernel
  have w2 : (w.s == "one") = false := by cases w <;> decide +kernel
  have w3 : (w.s == "row") = false := by cases w <;> decide +kernel
  have hm : made cs rows sets (.pr w i j) = if inR i sets.length ∧ inR j sets.length then pairMade cs (sets.getD i.toNat []) (sets.getD j.toNat []) w else none := rfl
  unfold F_law_step sv_law_step sg_law_step_8 enc
  by_cases h1 : inR i sets.length
  · by_cases h2 : inR j sets.length
    · rw [hm, if_pos ⟨h1, h2⟩]
      have a1 := at_map (f := sL) (l := sets) (k := i) [] h1.1 h1.2
      have a2 := at_map (f := sL) (l := sets) (k := j) [] h2.1 h2.2
      have hla := hs _ (getD_mem (l := sets) (k := i.toNat) (d := []) (by have := h1.1; have := h1.2; omega))
      have hlb := hs _ (getD_mem (l := sets) (k := j.toNat) (d := []) (by have := h2.1; have := h2.2; omega))
      generalize sets.getD i.toNat [] = a at a1 hla ⊢
      generalize sets.getD j.toNat [] = b at a2 hlb ⊢
      have e1 := lcL_if (g := gN 8) (t := et_law_step_1 fu) (e := el_law_step_0 fu) (vs := [8]) (Γ0 := [.val (.tup [.str w.s, .int i, .int j]), .bor (sLL sets), .bor (sL cs), .bor (sLL rows), .emp, .val (sL a), .val (sL b), .emp, .emp]) D.str (fun x => x ∈ b) D.str a (fun x hx => by
        unfold et_law_step_1 el_law_step_0
        simp? only []) (n := 0) (by show 0 + a.length ≤ 16777216; omega)
      have hbl := List.length_filter_le (fun x => decide (x ∈ b)) a
      generalize hb : a.filter (fun x => decide (x ∈ b)) = both at e1 hbl
      by_cases hn : both = []
      · rw [pairMade_nil (by rw [hb]; exact hn)]
        have z : ((both.length : Int) == 0) = true := by rw [len0, decide_eq_true hn]
        unfold sg_law_step_7
        rw [runF_ap rfl]
        apply fin_of
        try simp only [app_nil, app_cons, ins0_nil, ins0_cons, inSl_f, inSl_l, inSl_i, inSl_b, inSl_s, inSl_n, inSl_t, inSl_c, inSl_o, pad_0, pad_1]
        · apply seq_nx
          · simp? only []
            rfl
          apply seq_nx
          · simp? only [w1]
            rfl
          apply seq_nx
          · simp? only [w2]
            rfl
          apply seq_nx
          · simp? only [w3]
            rfl
          apply seq_nx
          · simp? only [n1, n2, h1, h2]
            rfl
          apply seq_nx
          · simp? only [a1]
            rfl
          apply seq_nx
          · simp? only [a2]
            rfl
          apply seq_nx
          · simp? only [e1]
            rfl
          apply seq_rt
          · simp? only [z]
            rfl
          rfl
        · rfl
      · have z : ((both.length : Int) == 0) = false := by rw [len0, decide_eq_false hn]
        unfold sg_law_step_7 sg_law_step_6
        cases w with
        | bo =>
          have r : pairMade cs a b .bo = some both := by unfold pairMade; rw [hb, if_neg hn]
          rw [r]
          rw [runF_ap rfl]
          apply fin_of
          try simp only [app_nil, app_cons, ins0_nil, ins0_cons, inSl_f, inSl_l, inSl_i, inSl_b, inSl_s, inSl_n, inSl_t, inSl_c, inSl_o, pad_0, pad_1]
          · apply seq_nx
            · simp? only []
              rfl
            apply seq_nx
            · simp? only [w1]
              rfl
            apply seq_nx
            · simp? only [w2]
              rfl
            apply seq_nx
            · simp? only [w3]
              rfl
            apply seq_nx
            · simp? only [n1, n2, h1, h2]
              rfl
            apply seq_nx
            · simp? only [a1]
              rfl
            apply seq_nx
            · simp? only [a2]
              rfl
            apply seq_nx
            · simp? only [e1]
              rfl
            apply seq_nx
            · simp? only [z]
              rfl
            apply seq_rt
            · simp? only [W3.s]
              rfl
            rfl
          · rfl
        | ei =>
          have r : pairMade cs a b .ei = some (cs.filter fun x => decide (x ∈ a ∨ x ∈ b)) := by unfold pairMade; rw [hb, if_neg hn]
          have e2 := lcL_if (g := gN 8) (t := et_law_step_3 fu) (e := el_law_step_2 fu) (vs := [8]) (Γ0 := [.val (.tup [.str W3.ei.s, .int i, .int j]), .bor (sLL sets), .bor (sL cs), .bor (sLL rows), .emp, .val (sL a), .val (sL b), .own (sL both), .emp]) D.str (fun x => x ∈ a ∨ x ∈ b) D.str cs (fun x hx => by
            unfold et_law_step_3 el_law_step_2
            by_cases q1 : x ∈ a
            · rw [if_pos (Or.inl q1)]
              simp? only [q1]
            · by_cases q2 : x ∈ b
              · rw [if_pos (Or.inr q2)]
                simp? only [q1, q2]
              · rw [if_neg (fun z => z.elim q1 q2)]
                simp? only [q1, q2]) (n := 0) (by show 0 + cs.length ≤ 16777216; omega)
          rw [r]
          rw [runF_ap rfl]
          apply fin_of
          try simp only [app_nil, app_cons, ins0_nil, ins0_cons, inSl_f, inSl_l, inSl_i, inSl_b, inSl_s, inSl_n, inSl_t, inSl_c, inSl_o, pad_0, pad_1]
          · apply seq_nx
            · simp? only []
              rfl
            apply seq_nx
            · simp? only [w1]
              rfl
            apply seq_nx
            · simp? only [w2]
              rfl
            apply seq_nx
            · simp? only [w3]
              rfl
            apply seq_nx
            · simp? only [n1, n2, h1, h2]
              rfl
            apply seq_nx
            · simp? only [a1]
              rfl
            apply seq_nx
            · simp? only [a2]
              rfl
            apply seq_nx
            · simp? only [e1]
              rfl
            apply seq_nx
            · simp? only [z]
              rfl
            apply seq_nx
            · simp? only [show (W3.ei.s == "both") = false by decide +kernel]
              rfl
            apply seq_rt
            · simp? only [show (W3.ei.s == "either") = true by decide +kernel, e2]
              rfl
            rfl
          · rfl
        | fi =>
          have e2 := lcL_ifn (g := gN 8) (t := et_law_step_5 fu) (e := el_law_step_4 fu) (vs := [8]) (Γ0 := [.val (.tup [.str W3.fi.s, .int i, .int j]), .bor (sLL sets), .bor (sL cs), .bor (sLL rows), .emp, .val (sL a), .val (sL b), .own (sL both), .emp]) D.str (fun x => x ∈ b) D.str a (fun x hx => by
            unfold et_law_step_5 el_law_step_4
            simp? only []) (n := 0) (by show 0 + a.length ≤ 16777216; omega)
          by_cases q1 : both.length < a.length
          · by_cases q2 : both.length < b.length
            · have r : pairMade cs a b .fi = some (a.filter fun x => !decide (x ∈ b)) := by unfold pairMade; rw [hb, if_neg hn, if_pos ⟨q1, q2⟩]
              rw [r]
              rw [runF_ap rfl]
              apply fin_of
              try simp only [app_nil, app_cons, ins0_nil, ins0_cons, inSl_f, inSl_l, inSl_i, inSl_b, inSl_s, inSl_n, inSl_t, inSl_c, inSl_o, pad_0, pad_1]
              · apply seq_nx
                · simp? only []
                  rfl
                apply seq_nx
                · simp? only [w1]
                  rfl
                apply seq_nx
                · simp? only [w2]
                  rfl
                apply seq_nx
                · simp? only [w3]
                  rfl
                apply seq_nx
                · simp? only [n1, n2, h1, h2]
                  rfl
                apply seq_nx
                · simp? only [a1]
                  rfl
                apply seq_nx
                · simp? only [a2]
                  rfl
                apply seq_nx
                · simp? only [e1]
                  rfl
                apply seq_nx
                · simp? only [z]
                  rfl
                apply seq_nx
                · simp? only [show (W3.fi.s == "both") = false by decide +kernel]
                  rfl
                apply seq_nx
                · simp? only [show (W3.fi.s == "either") = false by decide +kernel]
                  rfl
                apply seq_rt
                · simp? only [show (W3.fi.s == "first") = true by decide +kernel, Int.ofNat_lt, q1, q2, e2]
                  rfl
                rfl
              · rfl
            · have r : pairMade cs a b .fi = none := by unfold pairMade; rw [hb, if_neg hn, if_neg (fun z => q2 z.2)]
              rw [r]
              rw [runF_ap rfl]
              apply fin_of
              try simp only [app_nil, app_cons, ins0_nil, ins0_cons, inSl_f, inSl_l, inSl_i, inSl_b, inSl_s, inSl_n, inSl_t, inSl_c, inSl_o, pad_0, pad_1]
              · apply seq_nx
                · simp? only []
                  rfl
                apply seq_nx
                · simp? only [w1]
                  rfl
                apply seq_nx
                · simp? only [w2]
                  rfl
                apply seq_nx
                · simp? only [w3]
                  rfl
                apply seq_nx
                · simp? only [n1, n2, h1, h2]
                  rfl
                apply seq_nx
                · simp? only [a1]
                  rfl
                apply seq_nx
                · simp? only [a2]
                  rfl
                apply seq_nx
                · simp? only [e1]
                  rfl
                apply seq_nx
                · simp? only [z]
                  rfl
                apply seq_nx
                · simp? only [show (W3.fi.s == "both") = false by decide +kernel]
                  rfl
                apply seq_nx
                · simp? only [show (W3.fi.s == "either") = false by decide +kernel]
                  rfl
                apply seq_nx
                · simp? only [show (W3.fi.s == "first") = true by decide +kernel, Int.ofNat_lt, q1, q2]
                  rfl
                simp? only []
                rfl
              · rfl
          · have r : pairMade cs a b .fi = none := by unfold pairMade; rw [hb, if_neg hn, if_neg (fun z => q1 z.1)]
            rw [r]
            rw [runF_ap rfl]
            apply fin_of
            try simp only [app_nil, app_cons, ins0_nil, ins0_cons, inSl_f, inSl_l, inSl_i, inSl_b, inSl_s, inSl_n, inSl_t, inSl_c, inSl_o, pad_0, pad_1]
            · apply seq_nx
              · simp? only []
                rfl
              apply seq_nx
              · simp? only [w1]
                rfl
              apply seq_nx
              · simp? only [w2]
                rfl
              apply seq_nx
              · simp? only [w3]
                rfl
              apply seq_nx
              · simp? only [n1, n2, h1, h2]
                rfl
              apply seq_nx
              · simp? only [a1]
                rfl
              apply seq_nx
              · simp? only [a2]
                rfl
              apply seq_nx
              · simp? only [e1]
                rfl
              apply seq_nx
              · simp? only [z]
                rfl
              apply seq_nx
              · simp? only [show (W3.fi.s == "both") = false by decide +kernel]
                rfl
              apply seq_nx
              · simp? only [show (W3.fi.s == "either") = false by decide +kernel]
                rfl
              apply seq_nx
              · simp? only [show (W3.fi.s == "first") = true by decide +kernel, Int.ofNat_lt, q1]
                rfl
              simp? only []
              rfl
            · rfl
    · rw [hm, if_neg (fun z => h2 z.2)]
      rw [runF_ap rfl]
      apply fin_of
      try simp only [app_nil, app_cons, ins0_nil, ins0_cons, inSl_f, inSl_l, inSl_i, inSl_b, inSl_s, inSl_n, inSl_t, inSl_c, inSl_o, pad_0, pad_1]
      · apply seq_nx
        · simp? only []
          rfl
        apply seq_nx
        · simp? only [w1]
          rfl
        apply seq_nx
        · simp? only [w2]
          rfl
        apply seq_nx
        · simp? only [w3]
          rfl
        apply seq_rt
        · simp? only [n1, n2, h1, h2]
          rfl
        rfl
      · rfl
  · rw [hm, if_neg (fun z => h1 z.1)]
    rw [runF_ap rfl]
    apply fin_of
    try simp only [app_nil, app_cons, ins0_nil, ins0_cons, inSl_f, inSl_l, inSl_i, inSl_b, inSl_s, inSl_n, inSl_t, inSl_c, inSl_o, pad_0, pad_1]
    · apply seq_nx
      · simp? only []
        rfl
      apply seq_nx
      · simp? only [w1]
        rfl
      apply seq_nx
      · simp? only [w2]
        rfl
      apply seq_nx
      · simp? only [w3]
        rfl
      apply seq_rt
      · simp? only [n1, h1]
        rfl
      rfl
    · rfl
theorem step_ok (fu : Nat) {cs : List Str} {rows sets : List (List Str)} (st : Stp) (hl : cs.length ≤ 12) (hs : ∀ l ∈ sets, l.length ≤ 12) : F_law_step fu [enc st, sLL sets, sL cs, sLL rows] = .ok (.fz (optL (made cs rows sets st))) := by
  cases st with
  | all => exact step_all fu
  | one s => exact step_one fu
  | row i => exact step_row fu hl
  | pr w i j => exact step_pr fu hl hs
end K24

set_option autoImplicit true
set_option Elab.async false
set_option linter.all false
set_option maxRecDepth 100000
set_option exponentiation.threshold 10000
set_option maxHeartbeats 4000000
namespace K24
open PySem Ed
local macro_rules | `(tactic| simp? only [$hs,*]) => `(tactic| simp (implicitDefEqProofs := false) only [kR_s, eC_ap, eN_ap, kN_s, pN_ap, kP_s, kpE_ok, kpE_ex, pE_ap, kU2_s, kU_ok, kU_ex, eU_ap, kB3_s, kB2_ok, kB2_ex, kB1_ok, kB1_ex, eB_ap, kF2_s, kF_ok, kF_ex, eF_ap, aNil_ap, lNil_ap, kA2_ok, kA2_ex, kA1_ok, kA1_ex, aCons_ap, kL2_ok, kL2_ex, kL1_ok, kL1_ex, lCons_ap, kSz_t, kTp_ok, kTp_ex, kLs_ok, kLs_ex, eTup_ap, nLst_ap, kIf_t, kIf_f, kIf_ex, tC_ap, eAnd_ap, eOr_ap, eNot_ap, eIf_ap, sIf_ap, kE2_b, kE_ok, kE_ex, tE_ap, kT3_s, kT2_s, kT_ok, kT_ex, tTru_ap, tru_int, tru_bl, tru_lst, tru_tup, tru_non, tYs_ap, eCB_ap, eAndV_ap, eOrV_ap, eNotV_ap, kCh4_s, kCh3_ok, kCh3_ex, kCh2_t, kCh2_f, kCh1_s, kCh0_ok, kCh0_ex, kCh_ok, kCh_ex, eChain_ap, callF_ap, kCp_s, kC_ok, kC_ex, kCd_ok, kCd_ex, kFr2_r, kFr_ok, kFr_ex, kC1_ok, kC1_ex, eCall_ap, kC2_ok, kC2_ex, nCall_ap, dfz, dfr, prep0, pK_s, prep_d, prep_t, pKt_s, prep_f, pKf_s, mkF_ap, kMk_ok, kMk_ex, kFl_ok, kFl_ex, eFld_ap, fld_s, kO2_s, kO1_ok, kO1_ex, kO0_ok, kO0_ex, eOwn2_ap, kOC3_s, kOC2_ok, kOC2_ex, kOC1_s, kOC0_ok, kOC0_ex, eOwnC_ap, kM2_ok, kM2_ex, kM1_s, kM0_ok, kM0_ex, eMeth_ap, eJs_nil, kJz_t, kJ2_s, kJ_ok, kJ_ex, eJs_cons, kSl4_s, kSl3_s, kSl2_s, kSl1_s, eSl_ap, oP_n, kOp2_s, kOp_s, oP_s, kLc2_s, kLc1_t, kLc_ok, eLc_ap, kIs2_s, kIs_ok, iSeq_ap, it_l, it_t, kIn_s, iN_ap, kRg_ok, iRg1_ap, kRh2_ok, kRh1_ok, iRg2_ap, sNext_ap, sBrk_ap, sCnt_ap, sRetN_ap, kS_nx, kS_rt, kS_bk, kS_ct, kS_ex, sSeq_ap, kSet_ok, kSet_ex, sSet_ap, kOwn_ok, kOwn_ex, sOwn_ap, kDrp_ok, kDrp_ex, sDrop_ap, kRet_ok, kRet_ex, sRet_ap, kReO_ok, kReO_ex, sRetO_ap, sRetX_ap, kRx_o, kRx_v, kAp3_t, kAp2_o, kAp1_ok, kAp0_s, sApp_ap, kPi4_s, kPi3_s, kPi2_ok, kPi1_s, kPi0_ok, sPutI_ap, kPr2_ok, kPr1_ok, sPar_ap, kAs2_s, kAs_ok, sAsg_ap, gN_ap, gT_t, gT_l, gs_nil, kGs_s, gs_cons, kFor_ok, sFor_ap, sWhl_ap, kFd_ok, sFld_ap, kRs_ok, sRaise_ap, kSu_ok, kTr3_t, kTr2_t, kTr2_f, kTr_ok, kTr_ex, sTry_ap, kIE2_s, kIE_s, eIsE_ap, kXf_s, eXf_ap, fin_nx, fin_rt, fin_ex, finI_ex, kFi_s, finI_nx, app_nil, app_cons, ins0_nil, ins0_cons, inSl_f, inSl_l, inSl_i, inSl_b, inSl_s, inSl_n, inSl_t, inSl_c, inSl_o, pad_0, pad_1, get_0, get_1, put_0, put_1, look_v, look_o, look_b, frz_v, frz_o, stay_v, stay_o, stay_b, rd_d, rd_n, rds_nil, kRd_s, rds_cons, wipe_nil, wipe_cons, rest_nil, rest_cons, all_nil, all_cons, stb_e, stb_v, stb_b, noX_nil, noX_e, noX_v, noX_o, noX_b, true_and', tbl_ap, putFd_nil, putFd_cons, dAdd_i, dSub_i, dNeg_i, dLt_i, dLe_i, dGt_i, dGe_i, dEq_i, dNe_i, dEq_b, dNe_b, dEq_s, dNe_s, o1_ap, dAbs_i, dInt_i, dInt_b, dBool_i, dLen_l, dLen_t, dLen_c, dIx_l, dIx_t, dIx_c, at_0, at_1, at_2, at_3, isT_ii, isT_bi, isT_bb, isT_ss, isT_ll, isT_tt, isB2_i, map_s, dRev_l, dTup_l, dTup_t, dLst_l, dLst_t, dCut_l, dCutL_l, dGcd_i, isB_b, isS_s, mul_r, mul_l, dDiv_r, dMod_i, kGb_s, kGe_s,   decide_true, decide_false, Bool.not_true, Bool.not_false, Bool.and_true, Bool.and_false, Bool.false_and, if_true, if_false, ite_true, ite_false, Bool.false_eq_true, List.lookup_cons, List.lookup_nil, List.length_cons, List.length_nil, Nat.reduceBEq, Nat.reduceLT, Nat.reduceLeDiff, Nat.zero_le, seqMax, List.length_map, Nat.reduceAdd, Nat.reduceEqDiff, Nat.reducePow, Int.reduceNe, Int.reduceEq, Int.reduceLT, Int.reduceLE, Int.reduceBEq, Int.reduceNeg, Int.natAbs_neg, ne_eq, not_true, not_false_eq_true, and_self, true_and, and_true, beq_self_eq_true, turn_ap, kTn1_s, kTn2_t, kTn2_f, kTn2_p, kTn2_n, kTn3_ok, dIn_sl, dIn_st, dNin_sl, dNin_st, dIn_il, dNin_il, kSg2_s, kSg_ok, iSgn_ap, kED_s, eIsED_ap, kX2_s, kX1_ok, kX1_ex, kX0_ok, kX0_ex, eOwnX_ap, kBT4_s, kBT3_ok, kBT3_ex, kBT1_ok, kBT1_ex, eBMT_ap, dIsN_n, dIsN_l, dIsN_t, dIsN_i, dIsN_s, dNotN_n, dNotN_l, dNotN_t, dNotN_i, dNotN_s, dBAnd_i, dBOr_i, dMin2_i, dMax2_i, dCut_t, dCut_c, dCut_l2, Int.cast_ofNat_Int, at_4, at_5, at_6, at_7, at_8, at_9, at_10, at_11, at_12, at_13, $hs,*])
/-! the program's side: masks of the steps -/
def ml (cs l : List Str) : Nat := msk cs fun x => decide (x ∈ l)
/-- a set as the law keeps it -/
def Set1 (cs l : List Str) : Prop := srt cs l = l ∧ l ≠ []
theorem srt_mem {cs l : List Str} {x : Str} : x ∈ srt cs l ↔ x ∈ cs ∧ x ∈ l := by
  unfold srt
  rw [List.mem_filter, decide_eq_true_eq]
theorem srt_srt (cs l : List Str) : srt cs (srt cs l) = srt cs l := by
  unfold srt
  apply List.filter_congr
  intro x hx
  rw [decide_eq_decide, List.mem_filter, decide_eq_true_eq]
  exact ⟨fun h => h.2, fun h => ⟨hx, h⟩⟩
theorem Set1.sub {cs l : List Str} (h : Set1 cs l) {x : Str} (hx : x ∈ l) : x ∈ cs := by
  rw [← h.1] at hx; exact (srt_mem.mp hx).1
theorem Set1.le {cs l : List Str} (h : Set1 cs l) : l.length ≤ cs.length := by
  rw [← h.1]; exact List.length_filter_le _ _
theorem ml_pos {cs l : List Str} (h : Set1 cs l) : ml cs l ≠ 0 := fun z => by
  obtain ⟨x, hx⟩ := List.exists_mem_of_ne_nil _ h.2
  have := msk_zero.mp z x (h.sub hx)
  simp [hx] at this
theorem ml_srt (cs r : List Str) : ml cs (srt cs r) = ml cs r := msk_ext fun x hx => by
  rw [decide_eq_decide, srt_mem]
  exact ⟨fun h => h.2, fun h => ⟨hx, h⟩⟩
theorem ml_zero {cs r : List Str} : ml cs r = 0 ↔ srt cs r = [] := by
  unfold ml
  rw [msk_zero]
  unfold srt
  rw [List.filter_eq_nil_iff]
  exact ⟨fun h x hx => by rw [h x hx]; decide, fun h x hx => by simpa using h x hx⟩
def optN (cs : List Str) : Option (List Str) → Nat
  | none => 0
  | some l => ml cs l
def pmN (w : W3) (A B : Nat) : Nat := if A &&& B = 0 then 0 else match w with
  | .bo => A &&& B
  | .ei => A ||| B
  | .fi => if A &&& B = A ∨ A &&& B = B then 0 else A - (A &&& B)
theorem beq_nat {a b : Nat} : (((a : Nat) : Int) == ((b : Nat) : Int)) = decide (a = b) := by
  by_cases h : a = b
  · subst h; simp
  · rw [decide_eq_false h, beq_eq_false_iff_ne]; omega
theorem beq_nat0 {a : Nat} : (((a : Nat) : Int) == 0) = decide (a = 0) := beq_nat (b := 0)
theorem pair_mask_ok (fu : Nat) (w : W3) (A B : Nat) : F_pair_mask fu [.str w.s, .int (A : Int), .int (B : Int)] = .ok (.fz (.int (pmN w A B : Nat))) := by
  unfold F_pair_mask sv_pair_mask sg_pair_mask_0 pmN
  by_cases h0 : A &&& B = 0
  · rw [if_pos h0]
    rw [runF_ap rfl]
    apply fin_of
    try simp only [app_nil, app_cons, ins0_nil, ins0_cons, inSl_f, inSl_l, inSl_i, inSl_b, inSl_s, inSl_n, inSl_t, inSl_c, inSl_o, pad_0, pad_1]
    · apply seq_nx
      · simp? only [and_nat]
        rfl
      apply seq_rt
      · simp? only [beq_nat0, h0]
        rfl
      rfl
    · rfl
  · rw [if_neg h0]
    cases w with
    | bo =>
      rw [runF_ap rfl]
      apply fin_of
      try simp only [app_nil, app_cons, ins0_nil, ins0_cons, inSl_f, inSl_l, inSl_i, inSl_b, inSl_s, inSl_n, inSl_t, inSl_c, inSl_o, pad_0, pad_1]
      · apply seq_nx
        · simp? only [and_nat]
          rfl
        apply seq_nx
        · simp? only [beq_nat0, h0]
          rfl
        apply seq_rt
        · simp? only [show (W3.bo.s == "both") = true by decide +kernel]
          rfl
        rfl
      · rfl
    | ei =>
      rw [runF_ap rfl]
      apply fin_of
      try simp only [app_nil, app_cons, ins0_nil, ins0_cons, inSl_f, inSl_l, inSl_i, inSl_b, inSl_s, inSl_n, inSl_t, inSl_c, inSl_o, pad_0, pad_1]
      · apply seq_nx
        · simp? only [and_nat]
          rfl
        apply seq_nx
        · simp? only [beq_nat0, h0]
          rfl
        apply seq_nx
        · simp? only [show (W3.ei.s == "both") = false by decide +kernel]
          rfl
        apply seq_rt
        · simp? only [show (W3.ei.s == "either") = true by decide +kernel, or_nat]
          rfl
        rfl
      · rfl
    | fi =>
      by_cases h1 : A &&& B = A
      · dsimp only
        rw [if_pos (Or.inl h1)]
        rw [runF_ap rfl]
        apply fin_of
        try simp only [app_nil, app_cons, ins0_nil, ins0_cons, inSl_f, inSl_l, inSl_i, inSl_b, inSl_s, inSl_n, inSl_t, inSl_c, inSl_o, pad_0, pad_1]
        · apply seq_nx
          · simp? only [and_nat]
            rfl
          apply seq_nx
          · simp? only [beq_nat0, h0]
            rfl
          apply seq_nx
          · simp? only [show (W3.fi.s == "both") = false by decide +kernel]
            rfl
          apply seq_nx
          · simp? only [show (W3.fi.s == "either") = false by decide +kernel]
            rfl
          apply seq_rt
          · simp? only [beq_nat, h1]
            rfl
          rfl
        · rfl
      · by_cases h2 : A &&& B = B
        · dsimp only
          rw [if_pos (Or.inr h2)]
          rw [runF_ap rfl]
          apply fin_of
          try simp only [app_nil, app_cons, ins0_nil, ins0_cons, inSl_f, inSl_l, inSl_i, inSl_b, inSl_s, inSl_n, inSl_t, inSl_c, inSl_o, pad_0, pad_1]
          · apply seq_nx
            · simp? only [and_nat]
              rfl
            apply seq_nx
            · simp? only [beq_nat0, h0]
              rfl
            apply seq_nx
            · simp? only [show (W3.fi.s == "both") = false by decide +kernel]
              rfl
            apply seq_nx
            · simp? only [show (W3.fi.s == "either") = false by decide +kernel]
              rfl
            apply seq_rt
            · simp? only [beq_nat, h1, h2, show ¬ B = A from fun z => h1 (h2.trans z)]
              rfl
            rfl
          · rfl
        · dsimp only
          rw [if_neg (fun z => z.elim h1 h2)]
          have hle : A &&& B ≤ A := Nat.and_le_left
          have e : (A : Int) - ((A &&& B : Nat) : Int) = ((A - (A &&& B) : Nat) : Int) := by omega
          rw [runF_ap rfl]
          apply fin_of
          try simp only [app_nil, app_cons, ins0_nil, ins0_cons, inSl_f, inSl_l, inSl_i, inSl_b, inSl_s, inSl_n, inSl_t, inSl_c, inSl_o, pad_0, pad_1]
          · apply seq_nx
            · simp? only [and_nat]
              rfl
            apply seq_nx
            · simp? only [beq_nat0, h0]
              rfl
            apply seq_nx
            · simp? only [show (W3.fi.s == "both") = false by decide +kernel]
              rfl
            apply seq_nx
            · simp? only [show (W3.fi.s == "either") = false by decide +kernel]
              rfl
            apply seq_nx
            · simp? only [beq_nat, h1, h2]
              rfl
            simp? only [e]
            rfl
          · rfl
/-- what the pair step makes, in numbers -/
theorem pm_made {cs a b : List Str} (ha : Set1 cs a) (hb : Set1 cs b) (w : W3) : pmN w (ml cs a) (ml cs b) = optN cs (pairMade cs a b w) := by
  have hand : ml cs a &&& ml cs b = ml cs (a.filter fun x => decide (x ∈ b)) := by
    unfold ml
    rw [msk_and]
    apply msk_ext
    intro x _
    rw [← Bool.decide_and, decide_eq_decide, List.mem_filter, decide_eq_true_eq]
  have hab : a.filter (fun x => decide (x ∈ b)) = cs.filter fun x => decide (x ∈ a) && decide (x ∈ b) := by
    have h : a = cs.filter fun x => decide (x ∈ a) := ha.1.symm
    conv => lhs; rw [h]
    rw [List.filter_filter]
    apply List.filter_congr
    intro x hx
    rw [Bool.and_comm]
  have hba : b.filter (fun x => decide (x ∈ a)) = cs.filter fun x => decide (x ∈ a) && decide (x ∈ b) := by
    have h : b = cs.filter fun x => decide (x ∈ b) := hb.1.symm
    conv => lhs; rw [h]
    rw [List.filter_filter]
  have hsrt : srt cs (a.filter fun x => decide (x ∈ b)) = a.filter fun x => decide (x ∈ b) := by
    conv => rhs; rw [hab]
    unfold srt
    apply List.filter_congr
    intro x hx
    rw [← Bool.decide_and, decide_eq_decide, List.mem_filter, decide_eq_true_eq]
  have hz : ml cs a &&& ml cs b = 0 ↔ a.filter (fun x => decide (x ∈ b)) = [] := by rw [hand, ml_zero, hsrt]
  unfold pmN pairMade
  by_cases h0 : a.filter (fun x => decide (x ∈ b)) = []
  · rw [if_pos (hz.mpr h0), if_pos h0]; rfl
  · rw [if_neg (fun z => h0 (hz.mp z)), if_neg h0]
    cases w with
    | bo => exact hand
    | ei =>
      show ml cs a ||| ml cs b = ml cs _
      unfold ml
      rw [msk_or]
      apply msk_ext
      intro x hx
      rw [← Bool.decide_or, decide_eq_decide, List.mem_filter, decide_eq_true_eq]
      exact ⟨fun h => ⟨hx, h⟩, fun h => h.2⟩
    | fi =>
      have e1 : ml cs a &&& ml cs b = ml cs a ↔ ¬ (a.filter fun x => decide (x ∈ b)).length < a.length := by
        rw [hand]
        constructor
        · intro h hlt
          refine Nat.lt_irrefl _ (Nat.lt_of_lt_of_le hlt ?_)
          have : a.filter (fun x => decide (x ∈ b)) = a := by
            rw [List.filter_eq_self]
            intro x hx
            have := msk_inj h x (ha.sub hx)
            rw [decide_eq_decide, List.mem_filter] at this
            exact (this.mpr hx).2
          rw [this]; exact Nat.le_refl _
        · intro h
          have h2 := (List.filter_sublist (p := fun x => decide (x ∈ b)) (l := a)).eq_of_length_le (by omega)
          rw [h2]
      have e2 : ml cs a &&& ml cs b = ml cs b ↔ ¬ (a.filter fun x => decide (x ∈ b)).length < b.length := by
        rw [hand]
        constructor
        · intro h hlt
          refine Nat.lt_irrefl _ (Nat.lt_of_lt_of_le hlt ?_)
          have : b.filter (fun x => decide (x ∈ a)) = b := by
            rw [List.filter_eq_self]
            intro x hx
            have := msk_inj h x (hb.sub hx)
            rw [decide_eq_decide, List.mem_filter] at this
            exact decide_eq_true (this.mpr hx).1
          rw [hab, ← hba, this]; exact Nat.le_refl _
        · intro h
          rw [hab, ← hba] at h
          have h2 := (List.filter_sublist (p := fun x => decide (x ∈ a)) (l := b)).eq_of_length_le (by omega)
          rw [hab, ← hba, h2]
      show (if ml cs a &&& ml cs b = ml cs a ∨ ml cs a &&& ml cs b = ml cs b then 0 else ml cs a - (ml cs a &&& ml cs b)) = optN cs (if (a.filter fun x => decide (x ∈ b)).length < a.length ∧ (a.filter fun x => decide (x ∈ b)).length < b.length then some (a.filter fun x => !decide (x ∈ b)) else none)
      by_cases q1 : (a.filter fun x => decide (x ∈ b)).length < a.length
      · by_cases q2 : (a.filter fun x => decide (x ∈ b)).length < b.length
        · rw [if_neg (fun z => z.elim (fun z => e1.mp z q1) fun z => e2.mp z q2), if_pos ⟨q1, q2⟩]
          show ml cs a - (ml cs a &&& ml cs b) = ml cs _
          have s := msk_sub (p := fun x => decide (x ∈ a)) (q := fun x => decide (x ∈ a.filter fun x => decide (x ∈ b))) (l := cs) fun x _ h => by
            rw [decide_eq_true_eq] at h ⊢
            exact (List.mem_filter.mp h).1
          have s2 : (msk cs fun x => decide (x ∈ a) && !decide (x ∈ a.filter fun x => decide (x ∈ b))) = ml cs (a.filter fun x => !decide (x ∈ b)) := msk_ext fun x _ => by
            by_cases u : x ∈ a <;> by_cases v : x ∈ b <;> simp [u, v, List.mem_filter]
          rw [hand]
          unfold ml at s2 ⊢
          omega
        · rw [if_pos (Or.inr (e2.mpr q2)), if_neg (fun z => q2 z.2)]; rfl
      · rw [if_pos (Or.inl (e1.mpr q1)), if_neg (fun z => q1 z.1)]; rfl
end K24

set_option autoImplicit true
set_option Elab.async false
set_option linter.all false
set_option maxRecDepth 100000
set_option exponentiation.threshold 10000
set_option maxHeartbeats 4000000
namespace K24
open PySem Ed
local macro_rules | `(tactic| simp? only [$hs,*]) => `(tactic| simp (implicitDefEqProofs := false) only [kR_s, eC_ap, eN_ap, kN_s, pN_ap, kP_s, kpE_ok, kpE_ex, pE_ap, kU2_s, kU_ok, kU_ex, eU_ap, kB3_s, kB2_ok, kB2_ex, kB1_ok, kB1_ex, eB_ap, kF2_s, kF_ok, kF_ex, eF_ap, aNil_ap, lNil_ap, kA2_ok, kA2_ex, kA1_ok, kA1_ex, aCons_ap, kL2_ok, kL2_ex, kL1_ok, kL1_ex, lCons_ap, kSz_t, kTp_ok, kTp_ex, kLs_ok, kLs_ex, eTup_ap, nLst_ap, kIf_t, kIf_f, kIf_ex, tC_ap, eAnd_ap, eOr_ap, eNot_ap, eIf_ap, sIf_ap, kE2_b, kE_ok, kE_ex, tE_ap, kT3_s, kT2_s, kT_ok, kT_ex, tTru_ap, tru_int, tru_bl, tru_lst, tru_tup, tru_non, tYs_ap, eCB_ap, eAndV_ap, eOrV_ap, eNotV_ap, kCh4_s, kCh3_ok, kCh3_ex, kCh2_t, kCh2_f, kCh1_s, kCh0_ok, kCh0_ex, kCh_ok, kCh_ex, eChain_ap, callF_ap, kCp_s, kC_ok, kC_ex, kCd_ok, kCd_ex, kFr2_r, kFr_ok, kFr_ex, kC1_ok, kC1_ex, eCall_ap, kC2_ok, kC2_ex, nCall_ap, dfz, dfr, prep0, pK_s, prep_d, prep_t, pKt_s, prep_f, pKf_s, mkF_ap, kMk_ok, kMk_ex, kFl_ok, kFl_ex, eFld_ap, fld_s, kO2_s, kO1_ok, kO1_ex, kO0_ok, kO0_ex, eOwn2_ap, kOC3_s, kOC2_ok, kOC2_ex, kOC1_s, kOC0_ok, kOC0_ex, eOwnC_ap, kM2_ok, kM2_ex, kM1_s, kM0_ok, kM0_ex, eMeth_ap, eJs_nil, kJz_t, kJ2_s, kJ_ok, kJ_ex, eJs_cons, kSl4_s, kSl3_s, kSl2_s, kSl1_s, eSl_ap, oP_n, kOp2_s, kOp_s, oP_s, kLc2_s, kLc1_t, kLc_ok, eLc_ap, kIs2_s, kIs_ok, iSeq_ap, it_l, it_t, kIn_s, iN_ap, kRg_ok, iRg1_ap, kRh2_ok, kRh1_ok, iRg2_ap, sNext_ap, sBrk_ap, sCnt_ap, sRetN_ap, kS_nx, kS_rt, kS_bk, kS_ct, kS_ex, sSeq_ap, kSet_ok, kSet_ex, sSet_ap, kOwn_ok, kOwn_ex, sOwn_ap, kDrp_ok, kDrp_ex, sDrop_ap, kRet_ok, kRet_ex, sRet_ap, kReO_ok, kReO_ex, sRetO_ap, sRetX_ap, kRx_o, kRx_v, kAp3_t, kAp2_o, kAp1_ok, kAp0_s, sApp_ap, kPi4_s, kPi3_s, kPi2_ok, kPi1_s, kPi0_ok, sPutI_ap, kPr2_ok, kPr1_ok, sPar_ap, kAs2_s, kAs_ok, sAsg_ap, gN_ap, gT_t, gT_l, gs_nil, kGs_s, gs_cons, kFor_ok, sFor_ap, sWhl_ap, kFd_ok, sFld_ap, kRs_ok, sRaise_ap, kSu_ok, kTr3_t, kTr2_t, kTr2_f, kTr_ok, kTr_ex, sTry_ap, kIE2_s, kIE_s, eIsE_ap, kXf_s, eXf_ap, fin_nx, fin_rt, fin_ex, finI_ex, kFi_s, finI_nx, app_nil, app_cons, ins0_nil, ins0_cons, inSl_f, inSl_l, inSl_i, inSl_b, inSl_s, inSl_n, inSl_t, inSl_c, inSl_o, pad_0, pad_1, get_0, get_1, put_0, put_1, look_v, look_o, look_b, frz_v, frz_o, stay_v, stay_o, stay_b, rd_d, rd_n, rds_nil, kRd_s, rds_cons, wipe_nil, wipe_cons, rest_nil, rest_cons, all_nil, all_cons, stb_e, stb_v, stb_b, noX_nil, noX_e, noX_v, noX_o, noX_b, true_and', tbl_ap, putFd_nil, putFd_cons, dAdd_i, dSub_i, dNeg_i, dLt_i, dLe_i, dGt_i, dGe_i, dEq_i, dNe_i, dEq_b, dNe_b, dEq_s, dNe_s, o1_ap, dAbs_i, dInt_i, dInt_b, dBool_i, dLen_l, dLen_t, dLen_c, dIx_l, dIx_t, dIx_c, at_0, at_1, at_2, at_3, isT_ii, isT_bi, isT_bb, isT_ss, isT_ll, isT_tt, isB2_i, map_s, dRev_l, dTup_l, dTup_t, dLst_l, dLst_t, dCut_l, dCutL_l, dGcd_i, isB_b, isS_s, mul_r, mul_l, dDiv_r, dMod_i, kGb_s, kGe_s,   decide_true, decide_false, Bool.not_true, Bool.not_false, Bool.and_true, Bool.and_false, Bool.false_and, if_true, if_false, ite_true, ite_false, Bool.false_eq_true, List.lookup_cons, List.lookup_nil, List.length_cons, List.length_nil, Nat.reduceBEq, Nat.reduceLT, Nat.reduceLeDiff, Nat.zero_le, seqMax, List.length_map, Nat.reduceAdd, Nat.reduceEqDiff, Nat.reducePow, Int.reduceNe, Int.reduceEq, Int.reduceLT, Int.reduceLE, Int.reduceBEq, Int.reduceNeg, Int.natAbs_neg, ne_eq, not_true, not_false_eq_true, and_self, true_and, and_true, beq_self_eq_true, turn_ap, kTn1_s, kTn2_t, kTn2_f, kTn2_p, kTn2_n, kTn3_ok, dIn_sl, dIn_st, dNin_sl, dNin_st, dIn_il, dNin_il, kSg2_s, kSg_ok, iSgn_ap, kED_s, eIsED_ap, kX2_s, kX1_ok, kX1_ex, kX0_ok, kX0_ex, eOwnX_ap, kBT4_s, kBT3_ok, kBT3_ex, kBT1_ok, kBT1_ex, eBMT_ap, dIsN_n, dIsN_l, dIsN_t, dIsN_i, dIsN_s, dNotN_n, dNotN_l, dNotN_t, dNotN_i, dNotN_s, dBAnd_i, dBOr_i, dMin2_i, dMax2_i, dCut_t, dCut_c, dCut_l2, Int.cast_ofNat_Int, at_4, at_5, at_6, at_7, at_8, at_9, at_10, at_11, at_12, at_13, $hs,*])
theorem is_pair (fu : Nat) (st : Stp) : F_is_pair_step fu [enc st] = .ok (.fz (.bl (match st with | .pr _ _ _ => true | _ => false))) := by
  have e3 : ∀ s : Str, dIn (.str s) (.tup [.str "both", .str "either", .str "first"]) = some (.bl (decide (s ∈ (["both", "either", "first"] : List Str)))) := fun s => dIn_st (xs := ["both", "either", "first"])
  unfold F_is_pair_step sv_is_pair_step enc
  cases st with
  | all =>
    rw [runF_ap rfl]
    apply fin_of
    try simp only [app_nil, app_cons, ins0_nil, ins0_cons, inSl_f, inSl_l, inSl_i, inSl_b, inSl_s, inSl_n, inSl_t, inSl_c, inSl_o, pad_0, pad_1]
    · simp? only [e3, show decide (("all" : Str) ∈ (["both", "either", "first"] : List Str)) = false by decide +kernel]
      rfl
    · rfl
  | one s =>
    rw [runF_ap rfl]
    apply fin_of
    try simp only [app_nil, app_cons, ins0_nil, ins0_cons, inSl_f, inSl_l, inSl_i, inSl_b, inSl_s, inSl_n, inSl_t, inSl_c, inSl_o, pad_0, pad_1]
    · simp? only [e3, show decide (("one" : Str) ∈ (["both", "either", "first"] : List Str)) = false by decide +kernel]
      rfl
    · rfl
  | row i =>
    rw [runF_ap rfl]
    apply fin_of
    try simp only [app_nil, app_cons, ins0_nil, ins0_cons, inSl_f, inSl_l, inSl_i, inSl_b, inSl_s, inSl_n, inSl_t, inSl_c, inSl_o, pad_0, pad_1]
    · simp? only [e3, show decide (("row" : Str) ∈ (["both", "either", "first"] : List Str)) = false by decide +kernel]
      rfl
    · rfl
  | pr w i j =>
    have h : decide (w.s ∈ (["both", "either", "first"] : List Str)) = true := by cases w <;> decide +kernel
    rw [runF_ap rfl]
    apply fin_of
    try simp only [app_nil, app_cons, ins0_nil, ins0_cons, inSl_f, inSl_l, inSl_i, inSl_b, inSl_s, inSl_n, inSl_t, inSl_c, inSl_o, pad_0, pad_1]
    · simp? only [e3, h]
      rfl
    · rfl
theorem isL_n {n : Nat} (h : n ≤ 1000) : isL (.int (n : Int)) = true := by
  unfold isL
  dsimp only
  rw [decide_eq_true (show 0 ≤ (n : Int) by omega), decide_eq_true (show (n : Int) < 2 ^ 62 by omega)]; rfl
theorem dEq_n0 {a : Nat} : dEq (.int (a : Int)) (.int 0) = some (.bl (decide (a = 0))) := by rw [dEq_i, beq_nat0]
/-- the mask of a step -/
theorem single_all (fu : Nat) {cs : List Str} {rows sets : List (List Str)} (hl : cs.length ≤ 12) : F_single_mask fu [tb cs rows, .tup [.str "all"]] = .ok (.fz (.int (optN cs (made cs rows sets .all) : Nat))) := by
  have e := full_ok fu hl
  have e2 : (2 ^ cs.length - 1) = optN cs (made cs rows sets .all) := by
    show _ = optN cs (if cs = [] then none else some cs)
    by_cases h : cs = []
    · subst h; rfl
    · rw [if_neg h]
      show _ = ml cs cs
      rw [← msk_all cs]
      exact msk_ext fun x hx => by simp [hx]
  rw [e2] at e
  unfold F_single_mask sv_single_mask tb
  rw [runF_ap rfl]
  apply fin_of
  try simp only [app_nil, app_cons, ins0_nil, ins0_cons, inSl_f, inSl_l, inSl_i, inSl_b, inSl_s, inSl_n, inSl_t, inSl_c, inSl_o, pad_0, pad_1]
  · apply seq_rt
    · simp? only [e]
      rfl
    rfl
  · rfl
theorem single_one (fu : Nat) {cs : List Str} {rows sets : List (List Str)} {s : Str} (hl : cs.length ≤ 12) : F_single_mask fu [tb cs rows, .tup [.str "one", .str s]] = .ok (.fz (.int (optN cs (made cs rows sets (.one s)) : Nat))) := by
  have e := mask_l fu (cs := cs) (ns := [s]) hl
  have e2 : (msk cs fun x => decide (x ∈ [s])) = optN cs (made cs rows sets (.one s)) := by
    show ml cs [s] = optN cs (if s ∈ cs then some [s] else none)
    by_cases h : s ∈ cs
    · rw [if_pos h]; rfl
    · rw [if_neg h]
      show _ = 0
      unfold ml
      rw [msk_zero]
      intro x hx
      rw [decide_eq_false]
      intro z
      rw [List.mem_singleton.mp z] at hx
      exact h hx
  rw [e2] at e
  unfold F_single_mask sv_single_mask tb
  rw [runF_ap rfl]
  apply fin_of
  try simp only [app_nil, app_cons, ins0_nil, ins0_cons, inSl_f, inSl_l, inSl_i, inSl_b, inSl_s, inSl_n, inSl_t, inSl_c, inSl_o, pad_0, pad_1]
  · apply seq_nx
    · simp? only [w_one_all]
      rfl
    apply seq_rt
    · simp? only [show F_mask_of fu [sT cs, .lst [.str s]] = _ from e]
      rfl
    rfl
  · rfl
theorem single_row (fu : Nat) {cs : List Str} {rows sets : List (List Str)} {i : Int} (hl : cs.length ≤ 12) (hr : rows.length ≤ 1000) : F_single_mask fu [tb cs rows, .tup [.str "row", .int i]] = .ok (.fz (.int (optN cs (made cs rows sets (.row i)) : Nat))) := by
  have tl := table_len fu (cs := cs) (rows := rows)
  have hL := isL_n hr
  have hm : made cs rows sets (.row i) = if inR i rows.length then (if srt cs (rows.getD i.toNat []) = [] then none else some (srt cs (rows.getD i.toNat []))) else none := rfl
  rw [hm]
  unfold F_single_mask sv_single_mask
  by_cases h0 : 0 ≤ i
  · by_cases h1 : i < rows.length
    · have g := table_get fu (cs := cs) (rows := rows) h0 h1
      have e := mask_t fu (cs := cs) (ns := srt cs (rows.getD i.toNat [])) hl
      have e2 : (msk cs fun x => decide (x ∈ srt cs (rows.getD i.toNat []))) = optN cs (if inR i rows.length then (if srt cs (rows.getD i.toNat []) = [] then none else some (srt cs (rows.getD i.toNat []))) else none) := by
        rw [if_pos (show inR i rows.length from ⟨h0, h1⟩)]
        show ml cs _ = _
        by_cases h : srt cs (rows.getD i.toNat []) = []
        · rw [if_pos h, ml_srt]; exact ml_zero.mpr h
        · rw [if_neg h]; rfl
      rw [e2] at e
      unfold tb at tl g ⊢
      rw [runF_ap rfl]
      apply fin_of
      try simp only [app_nil, app_cons, ins0_nil, ins0_cons, inSl_f, inSl_l, inSl_i, inSl_b, inSl_s, inSl_n, inSl_t, inSl_c, inSl_o, pad_0, pad_1]
      · apply seq_nx
        · simp? only [w_row_all]
          rfl
        apply seq_nx
        · simp? only [w_row_one]
          rfl
        apply seq_rt
        · simp? only [tl, h0, h1, hL, g, e]
          rfl
        rfl
      · rfl
    · rw [if_neg (fun z : inR i rows.length => h1 z.2)]
      unfold tb at tl ⊢
      rw [runF_ap rfl]
      apply fin_of
      try simp only [app_nil, app_cons, ins0_nil, ins0_cons, inSl_f, inSl_l, inSl_i, inSl_b, inSl_s, inSl_n, inSl_t, inSl_c, inSl_o, pad_0, pad_1]
      · apply seq_nx
        · simp? only [w_row_all]
          rfl
        apply seq_nx
        · simp? only [w_row_one]
          rfl
        apply seq_nx
        · simp? only [tl, h0, h1, hL]
          rfl
        simp? only []
        rfl
      · rfl
  · rw [if_neg (fun z : inR i rows.length => h0 z.1)]
    unfold tb
    rw [runF_ap rfl]
    apply fin_of
    try simp only [app_nil, app_cons, ins0_nil, ins0_cons, inSl_f, inSl_l, inSl_i, inSl_b, inSl_s, inSl_n, inSl_t, inSl_c, inSl_o, pad_0, pad_1]
    · apply seq_nx
      · simp? only [w_row_all]
        rfl
      apply seq_nx
      · simp? only [w_row_one]
        rfl
      apply seq_nx
      · simp? only [h0]
        rfl
      simp? only []
      rfl
    · rfl
theorem inR_a {i : Int} {n : Nat} (h : inR i n) : (0 ≤ i) = True ∧ (i < (n : Int)) = True := ⟨eq_true h.1, eq_true h.2⟩
theorem sm_pair (fu : Nat) {cs : List Str} {rows sets : List (List Str)} {w : W3} {i j : Int} (hl : cs.length ≤ 12) (hs : ∀ l ∈ sets, Set1 cs l) : F_step_mask fu [tb cs rows, iL (sets.map fun l => (ml cs l : Int)), .tup [.str w.s, .int i, .int j]] = .ok (.fz (.int (optN cs (made cs rows sets (.pr w i j)) : Nat))) := by
  have ip : F_is_pair_step fu [.tup [.str w.s, .int i, .int j]] = .ok (.fz (.bl true)) := is_pair fu (.pr w i j)
  have hm : made cs rows sets (.pr w i j) = if inR i sets.length ∧ inR j sets.length then pairMade cs (sets.getD i.toNat []) (sets.getD j.toNat []) w else none := rfl
  have nr : ∀ k : Int, ¬ inR k sets.length → 0 ≤ k → ¬ k < sets.length := fun k h h0 h1 => h ⟨h0, h1⟩
  unfold F_step_mask sv_step_mask tb
  by_cases h1 : inR i sets.length
  · by_cases h2 : inR j sets.length
    · rw [hm, if_pos ⟨h1, h2⟩]
      have a1 := at_map (f := fun l => D.int (ml cs l : Int)) (l := sets) (k := i) [] h1.1 h1.2
      have a2 := at_map (f := fun l => D.int (ml cs l : Int)) (l := sets) (k := j) [] h2.1 h2.2
      have hla := hs _ (getD_mem (l := sets) (k := i.toNat) (d := []) (by have := h1.1; have := h1.2; omega))
      have hlb := hs _ (getD_mem (l := sets) (k := j.toNat) (d := []) (by have := h2.1; have := h2.2; omega))
      have pm := pair_mask_ok fu w (ml cs (sets.getD i.toNat [])) (ml cs (sets.getD j.toNat []))
      rw [pm_made hla hlb w] at pm
      have em : (List.map D.int (sets.map fun l => (ml cs l : Int))) = sets.map fun l => D.int (ml cs l : Int) := by rw [List.map_map]; rfl
      unfold iL
      rw [em]
      rw [runF_ap rfl]
      apply fin_of
      try simp only [app_nil, app_cons, ins0_nil, ins0_cons, inSl_f, inSl_l, inSl_i, inSl_b, inSl_s, inSl_n, inSl_t, inSl_c, inSl_o, pad_0, pad_1]
      · apply seq_nx
        · simp? only [ip]
          rfl
        apply seq_nx
        · simp? only [h1.1, h1.2, h2.1, h2.2]
          rfl
        simp? only [a1, a2, pm]
        rfl
      · rfl
    · rw [hm, if_neg (fun z => h2 z.2)]
      by_cases h0 : 0 ≤ j
      · rw [runF_ap rfl]
        apply fin_of
        try simp only [app_nil, app_cons, ins0_nil, ins0_cons, inSl_f, inSl_l, inSl_i, inSl_b, inSl_s, inSl_n, inSl_t, inSl_c, inSl_o, pad_0, pad_1]
        · apply seq_nx
          · simp? only [ip]
            rfl
          apply seq_rt
          · simp? only [h1.1, h1.2, h0, nr j h2 h0]
            rfl
          rfl
        · rfl
      · rw [runF_ap rfl]
        apply fin_of
        try simp only [app_nil, app_cons, ins0_nil, ins0_cons, inSl_f, inSl_l, inSl_i, inSl_b, inSl_s, inSl_n, inSl_t, inSl_c, inSl_o, pad_0, pad_1]
        · apply seq_nx
          · simp? only [ip]
            rfl
          apply seq_rt
          · simp? only [h1.1, h1.2, h0]
            rfl
          rfl
        · rfl
  · rw [hm, if_neg (fun z => h1 z.1)]
    by_cases h0 : 0 ≤ i
    · rw [runF_ap rfl]
      apply fin_of
      try simp only [app_nil, app_cons, ins0_nil, ins0_cons, inSl_f, inSl_l, inSl_i, inSl_b, inSl_s, inSl_n, inSl_t, inSl_c, inSl_o, pad_0, pad_1]
      · apply seq_nx
        · simp? only [ip]
          rfl
        apply seq_rt
        · simp? only [h0, nr i h1 h0]
          rfl
        rfl
      · rfl
    · rw [runF_ap rfl]
      apply fin_of
      try simp only [app_nil, app_cons, ins0_nil, ins0_cons, inSl_f, inSl_l, inSl_i, inSl_b, inSl_s, inSl_n, inSl_t, inSl_c, inSl_o, pad_0, pad_1]
      · apply seq_nx
        · simp? only [ip]
          rfl
        apply seq_rt
        · simp? only [h0]
          rfl
        rfl
      · rfl
theorem step_mask_ok (fu : Nat) {cs : List Str} {rows sets : List (List Str)} (st : Stp) (hl : cs.length ≤ 12) (hr : rows.length ≤ 1000) (hs : ∀ l ∈ sets, Set1 cs l) : F_step_mask fu [tb cs rows, iL (sets.map fun l => (ml cs l : Int)), enc st] = .ok (.fz (.int (optN cs (made cs rows sets st) : Nat))) := by
  cases st with
  | all =>
    have ip : F_is_pair_step fu [.tup [.str "all"]] = .ok (.fz (.bl false)) := is_pair fu .all
    have sm := single_all fu (cs := cs) (rows := rows) (sets := sets) hl
    unfold F_step_mask sv_step_mask enc
    unfold tb at sm ⊢
    rw [runF_ap rfl]
    apply fin_of
    try simp only [app_nil, app_cons, ins0_nil, ins0_cons, inSl_f, inSl_l, inSl_i, inSl_b, inSl_s, inSl_n, inSl_t, inSl_c, inSl_o, pad_0, pad_1]
    · apply seq_rt
      · simp? only [ip, sm]
        rfl
      rfl
    · rfl
  | one s =>
    have ip : F_is_pair_step fu [.tup [.str "one", .str s]] = .ok (.fz (.bl false)) := is_pair fu (.one s)
    have sm := single_one fu (cs := cs) (rows := rows) (sets := sets) (s := s) hl
    unfold F_step_mask sv_step_mask enc
    unfold tb at sm ⊢
    rw [runF_ap rfl]
    apply fin_of
    try simp only [app_nil, app_cons, ins0_nil, ins0_cons, inSl_f, inSl_l, inSl_i, inSl_b, inSl_s, inSl_n, inSl_t, inSl_c, inSl_o, pad_0, pad_1]
    · apply seq_rt
      · simp? only [ip, sm]
        rfl
      rfl
    · rfl
  | row i =>
    have ip : F_is_pair_step fu [.tup [.str "row", .int i]] = .ok (.fz (.bl false)) := is_pair fu (.row i)
    have sm := single_row fu (cs := cs) (rows := rows) (sets := sets) (i := i) hl hr
    unfold F_step_mask sv_step_mask enc
    unfold tb at sm ⊢
    rw [runF_ap rfl]
    apply fin_of
    try simp only [app_nil, app_cons, ins0_nil, ins0_cons, inSl_f, inSl_l, inSl_i, inSl_b, inSl_s, inSl_n, inSl_t, inSl_c, inSl_o, pad_0, pad_1]
    · apply seq_rt
      · simp? only [ip, sm]
        rfl
      rfl
    · rfl
  | pr w i j => exact sm_pair fu hl hs
end K24

set_option autoImplicit true
set_option Elab.async false
set_option linter.all false
set_option maxRecDepth 100000
set_option exponentiation.threshold 10000
set_option maxHeartbeats 4000000
namespace K24
open PySem Ed
local macro_rules | `(tactic| simp? only [$hs,*]) => `(tactic| simp (implicitDefEqProofs := false) only [kR_s, eC_ap, eN_ap, kN_s, pN_ap, kP_s, kpE_ok, kpE_ex, pE_ap, kU2_s, kU_ok, kU_ex, eU_ap, kB3_s, kB2_ok, kB2_ex, kB1_ok, kB1_ex, eB_ap, kF2_s, kF_ok, kF_ex, eF_ap, aNil_ap, lNil_ap, kA2_ok, kA2_ex, kA1_ok, kA1_ex, aCons_ap, kL2_ok, kL2_ex, kL1_ok, kL1_ex, lCons_ap, kSz_t, kTp_ok, kTp_ex, kLs_ok, kLs_ex, eTup_ap, nLst_ap, kIf_t, kIf_f, kIf_ex, tC_ap, eAnd_ap, eOr_ap, eNot_ap, eIf_ap, sIf_ap, kE2_b, kE_ok, kE_ex, tE_ap, kT3_s, kT2_s, kT_ok, kT_ex, tTru_ap, tru_int, tru_bl, tru_lst, tru_tup, tru_non, tYs_ap, eCB_ap, eAndV_ap, eOrV_ap, eNotV_ap, kCh4_s, kCh3_ok, kCh3_ex, kCh2_t, kCh2_f, kCh1_s, kCh0_ok, kCh0_ex, kCh_ok, kCh_ex, eChain_ap, callF_ap, kCp_s, kC_ok, kC_ex, kCd_ok, kCd_ex, kFr2_r, kFr_ok, kFr_ex, kC1_ok, kC1_ex, eCall_ap, kC2_ok, kC2_ex, nCall_ap, dfz, dfr, prep0, pK_s, prep_d, prep_t, pKt_s, prep_f, pKf_s, mkF_ap, kMk_ok, kMk_ex, kFl_ok, kFl_ex, eFld_ap, fld_s, kO2_s, kO1_ok, kO1_ex, kO0_ok, kO0_ex, eOwn2_ap, kOC3_s, kOC2_ok, kOC2_ex, kOC1_s, kOC0_ok, kOC0_ex, eOwnC_ap, kM2_ok, kM2_ex, kM1_s, kM0_ok, kM0_ex, eMeth_ap, eJs_nil, kJz_t, kJ2_s, kJ_ok, kJ_ex, eJs_cons, kSl4_s, kSl3_s, kSl2_s, kSl1_s, eSl_ap, oP_n, kOp2_s, kOp_s, oP_s, kLc2_s, kLc1_t, kLc_ok, eLc_ap, kIs2_s, kIs_ok, iSeq_ap, it_l, it_t, kIn_s, iN_ap, kRg_ok, iRg1_ap, kRh2_ok, kRh1_ok, iRg2_ap, sNext_ap, sBrk_ap, sCnt_ap, sRetN_ap, kS_nx, kS_rt, kS_bk, kS_ct, kS_ex, sSeq_ap, kSet_ok, kSet_ex, sSet_ap, kOwn_ok, kOwn_ex, sOwn_ap, kDrp_ok, kDrp_ex, sDrop_ap, kRet_ok, kRet_ex, sRet_ap, kReO_ok, kReO_ex, sRetO_ap, sRetX_ap, kRx_o, kRx_v, kAp3_t, kAp2_o, kAp1_ok, kAp0_s, sApp_ap, kPi4_s, kPi3_s, kPi2_ok, kPi1_s, kPi0_ok, sPutI_ap, kPr2_ok, kPr1_ok, sPar_ap, kAs2_s, kAs_ok, sAsg_ap, gN_ap, gT_t, gT_l, gs_nil, kGs_s, gs_cons, kFor_ok, sFor_ap, sWhl_ap, kFd_ok, sFld_ap, kRs_ok, sRaise_ap, kSu_ok, kTr3_t, kTr2_t, kTr2_f, kTr_ok, kTr_ex, sTry_ap, kIE2_s, kIE_s, eIsE_ap, kXf_s, eXf_ap, fin_nx, fin_rt, fin_ex, finI_ex, kFi_s, finI_nx, app_nil, app_cons, ins0_nil, ins0_cons, inSl_f, inSl_l, inSl_i, inSl_b, inSl_s, inSl_n, inSl_t, inSl_c, inSl_o, pad_0, pad_1, get_0, get_1, put_0, put_1, look_v, look_o, look_b, frz_v, frz_o, stay_v, stay_o, stay_b, rd_d, rd_n, rds_nil, kRd_s, rds_cons, wipe_nil, wipe_cons, rest_nil, rest_cons, all_nil, all_cons, stb_e, stb_v, stb_b, noX_nil, noX_e, noX_v, noX_o, noX_b, true_and', tbl_ap, putFd_nil, putFd_cons, dAdd_i, dSub_i, dNeg_i, dLt_i, dLe_i, dGt_i, dGe_i, dEq_i, dNe_i, dEq_b, dNe_b, dEq_s, dNe_s, o1_ap, dAbs_i, dInt_i, dInt_b, dBool_i, dLen_l, dLen_t, dLen_c, dIx_l, dIx_t, dIx_c, at_0, at_1, at_2, at_3, isT_ii, isT_bi, isT_bb, isT_ss, isT_ll, isT_tt, isB2_i, map_s, dRev_l, dTup_l, dTup_t, dLst_l, dLst_t, dCut_l, dCutL_l, dGcd_i, isB_b, isS_s, mul_r, mul_l, dDiv_r, dMod_i, kGb_s, kGe_s,   decide_true, decide_false, Bool.not_true, Bool.not_false, Bool.and_true, Bool.and_false, Bool.false_and, if_true, if_false, ite_true, ite_false, Bool.false_eq_true, List.lookup_cons, List.lookup_nil, List.length_cons, List.length_nil, Nat.reduceBEq, Nat.reduceLT, Nat.reduceLeDiff, Nat.zero_le, seqMax, List.length_map, Nat.reduceAdd, Nat.reduceEqDiff, Nat.reducePow, Int.reduceNe, Int.reduceEq, Int.reduceLT, Int.reduceLE, Int.reduceBEq, Int.reduceNeg, Int.natAbs_neg, ne_eq, not_true, not_false_eq_true, and_self, true_and, and_true, beq_self_eq_true, turn_ap, kTn1_s, kTn2_t, kTn2_f, kTn2_p, kTn2_n, kTn3_ok, dIn_sl, dIn_st, dNin_sl, dNin_st, dIn_il, dNin_il, kSg2_s, kSg_ok, iSgn_ap, kED_s, eIsED_ap, kX2_s, kX1_ok, kX1_ex, kX0_ok, kX0_ex, eOwnX_ap, kBT4_s, kBT3_ok, kBT3_ex, kBT1_ok, kBT1_ex, eBMT_ap, dIsN_n, dIsN_l, dIsN_t, dIsN_i, dIsN_s, dNotN_n, dNotN_l, dNotN_t, dNotN_i, dNotN_s, dBAnd_i, dBOr_i, dMin2_i, dMax2_i, dCut_t, dCut_c, dCut_l2, Int.cast_ofNat_Int, at_4, at_5, at_6, at_7, at_8, at_9, at_10, at_11, at_12, at_13, $hs,*])
def Chain (cs : List Str) (rows : List (List Str)) (good : List Stp) (sets : List (List Str)) : Prop := good.length = sets.length ∧ ∀ (k : Nat) st l, good[k]? = some st → sets[k]? = some l → made cs rows (sets.take k) st = some l ∧ Set1 cs l
theorem Chain.set {cs : List Str} {rows : List (List Str)} {good : List Stp} {sets : List (List Str)} (h : Chain cs rows good sets) : ∀ l ∈ sets, Set1 cs l := fun l hl => by
  obtain ⟨k, hk, rfl⟩ := List.mem_iff_getElem.mp hl
  have hg : k < good.length := by rw [h.1]; exact hk
  exact (h.2 k good[k] _ (by simp) (by simp)).2
abbrev mL (cs : List Str) (sets : List (List Str)) : D := iL (sets.map fun l => (ml cs l : Int))
def FolI (cs : List Str) (rows sets : List (List Str)) (s : Sl) (i : Nat) (Γ : Ed.Env) : Prop := i ≤ sets.length ∧ ∃ j3 j4, stb j4 = true ∧ Γ = [.val (tb cs rows), s, .own (mL cs (sets.take i)), j3, j4]
theorem fol_step (fu : Nat) {cs : List Str} {rows : List (List Str)} {good : List Stp} {sets : List (List Str)} (hl : cs.length ≤ 12) (hr : rows.length ≤ 1000) (hs : sets.length ≤ 1000) (C : Chain cs rows good sets) {s : Sl} {w : D} (hw : look s = some w) (hx : ∀ (k : Nat) st, good[k]? = some st → dIx w (.int k) = some (enc st)) {i : Nat} {Γ : Ed.Env} (hi : i < sets.length) (h : FolI cs rows sets s i Γ) : ∃ Γ2, kGb (lb_follow_0 fu) (gN 3 (.int (0 + (i : Int))) Γ) = .ok (.nx, Γ2) ∧ FolI cs rows sets s (i + 1) Γ2 := by
  obtain ⟨_, j3, j4, _, rfl⟩ := h
  have zi : (0 : Int) + (i : Int) = i := by omega
  have hg : i < good.length := by rw [C.1]; exact hi
  obtain ⟨hm, h1⟩ := C.2 i good[i] sets[i] (by simp) (by simp)
  have sm := step_mask_ok fu (rows := rows) (sets := sets.take i) good[i] hl hr (fun l hl' => C.set l (List.mem_of_mem_take hl'))
  rw [hm] at sm
  have sm : F_step_mask fu [tb cs rows, mL cs (sets.take i), enc good[i]] = .ok (.fz (.int (ml cs sets[i] : Nat))) := sm
  have hd := hx i good[i] (by simp)
  have hz : ((ml cs sets[i] : Int) == 0) = false := by rw [beq_nat0]; exact decide_eq_false (ml_pos h1)
  have hln : (sets.take i).length < 16777216 := by rw [List.length_take]; omega
  refine' ⟨_, ?_, ?_⟩
  rotate_left
  · unfold lb_follow_0
    unfold tb at sm ⊢
    apply gb_of
    · rfl
    try simp only [put_0, put_1]
    rw [zi]
    apply seq_nx
    · simp? only [hw, hd, sm]
      rfl
    apply seq_nx
    · simp? only [hz]
      rfl
    simp? only [hln]
    rfl
  · refine ⟨by omega, .val (.int i), .val (.int (ml cs sets[i] : Nat)), rfl, ?_⟩
    have gx : sets[i]? = some sets[i] := by simp
    rw [take_s gx]
    unfold mL iL
    rw [List.map_append, List.map_append]
    rfl
theorem fol_comp (fu : Nat) {cs : List Str} {rows sets : List (List Str)} {s : Sl} {j : Sl} (hl : cs.length ≤ 12) (hs : sets.length ≤ 1000) (h : ∀ l ∈ sets, Set1 cs l) : lcL (gN 4) tYs (el_follow_1 fu) [4] ((sets.map fun l => (ml cs l : Int)).map D.int) [.val (tb cs rows), s, .val (mL cs sets), j, .emp] 0 = some (sets.map sT, [.val (tb cs rows), s, .val (mL cs sets), j, .emp]) := by
  rw [List.map_map]
  refine lcL_a (f := D.int ∘ fun l => (ml cs l : Int)) (u := sT) sets (fun l hl' => ?_) (n := 0) (by show 0 + sets.length ≤ 16777216; omega)
  have e := names_of_ok fu (cs := cs) (fun x => decide (x ∈ l)) hl
  have e2 : (cs.filter fun x => decide (x ∈ l)) = l := (h l hl').1
  rw [e2] at e
  have e : F_names_of fu [sT cs, .int (ml cs l : Nat)] = .ok (.fz (sT l)) := e
  unfold el_follow_1 tb
  simp? only [Function.comp_def, e]
theorem follow_good (fu : Nat) {cs : List Str} {rows : List (List Str)} {good : List Stp} {sets : List (List Str)} (hl : cs.length ≤ 12) (hr : rows.length ≤ 1000) (hs : sets.length ≤ 1000) (C : Chain cs rows good sets) {w : D} (hw : w = .lst (good.map enc) ∨ w = .tup (good.map enc)) : F_follow fu [tb cs rows, w] = .ok (.fr (.lst (sets.map sT))) := by
  have tn : ((good.length : Int)).toNat = sets.length := by rw [C.1]; omega
  have key : ∀ s : Sl, look s = some w → ∃ j3 j4, stb j4 = true ∧ forL (gN 3) (lb_follow_0 fu) (rngL 0 sets.length) [.val (tb cs rows), s, .own (.lst []), .emp, .emp] = .ok (.nx, [.val (tb cs rows), s, .own (mL cs sets), j3, j4]) := fun s hsl => by
    have h00 : FolI cs rows sets s 0 [.val (tb cs rows), s, .own (.lst []), .emp, .emp] := ⟨by omega, _, _, rfl, rfl⟩
    obtain ⟨Γ', e, _, j3, j4, hst, rfl⟩ := forL_rm (g := gN 3) (s := lb_follow_0 fu) (lo := 0) (m := sets.length) h00 fun i Γ hi p => fol_step fu hl hr hs C hsl (fun k st hk => by
      rcases hw with rfl | rfl
      · exact at_mapn hk
      · exact at_mapn hk) hi p
    rw [List.take_length] at e
    exact ⟨j3, j4, hst, e⟩
  have hgl : good.length ≤ 1000 := by rw [C.1]; exact hs
  unfold F_follow sv_follow
  rcases hw with rfl | rfl
  · obtain ⟨j3, j4, hst, e⟩ := key (.bor (.lst (good.map enc))) rfl
    have fc := fol_comp fu (rows := rows) (s := .bor (.lst (good.map enc))) (j := j3) hl hs C.set
    unfold tb at e fc ⊢
    rw [runF_ap rfl]
    apply fin_of
    try simp only [app_nil, app_cons, ins0_nil, ins0_cons, inSl_f, inSl_l, inSl_i, inSl_b, inSl_s, inSl_n, inSl_t, inSl_c, inSl_o, pad_0, pad_1]
    · apply seq_nx
      · simp? only []
        rfl
      apply seq_nx
      · simp? only [kRg2_s (rngB_of (n := (good.length : Int)) (by omega) (by omega)), tn, e]
        rfl
      simp? only [hst, fc]
      rfl
    · rfl
  · obtain ⟨j3, j4, hst, e⟩ := key (.val (.tup (good.map enc))) rfl
    have fc := fol_comp fu (rows := rows) (s := .val (.tup (good.map enc))) (j := j3) hl hs C.set
    unfold tb at e fc ⊢
    rw [runF_ap rfl]
    apply fin_of
    try simp only [app_nil, app_cons, ins0_nil, ins0_cons, inSl_f, inSl_l, inSl_i, inSl_b, inSl_s, inSl_n, inSl_t, inSl_c, inSl_o, pad_0, pad_1]
    · apply seq_nx
      · simp? only []
        rfl
      apply seq_nx
      · simp? only [kRg2_s (rngB_of (n := (good.length : Int)) (by omega) (by omega)), tn, e]
        rfl
      simp? only [hst, fc]
      rfl
    · rfl
end K24

set_option autoImplicit true
set_option Elab.async false
set_option linter.all false
set_option maxRecDepth 100000
set_option exponentiation.threshold 10000
set_option maxHeartbeats 4000000
namespace K24
open PySem Ed
local macro_rules | `(tactic| simp? only [$hs,*]) => `(tactic| simp (implicitDefEqProofs := false) only [kR_s, eC_ap, eN_ap, kN_s, pN_ap, kP_s, kpE_ok, kpE_ex, pE_ap, kU2_s, kU_ok, kU_ex, eU_ap, kB3_s, kB2_ok, kB2_ex, kB1_ok, kB1_ex, eB_ap, kF2_s, kF_ok, kF_ex, eF_ap, aNil_ap, lNil_ap, kA2_ok, kA2_ex, kA1_ok, kA1_ex, aCons_ap, kL2_ok, kL2_ex, kL1_ok, kL1_ex, lCons_ap, kSz_t, kTp_ok, kTp_ex, kLs_ok, kLs_ex, eTup_ap, nLst_ap, kIf_t, kIf_f, kIf_ex, tC_ap, eAnd_ap, eOr_ap, eNot_ap, eIf_ap, sIf_ap, kE2_b, kE_ok, kE_ex, tE_ap, kT3_s, kT2_s, kT_ok, kT_ex, tTru_ap, tru_int, tru_bl, tru_lst, tru_tup, tru_non, tYs_ap, eCB_ap, eAndV_ap, eOrV_ap, eNotV_ap, kCh4_s, kCh3_ok, kCh3_ex, kCh2_t, kCh2_f, kCh1_s, kCh0_ok, kCh0_ex, kCh_ok, kCh_ex, eChain_ap, callF_ap, kCp_s, kC_ok, kC_ex, kCd_ok, kCd_ex, kFr2_r, kFr_ok, kFr_ex, kC1_ok, kC1_ex, eCall_ap, kC2_ok, kC2_ex, nCall_ap, dfz, dfr, prep0, pK_s, prep_d, prep_t, pKt_s, prep_f, pKf_s, mkF_ap, kMk_ok, kMk_ex, kFl_ok, kFl_ex, eFld_ap, fld_s, kO2_s, kO1_ok, kO1_ex, kO0_ok, kO0_ex, eOwn2_ap, kOC3_s, kOC2_ok, kOC2_ex, kOC1_s, kOC0_ok, kOC0_ex, eOwnC_ap, kM2_ok, kM2_ex, kM1_s, kM0_ok, kM0_ex, eMeth_ap, eJs_nil, kJz_t, kJ2_s, kJ_ok, kJ_ex, eJs_cons, kSl4_s, kSl3_s, kSl2_s, kSl1_s, eSl_ap, oP_n, kOp2_s, kOp_s, oP_s, kLc2_s, kLc1_t, kLc_ok, eLc_ap, kIs2_s, kIs_ok, iSeq_ap, it_l, it_t, kIn_s, iN_ap, kRg_ok, iRg1_ap, kRh2_ok, kRh1_ok, iRg2_ap, sNext_ap, sBrk_ap, sCnt_ap, sRetN_ap, kS_nx, kS_rt, kS_bk, kS_ct, kS_ex, sSeq_ap, kSet_ok, kSet_ex, sSet_ap, kOwn_ok, kOwn_ex, sOwn_ap, kDrp_ok, kDrp_ex, sDrop_ap, kRet_ok, kRet_ex, sRet_ap, kReO_ok, kReO_ex, sRetO_ap, sRetX_ap, kRx_o, kRx_v, kAp3_t, kAp2_o, kAp1_ok, kAp0_s, sApp_ap, kPi4_s, kPi3_s, kPi2_ok, kPi1_s, kPi0_ok, sPutI_ap, kPr2_ok, kPr1_ok, sPar_ap, kAs2_s, kAs_ok, sAsg_ap, gN_ap, gT_t, gT_l, gs_nil, kGs_s, gs_cons, kFor_ok, sFor_ap, sWhl_ap, kFd_ok, sFld_ap, kRs_ok, sRaise_ap, kSu_ok, kTr3_t, kTr2_t, kTr2_f, kTr_ok, kTr_ex, sTry_ap, kIE2_s, kIE_s, eIsE_ap, kXf_s, eXf_ap, fin_nx, fin_rt, fin_ex, finI_ex, kFi_s, finI_nx, app_nil, app_cons, ins0_nil, ins0_cons, inSl_f, inSl_l, inSl_i, inSl_b, inSl_s, inSl_n, inSl_t, inSl_c, inSl_o, pad_0, pad_1, get_0, get_1, put_0, put_1, look_v, look_o, look_b, frz_v, frz_o, stay_v, stay_o, stay_b, rd_d, rd_n, rds_nil, kRd_s, rds_cons, wipe_nil, wipe_cons, rest_nil, rest_cons, all_nil, all_cons, stb_e, stb_v, stb_b, noX_nil, noX_e, noX_v, noX_o, noX_b, true_and', tbl_ap, putFd_nil, putFd_cons, dAdd_i, dSub_i, dNeg_i, dLt_i, dLe_i, dGt_i, dGe_i, dEq_i, dNe_i, dEq_b, dNe_b, dEq_s, dNe_s, o1_ap, dAbs_i, dInt_i, dInt_b, dBool_i, dLen_l, dLen_t, dLen_c, dIx_l, dIx_t, dIx_c, at_0, at_1, at_2, at_3, isT_ii, isT_bi, isT_bb, isT_ss, isT_ll, isT_tt, isB2_i, map_s, dRev_l, dTup_l, dTup_t, dLst_l, dLst_t, dCut_l, dCutL_l, dGcd_i, isB_b, isS_s, mul_r, mul_l, dDiv_r, dMod_i, kGb_s, kGe_s,   decide_true, decide_false, Bool.not_true, Bool.not_false, Bool.and_true, Bool.and_false, Bool.false_and, if_true, if_false, ite_true, ite_false, Bool.false_eq_true, List.lookup_cons, List.lookup_nil, List.length_cons, List.length_nil, Nat.reduceBEq, Nat.reduceLT, Nat.reduceLeDiff, Nat.zero_le, seqMax, List.length_map, Nat.reduceAdd, Nat.reduceEqDiff, Nat.reducePow, Int.reduceNe, Int.reduceEq, Int.reduceLT, Int.reduceLE, Int.reduceBEq, Int.reduceNeg, Int.natAbs_neg, ne_eq, not_true, not_false_eq_true, and_self, true_and, and_true, beq_self_eq_true, turn_ap, kTn1_s, kTn2_t, kTn2_f, kTn2_p, kTn2_n, kTn3_ok, dIn_sl, dIn_st, dNin_sl, dNin_st, dIn_il, dNin_il, kSg2_s, kSg_ok, iSgn_ap, kED_s, eIsED_ap, kX2_s, kX1_ok, kX1_ex, kX0_ok, kX0_ex, eOwnX_ap, kBT4_s, kBT3_ok, kBT3_ex, kBT1_ok, kBT1_ex, eBMT_ap, dIsN_n, dIsN_l, dIsN_t, dIsN_i, dIsN_s, dNotN_n, dNotN_l, dNotN_t, dNotN_i, dNotN_s, dBAnd_i, dBOr_i, dMin2_i, dMax2_i, dCut_t, dCut_c, dCut_l2, Int.cast_ofNat_Int, at_4, at_5, at_6, at_7, at_8, at_9, at_10, at_11, at_12, at_13, $hs,*])
/-- a wrong step behind the good ones -/
theorem follow_bad (fu : Nat) {cs : List Str} {rows : List (List Str)} {good : List Stp} {sets : List (List Str)} {bad : Stp} {rest : List Stp} (hl : cs.length ≤ 12) (hr : rows.length ≤ 1000) (hs : sets.length ≤ 1000) (hq : rest.length ≤ 100) (C : Chain cs rows good sets) (hb : made cs rows sets bad = none) : F_follow fu [tb cs rows, .lst ((good ++ bad :: rest).map enc)] = .exc ⟨3, [(1, .int sets.length)]⟩ [] := by
  have hlen : (good ++ bad :: rest).length = sets.length + 1 + rest.length := by rw [List.length_append, List.length_cons, C.1]; omega
  have tn : (((good ++ bad :: rest).length : Int)).toNat = sets.length + 1 + rest.length := by rw [hlen]; omega
  have h00 : FolI cs rows sets (.bor (.lst ((good ++ bad :: rest).map enc))) 0 [.val (tb cs rows), .bor (.lst ((good ++ bad :: rest).map enc)), .own (.lst []), .emp, .emp] := ⟨by omega, _, _, rfl, rfl⟩
  have e : ∃ Γ, forL (gN 3) (lb_follow_0 fu) (rngL 0 (sets.length + 1 + rest.length)) [.val (tb cs rows), .bor (.lst ((good ++ bad :: rest).map enc)), .own (.lst []), .emp, .emp] = .exc ⟨3, [(1, .int sets.length)]⟩ Γ := by
    refine forL_rg (Z := fun r => ∃ Γ, r = .exc ⟨3, [(1, .int sets.length)]⟩ Γ) h00 (fun i Γ hi p => ?_) (fun Γ' p => ?_)
    · by_cases h : i < sets.length
      · exact .inl (fol_step fu hl hr hs C (w := .lst ((good ++ bad :: rest).map enc)) rfl (fun k st hk => at_mapn (by
          rw [List.getElem?_append_left (get_lt hk)]; exact hk)) h p)
      · right
        obtain ⟨h2, j3, j4, _, rfl⟩ := p
        have hi2 : i = sets.length := by omega
        subst hi2
        have zi : (0 : Int) + (sets.length : Int) = sets.length := by omega
        rw [List.take_length]
        have sm := step_mask_ok fu (rows := rows) (sets := sets) bad hl hr C.set
        rw [hb] at sm
        have sm : F_step_mask fu [tb cs rows, mL cs sets, enc bad] = .ok (.fz (.int 0)) := sm
        have hd : at1 ((good ++ bad :: rest).map enc) (sets.length : Int) = some (enc bad) := at_mapn (by
          rw [List.getElem?_append_right (by rw [C.1]; exact Nat.le_refl _), C.1, Nat.sub_self]; rfl)
        refine ⟨.exc ⟨3, [(1, .int sets.length)]⟩ [.val (tb cs rows), .bor (.lst ((good ++ bad :: rest).map enc)), .own (mL cs sets), .val (.int sets.length), .val (.int 0)], ?_, _, rfl⟩
        have e : kGb (lb_follow_0 fu) (gN 3 (.int (0 + (sets.length : Int))) [.val (tb cs rows), .bor (.lst ((good ++ bad :: rest).map enc)), .own (mL cs sets), j3, j4]) = .exc ⟨3, [(1, .int sets.length)]⟩ [.val (tb cs rows), .bor (.lst ((good ++ bad :: rest).map enc)), .own (mL cs sets), .val (.int sets.length), .val (.int 0)] := by
          unfold lb_follow_0
          unfold tb at sm ⊢
          apply gb_of
          · rfl
          try simp only [put_0, put_1]
          rw [zi]
          apply seq_nx
          · simp? only [hd, sm]
            rfl
          apply seq_ex
          · simp? only []
            rfl
          rfl
        rw [e]; rfl
    · exact absurd p.1 (by omega)
  obtain ⟨Γ, e⟩ := e
  unfold F_follow sv_follow
  unfold tb at e ⊢
  have hl3 : (good ++ bad :: rest).length ≤ 10000 := by rw [hlen]; omega
  rw [runF_ap rfl]
  apply fin_of
  try simp only [app_nil, app_cons, ins0_nil, ins0_cons, inSl_f, inSl_l, inSl_i, inSl_b, inSl_s, inSl_n, inSl_t, inSl_c, inSl_o, pad_0, pad_1]
  · apply seq_nx
    · simp? only []
      rfl
    apply seq_ex
    · simp? only [kRg2_s (rngB_of (n := ((good ++ bad :: rest).length : Int)) (by omega) (by omega)), tn, e]
      rfl
    rfl
  · rfl
theorem refusal_ok (fu : Nat) {cs : List Str} {rows : List (List Str)} {good : List Stp} {sets : List (List Str)} {bad : Stp} {rest : List Stp} (hl : cs.length ≤ 12) (hr : rows.length ≤ 1000) (hs : sets.length ≤ 1000) (hq : rest.length ≤ 100) (C : Chain cs rows good sets) (hb : made cs rows sets bad = none) : F_law_refusal fu [tb cs rows, .lst ((good ++ bad :: rest).map enc)] = .ok (.fz (.tup [.int sets.length, .bl true, .bl false])) := by
  have e := follow_bad fu hl hr hs hq C hb
  unfold F_law_refusal sv_law_refusal
  unfold tb at e ⊢
  rw [runF_ap rfl]
  apply fin_of
  try simp only [app_nil, app_cons, ins0_nil, ins0_cons, inSl_f, inSl_l, inSl_i, inSl_b, inSl_s, inSl_n, inSl_t, inSl_c, inSl_o, pad_0, pad_1]
  · apply seq_nx
    · simp? only []
      rfl
    apply seq_nx
    · simp? only [e]
      rfl
    simp? only []
    rfl
  · rfl
theorem same_ok (fu : Nat) {sets : List (List Str)} (hs : sets.length ≤ 1000) (h : ∀ l ∈ sets, ∀ x ∈ l, okS x) : F_law_same fu [.lst (sets.map sT), sLL sets] = .ok (.fz (.bl true)) := by
  have h00 : ∃ j, [Sl.bor (.lst (sets.map sT)), .bor (sLL sets), .emp] = [Sl.bor (.lst (sets.map sT)), .bor (sLL sets), j] := ⟨_, rfl⟩
  obtain ⟨Γ', e, j, rfl⟩ := forL_rm (g := gN 2) (s := lb_law_same_0 fu) (lo := 0) (m := sets.length) (P := fun i Γ => ∃ j, Γ = [Sl.bor (.lst (sets.map sT)), .bor (sLL sets), j]) h00 fun i Γ hi ⟨j, hΓ⟩ => by
    subst hΓ
    have zi : (0 : Int) + (i : Int) = i := by omega
    have gx : sets[i]? = some sets[i] := by simp
    have a1 := at_mapn (f := sT) gx
    have a2 := at_mapn (f := sL) gx
    have e := dNe_refl (ok_sL (n := 59) (h _ (List.getElem_mem hi)))
    refine ⟨[Sl.bor (.lst (sets.map sT)), .bor (sLL sets), .val (.int i)], ?_, _, rfl⟩
    unfold lb_law_same_0
    apply gb_of
    · rfl
    try simp only [put_0, put_1]
    simp? only [zi, a1, a2, e]
  have tn : ((sets.length : Int)).toNat = sets.length := by omega
  unfold F_law_same sv_law_same
  rw [runF_ap rfl]
  apply fin_of
  try simp only [app_nil, app_cons, ins0_nil, ins0_cons, inSl_f, inSl_l, inSl_i, inSl_b, inSl_s, inSl_n, inSl_t, inSl_c, inSl_o, pad_0, pad_1]
  · apply seq_nx
    · simp? only []
      rfl
    apply seq_nx
    · simp? only [kRg2_s (rngB_of (n := (sets.length : Int)) (by omega) (by omega)), tn, e]
      rfl
    simp? only []
    rfl
  · rfl
end K24

set_option autoImplicit true
set_option Elab.async false
set_option linter.all false
set_option maxRecDepth 100000
set_option exponentiation.threshold 10000
set_option maxHeartbeats 4000000
namespace K24
open PySem Ed
local macro_rules | `(tactic| simp? only [$hs,*]) => `(tactic| simp (implicitDefEqProofs := false) only [kR_s, eC_ap, eN_ap, kN_s, pN_ap, kP_s, kpE_ok, kpE_ex, pE_ap, kU2_s, kU_ok, kU_ex, eU_ap, kB3_s, kB2_ok, kB2_ex, kB1_ok, kB1_ex, eB_ap, kF2_s, kF_ok, kF_ex, eF_ap, aNil_ap, lNil_ap, kA2_ok, kA2_ex, kA1_ok, kA1_ex, aCons_ap, kL2_ok, kL2_ex, kL1_ok, kL1_ex, lCons_ap, kSz_t, kTp_ok, kTp_ex, kLs_ok, kLs_ex, eTup_ap, nLst_ap, kIf_t, kIf_f, kIf_ex, tC_ap, eAnd_ap, eOr_ap, eNot_ap, eIf_ap, sIf_ap, kE2_b, kE_ok, kE_ex, tE_ap, kT3_s, kT2_s, kT_ok, kT_ex, tTru_ap, tru_int, tru_bl, tru_lst, tru_tup, tru_non, tYs_ap, eCB_ap, eAndV_ap, eOrV_ap, eNotV_ap, kCh4_s, kCh3_ok, kCh3_ex, kCh2_t, kCh2_f, kCh1_s, kCh0_ok, kCh0_ex, kCh_ok, kCh_ex, eChain_ap, callF_ap, kCp_s, kC_ok, kC_ex, kCd_ok, kCd_ex, kFr2_r, kFr_ok, kFr_ex, kC1_ok, kC1_ex, eCall_ap, kC2_ok, kC2_ex, nCall_ap, dfz, dfr, prep0, pK_s, prep_d, prep_t, pKt_s, prep_f, pKf_s, mkF_ap, kMk_ok, kMk_ex, kFl_ok, kFl_ex, eFld_ap, fld_s, kO2_s, kO1_ok, kO1_ex, kO0_ok, kO0_ex, eOwn2_ap, kOC3_s, kOC2_ok, kOC2_ex, kOC1_s, kOC0_ok, kOC0_ex, eOwnC_ap, kM2_ok, kM2_ex, kM1_s, kM0_ok, kM0_ex, eMeth_ap, eJs_nil, kJz_t, kJ2_s, kJ_ok, kJ_ex, eJs_cons, kSl4_s, kSl3_s, kSl2_s, kSl1_s, eSl_ap, oP_n, kOp2_s, kOp_s, oP_s, kLc2_s, kLc1_t, kLc_ok, eLc_ap, kIs2_s, kIs_ok, iSeq_ap, it_l, it_t, kIn_s, iN_ap, kRg_ok, iRg1_ap, kRh2_ok, kRh1_ok, iRg2_ap, sNext_ap, sBrk_ap, sCnt_ap, sRetN_ap, kS_nx, kS_rt, kS_bk, kS_ct, kS_ex, sSeq_ap, kSet_ok, kSet_ex, sSet_ap, kOwn_ok, kOwn_ex, sOwn_ap, kDrp_ok, kDrp_ex, sDrop_ap, kRet_ok, kRet_ex, sRet_ap, kReO_ok, kReO_ex, sRetO_ap, sRetX_ap, kRx_o, kRx_v, kAp3_t, kAp2_o, kAp1_ok, kAp0_s, sApp_ap, kPi4_s, kPi3_s, kPi2_ok, kPi1_s, kPi0_ok, sPutI_ap, kPr2_ok, kPr1_ok, sPar_ap, kAs2_s, kAs_ok, sAsg_ap, gN_ap, gT_t, gT_l, gs_nil, kGs_s, gs_cons, kFor_ok, sFor_ap, sWhl_ap, kFd_ok, sFld_ap, kRs_ok, sRaise_ap, kSu_ok, kTr3_t, kTr2_t, kTr2_f, kTr_ok, kTr_ex, sTry_ap, kIE2_s, kIE_s, eIsE_ap, kXf_s, eXf_ap, fin_nx, fin_rt, fin_ex, finI_ex, kFi_s, finI_nx, app_nil, app_cons, ins0_nil, ins0_cons, inSl_f, inSl_l, inSl_i, inSl_b, inSl_s, inSl_n, inSl_t, inSl_c, inSl_o, pad_0, pad_1, get_0, get_1, put_0, put_1, look_v, look_o, look_b, frz_v, frz_o, stay_v, stay_o, stay_b, rd_d, rd_n, rds_nil, kRd_s, rds_cons, wipe_nil, wipe_cons, rest_nil, rest_cons, all_nil, all_cons, stb_e, stb_v, stb_b, noX_nil, noX_e, noX_v, noX_o, noX_b, true_and', tbl_ap, putFd_nil, putFd_cons, dAdd_i, dSub_i, dNeg_i, dLt_i, dLe_i, dGt_i, dGe_i, dEq_i, dNe_i, dEq_b, dNe_b, dEq_s, dNe_s, o1_ap, dAbs_i, dInt_i, dInt_b, dBool_i, dLen_l, dLen_t, dLen_c, dIx_l, dIx_t, dIx_c, at_0, at_1, at_2, at_3, isT_ii, isT_bi, isT_bb, isT_ss, isT_ll, isT_tt, isB2_i, map_s, dRev_l, dTup_l, dTup_t, dLst_l, dLst_t, dCut_l, dCutL_l, dGcd_i, isB_b, isS_s, mul_r, mul_l, dDiv_r, dMod_i, kGb_s, kGe_s,   decide_true, decide_false, Bool.not_true, Bool.not_false, Bool.and_true, Bool.and_false, Bool.false_and, if_true, if_false, ite_true, ite_false, Bool.false_eq_true, List.lookup_cons, List.lookup_nil, List.length_cons, List.length_nil, Nat.reduceBEq, Nat.reduceLT, Nat.reduceLeDiff, Nat.zero_le, seqMax, List.length_map, Nat.reduceAdd, Nat.reduceEqDiff, Nat.reducePow, Int.reduceNe, Int.reduceEq, Int.reduceLT, Int.reduceLE, Int.reduceBEq, Int.reduceNeg, Int.natAbs_neg, ne_eq, not_true, not_false_eq_true, and_self, true_and, and_true, beq_self_eq_true, turn_ap, kTn1_s, kTn2_t, kTn2_f, kTn2_p, kTn2_n, kTn3_ok, dIn_sl, dIn_st, dNin_sl, dNin_st, dIn_il, dNin_il, kSg2_s, kSg_ok, iSgn_ap, kED_s, eIsED_ap, kX2_s, kX1_ok, kX1_ex, kX0_ok, kX0_ex, eOwnX_ap, kBT4_s, kBT3_ok, kBT3_ex, kBT1_ok, kBT1_ex, eBMT_ap, dIsN_n, dIsN_l, dIsN_t, dIsN_i, dIsN_s, dNotN_n, dNotN_l, dNotN_t, dNotN_i, dNotN_s, dBAnd_i, dBOr_i, dMin2_i, dMax2_i, dCut_t, dCut_c, dCut_l2, Int.cast_ofNat_Int, at_4, at_5, at_6, at_7, at_8, at_9, at_10, at_11, at_12, at_13, $hs,*])
def okP (st : Stp) : Prop := ∀ s, st = .one s → okS s
theorem okP_pr {w : W3} {i j : Int} : okP (.pr w i j) := fun s h => by cases h
theorem okP_row {i : Int} : okP (.row i) := fun s h => by cases h
theorem okP_all : okP .all := fun s h => by cases h
theorem okP_one {s : Str} (h : okS s) : okP (.one s) := fun t e => by cases e; exact h
theorem okS_str : okS "stranger" := by unfold okS; decide +kernel
theorem okP.dat {st : Stp} (h : okP st) (n : Nat) : okDat (n + 1) (enc st) = true := by
  have o : ∀ s : Str, okS s → okDat n (.str s) = true := fun s hs => by cases n <;> exact hs
  have oi : ∀ i : Int, okDat n (.int i) = true := fun i => by cases n <;> rfl
  have ol : ∀ ds : List D, (∀ d ∈ ds, okDat n d = true) → okDat (n + 1) (.tup ds) = true := fun ds hd => by rw [okDat, List.all_eq_true]; exact hd
  cases st with
  | all => exact ol _ fun d hd => by rw [List.mem_singleton.mp hd]; exact o _ (by unfold okS; decide +kernel)
  | one s =>
    refine ol _ fun d hd => ?_
    rcases List.mem_cons.mp hd with rfl | hd
    · exact o _ (by unfold okS; decide +kernel)
    · rw [List.mem_singleton.mp hd]; exact o _ (h s rfl)
  | row i =>
    refine ol _ fun d hd => ?_
    rcases List.mem_cons.mp hd with rfl | hd
    · exact o _ (by unfold okS; decide +kernel)
    · rw [List.mem_singleton.mp hd]; exact oi _
  | pr w i j =>
    refine ol _ fun d hd => ?_
    rcases List.mem_cons.mp hd with rfl | hd
    · exact o _ (by unfold okS; cases w <;> decide +kernel)
    · rcases List.mem_cons.mp hd with rfl | hd
      · exact oi _
      · rw [List.mem_singleton.mp hd]; exact oi _
theorem drawn_ok (fu : Nat) {names : List Str} {rows : List (List Str)} {d k : Int} (hk : 0 ≤ k) (hn : names.length ≤ 1000) (hok : ∀ s ∈ names, okS s) : ∃ st, okP st ∧ F_law_drawn fu [.int d, .int k, sL names, sLL rows] = .ok (.fz (enc st)) := by
  have f := fm_lt d (m := 6) (by decide)
  have hr : (rows.length : Int) + 2 ≠ 0 := by omega
  have hk2 : k + 2 ≠ 0 := by omega
  have hcase : d.fmod 6 = 0 ∨ d.fmod 6 = 1 ∨ d.fmod 6 = 2 ∨ d.fmod 6 = 3 ∨ d.fmod 6 = 4 ∨ d.fmod 6 = 5 := by omega
  have pairs : ∀ w : W3, (w.s == "row") = false ∧ (w.s == "one") = false ∧ (w.s == "all") = false := fun w => by cases w <;> decide +kernel
  unfold F_law_drawn sv_law_drawn sg_law_drawn_0
  rcases hcase with h | h | h | h | h | h
  · refine ⟨.row (((d.fdiv 6).fmod 50).fmod ((rows.length : Int) + 2) - 1), okP_row, ?_⟩
    rw [runF_ap rfl]
    apply fin_of
    try simp only [app_nil, app_cons, ins0_nil, ins0_cons, inSl_f, inSl_l, inSl_i, inSl_b, inSl_s, inSl_n, inSl_t, inSl_c, inSl_o, pad_0, pad_1]
    · apply seq_nx
      · simp? only []
        rfl
      apply seq_nx
      · simp? only []
        rfl
      apply seq_nx
      · simp? only [h]
        rfl
      apply seq_rt
      · simp? only [dMod_i hr]
        rfl
      rfl
    · rfl
  · refine ⟨.pr .bo (((d.fdiv 6).fmod 50).fmod (k + 2) - 1) (((d.fdiv 300).fmod 92).fmod (k + 2) - 1), okP_pr, ?_⟩
    have p := pairs .bo
    rw [runF_ap rfl]
    apply fin_of
    try simp only [app_nil, app_cons, ins0_nil, ins0_cons, inSl_f, inSl_l, inSl_i, inSl_b, inSl_s, inSl_n, inSl_t, inSl_c, inSl_o, pad_0, pad_1]
    · apply seq_nx
      · simp? only []
        rfl
      apply seq_nx
      · simp? only []
        rfl
      apply seq_nx
      · simp? only [h]
        rfl
      apply seq_nx
      · simp? only [w_both_row]
        rfl
      apply seq_nx
      · simp? only [w_both_one]
        rfl
      apply seq_nx
      · simp? only [w_both_all]
        rfl
      simp? only [dMod_i hk2]
      rfl
    · rfl
  · refine ⟨.pr .ei (((d.fdiv 6).fmod 50).fmod (k + 2) - 1) (((d.fdiv 300).fmod 92).fmod (k + 2) - 1), okP_pr, ?_⟩
    rw [runF_ap rfl]
    apply fin_of
    try simp only [app_nil, app_cons, ins0_nil, ins0_cons, inSl_f, inSl_l, inSl_i, inSl_b, inSl_s, inSl_n, inSl_t, inSl_c, inSl_o, pad_0, pad_1]
    · apply seq_nx
      · simp? only []
        rfl
      apply seq_nx
      · simp? only []
        rfl
      apply seq_nx
      · simp? only [h]
        rfl
      apply seq_nx
      · simp? only [w_either_row]
        rfl
      apply seq_nx
      · simp? only [w_either_one]
        rfl
      apply seq_nx
      · simp? only [w_either_all]
        rfl
      simp? only [dMod_i hk2]
      rfl
    · rfl
  · refine ⟨.pr .fi (((d.fdiv 6).fmod 50).fmod (k + 2) - 1) (((d.fdiv 300).fmod 92).fmod (k + 2) - 1), okP_pr, ?_⟩
    rw [runF_ap rfl]
    apply fin_of
    try simp only [app_nil, app_cons, ins0_nil, ins0_cons, inSl_f, inSl_l, inSl_i, inSl_b, inSl_s, inSl_n, inSl_t, inSl_c, inSl_o, pad_0, pad_1]
    · apply seq_nx
      · simp? only []
        rfl
      apply seq_nx
      · simp? only []
        rfl
      apply seq_nx
      · simp? only [h]
        rfl
      apply seq_nx
      · simp? only [w_first_row]
        rfl
      apply seq_nx
      · simp? only [w_first_one]
        rfl
      apply seq_nx
      · simp? only [w_first_all]
        rfl
      simp? only [dMod_i hk2]
      rfl
    · rfl
  · have hne : ((names ++ [("stranger" : Str)]).length : Int) ≠ 0 := by rw [List.length_append]; simp; omega
    have q := fm_lt ((d.fdiv 6).fmod 50) (m := ((names ++ [("stranger" : Str)]).length : Int)) (by omega)
    have a := at_map (f := D.str) (l := names ++ [("stranger" : Str)]) (k := ((d.fdiv 6).fmod 50).fmod ((names ++ [("stranger" : Str)]).length : Int)) default q.1 q.2
    refine ⟨.one ((names ++ [("stranger" : Str)]).getD (((d.fdiv 6).fmod 50).fmod ((names ++ [("stranger" : Str)]).length : Int)).toNat default), okP_one (mem_app1 hok okS_str _ (getD_mem (by omega))), ?_⟩
    have ad : dAdd (.lst (names.map .str)) (.lst [.str "stranger"]) = some (sL (names ++ [("stranger" : Str)])) := by
      rw [dAdd_L (by simp; omega), map_app1 D.str]
    generalize names ++ [("stranger" : Str)] = kn at hne q a ad ⊢
    rw [runF_ap rfl]
    apply fin_of
    try simp only [app_nil, app_cons, ins0_nil, ins0_cons, inSl_f, inSl_l, inSl_i, inSl_b, inSl_s, inSl_n, inSl_t, inSl_c, inSl_o, pad_0, pad_1]
    · apply seq_nx
      · simp? only []
        rfl
      apply seq_nx
      · simp? only []
        rfl
      apply seq_nx
      · simp? only [h]
        rfl
      apply seq_nx
      · simp? only [w_one_row]
        rfl
      apply seq_rt
      · simp? only [ad, dMod_i hne, a]
        rfl
      rfl
    · rfl
  · refine ⟨.all, okP_all, ?_⟩
    rw [runF_ap rfl]
    apply fin_of
    try simp only [app_nil, app_cons, ins0_nil, ins0_cons, inSl_f, inSl_l, inSl_i, inSl_b, inSl_s, inSl_n, inSl_t, inSl_c, inSl_o, pad_0, pad_1]
    · apply seq_nx
      · simp? only []
        rfl
      apply seq_nx
      · simp? only []
        rfl
      apply seq_nx
      · simp? only [h]
        rfl
      apply seq_nx
      · simp? only [w_all_row]
        rfl
      apply seq_nx
      · simp? only [w_all_one]
        rfl
      apply seq_rt
      · simp? only []
        rfl
      rfl
    · rfl
def PairP (sets : List (List Str)) (nested : Bool) (i j : Int) : Prop := inR i sets.length ∧ inR j sets.length ∧ (nested = true → ((sets.getD i.toNat []).filter fun x => decide (x ∈ sets.getD j.toNat [])).length = (sets.getD j.toNat []).length) ∧ (nested = false → ((sets.getD i.toNat []).filter fun x => decide (x ∈ sets.getD j.toNat [])) = [])
def PairQ (sets : List (List Str)) (nested : Bool) (i j : Int) : Prop := PairP sets nested i j ∨ (i = 0 ∧ j = sets.length)
def PairI (sets : List (List Str)) (nested : Bool) (Γ : Ed.Env) : Prop := ∃ j3 j4 j5 j6, stb j6 = true ∧ Γ = [.bor (sLL sets), .val (.bl nested), .val (.int sets.length), j3, j4, j5, j6]
def PairZ (sets : List (List Str)) (nested : Bool) (r : R (Ctl × Ed.Env)) : Prop := (∃ Γ, r = .ok (.nx, Γ) ∧ PairI sets nested Γ) ∨ ∃ (i j : Int) (Γ : Ed.Env), r = .ok (.ret (.fz (.tup [.int i, .int j])), Γ) ∧ PairP sets nested i j
theorem pair_turn (fu : Nat) {sets : List (List Str)} {nested : Bool} (hs : ∀ l ∈ sets, l.length ≤ 12) {i j : Nat} {j4 j5 j6 : Sl} (hi : i < sets.length) (hj : j < sets.length) (h6 : stb j6 = true) :
    (∃ Γ2, kGb (lb_law_pair_2 fu) (gN 4 (.int (j : Int)) [.bor (sLL sets), .val (.bl nested), .val (.int sets.length), .val (.int (i : Int)), j4, j5, j6]) = .ok (.nx, Γ2) ∧ (∃ j5, Γ2 = [.bor (sLL sets), .val (.bl nested), .val (.int sets.length), .val (.int (i : Int)), .val (.int (j : Int)), j5, j6])) ∨ ∃ Γ2, kGb (lb_law_pair_2 fu) (gN 4 (.int (j : Int)) [.bor (sLL sets), .val (.bl nested), .val (.int sets.length), .val (.int (i : Int)), j4, j5, j6]) = .ok (.ret (.fz (.tup [.int (i : Int), .int (j : Int)])), Γ2) ∧ PairP sets nested i j := by
  have ga : sets[i]? = some sets[i] := by simp
  have gb : sets[j]? = some sets[j] := by simp
  have a1 := at_mapn (f := sL) ga
  have a2 := at_mapn (f := sL) gb
  have d1 : sets.getD (i : Int).toNat [] = sets[i] := by rw [List.getD_eq_getElem?_getD, show ((i : Int)).toNat = i by omega, ga]; rfl
  have d2 : sets.getD (j : Int).toNat [] = sets[j] := by rw [List.getD_eq_getElem?_getD, show ((j : Int)).toNat = j by omega, gb]; rfl
  have hla := hs _ (List.getElem_mem hi)
  have ri : inR (i : Int) sets.length := ⟨by omega, by omega⟩
  have rj : inR (j : Int) sets.length := ⟨by omega, by omega⟩
  unfold PairP
  rw [d1, d2]
  generalize sets[i] = a at a1 hla
  generalize sets[j] = b at a2
  have e1 := lcL_if (g := gN 6) (t := et_law_pair_1 fu) (e := el_law_pair_0 fu) (vs := [6]) (Γ0 := [.bor (sLL sets), .val (.bl nested), .val (.int sets.length), .val (.int (i : Int)), .val (.int (j : Int)), j5, .emp]) D.str (fun x => x ∈ b) D.str a (fun x hx => by
    unfold et_law_pair_1 el_law_pair_0
    simp? only [a2]) (n := 0) (by show 0 + a.length ≤ 16777216; omega)
  generalize hb : a.filter (fun x => decide (x ∈ b)) = both at e1
  have fin : ∀ nested, (kGb (lb_law_pair_2 fu) (gN 4 (.int (j : Int)) [.bor (sLL sets), .val (.bl nested), .val (.int sets.length), .val (.int (i : Int)), j4, j5, j6]) = .ok (.nx, [.bor (sLL sets), .val (.bl nested), .val (.int sets.length), .val (.int (i : Int)), .val (.int (j : Int)), .own (sL both), j6])) → (∃ Γ2, kGb (lb_law_pair_2 fu) (gN 4 (.int (j : Int)) [.bor (sLL sets), .val (.bl nested), .val (.int sets.length), .val (.int (i : Int)), j4, j5, j6]) = .ok (.nx, Γ2) ∧ (∃ j5, Γ2 = [.bor (sLL sets), .val (.bl nested), .val (.int sets.length), .val (.int (i : Int)), .val (.int (j : Int)), j5, j6])) := fun nested h => ⟨_, h, _, rfl⟩
  have end_ : ∀ nested, (kGb (lb_law_pair_2 fu) (gN 4 (.int (j : Int)) [.bor (sLL sets), .val (.bl nested), .val (.int sets.length), .val (.int (i : Int)), j4, j5, j6]) = .ok (.ret (.fz (.tup [.int (i : Int), .int (j : Int)])), [.bor (sLL sets), .val (.bl nested), .val (.int sets.length), .val (.int (i : Int)), .val (.int (j : Int)), .own (sL both), j6])) → (inR (i : Int) sets.length ∧ inR (j : Int) sets.length ∧ (nested = true → both.length = b.length) ∧ (nested = false → both = [])) → ∃ Γ2, kGb (lb_law_pair_2 fu) (gN 4 (.int (j : Int)) [.bor (sLL sets), .val (.bl nested), .val (.int sets.length), .val (.int (i : Int)), j4, j5, j6]) = .ok (.ret (.fz (.tup [.int (i : Int), .int (j : Int)])), Γ2) ∧ (inR (i : Int) sets.length ∧ inR (j : Int) sets.length ∧ (nested = true → both.length = b.length) ∧ (nested = false → both = [])) := fun nested h h2 => ⟨_, h, h2⟩
  cases nested with
  | true =>
    by_cases q1 : both.length = b.length
    · have q1' : (((both.length : Nat) : Int) == ((b.length : Nat) : Int)) = true := by rw [beq_nat, decide_eq_true q1]
      by_cases q2 : both.length < a.length
      · refine .inr (end_ true ?_ ⟨ri, rj, fun _ => q1, fun z => by cases z⟩)
        unfold lb_law_pair_2
        apply gb_of
        · rfl
        try simp only [put_0, put_1]
        apply seq_nx
        · simp? only [a1, h6, e1]
          rfl
        apply seq_rt
        · simp? only [a1, a2, q1', Int.ofNat_lt, q2]
          rfl
        rfl
      · refine .inl (fin true ?_)
        unfold lb_law_pair_2
        apply gb_of
        · rfl
        try simp only [put_0, put_1]
        apply seq_nx
        · simp? only [a1, h6, e1]
          rfl
        apply seq_nx
        · simp? only [a1, a2, q1', Int.ofNat_lt, q2]
          rfl
        simp? only []
        try rfl
    · have q1' : (((both.length : Nat) : Int) == ((b.length : Nat) : Int)) = false := by rw [beq_nat, decide_eq_false q1]
      refine .inl (fin true ?_)
      unfold lb_law_pair_2
      apply gb_of
      · rfl
      try simp only [put_0, put_1]
      apply seq_nx
      · simp? only [a1, h6, e1]
        rfl
      apply seq_nx
      · simp? only [a1, a2, q1']
        rfl
      simp? only []
      try rfl
  | false =>
    by_cases q1 : both = []
    · have q1' : (((both.length : Nat) : Int) == 0) = true := by rw [len0, decide_eq_true q1]
      refine .inr (end_ false ?_ ⟨ri, rj, (fun z => by cases z), fun _ => q1⟩)
      unfold lb_law_pair_2
      apply gb_of
      · rfl
      try simp only [put_0, put_1]
      apply seq_nx
      · simp? only [a1, h6, e1]
        rfl
      apply seq_nx
      · simp? only []
        rfl
      simp? only [q1']
      try rfl
    · have q1' : (((both.length : Nat) : Int) == 0) = false := by rw [len0, decide_eq_false q1]
      refine .inl (fin false ?_)
      unfold lb_law_pair_2
      apply gb_of
      · rfl
      try simp only [put_0, put_1]
      apply seq_nx
      · simp? only [a1, h6, e1]
        rfl
      apply seq_nx
      · simp? only []
        rfl
      simp? only [q1']
      try rfl
theorem lo_b {n : Nat} : 0 ≤ (if (n : Int) - 7 > 0 then (n : Int) - 7 else 0) ∧ (if (n : Int) - 7 > 0 then (n : Int) - 7 else 0) ≤ n := by split <;> omega
theorem pair_inner (fu : Nat) {sets : List (List Str)} {nested : Bool} (hs : ∀ l ∈ sets, l.length ≤ 12) (hl : sets.length ≤ 1000) {i : Nat} (hi : i < sets.length) {Γ : Ed.Env} (h : PairI sets nested Γ) : PairZ sets nested (kGb (lb_law_pair_3 fu) (gN 3 (.int (i : Int)) Γ)) := by
  obtain ⟨j3, j4, j5, j6, h6, rfl⟩ := h
  have lo := lo_b (n := sets.length)
  have eg : kGb (lb_law_pair_3 fu) (gN 3 (.int (i : Int)) [.bor (sLL sets), .val (.bl nested), .val (.int sets.length), j3, j4, j5, j6]) = forL (gN 4) (lb_law_pair_2 fu) (rngL (if (sets.length : Int) - 7 > 0 then (sets.length : Int) - 7 else 0) ((sets.length : Int) - (if (sets.length : Int) - 7 > 0 then (sets.length : Int) - 7 else 0)).toNat) [.bor (sLL sets), .val (.bl nested), .val (.int sets.length), .val (.int (i : Int)), j4, j5, j6] := by
    unfold lb_law_pair_3
    apply gb_of
    · rfl
    try simp only [put_0, put_1]
    simp? only [kRh3_s (show (rngB (if (sets.length : Int) - 7 > 0 then (sets.length : Int) - 7 else 0) && rngB (sets.length : Int)) = true by rw [rngB_of (by omega) (by omega), rngB_of (by omega) (by omega)]; rfl)]
  rw [eg]
  generalize (if (sets.length : Int) - 7 > 0 then (sets.length : Int) - 7 else 0) = l at lo
  refine forL_rg (P := fun k Γ => ∃ j4 j5 j6, stb j6 = true ∧ Γ = [.bor (sLL sets), .val (.bl nested), .val (.int sets.length), .val (.int (i : Int)), j4, j5, j6]) (Z := PairZ sets nested) ⟨_, _, _, h6, rfl⟩ (fun k Γ hk p => ?_) (fun Γ' p => ?_)
  · obtain ⟨j4, j5, j6, h6, rfl⟩ := p
    have e : l + (k : Int) = ((l + k).toNat : Int) := by omega
    rw [e]
    rcases pair_turn fu (nested := nested) (j4 := j4) (j5 := j5) (j6 := j6) hs hi (j := (l + k).toNat) (by omega) h6 with ⟨Γ2, e2, j5', rfl⟩ | ⟨Γ2, e2, p⟩
    · exact .inl ⟨_, e2, _, _, _, h6, rfl⟩
    · refine .inr ⟨_, by rw [e2]; rfl, .inr ⟨_, _, _, rfl, p⟩⟩
  · obtain ⟨j4, j5, j6, h6, rfl⟩ := p
    exact .inl ⟨_, rfl, _, _, _, _, h6, rfl⟩
theorem pair_ok (fu : Nat) {sets : List (List Str)} {nested : Bool} (hs : ∀ l ∈ sets, l.length ≤ 12) (hl : sets.length ≤ 1000) : ∃ i j : Int, F_law_pair fu [sLL sets, .bl nested] = .ok (.fz (.tup [.int i, .int j])) ∧ PairQ sets nested i j := by
  have lo := lo_b (n := sets.length)
  have hrg : (rngB (if (sets.length : Int) - 7 > 0 then (sets.length : Int) - 7 else 0) && rngB (sets.length : Int)) = true := by rw [rngB_of (by omega) (by omega), rngB_of (by omega) (by omega)]; rfl
  have z : PairZ sets nested (forL (gN 3) (lb_law_pair_3 fu) (rngL (if (sets.length : Int) - 7 > 0 then (sets.length : Int) - 7 else 0) ((sets.length : Int) - (if (sets.length : Int) - 7 > 0 then (sets.length : Int) - 7 else 0)).toNat) [.bor (sLL sets), .val (.bl nested), .val (.int sets.length), .emp, .emp, .emp, .emp]) := by
    generalize (if (sets.length : Int) - 7 > 0 then (sets.length : Int) - 7 else 0) = l at lo
    refine forL_rg (P := fun k Γ => PairI sets nested Γ) (Z := PairZ sets nested) ⟨_, _, _, _, rfl, rfl⟩ (fun k Γ hk p => ?_) (fun Γ' p => .inl ⟨_, rfl, p⟩)
    have e : l + (k : Int) = ((l + k).toNat : Int) := by omega
    rw [e]
    rcases pair_inner fu hs hl (i := (l + k).toNat) (by omega) p with ⟨Γ2, e2, q⟩ | ⟨i, j, Γ2, e2, q⟩
    · exact .inl ⟨_, e2, q⟩
    · exact .inr ⟨_, by rw [e2]; rfl, .inr ⟨_, _, _, rfl, q⟩⟩
  unfold F_law_pair sv_law_pair
  rcases z with ⟨Γ, e, j3, j4, j5, j6, _, rfl⟩ | ⟨i, j, Γ, e, p⟩
  · refine ⟨0, sets.length, ?_, .inr ⟨rfl, rfl⟩⟩
    rw [runF_ap rfl]
    apply fin_of
    try simp only [app_nil, app_cons, ins0_nil, ins0_cons, inSl_f, inSl_l, inSl_i, inSl_b, inSl_s, inSl_n, inSl_t, inSl_c, inSl_o, pad_0, pad_1]
    · apply seq_nx
      · simp? only []
        rfl
      apply seq_nx
      · simp? only [kRh3_s hrg, e]
        rfl
      simp? only []
      rfl
    · rfl
  · refine ⟨i, j, ?_, .inl p⟩
    rw [runF_ap rfl]
    apply fin_of
    try simp only [app_nil, app_cons, ins0_nil, ins0_cons, inSl_f, inSl_l, inSl_i, inSl_b, inSl_s, inSl_n, inSl_t, inSl_c, inSl_o, pad_0, pad_1]
    · apply seq_nx
      · simp? only []
        rfl
      apply seq_rt
      · simp? only [kRh3_s hrg, e]
        rfl
      rfl
    · rfl
end K24

set_option autoImplicit true
set_option Elab.async false
set_option linter.all false
set_option maxRecDepth 100000
set_option exponentiation.threshold 10000
set_option maxHeartbeats 4000000
namespace K24
open PySem Ed
local macro_rules | `(tactic| simp? only [$hs,*]) => `(tactic| simp (implicitDefEqProofs := false) only [kR_s, eC_ap, eN_ap, kN_s, pN_ap, kP_s, kpE_ok, kpE_ex, pE_ap, kU2_s, kU_ok, kU_ex, eU_ap, kB3_s, kB2_ok, kB2_ex, kB1_ok, kB1_ex, eB_ap, kF2_s, kF_ok, kF_ex, eF_ap, aNil_ap, lNil_ap, kA2_ok, kA2_ex, kA1_ok, kA1_ex, aCons_ap, kL2_ok, kL2_ex, kL1_ok, kL1_ex, lCons_ap, kSz_t, kTp_ok, kTp_ex, kLs_ok, kLs_ex, eTup_ap, nLst_ap, kIf_t, kIf_f, kIf_ex, tC_ap, eAnd_ap, eOr_ap, eNot_ap, eIf_ap, sIf_ap, kE2_b, kE_ok, kE_ex, tE_ap, kT3_s, kT2_s, kT_ok, kT_ex, tTru_ap, tru_int, tru_bl, tru_lst, tru_tup, tru_non, tYs_ap, eCB_ap, eAndV_ap, eOrV_ap, eNotV_ap, kCh4_s, kCh3_ok, kCh3_ex, kCh2_t, kCh2_f, kCh1_s, kCh0_ok, kCh0_ex, kCh_ok, kCh_ex, eChain_ap, callF_ap, kCp_s, kC_ok, kC_ex, kCd_ok, kCd_ex, kFr2_r, kFr_ok, kFr_ex, kC1_ok, kC1_ex, eCall_ap, kC2_ok, kC2_ex, nCall_ap, dfz, dfr, prep0, pK_s, prep_d, prep_t, pKt_s, prep_f, pKf_s, mkF_ap, kMk_ok, kMk_ex, kFl_ok, kFl_ex, eFld_ap, fld_s, kO2_s, kO1_ok, kO1_ex, kO0_ok, kO0_ex, eOwn2_ap, kOC3_s, kOC2_ok, kOC2_ex, kOC1_s, kOC0_ok, kOC0_ex, eOwnC_ap, kM2_ok, kM2_ex, kM1_s, kM0_ok, kM0_ex, eMeth_ap, eJs_nil, kJz_t, kJ2_s, kJ_ok, kJ_ex, eJs_cons, kSl4_s, kSl3_s, kSl2_s, kSl1_s, eSl_ap, oP_n, kOp2_s, kOp_s, oP_s, kLc2_s, kLc1_t, kLc_ok, eLc_ap, kIs2_s, kIs_ok, iSeq_ap, it_l, it_t, kIn_s, iN_ap, kRg_ok, iRg1_ap, kRh2_ok, kRh1_ok, iRg2_ap, sNext_ap, sBrk_ap, sCnt_ap, sRetN_ap, kS_nx, kS_rt, kS_bk, kS_ct, kS_ex, sSeq_ap, kSet_ok, kSet_ex, sSet_ap, kOwn_ok, kOwn_ex, sOwn_ap, kDrp_ok, kDrp_ex, sDrop_ap, kRet_ok, kRet_ex, sRet_ap, kReO_ok, kReO_ex, sRetO_ap, sRetX_ap, kRx_o, kRx_v, kAp3_t, kAp2_o, kAp1_ok, kAp0_s, sApp_ap, kPi4_s, kPi3_s, kPi2_ok, kPi1_s, kPi0_ok, sPutI_ap, kPr2_ok, kPr1_ok, sPar_ap, kAs2_s, kAs_ok, sAsg_ap, gN_ap, gT_t, gT_l, gs_nil, kGs_s, gs_cons, kFor_ok, sFor_ap, sWhl_ap, kFd_ok, sFld_ap, kRs_ok, sRaise_ap, kSu_ok, kTr3_t, kTr2_t, kTr2_f, kTr_ok, kTr_ex, sTry_ap, kIE2_s, kIE_s, eIsE_ap, kXf_s, eXf_ap, fin_nx, fin_rt, fin_ex, finI_ex, kFi_s, finI_nx, app_nil, app_cons, ins0_nil, ins0_cons, inSl_f, inSl_l, inSl_i, inSl_b, inSl_s, inSl_n, inSl_t, inSl_c, inSl_o, pad_0, pad_1, get_0, get_1, put_0, put_1, look_v, look_o, look_b, frz_v, frz_o, stay_v, stay_o, stay_b, rd_d, rd_n, rds_nil, kRd_s, rds_cons, wipe_nil, wipe_cons, rest_nil, rest_cons, all_nil, all_cons, stb_e, stb_v, stb_b, noX_nil, noX_e, noX_v, noX_o, noX_b, true_and', tbl_ap, putFd_nil, putFd_cons, dAdd_i, dSub_i, dNeg_i, dLt_i, dLe_i, dGt_i, dGe_i, dEq_i, dNe_i, dEq_b, dNe_b, dEq_s, dNe_s, o1_ap, dAbs_i, dInt_i, dInt_b, dBool_i, dLen_l, dLen_t, dLen_c, dIx_l, dIx_t, dIx_c, at_0, at_1, at_2, at_3, isT_ii, isT_bi, isT_bb, isT_ss, isT_ll, isT_tt, isB2_i, map_s, dRev_l, dTup_l, dTup_t, dLst_l, dLst_t, dCut_l, dCutL_l, dGcd_i, isB_b, isS_s, mul_r, mul_l, dDiv_r, dMod_i, kGb_s, kGe_s,   decide_true, decide_false, Bool.not_true, Bool.not_false, Bool.and_true, Bool.and_false, Bool.false_and, if_true, if_false, ite_true, ite_false, Bool.false_eq_true, List.lookup_cons, List.lookup_nil, List.length_cons, List.length_nil, Nat.reduceBEq, Nat.reduceLT, Nat.reduceLeDiff, Nat.zero_le, seqMax, List.length_map, Nat.reduceAdd, Nat.reduceEqDiff, Nat.reducePow, Int.reduceNe, Int.reduceEq, Int.reduceLT, Int.reduceLE, Int.reduceBEq, Int.reduceNeg, Int.natAbs_neg, ne_eq, not_true, not_false_eq_true, and_self, true_and, and_true, beq_self_eq_true, turn_ap, kTn1_s, kTn2_t, kTn2_f, kTn2_p, kTn2_n, kTn3_ok, dIn_sl, dIn_st, dNin_sl, dNin_st, dIn_il, dNin_il, kSg2_s, kSg_ok, iSgn_ap, kED_s, eIsED_ap, kX2_s, kX1_ok, kX1_ex, kX0_ok, kX0_ex, eOwnX_ap, kBT4_s, kBT3_ok, kBT3_ex, kBT1_ok, kBT1_ex, eBMT_ap, dIsN_n, dIsN_l, dIsN_t, dIsN_i, dIsN_s, dNotN_n, dNotN_l, dNotN_t, dNotN_i, dNotN_s, dBAnd_i, dBOr_i, dMin2_i, dMax2_i, dCut_t, dCut_c, dCut_l2, Int.cast_ofNat_Int, at_4, at_5, at_6, at_7, at_8, at_9, at_10, at_11, at_12, at_13, $hs,*])
theorem not_inR {n : Nat} : ¬ inR (n : Int) n := fun h => by have := h.2; omega
theorem not_inRm {n : Nat} : ¬ inR (-1) n := fun h => by have := h.1; omega
theorem made_q {cs : List Str} {rows sets : List (List Str)} {w : W3} {i j : Int} {nested : Bool} (hw : (w = .fi ∧ nested = true) ∨ nested = false) (h : PairQ sets nested i j) : made cs rows sets (.pr w i j) = none := by
  have hm : made cs rows sets (.pr w i j) = if inR i sets.length ∧ inR j sets.length then pairMade cs (sets.getD i.toNat []) (sets.getD j.toNat []) w else none := rfl
  rw [hm]
  rcases h with ⟨h1, h2, h3, h4⟩ | ⟨rfl, rfl⟩
  · rw [if_pos ⟨h1, h2⟩]
    rcases hw with ⟨rfl, hn⟩ | hn
    · have h3 := h3 hn
      generalize sets.getD i.toNat [] = a at h3 ⊢
      generalize sets.getD j.toNat [] = b at h3 ⊢
      unfold pairMade
      split
      · rfl
      · exact if_neg (fun z => by omega)
    · exact pairMade_nil (h4 hn)
  · exact if_neg fun z => not_inR z.2
theorem bad_ok (fu : Nat) {cs : List Str} {rows sets : List (List Str)} {d : Int} (hs : ∀ l ∈ sets, l.length ≤ 12) (hl : sets.length ≤ 1000) (hp : 0 < sets.length) (hstr : ("stranger" : Str) ∉ cs) : ∃ st, okP st ∧ F_law_bad fu [.int d, sLL sets, sLL rows] = .ok (.fz (enc st)) ∧ made cs rows sets st = none := by
  obtain ⟨i1, j1, p1, q1⟩ := pair_ok fu (nested := true) hs hl
  obtain ⟨i2, j2, p2, q2⟩ := pair_ok fu (nested := false) hs hl
  have f := fm_lt d (m := 10) (by decide)
  have hm : ∀ w i j, made cs rows sets (.pr w i j) = if inR i sets.length ∧ inR j sets.length then pairMade cs (sets.getD i.toNat []) (sets.getD j.toNat []) w else none := fun _ _ _ => rfl
  have hrw : ∀ i, ¬ inR i rows.length → made cs rows sets (.row i) = none := fun i h => if_neg h
  have hcase : d.fmod 10 = 0 ∨ d.fmod 10 = 1 ∨ d.fmod 10 = 2 ∨ d.fmod 10 = 3 ∨ d.fmod 10 = 4 ∨ d.fmod 10 = 5 ∨ d.fmod 10 = 6 ∨ d.fmod 10 = 7 ∨ d.fmod 10 = 8 ∨ d.fmod 10 = 9 := by omega
  have go : ∀ st, at1 [enc (.pr .bo sets.length 0), enc (.pr .ei 0 sets.length), enc (.row rows.length), enc (.one "stranger"), enc (.pr .fi 0 0), enc (.row (-1)), enc (.pr .ei (-1) 0), enc (.pr .fi i1 j1), enc (.pr .ei i2 j2), enc (.pr .bo i2 j2)] (d.fmod 10) = some (enc st) → F_law_bad fu [.int d, sLL sets, sLL rows] = .ok (.fz (enc st)) := fun st h => by
    unfold F_law_bad sv_law_bad sg_law_bad_0
    have h' : at1 [.tup [.str "both", .int sets.length, .int 0], .tup [.str "either", .int 0, .int sets.length], .tup [.str "row", .int rows.length], .tup [.str "one", .str "stranger"], .tup [.str "first", .int 0, .int 0], .tup [.str "row", .int (-1)], .tup [.str "either", .int (-1), .int 0], .tup [.str "first", .int i1, .int j1], .tup [.str "either", .int i2, .int j2], .tup [.str "both", .int i2, .int j2]] (d.fmod 10) = some (enc st) := h
    rw [runF_ap rfl]
    apply fin_of
    try simp only [app_nil, app_cons, ins0_nil, ins0_cons, inSl_f, inSl_l, inSl_i, inSl_b, inSl_s, inSl_n, inSl_t, inSl_c, inSl_o, pad_0, pad_1]
    · apply seq_nx
      · simp? only []
        rfl
      apply seq_nx
      · simp? only []
        rfl
      apply seq_nx
      · simp? only [p1, dAdd_T, dAdd_L]
        rfl
      apply seq_nx
      · simp? only [p2, dAdd_T, dAdd_L]
        rfl
      simp? only [h']
      rfl
    · rfl
  rcases hcase with h | h | h | h | h | h | h | h | h | h <;> rw [h] at go
  · exact ⟨_, okP_pr, go _ at_0, by rw [hm, if_neg (fun z => not_inR z.1)]⟩
  · exact ⟨_, okP_pr, go _ at_1, by rw [hm, if_neg (fun z => not_inR z.2)]⟩
  · exact ⟨_, okP_row, go _ at_2, hrw _ not_inR⟩
  · exact ⟨_, okP_one okS_str, go _ at_3, if_neg hstr⟩
  · refine ⟨_, okP_pr, go _ at_4, ?_⟩
    rw [hm]
    split
    · generalize sets.getD (0 : Int).toNat [] = a
      have e : a.filter (fun x => decide (x ∈ a)) = a := List.filter_eq_self.mpr fun x hx => decide_eq_true hx
      unfold pairMade
      rw [e]
      split
      · rfl
      · exact if_neg fun z => Nat.lt_irrefl _ z.1
    · rfl
  · exact ⟨_, okP_row, go _ at_5, hrw _ not_inRm⟩
  · exact ⟨_, okP_pr, go _ at_6, by rw [hm, if_neg (fun z => not_inRm z.1)]⟩
  · exact ⟨_, okP_pr, go _ at_7, made_q (.inl ⟨rfl, rfl⟩) q1⟩
  · exact ⟨_, okP_pr, go _ at_8, made_q (.inr rfl) q2⟩
  · exact ⟨_, okP_pr, go _ at_9, made_q (.inr rfl) q2⟩
theorem w3_of {w : Str} (h : w ∈ (["both", "either", "first"] : List Str)) : ∃ v : W3, w = v.s := by
  simp only [List.mem_cons, List.not_mem_nil, or_false] at h
  rcases h with rfl | rfl | rfl
  · exact ⟨.bo, rfl⟩
  · exact ⟨.ei, rfl⟩
  · exact ⟨.fi, rfl⟩
def InsI (sets rows : List (List Str)) (names : List Str) (w : Str) (d : Int) (Γ : Ed.Env) : Prop := ∃ j6 j7, Γ = [.val (.str w), .val (.int d), .bor (sLL sets), .bor (sL names), .bor (sLL rows), .val (.int sets.length), j6, j7, .emp, .emp]
def InsZ (sets rows : List (List Str)) (names : List Str) (w : Str) (d : Int) (r : R (Ctl × Ed.Env)) : Prop := (∃ Γ, r = .ok (.nx, Γ) ∧ InsI sets rows names w d Γ) ∨ ∃ (st : Stp) (Γ : Ed.Env), okP st ∧ r = .ok (.ret (.fz (enc st)), Γ)
theorem ins_turn (fu : Nat) {sets rows : List (List Str)} {names : List Str} {w : Str} {d : Int} {k : Nat} (hl : names.length ≤ 12) (hs : ∀ l ∈ sets, l.length ≤ 12) {Γ : Ed.Env} (h : InsI sets rows names w d Γ) : InsZ sets rows names w d (kGb (lb_law_instead_0 fu) (gN 6 (.int (0 + (k : Int))) Γ)) := by
  obtain ⟨j6, j7, rfl⟩ := h
  have zi : (0 : Int) + (k : Int) = k := by omega
  have d3 : dIn (.str w) (.lst [.str "both", .str "either", .str "first"]) = some (.bl (decide (w ∈ (["both", "either", "first"] : List Str)))) := dIn_sl (xs := ["both", "either", "first"])
  unfold lb_law_instead_0
  by_cases h1 : (0 : Int) < sets.length
  · by_cases h2 : w ∈ (["both", "either", "first"] : List Str)
    · obtain ⟨v, rfl⟩ := w3_of h2
      have hne : (sets.length : Int) ≠ 0 := by omega
      have so := step_ok fu (cs := names) (rows := rows) (sets := sets) (.pr v ((d.fdiv 9 + k).fmod sets.length) ((d.fdiv 360 + k * 3).fmod sets.length)) hl hs
      cases hmd : made names rows sets (.pr v ((d.fdiv 9 + k).fmod sets.length) ((d.fdiv 360 + k * 3).fmod sets.length)) with
      | none =>
        rw [hmd] at so
        have so : F_law_step fu [.tup [.str v.s, .int ((d.fdiv 9 + k).fmod sets.length), .int ((d.fdiv 360 + k * 3).fmod sets.length)], sLL sets, sL names, sLL rows] = .ok (.fz .non) := so
        refine .inl ⟨[.val (.str v.s), .val (.int d), .bor (sLL sets), .bor (sL names), .bor (sLL rows), .val (.int sets.length), .val (.int k), .val (.tup [.str v.s, .int ((d.fdiv 9 + k).fmod sets.length), .int ((d.fdiv 360 + k * 3).fmod sets.length)]), .emp, .emp], ?_, _, _, rfl⟩
        apply gb_of
        · rfl
        try simp only [put_0, put_1]
        simp? only [zi, h1, d3, h2, dMod_i hne, so]
      | some l =>
        rw [hmd] at so
        have so : F_law_step fu [.tup [.str v.s, .int ((d.fdiv 9 + k).fmod sets.length), .int ((d.fdiv 360 + k * 3).fmod sets.length)], sLL sets, sL names, sLL rows] = .ok (.fz (.lst (l.map .str))) := so
        refine .inr ⟨.pr v ((d.fdiv 9 + k).fmod sets.length) ((d.fdiv 360 + k * 3).fmod sets.length), [.val (.str v.s), .val (.int d), .bor (sLL sets), .bor (sL names), .bor (sLL rows), .val (.int sets.length), .val (.int k), .val (.tup [.str v.s, .int ((d.fdiv 9 + k).fmod sets.length), .int ((d.fdiv 360 + k * 3).fmod sets.length)]), .emp, .emp], okP_pr, ?_⟩
        apply gb_of
        · rfl
        try simp only [put_0, put_1]
        simp? only [zi, h1, d3, h2, dMod_i hne, so, enc]
    · refine .inl ⟨[.val (.str w), .val (.int d), .bor (sLL sets), .bor (sL names), .bor (sLL rows), .val (.int sets.length), .val (.int k), j7, .emp, .emp], ?_, _, _, rfl⟩
      apply gb_of
      · rfl
      try simp only [put_0, put_1]
      simp? only [zi, h1, d3, h2]
  · refine .inl ⟨[.val (.str w), .val (.int d), .bor (sLL sets), .bor (sL names), .bor (sLL rows), .val (.int sets.length), .val (.int k), j7, .emp, .emp], ?_, _, _, rfl⟩
    apply gb_of
    · rfl
    try simp only [put_0, put_1]
    simp? only [zi, h1]
theorem instead_ok (fu : Nat) {sets rows : List (List Str)} {names : List Str} {w : Str} {d : Int} (hl : names.length ≤ 12) (hn : 0 < names.length) (hs : ∀ l ∈ sets, l.length ≤ 12) (hr : rows.length ≤ 1000) (hsl : sets.length ≤ 1000) (hok : ∀ s ∈ names, okS s) : ∃ st, okP st ∧ F_law_instead fu [.str w, .int d, sLL sets, sL names, sLL rows] = .ok (.fz (enc st)) := by
  have z : InsZ sets rows names w d (forL (gN 6) (lb_law_instead_0 fu) (rngL 0 8) [.val (.str w), .val (.int d), .bor (sLL sets), .bor (sL names), .bor (sLL rows), .val (.int sets.length), .emp, .emp, .emp, .emp]) := by
    refine forL_rg (P := fun k Γ => InsI sets rows names w d Γ) (Z := InsZ sets rows names w d) ⟨_, _, rfl⟩ (fun k Γ hk p => ?_) (fun Γ' p => .inl ⟨_, rfl, p⟩)
    rcases ins_turn fu (k := k) hl hs p with ⟨Γ2, e2, q⟩ | ⟨st, Γ2, ok, e2⟩
    · exact .inl ⟨_, e2, q⟩
    · exact .inr ⟨_, by rw [e2]; rfl, .inr ⟨_, _, ok, rfl⟩⟩
  have rg8 : (8 : Int).toNat = 8 := rfl
  unfold F_law_instead sv_law_instead sg_law_instead_3
  rcases z with ⟨Γ, e, j6, j7, rfl⟩ | ⟨st, Γ, ok, e⟩
  · have e2 := lcL_if (g := gN 9) (t := et_law_instead_2 fu) (e := el_law_instead_1 fu) (vs := [9]) (Γ0 := [.val (.str w), .val (.int d), .bor (sLL sets), .bor (sL names), .bor (sLL rows), .val (.int sets.length), j6, j7, .emp, .emp]) (fun i : Nat => D.int (0 + (i : Int))) (fun i => (0 : Int) < (rows.getD i []).length) (fun i : Nat => D.int (0 + (i : Int))) (List.range rows.length) (fun i hi => by
      have hi := List.mem_range.mp hi
      have zi : (0 : Int) + (i : Int) = i := by omega
      have a := at_map (f := sL) (l := rows) (k := (i : Int)) [] (by omega) (by omega)
      rw [show (i : Int).toNat = i by omega] at a
      unfold et_law_instead_2 el_law_instead_1
      simp? only [zi, a]) (n := 0) (by show 0 + (List.range rows.length).length ≤ 16777216; rw [List.length_range]; omega)
    have er : rngL 0 (rows.length : Int).toNat = (List.range rows.length).map (fun i : Nat => D.int (0 + (i : Int))) := by rw [show (rows.length : Int).toNat = rows.length by omega]; rfl
    generalize (List.range rows.length).filter (fun i => decide ((0 : Int) < (rows.getD i []).length)) = full at e2
    by_cases c : (0 : Int) < full.length ∧ 0 < d.fmod 3
    · have hne : (full.length : Int) ≠ 0 := by omega
      have q := fm_lt (d.fdiv 9) (m := (full.length : Int)) c.1
      have a := at_map (f := fun i : Nat => D.int (0 + (i : Int))) (l := full) (k := (d.fdiv 9).fmod full.length) 0 q.1 q.2
      refine ⟨.row (0 + (full.getD ((d.fdiv 9).fmod full.length).toNat 0 : Nat)), okP_row, ?_⟩
      rw [runF_ap rfl]
      apply fin_of
      try simp only [app_nil, app_cons, ins0_nil, ins0_cons, inSl_f, inSl_l, inSl_i, inSl_b, inSl_s, inSl_n, inSl_t, inSl_c, inSl_o, pad_0, pad_1]
      · apply seq_nx
        · simp? only []
          rfl
        apply seq_nx
        · simp? only [kRg2_s (rngB_of (n := 8) (by omega) (by omega)), rg8, e]
          rfl
        apply seq_nx
        · simp? only [kRg2_s (rngB_of (n := (rows.length : Int)) (by omega) (by omega)), er, e2]
          rfl
        apply seq_rt
        · simp? only [c.1, c.2, dMod_i hne, a]
          rfl
        rfl
      · rfl
    · have hne : (names.length : Int) ≠ 0 := by omega
      have q := fm_lt (d.fdiv 9) (m := (names.length : Int)) (by omega)
      have a := at_map (f := D.str) (l := names) (k := (d.fdiv 9).fmod names.length) default q.1 q.2
      refine ⟨.one (names.getD ((d.fdiv 9).fmod names.length).toNat default), okP_one (hok _ (getD_mem (by omega))), ?_⟩
      by_cases c1 : (0 : Int) < full.length
      · have c2 : ¬ 0 < d.fmod 3 := fun z => c ⟨c1, z⟩
        rw [runF_ap rfl]
        apply fin_of
        try simp only [app_nil, app_cons, ins0_nil, ins0_cons, inSl_f, inSl_l, inSl_i, inSl_b, inSl_s, inSl_n, inSl_t, inSl_c, inSl_o, pad_0, pad_1]
        · apply seq_nx
          · simp? only []
            rfl
          apply seq_nx
          · simp? only [kRg2_s (rngB_of (n := 8) (by omega) (by omega)), rg8, e]
            rfl
          apply seq_nx
          · simp? only [kRg2_s (rngB_of (n := (rows.length : Int)) (by omega) (by omega)), er, e2]
            rfl
          apply seq_nx
          · simp? only [c1, c2]
            rfl
          simp? only [dMod_i hne, a]
          rfl
        · rfl
      · rw [runF_ap rfl]
        apply fin_of
        try simp only [app_nil, app_cons, ins0_nil, ins0_cons, inSl_f, inSl_l, inSl_i, inSl_b, inSl_s, inSl_n, inSl_t, inSl_c, inSl_o, pad_0, pad_1]
        · apply seq_nx
          · simp? only []
            rfl
          apply seq_nx
          · simp? only [kRg2_s (rngB_of (n := 8) (by omega) (by omega)), rg8, e]
            rfl
          apply seq_nx
          · simp? only [kRg2_s (rngB_of (n := (rows.length : Int)) (by omega) (by omega)), er, e2]
            rfl
          apply seq_nx
          · simp? only [c1]
            rfl
          simp? only [dMod_i hne, a]
          rfl
        · rfl
  · refine ⟨st, ok, ?_⟩
    rw [runF_ap rfl]
    apply fin_of
    try simp only [app_nil, app_cons, ins0_nil, ins0_cons, inSl_f, inSl_l, inSl_i, inSl_b, inSl_s, inSl_n, inSl_t, inSl_c, inSl_o, pad_0, pad_1]
    · apply seq_nx
      · simp? only []
        rfl
      apply seq_rt
      · simp? only [kRg2_s (rngB_of (n := 8) (by omega) (by omega)), rg8, e]
        rfl
      rfl
    · rfl
end K24

set_option autoImplicit true
set_option Elab.async false
set_option linter.all false
set_option maxRecDepth 100000
set_option exponentiation.threshold 10000
set_option maxHeartbeats 4000000
namespace K24
open PySem Ed
local macro_rules | `(tactic| simp? only [$hs,*]) => `(tactic| simp (implicitDefEqProofs := false) only [kR_s, eC_ap, eN_ap, kN_s, pN_ap, kP_s, kpE_ok, kpE_ex, pE_ap, kU2_s, kU_ok, kU_ex, eU_ap, kB3_s, kB2_ok, kB2_ex, kB1_ok, kB1_ex, eB_ap, kF2_s, kF_ok, kF_ex, eF_ap, aNil_ap, lNil_ap, kA2_ok, kA2_ex, kA1_ok, kA1_ex, aCons_ap, kL2_ok, kL2_ex, kL1_ok, kL1_ex, lCons_ap, kSz_t, kTp_ok, kTp_ex, kLs_ok, kLs_ex, eTup_ap, nLst_ap, kIf_t, kIf_f, kIf_ex, tC_ap, eAnd_ap, eOr_ap, eNot_ap, eIf_ap, sIf_ap, kE2_b, kE_ok, kE_ex, tE_ap, kT3_s, kT2_s, kT_ok, kT_ex, tTru_ap, tru_int, tru_bl, tru_lst, tru_tup, tru_non, tYs_ap, eCB_ap, eAndV_ap, eOrV_ap, eNotV_ap, kCh4_s, kCh3_ok, kCh3_ex, kCh2_t, kCh2_f, kCh1_s, kCh0_ok, kCh0_ex, kCh_ok, kCh_ex, eChain_ap, callF_ap, kCp_s, kC_ok, kC_ex, kCd_ok, kCd_ex, kFr2_r, kFr_ok, kFr_ex, kC1_ok, kC1_ex, eCall_ap, kC2_ok, kC2_ex, nCall_ap, dfz, dfr, prep0, pK_s, prep_d, prep_t, pKt_s, prep_f, pKf_s, mkF_ap, kMk_ok, kMk_ex, kFl_ok, kFl_ex, eFld_ap, fld_s, kO2_s, kO1_ok, kO1_ex, kO0_ok, kO0_ex, eOwn2_ap, kOC3_s, kOC2_ok, kOC2_ex, kOC1_s, kOC0_ok, kOC0_ex, eOwnC_ap, kM2_ok, kM2_ex, kM1_s, kM0_ok, kM0_ex, eMeth_ap, eJs_nil, kJz_t, kJ2_s, kJ_ok, kJ_ex, eJs_cons, kSl4_s, kSl3_s, kSl2_s, kSl1_s, eSl_ap, oP_n, kOp2_s, kOp_s, oP_s, kLc2_s, kLc1_t, kLc_ok, eLc_ap, kIs2_s, kIs_ok, iSeq_ap, it_l, it_t, kIn_s, iN_ap, kRg_ok, iRg1_ap, kRh2_ok, kRh1_ok, iRg2_ap, sNext_ap, sBrk_ap, sCnt_ap, sRetN_ap, kS_nx, kS_rt, kS_bk, kS_ct, kS_ex, sSeq_ap, kSet_ok, kSet_ex, sSet_ap, kOwn_ok, kOwn_ex, sOwn_ap, kDrp_ok, kDrp_ex, sDrop_ap, kRet_ok, kRet_ex, sRet_ap, kReO_ok, kReO_ex, sRetO_ap, sRetX_ap, kRx_o, kRx_v, kAp3_t, kAp2_o, kAp1_ok, kAp0_s, sApp_ap, kPi4_s, kPi3_s, kPi2_ok, kPi1_s, kPi0_ok, sPutI_ap, kPr2_ok, kPr1_ok, sPar_ap, kAs2_s, kAs_ok, sAsg_ap, gN_ap, gT_t, gT_l, gs_nil, kGs_s, gs_cons, kFor_ok, sFor_ap, sWhl_ap, kFd_ok, sFld_ap, kRs_ok, sRaise_ap, kSu_ok, kTr3_t, kTr2_t, kTr2_f, kTr_ok, kTr_ex, sTry_ap, kIE2_s, kIE_s, eIsE_ap, kXf_s, eXf_ap, fin_nx, fin_rt, fin_ex, finI_ex, kFi_s, finI_nx, app_nil, app_cons, ins0_nil, ins0_cons, inSl_f, inSl_l, inSl_i, inSl_b, inSl_s, inSl_n, inSl_t, inSl_c, inSl_o, pad_0, pad_1, get_0, get_1, put_0, put_1, look_v, look_o, look_b, frz_v, frz_o, stay_v, stay_o, stay_b, rd_d, rd_n, rds_nil, kRd_s, rds_cons, wipe_nil, wipe_cons, rest_nil, rest_cons, all_nil, all_cons, stb_e, stb_v, stb_b, noX_nil, noX_e, noX_v, noX_o, noX_b, true_and', tbl_ap, putFd_nil, putFd_cons, dAdd_i, dSub_i, dNeg_i, dLt_i, dLe_i, dGt_i, dGe_i, dEq_i, dNe_i, dEq_b, dNe_b, dEq_s, dNe_s, o1_ap, dAbs_i, dInt_i, dInt_b, dBool_i, dLen_l, dLen_t, dLen_c, dIx_l, dIx_t, dIx_c, at_0, at_1, at_2, at_3, isT_ii, isT_bi, isT_bb, isT_ss, isT_ll, isT_tt, isB2_i, map_s, dRev_l, dTup_l, dTup_t, dLst_l, dLst_t, dCut_l, dCutL_l, dGcd_i, isB_b, isS_s, mul_r, mul_l, dDiv_r, dMod_i, kGb_s, kGe_s,   decide_true, decide_false, Bool.not_true, Bool.not_false, Bool.and_true, Bool.and_false, Bool.false_and, if_true, if_false, ite_true, ite_false, Bool.false_eq_true, List.lookup_cons, List.lookup_nil, List.length_cons, List.length_nil, Nat.reduceBEq, Nat.reduceLT, Nat.reduceLeDiff, Nat.zero_le, seqMax, List.length_map, Nat.reduceAdd, Nat.reduceEqDiff, Nat.reducePow, Int.reduceNe, Int.reduceEq, Int.reduceLT, Int.reduceLE, Int.reduceBEq, Int.reduceNeg, Int.natAbs_neg, ne_eq, not_true, not_false_eq_true, and_self, true_and, and_true, beq_self_eq_true, turn_ap, kTn1_s, kTn2_t, kTn2_f, kTn2_p, kTn2_n, kTn3_ok, dIn_sl, dIn_st, dNin_sl, dNin_st, dIn_il, dNin_il, kSg2_s, kSg_ok, iSgn_ap, kED_s, eIsED_ap, kX2_s, kX1_ok, kX1_ex, kX0_ok, kX0_ex, eOwnX_ap, kBT4_s, kBT3_ok, kBT3_ex, kBT1_ok, kBT1_ex, eBMT_ap, dIsN_n, dIsN_l, dIsN_t, dIsN_i, dIsN_s, dNotN_n, dNotN_l, dNotN_t, dNotN_i, dNotN_s, dBAnd_i, dBOr_i, dMin2_i, dMax2_i, dCut_t, dCut_c, dCut_l2, Int.cast_ofNat_Int, at_4, at_5, at_6, at_7, at_8, at_9, at_10, at_11, at_12, at_13, $hs,*])
/-! the law's own loops -/
section
variable {ns : List Int} {p0 p1 p2 : List Int} {size mode : Int} {names hid : List Str}
def CelI (ns p0 p1 p2 : List Int) (size mode : Int) (names hid : List Str) (b : Nat) (i : Nat) (Γ : Ed.Env) : Prop := ∃ (rows : List (List Str)) (j9 : Sl), Γ = [.val (.scr ns), .val (iL p0), .val (iL p1), .val (iL p2), .val (.int size), .val (sL names), .val (sL hid), .val (.int mode), .own (sLL rows), j9, .emp, .emp, .emp, .emp, .emp, .emp, .emp, .emp, .emp, .emp, .emp, .emp] ∧ rows.length = b + i ∧ ∀ r ∈ rows, RowOk names r
theorem cell_turn (fu : Nat) {b i : Nat} {x : Int} {Γ : Ed.Env} (hn : names.Nodup) (hh : RowOk names hid) (hl : names.length ≤ 1000) (hb : b + i ≤ 1000) (h : CelI ns p0 p1 p2 size mode names hid b i Γ) : ∃ Γ2, kGb (lb_law_0 fu) (gN 9 (.int x) Γ) = .ok (.nx, Γ2) ∧ CelI ns p0 p1 p2 size mode names hid b (i + 1) Γ2 := by
  obtain ⟨rows, j9, rfl, hr, hb'⟩ := h
  obtain ⟨o, r, ho, hd, hrow⟩ := row_ok fu (d := if x < 0 then -x else x) (free := mode == 2) hn hh hl
  have hz : rows.length < 16777216 := by omega
  refine' ⟨_, ?_, ?_⟩
  rotate_left
  · unfold lb_law_0
    apply gb_of
    · rfl
    try simp only [put_0, put_1]
    simp? only [ho, hd, hz]
    rfl
  · exact ⟨rows ++ [r], _, by rw [map_app1], by simp [hr]; omega, mem_app1 hb' hrow⟩
/-- the state in the loop over the steps -/
abbrev GB (ns p0 p1 p2 : List Int) (size mode : Int) (names hid : List Str) (rows : List (List Str)) (j9 : Sl) (good : List Stp) (sets : List (List Str)) (bad : D) (j13 j14 j15 : Sl) : Ed.Env := [.val (.scr ns), .val (iL p0), .val (iL p1), .val (iL p2), .val (.int size), .val (sL names), .val (sL hid), .val (.int mode), .own (sLL rows), j9, .own (.lst (good.map enc)), .own (sLL sets), .val bad, j13, j14, j15, .emp, .emp, .emp, .emp, .emp, .emp]
variable {rows : List (List Str)} {j9 j13 j14 j15 : Sl} {good : List Stp} {sets : List (List Str)} {bad : D}
theorem enc0 (st : Stp) : ∃ w : Str, dIx (enc st) (.int 0) = some (.str w) := by
  cases st with
  | all => exact ⟨_, rfl⟩
  | one s => exact ⟨_, rfl⟩
  | row i => exact ⟨_, rfl⟩
  | pr w i j => exact ⟨_, rfl⟩
theorem isN_opt (o : Option (List Str)) : dIsN (optL o) .non = some (.bl (decide (o = none))) := by
  cases o <;> rfl
def TurnZ (ns p0 p1 p2 : List Int) (size mode : Int) (names hid : List Str) (rows : List (List Str)) (j9 : Sl) (good : List Stp) (sets : List (List Str)) (bad : D) (k : Nat) (r : R (Ctl × Ed.Env)) : Prop :=
  ∃ st, okP st ∧ ((made names rows sets st = none ∧ r = .ok (.brk, GB ns p0 p1 p2 size mode names hid rows j9 good sets (enc st) (.val (.int (k : Int))) (.val (enc st)) (.val .non))) ∨ ∃ l, made names rows sets st = some l ∧ r = .ok (.nx, GB ns p0 p1 p2 size mode names hid rows j9 (good ++ [st]) (sets ++ [l]) bad (.val (.int (k : Int))) (.val (enc st)) (.val (sL l))))
theorem turn_tail (fu : Nat) {k : Nat} {st : Stp} (hg : good.length ≤ 1000) (hsl : sets.length ≤ 1000) (ok : okP st) : TurnZ ns p0 p1 p2 size mode names hid rows j9 good sets bad k (sSeq (sIf (tE (eB dIsN (pN 15) (pE (eC .non)))) (sSeq (sSet 12 (eN 14)) sBrk) sNext) (sg_law_1 fu) (GB ns p0 p1 p2 size mode names hid rows j9 good sets bad (.val (.int (k : Int))) (.val (enc st)) (.val (optL (made names rows sets st))))) := by
  refine ⟨st, ok, ?_⟩
  cases h : made names rows sets st with
  | none =>
    refine .inl ⟨rfl, ?_⟩
    show sSeq _ _ (GB ns p0 p1 p2 size mode names hid rows j9 good sets bad (.val (.int (k : Int))) (.val (enc st)) (.val .non)) = _
    unfold GB
    apply seq_bk
    · simp? only []
      rfl
    rfl
  | some l =>
    refine .inr ⟨l, rfl, ?_⟩
    show sSeq _ _ (GB ns p0 p1 p2 size mode names hid rows j9 good sets bad (.val (.int (k : Int))) (.val (enc st)) (.val (sL l))) = _
    have z1 : good.length < 16777216 := by omega
    have z2 : sets.length < 16777216 := by omega
    unfold GB
    apply seq_nx
    · simp? only []
      rfl
    unfold sg_law_1
    apply seq_nx
    · simp? only [z1]
      rfl
    simp? only [z2, map_app1]
theorem turn_mid (fu : Nat) {k : Nat} {st : Stp} (hl : names.length ≤ 12) (hsz : size = names.length) (hs : ∀ l ∈ sets, l.length ≤ 12) (hr : rows.length ≤ 1000) (hg : good.length ≤ 1000) (hsl : sets.length ≤ 1000) (hok : ∀ s ∈ names, okS s) (hk : k + 1 < p1.length) (ok : okP st) : TurnZ ns p0 p1 p2 size mode names hid rows j9 good sets bad k (sg_law_2 fu (GB ns p0 p1 p2 size mode names hid rows j9 good sets bad (.val (.int (k : Int))) (.val (enc st)) (.val (optL (made names rows sets st))))) := by
  have a0 := at_map (f := D.int) (l := p1) (k := 0) 0 (by omega) (by omega)
  have a1 := at_map (f := D.int) (l := p1) (k := 1 + (k : Int)) 0 (by omega) (by omega)
  have skip : ∀ r, sIf (eAnd (tE (eB dIsN (pN 15) (pE (eC .non)))) (eAnd (tE (eB dGt (pN 4) (pE (eC (.int 0))))) (eOr (tE (eB dEq (pE (eB dMod (pE (eF (o1 dInt) (aCons (pE (eB dIx (pN 2) (pE (eC (.int 0))))) aNil))) (pE (eC (.int 3))))) (pE (eC (.int 0))))) (tE (eB dGt (pE (eB dMod (pE (eF (o1 dInt) (aCons (pE (eB dIx (pN 2) (pE (eB dAdd (pE (eC (.int 1))) (pN 13))))) aNil))) (pE (eC (.int 9))))) (pE (eC (.int 0))))))))
    (sSeq (sSet 14 (eCall (F_law_instead fu) [false, true, true, true, true] (aCons (pE (eB dIx (pN 14) (pE (eC (.int 0))))) (aCons (pE (eB dIx (pN 2) (pE (eB dAdd (pE (eC (.int 1))) (pN 13))))) (aCons (pN 11) (aCons (pN 5) (aCons (pN 8) aNil)))))))
  (sSet 15 (eCall (F_law_step fu) [true, true, true, true] (aCons (pN 14) (aCons (pN 11) (aCons (pN 5) (aCons (pN 8) aNil)))))))
    sNext (GB ns p0 p1 p2 size mode names hid rows j9 good sets bad (.val (.int (k : Int))) (.val (enc st)) (.val (optL (made names rows sets st)))) = r → (∃ st', okP st' ∧ r = .ok (.nx, GB ns p0 p1 p2 size mode names hid rows j9 good sets bad (.val (.int (k : Int))) (.val (enc st')) (.val (optL (made names rows sets st'))))) := by
    intro r e
    subst e
    have body : made names rows sets st = none → 0 < names.length → ∃ st', okP st' ∧ (sSeq (sSet 14 (eCall (F_law_instead fu) [false, true, true, true, true] (aCons (pE (eB dIx (pN 14) (pE (eC (.int 0))))) (aCons (pE (eB dIx (pN 2) (pE (eB dAdd (pE (eC (.int 1))) (pN 13))))) (aCons (pN 11) (aCons (pN 5) (aCons (pN 8) aNil)))))))
  (sSet 15 (eCall (F_law_step fu) [true, true, true, true] (aCons (pN 14) (aCons (pN 11) (aCons (pN 5) (aCons (pN 8) aNil))))))) (GB ns p0 p1 p2 size mode names hid rows j9 good sets bad (.val (.int (k : Int))) (.val (enc st)) (.val .non)) = .ok (.nx, GB ns p0 p1 p2 size mode names hid rows j9 good sets bad (.val (.int (k : Int))) (.val (enc st')) (.val (optL (made names rows sets st')))) := fun hm hn => by
      obtain ⟨w, hw⟩ := enc0 st
      obtain ⟨st', ok', e'⟩ := instead_ok fu (w := w) (d := p1.getD (1 + (k : Int)).toNat 0) hl hn hs hr hsl hok
      have so := step_ok fu (cs := names) (rows := rows) (sets := sets) st' hl hs
      refine ⟨st', ok', ?_⟩
      unfold GB
      simp? only [hw, a1, e', so]
    by_cases hm : made names rows sets st = none
    · by_cases hn : (0 : Int) < names.length
      · obtain ⟨st', ok', eb⟩ := body hm (by omega)
        rw [hm]
        have n9 : (9 : Int) ≠ 0 := by decide
        by_cases c1 : ((p1.getD (0 : Int).toNat 0).fmod 3 == 0) = true
        · refine ⟨st', ok', if_t ?_ eb⟩
          unfold GB
          rw [hsz]
          simp? only [show optL none = D.non from rfl, hn, a0, c1]
        · have c1 : ((p1.getD (0 : Int).toNat 0).fmod 3 == 0) = false := by simpa using c1
          by_cases c2 : 0 < (p1.getD (1 + (k : Int)).toNat 0).fmod 9
          · refine ⟨st', ok', if_t ?_ eb⟩
            unfold GB
            rw [hsz]
            simp? only [show optL none = D.non from rfl, hn, a0, c1, a1, c2]
          · refine ⟨st, ok, ?_⟩
            rw [hm]
            unfold GB
            rw [hsz]
            simp? only [show optL none = D.non from rfl, hn, a0, c1, a1, c2]
      · refine ⟨st, ok, ?_⟩
        unfold GB
        rw [hm, hsz]
        simp? only [show optL none = D.non from rfl, hn]
    · obtain ⟨l, hl'⟩ := Option.ne_none_iff_exists'.mp hm
      refine ⟨st, ok, ?_⟩
      unfold GB
      rw [hl']
      simp? only [show optL (some l) = sL l from rfl]
  obtain ⟨st', ok', e⟩ := skip _ rfl
  unfold sg_law_2
  rw [sSeq_ap, e, kS_nx]
  exact turn_tail fu hg hsl ok'
end
end K24

set_option autoImplicit true
set_option Elab.async false
set_option linter.all false
set_option maxRecDepth 100000
set_option exponentiation.threshold 10000
set_option maxHeartbeats 4000000
namespace K24
open PySem Ed
local macro_rules | `(tactic| simp? only [$hs,*]) => `(tactic| simp (implicitDefEqProofs := false) only [kR_s, eC_ap, eN_ap, kN_s, pN_ap, kP_s, kpE_ok, kpE_ex, pE_ap, kU2_s, kU_ok, kU_ex, eU_ap, kB3_s, kB2_ok, kB2_ex, kB1_ok, kB1_ex, eB_ap, kF2_s, kF_ok, kF_ex, eF_ap, aNil_ap, lNil_ap, kA2_ok, kA2_ex, kA1_ok, kA1_ex, aCons_ap, kL2_ok, kL2_ex, kL1_ok, kL1_ex, lCons_ap, kSz_t, kTp_ok, kTp_ex, kLs_ok, kLs_ex, eTup_ap, nLst_ap, kIf_t, kIf_f, kIf_ex, tC_ap, eAnd_ap, eOr_ap, eNot_ap, eIf_ap, sIf_ap, kE2_b, kE_ok, kE_ex, tE_ap, kT3_s, kT2_s, kT_ok, kT_ex, tTru_ap, tru_int, tru_bl, tru_lst, tru_tup, tru_non, tYs_ap, eCB_ap, eAndV_ap, eOrV_ap, eNotV_ap, kCh4_s, kCh3_ok, kCh3_ex, kCh2_t, kCh2_f, kCh1_s, kCh0_ok, kCh0_ex, kCh_ok, kCh_ex, eChain_ap, callF_ap, kCp_s, kC_ok, kC_ex, kCd_ok, kCd_ex, kFr2_r, kFr_ok, kFr_ex, kC1_ok, kC1_ex, eCall_ap, kC2_ok, kC2_ex, nCall_ap, dfz, dfr, prep0, pK_s, prep_d, prep_t, pKt_s, prep_f, pKf_s, mkF_ap, kMk_ok, kMk_ex, kFl_ok, kFl_ex, eFld_ap, fld_s, kO2_s, kO1_ok, kO1_ex, kO0_ok, kO0_ex, eOwn2_ap, kOC3_s, kOC2_ok, kOC2_ex, kOC1_s, kOC0_ok, kOC0_ex, eOwnC_ap, kM2_ok, kM2_ex, kM1_s, kM0_ok, kM0_ex, eMeth_ap, eJs_nil, kJz_t, kJ2_s, kJ_ok, kJ_ex, eJs_cons, kSl4_s, kSl3_s, kSl2_s, kSl1_s, eSl_ap, oP_n, kOp2_s, kOp_s, oP_s, kLc2_s, kLc1_t, kLc_ok, eLc_ap, kIs2_s, kIs_ok, iSeq_ap, it_l, it_t, kIn_s, iN_ap, kRg_ok, iRg1_ap, kRh2_ok, kRh1_ok, iRg2_ap, sNext_ap, sBrk_ap, sCnt_ap, sRetN_ap, kS_nx, kS_rt, kS_bk, kS_ct, kS_ex, sSeq_ap, kSet_ok, kSet_ex, sSet_ap, kOwn_ok, kOwn_ex, sOwn_ap, kDrp_ok, kDrp_ex, sDrop_ap, kRet_ok, kRet_ex, sRet_ap, kReO_ok, kReO_ex, sRetO_ap, sRetX_ap, kRx_o, kRx_v, kAp3_t, kAp2_o, kAp1_ok, kAp0_s, sApp_ap, kPi4_s, kPi3_s, kPi2_ok, kPi1_s, kPi0_ok, sPutI_ap, kPr2_ok, kPr1_ok, sPar_ap, kAs2_s, kAs_ok, sAsg_ap, gN_ap, gT_t, gT_l, gs_nil, kGs_s, gs_cons, kFor_ok, sFor_ap, sWhl_ap, kFd_ok, sFld_ap, kRs_ok, sRaise_ap, kSu_ok, kTr3_t, kTr2_t, kTr2_f, kTr_ok, kTr_ex, sTry_ap, kIE2_s, kIE_s, eIsE_ap, kXf_s, eXf_ap, fin_nx, fin_rt, fin_ex, finI_ex, kFi_s, finI_nx, app_nil, app_cons, ins0_nil, ins0_cons, inSl_f, inSl_l, inSl_i, inSl_b, inSl_s, inSl_n, inSl_t, inSl_c, inSl_o, pad_0, pad_1, get_0, get_1, put_0, put_1, look_v, look_o, look_b, frz_v, frz_o, stay_v, stay_o, stay_b, rd_d, rd_n, rds_nil, kRd_s, rds_cons, wipe_nil, wipe_cons, rest_nil, rest_cons, all_nil, all_cons, stb_e, stb_v, stb_b, noX_nil, noX_e, noX_v, noX_o, noX_b, true_and', tbl_ap, putFd_nil, putFd_cons, dAdd_i, dSub_i, dNeg_i, dLt_i, dLe_i, dGt_i, dGe_i, dEq_i, dNe_i, dEq_b, dNe_b, dEq_s, dNe_s, o1_ap, dAbs_i, dInt_i, dInt_b, dBool_i, dLen_l, dLen_t, dLen_c, dIx_l, dIx_t, dIx_c, at_0, at_1, at_2, at_3, isT_ii, isT_bi, isT_bb, isT_ss, isT_ll, isT_tt, isB2_i, map_s, dRev_l, dTup_l, dTup_t, dLst_l, dLst_t, dCut_l, dCutL_l, dGcd_i, isB_b, isS_s, mul_r, mul_l, dDiv_r, dMod_i, kGb_s, kGe_s,   decide_true, decide_false, Bool.not_true, Bool.not_false, Bool.and_true, Bool.and_false, Bool.false_and, if_true, if_false, ite_true, ite_false, Bool.false_eq_true, List.lookup_cons, List.lookup_nil, List.length_cons, List.length_nil, Nat.reduceBEq, Nat.reduceLT, Nat.reduceLeDiff, Nat.zero_le, seqMax, List.length_map, Nat.reduceAdd, Nat.reduceEqDiff, Nat.reducePow, Int.reduceNe, Int.reduceEq, Int.reduceLT, Int.reduceLE, Int.reduceBEq, Int.reduceNeg, Int.natAbs_neg, ne_eq, not_true, not_false_eq_true, and_self, true_and, and_true, beq_self_eq_true, turn_ap, kTn1_s, kTn2_t, kTn2_f, kTn2_p, kTn2_n, kTn3_ok, dIn_sl, dIn_st, dNin_sl, dNin_st, dIn_il, dNin_il, kSg2_s, kSg_ok, iSgn_ap, kED_s, eIsED_ap, kX2_s, kX1_ok, kX1_ex, kX0_ok, kX0_ex, eOwnX_ap, kBT4_s, kBT3_ok, kBT3_ex, kBT1_ok, kBT1_ex, eBMT_ap, dIsN_n, dIsN_l, dIsN_t, dIsN_i, dIsN_s, dNotN_n, dNotN_l, dNotN_t, dNotN_i, dNotN_s, dBAnd_i, dBOr_i, dMin2_i, dMax2_i, dCut_t, dCut_c, dCut_l2, Int.cast_ofNat_Int, at_4, at_5, at_6, at_7, at_8, at_9, at_10, at_11, at_12, at_13, $hs,*])
theorem srt_filter (cs : List Str) (p : Str → Bool) : srt cs (cs.filter p) = cs.filter p := by
  unfold srt
  apply List.filter_congr
  intro x hx
  by_cases h : p x = true
  · rw [h, decide_eq_true (List.mem_filter.mpr ⟨hx, h⟩)]
  · rw [decide_eq_false (fun z => h (List.mem_filter.mp z).2)]
    simpa using h
theorem filter_one {s : Str} : ∀ {l : List Str}, l.Nodup → s ∈ l → l.filter (fun x => decide (x ∈ [s])) = [s]
  | [], _, h => by cases h
  | x :: l, hn, h => by
    rw [List.nodup_cons] at hn
    by_cases hx : x = s
    · subst hx
      rw [List.filter_cons_of_pos (by simp)]
      have : l.filter (fun y => decide (y ∈ [x])) = [] := List.filter_eq_nil_iff.mpr fun y hy => by
        rw [decide_eq_true_eq, List.mem_singleton]
        exact fun e => hn.1 (e ▸ hy)
      rw [this]
    · rw [List.filter_cons_of_neg (by simpa using hx)]
      exact filter_one hn.2 ((List.mem_cons.mp h).resolve_left fun e => hx e.symm)
theorem made_set {cs : List Str} {rows sets : List (List Str)} {st : Stp} {l : List Str} (hn : cs.Nodup) (hs : ∀ l ∈ sets, Set1 cs l) (h : made cs rows sets st = some l) : Set1 cs l := by
  cases st with
  | all =>
    have h : (if cs = [] then none else some cs) = some l := h
    split at h
    · cases h
    · rename_i q
      cases h
      exact ⟨List.filter_eq_self.mpr fun x hx => decide_eq_true hx, q⟩
  | one s =>
    have h : (if s ∈ cs then some [s] else none) = some l := h
    split at h
    · rename_i q
      cases h
      exact ⟨filter_one hn q, by simp⟩
    · cases h
  | row i =>
    have h : (if inR i rows.length then (if srt cs (rows.getD i.toNat []) = [] then none else some (srt cs (rows.getD i.toNat []))) else none) = some l := h
    split at h
    · split at h
      · cases h
      · rename_i q
        cases h
        exact ⟨srt_srt _ _, q⟩
    · cases h
  | pr w i j =>
    have h : (if inR i sets.length ∧ inR j sets.length then pairMade cs (sets.getD i.toNat []) (sets.getD j.toNat []) w else none) = some l := h
    split at h
    · rename_i q
      have ha := hs _ (getD_mem (l := sets) (k := i.toNat) (d := []) (by have := q.1.1; have := q.1.2; omega))
      generalize sets.getD i.toNat [] = a at h ha
      generalize sets.getD j.toNat [] = b at h
      have hab : ∀ p : Str → Bool, a.filter p = cs.filter fun x => p x && decide (x ∈ a) := fun p => by
        have e : a = cs.filter fun x => decide (x ∈ a) := ha.1.symm
        conv => lhs; rw [e]
        rw [List.filter_filter]
      unfold pairMade at h
      split at h
      · cases h
      · rename_i nb
        cases w with
        | bo =>
          cases h
          exact ⟨by rw [hab]; exact srt_filter _ _, nb⟩
        | ei =>
          cases h
          refine ⟨srt_filter _ _, fun z => nb ?_⟩
          rw [List.filter_eq_nil_iff] at z ⊢
          intro x hx hb
          exact z x (ha.sub hx) (decide_eq_true (Or.inl hx))
        | fi =>
          have h : (if (a.filter fun x => decide (x ∈ b)).length < a.length ∧ (a.filter fun x => decide (x ∈ b)).length < b.length then some (a.filter fun x => !decide (x ∈ b)) else none) = some l := h
          split at h
          · rename_i q2
            cases h
            refine ⟨by rw [hab]; exact srt_filter _ _, fun z => ?_⟩
            have : a.filter (fun x => decide (x ∈ b)) = a := by
              rw [List.filter_eq_self]
              intro x hx
              have := (List.filter_eq_nil_iff.mp z) x hx
              simpa using this
            rw [this] at q2
            exact Nat.lt_irrefl _ q2.1
          · cases h
    · cases h
theorem Chain.nil {cs : List Str} {rows : List (List Str)} : Chain cs rows [] [] := ⟨rfl, fun k st l h _ => by cases h⟩
theorem Chain.snoc {cs : List Str} {rows : List (List Str)} {good : List Stp} {sets : List (List Str)} {st : Stp} {l : List Str} (hn : cs.Nodup) (C : Chain cs rows good sets) (h : made cs rows sets st = some l) : Chain cs rows (good ++ [st]) (sets ++ [l]) := by
  refine ⟨by rw [List.length_append, List.length_append, C.1]; rfl, fun k st' l' h1 h2 => ?_⟩
  by_cases hk : k < sets.length
  · rw [List.getElem?_append_left (by rw [C.1]; exact hk)] at h1
    rw [List.getElem?_append_left hk] at h2
    rw [List.take_append_of_le_length (by omega)]
    exact C.2 k st' l' h1 h2
  · have hk2 : k = sets.length := by
      have := get_lt h2
      rw [List.length_append, List.length_singleton] at this
      omega
    subst hk2
    rw [List.getElem?_append_right (by rw [C.1]; exact Nat.le_refl _), C.1, Nat.sub_self] at h1
    rw [List.getElem?_append_right (Nat.le_refl _), Nat.sub_self] at h2
    cases h1; cases h2
    rw [List.take_append_of_le_length (Nat.le_refl _), List.take_length]
    exact ⟨h, made_set hn C.set h⟩
section
variable {ns : List Int} {p0 p1 p2 : List Int} {size mode : Int} {names hid : List Str} {rows : List (List Str)} {j9 : Sl}
def strg : D := .tup [.str "one", .str "stranger"]
def BI (ns p0 p1 p2 : List Int) (size mode : Int) (names hid : List Str) (rows : List (List Str)) (j9 : Sl) (i : Nat) (Γ : Ed.Env) : Prop := ∃ (good : List Stp) (sets : List (List Str)) (j13 j14 j15 : Sl), Γ = GB ns p0 p1 p2 size mode names hid rows j9 good sets strg j13 j14 j15 ∧ sets.length = i ∧ Chain names rows good sets ∧ ∀ st ∈ good, okP st
def BZ (ns p0 p1 p2 : List Int) (size mode : Int) (names hid : List Str) (rows : List (List Str)) (j9 : Sl) (m : Nat) (r : R (Ctl × Ed.Env)) : Prop := ∃ (good : List Stp) (sets : List (List Str)) (bad : Stp) (j13 j14 j15 : Sl), r = .ok (.nx, GB ns p0 p1 p2 size mode names hid rows j9 good sets (enc bad) j13 j14 j15) ∧ sets.length ≤ m ∧ Chain names rows good sets ∧ (∀ st ∈ good, okP st) ∧ okP bad ∧ (made names rows sets bad = none ∨ (0 < sets.length ∧ bad = .one "stranger"))
theorem b_turn (fu : Nat) {m i : Nat} {Γ : Ed.Env} (hn : names.Nodup) (hl : names.length ≤ 12) (hsz : size = names.length) (hr : rows.length ≤ 1000) (hok : ∀ s ∈ names, okS s) (h1 : i + 1 < p1.length) (h2 : i + 1 < p2.length) (hi : i < m) (hm : m ≤ 100) (h : BI ns p0 p1 p2 size mode names hid rows j9 i Γ) :
    (∃ Γ2, kGb (lb_law_3 fu) (gN 13 (.int (0 + (i : Int))) Γ) = .ok (.nx, Γ2) ∧ BI ns p0 p1 p2 size mode names hid rows j9 (i + 1) Γ2) ∨ ∃ r, fin1 (kGb (lb_law_3 fu) (gN 13 (.int (0 + (i : Int))) Γ)) = some r ∧ BZ ns p0 p1 p2 size mode names hid rows j9 m r := by
  obtain ⟨good, sets, j13, j14, j15, rfl, hsl, C, ok⟩ := h
  have zi : (0 : Int) + (i : Int) = i := by omega
  have hs12 : ∀ l ∈ sets, l.length ≤ 12 := fun l hl' => by have := (C.set l hl').le; omega
  have a := at_map (f := D.int) (l := p2) (k := 1 + (i : Int)) 0 (by omega) (by omega)
  obtain ⟨st, oks, ed⟩ := drawn_ok fu (names := names) (rows := rows) (d := p2.getD (1 + (i : Int)).toNat 0) (k := (i : Int)) (by omega) (by omega) hok
  have so := step_ok fu (cs := names) (rows := rows) (sets := sets) st hl hs12
  have hgl : good.length ≤ 1000 := by rw [C.1]; omega
  have e : kGb (lb_law_3 fu) (gN 13 (.int (0 + (i : Int))) (GB ns p0 p1 p2 size mode names hid rows j9 good sets strg j13 j14 j15)) = sg_law_2 fu (GB ns p0 p1 p2 size mode names hid rows j9 good sets strg (.val (.int (i : Int))) (.val (enc st)) (.val (optL (made names rows sets st)))) := by
    unfold lb_law_3 GB
    apply gb_of
    · rfl
    try simp only [put_0, put_1]
    rw [zi]
    apply seq_nx
    · simp? only [a, ed]
      rfl
    apply seq_nx
    · simp? only [so]
      rfl
    rfl
  rw [e]
  obtain ⟨st', ok', ⟨hmn, er⟩ | ⟨l, hml, er⟩⟩ := turn_mid (ns := ns) (p0 := p0) (p1 := p1) (p2 := p2) (size := size) (mode := mode) (names := names) (hid := hid) (rows := rows) (j9 := j9) (good := good) (sets := sets) (bad := strg) fu (k := i) (st := st) hl hsz hs12 hr hgl (by omega) hok h1 oks
  · right
    rw [er]
    exact ⟨_, rfl, good, sets, st', _, _, _, rfl, by omega, C, ok, ok', .inl hmn⟩
  · left
    exact ⟨_, er, good ++ [st'], sets ++ [l], _, _, _, rfl, by simp [hsl], C.snoc hn hml, mem_app1 ok ok'⟩
theorem b_loop (fu : Nat) {m : Nat} (hn : names.Nodup) (hl : names.length ≤ 12) (hsz : size = names.length) (hr : rows.length ≤ 1000) (hok : ∀ s ∈ names, okS s) (h1 : m < p1.length) (h2 : m < p2.length) (hm : m ≤ 100) (hm0 : 0 < m) : BZ ns p0 p1 p2 size mode names hid rows j9 m (forL (gN 13) (lb_law_3 fu) (rngL 0 m) (GB ns p0 p1 p2 size mode names hid rows j9 [] [] strg .emp .emp .emp)) := by
  refine forL_rg (P := BI ns p0 p1 p2 size mode names hid rows j9) (Z := BZ ns p0 p1 p2 size mode names hid rows j9 m) ⟨[], [], _, _, _, rfl, rfl, Chain.nil, fun st h => by cases h⟩ (fun i Γ hi p => b_turn fu hn hl hsz hr hok (by omega) (by omega) hi hm p) (fun Γ' p => ?_)
  obtain ⟨good, sets, j13, j14, j15, rfl, hsl, C, ok⟩ := p
  exact ⟨good, sets, .one "stranger", _, _, _, rfl, by omega, C, ok, okP_one okS_str, .inr ⟨by omega, rfl⟩⟩
end
end K24

set_option autoImplicit true
set_option Elab.async false
set_option linter.all false
set_option maxRecDepth 100000
set_option exponentiation.threshold 10000
set_option maxHeartbeats 4000000
namespace K24
open PySem Ed
local macro_rules | `(tactic| simp? only [$hs,*]) => `(tactic| simp (implicitDefEqProofs := false) only [kR_s, eC_ap, eN_ap, kN_s, pN_ap, kP_s, kpE_ok, kpE_ex, pE_ap, kU2_s, kU_ok, kU_ex, eU_ap, kB3_s, kB2_ok, kB2_ex, kB1_ok, kB1_ex, eB_ap, kF2_s, kF_ok, kF_ex, eF_ap, aNil_ap, lNil_ap, kA2_ok, kA2_ex, kA1_ok, kA1_ex, aCons_ap, kL2_ok, kL2_ex, kL1_ok, kL1_ex, lCons_ap, kSz_t, kTp_ok, kTp_ex, kLs_ok, kLs_ex, eTup_ap, nLst_ap, kIf_t, kIf_f, kIf_ex, tC_ap, eAnd_ap, eOr_ap, eNot_ap, eIf_ap, sIf_ap, kE2_b, kE_ok, kE_ex, tE_ap, kT3_s, kT2_s, kT_ok, kT_ex, tTru_ap, tru_int, tru_bl, tru_lst, tru_tup, tru_non, tYs_ap, eCB_ap, eAndV_ap, eOrV_ap, eNotV_ap, kCh4_s, kCh3_ok, kCh3_ex, kCh2_t, kCh2_f, kCh1_s, kCh0_ok, kCh0_ex, kCh_ok, kCh_ex, eChain_ap, callF_ap, kCp_s, kC_ok, kC_ex, kCd_ok, kCd_ex, kFr2_r, kFr_ok, kFr_ex, kC1_ok, kC1_ex, eCall_ap, kC2_ok, kC2_ex, nCall_ap, dfz, dfr, prep0, pK_s, prep_d, prep_t, pKt_s, prep_f, pKf_s, mkF_ap, kMk_ok, kMk_ex, kFl_ok, kFl_ex, eFld_ap, fld_s, kO2_s, kO1_ok, kO1_ex, kO0_ok, kO0_ex, eOwn2_ap, kOC3_s, kOC2_ok, kOC2_ex, kOC1_s, kOC0_ok, kOC0_ex, eOwnC_ap, kM2_ok, kM2_ex, kM1_s, kM0_ok, kM0_ex, eMeth_ap, eJs_nil, kJz_t, kJ2_s, kJ_ok, kJ_ex, eJs_cons, kSl4_s, kSl3_s, kSl2_s, kSl1_s, eSl_ap, oP_n, kOp2_s, kOp_s, oP_s, kLc2_s, kLc1_t, kLc_ok, eLc_ap, kIs2_s, kIs_ok, iSeq_ap, it_l, it_t, kIn_s, iN_ap, kRg_ok, iRg1_ap, kRh2_ok, kRh1_ok, iRg2_ap, sNext_ap, sBrk_ap, sCnt_ap, sRetN_ap, kS_nx, kS_rt, kS_bk, kS_ct, kS_ex, sSeq_ap, kSet_ok, kSet_ex, sSet_ap, kOwn_ok, kOwn_ex, sOwn_ap, kDrp_ok, kDrp_ex, sDrop_ap, kRet_ok, kRet_ex, sRet_ap, kReO_ok, kReO_ex, sRetO_ap, sRetX_ap, kRx_o, kRx_v, kAp3_t, kAp2_o, kAp1_ok, kAp0_s, sApp_ap, kPi4_s, kPi3_s, kPi2_ok, kPi1_s, kPi0_ok, sPutI_ap, kPr2_ok, kPr1_ok, sPar_ap, kAs2_s, kAs_ok, sAsg_ap, gN_ap, gT_t, gT_l, gs_nil, kGs_s, gs_cons, kFor_ok, sFor_ap, sWhl_ap, kFd_ok, sFld_ap, kRs_ok, sRaise_ap, kSu_ok, kTr3_t, kTr2_t, kTr2_f, kTr_ok, kTr_ex, sTry_ap, kIE2_s, kIE_s, eIsE_ap, kXf_s, eXf_ap, fin_nx, fin_rt, fin_ex, finI_ex, kFi_s, finI_nx, app_nil, app_cons, ins0_nil, ins0_cons, inSl_f, inSl_l, inSl_i, inSl_b, inSl_s, inSl_n, inSl_t, inSl_c, inSl_o, pad_0, pad_1, get_0, get_1, put_0, put_1, look_v, look_o, look_b, frz_v, frz_o, stay_v, stay_o, stay_b, rd_d, rd_n, rds_nil, kRd_s, rds_cons, wipe_nil, wipe_cons, rest_nil, rest_cons, all_nil, all_cons, stb_e, stb_v, stb_b, noX_nil, noX_e, noX_v, noX_o, noX_b, true_and', tbl_ap, putFd_nil, putFd_cons, dAdd_i, dSub_i, dNeg_i, dLt_i, dLe_i, dGt_i, dGe_i, dEq_i, dNe_i, dEq_b, dNe_b, dEq_s, dNe_s, o1_ap, dAbs_i, dInt_i, dInt_b, dBool_i, dLen_l, dLen_t, dLen_c, dIx_l, dIx_t, dIx_c, at_0, at_1, at_2, at_3, isT_ii, isT_bi, isT_bb, isT_ss, isT_ll, isT_tt, isB2_i, map_s, dRev_l, dTup_l, dTup_t, dLst_l, dLst_t, dCut_l, dCutL_l, dGcd_i, isB_b, isS_s, mul_r, mul_l, dDiv_r, dMod_i, kGb_s, kGe_s,   decide_true, decide_false, Bool.not_true, Bool.not_false, Bool.and_true, Bool.and_false, Bool.false_and, if_true, if_false, ite_true, ite_false, Bool.false_eq_true, List.lookup_cons, List.lookup_nil, List.length_cons, List.length_nil, Nat.reduceBEq, Nat.reduceLT, Nat.reduceLeDiff, Nat.zero_le, seqMax, List.length_map, Nat.reduceAdd, Nat.reduceEqDiff, Nat.reducePow, Int.reduceNe, Int.reduceEq, Int.reduceLT, Int.reduceLE, Int.reduceBEq, Int.reduceNeg, Int.natAbs_neg, ne_eq, not_true, not_false_eq_true, and_self, true_and, and_true, beq_self_eq_true, turn_ap, kTn1_s, kTn2_t, kTn2_f, kTn2_p, kTn2_n, kTn3_ok, dIn_sl, dIn_st, dNin_sl, dNin_st, dIn_il, dNin_il, kSg2_s, kSg_ok, iSgn_ap, kED_s, eIsED_ap, kX2_s, kX1_ok, kX1_ex, kX0_ok, kX0_ex, eOwnX_ap, kBT4_s, kBT3_ok, kBT3_ex, kBT1_ok, kBT1_ex, eBMT_ap, dIsN_n, dIsN_l, dIsN_t, dIsN_i, dIsN_s, dNotN_n, dNotN_l, dNotN_t, dNotN_i, dNotN_s, dBAnd_i, dBOr_i, dMin2_i, dMax2_i, dCut_t, dCut_c, dCut_l2, Int.cast_ofNat_Int, at_4, at_5, at_6, at_7, at_8, at_9, at_10, at_11, at_12, at_13, $hs,*])
section
variable {ns : List Int} {p0 p1 p2 : List Int} {size mode : Int} {names hid : List Str} {rows : List (List Str)} {j9 j13 j14 j15 j18 s20 : Sl} {good rest : List Stp} {sets : List (List Str)} {bad : Stp}
abbrev GD (ns p0 p1 p2 : List Int) (size mode : Int) (names hid : List Str) (s8 j9 : Sl) (good : List Stp) (sets : List (List Str)) (bad : Stp) (j13 j14 j15 s10 s16 s17 s18 s19 s20 s21 : Sl) : Ed.Env := [.val (.scr ns), .val (iL p0), .val (iL p1), .val (iL p2), .val (.int size), .val (sL names), .val (sL hid), .val (.int mode), s8, j9, s10, .own (sLL sets), .val (enc bad), j13, j14, j15, s16, s17, s18, s19, s20, s21]
abbrev hnd (names : List Str) (rows : List (List Str)) (good : List Stp) (bad : Stp) (rest : List Stp) : D := .lst [sL names, sLL rows, .lst (good.map enc), .lst ((good ++ bad :: rest).map enc)]
def Ends (r : R (Ctl × Ed.Env)) : Prop := ∃ Γ, r = .ok (.ret (.fz (.bl true)), Γ)
theorem Ends.of {r : R (Ctl × Ed.Env)} {Γ : Ed.Env} (h : r = .ok (.ret (.fz (.bl true)), Γ)) : Ends r := ⟨Γ, h⟩
theorem seq_ends {a b : SV} {Γ Γ1 : Ed.Env} (h : a Γ = .ok (.nx, Γ1)) (h2 : Ends (b Γ1)) : Ends (sSeq a b Γ) := by rw [sSeq_ap, h, kS_nx]; exact h2
theorem hnd_ok (h1 : ∀ s ∈ names, okS s) (h2 : ∀ r ∈ rows, ∀ s ∈ r, okS s) (h3 : ∀ st ∈ good, okP st) (h4 : okP bad) (h5 : ∀ st ∈ rest, okP st) : okDat 60 (hnd names rows good bad rest) = true := by
  unfold hnd
  rw [okDat, List.all_eq_true]
  intro d hd
  simp only [List.mem_cons, List.not_mem_nil, or_false] at hd
  rcases hd with rfl | rfl | rfl | rfl
  · exact ok_sL (n := 58) h1
  · rw [okDat]; exact ok_map fun r hr => ok_sL (n := 57) (h2 r hr)
  · rw [okDat]; exact ok_map fun st hst => (h3 st hst).dat 57
  · rw [okDat]
    refine ok_map fun st hst => okP.dat ?_ 57
    rcases List.mem_append.mp hst with h | h
    · exact h3 st h
    · rcases List.mem_cons.mp h with rfl | h
      · exact h4
      · exact h5 st h
theorem r5 (fu : Nat) (hl : names.length ≤ 12) (hr : rows.length ≤ 48) (hsl : sets.length ≤ 100) (hq : rest.length ≤ 2) (C : Chain names rows good sets) (hb : made names rows sets bad = none) (h1 : ∀ s ∈ names, okS s) (h2 : ∀ r ∈ rows, RowOk names r) (h3 : ∀ st ∈ good, okP st) (h4 : okP bad) (h5 : ∀ st ∈ rest, okP st) :
    Ends (sg_law_9 fu (GD ns p0 p1 p2 size mode names hid (.val (sLL rows)) j9 good sets bad j13 j14 j15 (.own (.lst (good.map enc))) (.val (.lst (rest.map enc))) (.val (hnd names rows good bad rest)) .emp (.val (tb names rows)) s20 .emp)) := by
  have rf := refusal_ok fu (rows := rows) (rest := rest) hl (by omega) (by omega) (by omega) C hb
  have gl : (good.map enc).length = sets.length := by rw [List.length_map, C.1]
  have gl2 : (good.length : Int) = sets.length := by rw [C.1]
  have isn := is_number_int fu (v := (sets.length : Int)) (a := (sets.length : Int)) (b := (sets.length : Int))
  rw [decide_eq_true (Int.le_refl _)] at isn
  have e1 : lcL (gN 18) tYs (el_law_6 fu) [18] (rows.map fun r => sT (srt names r)) (GD ns p0 p1 p2 size mode names hid (.val (sLL rows)) j9 good sets bad j13 j14 j15 (.own (.lst (good.map enc))) (.val (.lst (rest.map enc))) (.val (hnd names rows good bad rest)) .emp (.val (tb names rows)) s20 (.val (.tup [.int sets.length, .bl true, .bl false]))) 0 = some (rows.map fun r => sL (srt names r), GD ns p0 p1 p2 size mode names hid (.val (sLL rows)) j9 good sets bad j13 j14 j15 (.own (.lst (good.map enc))) (.val (.lst (rest.map enc))) (.val (hnd names rows good bad rest)) .emp (.val (tb names rows)) s20 (.val (.tup [.int sets.length, .bl true, .bl false]))) :=
    lcL_a (f := fun r => sT (srt names r)) (u := fun r => sL (srt names r)) rows (fun r hr' => by
      unfold el_law_6 GD
      simp? only []) (n := 0) (by show 0 + rows.length ≤ 16777216; omega)
  have e2 : lcL (gN 18) tYs (el_law_7 fu) [18] (rows.map sL) (GD ns p0 p1 p2 size mode names hid (.val (sLL rows)) j9 good sets bad j13 j14 j15 (.own (.lst (good.map enc))) (.val (.lst (rest.map enc))) (.val (hnd names rows good bad rest)) .emp (.val (tb names rows)) s20 (.val (.tup [.int sets.length, .bl true, .bl false]))) 0 = some (rows.map fun r => sL (srt names r), GD ns p0 p1 p2 size mode names hid (.val (sLL rows)) j9 good sets bad j13 j14 j15 (.own (.lst (good.map enc))) (.val (.lst (rest.map enc))) (.val (hnd names rows good bad rest)) .emp (.val (tb names rows)) s20 (.val (.tup [.int sets.length, .bl true, .bl false]))) :=
    lcL_a (f := sL) (u := fun r => sL (srt names r)) rows (fun r hr' => by
      unfold el_law_7 GD
      simp? only [sorted_ok fu (ns := names) (r := r) (by omega)]) (n := 0) (by show 0 + rows.length ≤ 16777216; omega)
  have q1 : dNe (.lst (rows.map fun r => sL (srt names r))) (.lst (rows.map fun r => sL (srt names r))) = some (.bl false) := dNe_refl (by
    rw [okDat]
    exact ok_map fun r _ => ok_sL (n := 58) fun s hs => h1 s (srt_mem.mp hs).1)
  have q2 : dEq (hnd names rows good bad rest) (hnd names rows good bad rest) = some (.bl true) := dEq_refl (hnd_ok h1 (fun r hr' s hs => h1 s ((h2 r hr').2 s hs)) h3 h4 h5)
  have a3 : dAdd (.lst (good.map enc)) (.lst [enc bad]) = some (.lst ((good ++ [bad]).map enc)) := by
    rw [dAdd_L (by rw [gl]; simp; omega), map_app1]
  have a4 : dAdd (.lst ((good ++ [bad]).map enc)) (.lst (rest.map enc)) = some (.lst ((good ++ bad :: rest).map enc)) := by
    rw [dAdd_L (by rw [List.length_map, List.length_append, C.1, List.length_map]; simp; omega), ← List.map_append, List.append_assoc]; rfl
  unfold sg_law_9 sg_law_8 GD
  unfold tb at rf e1 e2 ⊢
  unfold GD at e1 e2
  unfold hnd at q2 e1 e2 ⊢
  refine seq_ends (Γ1 := GD ns p0 p1 p2 size mode names hid (.val (sLL rows)) j9 good sets bad j13 j14 j15 (.own (.lst (good.map enc))) (.val (.lst (rest.map enc))) (.val (hnd names rows good bad rest)) .emp (.val (tb names rows)) s20 (.val (.tup [.int sets.length, .bl true, .bl false]))) ?_ ?_
  · unfold GD hnd tb
    simp? only [rf]
  unfold GD hnd tb
  refine seq_ends (Γ1 := GD ns p0 p1 p2 size mode names hid (.val (sLL rows)) j9 good sets bad j13 j14 j15 (.own (.lst (good.map enc))) (.val (.lst (rest.map enc))) (.val (hnd names rows good bad rest)) .emp (.val (tb names rows)) s20 (.val (.tup [.int sets.length, .bl true, .bl false]))) ?_ ?_
  · unfold GD hnd tb
    simp? only [gl2, isn]
  unfold GD hnd tb
  refine seq_ends (Γ1 := GD ns p0 p1 p2 size mode names hid (.val (sLL rows)) j9 good sets bad j13 j14 j15 (.own (.lst (good.map enc))) (.val (.lst (rest.map enc))) (.val (hnd names rows good bad rest)) .emp (.val (tb names rows)) s20 (.val (.tup [.int sets.length, .bl true, .bl false]))) ?_ ?_
  · unfold GD hnd tb
    simp? only [e1, e2, q1]
  unfold GD hnd tb
  apply Ends.of
  simp? only [a3, a4, q2]
  rfl
theorem r4 (fu : Nat) (hn : names.Nodup) (hl : names.length ≤ 12) (hr : rows.length ≤ 48) (hsl : sets.length ≤ 100) (hq : rest.length ≤ 2) (C : Chain names rows good sets) (hb : made names rows sets bad = none) (h0 : ∀ s ∈ names, nameOk s) (h2 : ∀ r ∈ rows, RowOk names r) (h3 : ∀ st ∈ good, okP st) (h4 : okP bad) (h5 : ∀ st ∈ rest, okP st) :
    Ends (sSeq (sSet 17 (nLst (lCons (eF (o1 dLst) (aCons (pN 5) aNil)) (lCons (eLc [18] (iN 8) (gN 18) tYs (el_law_4 fu)) (lCons (eF (o1 dLst) (aCons (pN 10) aNil)) (lCons (eB dAdd (pE (eB dAdd (pE (eF (o1 dLst) (aCons (pN 10) aNil))) (pE (nLst (lCons (eN 12) lNil))))) (pN 16)) lNil))))))
  (sg_law_10 fu) (GD ns p0 p1 p2 size mode names hid (.own (sLL rows)) j9 good sets bad j13 j14 j15 (.own (.lst (good.map enc))) (.val (.lst (rest.map enc))) .emp .emp .emp .emp .emp)) := by
  have hok : ∀ s ∈ names, okS s := fun s hs => (h0 s hs).ok
  have gl : (good.map enc).length = sets.length := by rw [List.length_map, C.1]
  have gl2 : (good.length : Int) = sets.length := by rw [C.1]
  have e1 : lcL (gN 18) tYs (el_law_4 fu) [18] (rows.map sL) (GD ns p0 p1 p2 size mode names hid (.val (sLL rows)) j9 good sets bad j13 j14 j15 (.own (.lst (good.map enc))) (.val (.lst (rest.map enc))) .emp .emp .emp .emp .emp) 0 = some (rows.map sL, GD ns p0 p1 p2 size mode names hid (.val (sLL rows)) j9 good sets bad j13 j14 j15 (.own (.lst (good.map enc))) (.val (.lst (rest.map enc))) .emp .emp .emp .emp .emp) :=
    lcL_a (f := sL) (u := sL) rows (fun r hr' => by
      unfold el_law_4 GD
      simp? only []) (n := 0) (by show 0 + rows.length ≤ 16777216; omega)
  have a3 : dAdd (.lst (good.map enc)) (.lst [enc bad]) = some (.lst ((good ++ [bad]).map enc)) := by
    rw [dAdd_L (by rw [gl]; simp; omega), map_app1]
  have a4 : dAdd (.lst ((good ++ [bad]).map enc)) (.lst (rest.map enc)) = some (.lst ((good ++ bad :: rest).map enc)) := by
    rw [dAdd_L (by rw [List.length_map, List.length_append, C.1, List.length_map]; simp; omega), ← List.map_append, List.append_assoc]; rfl
  have ti := table_init fu h0 hn hl h2 hr
  have tk : ∀ s20, Ends (sg_law_9 fu (GD ns p0 p1 p2 size mode names hid (.val (sLL rows)) j9 good sets bad j13 j14 j15 (.own (.lst (good.map enc))) (.val (.lst (rest.map enc))) (.val (hnd names rows good bad rest)) .emp (.val (tb names rows)) s20 .emp)) := fun s20 => r5 fu hl hr hsl hq C hb hok h2 h3 h4 h5
  refine seq_ends (Γ1 := GD ns p0 p1 p2 size mode names hid (.val (sLL rows)) j9 good sets bad j13 j14 j15 (.own (.lst (good.map enc))) (.val (.lst (rest.map enc))) (.val (hnd names rows good bad rest)) .emp .emp .emp .emp) ?_ ?_
  · unfold GD at e1 ⊢
    unfold hnd
    simp? only [e1, a3, a4]
  unfold sg_law_10
  refine seq_ends (Γ1 := GD ns p0 p1 p2 size mode names hid (.val (sLL rows)) j9 good sets bad j13 j14 j15 (.own (.lst (good.map enc))) (.val (.lst (rest.map enc))) (.val (hnd names rows good bad rest)) .emp (.val (tb names rows)) .emp .emp) ?_ ?_
  · unfold GD hnd tb
    simp? only [ti]
  by_cases c : (0 : Int) < good.length
  · have fg1 := follow_good fu (rows := rows) hl (by omega) (by omega) C (w := .lst (good.map enc)) (.inl rfl)
    have fg2 := follow_good fu (rows := rows) hl (by omega) (by omega) C (w := .tup (good.map enc)) (.inr rfl)
    have so := same_ok fu (sets := sets) (by omega) fun l hl' x hx => hok x ((C.set l hl').sub hx)
    have hz : sets.length < 16777216 := by omega
    unfold tb at fg1 fg2
    refine seq_ends (Γ1 := GD ns p0 p1 p2 size mode names hid (.val (sLL rows)) j9 good sets bad j13 j14 j15 (.own (.lst (good.map enc))) (.val (.lst (rest.map enc))) (.val (hnd names rows good bad rest)) .emp (.val (tb names rows)) (.own (.lst (sets.map sT ++ [.tup []]))) .emp) ?_ (tk _)
    unfold sg_law_5
    refine if_t (Γ1 := GD ns p0 p1 p2 size mode names hid (.val (sLL rows)) j9 good sets bad j13 j14 j15 (.own (.lst (good.map enc))) (.val (.lst (rest.map enc))) (.val (hnd names rows good bad rest)) .emp (.val (tb names rows)) .emp .emp) ?_ ?_
    · unfold GD
      simp? only [c]
    unfold GD hnd tb
    apply seq_nx
    · simp? only [fg1]
      rfl
    apply seq_nx
    · simp? only [so]
      rfl
    apply seq_nx
    · simp? only [hz]
      rfl
    simp? only [fg2, so]
  · refine seq_ends (Γ1 := GD ns p0 p1 p2 size mode names hid (.val (sLL rows)) j9 good sets bad j13 j14 j15 (.own (.lst (good.map enc))) (.val (.lst (rest.map enc))) (.val (hnd names rows good bad rest)) .emp (.val (tb names rows)) .emp .emp) ?_ (tk _)
    unfold GD
    simp? only [c]
theorem r3 (fu : Nat) (hn : names.Nodup) (hl : names.length ≤ 12) (hp1 : 46 < p1.length) (hr : rows.length ≤ 48) (hsl : sets.length ≤ 100) (C : Chain names rows good sets) (hb : made names rows sets bad = none) (h0 : ∀ s ∈ names, nameOk s) (h2 : ∀ r ∈ rows, RowOk names r) (h3 : ∀ st ∈ good, okP st) (h4 : okP bad) :
    Ends (sg_law_11 fu (GD ns p0 p1 p2 size mode names hid (.own (sLL rows)) j9 good sets bad j13 j14 j15 (.own (.lst (good.map enc))) .emp .emp .emp .emp .emp .emp)) := by
  have a := at_map (f := D.int) (l := p1) (k := 46) 0 (by omega) (by omega)
  have f := fm_lt (p1.getD (46 : Int).toNat 0) (m := 3) (by decide)
  have go : ∀ rest : List Stp, rest.length ≤ 2 → (∀ st ∈ rest, okP st) → at1 (α := D) [.lst [], .lst [.tup [.str "all"]], .lst [.tup [.str "row", .int (-1)], .tup [.str "all"]]] ((p1.getD (46 : Int).toNat 0).fmod 3) = some (.lst (rest.map enc)) → Ends (sg_law_11 fu (GD ns p0 p1 p2 size mode names hid (.own (sLL rows)) j9 good sets bad j13 j14 j15 (.own (.lst (good.map enc))) .emp .emp .emp .emp .emp .emp)) := fun rest hq h5 hat => by
    unfold sg_law_11
    refine seq_ends (Γ1 := GD ns p0 p1 p2 size mode names hid (.own (sLL rows)) j9 good sets bad j13 j14 j15 (.own (.lst (good.map enc))) (.val (.lst (rest.map enc))) .emp .emp .emp .emp .emp) ?_ (r4 fu hn hl hr hsl hq C hb h0 h2 h3 h4 h5)
    unfold GD
    simp? only [a, hat]
  have hc : (p1.getD (46 : Int).toNat 0).fmod 3 = 0 ∨ (p1.getD (46 : Int).toNat 0).fmod 3 = 1 ∨ (p1.getD (46 : Int).toNat 0).fmod 3 = 2 := by omega
  rcases hc with h | h | h
  · exact go [] (by decide) (fun st h => by cases h) (by rw [h]; exact at_0)
  · exact go [.all] (by decide) (fun st h => by rw [List.mem_singleton.mp h]; exact okP_all) (by rw [h]; exact at_1)
  · exact go [.row (-1), .all] (by decide) (fun st h => by
      rcases List.mem_cons.mp h with rfl | h
      · exact okP_row
      · rw [List.mem_singleton.mp h]; exact okP_all) (by rw [h]; exact at_2)
/-- behind the loop over the steps -/
theorem r2 (fu : Nat) {m : Nat} {r : R (Ctl × Ed.Env)} (hn : names.Nodup) (hl : names.length ≤ 12) (hl7 : ∀ s ∈ names, s.length ≤ 7) (hp1 : 46 < p1.length) (hr : rows.length ≤ 48) (hm : m ≤ 100) (h0 : ∀ s ∈ names, nameOk s) (h2 : ∀ r ∈ rows, RowOk names r)
    (h : BZ ns p0 p1 p2 size mode names hid rows j9 m r) : ∃ Γ, r = .ok (.nx, Γ) ∧ Ends (sSeq (sIf (eAnd (tE (eB dGt (pE (eF (o1 dLen) (aCons (pN 10) aNil))) (pE (eC (.int 0))))) (tE (eB dEq (pN 12) (pE (eTup (lCons (eC (.str "one")) (lCons (eC (.str "stranger")) lNil)))))))
    (sSet 12 (eCall (F_law_bad fu) [true, true, true] (aCons (pE (eB dIx (pN 2) (pE (eC (.int 45))))) (aCons (pN 11) (aCons (pN 8) aNil)))))
    sNext)
  (sg_law_11 fu) Γ) := by
  obtain ⟨good, sets, bad, j13, j14, j15, rfl, hsl, C, h3, h4, hb⟩ := h
  refine ⟨_, rfl, ?_⟩
  have hs12 : ∀ l ∈ sets, l.length ≤ 12 := fun l hl' => by have := (C.set l hl').le; omega
  have hstr : ("stranger" : Str) ∉ names := fun z => by
    have := hl7 _ z
    have e : ("stranger" : Str).length = 8 := by decide +kernel
    omega
  have gl2 : (good.length : Int) = sets.length := by rw [C.1]
  have a := at_map (f := D.int) (l := p1) (k := 45) 0 (by omega) (by omega)
  have de : dEq (enc bad) (.tup [.str "one", .str "stranger"]) = some (.bl (deq (enc bad) (enc (.one "stranger")))) := by
    unfold dEq
    have o1 := h4.dat 59
    have o2 := (okP_one okS_str).dat 59
    have o2 : okDat 60 (.tup [.str "one", .str "stranger"]) = true := o2
    rw [o1, o2]
    simp; rfl
  by_cases c : (0 : Int) < sets.length
  · cases hd : deq (enc bad) (enc (.one "stranger")) with
    | true =>
      rw [hd] at de
      obtain ⟨st, hks, es, hmn⟩ := bad_ok fu (cs := names) (rows := rows) (sets := sets) (d := p1.getD (45 : Int).toNat 0) hs12 (by omega) (by omega) hstr
      refine seq_ends (Γ1 := GD ns p0 p1 p2 size mode names hid (.own (sLL rows)) j9 good sets st j13 j14 j15 (.own (.lst (good.map enc))) .emp .emp .emp .emp .emp .emp) ?_ ?_
      · unfold GB GD
        simp? only [gl2, c, de, a, es]
      · exact r3 fu hn hl hp1 hr (by omega) C hmn h0 h2 h3 hks
    | false =>
      rw [hd] at de
      have hmn : made names rows sets bad = none := by
        rcases hb with hb | ⟨_, hb⟩
        · exact hb
        · subst hb
          rw [deq_refl _ 60 ((okP_one okS_str).dat 59)] at hd
          cases hd
      refine seq_ends (Γ1 := GD ns p0 p1 p2 size mode names hid (.own (sLL rows)) j9 good sets bad j13 j14 j15 (.own (.lst (good.map enc))) .emp .emp .emp .emp .emp .emp) ?_ (r3 fu hn hl hp1 hr (by omega) C hmn h0 h2 h3 h4)
      unfold GB GD
      simp? only [gl2, c, de]
  · have hmn : made names rows sets bad = none := by
      rcases hb with hb | ⟨hb, _⟩
      · exact hb
      · exact absurd (by omega) c
    refine seq_ends (Γ1 := GD ns p0 p1 p2 size mode names hid (.own (sLL rows)) j9 good sets bad j13 j14 j15 (.own (.lst (good.map enc))) .emp .emp .emp .emp .emp .emp) ?_ (r3 fu hn hl hp1 hr (by omega) C hmn h0 h2 h3 h4)
    unfold GB GD
    simp? only [gl2, c]
theorem cut_le {α : Type} (l : List α) : (cut l (some 3) (some 9)).length ≤ 6 := by
  rw [cut_mid (by decide) (by decide), List.length_take]
  exact Nat.min_le_left _ _
/-- from the rows on -/
theorem r1 (hn : names.Nodup) (hl : names.length ≤ 12) (hl7 : ∀ s ∈ names, s.length ≤ 7) (hsz : size = names.length) (hp1 : p1.length = 60) (hp2 : p2.length = 60) (hr : rows.length ≤ 48) (h0 : ∀ s ∈ names, nameOk s) (h2 : ∀ r ∈ rows, RowOk names r) :
    Ends (sSeq (sOwn 10 (nLst lNil)) (sg_law_13 1) [.val (.scr ns), .val (iL p0), .val (iL p1), .val (iL p2), .val (.int size), .val (sL names), .val (sL hid), .val (.int mode), .own (sLL rows), j9, .emp, .emp, .emp, .emp, .emp, .emp, .emp, .emp, .emp, .emp, .emp, .emp]) := by
  have hok : ∀ s ∈ names, okS s := fun s hs => (h0 s hs).ok
  have a := at_map (f := D.int) (l := p2) (k := 0) 0 (by omega) (by omega)
  have f := fm_lt (p2.getD (0 : Int).toNat 0) (m := 40) (by decide)
  have bz := b_loop (ns := ns) (p0 := p0) (p1 := p1) (p2 := p2) (size := size) (mode := mode) (names := names) (hid := hid) (rows := rows) (j9 := j9) 1 (m := (1 + (p2.getD (0 : Int).toNat 0).fmod 40).toNat) hn hl hsz (by omega) hok (by omega) (by omega) (by omega) (by omega)
  obtain ⟨Γ, eb, hE⟩ := r2 1 hn hl hl7 (by omega) hr (by omega) h0 h2 bz
  unfold sg_law_13 sg_law_12
  refine seq_ends (Γ1 := [.val (.scr ns), .val (iL p0), .val (iL p1), .val (iL p2), .val (.int size), .val (sL names), .val (sL hid), .val (.int mode), .own (sLL rows), j9, .own (.lst []), .emp, .emp, .emp, .emp, .emp, .emp, .emp, .emp, .emp, .emp, .emp]) ?_ ?_
  · simp? only []
  refine seq_ends (Γ1 := [.val (.scr ns), .val (iL p0), .val (iL p1), .val (iL p2), .val (.int size), .val (sL names), .val (sL hid), .val (.int mode), .own (sLL rows), j9, .own (.lst []), .own (.lst []), .emp, .emp, .emp, .emp, .emp, .emp, .emp, .emp, .emp, .emp]) ?_ ?_
  · simp? only []
  refine seq_ends (Γ1 := GB ns p0 p1 p2 size mode names hid rows j9 [] [] strg .emp .emp .emp) ?_ ?_
  · unfold GB strg
    simp? only []
    rfl
  refine seq_ends (Γ1 := Γ) ?_ hE
  rw [sFor_ap]
  have ei : iRg1 (pE (eB dAdd (pE (eC (.int 1))) (pE (eB dMod (pE (eF (o1 dInt) (aCons (pE (eB dIx (pN 3) (pE (eC (.int 0))))) aNil))) (pE (eC (.int 40))))))) (GB ns p0 p1 p2 size mode names hid rows j9 [] [] strg .emp .emp .emp) = .ok (rngL 0 (1 + (p2.getD (0 : Int).toNat 0).fmod 40).toNat, GB ns p0 p1 p2 size mode names hid rows j9 [] [] strg .emp .emp .emp) := by
    unfold GB
    simp? only [a, kRg2_s (rngB_of (n := 1 + (p2.getD (0 : Int).toNat 0).fmod 40) (by omega) (by omega))]
  rw [ei, kFor_ok]
  exact eb
end
def FUEL : Nat := 1
theorem law_true (ns : List Int) (_ : ns.length ≤ 63) : F_law FUEL [.scr ns] = .ok (.fz (.bl true)) := by
  obtain ⟨p0, e0, l0, b0⟩ := pool_ok 1 ns (k := 0) (n := 60) (by decide) (by decide) (by decide)
  obtain ⟨p1, e1, l1, b1⟩ := pool_ok 1 ns (k := 1) (n := 60) (by decide) (by decide) (by decide)
  obtain ⟨p2, e2, l2, b2⟩ := pool_ok 1 ns (k := 2) (n := 60) (by decide) (by decide) (by decide)
  have l0 : p0.length = 60 := l0
  have l1 : p1.length = 60 := l1
  have l2 : p2.length = 60 := l2
  have a0 := at_map (f := D.int) (l := p0) (k := 0) 0 (by omega) (by omega)
  have a1 := at_map (f := D.int) (l := p0) (k := 1) 0 (by omega) (by omega)
  have a26 := at_map (f := D.int) (l := p0) (k := 26) 0 (by omega) (by omega)
  have a27 := at_map (f := D.int) (l := p0) (k := 27) 0 (by omega) (by omega)
  have a47 := at_map (f := D.int) (l := p1) (k := 47) 0 (by omega) (by omega)
  obtain ⟨sz, es, s0, s1, _⟩ := size_ok 1 (p0.getD (0 : Int).toNat 0) (m := 12) (by decide)
  obtain ⟨o, names, en, ho, hnl, hN⟩ := names_ok 1 (size := sz) (seed := p0.getD (1 : Int).toNat 0) s0 s1
  have hl : names.length ≤ 12 := by omega
  have hsz : sz = names.length := by omega
  have h0 : ∀ s ∈ names, nameOk s := fun s hs => (hN.2 s hs).1
  have hl7 : ∀ s ∈ names, s.length ≤ 7 := fun s hs => (hN.2 s hs).2
  obtain ⟨hid, eo, hp⟩ := order_ok 1 (ns := names) (pool := p0) (st := 2) (by decide) (by omega) (by omega)
  have hh : RowOk names hid := ⟨hp.nodup_iff.mpr hN.1, fun x hx => hp.mem_iff.mp hx⟩
  have f26 := fm_lt (p0.getD (26 : Int).toNat 0) (m := 7) (by decide)
  obtain ⟨rows0, er, hrl, hrow⟩ := rows_ok 1 (ns := names) (hid := hid) (pool := p0) (st := 14) (ct := (p0.getD (26 : Int).toNat 0).fmod 7) (md := (p0.getD (27 : Int).toNat 0).fmod 3) hN.1 hh (by omega) (by decide) f26.1 (by omega) (by omega)
  have hcut := cut_le ns
  obtain ⟨Γ', ec, rows, j9, rfl, hr2, hrow2⟩ := forL_m (g := gN 9) (s := lb_law_0 1) (f := D.int) (xs := cut ns (some 3) (some 9)) (P := CelI ns p0 p1 p2 sz ((p0.getD (27 : Int).toNat 0).fmod 3) names hid rows0.length) (Γ := [.val (.scr ns), .val (iL p0), .val (iL p1), .val (iL p2), .val (.int sz), .val (sL names), .val (sL hid), .val (.int ((p0.getD (27 : Int).toNat 0).fmod 3)), .own (sLL rows0), .emp, .emp, .emp, .emp, .emp, .emp, .emp, .emp, .emp, .emp, .emp, .emp, .emp]) ⟨rows0, _, rfl, rfl, hrow⟩ fun i x Γ hx p => cell_turn 1 hN.1 hh (by omega) (by have := get_lt hx; omega) p
  have hr12 : rows.length ≤ 12 := by omega
  have fe : ∀ r, Ends r → fin r = .ok (.fz (.bl true)) := fun r ⟨Γ, h⟩ => by rw [h]; rfl
  show F_law 1 [.scr ns] = _
  unfold F_law sv_law sg_law_18 sg_law_17 sg_law_16 sg_law_15 sg_law_14
  show runF [true] 21 _ [.scr ns] = _
  rw [runF_ap rfl]
  apply fe
  simp only [app_nil, app_cons, ins0_nil, ins0_cons, inSl_f, inSl_l, inSl_i, inSl_b, inSl_s, inSl_n, inSl_t, inSl_c, inSl_o, pad_0, pad_1]
  apply seq_ends
  · simp? only [e0]
    rfl
  apply seq_ends
  · simp? only [e1]
    rfl
  apply seq_ends
  · simp? only [e2]
    rfl
  apply seq_ends
  · simp? only [a0, es]
    rfl
  apply seq_ends
  · simp? only [a1, en, ho]
    rfl
  apply seq_ends
  · simp? only [eo]
    rfl
  apply seq_ends
  · simp? only [a27]
    rfl
  apply seq_ends
  · simp? only [a26, er]
    rfl
  apply seq_ends
  · simp? only [ec]
    rfl
  by_cases c : (p1.getD (47 : Int).toNat 0).fmod 8 = 7
  · have ad : ∀ x y : List (List Str), x.length ≤ 100 → y.length ≤ 100 → dAdd (.lst (x.map sL)) (.lst (y.map sL)) = some (sLL (x ++ y)) := fun x y hx hy => by
      rw [dAdd_L (by simp; omega), ← List.map_append]
    have cd : ∀ x y : List (List Str), x.length ≤ 100 → y.length ≤ 100 → dCat (.lst (x.map sL)) (.lst (y.map sL)) = some (sLL (x ++ y)) := fun x y hx hy => by
      rw [dCat_L (by simp; omega), ← List.map_append]
    have q1 := ad rows rows (by omega) (by omega)
    have q2 := ad (rows ++ rows) rows (by simp; omega) (by omega)
    have q3 := cd (rows ++ rows ++ rows) rows (by simp; omega) (by omega)
    apply seq_ends
    · simp? only [a47, c, q1, q2, q3]
      rfl
    refine r1 hN.1 hl hl7 hsz l1 l2 (by simp; omega) h0 fun r hr => ?_
    simp only [List.mem_append] at hr
    rcases hr with ((hr | hr) | hr) | hr <;> exact hrow2 r hr
  · have c' : ((p1.getD (47 : Int).toNat 0).fmod 8 == 7) = false := beq_eq_false_iff_ne.mpr c
    apply seq_ends
    · simp? only [a47, c']
      rfl
    exact r1 hN.1 hl hl7 hsz l1 l2 (by omega) h0 hrow2
end K24

set_option autoImplicit true
set_option Elab.async false
set_option linter.all false
set_option maxRecDepth 100000
set_option exponentiation.threshold 10000
set_option maxHeartbeats 4000000
namespace K24
open PySem L2 Ed
def top (i : Nat) : Stmt := PySem.Challenge.pw_unbrokenrows_k24_steps_followed.main.body.getD i (.Pass ⟨0, 0, 0, 0⟩)
abbrev s_pair_mask : Stmt := top 2
abbrev N_pair_mask : List Str := ["word", "one", "other", "common"]
theorem sc_pair_mask : FnScope N_pair_mask ["word", "one", "other"] (defScope s_pair_mask) := ⟨rfl, rfl, rfl, by decide +kernel, rfl, by decide +kernel, by decide +kernel⟩
abbrev s_is_pair_step : Stmt := top 3
abbrev N_is_pair_step : List Str := ["step"]
theorem sc_is_pair_step : FnScope N_is_pair_step ["step"] (defScope s_is_pair_step) := ⟨rfl, rfl, rfl, by decide +kernel, rfl, by decide +kernel, by decide +kernel⟩
abbrev s_mask_of : Stmt := top 14
abbrev N_mask_of : List Str := ["columns", "names", "mask", "number"]
theorem sc_mask_of : FnScope N_mask_of ["columns", "names"] (defScope s_mask_of) := ⟨rfl, rfl, rfl, by decide +kernel, rfl, by decide +kernel, by decide +kernel⟩
abbrev s_bits : Stmt := top 15
abbrev N_bits : List Str := ["mask", "number"]
theorem sc_bits : FnScope N_bits ["mask"] (defScope s_bits) := ⟨rfl, rfl, rfl, by decide +kernel, rfl, by decide +kernel, by decide +kernel⟩
abbrev s_names_of : Stmt := top 16
abbrev N_names_of : List Str := ["columns", "mask", "number"]
theorem sc_names_of : FnScope N_names_of ["columns", "mask"] (defScope s_names_of) := ⟨rfl, rfl, rfl, by decide +kernel, rfl, by decide +kernel, by decide +kernel⟩
abbrev s_full_mask : Stmt := top 17
abbrev N_full_mask : List Str := ["count"]
theorem sc_full_mask : FnScope N_full_mask ["count"] (defScope s_full_mask) := ⟨rfl, rfl, rfl, by decide +kernel, rfl, by decide +kernel, by decide +kernel⟩
abbrev s_is_name : Stmt := top 21
abbrev N_is_name : List Str := ["text", "letter"]
theorem sc_is_name : FnScope N_is_name ["text"] (defScope s_is_name) := ⟨rfl, rfl, rfl, by decide +kernel, rfl, by decide +kernel, by decide +kernel⟩
abbrev s_first_misnamed : Stmt := top 24
abbrev N_first_misnamed : List Str := ["columns", "index"]
theorem sc_first_misnamed : FnScope N_first_misnamed ["columns"] (defScope s_first_misnamed) := ⟨rfl, rfl, rfl, by decide +kernel, rfl, by decide +kernel, by decide +kernel⟩
abbrev s_is_row : Stmt := top 25
abbrev N_is_row : List Str := ["columns", "row", "index"]
theorem sc_is_row : FnScope N_is_row ["columns", "row"] (defScope s_is_row) := ⟨rfl, rfl, rfl, by decide +kernel, rfl, by decide +kernel, by decide +kernel⟩
abbrev s_common_names : Stmt := top 26
abbrev N_common_names : List Str := ["columns", "row", "name"]
theorem sc_common_names : FnScope N_common_names ["columns", "row"] (defScope s_common_names) := ⟨rfl, rfl, rfl, by decide +kernel, rfl, by decide +kernel, by decide +kernel⟩
abbrev s_BadTableD_initD : Stmt := inClass (top 10) 0
abbrev N_BadTableD_initD : List Str := ["self", "part", "index"]
theorem sc_BadTableD_initD : FnScope N_BadTableD_initD ["self", "part", "index"] (defScope s_BadTableD_initD) := ⟨rfl, rfl, rfl, by decide +kernel, rfl, by decide +kernel, by decide +kernel⟩
abbrev s_TableD_initD : Stmt := inClass (top 28) 2
abbrev N_TableD_initD : List Str := ["self", "columns", "rows", "index", "number", "row"]
theorem sc_TableD_initD : FnScope N_TableD_initD ["self", "columns", "rows"] (defScope s_TableD_initD) := ⟨rfl, rfl, rfl, by decide +kernel, rfl, by decide +kernel, by decide +kernel⟩
abbrev s_UnknownRowD_initD : Stmt := inClass (top 9) 0
abbrev N_UnknownRowD_initD : List Str := ["self", "number"]
theorem sc_UnknownRowD_initD : FnScope N_UnknownRowD_initD ["self", "number"] (defScope s_UnknownRowD_initD) := ⟨rfl, rfl, rfl, by decide +kernel, rfl, by decide +kernel, by decide +kernel⟩
abbrev s_TableD_getitemD : Stmt := inClass (top 28) 16
abbrev N_TableD_getitemD : List Str := ["self", "number"]
theorem sc_TableD_getitemD : FnScope N_TableD_getitemD ["self", "number"] (defScope s_TableD_getitemD) := ⟨rfl, rfl, rfl, by decide +kernel, rfl, by decide +kernel, by decide +kernel⟩
abbrev s_TableD_lenD : Stmt := inClass (top 28) 18
abbrev N_TableD_lenD : List Str := ["self"]
theorem sc_TableD_lenD : FnScope N_TableD_lenD ["self"] (defScope s_TableD_lenD) := ⟨rfl, rfl, rfl, by decide +kernel, rfl, by decide +kernel, by decide +kernel⟩
abbrev s_single_mask : Stmt := top 30
abbrev N_single_mask : List Str := ["table", "step"]
theorem sc_single_mask : FnScope N_single_mask ["table", "step"] (defScope s_single_mask) := ⟨rfl, rfl, rfl, by decide +kernel, rfl, by decide +kernel, by decide +kernel⟩
abbrev s_step_mask : Stmt := top 31
abbrev N_step_mask : List Str := ["table", "masks", "step"]
theorem sc_step_mask : FnScope N_step_mask ["table", "masks", "step"] (defScope s_step_mask) := ⟨rfl, rfl, rfl, by decide +kernel, rfl, by decide +kernel, by decide +kernel⟩
abbrev s_BadStepD_initD : Stmt := inClass (top 11) 0
abbrev N_BadStepD_initD : List Str := ["self", "index"]
theorem sc_BadStepD_initD : FnScope N_BadStepD_initD ["self", "index"] (defScope s_BadStepD_initD) := ⟨rfl, rfl, rfl, by decide +kernel, rfl, by decide +kernel, by decide +kernel⟩
abbrev s_follow : Stmt := top 32
abbrev N_follow : List Str := ["table", "steps", "masks", "index", "mask"]
theorem sc_follow : FnScope N_follow ["table", "steps"] (defScope s_follow) := ⟨rfl, rfl, rfl, by decide +kernel, rfl, by decide +kernel, by decide +kernel⟩
abbrev s_law_cell : Stmt := top 34
abbrev N_law_cell : List Str := ["script", "k"]
theorem sc_law_cell : FnScope N_law_cell ["script", "k"] (defScope s_law_cell) := ⟨rfl, rfl, rfl, by decide +kernel, rfl, by decide +kernel, by decide +kernel⟩
abbrev s_law_pool : Stmt := top 35
abbrev N_law_pool : List Str := ["script", "k", "count", "value", "pool", "i", "first", "second", "third"]
theorem sc_law_pool : FnScope N_law_pool ["script", "k", "count"] (defScope s_law_pool) := ⟨rfl, rfl, rfl, by decide +kernel, rfl, by decide +kernel, by decide +kernel⟩
abbrev s_law_size : Stmt := top 36
abbrev N_law_size : List Str := ["draw", "most", "sizes"]
theorem sc_law_size : FnScope N_law_size ["draw", "most"] (defScope s_law_size) := ⟨rfl, rfl, rfl, by decide +kernel, rfl, by decide +kernel, by decide +kernel⟩
abbrev s_law_names : Stmt := top 37
abbrev N_law_names : List Str := ["count", "seed", "words", "cut", "names", "k", "core", "left", "right"]
theorem sc_law_names : FnScope N_law_names ["count", "seed"] (defScope s_law_names) := ⟨rfl, rfl, rfl, by decide +kernel, rfl, by decide +kernel, by decide +kernel⟩
abbrev s_law_order : Stmt := top 38
abbrev N_law_order : List Str := ["names", "pool", "start", "left", "order", "k", "pick"]
theorem sc_law_order : FnScope N_law_order ["names", "pool", "start"] (defScope s_law_order) := ⟨rfl, rfl, rfl, by decide +kernel, rfl, by decide +kernel, by decide +kernel⟩
abbrev s_law_row : Stmt := top 39
abbrev N_law_row : List Str := ["names", "hidden", "draw", "free", "row", "name", "size", "first", "width", "cut"]
theorem sc_law_row : FnScope N_law_row ["names", "hidden", "draw", "free"] (defScope s_law_row) := ⟨rfl, rfl, rfl, by decide +kernel, rfl, by decide +kernel, by decide +kernel⟩
abbrev s_law_rows : Stmt := top 40
abbrev N_law_rows : List Str := ["names", "hidden", "pool", "start", "count", "mode", "rows", "k", "free"]
theorem sc_law_rows : FnScope N_law_rows ["names", "hidden", "pool", "start", "count", "mode"] (defScope s_law_rows) := ⟨rfl, rfl, rfl, by decide +kernel, rfl, by decide +kernel, by decide +kernel⟩
abbrev s_law_sorted : Stmt := top 41
abbrev N_law_sorted : List Str := ["names", "row", "name"]
theorem sc_law_sorted : FnScope N_law_sorted ["names", "row"] (defScope s_law_sorted) := ⟨rfl, rfl, rfl, by decide +kernel, rfl, by decide +kernel, by decide +kernel⟩
abbrev s_law_is_number : Stmt := top 42
abbrev N_law_is_number : List Str := ["value", "least", "most"]
theorem sc_law_is_number : FnScope N_law_is_number ["value", "least", "most"] (defScope s_law_is_number) := ⟨rfl, rfl, rfl, by decide +kernel, rfl, by decide +kernel, by decide +kernel⟩
abbrev s_law_step : Stmt := top 43
abbrev N_law_step : List Str := ["step", "sets", "names", "rows", "made", "one", "other", "both", "name"]
theorem sc_law_step : FnScope N_law_step ["step", "sets", "names", "rows"] (defScope s_law_step) := ⟨rfl, rfl, rfl, by decide +kernel, rfl, by decide +kernel, by decide +kernel⟩
abbrev s_law_drawn : Stmt := top 44
abbrev N_law_drawn : List Str := ["draw", "k", "names", "rows", "one", "other", "word", "known"]
theorem sc_law_drawn : FnScope N_law_drawn ["draw", "k", "names", "rows"] (defScope s_law_drawn) := ⟨rfl, rfl, rfl, by decide +kernel, rfl, by decide +kernel, by decide +kernel⟩
abbrev s_law_instead : Stmt := top 45
abbrev N_law_instead : List Str := ["word", "draw", "sets", "names", "rows", "many", "k", "step", "full", "i"]
theorem sc_law_instead : FnScope N_law_instead ["word", "draw", "sets", "names", "rows"] (defScope s_law_instead) := ⟨rfl, rfl, rfl, by decide +kernel, rfl, by decide +kernel, by decide +kernel⟩
abbrev s_law_pair : Stmt := top 46
abbrev N_law_pair : List Str := ["sets", "nested", "many", "i", "j", "both", "name"]
theorem sc_law_pair : FnScope N_law_pair ["sets", "nested"] (defScope s_law_pair) := ⟨rfl, rfl, rfl, by decide +kernel, rfl, by decide +kernel, by decide +kernel⟩
abbrev s_law_bad : Stmt := top 47
abbrev N_law_bad : List Str := ["draw", "sets", "rows", "many", "kinds"]
theorem sc_law_bad : FnScope N_law_bad ["draw", "sets", "rows"] (defScope s_law_bad) := ⟨rfl, rfl, rfl, by decide +kernel, rfl, by decide +kernel, by decide +kernel⟩
abbrev s_law_same : Stmt := top 48
abbrev N_law_same : List Str := ["found", "sets", "k"]
theorem sc_law_same : FnScope N_law_same ["found", "sets"] (defScope s_law_same) := ⟨rfl, rfl, rfl, by decide +kernel, rfl, by decide +kernel, by decide +kernel⟩
abbrev s_law_refusal : Stmt := top 49
abbrev N_law_refusal : List Str := ["table", "steps", "told", "e"]
theorem sc_law_refusal : FnScope N_law_refusal ["table", "steps"] (defScope s_law_refusal) := ⟨rfl, rfl, rfl, by decide +kernel, rfl, by decide +kernel, by decide +kernel⟩
abbrev s_law : Stmt := top 50
abbrev N_law : List Str := ["script", "p0", "p1", "p2", "size", "names", "hidden", "mode", "rows", "cell", "good", "sets", "bad", "k", "step", "made", "behind", "handed", "row", "table", "found", "told"]
theorem sc_law : FnScope N_law ["script"] (defScope s_law) := ⟨rfl, rfl, rfl, by decide +kernel, rfl, by decide +kernel, by decide +kernel⟩
structure Txt (K : PySem.W.Frag) (mg : Str → Option Value) where
  f_pair_mask : Addr
  fd_pair_mask : FuncData
  F_pair_mask : Fun K "pair_mask" "pair_mask" s_pair_mask f_pair_mask fd_pair_mask
  bd_pair_mask : Binds K fd_pair_mask ["word", "one", "other"] []
  k_pair_mask : PySem.W.keepIn K (.ref f_pair_mask) = true
  f_is_pair_step : Addr
  fd_is_pair_step : FuncData
  F_is_pair_step : Fun K "is_pair_step" "is_pair_step" s_is_pair_step f_is_pair_step fd_is_pair_step
  bd_is_pair_step : Binds K fd_is_pair_step ["step"] []
  k_is_pair_step : PySem.W.keepIn K (.ref f_is_pair_step) = true
  f_mask_of : Addr
  fd_mask_of : FuncData
  F_mask_of : Fun K "mask_of" "mask_of" s_mask_of f_mask_of fd_mask_of
  bd_mask_of : Binds K fd_mask_of ["columns", "names"] []
  k_mask_of : PySem.W.keepIn K (.ref f_mask_of) = true
  f_bits : Addr
  fd_bits : FuncData
  F_bits : Fun K "bits" "bits" s_bits f_bits fd_bits
  bd_bits : Binds K fd_bits ["mask"] []
  k_bits : PySem.W.keepIn K (.ref f_bits) = true
  f_names_of : Addr
  fd_names_of : FuncData
  F_names_of : Fun K "names_of" "names_of" s_names_of f_names_of fd_names_of
  bd_names_of : Binds K fd_names_of ["columns", "mask"] []
  k_names_of : PySem.W.keepIn K (.ref f_names_of) = true
  f_full_mask : Addr
  fd_full_mask : FuncData
  F_full_mask : Fun K "full_mask" "full_mask" s_full_mask f_full_mask fd_full_mask
  bd_full_mask : Binds K fd_full_mask ["count"] []
  k_full_mask : PySem.W.keepIn K (.ref f_full_mask) = true
  f_is_name : Addr
  fd_is_name : FuncData
  F_is_name : Fun K "is_name" "is_name" s_is_name f_is_name fd_is_name
  bd_is_name : Binds K fd_is_name ["text"] []
  k_is_name : PySem.W.keepIn K (.ref f_is_name) = true
  f_first_misnamed : Addr
  fd_first_misnamed : FuncData
  F_first_misnamed : Fun K "first_misnamed" "first_misnamed" s_first_misnamed f_first_misnamed fd_first_misnamed
  bd_first_misnamed : Binds K fd_first_misnamed ["columns"] []
  k_first_misnamed : PySem.W.keepIn K (.ref f_first_misnamed) = true
  f_is_row : Addr
  fd_is_row : FuncData
  F_is_row : Fun K "is_row" "is_row" s_is_row f_is_row fd_is_row
  bd_is_row : Binds K fd_is_row ["columns", "row"] []
  k_is_row : PySem.W.keepIn K (.ref f_is_row) = true
  f_common_names : Addr
  fd_common_names : FuncData
  F_common_names : Fun K "common_names" "common_names" s_common_names f_common_names fd_common_names
  bd_common_names : Binds K fd_common_names ["columns", "row"] []
  k_common_names : PySem.W.keepIn K (.ref f_common_names) = true
  f_BadTableD_initD : Addr
  fd_BadTableD_initD : FuncData
  F_BadTableD_initD : Fun K "__init__" "BadTable.__init__" s_BadTableD_initD f_BadTableD_initD fd_BadTableD_initD
  bd_BadTableD_initD : Binds K fd_BadTableD_initD ["self", "part", "index"] []
  k_BadTableD_initD : PySem.W.keepIn K (.ref f_BadTableD_initD) = true
  f_TableD_initD : Addr
  fd_TableD_initD : FuncData
  e_TableD_initD : Addr
  F_TableD_initD : FunD K "__init__" "Table.__init__" (defArgs s_TableD_initD) (defBody s_TableD_initD) (defScope s_TableD_initD) [(V.ref e_TableD_initD)] [] f_TableD_initD fd_TableD_initD
  ds1_TableD_initD : List Value
  dv1_TableD_initD : Vals [(V.ref e_TableD_initD)] ds1_TableD_initD
  bd1_TableD_initD : Binds K fd_TableD_initD ["self", "columns", "rows"] ds1_TableD_initD
  bd_TableD_initD : Binds K fd_TableD_initD ["self", "columns", "rows"] []
  k_TableD_initD : PySem.W.keepIn K (.ref f_TableD_initD) = true
  f_UnknownRowD_initD : Addr
  fd_UnknownRowD_initD : FuncData
  F_UnknownRowD_initD : Fun K "__init__" "UnknownRow.__init__" s_UnknownRowD_initD f_UnknownRowD_initD fd_UnknownRowD_initD
  bd_UnknownRowD_initD : Binds K fd_UnknownRowD_initD ["self", "number"] []
  k_UnknownRowD_initD : PySem.W.keepIn K (.ref f_UnknownRowD_initD) = true
  f_TableD_getitemD : Addr
  fd_TableD_getitemD : FuncData
  F_TableD_getitemD : Fun K "__getitem__" "Table.__getitem__" s_TableD_getitemD f_TableD_getitemD fd_TableD_getitemD
  bd_TableD_getitemD : Binds K fd_TableD_getitemD ["self", "number"] []
  k_TableD_getitemD : PySem.W.keepIn K (.ref f_TableD_getitemD) = true
  f_TableD_lenD : Addr
  fd_TableD_lenD : FuncData
  F_TableD_lenD : Fun K "__len__" "Table.__len__" s_TableD_lenD f_TableD_lenD fd_TableD_lenD
  bd_TableD_lenD : Binds K fd_TableD_lenD ["self"] []
  k_TableD_lenD : PySem.W.keepIn K (.ref f_TableD_lenD) = true
  f_single_mask : Addr
  fd_single_mask : FuncData
  F_single_mask : Fun K "single_mask" "single_mask" s_single_mask f_single_mask fd_single_mask
  bd_single_mask : Binds K fd_single_mask ["table", "step"] []
  k_single_mask : PySem.W.keepIn K (.ref f_single_mask) = true
  f_step_mask : Addr
  fd_step_mask : FuncData
  F_step_mask : Fun K "step_mask" "step_mask" s_step_mask f_step_mask fd_step_mask
  bd_step_mask : Binds K fd_step_mask ["table", "masks", "step"] []
  k_step_mask : PySem.W.keepIn K (.ref f_step_mask) = true
  f_BadStepD_initD : Addr
  fd_BadStepD_initD : FuncData
  F_BadStepD_initD : Fun K "__init__" "BadStep.__init__" s_BadStepD_initD f_BadStepD_initD fd_BadStepD_initD
  bd_BadStepD_initD : Binds K fd_BadStepD_initD ["self", "index"] []
  k_BadStepD_initD : PySem.W.keepIn K (.ref f_BadStepD_initD) = true
  f_follow : Addr
  fd_follow : FuncData
  F_follow : Fun K "follow" "follow" s_follow f_follow fd_follow
  bd_follow : Binds K fd_follow ["table", "steps"] []
  k_follow : PySem.W.keepIn K (.ref f_follow) = true
  f_law_cell : Addr
  fd_law_cell : FuncData
  F_law_cell : Fun K "_law_cell" "_law_cell" s_law_cell f_law_cell fd_law_cell
  bd_law_cell : Binds K fd_law_cell ["script", "k"] []
  k_law_cell : PySem.W.keepIn K (.ref f_law_cell) = true
  f_law_pool : Addr
  fd_law_pool : FuncData
  F_law_pool : Fun K "_law_pool" "_law_pool" s_law_pool f_law_pool fd_law_pool
  bd_law_pool : Binds K fd_law_pool ["script", "k", "count"] []
  k_law_pool : PySem.W.keepIn K (.ref f_law_pool) = true
  f_law_size : Addr
  fd_law_size : FuncData
  F_law_size : Fun K "_law_size" "_law_size" s_law_size f_law_size fd_law_size
  bd_law_size : Binds K fd_law_size ["draw", "most"] []
  k_law_size : PySem.W.keepIn K (.ref f_law_size) = true
  f_law_names : Addr
  fd_law_names : FuncData
  F_law_names : Fun K "_law_names" "_law_names" s_law_names f_law_names fd_law_names
  bd_law_names : Binds K fd_law_names ["count", "seed"] []
  k_law_names : PySem.W.keepIn K (.ref f_law_names) = true
  f_law_order : Addr
  fd_law_order : FuncData
  F_law_order : Fun K "_law_order" "_law_order" s_law_order f_law_order fd_law_order
  bd_law_order : Binds K fd_law_order ["names", "pool", "start"] []
  k_law_order : PySem.W.keepIn K (.ref f_law_order) = true
  f_law_row : Addr
  fd_law_row : FuncData
  F_law_row : Fun K "_law_row" "_law_row" s_law_row f_law_row fd_law_row
  bd_law_row : Binds K fd_law_row ["names", "hidden", "draw", "free"] []
  k_law_row : PySem.W.keepIn K (.ref f_law_row) = true
  f_law_rows : Addr
  fd_law_rows : FuncData
  F_law_rows : Fun K "_law_rows" "_law_rows" s_law_rows f_law_rows fd_law_rows
  bd_law_rows : Binds K fd_law_rows ["names", "hidden", "pool", "start", "count", "mode"] []
  k_law_rows : PySem.W.keepIn K (.ref f_law_rows) = true
  f_law_sorted : Addr
  fd_law_sorted : FuncData
  F_law_sorted : Fun K "_law_sorted" "_law_sorted" s_law_sorted f_law_sorted fd_law_sorted
  bd_law_sorted : Binds K fd_law_sorted ["names", "row"] []
  k_law_sorted : PySem.W.keepIn K (.ref f_law_sorted) = true
  f_law_is_number : Addr
  fd_law_is_number : FuncData
  F_law_is_number : Fun K "_law_is_number" "_law_is_number" s_law_is_number f_law_is_number fd_law_is_number
  bd_law_is_number : Binds K fd_law_is_number ["value", "least", "most"] []
  k_law_is_number : PySem.W.keepIn K (.ref f_law_is_number) = true
  f_law_step : Addr
  fd_law_step : FuncData
  F_law_step : Fun K "_law_step" "_law_step" s_law_step f_law_step fd_law_step
  bd_law_step : Binds K fd_law_step ["step", "sets", "names", "rows"] []
  k_law_step : PySem.W.keepIn K (.ref f_law_step) = true
  f_law_drawn : Addr
  fd_law_drawn : FuncData
  F_law_drawn : Fun K "_law_drawn" "_law_drawn" s_law_drawn f_law_drawn fd_law_drawn
  bd_law_drawn : Binds K fd_law_drawn ["draw", "k", "names", "rows"] []
  k_law_drawn : PySem.W.keepIn K (.ref f_law_drawn) = true
  f_law_instead : Addr
  fd_law_instead : FuncData
  F_law_instead : Fun K "_law_instead" "_law_instead" s_law_instead f_law_instead fd_law_instead
  bd_law_instead : Binds K fd_law_instead ["word", "draw", "sets", "names", "rows"] []
  k_law_instead : PySem.W.keepIn K (.ref f_law_instead) = true
  f_law_pair : Addr
  fd_law_pair : FuncData
  F_law_pair : Fun K "_law_pair" "_law_pair" s_law_pair f_law_pair fd_law_pair
  bd_law_pair : Binds K fd_law_pair ["sets", "nested"] []
  k_law_pair : PySem.W.keepIn K (.ref f_law_pair) = true
  f_law_bad : Addr
  fd_law_bad : FuncData
  F_law_bad : Fun K "_law_bad" "_law_bad" s_law_bad f_law_bad fd_law_bad
  bd_law_bad : Binds K fd_law_bad ["draw", "sets", "rows"] []
  k_law_bad : PySem.W.keepIn K (.ref f_law_bad) = true
  f_law_same : Addr
  fd_law_same : FuncData
  F_law_same : Fun K "_law_same" "_law_same" s_law_same f_law_same fd_law_same
  bd_law_same : Binds K fd_law_same ["found", "sets"] []
  k_law_same : PySem.W.keepIn K (.ref f_law_same) = true
  f_law_refusal : Addr
  fd_law_refusal : FuncData
  F_law_refusal : Fun K "_law_refusal" "_law_refusal" s_law_refusal f_law_refusal fd_law_refusal
  bd_law_refusal : Binds K fd_law_refusal ["table", "steps"] []
  k_law_refusal : PySem.W.keepIn K (.ref f_law_refusal) = true
  f_law : Addr
  fd_law : FuncData
  F_law : Fun K "law" "law" s_law f_law fd_law
  bd_law : Binds K fd_law ["script"] []
  k_law : PySem.W.keepIn K (.ref f_law) = true
  t_BITS : Addr
  C_Table : Addr
  C_BadTable : Addr
  C_UnknownRow : Addr
  C_BadStep : Addr
  C_Unknown : Addr
  C_Impossible : Addr
  C_RowsError : Addr
  tok_LONGEST_NAME : Tok
  tok_LETTERS : Tok
  tok_Table_MOST_COLUMNS : Tok
  tok_Table_MOST_ROWS : Tok
  b_range : mg "range" = none
  b_len : mg "len" = none
  b_BITS : mg "BITS" = some (.ref t_BITS)
  g_bits : mg "bits" = some (.ref f_bits)
  b_tuple : mg "tuple" = none
  b_sum : mg "sum" = none
  b_LONGEST_NAME : mg "LONGEST_NAME" = some (.int 8 tok_LONGEST_NAME)
  b_LETTERS : mg "LETTERS" = some (.str "abcdefghijklmnopqrstuvwxyz" tok_LETTERS)
  b_all : mg "all" = none
  g_is_name : mg "is_name" = some (.ref f_is_name)
  g_Table : mg "Table" = some (.ref C_Table)
  rd_Table : PySem.W.readsIn K C_Table (.type "type") = true
  sga_Table : PySem.W.specialIn K (.ref C_Table) "__getattribute__" = some (some (.builtin "type.__getattribute__"))
  cv_Table_MOST_COLUMNS : PySem.W.findCls K (.ref C_Table) (.type "type") "MOST_COLUMNS" = some (.val (.int 12 tok_Table_MOST_COLUMNS))
  g_BadTable : mg "BadTable" = some (.ref C_BadTable)
  bx_BadTable : PySem.W.subIn K (.ref C_BadTable) (.type "BaseException") = some true
  ty_BadTable : PySem.W.typeIn K (.ref C_BadTable) = some (.type "type")
  kc_BadTable : PySem.W.keepIn K (.ref C_BadTable) = true
  sa_BadTable : PySem.W.findIn K (.ref C_BadTable) "__setattr__" = some (some (.builtin "object.__setattr__"))
  a_BadTableD_initD : PySem.W.findIn K (.ref C_BadTable) "__init__" = some (some (.ref f_BadTableD_initD))
  tf_BadTableD_initD : PySem.W.typeIn K (.ref f_BadTableD_initD) = some (.type "function")
  na_BadTable_part : PySem.W.findIn K (.ref C_BadTable) "part" = some none
  na_BadTable_index : PySem.W.findIn K (.ref C_BadTable) "index" = some none
  g_first_misnamed : mg "first_misnamed" = some (.ref f_first_misnamed)
  cv_Table_MOST_ROWS : PySem.W.findCls K (.ref C_Table) (.type "type") "MOST_ROWS" = some (.val (.int 48 tok_Table_MOST_ROWS))
  g_is_row : mg "is_row" = some (.ref f_is_row)
  pg_Table : PySem.W.plainGet K C_Table Str.empty = true
  hd_Table : PySem.W.hasDictIn K C_Table = true
  po_Table : PySem.W.plainOver K C_Table = true
  sa_Table : PySem.W.findIn K (.ref C_Table) "__setattr__" = some (some (.builtin "object.__setattr__"))
  na_Table_columns : PySem.W.findIn K (.ref C_Table) "columns" = some none
  g_common_names : mg "common_names" = some (.ref f_common_names)
  na_Table_rows : PySem.W.findIn K (.ref C_Table) "rows" = some none
  g_UnknownRow : mg "UnknownRow" = some (.ref C_UnknownRow)
  bx_UnknownRow : PySem.W.subIn K (.ref C_UnknownRow) (.type "BaseException") = some true
  ty_UnknownRow : PySem.W.typeIn K (.ref C_UnknownRow) = some (.type "type")
  kc_UnknownRow : PySem.W.keepIn K (.ref C_UnknownRow) = true
  sa_UnknownRow : PySem.W.findIn K (.ref C_UnknownRow) "__setattr__" = some (some (.builtin "object.__setattr__"))
  a_UnknownRowD_initD : PySem.W.findIn K (.ref C_UnknownRow) "__init__" = some (some (.ref f_UnknownRowD_initD))
  tf_UnknownRowD_initD : PySem.W.typeIn K (.ref f_UnknownRowD_initD) = some (.type "function")
  na_UnknownRow_number : PySem.W.findIn K (.ref C_UnknownRow) "number" = some none
  g_full_mask : mg "full_mask" = some (.ref f_full_mask)
  g_mask_of : mg "mask_of" = some (.ref f_mask_of)
  a_TableD_lenD : PySem.W.findIn K (.ref C_Table) "__len__" = some (some (.ref f_TableD_lenD))
  i_TableD_lenD : PySem.W.isFn K (.ref f_TableD_lenD) = true
  fi_TableD_getitemD : PySem.W.fnIn K f_TableD_getitemD = true
  a_TableD_getitemD : PySem.W.findIn K (.ref C_Table) "__getitem__" = some (some (.ref f_TableD_getitemD))
  i_TableD_getitemD : PySem.W.isFn K (.ref f_TableD_getitemD) = true
  g_is_pair_step : mg "is_pair_step" = some (.ref f_is_pair_step)
  g_single_mask : mg "single_mask" = some (.ref f_single_mask)
  g_pair_mask : mg "pair_mask" = some (.ref f_pair_mask)
  g_step_mask : mg "step_mask" = some (.ref f_step_mask)
  g_BadStep : mg "BadStep" = some (.ref C_BadStep)
  bx_BadStep : PySem.W.subIn K (.ref C_BadStep) (.type "BaseException") = some true
  ty_BadStep : PySem.W.typeIn K (.ref C_BadStep) = some (.type "type")
  kc_BadStep : PySem.W.keepIn K (.ref C_BadStep) = true
  sa_BadStep : PySem.W.findIn K (.ref C_BadStep) "__setattr__" = some (some (.builtin "object.__setattr__"))
  a_BadStepD_initD : PySem.W.findIn K (.ref C_BadStep) "__init__" = some (some (.ref f_BadStepD_initD))
  tf_BadStepD_initD : PySem.W.typeIn K (.ref f_BadStepD_initD) = some (.type "function")
  na_BadStep_index : PySem.W.findIn K (.ref C_BadStep) "index" = some none
  g_names_of : mg "names_of" = some (.ref f_names_of)
  g_law_cell : mg "_law_cell" = some (.ref f_law_cell)
  b_abs : mg "abs" = none
  b_int : mg "int" = none
  b_min : mg "min" = none
  b_list : mg "list" = none
  g_law_row : mg "_law_row" = some (.ref f_law_row)
  b_isinstance : mg "isinstance" = none
  b_bool : mg "bool" = none
  g_law_is_number : mg "_law_is_number" = some (.ref f_law_is_number)
  g_law_sorted : mg "_law_sorted" = some (.ref f_law_sorted)
  g_law_step : mg "_law_step" = some (.ref f_law_step)
  b_max : mg "max" = none
  g_law_pair : mg "_law_pair" = some (.ref f_law_pair)
  g_follow : mg "follow" = some (.ref f_follow)
  g_Unknown : mg "Unknown" = some (.ref C_Unknown)
  g_Impossible : mg "Impossible" = some (.ref C_Impossible)
  eg_BadStep : PySem.W.findIn K (.ref C_BadStep) "__getattribute__" = some (some (.builtin "BaseException.__getattribute__"))
  ek_BadStep : PySem.W.findIn K (.ref C_BadStep) "__getattr__" = some none
  hd_BadStep : PySem.W.hasDictIn K C_BadStep = true
  ha_BadStep : PySem.W.findIn K (.ref C_BadStep) "__class__" = some (some (.builtin "object.__class__"))
  hn_get : PySem.W.specialIn K (.builtin "object.__class__") "__get__" = some (some (.builtin "getset_descriptor.__get__"))
  ht_get : PySem.W.takesIn K (.builtin "object.__class__") = some true
  hm_BadStep : PySem.W.mroIn K C_BadStep (.type "object") = some true
  ic_Unknown : PySem.W.isClsIn K C_Unknown = true
  ty_Unknown : PySem.W.typeIn K (.ref C_Unknown) = some (.type "type")
  su_Unknown_of_BadStep : PySem.W.subIn K (.ref C_BadStep) (.ref C_Unknown) = some false
  su_Unknown_of_Unknown : PySem.W.subIn K (.ref C_Unknown) (.ref C_Unknown) = some true
  ic_Impossible : PySem.W.isClsIn K C_Impossible = true
  ty_Impossible : PySem.W.typeIn K (.ref C_Impossible) = some (.type "type")
  su_Impossible_of_BadStep : PySem.W.subIn K (.ref C_BadStep) (.ref C_Impossible) = some false
  su_Impossible_of_Impossible : PySem.W.subIn K (.ref C_Impossible) (.ref C_Impossible) = some true
  g_RowsError : mg "RowsError" = some (.ref C_RowsError)
  ic_RowsError : PySem.W.isClsIn K C_RowsError = true
  ty_RowsError : PySem.W.typeIn K (.ref C_RowsError) = some (.type "type")
  su_RowsError_of_BadStep : PySem.W.subIn K (.ref C_BadStep) (.ref C_RowsError) = some true
  b_ValueError : mg "ValueError" = none
  kt_BadStep_ValueError : PySem.W.subIn K (.ref C_BadStep) (.type "ValueError") = some true
  su_BadStep_of_BadStep : PySem.W.subIn K (.ref C_BadStep) (.ref C_BadStep) = some true
  g_law_pool : mg "_law_pool" = some (.ref f_law_pool)
  g_law_size : mg "_law_size" = some (.ref f_law_size)
  g_law_names : mg "_law_names" = some (.ref f_law_names)
  g_law_order : mg "_law_order" = some (.ref f_law_order)
  g_law_rows : mg "_law_rows" = some (.ref f_law_rows)
  g_law_drawn : mg "_law_drawn" = some (.ref f_law_drawn)
  g_law_instead : mg "_law_instead" = some (.ref f_law_instead)
  g_law_bad : mg "_law_bad" = some (.ref f_law_bad)
  mkc_Table : PySem.W.makesIn K C_Table = true
  kc_Table : PySem.W.keepIn K (.ref C_Table) = true
  a_TableD_initD : PySem.W.findIn K (.ref C_Table) "__init__" = some (some (.ref f_TableD_initD))
  i_TableD_initD : PySem.W.isFn K (.ref f_TableD_initD) = true
  g_law_same : mg "_law_same" = some (.ref f_law_same)
  g_law_refusal : mg "_law_refusal" = some (.ref f_law_refusal)
  g_law : mg "law" = some (.ref f_law)
  oex_BadTable : OexC K C_BadTable
  oex_UnknownRow : OexC K C_UnknownRow
  oex_BadStep : OexC K C_BadStep
  tc_t_BITS : ∀ (cn : Cn) F, Rep K cn F (.ref t_BITS) (.tup [.int 1, .int 2, .int 4, .int 8, .int 16, .int 32, .int 64, .int 128, .int 256, .int 512, .int 1024, .int 2048])
  tc_e_TableD_initD : ∀ (cn : Cn) F, Rep K cn F (.ref e_TableD_initD) (.tup [])
section
variable {P : Program} {w : World} {K : PySem.W.Frag} {mg : Str → Option Value} {base : Heap}
def cnT (T : Txt K mg) : Cn := ⟨fun c => match c with | 0 => T.C_Table | 1 => T.C_BadTable | 2 => T.C_UnknownRow | 3 => T.C_BadStep | 4 => T.C_Unknown | 5 => T.C_Impossible | 6 => T.C_RowsError | _ => T.C_Table, fun f => match f with | 0 => "part" | 1 => "index" | 2 => "columns" | 3 => "rows" | 4 => "number" | _ => "?", none⟩
theorem fa_inj_0 (T : Txt K mg) : ∀ g, (cnT T).fa g = (cnT T).fa 0 → g = 0
  | 0, _ => rfl
  | 1, h => absurd (show ("index" : Str) = "part" from h) (by decide)
  | 2, h => absurd (show ("columns" : Str) = "part" from h) (by decide)
  | 3, h => absurd (show ("rows" : Str) = "part" from h) (by decide)
  | 4, h => absurd (show ("number" : Str) = "part" from h) (by decide)
  | _ + 5, h => absurd (show ("?" : Str) = "part" from h) (by decide)
theorem fa_inj_1 (T : Txt K mg) : ∀ g, (cnT T).fa g = (cnT T).fa 1 → g = 1
  | 0, h => absurd (show ("part" : Str) = "index" from h) (by decide)
  | 1, _ => rfl
  | 2, h => absurd (show ("columns" : Str) = "index" from h) (by decide)
  | 3, h => absurd (show ("rows" : Str) = "index" from h) (by decide)
  | 4, h => absurd (show ("number" : Str) = "index" from h) (by decide)
  | _ + 5, h => absurd (show ("?" : Str) = "index" from h) (by decide)
theorem fa_inj_2 (T : Txt K mg) : ∀ g, (cnT T).fa g = (cnT T).fa 2 → g = 2
  | 0, h => absurd (show ("part" : Str) = "columns" from h) (by decide)
  | 1, h => absurd (show ("index" : Str) = "columns" from h) (by decide)
  | 2, _ => rfl
  | 3, h => absurd (show ("rows" : Str) = "columns" from h) (by decide)
  | 4, h => absurd (show ("number" : Str) = "columns" from h) (by decide)
  | _ + 5, h => absurd (show ("?" : Str) = "columns" from h) (by decide)
theorem fa_inj_3 (T : Txt K mg) : ∀ g, (cnT T).fa g = (cnT T).fa 3 → g = 3
  | 0, h => absurd (show ("part" : Str) = "rows" from h) (by decide)
  | 1, h => absurd (show ("index" : Str) = "rows" from h) (by decide)
  | 2, h => absurd (show ("columns" : Str) = "rows" from h) (by decide)
  | 3, _ => rfl
  | 4, h => absurd (show ("number" : Str) = "rows" from h) (by decide)
  | _ + 5, h => absurd (show ("?" : Str) = "rows" from h) (by decide)
theorem fa_inj_4 (T : Txt K mg) : ∀ g, (cnT T).fa g = (cnT T).fa 4 → g = 4
  | 0, h => absurd (show ("part" : Str) = "number" from h) (by decide)
  | 1, h => absurd (show ("index" : Str) = "number" from h) (by decide)
  | 2, h => absurd (show ("columns" : Str) = "number" from h) (by decide)
  | 3, h => absurd (show ("rows" : Str) = "number" from h) (by decide)
  | 4, _ => rfl
  | _ + 5, h => absurd (show ("?" : Str) = "number" from h) (by decide)
theorem fa_inj (T : Txt K mg) : ∀ f g, (cnT T).fa f = (cnT T).fa g → (cnT T).fa f ≠ "?" → f = g := fun f g => match g with
  | 0 => fun h _ => fa_inj_0 T f h
  | 1 => fun h _ => fa_inj_1 T f h
  | 2 => fun h _ => fa_inj_2 T f h
  | 3 => fun h _ => fa_inj_3 T f h
  | 4 => fun h _ => fa_inj_4 T f h
  | _ + 5 => fun h n => absurd h n
theorem ok_pair_mask (fu : Nat) (T : Txt K mg) : FnOk P w K mg base (L2.CX P w) 1 T.f_pair_mask T.fd_pair_mask ["word", "one", "other"] (spD K (cnT T) [true, true, true] (F_pair_mask fu)) :=
  okD (n := 1) T.F_pair_mask sc_pair_mask rfl rfl (fun _ => rfl) fun cdv A outer s H E hr =>
  have tk : Takes (cxOf (L2.CX P w) P w K mg base N_pair_mask "pair_mask" (defScope s_pair_mask) T.f_pair_mask cdv A outer s H E) (fun cls d _ H => E cls d H) := takes_of rfl rfl rfl rfl
  have hp : PassesOwn (model P w) (cxOf (L2.CX P w) P w K mg base N_pair_mask "pair_mask" (defScope s_pair_mask) T.f_pair_mask cdv A outer s H E).A (cxOf (L2.CX P w) P w K mg base N_pair_mask "pair_mask" (defScope s_pair_mask) T.f_pair_mask cdv A outer s H E).env (cxOf (L2.CX P w) P w K mg base N_pair_mask "pair_mask" (defScope s_pair_mask) T.f_pair_mask cdv A outer s H E).xe := passes_of rfl
  (jss_cons (js_set (i := 3) sc_pair_mask.nd rfl (by first | exact Or.inl rfl | exact Or.inr rfl) (je_op op_and r_band (jq_n 1) (jq_n 2)))
  (jss_cons (js_if (jt_cmp (op_eqDD hr.units) r_eq (jq_n 3) (jq_e je_int) (nomark _))
    (jss_one (js_ret je_int))
    jss_nil)
  (jss_cons (js_if (jt_cmp (op_eqDD hr.units) r_eq (jq_n 0) (jq_e je_str) (nomark _))
    (jss_one (js_ret (je_n 3)))
    jss_nil)
  (jss_cons (js_if (jt_cmp (op_eqDD hr.units) r_eq (jq_n 0) (jq_e je_str) (nomark _))
    (jss_one (js_ret (je_op op_or r_bor (jq_n 1) (jq_n 2))))
    jss_nil)
  (jss_cons (js_if (jt_w (jw_or (jt_cmp (op_eqDD hr.units) r_eq (jq_n 3) (jq_n 1) (nomark _)) (jw_or1 (jt_cmp (op_eqDD hr.units) r_eq (jq_n 3) (jq_n 2) (nomark _)))))
    (jss_one (js_ret je_int))
    jss_nil)
  (jss_one (js_ret (je_op op_sub r_sub (jq_n 1) (jq_n 3)))))))))
theorem ok_is_pair_step (fu : Nat) (T : Txt K mg) : FnOk P w K mg base (L2.CX P w) 1 T.f_is_pair_step T.fd_is_pair_step ["step"] (spD K (cnT T) [true] (F_is_pair_step fu)) :=
  okD (n := 0) T.F_is_pair_step sc_is_pair_step rfl rfl (fun _ => rfl) fun cdv A outer s H E hr =>
  have tk : Takes (cxOf (L2.CX P w) P w K mg base N_is_pair_step "is_pair_step" (defScope s_is_pair_step) T.f_is_pair_step cdv A outer s H E) (fun cls d _ H => E cls d H) := takes_of rfl rfl rfl rfl
  have hp : PassesOwn (model P w) (cxOf (L2.CX P w) P w K mg base N_is_pair_step "is_pair_step" (defScope s_is_pair_step) T.f_is_pair_step cdv A outer s H E).A (cxOf (L2.CX P w) P w K mg base N_is_pair_step "is_pair_step" (defScope s_is_pair_step) T.f_is_pair_step cdv A outer s H E).env (cxOf (L2.CX P w) P w K mg base N_is_pair_step "is_pair_step" (defScope s_is_pair_step) T.f_is_pair_step cdv A outer s H E).xe := passes_of rfl
  (jss_one (js_ret (je_cmp (op_inDD hr.units65) r_in (jq_e (je_ix (jq_n 0) (jq_e je_int))) (jq_e (je_tup (jl_cons je_str (jl_cons je_str (jl_cons je_str jl_nil))))) (by rfl))))
theorem ok_mask_of (fu : Nat) (T : Txt K mg) : FnOk P w K mg base (L2.CX P w) 1 T.f_mask_of T.fd_mask_of ["columns", "names"] (spD K (cnT T) [true, true] (F_mask_of fu)) :=
  okD (n := 2) T.F_mask_of sc_mask_of rfl rfl (fun _ => rfl) fun cdv A outer s H E hr =>
  have tk : Takes (cxOf (L2.CX P w) P w K mg base N_mask_of "mask_of" (defScope s_mask_of) T.f_mask_of cdv A outer s H E) (fun cls d _ H => E cls d H) := takes_of rfl rfl rfl rfl
  have hp : PassesOwn (model P w) (cxOf (L2.CX P w) P w K mg base N_mask_of "mask_of" (defScope s_mask_of) T.f_mask_of cdv A outer s H E).A (cxOf (L2.CX P w) P w K mg base N_mask_of "mask_of" (defScope s_mask_of) T.f_mask_of cdv A outer s H E).env (cxOf (L2.CX P w) P w K mg base N_mask_of "mask_of" (defScope s_mask_of) T.f_mask_of cdv A outer s H E).xe := passes_of rfl
  (jss_cons (js_set (i := 2) sc_mask_of.nd rfl (by first | exact Or.inl rfl | exact Or.inr rfl) je_int)
  (jss_cons (js_for hp rfl (ji_rg1 (by rfl) T.b_range (jq_e (je_bi call_lenA r_len (by rfl) T.b_len (by decide +kernel) (ja_cons (jq_n 0) ja_nil)))) (jg_n 3 sc_mask_of.nd)
    (jss_one (js_if (jt_cmp (op_inDD hr.units65) r_in (jq_e (je_ix (jq_n 0) (jq_n 3))) (jq_n 1) (by rfl))
    (jss_one (js_set (i := 2) sc_mask_of.nd rfl (by first | exact Or.inl rfl | exact Or.inr rfl) (je_op op_addD r_add (jq_n 2) (jq_e (je_ix (jq_e (je_tupc (by rfl) T.b_BITS (T.tc_t_BITS _))) (jq_n 3))))))
    jss_nil)))
  (jss_one (js_ret (je_n 2)))))
theorem ok_bits (fu : Nat) (T : Txt K mg) : FnOk P w K mg base (L2.CX P w) 1 T.f_bits T.fd_bits ["mask"] (spD K (cnT T) [true] (F_bits fu)) :=
  okD (n := 1) T.F_bits sc_bits rfl rfl (fun _ => rfl) fun cdv A outer s H E hr =>
  have tk : Takes (cxOf (L2.CX P w) P w K mg base N_bits "bits" (defScope s_bits) T.f_bits cdv A outer s H E) (fun cls d _ H => E cls d H) := takes_of rfl rfl rfl rfl
  have hp : PassesOwn (model P w) (cxOf (L2.CX P w) P w K mg base N_bits "bits" (defScope s_bits) T.f_bits cdv A outer s H E).A (cxOf (L2.CX P w) P w K mg base N_bits "bits" (defScope s_bits) T.f_bits cdv A outer s H E).env (cxOf (L2.CX P w) P w K mg base N_bits "bits" (defScope s_bits) T.f_bits cdv A outer s H E).xe := passes_of rfl
  (jss_one (js_retO (jn_lc (own := [("number", 1)]) rfl rfl sc_bits.nd (ji_rg1 (by rfl) T.b_range (jq_e (je_bi call_lenA r_len (by rfl) T.b_len (by decide +kernel) (ja_cons (jq_e (je_tupc (by rfl) T.b_BITS (T.tc_t_BITS _))) ja_nil)))) (blkOk_by (own := [("number", 1)]) (N := N_bits) (sc := defScope s_bits) (by decide +kernel)) (fun _ _ _ _ _ => (jgc_n (i := 1) sc_bits.nd rfl (by first | exact Or.inl rfl | exact Or.inr rfl) (by decide) (by first | exact .inl rfl | exact .inr rfl))) (fun _ _ _ _ _ => (jts_one (jt_cmp (op_neDD hr.units) r_ne (jq_e (je_op op_and r_band (jq_n 0) (jq_e (je_ix (jq_e (je_tupc (by rfl) T.b_BITS (T.tc_t_BITS _))) (jq_n 1))))) (jq_e je_int) (nomark _)))) (fun _ _ _ _ _ => (je_n 1)))))
theorem ok_names_of (fu : Nat) (T : Txt K mg) : FnOk P w K mg base (L2.CX P w) 2 T.f_names_of T.fd_names_of ["columns", "mask"] (spD K (cnT T) [true, true] (F_names_of fu)) :=
  okD (n := 1) T.F_names_of sc_names_of rfl rfl (fun _ => rfl) fun cdv A outer s H E hr =>
  have tk : Takes (cxOf (L2.CX P w) P w K mg base N_names_of "names_of" (defScope s_names_of) T.f_names_of cdv A outer s H E) (fun cls d _ H => E cls d H) := takes_of rfl rfl rfl rfl
  have hp : PassesOwn (model P w) (cxOf (L2.CX P w) P w K mg base N_names_of "names_of" (defScope s_names_of) T.f_names_of cdv A outer s H E).A (cxOf (L2.CX P w) P w K mg base N_names_of "names_of" (defScope s_names_of) T.f_names_of cdv A outer s H E).env (cxOf (L2.CX P w) P w K mg base N_names_of "names_of" (defScope s_names_of) T.f_names_of cdv A outer s H E).xe := passes_of rfl
  (jss_one (js_ret (je_ty call_tuple_of r_tupleof (by rfl) T.b_tuple (by decide +kernel) (ja_cons (jq_e (je_of_jn (jn_lc (own := [("number", 2)]) rfl rfl sc_names_of.nd (ji_e (je_call (ok_bits fu T) (hr.mono (by decide)) (by rfl) T.g_bits T.k_bits T.bd_bits tk (ja_cons (jq_n 1) ja_nil))) (blkOk_by (own := [("number", 2)]) (N := N_names_of) (sc := defScope s_names_of) (by decide +kernel)) (fun _ _ _ _ _ => (jgc_n (i := 2) sc_names_of.nd rfl (by first | exact Or.inl rfl | exact Or.inr rfl) (by decide) (by first | exact .inl rfl | exact .inr rfl))) (fun _ _ _ _ _ => jts_nil) (fun _ _ _ _ _ => (je_ix (jq_n 0) (jq_n 2)))))) ja_nil))))
theorem ok_full_mask (fu : Nat) (T : Txt K mg) : FnOk P w K mg base (L2.CX P w) 1 T.f_full_mask T.fd_full_mask ["count"] (spD K (cnT T) [true] (F_full_mask fu)) :=
  okD (n := 0) T.F_full_mask sc_full_mask rfl rfl (fun _ => rfl) fun cdv A outer s H E hr =>
  have tk : Takes (cxOf (L2.CX P w) P w K mg base N_full_mask "full_mask" (defScope s_full_mask) T.f_full_mask cdv A outer s H E) (fun cls d _ H => E cls d H) := takes_of rfl rfl rfl rfl
  have hp : PassesOwn (model P w) (cxOf (L2.CX P w) P w K mg base N_full_mask "full_mask" (defScope s_full_mask) T.f_full_mask cdv A outer s H E).A (cxOf (L2.CX P w) P w K mg base N_full_mask "full_mask" (defScope s_full_mask) T.f_full_mask cdv A outer s H E).env (cxOf (L2.CX P w) P w K mg base N_full_mask "full_mask" (defScope s_full_mask) T.f_full_mask cdv A outer s H E).xe := passes_of rfl
  (jss_one (js_ret (je_bi (cr_sumT rfl) r_sumT (by rfl) T.b_sum (by decide +kernel) (ja_cons (jq_e (je_sl (jq_e (je_tupc (by rfl) T.b_BITS (T.tc_t_BITS _))) jp_none (jp_some (jq_n 0)))) ja_nil))))
theorem ok_is_name (fu : Nat) (T : Txt K mg) : FnOk P w K mg base (L2.CX P w) 1 T.f_is_name T.fd_is_name ["text"] (spD K (cnT T) [true] (F_is_name fu)) :=
  okD (n := 1) T.F_is_name sc_is_name rfl rfl (fun _ => rfl) fun cdv A outer s H E hr =>
  have tk : Takes (cxOf (L2.CX P w) P w K mg base N_is_name "is_name" (defScope s_is_name) T.f_is_name cdv A outer s H E) (fun cls d _ H => E cls d H) := takes_of rfl rfl rfl rfl
  have hp : PassesOwn (model P w) (cxOf (L2.CX P w) P w K mg base N_is_name "is_name" (defScope s_is_name) T.f_is_name cdv A outer s H E).A (cxOf (L2.CX P w) P w K mg base N_is_name "is_name" (defScope s_is_name) T.f_is_name cdv A outer s H E).env (cxOf (L2.CX P w) P w K mg base N_is_name "is_name" (defScope s_is_name) T.f_is_name cdv A outer s H E).xe := passes_of rfl
  (jss_cons (js_if (jt_not (jt_chain op_le r_le bl_le op_le r_le (jq_e je_int) (jq_e (je_bi call_lenA r_len (by rfl) T.b_len (by decide +kernel) (ja_cons (jq_n 0) ja_nil))) (jq_e (je_c (t := tC (.int 8)) (pe_glob (v := .int 8) (by rfl) T.b_LONGEST_NAME ⟨_, rfl⟩) (fun _ => .int _)))))
    (jss_one (js_ret je_bl))
    jss_nil)
  (jss_one (js_ret (je_bi (cr_all rfl) r_all (by rfl) T.b_all (by decide +kernel) (ja_cons (jq_e (je_of_jn (jn_lc (own := [("letter", 1)]) rfl rfl sc_is_name.nd (ji_str (jq_n 0)) (blkOk_by (own := [("letter", 1)]) (N := N_is_name) (sc := defScope s_is_name) (by decide +kernel)) (fun _ _ _ _ _ => (jgc_n (i := 1) sc_is_name.nd rfl (by first | exact Or.inl rfl | exact Or.inr rfl) (by decide) (by first | exact .inl rfl | exact .inr rfl))) (fun _ _ _ _ _ => jts_nil) (fun _ _ _ _ _ => (je_cmp (op_inDD hr.units65) r_in (jq_n 1) (jq_e (je_c (t := tC (.str "abcdefghijklmnopqrstuvwxyz")) (pe_glob (v := .str "abcdefghijklmnopqrstuvwxyz") (by rfl) T.b_LETTERS ⟨_, rfl⟩) (fun _ => .str _))) (by rfl)))))) ja_nil)))))
theorem ok_first_misnamed (fu : Nat) (T : Txt K mg) : FnOk P w K mg base (L2.CX P w) 2 T.f_first_misnamed T.fd_first_misnamed ["columns"] (spD K (cnT T) [true] (F_first_misnamed fu)) :=
  okD (n := 1) T.F_first_misnamed sc_first_misnamed rfl rfl (fun _ => rfl) fun cdv A outer s H E hr =>
  have tk : Takes (cxOf (L2.CX P w) P w K mg base N_first_misnamed "first_misnamed" (defScope s_first_misnamed) T.f_first_misnamed cdv A outer s H E) (fun cls d _ H => E cls d H) := takes_of rfl rfl rfl rfl
  have hp : PassesOwn (model P w) (cxOf (L2.CX P w) P w K mg base N_first_misnamed "first_misnamed" (defScope s_first_misnamed) T.f_first_misnamed cdv A outer s H E).A (cxOf (L2.CX P w) P w K mg base N_first_misnamed "first_misnamed" (defScope s_first_misnamed) T.f_first_misnamed cdv A outer s H E).env (cxOf (L2.CX P w) P w K mg base N_first_misnamed "first_misnamed" (defScope s_first_misnamed) T.f_first_misnamed cdv A outer s H E).xe := passes_of rfl
  (jss_cons (js_for hp rfl (ji_rg1 (by rfl) T.b_range (jq_e (je_bi call_lenA r_len (by rfl) T.b_len (by decide +kernel) (ja_cons (jq_n 0) ja_nil)))) (jg_n 1 sc_first_misnamed.nd)
    (jss_one (js_if (jt_w (jw_or (jt_not (jt_e (je_call (ok_is_name fu T) (hr.mono (by decide)) (by rfl) T.g_is_name T.k_is_name T.bd_is_name tk (ja_cons (jq_e (je_ix (jq_n 0) (jq_n 1))) ja_nil)))) (jw_or1 (jt_cmp (op_inDD hr.units65) r_in (jq_e (je_ix (jq_n 0) (jq_n 1))) (jq_e (je_sl (jq_n 0) jp_none (jp_some (jq_n 1)))) (by rfl)))))
    (jss_one (js_ret (je_n 1)))
    jss_nil)))
  (jss_one (js_ret (je_un un_neg r_neg (jq_e je_int)))))
theorem ok_is_row (fu : Nat) (T : Txt K mg) : FnOk P w K mg base (L2.CX P w) 1 T.f_is_row T.fd_is_row ["columns", "row"] (spD K (cnT T) [true, true] (F_is_row fu)) :=
  okD (n := 1) T.F_is_row sc_is_row rfl rfl (fun _ => rfl) fun cdv A outer s H E hr =>
  have tk : Takes (cxOf (L2.CX P w) P w K mg base N_is_row "is_row" (defScope s_is_row) T.f_is_row cdv A outer s H E) (fun cls d _ H => E cls d H) := takes_of rfl rfl rfl rfl
  have hp : PassesOwn (model P w) (cxOf (L2.CX P w) P w K mg base N_is_row "is_row" (defScope s_is_row) T.f_is_row cdv A outer s H E).A (cxOf (L2.CX P w) P w K mg base N_is_row "is_row" (defScope s_is_row) T.f_is_row cdv A outer s H E).env (cxOf (L2.CX P w) P w K mg base N_is_row "is_row" (defScope s_is_row) T.f_is_row cdv A outer s H E).xe := passes_of rfl
  (jss_cons (js_for hp rfl (ji_rg1 (by rfl) T.b_range (jq_e (je_bi call_lenA r_len (by rfl) T.b_len (by decide +kernel) (ja_cons (jq_n 1) ja_nil)))) (jg_n 2 sc_is_row.nd)
    (jss_one (js_if (jt_w (jw_or (jt_cmp (op_ninDD hr.units65) r_nin (jq_e (je_ix (jq_n 1) (jq_n 2))) (jq_n 0) (by rfl)) (jw_or1 (jt_cmp (op_inDD hr.units65) r_in (jq_e (je_ix (jq_n 1) (jq_n 2))) (jq_e (je_sl (jq_n 1) jp_none (jp_some (jq_n 2)))) (by rfl)))))
    (jss_one (js_ret je_bl))
    jss_nil)))
  (jss_one (js_ret je_bl)))
theorem ok_common_names (fu : Nat) (T : Txt K mg) : FnOk P w K mg base (L2.CX P w) 1 T.f_common_names T.fd_common_names ["columns", "row"] (spD K (cnT T) [true, true] (F_common_names fu)) :=
  okD (n := 1) T.F_common_names sc_common_names rfl rfl (fun _ => rfl) fun cdv A outer s H E hr =>
  have tk : Takes (cxOf (L2.CX P w) P w K mg base N_common_names "common_names" (defScope s_common_names) T.f_common_names cdv A outer s H E) (fun cls d _ H => E cls d H) := takes_of rfl rfl rfl rfl
  have hp : PassesOwn (model P w) (cxOf (L2.CX P w) P w K mg base N_common_names "common_names" (defScope s_common_names) T.f_common_names cdv A outer s H E).A (cxOf (L2.CX P w) P w K mg base N_common_names "common_names" (defScope s_common_names) T.f_common_names cdv A outer s H E).env (cxOf (L2.CX P w) P w K mg base N_common_names "common_names" (defScope s_common_names) T.f_common_names cdv A outer s H E).xe := passes_of rfl
  (jss_one (js_retO (jn_lc (own := [("name", 2)]) rfl rfl sc_common_names.nd (ji_n 0) (blkOk_by (own := [("name", 2)]) (N := N_common_names) (sc := defScope s_common_names) (by decide +kernel)) (fun _ _ _ _ _ => (jgc_n (i := 2) sc_common_names.nd rfl (by first | exact Or.inl rfl | exact Or.inr rfl) (by decide) (by first | exact .inl rfl | exact .inr rfl))) (fun _ _ _ _ _ => (jts_one (jt_cmp (op_inDD hr.units65) r_in (jq_n 2) (jq_n 1) (by rfl)))) (fun _ _ _ _ _ => (je_n 2)))))
theorem okx_BadTableD_initD (T : Txt K mg) : FnOk P w K mg base CX0 1 T.f_BadTableD_initD T.fd_BadTableD_initD ["self", "part", "index"] (spXv T.C_BadTable ["part", "index"]) :=
  T.F_BadTableD_initD.ok sc_BadTableD_initD (fun vs H Q E h => by obtain ⟨a, ws, rfl, hl, _⟩ := h; simpa using hl) fun cdv A outer s H vs Q E hr h => by
    obtain ⟨a, ws, rfl, hl, ha, k⟩ := h
    match ws, hl with
    | [w1, w2], _ => exact ⟨_, (pss_cons (ps_ost (pe_var (i := 0) rfl (by first | exact Or.inl rfl | exact Or.inr (Or.inl rfl))) (pe_var (i := 1) rfl (by first | exact Or.inl rfl | exact Or.inr (Or.inl rfl)))) (pss_one (ps_ost (pe_var (i := 0) rfl (by first | exact Or.inl rfl | exact Or.inr (Or.inl rfl))) (pe_var (i := 2) rfl (by first | exact Or.inl rfl | exact Or.inr (Or.inl rfl)))))), ost2 T.oex_BadTable T.na_BadTable_part T.na_BadTable_index ha k⟩
theorem ok_TableD_initD (fu : Nat) (T : Txt K mg) : FnOk P w K mg base (L2.CX P w) 3 T.f_TableD_initD T.fd_TableD_initD ["self", "columns", "rows"] (spI K (cnT T) 0 [true, true] (F_TableD_initD fu)) :=
  okID (n := 3) (c := 0) T.F_TableD_initD sc_TableD_initD rfl rfl (fun _ => rfl) fun cdv A outer s H E hr =>
  have tk : Takes (cxOf (L2.CX P w) P w K mg base N_TableD_initD "Table.__init__" (defScope s_TableD_initD) T.f_TableD_initD cdv A outer s H E) (fun cls d _ H => E cls d H) := takes_of rfl rfl rfl rfl
  have hp : PassesOwn (model P w) (cxOf (L2.CX P w) P w K mg base N_TableD_initD "Table.__init__" (defScope s_TableD_initD) T.f_TableD_initD cdv A outer s H E).A (cxOf (L2.CX P w) P w K mg base N_TableD_initD "Table.__init__" (defScope s_TableD_initD) T.f_TableD_initD cdv A outer s H E).env (cxOf (L2.CX P w) P w K mg base N_TableD_initD "Table.__init__" (defScope s_TableD_initD) T.f_TableD_initD cdv A outer s H E).xe := passes_of rfl
  (jss_cons (js_if (jt_cmp op_gt r_gt (jq_e (je_bi call_lenA r_len (by rfl) T.b_len (by decide +kernel) (ja_cons (jq_n 1) ja_nil))) (jq_e (je_cval (v := .int 12) (by rfl) T.g_Table ⟨T.rd_Table, T.sga_Table⟩ ⟨T.cv_Table_MOST_COLUMNS, ⟨_, rfl⟩⟩ (fun _ => .int _))) (nomark _))
    (jss_one (js_raiseO (c := 1) (cs := [0, 1]) (fl := ["part", "index"]) rfl tk (fa_inj T) ⟨rfl, by decide, ⟨rfl, by decide, True.intro⟩⟩ (by decide) (by decide) T.oex_BadTable T.a_BadTableD_initD T.tf_BadTableD_initD (okx_BadTableD_initD T) (hr.mono (by decide)) T.bd_BadTableD_initD (by rfl) T.g_BadTable (jl_cons je_str (jl_cons je_int jl_nil)) (len_cons (len_cons len_nil))))
    jss_nil)
  (jss_cons (js_set (i := 3) sc_TableD_initD.nd rfl (by first | exact Or.inl rfl | exact Or.inr rfl) (je_call (ok_first_misnamed fu T) (hr.mono (by decide)) (by rfl) T.g_first_misnamed T.k_first_misnamed T.bd_first_misnamed tk (ja_cons (jq_n 1) ja_nil)))
  (jss_cons (js_if (jt_cmp op_ge r_ge (jq_n 3) (jq_e je_int) (nomark _))
    (jss_one (js_raiseO (c := 1) (cs := [0, 1]) (fl := ["part", "index"]) rfl tk (fa_inj T) ⟨rfl, by decide, ⟨rfl, by decide, True.intro⟩⟩ (by decide) (by decide) T.oex_BadTable T.a_BadTableD_initD T.tf_BadTableD_initD (okx_BadTableD_initD T) (hr.mono (by decide)) T.bd_BadTableD_initD (by rfl) T.g_BadTable (jl_cons je_str (jl_cons (je_n 3) jl_nil)) (len_cons (len_cons len_nil))))
    jss_nil)
  (jss_cons (js_if (jt_cmp op_gt r_gt (jq_e (je_bi call_lenA r_len (by rfl) T.b_len (by decide +kernel) (ja_cons (jq_n 2) ja_nil))) (jq_e (je_cval (v := .int 48) (by rfl) T.g_Table ⟨T.rd_Table, T.sga_Table⟩ ⟨T.cv_Table_MOST_ROWS, ⟨_, rfl⟩⟩ (fun _ => .int _))) (nomark _))
    (jss_one (js_raiseO (c := 1) (cs := [0, 1]) (fl := ["part", "index"]) rfl tk (fa_inj T) ⟨rfl, by decide, ⟨rfl, by decide, True.intro⟩⟩ (by decide) (by decide) T.oex_BadTable T.a_BadTableD_initD T.tf_BadTableD_initD (okx_BadTableD_initD T) (hr.mono (by decide)) T.bd_BadTableD_initD (by rfl) T.g_BadTable (jl_cons je_str (jl_cons je_int jl_nil)) (len_cons (len_cons len_nil))))
    jss_nil)
  (jss_cons (js_for hp rfl (ji_rg1 (by rfl) T.b_range (jq_e (je_bi call_lenA r_len (by rfl) T.b_len (by decide +kernel) (ja_cons (jq_n 2) ja_nil)))) (jg_n 4 sc_TableD_initD.nd)
    (jss_one (js_if (jt_not (jt_e (je_call (ok_is_row fu T) (hr.mono (by decide)) (by rfl) T.g_is_row T.k_is_row T.bd_is_row tk (ja_cons (jq_n 1) (ja_cons (jq_e (je_ix (jq_n 2) (jq_n 4))) ja_nil)))))
    (jss_one (js_raiseO (c := 1) (cs := [0, 1]) (fl := ["part", "index"]) rfl tk (fa_inj T) ⟨rfl, by decide, ⟨rfl, by decide, True.intro⟩⟩ (by decide) (by decide) T.oex_BadTable T.a_BadTableD_initD T.tf_BadTableD_initD (okx_BadTableD_initD T) (hr.mono (by decide)) T.bd_BadTableD_initD (by rfl) T.g_BadTable (jl_cons je_str (jl_cons (je_n 4) jl_nil)) (len_cons (len_cons len_nil))))
    jss_nil)))
  (jss_cons (js_fld (c := 0) (f := 2) (je_ty call_tuple_of r_tupleof (by rfl) T.b_tuple (by decide +kernel) (ja_cons (jq_n 1) ja_nil)) rfl (fa_inj_2 T) ⟨T.pg_Table, T.hd_Table, T.po_Table, T.sa_Table⟩ T.na_Table_columns)
  (jss_one (js_fld (c := 0) (f := 3) (je_ty call_tuple_of r_tupleof (by rfl) T.b_tuple (by decide +kernel) (ja_cons (jq_e (je_of_jn (jn_lc (own := [("row", 5)]) rfl rfl sc_TableD_initD.nd (ji_n 2) (blkOk_by (own := [("row", 5)]) (N := N_TableD_initD) (sc := defScope s_TableD_initD) (by decide +kernel)) (fun _ _ _ _ _ => (jgc_n (i := 5) sc_TableD_initD.nd rfl (by first | exact Or.inl rfl | exact Or.inr rfl) (by decide) (by first | exact .inl rfl | exact .inr rfl))) (fun _ _ _ _ _ => jts_nil) (fun _ _ _ _ _ => (je_ty call_tuple_of r_tupleof (by rfl) T.b_tuple (by decide +kernel) (ja_cons (jq_e (je_call (ok_common_names fu T) (hr.mono (by decide)) (by rfl) T.g_common_names T.k_common_names T.bd_common_names takesW (ja_cons (jq_n 1) (ja_cons (jq_n 5) ja_nil)))) ja_nil)))))) ja_nil)) rfl (fa_inj_3 T) ⟨T.pg_Table, T.hd_Table, T.po_Table, T.sa_Table⟩ T.na_Table_rows))))))))
theorem okx_UnknownRowD_initD (T : Txt K mg) : FnOk P w K mg base CX0 1 T.f_UnknownRowD_initD T.fd_UnknownRowD_initD ["self", "number"] (spXv T.C_UnknownRow ["number"]) :=
  T.F_UnknownRowD_initD.ok sc_UnknownRowD_initD (fun vs H Q E h => by obtain ⟨a, ws, rfl, hl, _⟩ := h; simpa using hl) fun cdv A outer s H vs Q E hr h => by
    obtain ⟨a, ws, rfl, hl, ha, k⟩ := h
    match ws, hl with
    | [w1], _ => exact ⟨_, (pss_one (ps_ost (pe_var (i := 0) rfl (by first | exact Or.inl rfl | exact Or.inr (Or.inl rfl))) (pe_var (i := 1) rfl (by first | exact Or.inl rfl | exact Or.inr (Or.inl rfl))))), ost1 T.oex_UnknownRow T.na_UnknownRow_number ha k⟩
theorem ok_TableD_getitemD (fu : Nat) (T : Txt K mg) : FnOk P w K mg base (L2.CX P w) 3 T.f_TableD_getitemD T.fd_TableD_getitemD ["self", "number"] (spD K (cnT T) [false, false] (F_TableD_getitemD fu)) :=
  okD (n := 0) T.F_TableD_getitemD sc_TableD_getitemD rfl rfl (fun _ => rfl) fun cdv A outer s H E hr =>
  have tk : Takes (cxOf (L2.CX P w) P w K mg base N_TableD_getitemD "Table.__getitem__" (defScope s_TableD_getitemD) T.f_TableD_getitemD cdv A outer s H E) (fun cls d _ H => E cls d H) := takes_of rfl rfl rfl rfl
  have hp : PassesOwn (model P w) (cxOf (L2.CX P w) P w K mg base N_TableD_getitemD "Table.__getitem__" (defScope s_TableD_getitemD) T.f_TableD_getitemD cdv A outer s H E).A (cxOf (L2.CX P w) P w K mg base N_TableD_getitemD "Table.__getitem__" (defScope s_TableD_getitemD) T.f_TableD_getitemD cdv A outer s H E).env (cxOf (L2.CX P w) P w K mg base N_TableD_getitemD "Table.__getitem__" (defScope s_TableD_getitemD) T.f_TableD_getitemD cdv A outer s H E).xe := passes_of rfl
  (jss_cons (js_if (jt_not (jt_chain op_le r_le bl_le op_lt r_lt (jq_e je_int) (jq_n 1) (jq_e (je_bi call_lenA r_len (by rfl) T.b_len (by decide +kernel) (ja_cons (jq_e (je_fld (c := 0) (f := 3) (je_n 0) rfl (fa_inj_3 T) ⟨T.pg_Table, T.hd_Table, T.po_Table, T.sa_Table⟩ T.na_Table_rows)) ja_nil)))))
    (jss_one (js_raiseO (c := 2) (cs := [4]) (fl := ["number"]) rfl tk (fa_inj T) ⟨rfl, by decide, True.intro⟩ (by decide) (by decide) T.oex_UnknownRow T.a_UnknownRowD_initD T.tf_UnknownRowD_initD (okx_UnknownRowD_initD T) (hr.mono (by decide)) T.bd_UnknownRowD_initD (by rfl) T.g_UnknownRow (jl_cons (je_n 1) jl_nil) (len_cons len_nil)))
    jss_nil)
  (jss_one (js_ret (je_ix (jq_e (je_fld (c := 0) (f := 3) (je_n 0) rfl (fa_inj_3 T) ⟨T.pg_Table, T.hd_Table, T.po_Table, T.sa_Table⟩ T.na_Table_rows)) (jq_n 1)))))
theorem ok_TableD_lenD (fu : Nat) (T : Txt K mg) : FnOk P w K mg base (L2.CX P w) 1 T.f_TableD_lenD T.fd_TableD_lenD ["self"] (spD K (cnT T) [false] (F_TableD_lenD fu)) :=
  okD (n := 0) T.F_TableD_lenD sc_TableD_lenD rfl rfl (fun _ => rfl) fun cdv A outer s H E hr =>
  have tk : Takes (cxOf (L2.CX P w) P w K mg base N_TableD_lenD "Table.__len__" (defScope s_TableD_lenD) T.f_TableD_lenD cdv A outer s H E) (fun cls d _ H => E cls d H) := takes_of rfl rfl rfl rfl
  have hp : PassesOwn (model P w) (cxOf (L2.CX P w) P w K mg base N_TableD_lenD "Table.__len__" (defScope s_TableD_lenD) T.f_TableD_lenD cdv A outer s H E).A (cxOf (L2.CX P w) P w K mg base N_TableD_lenD "Table.__len__" (defScope s_TableD_lenD) T.f_TableD_lenD cdv A outer s H E).env (cxOf (L2.CX P w) P w K mg base N_TableD_lenD "Table.__len__" (defScope s_TableD_lenD) T.f_TableD_lenD cdv A outer s H E).xe := passes_of rfl
  (jss_one (js_ret (je_bi call_lenA r_len (by rfl) T.b_len (by decide +kernel) (ja_cons (jq_e (je_fld (c := 0) (f := 3) (je_n 0) rfl (fa_inj_3 T) ⟨T.pg_Table, T.hd_Table, T.po_Table, T.sa_Table⟩ T.na_Table_rows)) ja_nil))))
theorem ok_single_mask (fu : Nat) (T : Txt K mg) : FnOk P w K mg base (L2.CX P w) 5 T.f_single_mask T.fd_single_mask ["table", "step"] (spD K (cnT T) [true, true] (F_single_mask fu)) :=
  okD (n := 0) T.F_single_mask sc_single_mask rfl rfl (fun _ => rfl) fun cdv A outer s H E hr =>
  have tk : Takes (cxOf (L2.CX P w) P w K mg base N_single_mask "single_mask" (defScope s_single_mask) T.f_single_mask cdv A outer s H E) (fun cls d _ H => E cls d H) := takes_of rfl rfl rfl rfl
  have hp : PassesOwn (model P w) (cxOf (L2.CX P w) P w K mg base N_single_mask "single_mask" (defScope s_single_mask) T.f_single_mask cdv A outer s H E).A (cxOf (L2.CX P w) P w K mg base N_single_mask "single_mask" (defScope s_single_mask) T.f_single_mask cdv A outer s H E).env (cxOf (L2.CX P w) P w K mg base N_single_mask "single_mask" (defScope s_single_mask) T.f_single_mask cdv A outer s H E).xe := passes_of rfl
  (jss_cons (js_if (jt_cmp (op_eqDD hr.units) r_eq (jq_e (je_ix (jq_n 1) (jq_e je_int))) (jq_e je_str) (nomark _))
    (jss_one (js_ret (je_call (ok_full_mask fu T) (hr.mono (by decide)) (by rfl) T.g_full_mask T.k_full_mask T.bd_full_mask tk (ja_cons (jq_e (je_bi call_lenA r_len (by rfl) T.b_len (by decide +kernel) (ja_cons (jq_e (je_fld (c := 0) (f := 2) (je_n 0) rfl (fa_inj_2 T) ⟨T.pg_Table, T.hd_Table, T.po_Table, T.sa_Table⟩ T.na_Table_columns)) ja_nil))) ja_nil))))
    jss_nil)
  (jss_cons (js_if (jt_cmp (op_eqDD hr.units) r_eq (jq_e (je_ix (jq_n 1) (jq_e je_int))) (jq_e je_str) (nomark _))
    (jss_one (js_ret (je_call (ok_mask_of fu T) (hr.mono (by decide)) (by rfl) T.g_mask_of T.k_mask_of T.bd_mask_of tk (ja_cons (jq_e (je_fld (c := 0) (f := 2) (je_n 0) rfl (fa_inj_2 T) ⟨T.pg_Table, T.hd_Table, T.po_Table, T.sa_Table⟩ T.na_Table_columns)) (ja_cons (jq_e (je_of_jn (jn_lst (jl_cons (je_ix (jq_n 1) (jq_e je_int)) jl_nil)))) ja_nil)))))
    jss_nil)
  (jss_cons (js_if (jt_chain op_le r_le bl_le op_lt r_lt (jq_e je_int) (jq_e (je_ix (jq_n 1) (jq_e je_int))) (jq_e (je_ownLen (c := 0) ⟨T.a_TableD_lenD, T.i_TableD_lenD, T.k_TableD_lenD⟩ (ok_TableD_lenD fu T) (hr.mono (by decide)) T.bd_TableD_lenD tk (by rfl) T.b_len (je_n 0))))
    (jss_one (js_ret (je_call (ok_mask_of fu T) (hr.mono (by decide)) (by rfl) T.g_mask_of T.k_mask_of T.bd_mask_of tk (ja_cons (jq_e (je_fld (c := 0) (f := 2) (je_n 0) rfl (fa_inj_2 T) ⟨T.pg_Table, T.hd_Table, T.po_Table, T.sa_Table⟩ T.na_Table_columns)) (ja_cons (jq_e (je_ownIx (c := 0) ⟨T.a_TableD_getitemD, T.i_TableD_getitemD, T.k_TableD_getitemD⟩ T.fi_TableD_getitemD (ok_TableD_getitemD fu T) (hr.mono (by decide)) T.bd_TableD_getitemD tk (je_n 0) (je_ix (jq_n 1) (jq_e je_int)))) ja_nil)))))
    jss_nil)
  (jss_one (js_ret je_int)))))
theorem ok_step_mask (fu : Nat) (T : Txt K mg) : FnOk P w K mg base (L2.CX P w) 6 T.f_step_mask T.fd_step_mask ["table", "masks", "step"] (spD K (cnT T) [true, true, true] (F_step_mask fu)) :=
  okD (n := 0) T.F_step_mask sc_step_mask rfl rfl (fun _ => rfl) fun cdv A outer s H E hr =>
  have tk : Takes (cxOf (L2.CX P w) P w K mg base N_step_mask "step_mask" (defScope s_step_mask) T.f_step_mask cdv A outer s H E) (fun cls d _ H => E cls d H) := takes_of rfl rfl rfl rfl
  have hp : PassesOwn (model P w) (cxOf (L2.CX P w) P w K mg base N_step_mask "step_mask" (defScope s_step_mask) T.f_step_mask cdv A outer s H E).A (cxOf (L2.CX P w) P w K mg base N_step_mask "step_mask" (defScope s_step_mask) T.f_step_mask cdv A outer s H E).env (cxOf (L2.CX P w) P w K mg base N_step_mask "step_mask" (defScope s_step_mask) T.f_step_mask cdv A outer s H E).xe := passes_of rfl
  (jss_cons (js_if (jt_not (jt_e (je_call (ok_is_pair_step fu T) (hr.mono (by decide)) (by rfl) T.g_is_pair_step T.k_is_pair_step T.bd_is_pair_step tk (ja_cons (jq_n 2) ja_nil))))
    (jss_one (js_ret (je_call (ok_single_mask fu T) (hr.mono (by decide)) (by rfl) T.g_single_mask T.k_single_mask T.bd_single_mask tk (ja_cons (jq_n 0) (ja_cons (jq_n 2) ja_nil)))))
    jss_nil)
  (jss_cons (js_if (jt_w (jw_or (jt_not (jt_chain op_le r_le bl_le op_lt r_lt (jq_e je_int) (jq_e (je_ix (jq_n 2) (jq_e je_int))) (jq_e (je_bi call_lenA r_len (by rfl) T.b_len (by decide +kernel) (ja_cons (jq_n 1) ja_nil))))) (jw_or1 (jt_not (jt_chain op_le r_le bl_le op_lt r_lt (jq_e je_int) (jq_e (je_ix (jq_n 2) (jq_e je_int))) (jq_e (je_bi call_lenA r_len (by rfl) T.b_len (by decide +kernel) (ja_cons (jq_n 1) ja_nil))))))))
    (jss_one (js_ret je_int))
    jss_nil)
  (jss_one (js_ret (je_call (ok_pair_mask fu T) (hr.mono (by decide)) (by rfl) T.g_pair_mask T.k_pair_mask T.bd_pair_mask tk (ja_cons (jq_e (je_ix (jq_n 2) (jq_e je_int))) (ja_cons (jq_e (je_ix (jq_n 1) (jq_e (je_ix (jq_n 2) (jq_e je_int))))) (ja_cons (jq_e (je_ix (jq_n 1) (jq_e (je_ix (jq_n 2) (jq_e je_int))))) ja_nil))))))))
theorem okx_BadStepD_initD (T : Txt K mg) : FnOk P w K mg base CX0 1 T.f_BadStepD_initD T.fd_BadStepD_initD ["self", "index"] (spXv T.C_BadStep ["index"]) :=
  T.F_BadStepD_initD.ok sc_BadStepD_initD (fun vs H Q E h => by obtain ⟨a, ws, rfl, hl, _⟩ := h; simpa using hl) fun cdv A outer s H vs Q E hr h => by
    obtain ⟨a, ws, rfl, hl, ha, k⟩ := h
    match ws, hl with
    | [w1], _ => exact ⟨_, (pss_one (ps_ost (pe_var (i := 0) rfl (by first | exact Or.inl rfl | exact Or.inr (Or.inl rfl))) (pe_var (i := 1) rfl (by first | exact Or.inl rfl | exact Or.inr (Or.inl rfl))))), ost1 T.oex_BadStep T.na_BadStep_index ha k⟩
theorem ok_follow (fu : Nat) (T : Txt K mg) : FnOk P w K mg base (L2.CX P w) 7 T.f_follow T.fd_follow ["table", "steps"] (spD K (cnT T) [true, true] (F_follow fu)) :=
  okD (n := 3) T.F_follow sc_follow rfl rfl (fun _ => rfl) fun cdv A outer s H E hr =>
  have tk : Takes (cxOf (L2.CX P w) P w K mg base N_follow "follow" (defScope s_follow) T.f_follow cdv A outer s H E) (fun cls d _ H => E cls d H) := takes_of rfl rfl rfl rfl
  have hp : PassesOwn (model P w) (cxOf (L2.CX P w) P w K mg base N_follow "follow" (defScope s_follow) T.f_follow cdv A outer s H E).A (cxOf (L2.CX P w) P w K mg base N_follow "follow" (defScope s_follow) T.f_follow cdv A outer s H E).env (cxOf (L2.CX P w) P w K mg base N_follow "follow" (defScope s_follow) T.f_follow cdv A outer s H E).xe := passes_of rfl
  (jss_cons (js_own (i := 2) sc_follow.nd rfl (by first | exact Or.inl rfl | exact Or.inr rfl) (jn_lst jl_nil))
  (jss_cons (js_for hp rfl (ji_rg1 (by rfl) T.b_range (jq_e (je_bi call_lenA r_len (by rfl) T.b_len (by decide +kernel) (ja_cons (jq_n 1) ja_nil)))) (jg_n 3 sc_follow.nd)
    (jss_cons (js_set (i := 4) sc_follow.nd rfl (by first | exact Or.inl rfl | exact Or.inr rfl) (je_call (ok_step_mask fu T) (hr.mono (by decide)) (by rfl) T.g_step_mask T.k_step_mask T.bd_step_mask tk (ja_cons (jq_n 0) (ja_cons (jq_n 2) (ja_cons (jq_e (je_ix (jq_n 1) (jq_n 3))) ja_nil)))))
  (jss_cons (js_if (jt_cmp (op_eqDD hr.units) r_eq (jq_n 4) (jq_e je_int) (nomark _))
    (jss_one (js_raiseO (c := 3) (cs := [1]) (fl := ["index"]) rfl tk (fa_inj T) ⟨rfl, by decide, True.intro⟩ (by decide) (by decide) T.oex_BadStep T.a_BadStepD_initD T.tf_BadStepD_initD (okx_BadStepD_initD T) (hr.mono (by decide)) T.bd_BadStepD_initD (by rfl) T.g_BadStep (jl_cons (je_n 3) jl_nil) (len_cons len_nil)))
    jss_nil)
  (jss_one (js_app 2 (je_n 4) (pe := fun t h => pe_bm PySem.F.plainAttrs_list PySem.F.slot_list_append PySem.F.type_list_append mt_append (pe_var (i := 2) rfl (by first | exact Or.inl rfl | exact Or.inr (Or.inl rfl) | exact Or.inr (Or.inr rfl))) (pa_cons h pa_nil)))))))
  (jss_one (js_retO (jn_lc (own := [("mask", 4)]) rfl rfl sc_follow.nd (ji_n 2) (blkOk_by (own := [("mask", 4)]) (N := N_follow) (sc := defScope s_follow) (by decide +kernel)) (fun _ _ _ _ _ => (jgc_n (i := 4) sc_follow.nd rfl (by first | exact Or.inl rfl | exact Or.inr rfl) (by decide) (by first | exact .inl rfl | exact .inr rfl))) (fun _ _ _ _ _ => jts_nil) (fun _ _ _ _ _ => (je_call (ok_names_of fu T) (hr.mono (by decide)) (by rfl) T.g_names_of T.k_names_of T.bd_names_of takesW (ja_cons (jq_e (je_fld (c := 0) (f := 2) (je_n 0) rfl (fa_inj_2 T) ⟨T.pg_Table, T.hd_Table, T.po_Table, T.sa_Table⟩ T.na_Table_columns)) (ja_cons (jq_n 4) ja_nil)))))))))
theorem ok_law_cell (fu : Nat) (T : Txt K mg) : FnOk P w K mg base (L2.CX P w) 1 T.f_law_cell T.fd_law_cell ["script", "k"] (spD K (cnT T) [true, true] (F_law_cell fu)) :=
  okD (n := 0) T.F_law_cell sc_law_cell rfl rfl (fun _ => rfl) fun cdv A outer s H E hr =>
  have tk : Takes (cxOf (L2.CX P w) P w K mg base N_law_cell "_law_cell" (defScope s_law_cell) T.f_law_cell cdv A outer s H E) (fun cls d _ H => E cls d H) := takes_of rfl rfl rfl rfl
  have hp : PassesOwn (model P w) (cxOf (L2.CX P w) P w K mg base N_law_cell "_law_cell" (defScope s_law_cell) T.f_law_cell cdv A outer s H E).A (cxOf (L2.CX P w) P w K mg base N_law_cell "_law_cell" (defScope s_law_cell) T.f_law_cell cdv A outer s H E).env (cxOf (L2.CX P w) P w K mg base N_law_cell "_law_cell" (defScope s_law_cell) T.f_law_cell cdv A outer s H E).xe := passes_of rfl
  (jss_cons (js_if (jt_cmp op_lt r_lt (jq_n 1) (jq_e (je_bi call_lenA r_len (by rfl) T.b_len (by decide +kernel) (ja_cons (jq_n 0) ja_nil))) (nomark _))
    (jss_one (js_ret (je_ix (jq_n 0) (jq_n 1))))
    jss_nil)
  (jss_one (js_ret je_int)))
theorem ok_law_pool (fu : Nat) (T : Txt K mg) : FnOk P w K mg base (L2.CX P w) 2 T.f_law_pool T.fd_law_pool ["script", "k", "count"] (spD K (cnT T) [true, true, true] (F_law_pool fu)) :=
  okD (n := 6) T.F_law_pool sc_law_pool rfl rfl (fun _ => rfl) fun cdv A outer s H E hr =>
  have tk : Takes (cxOf (L2.CX P w) P w K mg base N_law_pool "_law_pool" (defScope s_law_pool) T.f_law_pool cdv A outer s H E) (fun cls d _ H => E cls d H) := takes_of rfl rfl rfl rfl
  have hp : PassesOwn (model P w) (cxOf (L2.CX P w) P w K mg base N_law_pool "_law_pool" (defScope s_law_pool) T.f_law_pool cdv A outer s H E).A (cxOf (L2.CX P w) P w K mg base N_law_pool "_law_pool" (defScope s_law_pool) T.f_law_pool cdv A outer s H E).env (cxOf (L2.CX P w) P w K mg base N_law_pool "_law_pool" (defScope s_law_pool) T.f_law_pool cdv A outer s H E).xe := passes_of rfl
  (jss_cons (js_set (i := 3) sc_law_pool.nd rfl (by first | exact Or.inl rfl | exact Or.inr rfl) (je_bi call_abs r_abs (by rfl) T.b_abs (by decide +kernel) (ja_cons (jq_e (je_call (ok_law_cell fu T) (hr.mono (by decide)) (by rfl) T.g_law_cell T.k_law_cell T.bd_law_cell tk (ja_cons (jq_n 0) (ja_cons (jq_n 1) ja_nil)))) ja_nil)))
  (jss_cons (js_own (i := 4) sc_law_pool.nd rfl (by first | exact Or.inl rfl | exact Or.inr rfl) (jn_lst jl_nil))
  (jss_cons (js_if (jt_cmp op_ge r_ge (jq_n 3) (jq_e (je_op op_pow r_pow (jq_e je_int) (jq_e je_int))) (nomark _))
    (jss_cons (js_set (i := 3) sc_law_pool.nd rfl (by first | exact Or.inl rfl | exact Or.inr rfl) (je_op op_sub r_sub (jq_n 3) (jq_e (je_op op_pow r_pow (jq_e je_int) (jq_e je_int)))))
  (jss_cons (js_for hp rfl (ji_rg1 (by rfl) T.b_range (jq_n 2)) (jg_n 5 sc_law_pool.nd)
    (jss_cons (js_app 4 (je_op op_modN r_mod (jq_e (je_ty call_int1 r_int (by rfl) T.b_int (by decide +kernel) (ja_cons (jq_n 3) ja_nil))) (jq_e je_int)) (pe := fun t h => pe_bm PySem.F.plainAttrs_list PySem.F.slot_list_append PySem.F.type_list_append mt_append (pe_var (i := 4) rfl (by first | exact Or.inl rfl | exact Or.inr (Or.inl rfl) | exact Or.inr (Or.inr rfl))) (pa_cons h pa_nil)))
  (jss_one (js_set (i := 3) sc_law_pool.nd rfl (by first | exact Or.inl rfl | exact Or.inr rfl) (je_op op_divD r_div (jq_n 3) (jq_e je_int))))))
  (jss_one (js_retX 4))))
    jss_nil)
  (jss_cons (js_for hp rfl (ji_rg1 (by rfl) T.b_range (jq_n 2)) (jg_n 5 sc_law_pool.nd)
    (jss_cons (js_set (i := 6) sc_law_pool.nd rfl (by first | exact Or.inl rfl | exact Or.inr rfl) (je_op op_modN r_mod (jq_e (je_ty call_int1 r_int (by rfl) T.b_int (by decide +kernel) (ja_cons (jq_e (je_op op_addD r_add (jq_e (je_op op_addD r_add (jq_e (je_op op_addD r_add (jq_e (je_op op_mulD r_mul (jq_n 3) (jq_e je_int))) (jq_e (je_op op_mulD r_mul (jq_e (je_op op_addD r_add (jq_n 5) (jq_e je_int))) (jq_e je_int))))) (jq_e (je_op op_mulD r_mul (jq_n 1) (jq_e je_int))))) (jq_e je_int))) ja_nil))) (jq_e je_int)))
  (jss_cons (js_set (i := 7) sc_law_pool.nd rfl (by first | exact Or.inl rfl | exact Or.inr rfl) (je_op op_modN r_mod (jq_e (je_ty call_int1 r_int (by rfl) T.b_int (by decide +kernel) (ja_cons (jq_e (je_op op_addD r_add (jq_e (je_op op_addD r_add (jq_e (je_op op_mulD r_mul (jq_n 6) (jq_n 6))) (jq_e (je_op op_mulD r_mul (jq_n 3) (jq_e je_int))))) (jq_n 5))) ja_nil))) (jq_e je_int)))
  (jss_cons (js_set (i := 8) sc_law_pool.nd rfl (by first | exact Or.inl rfl | exact Or.inr rfl) (je_op op_modN r_mod (jq_e (je_ty call_int1 r_int (by rfl) T.b_int (by decide +kernel) (ja_cons (jq_e (je_op op_addD r_add (jq_e (je_op op_mulD r_mul (jq_n 7) (jq_n 7))) (jq_n 6))) ja_nil))) (jq_e je_int)))
  (jss_one (js_app 4 (je_op op_modN r_mod (jq_e (je_ty call_int1 r_int (by rfl) T.b_int (by decide +kernel) (ja_cons (jq_e (je_op op_divD r_div (jq_n 8) (jq_e je_int))) ja_nil))) (jq_e je_int)) (pe := fun t h => pe_bm PySem.F.plainAttrs_list PySem.F.slot_list_append PySem.F.type_list_append mt_append (pe_var (i := 4) rfl (by first | exact Or.inl rfl | exact Or.inr (Or.inl rfl) | exact Or.inr (Or.inr rfl))) (pa_cons h pa_nil))))))))
  (jss_one (js_retX 4))))))
theorem ok_law_size (fu : Nat) (T : Txt K mg) : FnOk P w K mg base (L2.CX P w) 1 T.f_law_size T.fd_law_size ["draw", "most"] (spD K (cnT T) [true, true] (F_law_size fu)) :=
  okD (n := 1) T.F_law_size sc_law_size rfl rfl (fun _ => rfl) fun cdv A outer s H E hr =>
  have tk : Takes (cxOf (L2.CX P w) P w K mg base N_law_size "_law_size" (defScope s_law_size) T.f_law_size cdv A outer s H E) (fun cls d _ H => E cls d H) := takes_of rfl rfl rfl rfl
  have hp : PassesOwn (model P w) (cxOf (L2.CX P w) P w K mg base N_law_size "_law_size" (defScope s_law_size) T.f_law_size cdv A outer s H E).A (cxOf (L2.CX P w) P w K mg base N_law_size "_law_size" (defScope s_law_size) T.f_law_size cdv A outer s H E).env (cxOf (L2.CX P w) P w K mg base N_law_size "_law_size" (defScope s_law_size) T.f_law_size cdv A outer s H E).xe := passes_of rfl
  (jss_cons (js_set (i := 2) sc_law_size.nd rfl (by first | exact Or.inl rfl | exact Or.inr rfl) (je_of_jn (jn_lst (jl_cons je_int (jl_cons je_int (jl_cons je_int (jl_cons je_int (jl_cons je_int (jl_cons je_int (jl_cons je_int (jl_cons je_int (jl_cons je_int (jl_cons je_int (jl_cons je_int (jl_cons je_int (jl_cons je_int (jl_cons je_int (jl_cons je_int (jl_cons je_int (jl_cons je_int (jl_cons je_int (jl_cons je_int (jl_cons je_int (jl_cons je_int (jl_cons je_int (jl_cons je_int (jl_cons je_int jl_nil)))))))))))))))))))))))))))
  (jss_one (js_ret (je_bi (call_min2 rfl) r_min2 (by rfl) T.b_min (by decide +kernel) (ja_cons (jq_n 1) (ja_cons (jq_e (je_ix (jq_n 2) (jq_e (je_op op_modN r_mod (jq_e (je_ty call_int1 r_int (by rfl) T.b_int (by decide +kernel) (ja_cons (jq_n 0) ja_nil))) (jq_e je_int))))) ja_nil))))))
theorem ok_law_names (fu : Nat) (T : Txt K mg) : FnOk P w K mg base (L2.CX P w) 1 T.f_law_names T.fd_law_names ["count", "seed"] (spD K (cnT T) [true, true] (F_law_names fu)) :=
  okD (n := 7) T.F_law_names sc_law_names rfl rfl (fun _ => rfl) fun cdv A outer s H E hr =>
  have tk : Takes (cxOf (L2.CX P w) P w K mg base N_law_names "_law_names" (defScope s_law_names) T.f_law_names cdv A outer s H E) (fun cls d _ H => E cls d H) := takes_of rfl rfl rfl rfl
  have hp : PassesOwn (model P w) (cxOf (L2.CX P w) P w K mg base N_law_names "_law_names" (defScope s_law_names) T.f_law_names cdv A outer s H E).A (cxOf (L2.CX P w) P w K mg base N_law_names "_law_names" (defScope s_law_names) T.f_law_names cdv A outer s H E).env (cxOf (L2.CX P w) P w K mg base N_law_names "_law_names" (defScope s_law_names) T.f_law_names cdv A outer s H E).xe := passes_of rfl
  (jss_cons (js_if (jt_cmp op_gt r_gt (jq_e (je_op op_modN r_mod (jq_e (je_ty call_int1 r_int (by rfl) T.b_int (by decide +kernel) (ja_cons (jq_n 1) ja_nil))) (jq_e je_int))) (jq_e je_int) (nomark _))
    (jss_cons (js_set (i := 2) sc_law_names.nd rfl (by first | exact Or.inl rfl | exact Or.inr rfl) (je_of_jn (jn_lst (jl_cons je_str (jl_cons je_str (jl_cons je_str (jl_cons je_str (jl_cons je_str (jl_cons je_str (jl_cons je_str (jl_cons je_str (jl_cons je_str (jl_cons je_str (jl_cons je_str (jl_cons je_str jl_nil)))))))))))))))
  (jss_cons (js_if (jt_cmp (op_eqDD hr.units) r_eq (jq_e (je_op op_modN r_mod (jq_e (je_ty call_int1 r_int (by rfl) T.b_int (by decide +kernel) (ja_cons (jq_n 1) ja_nil))) (jq_e je_int))) (jq_e je_int) (nomark _))
    (jss_one (js_set (i := 2) sc_law_names.nd rfl (by first | exact Or.inl rfl | exact Or.inr rfl) (je_of_jn (jn_lst (jl_cons je_str (jl_cons je_str (jl_cons je_str (jl_cons je_str (jl_cons je_str (jl_cons je_str (jl_cons je_str (jl_cons je_str (jl_cons je_str (jl_cons je_str (jl_cons je_str (jl_cons je_str jl_nil))))))))))))))))
    jss_nil)
  (jss_cons (js_set (i := 3) sc_law_names.nd rfl (by first | exact Or.inl rfl | exact Or.inr rfl) (je_op op_modN r_mod (jq_e (je_ty call_int1 r_int (by rfl) T.b_int (by decide +kernel) (ja_cons (jq_e (je_op op_divD r_div (jq_n 1) (jq_e je_int))) ja_nil))) (jq_e je_int)))
  (jss_one (js_ret (je_sl (jq_e (je_op op_addD r_add (jq_e (je_sl (jq_n 2) (jp_some (jq_n 3)) jp_none)) (jq_e (je_sl (jq_n 2) jp_none (jp_some (jq_n 3)))))) jp_none (jp_some (jq_n 0))))))))
    jss_nil)
  (jss_cons (js_own (i := 4) sc_law_names.nd rfl (by first | exact Or.inl rfl | exact Or.inr rfl) (jn_lst jl_nil))
  (jss_cons (js_for hp rfl (ji_rg1 (by rfl) T.b_range (jq_n 0)) (jg_n 5 sc_law_names.nd)
    (jss_cons (js_set (i := 6) sc_law_names.nd rfl (by first | exact Or.inl rfl | exact Or.inr rfl) (je_ix (jq_e je_str) (jq_e (je_op op_modN r_mod (jq_e (je_ty call_int1 r_int (by rfl) T.b_int (by decide +kernel) (ja_cons (jq_e (je_op op_addD r_add (jq_e (je_op op_mulD r_mul (jq_n 5) (jq_e je_int))) (jq_n 1))) ja_nil))) (jq_e je_int)))))
  (jss_cons (js_set (i := 7) sc_law_names.nd rfl (by first | exact Or.inl rfl | exact Or.inr rfl) (je_op op_repS r_repS (jq_e (je_ix (jq_e je_str) (jq_e (je_op op_modN r_mod (jq_e (je_ty call_int1 r_int (by rfl) T.b_int (by decide +kernel) (ja_cons (jq_e (je_op op_addD r_add (jq_e (je_op op_divD r_div (jq_n 1) (jq_e je_int))) (jq_n 5))) ja_nil))) (jq_e je_int))))) (jq_e (je_op op_modN r_mod (jq_e (je_ty call_int1 r_int (by rfl) T.b_int (by decide +kernel) (ja_cons (jq_e (je_op op_addD r_add (jq_e (je_op op_divD r_div (jq_n 1) (jq_e je_int))) (jq_e (je_op op_mulD r_mul (jq_n 5) (jq_e je_int))))) ja_nil))) (jq_e je_int)))))
  (jss_cons (js_set (i := 8) sc_law_names.nd rfl (by first | exact Or.inl rfl | exact Or.inr rfl) (je_op op_repS r_repS (jq_e (je_ix (jq_e je_str) (jq_e (je_op op_modN r_mod (jq_e (je_ty call_int1 r_int (by rfl) T.b_int (by decide +kernel) (ja_cons (jq_e (je_op op_addD r_add (jq_e (je_op op_divD r_div (jq_n 1) (jq_e je_int))) (jq_e (je_op op_mulD r_mul (jq_n 5) (jq_e je_int))))) ja_nil))) (jq_e je_int))))) (jq_e (je_op op_modN r_mod (jq_e (je_ty call_int1 r_int (by rfl) T.b_int (by decide +kernel) (ja_cons (jq_e (je_op op_addD r_add (jq_e (je_op op_divD r_div (jq_n 1) (jq_e je_int))) (jq_n 5))) ja_nil))) (jq_e je_int)))))
  (jss_cons (js_if (jt_cmp (op_eqDD hr.units) r_eq (jq_e (je_op op_modN r_mod (jq_e (je_ty call_int1 r_int (by rfl) T.b_int (by decide +kernel) (ja_cons (jq_n 1) ja_nil))) (jq_e je_int))) (jq_e je_int) (nomark _))
    (jss_cons (js_set (i := 7) sc_law_names.nd rfl (by first | exact Or.inl rfl | exact Or.inr rfl) (je_op op_repS r_repS (jq_e je_str) (jq_e (je_op op_modN r_mod (jq_e (je_ty call_int1 r_int (by rfl) T.b_int (by decide +kernel) (ja_cons (jq_e (je_op op_divD r_div (jq_n 1) (jq_e je_int))) ja_nil))) (jq_e je_int)))))
  (jss_one (js_set (i := 8) sc_law_names.nd rfl (by first | exact Or.inl rfl | exact Or.inr rfl) (je_op op_repS r_repS (jq_e je_str) (jq_e (je_op op_modN r_mod (jq_e (je_ty call_int1 r_int (by rfl) T.b_int (by decide +kernel) (ja_cons (jq_e (je_op op_divD r_div (jq_n 1) (jq_e je_int))) ja_nil))) (jq_e je_int)))))))
    jss_nil)
  (jss_one (js_app 4 (je_op op_addD r_add (jq_e (je_op op_addD r_add (jq_n 7) (jq_n 6))) (jq_n 8)) (pe := fun t h => pe_bm PySem.F.plainAttrs_list PySem.F.slot_list_append PySem.F.type_list_append mt_append (pe_var (i := 4) rfl (by first | exact Or.inl rfl | exact Or.inr (Or.inl rfl) | exact Or.inr (Or.inr rfl))) (pa_cons h pa_nil)))))))))
  (jss_one (js_retX 4)))))
theorem ok_law_order (fu : Nat) (T : Txt K mg) : FnOk P w K mg base (L2.CX P w) 1 T.f_law_order T.fd_law_order ["names", "pool", "start"] (spD K (cnT T) [true, true, true] (F_law_order fu)) :=
  okD (n := 4) T.F_law_order sc_law_order rfl rfl (fun _ => rfl) fun cdv A outer s H E hr =>
  have tk : Takes (cxOf (L2.CX P w) P w K mg base N_law_order "_law_order" (defScope s_law_order) T.f_law_order cdv A outer s H E) (fun cls d _ H => E cls d H) := takes_of rfl rfl rfl rfl
  have hp : PassesOwn (model P w) (cxOf (L2.CX P w) P w K mg base N_law_order "_law_order" (defScope s_law_order) T.f_law_order cdv A outer s H E).A (cxOf (L2.CX P w) P w K mg base N_law_order "_law_order" (defScope s_law_order) T.f_law_order cdv A outer s H E).env (cxOf (L2.CX P w) P w K mg base N_law_order "_law_order" (defScope s_law_order) T.f_law_order cdv A outer s H E).xe := passes_of rfl
  (jss_cons (js_set (i := 3) sc_law_order.nd rfl (by first | exact Or.inl rfl | exact Or.inr rfl) (je_of_jn (jn_ty call_list_of r_listof (by rfl) T.b_list (by decide +kernel) (ja_cons (jq_n 0) ja_nil))))
  (jss_cons (js_own (i := 4) sc_law_order.nd rfl (by first | exact Or.inl rfl | exact Or.inr rfl) (jn_lst jl_nil))
  (jss_cons (js_for hp rfl (ji_rg1 (by rfl) T.b_range (jq_e (je_bi call_lenA r_len (by rfl) T.b_len (by decide +kernel) (ja_cons (jq_n 0) ja_nil)))) (jg_n 5 sc_law_order.nd)
    (jss_cons (js_set (i := 6) sc_law_order.nd rfl (by first | exact Or.inl rfl | exact Or.inr rfl) (je_op op_modN r_mod (jq_e (je_ty call_int1 r_int (by rfl) T.b_int (by decide +kernel) (ja_cons (jq_e (je_ix (jq_n 1) (jq_e (je_op op_addD r_add (jq_n 2) (jq_n 5))))) ja_nil))) (jq_e (je_bi call_lenA r_len (by rfl) T.b_len (by decide +kernel) (ja_cons (jq_n 3) ja_nil)))))
  (jss_cons (js_app 4 (je_ix (jq_n 3) (jq_n 6)) (pe := fun t h => pe_bm PySem.F.plainAttrs_list PySem.F.slot_list_append PySem.F.type_list_append mt_append (pe_var (i := 4) rfl (by first | exact Or.inl rfl | exact Or.inr (Or.inl rfl) | exact Or.inr (Or.inr rfl))) (pa_cons h pa_nil)))
  (jss_one (js_set (i := 3) sc_law_order.nd rfl (by first | exact Or.inl rfl | exact Or.inr rfl) (je_op op_addD r_add (jq_e (je_sl (jq_n 3) jp_none (jp_some (jq_n 6)))) (jq_e (je_sl (jq_n 3) (jp_some (jq_e (je_op op_addD r_add (jq_n 6) (jq_e je_int)))) jp_none))))))))
  (jss_one (js_retX 4)))))
theorem ok_law_row (fu : Nat) (T : Txt K mg) : FnOk P w K mg base (L2.CX P w) 1 T.f_law_row T.fd_law_row ["names", "hidden", "draw", "free"] (spD K (cnT T) [true, true, true, true] (F_law_row fu)) :=
  okD (n := 6) T.F_law_row sc_law_row rfl rfl (fun _ => rfl) fun cdv A outer s H E hr =>
  have tk : Takes (cxOf (L2.CX P w) P w K mg base N_law_row "_law_row" (defScope s_law_row) T.f_law_row cdv A outer s H E) (fun cls d _ H => E cls d H) := takes_of rfl rfl rfl rfl
  have hp : PassesOwn (model P w) (cxOf (L2.CX P w) P w K mg base N_law_row "_law_row" (defScope s_law_row) T.f_law_row cdv A outer s H E).A (cxOf (L2.CX P w) P w K mg base N_law_row "_law_row" (defScope s_law_row) T.f_law_row cdv A outer s H E).env (cxOf (L2.CX P w) P w K mg base N_law_row "_law_row" (defScope s_law_row) T.f_law_row cdv A outer s H E).xe := passes_of rfl
  (jss_cons (js_own (i := 4) sc_law_row.nd rfl (by first | exact Or.inl rfl | exact Or.inr rfl) (jn_lst jl_nil))
  (jss_cons (js_if (jt_e (je_n 3))
    (jss_cons (js_for hp rfl (ji_n 0) (jg_n 5 sc_law_row.nd)
    (jss_cons (js_if (jt_cmp (op_eqDD hr.units) r_eq (jq_e (je_op op_modN r_mod (jq_e (je_ty call_int1 r_int (by rfl) T.b_int (by decide +kernel) (ja_cons (jq_n 2) ja_nil))) (jq_e je_int))) (jq_e je_int) (nomark _))
    (jss_one (js_app 4 (je_n 5) (pe := fun t h => pe_bm PySem.F.plainAttrs_list PySem.F.slot_list_append PySem.F.type_list_append mt_append (pe_var (i := 4) rfl (by first | exact Or.inl rfl | exact Or.inr (Or.inl rfl) | exact Or.inr (Or.inr rfl))) (pa_cons h pa_nil))))
    jss_nil)
  (jss_one (js_set (i := 2) sc_law_row.nd rfl (by first | exact Or.inl rfl | exact Or.inr rfl) (je_op op_divD r_div (jq_n 2) (jq_e je_int))))))
  (jss_one (js_retX 4)))
    jss_nil)
  (jss_cons (js_set (i := 6) sc_law_row.nd rfl (by first | exact Or.inl rfl | exact Or.inr rfl) (je_op op_addD r_add (jq_e (je_bi call_lenA r_len (by rfl) T.b_len (by decide +kernel) (ja_cons (jq_n 1) ja_nil))) (jq_e je_int)))
  (jss_cons (js_set (i := 7) sc_law_row.nd rfl (by first | exact Or.inl rfl | exact Or.inr rfl) (je_op op_modN r_mod (jq_e (je_ty call_int1 r_int (by rfl) T.b_int (by decide +kernel) (ja_cons (jq_n 2) ja_nil))) (jq_n 6)))
  (jss_cons (js_set (i := 8) sc_law_row.nd rfl (by first | exact Or.inl rfl | exact Or.inr rfl) (je_op op_modN r_mod (jq_e (je_ty call_int1 r_int (by rfl) T.b_int (by decide +kernel) (ja_cons (jq_e (je_op op_divD r_div (jq_n 2) (jq_e je_int))) ja_nil))) (jq_n 6)))
  (jss_cons (js_own (i := 4) sc_law_row.nd rfl (by first | exact Or.inl rfl | exact Or.inr rfl) (jn_sl (jq_n 1) (jp_some (jq_n 7)) (jp_some (jq_e (je_op op_addD r_add (jq_n 7) (jq_n 8))))))
  (jss_cons (js_set (i := 9) sc_law_row.nd rfl (by first | exact Or.inl rfl | exact Or.inr rfl) (je_op op_modN r_mod (jq_e (je_ty call_int1 r_int (by rfl) T.b_int (by decide +kernel) (ja_cons (jq_e (je_op op_divD r_div (jq_n 2) (jq_e je_int))) ja_nil))) (jq_n 6)))
  (jss_one (js_ret (je_op op_addD r_add (jq_e (je_sl (jq_n 4) (jp_some (jq_n 9)) jp_none)) (jq_e (je_sl (jq_n 4) jp_none (jp_some (jq_n 9))))))))))))))
theorem ok_law_rows (fu : Nat) (T : Txt K mg) : FnOk P w K mg base (L2.CX P w) 2 T.f_law_rows T.fd_law_rows ["names", "hidden", "pool", "start", "count", "mode"] (spD K (cnT T) [true, true, true, true, true, true] (F_law_rows fu)) :=
  okD (n := 3) T.F_law_rows sc_law_rows rfl rfl (fun _ => rfl) fun cdv A outer s H E hr =>
  have tk : Takes (cxOf (L2.CX P w) P w K mg base N_law_rows "_law_rows" (defScope s_law_rows) T.f_law_rows cdv A outer s H E) (fun cls d _ H => E cls d H) := takes_of rfl rfl rfl rfl
  have hp : PassesOwn (model P w) (cxOf (L2.CX P w) P w K mg base N_law_rows "_law_rows" (defScope s_law_rows) T.f_law_rows cdv A outer s H E).A (cxOf (L2.CX P w) P w K mg base N_law_rows "_law_rows" (defScope s_law_rows) T.f_law_rows cdv A outer s H E).env (cxOf (L2.CX P w) P w K mg base N_law_rows "_law_rows" (defScope s_law_rows) T.f_law_rows cdv A outer s H E).xe := passes_of rfl
  (jss_cons (js_own (i := 6) sc_law_rows.nd rfl (by first | exact Or.inl rfl | exact Or.inr rfl) (jn_lst jl_nil))
  (jss_cons (js_for hp rfl (ji_rg1 (by rfl) T.b_range (jq_n 4)) (jg_n 7 sc_law_rows.nd)
    (jss_cons (js_set (i := 8) sc_law_rows.nd rfl (by first | exact Or.inl rfl | exact Or.inr rfl) (je_or (je_cmp (op_eqDD hr.units) r_eq (jq_n 5) (jq_e je_int) (nomark _)) (je_one (je_and (je_cmp (op_eqDD hr.units) r_eq (jq_n 5) (jq_e je_int) (nomark _)) (je_one (je_cmp (op_eqDD hr.units) r_eq (jq_n 7) (jq_e (je_op op_sub r_sub (jq_n 4) (jq_e je_int))) (nomark _)))))))
  (jss_one (js_app 6 (je_call (ok_law_row fu T) (hr.mono (by decide)) (by rfl) T.g_law_row T.k_law_row T.bd_law_row tk (ja_cons (jq_n 0) (ja_cons (jq_n 1) (ja_cons (jq_e (je_ix (jq_n 2) (jq_e (je_op op_addD r_add (jq_n 3) (jq_n 7))))) (ja_cons (jq_n 8) ja_nil))))) (pe := fun t h => pe_bm PySem.F.plainAttrs_list PySem.F.slot_list_append PySem.F.type_list_append mt_append (pe_var (i := 6) rfl (by first | exact Or.inl rfl | exact Or.inr (Or.inl rfl) | exact Or.inr (Or.inr rfl))) (pa_cons h pa_nil))))))
  (jss_one (js_retX 6))))
theorem ok_law_sorted (fu : Nat) (T : Txt K mg) : FnOk P w K mg base (L2.CX P w) 1 T.f_law_sorted T.fd_law_sorted ["names", "row"] (spD K (cnT T) [true, true] (F_law_sorted fu)) :=
  okD (n := 1) T.F_law_sorted sc_law_sorted rfl rfl (fun _ => rfl) fun cdv A outer s H E hr =>
  have tk : Takes (cxOf (L2.CX P w) P w K mg base N_law_sorted "_law_sorted" (defScope s_law_sorted) T.f_law_sorted cdv A outer s H E) (fun cls d _ H => E cls d H) := takes_of rfl rfl rfl rfl
  have hp : PassesOwn (model P w) (cxOf (L2.CX P w) P w K mg base N_law_sorted "_law_sorted" (defScope s_law_sorted) T.f_law_sorted cdv A outer s H E).A (cxOf (L2.CX P w) P w K mg base N_law_sorted "_law_sorted" (defScope s_law_sorted) T.f_law_sorted cdv A outer s H E).env (cxOf (L2.CX P w) P w K mg base N_law_sorted "_law_sorted" (defScope s_law_sorted) T.f_law_sorted cdv A outer s H E).xe := passes_of rfl
  (jss_one (js_retO (jn_lc (own := [("name", 2)]) rfl rfl sc_law_sorted.nd (ji_n 0) (blkOk_by (own := [("name", 2)]) (N := N_law_sorted) (sc := defScope s_law_sorted) (by decide +kernel)) (fun _ _ _ _ _ => (jgc_n (i := 2) sc_law_sorted.nd rfl (by first | exact Or.inl rfl | exact Or.inr rfl) (by decide) (by first | exact .inl rfl | exact .inr rfl))) (fun _ _ _ _ _ => (jts_one (jt_cmp (op_inDD hr.units65) r_in (jq_n 2) (jq_n 1) (by rfl)))) (fun _ _ _ _ _ => (je_n 2)))))
theorem ok_law_is_number (fu : Nat) (T : Txt K mg) : FnOk P w K mg base (L2.CX P w) 1 T.f_law_is_number T.fd_law_is_number ["value", "least", "most"] (spD K (cnT T) [true, true, true] (F_law_is_number fu)) :=
  okD (n := 0) T.F_law_is_number sc_law_is_number rfl rfl (fun _ => rfl) fun cdv A outer s H E hr =>
  have tk : Takes (cxOf (L2.CX P w) P w K mg base N_law_is_number "_law_is_number" (defScope s_law_is_number) T.f_law_is_number cdv A outer s H E) (fun cls d _ H => E cls d H) := takes_of rfl rfl rfl rfl
  have hp : PassesOwn (model P w) (cxOf (L2.CX P w) P w K mg base N_law_is_number "_law_is_number" (defScope s_law_is_number) T.f_law_is_number cdv A outer s H E).A (cxOf (L2.CX P w) P w K mg base N_law_is_number "_law_is_number" (defScope s_law_is_number) T.f_law_is_number cdv A outer s H E).env (cxOf (L2.CX P w) P w K mg base N_law_is_number "_law_is_number" (defScope s_law_is_number) T.f_law_is_number cdv A outer s H E).xe := passes_of rfl
  (jss_one (js_ret (je_and (je_isi (by rfl) T.b_isinstance (jq_n 0) (jc_ty (by rfl) T.b_int (by decide +kernel)) ty2_int) (je_and (je_not (je_isi (by rfl) T.b_isinstance (jq_n 0) (jc_ty (by rfl) T.b_bool (by decide +kernel)) ty2_bool)) (je_and (je_cmp op_le r_le (jq_n 1) (jq_n 0) (nomark _)) (je_one (je_cmp op_le r_le (jq_n 0) (jq_n 2) (nomark _))))))))
theorem ok_law_step (fu : Nat) (T : Txt K mg) : FnOk P w K mg base (L2.CX P w) 2 T.f_law_step T.fd_law_step ["step", "sets", "names", "rows"] (spD K (cnT T) [true, true, true, true] (F_law_step fu)) :=
  okD (n := 5) T.F_law_step sc_law_step rfl rfl (fun _ => rfl) fun cdv A outer s H E hr =>
  have tk : Takes (cxOf (L2.CX P w) P w K mg base N_law_step "_law_step" (defScope s_law_step) T.f_law_step cdv A outer s H E) (fun cls d _ H => E cls d H) := takes_of rfl rfl rfl rfl
  have hp : PassesOwn (model P w) (cxOf (L2.CX P w) P w K mg base N_law_step "_law_step" (defScope s_law_step) T.f_law_step cdv A outer s H E).A (cxOf (L2.CX P w) P w K mg base N_law_step "_law_step" (defScope s_law_step) T.f_law_step cdv A outer s H E).env (cxOf (L2.CX P w) P w K mg base N_law_step "_law_step" (defScope s_law_step) T.f_law_step cdv A outer s H E).xe := passes_of rfl
  (jss_cons (js_if (jt_w (jw_or (jt_not (jt_e (je_isi (by rfl) T.b_isinstance (jq_n 0) (jc_ty (by rfl) T.b_tuple (by decide +kernel)) ty2_tuple))) (jw_or1 (jt_cmp (op_eqDD hr.units) r_eq (jq_e (je_bi call_lenA r_len (by rfl) T.b_len (by decide +kernel) (ja_cons (jq_n 0) ja_nil))) (jq_e je_int) (nomark _)))))
    (jss_one (js_ret je_non))
    jss_nil)
  (jss_cons (js_if (jt_w (jw_and (jt_cmp (op_eqDD hr.units) r_eq (jq_e (je_ix (jq_n 0) (jq_e je_int))) (jq_e je_str) (nomark _)) (jw_and (jt_cmp (op_eqDD hr.units) r_eq (jq_e (je_bi call_lenA r_len (by rfl) T.b_len (by decide +kernel) (ja_cons (jq_n 0) ja_nil))) (jq_e je_int) (nomark _)) (jw_and1 (jt_cmp op_gt r_gt (jq_e (je_bi call_lenA r_len (by rfl) T.b_len (by decide +kernel) (ja_cons (jq_n 2) ja_nil))) (jq_e je_int) (nomark _))))))
    (jss_one (js_ret (je_of_jn (jn_ty call_list_of r_listof (by rfl) T.b_list (by decide +kernel) (ja_cons (jq_n 2) ja_nil)))))
    jss_nil)
  (jss_cons (js_if (jt_w (jw_and (jt_cmp (op_eqDD hr.units) r_eq (jq_e (je_ix (jq_n 0) (jq_e je_int))) (jq_e je_str) (nomark _)) (jw_and (jt_cmp (op_eqDD hr.units) r_eq (jq_e (je_bi call_lenA r_len (by rfl) T.b_len (by decide +kernel) (ja_cons (jq_n 0) ja_nil))) (jq_e je_int) (nomark _)) (jw_and1 (jt_cmp (op_inDD hr.units65) r_in (jq_e (je_ix (jq_n 0) (jq_e je_int))) (jq_n 2) (by rfl))))))
    (jss_one (js_ret (je_of_jn (jn_lst (jl_cons (je_ix (jq_n 0) (jq_e je_int)) jl_nil)))))
    jss_nil)
  (jss_cons (js_if (jt_w (jw_and (jt_cmp (op_eqDD hr.units) r_eq (jq_e (je_ix (jq_n 0) (jq_e je_int))) (jq_e je_str) (nomark _)) (jw_and (jt_cmp (op_eqDD hr.units) r_eq (jq_e (je_bi call_lenA r_len (by rfl) T.b_len (by decide +kernel) (ja_cons (jq_n 0) ja_nil))) (jq_e je_int) (nomark _)) (jw_and1 (jt_e (je_call (ok_law_is_number fu T) (hr.mono (by decide)) (by rfl) T.g_law_is_number T.k_law_is_number T.bd_law_is_number tk (ja_cons (jq_e (je_ix (jq_n 0) (jq_e je_int))) (ja_cons (jq_e je_int) (ja_cons (jq_e (je_op op_sub r_sub (jq_e (je_bi call_lenA r_len (by rfl) T.b_len (by decide +kernel) (ja_cons (jq_n 3) ja_nil))) (jq_e je_int))) ja_nil)))))))))
    (jss_cons (js_set (i := 4) sc_law_step.nd rfl (by first | exact Or.inl rfl | exact Or.inr rfl) (je_call (ok_law_sorted fu T) (hr.mono (by decide)) (by rfl) T.g_law_sorted T.k_law_sorted T.bd_law_sorted tk (ja_cons (jq_n 2) (ja_cons (jq_e (je_ix (jq_n 3) (jq_e (je_ix (jq_n 0) (jq_e je_int))))) ja_nil))))
  (jss_cons (js_if (jt_cmp op_gt r_gt (jq_e (je_bi call_lenA r_len (by rfl) T.b_len (by decide +kernel) (ja_cons (jq_n 4) ja_nil))) (jq_e je_int) (nomark _))
    (jss_one (js_ret (je_n 4)))
    jss_nil)
  (jss_one (js_ret je_non))))
    jss_nil)
  (jss_cons (js_if (jt_w (jw_or (jt_cmp (op_neDD hr.units) r_ne (jq_e (je_bi call_lenA r_len (by rfl) T.b_len (by decide +kernel) (ja_cons (jq_n 0) ja_nil))) (jq_e je_int) (nomark _)) (jw_or (jt_not (jt_e (je_call (ok_law_is_number fu T) (hr.mono (by decide)) (by rfl) T.g_law_is_number T.k_law_is_number T.bd_law_is_number tk (ja_cons (jq_e (je_ix (jq_n 0) (jq_e je_int))) (ja_cons (jq_e je_int) (ja_cons (jq_e (je_op op_sub r_sub (jq_e (je_bi call_lenA r_len (by rfl) T.b_len (by decide +kernel) (ja_cons (jq_n 1) ja_nil))) (jq_e je_int))) ja_nil)))))) (jw_or1 (jt_not (jt_e (je_call (ok_law_is_number fu T) (hr.mono (by decide)) (by rfl) T.g_law_is_number T.k_law_is_number T.bd_law_is_number tk (ja_cons (jq_e (je_ix (jq_n 0) (jq_e je_int))) (ja_cons (jq_e je_int) (ja_cons (jq_e (je_op op_sub r_sub (jq_e (je_bi call_lenA r_len (by rfl) T.b_len (by decide +kernel) (ja_cons (jq_n 1) ja_nil))) (jq_e je_int))) ja_nil))))))))))
    (jss_one (js_ret je_non))
    jss_nil)
  (jss_cons (js_set (i := 5) sc_law_step.nd rfl (by first | exact Or.inl rfl | exact Or.inr rfl) (je_ix (jq_n 1) (jq_e (je_ix (jq_n 0) (jq_e je_int)))))
  (jss_cons (js_set (i := 6) sc_law_step.nd rfl (by first | exact Or.inl rfl | exact Or.inr rfl) (je_ix (jq_n 1) (jq_e (je_ix (jq_n 0) (jq_e je_int)))))
  (jss_cons (js_setLc (i := 7) (own := [("name", 8)]) rfl rfl sc_law_step.nd rfl rfl (sw_true rfl rfl rfl (by decide +kernel)) (ji_n 5) (blkOk_by (own := [("name", 8)]) (N := N_law_step) (sc := defScope s_law_step) (by decide +kernel)) (fun _ _ _ _ _ => (jgc_n (i := 8) sc_law_step.nd rfl (by first | exact Or.inl rfl | exact Or.inr rfl) (by decide) (by first | exact .inl rfl | exact .inr rfl))) (fun _ _ _ _ _ => (jts_one (jt_cmp (op_inDD hr.units65) r_in (jq_n 8) (jq_n 6) (by rfl)))) (fun _ _ _ _ _ => (je_n 8)))
  (jss_cons (js_if (jt_cmp (op_eqDD hr.units) r_eq (jq_e (je_bi call_lenA r_len (by rfl) T.b_len (by decide +kernel) (ja_cons (jq_n 7) ja_nil))) (jq_e je_int) (nomark _))
    (jss_one (js_ret je_non))
    jss_nil)
  (jss_cons (js_if (jt_cmp (op_eqDD hr.units) r_eq (jq_e (je_ix (jq_n 0) (jq_e je_int))) (jq_e je_str) (nomark _))
    (jss_one (js_ret (je_n 7)))
    jss_nil)
  (jss_cons (js_if (jt_cmp (op_eqDD hr.units) r_eq (jq_e (je_ix (jq_n 0) (jq_e je_int))) (jq_e je_str) (nomark _))
    (jss_one (js_ret (je_of_jn (jn_lc (own := [("name", 8)]) rfl rfl sc_law_step.nd (ji_n 2) (blkOk_by (own := [("name", 8)]) (N := N_law_step) (sc := defScope s_law_step) (by decide +kernel)) (fun _ _ _ _ _ => (jgc_n (i := 8) sc_law_step.nd rfl (by first | exact Or.inl rfl | exact Or.inr rfl) (by decide) (by first | exact .inl rfl | exact .inr rfl))) (fun _ _ _ _ _ => (jts_one (jt_w (jw_or (jt_cmp (op_inDD hr.units65) r_in (jq_n 8) (jq_n 5) (by rfl)) (jw_or1 (jt_cmp (op_inDD hr.units65) r_in (jq_n 8) (jq_n 6) (by rfl))))))) (fun _ _ _ _ _ => (je_n 8))))))
    jss_nil)
  (jss_cons (js_if (jt_w (jw_and (jt_cmp (op_eqDD hr.units) r_eq (jq_e (je_ix (jq_n 0) (jq_e je_int))) (jq_e je_str) (nomark _)) (jw_and (jt_cmp op_lt r_lt (jq_e (je_bi call_lenA r_len (by rfl) T.b_len (by decide +kernel) (ja_cons (jq_n 7) ja_nil))) (jq_e (je_bi call_lenA r_len (by rfl) T.b_len (by decide +kernel) (ja_cons (jq_n 5) ja_nil))) (nomark _)) (jw_and1 (jt_cmp op_lt r_lt (jq_e (je_bi call_lenA r_len (by rfl) T.b_len (by decide +kernel) (ja_cons (jq_n 7) ja_nil))) (jq_e (je_bi call_lenA r_len (by rfl) T.b_len (by decide +kernel) (ja_cons (jq_n 6) ja_nil))) (nomark _))))))
    (jss_one (js_ret (je_of_jn (jn_lc (own := [("name", 8)]) rfl rfl sc_law_step.nd (ji_n 5) (blkOk_by (own := [("name", 8)]) (N := N_law_step) (sc := defScope s_law_step) (by decide +kernel)) (fun _ _ _ _ _ => (jgc_n (i := 8) sc_law_step.nd rfl (by first | exact Or.inl rfl | exact Or.inr rfl) (by decide) (by first | exact .inl rfl | exact .inr rfl))) (fun _ _ _ _ _ => (jts_one (jt_cmp (op_ninDD hr.units65) r_nin (jq_n 8) (jq_n 6) (by rfl)))) (fun _ _ _ _ _ => (je_n 8))))))
    jss_nil)
  (jss_one (js_ret je_non))))))))))))))
theorem ok_law_drawn (fu : Nat) (T : Txt K mg) : FnOk P w K mg base (L2.CX P w) 1 T.f_law_drawn T.fd_law_drawn ["draw", "k", "names", "rows"] (spD K (cnT T) [true, true, true, true] (F_law_drawn fu)) :=
  okD (n := 4) T.F_law_drawn sc_law_drawn rfl rfl (fun _ => rfl) fun cdv A outer s H E hr =>
  have tk : Takes (cxOf (L2.CX P w) P w K mg base N_law_drawn "_law_drawn" (defScope s_law_drawn) T.f_law_drawn cdv A outer s H E) (fun cls d _ H => E cls d H) := takes_of rfl rfl rfl rfl
  have hp : PassesOwn (model P w) (cxOf (L2.CX P w) P w K mg base N_law_drawn "_law_drawn" (defScope s_law_drawn) T.f_law_drawn cdv A outer s H E).A (cxOf (L2.CX P w) P w K mg base N_law_drawn "_law_drawn" (defScope s_law_drawn) T.f_law_drawn cdv A outer s H E).env (cxOf (L2.CX P w) P w K mg base N_law_drawn "_law_drawn" (defScope s_law_drawn) T.f_law_drawn cdv A outer s H E).xe := passes_of rfl
  (jss_cons (js_set (i := 4) sc_law_drawn.nd rfl (by first | exact Or.inl rfl | exact Or.inr rfl) (je_op op_modN r_mod (jq_e (je_ty call_int1 r_int (by rfl) T.b_int (by decide +kernel) (ja_cons (jq_e (je_op op_divD r_div (jq_n 0) (jq_e je_int))) ja_nil))) (jq_e je_int)))
  (jss_cons (js_set (i := 5) sc_law_drawn.nd rfl (by first | exact Or.inl rfl | exact Or.inr rfl) (je_op op_modN r_mod (jq_e (je_ty call_int1 r_int (by rfl) T.b_int (by decide +kernel) (ja_cons (jq_e (je_op op_divD r_div (jq_n 0) (jq_e je_int))) ja_nil))) (jq_e je_int)))
  (jss_cons (js_set (i := 6) sc_law_drawn.nd rfl (by first | exact Or.inl rfl | exact Or.inr rfl) (je_ix (jq_e (je_of_jn (jn_lst (jl_cons je_str (jl_cons je_str (jl_cons je_str (jl_cons je_str (jl_cons je_str (jl_cons je_str jl_nil))))))))) (jq_e (je_op op_modN r_mod (jq_e (je_ty call_int1 r_int (by rfl) T.b_int (by decide +kernel) (ja_cons (jq_n 0) ja_nil))) (jq_e je_int)))))
  (jss_cons (js_if (jt_cmp (op_eqDD hr.units) r_eq (jq_n 6) (jq_e je_str) (nomark _))
    (jss_one (js_ret (je_tup (jl_cons (je_n 6) (jl_cons (je_op op_sub r_sub (jq_e (je_op op_modN r_mod (jq_e (je_ty call_int1 r_int (by rfl) T.b_int (by decide +kernel) (ja_cons (jq_n 4) ja_nil))) (jq_e (je_op op_addD r_add (jq_e (je_bi call_lenA r_len (by rfl) T.b_len (by decide +kernel) (ja_cons (jq_n 3) ja_nil))) (jq_e je_int))))) (jq_e je_int)) jl_nil)))))
    jss_nil)
  (jss_cons (js_if (jt_cmp (op_eqDD hr.units) r_eq (jq_n 6) (jq_e je_str) (nomark _))
    (jss_cons (js_set (i := 7) sc_law_drawn.nd rfl (by first | exact Or.inl rfl | exact Or.inr rfl) (je_op op_addD r_add (jq_n 2) (jq_e (je_of_jn (jn_lst (jl_cons je_str jl_nil))))))
  (jss_one (js_ret (je_tup (jl_cons (je_n 6) (jl_cons (je_ix (jq_n 7) (jq_e (je_op op_modN r_mod (jq_e (je_ty call_int1 r_int (by rfl) T.b_int (by decide +kernel) (ja_cons (jq_n 4) ja_nil))) (jq_e (je_bi call_lenA r_len (by rfl) T.b_len (by decide +kernel) (ja_cons (jq_n 7) ja_nil)))))) jl_nil))))))
    jss_nil)
  (jss_cons (js_if (jt_cmp (op_eqDD hr.units) r_eq (jq_n 6) (jq_e je_str) (nomark _))
    (jss_one (js_ret (je_tup (jl_cons (je_n 6) jl_nil))))
    jss_nil)
  (jss_one (js_ret (je_tup (jl_cons (je_n 6) (jl_cons (je_op op_sub r_sub (jq_e (je_op op_modN r_mod (jq_e (je_ty call_int1 r_int (by rfl) T.b_int (by decide +kernel) (ja_cons (jq_n 4) ja_nil))) (jq_e (je_op op_addD r_add (jq_n 1) (jq_e je_int))))) (jq_e je_int)) (jl_cons (je_op op_sub r_sub (jq_e (je_op op_modN r_mod (jq_e (je_ty call_int1 r_int (by rfl) T.b_int (by decide +kernel) (ja_cons (jq_n 5) ja_nil))) (jq_e (je_op op_addD r_add (jq_n 1) (jq_e je_int))))) (jq_e je_int)) jl_nil))))))))))))
theorem ok_law_instead (fu : Nat) (T : Txt K mg) : FnOk P w K mg base (L2.CX P w) 3 T.f_law_instead T.fd_law_instead ["word", "draw", "sets", "names", "rows"] (spD K (cnT T) [false, true, true, true, true] (F_law_instead fu)) :=
  okD (n := 5) T.F_law_instead sc_law_instead rfl rfl (fun _ => rfl) fun cdv A outer s H E hr =>
  have tk : Takes (cxOf (L2.CX P w) P w K mg base N_law_instead "_law_instead" (defScope s_law_instead) T.f_law_instead cdv A outer s H E) (fun cls d _ H => E cls d H) := takes_of rfl rfl rfl rfl
  have hp : PassesOwn (model P w) (cxOf (L2.CX P w) P w K mg base N_law_instead "_law_instead" (defScope s_law_instead) T.f_law_instead cdv A outer s H E).A (cxOf (L2.CX P w) P w K mg base N_law_instead "_law_instead" (defScope s_law_instead) T.f_law_instead cdv A outer s H E).env (cxOf (L2.CX P w) P w K mg base N_law_instead "_law_instead" (defScope s_law_instead) T.f_law_instead cdv A outer s H E).xe := passes_of rfl
  (jss_cons (js_set (i := 5) sc_law_instead.nd rfl (by first | exact Or.inl rfl | exact Or.inr rfl) (je_bi call_lenA r_len (by rfl) T.b_len (by decide +kernel) (ja_cons (jq_n 2) ja_nil)))
  (jss_cons (js_for hp rfl (ji_rg1 (by rfl) T.b_range (jq_e je_int)) (jg_n 6 sc_law_instead.nd)
    (jss_one (js_if (jt_w (jw_and (jt_cmp op_gt r_gt (jq_n 5) (jq_e je_int) (nomark _)) (jw_and1 (jt_cmp (op_inDD hr.units65) r_in (jq_n 0) (jq_e (je_of_jn (jn_lst (jl_cons je_str (jl_cons je_str (jl_cons je_str jl_nil)))))) (by rfl)))))
    (jss_cons (js_set (i := 7) sc_law_instead.nd rfl (by first | exact Or.inl rfl | exact Or.inr rfl) (je_tup (jl_cons (je_n 0) (jl_cons (je_op op_modN r_mod (jq_e (je_ty call_int1 r_int (by rfl) T.b_int (by decide +kernel) (ja_cons (jq_e (je_op op_addD r_add (jq_e (je_op op_divD r_div (jq_n 1) (jq_e je_int))) (jq_n 6))) ja_nil))) (jq_n 5)) (jl_cons (je_op op_modN r_mod (jq_e (je_ty call_int1 r_int (by rfl) T.b_int (by decide +kernel) (ja_cons (jq_e (je_op op_addD r_add (jq_e (je_op op_divD r_div (jq_n 1) (jq_e je_int))) (jq_e (je_op op_mulD r_mul (jq_n 6) (jq_e je_int))))) ja_nil))) (jq_n 5)) jl_nil)))))
  (jss_one (js_if (jt_cmp op_notN r_notN (jq_e (je_call (ok_law_step fu T) (hr.mono (by decide)) (by rfl) T.g_law_step T.k_law_step T.bd_law_step tk (ja_cons (jq_n 7) (ja_cons (jq_n 2) (ja_cons (jq_n 3) (ja_cons (jq_n 4) ja_nil)))))) (jq_e je_non) (nomark _))
    (jss_one (js_ret (je_n 7)))
    jss_nil)))
    jss_nil)))
  (jss_cons (js_setLc (i := 8) (own := [("i", 9)]) rfl rfl sc_law_instead.nd rfl rfl (sw_true rfl rfl rfl (by decide +kernel)) (ji_rg1 (by rfl) T.b_range (jq_e (je_bi call_lenA r_len (by rfl) T.b_len (by decide +kernel) (ja_cons (jq_n 4) ja_nil)))) (blkOk_by (own := [("i", 9)]) (N := N_law_instead) (sc := defScope s_law_instead) (by decide +kernel)) (fun _ _ _ _ _ => (jgc_n (i := 9) sc_law_instead.nd rfl (by first | exact Or.inl rfl | exact Or.inr rfl) (by decide) (by first | exact .inl rfl | exact .inr rfl))) (fun _ _ _ _ _ => (jts_one (jt_cmp op_gt r_gt (jq_e (je_bi call_lenA r_len (by rfl) T.b_len (by decide +kernel) (ja_cons (jq_e (je_ix (jq_n 4) (jq_n 9))) ja_nil))) (jq_e je_int) (nomark _)))) (fun _ _ _ _ _ => (je_n 9)))
  (jss_cons (js_if (jt_w (jw_and (jt_cmp op_gt r_gt (jq_e (je_bi call_lenA r_len (by rfl) T.b_len (by decide +kernel) (ja_cons (jq_n 8) ja_nil))) (jq_e je_int) (nomark _)) (jw_and1 (jt_cmp op_gt r_gt (jq_e (je_op op_modN r_mod (jq_e (je_ty call_int1 r_int (by rfl) T.b_int (by decide +kernel) (ja_cons (jq_n 1) ja_nil))) (jq_e je_int))) (jq_e je_int) (nomark _)))))
    (jss_one (js_ret (je_tup (jl_cons je_str (jl_cons (je_ix (jq_n 8) (jq_e (je_op op_modN r_mod (jq_e (je_ty call_int1 r_int (by rfl) T.b_int (by decide +kernel) (ja_cons (jq_e (je_op op_divD r_div (jq_n 1) (jq_e je_int))) ja_nil))) (jq_e (je_bi call_lenA r_len (by rfl) T.b_len (by decide +kernel) (ja_cons (jq_n 8) ja_nil)))))) jl_nil)))))
    jss_nil)
  (jss_one (js_ret (je_tup (jl_cons je_str (jl_cons (je_ix (jq_n 3) (jq_e (je_op op_modN r_mod (jq_e (je_ty call_int1 r_int (by rfl) T.b_int (by decide +kernel) (ja_cons (jq_e (je_op op_divD r_div (jq_n 1) (jq_e je_int))) ja_nil))) (jq_e (je_bi call_lenA r_len (by rfl) T.b_len (by decide +kernel) (ja_cons (jq_n 3) ja_nil)))))) jl_nil)))))))))
theorem ok_law_pair (fu : Nat) (T : Txt K mg) : FnOk P w K mg base (L2.CX P w) 1 T.f_law_pair T.fd_law_pair ["sets", "nested"] (spD K (cnT T) [true, true] (F_law_pair fu)) :=
  okD (n := 5) T.F_law_pair sc_law_pair rfl rfl (fun _ => rfl) fun cdv A outer s H E hr =>
  have tk : Takes (cxOf (L2.CX P w) P w K mg base N_law_pair "_law_pair" (defScope s_law_pair) T.f_law_pair cdv A outer s H E) (fun cls d _ H => E cls d H) := takes_of rfl rfl rfl rfl
  have hp : PassesOwn (model P w) (cxOf (L2.CX P w) P w K mg base N_law_pair "_law_pair" (defScope s_law_pair) T.f_law_pair cdv A outer s H E).A (cxOf (L2.CX P w) P w K mg base N_law_pair "_law_pair" (defScope s_law_pair) T.f_law_pair cdv A outer s H E).env (cxOf (L2.CX P w) P w K mg base N_law_pair "_law_pair" (defScope s_law_pair) T.f_law_pair cdv A outer s H E).xe := passes_of rfl
  (jss_cons (js_set (i := 2) sc_law_pair.nd rfl (by first | exact Or.inl rfl | exact Or.inr rfl) (je_bi call_lenA r_len (by rfl) T.b_len (by decide +kernel) (ja_cons (jq_n 0) ja_nil)))
  (jss_cons (js_for hp rfl (ji_rg2 (by rfl) T.b_range (jq_e (je_bi (call_max2 rfl) r_max2 (by rfl) T.b_max (by decide +kernel) (ja_cons (jq_e je_int) (ja_cons (jq_e (je_op op_sub r_sub (jq_n 2) (jq_e je_int))) ja_nil)))) (jq_n 2)) (jg_n 3 sc_law_pair.nd)
    (jss_one (js_for hp rfl (ji_rg2 (by rfl) T.b_range (jq_e (je_bi (call_max2 rfl) r_max2 (by rfl) T.b_max (by decide +kernel) (ja_cons (jq_e je_int) (ja_cons (jq_e (je_op op_sub r_sub (jq_n 2) (jq_e je_int))) ja_nil)))) (jq_n 2)) (jg_n 4 sc_law_pair.nd)
    (jss_cons (js_setLc (i := 5) (own := [("name", 6)]) rfl rfl sc_law_pair.nd rfl rfl (sw_true rfl rfl rfl (by decide +kernel)) (ji_e (je_ix (jq_n 0) (jq_n 3))) (blkOk_by (own := [("name", 6)]) (N := N_law_pair) (sc := defScope s_law_pair) (by decide +kernel)) (fun _ _ _ _ _ => (jgc_n (i := 6) sc_law_pair.nd rfl (by first | exact Or.inl rfl | exact Or.inr rfl) (by decide) (by first | exact .inl rfl | exact .inr rfl))) (fun _ _ _ _ _ => (jts_one (jt_cmp (op_inDD hr.units65) r_in (jq_n 6) (jq_e (je_ix (jq_n 0) (jq_n 4))) (by rfl)))) (fun _ _ _ _ _ => (je_n 6)))
  (jss_cons (js_if (jt_w (jw_and (jt_e (je_n 1)) (jw_and (jt_cmp (op_eqDD hr.units) r_eq (jq_e (je_bi call_lenA r_len (by rfl) T.b_len (by decide +kernel) (ja_cons (jq_n 5) ja_nil))) (jq_e (je_bi call_lenA r_len (by rfl) T.b_len (by decide +kernel) (ja_cons (jq_e (je_ix (jq_n 0) (jq_n 4))) ja_nil))) (nomark _)) (jw_and1 (jt_cmp op_lt r_lt (jq_e (je_bi call_lenA r_len (by rfl) T.b_len (by decide +kernel) (ja_cons (jq_n 5) ja_nil))) (jq_e (je_bi call_lenA r_len (by rfl) T.b_len (by decide +kernel) (ja_cons (jq_e (je_ix (jq_n 0) (jq_n 3))) ja_nil))) (nomark _))))))
    (jss_one (js_ret (je_tup (jl_cons (je_n 3) (jl_cons (je_n 4) jl_nil)))))
    jss_nil)
  (jss_one (js_if (jt_w (jw_and (jt_not (jt_e (je_n 1))) (jw_and1 (jt_cmp (op_eqDD hr.units) r_eq (jq_e (je_bi call_lenA r_len (by rfl) T.b_len (by decide +kernel) (ja_cons (jq_n 5) ja_nil))) (jq_e je_int) (nomark _)))))
    (jss_one (js_ret (je_tup (jl_cons (je_n 3) (jl_cons (je_n 4) jl_nil)))))
    jss_nil)))))))
  (jss_one (js_ret (je_tup (jl_cons je_int (jl_cons (je_n 2) jl_nil)))))))
theorem ok_law_bad (fu : Nat) (T : Txt K mg) : FnOk P w K mg base (L2.CX P w) 2 T.f_law_bad T.fd_law_bad ["draw", "sets", "rows"] (spD K (cnT T) [true, true, true] (F_law_bad fu)) :=
  okD (n := 2) T.F_law_bad sc_law_bad rfl rfl (fun _ => rfl) fun cdv A outer s H E hr =>
  have tk : Takes (cxOf (L2.CX P w) P w K mg base N_law_bad "_law_bad" (defScope s_law_bad) T.f_law_bad cdv A outer s H E) (fun cls d _ H => E cls d H) := takes_of rfl rfl rfl rfl
  have hp : PassesOwn (model P w) (cxOf (L2.CX P w) P w K mg base N_law_bad "_law_bad" (defScope s_law_bad) T.f_law_bad cdv A outer s H E).A (cxOf (L2.CX P w) P w K mg base N_law_bad "_law_bad" (defScope s_law_bad) T.f_law_bad cdv A outer s H E).env (cxOf (L2.CX P w) P w K mg base N_law_bad "_law_bad" (defScope s_law_bad) T.f_law_bad cdv A outer s H E).xe := passes_of rfl
  (jss_cons (js_set (i := 3) sc_law_bad.nd rfl (by first | exact Or.inl rfl | exact Or.inr rfl) (je_bi call_lenA r_len (by rfl) T.b_len (by decide +kernel) (ja_cons (jq_n 1) ja_nil)))
  (jss_cons (js_set (i := 4) sc_law_bad.nd rfl (by first | exact Or.inl rfl | exact Or.inr rfl) (je_of_jn (jn_lst (jl_cons (je_tup (jl_cons je_str (jl_cons (je_n 3) (jl_cons je_int jl_nil)))) (jl_cons (je_tup (jl_cons je_str (jl_cons je_int (jl_cons (je_n 3) jl_nil)))) (jl_cons (je_tup (jl_cons je_str (jl_cons (je_bi call_lenA r_len (by rfl) T.b_len (by decide +kernel) (ja_cons (jq_n 2) ja_nil)) jl_nil))) (jl_cons (je_tup (jl_cons je_str (jl_cons je_str jl_nil))) (jl_cons (je_tup (jl_cons je_str (jl_cons je_int (jl_cons je_int jl_nil)))) jl_nil))))))))
  (jss_cons (js_set (i := 4) sc_law_bad.nd rfl (by first | exact Or.inl rfl | exact Or.inr rfl) (je_op op_addD r_add (jq_n 4) (jq_e (je_of_jn (jn_lst (jl_cons (je_tup (jl_cons je_str (jl_cons (je_un un_neg r_neg (jq_e je_int)) jl_nil))) (jl_cons (je_tup (jl_cons je_str (jl_cons (je_un un_neg r_neg (jq_e je_int)) (jl_cons je_int jl_nil)))) (jl_cons (je_op op_addD r_add (jq_e (je_tup (jl_cons je_str jl_nil))) (jq_e (je_call (ok_law_pair fu T) (hr.mono (by decide)) (by rfl) T.g_law_pair T.k_law_pair T.bd_law_pair tk (ja_cons (jq_n 1) (ja_cons (jq_e je_bl) ja_nil))))) jl_nil))))))))
  (jss_cons (js_set (i := 4) sc_law_bad.nd rfl (by first | exact Or.inl rfl | exact Or.inr rfl) (je_op op_addD r_add (jq_n 4) (jq_e (je_of_jn (jn_lst (jl_cons (je_op op_addD r_add (jq_e (je_tup (jl_cons je_str jl_nil))) (jq_e (je_call (ok_law_pair fu T) (hr.mono (by decide)) (by rfl) T.g_law_pair T.k_law_pair T.bd_law_pair tk (ja_cons (jq_n 1) (ja_cons (jq_e je_bl) ja_nil))))) (jl_cons (je_op op_addD r_add (jq_e (je_tup (jl_cons je_str jl_nil))) (jq_e (je_call (ok_law_pair fu T) (hr.mono (by decide)) (by rfl) T.g_law_pair T.k_law_pair T.bd_law_pair tk (ja_cons (jq_n 1) (ja_cons (jq_e je_bl) ja_nil))))) jl_nil)))))))
  (jss_one (js_ret (je_ix (jq_n 4) (jq_e (je_op op_modN r_mod (jq_e (je_ty call_int1 r_int (by rfl) T.b_int (by decide +kernel) (ja_cons (jq_n 0) ja_nil))) (jq_e je_int))))))))))
theorem ok_law_same (fu : Nat) (T : Txt K mg) : FnOk P w K mg base (L2.CX P w) 1 T.f_law_same T.fd_law_same ["found", "sets"] (spD K (cnT T) [true, true] (F_law_same fu)) :=
  okD (n := 1) T.F_law_same sc_law_same rfl rfl (fun _ => rfl) fun cdv A outer s H E hr =>
  have tk : Takes (cxOf (L2.CX P w) P w K mg base N_law_same "_law_same" (defScope s_law_same) T.f_law_same cdv A outer s H E) (fun cls d _ H => E cls d H) := takes_of rfl rfl rfl rfl
  have hp : PassesOwn (model P w) (cxOf (L2.CX P w) P w K mg base N_law_same "_law_same" (defScope s_law_same) T.f_law_same cdv A outer s H E).A (cxOf (L2.CX P w) P w K mg base N_law_same "_law_same" (defScope s_law_same) T.f_law_same cdv A outer s H E).env (cxOf (L2.CX P w) P w K mg base N_law_same "_law_same" (defScope s_law_same) T.f_law_same cdv A outer s H E).xe := passes_of rfl
  (jss_cons (js_if (jt_w (jw_or (jt_not (jt_e (je_isi (by rfl) T.b_isinstance (jq_n 0) (jc_ty (by rfl) T.b_list (by decide +kernel)) ty2_list))) (jw_or1 (jt_cmp (op_neDD hr.units) r_ne (jq_e (je_bi call_lenA r_len (by rfl) T.b_len (by decide +kernel) (ja_cons (jq_n 0) ja_nil))) (jq_e (je_bi call_lenA r_len (by rfl) T.b_len (by decide +kernel) (ja_cons (jq_n 1) ja_nil))) (nomark _)))))
    (jss_one (js_ret je_bl))
    jss_nil)
  (jss_cons (js_for hp rfl (ji_rg1 (by rfl) T.b_range (jq_e (je_bi call_lenA r_len (by rfl) T.b_len (by decide +kernel) (ja_cons (jq_n 1) ja_nil)))) (jg_n 2 sc_law_same.nd)
    (jss_one (js_if (jt_w (jw_or (jt_not (jt_e (je_isi (by rfl) T.b_isinstance (jq_e (je_ix (jq_n 0) (jq_n 2))) (jc_ty (by rfl) T.b_tuple (by decide +kernel)) ty2_tuple))) (jw_or1 (jt_cmp (op_neDD hr.units) r_ne (jq_e (je_of_jn (jn_ty call_list_of r_listof (by rfl) T.b_list (by decide +kernel) (ja_cons (jq_e (je_ix (jq_n 0) (jq_n 2))) ja_nil)))) (jq_e (je_ix (jq_n 1) (jq_n 2))) (nomark _)))))
    (jss_one (js_ret je_bl))
    jss_nil)))
  (jss_one (js_ret je_bl))))
theorem ok_law_refusal (fu : Nat) (T : Txt K mg) : FnOk P w K mg base (L2.CX P w) 8 T.f_law_refusal T.fd_law_refusal ["table", "steps"] (spD K (cnT T) [true, true] (F_law_refusal fu)) :=
  okD (n := 2) T.F_law_refusal sc_law_refusal rfl rfl (fun _ => rfl) fun cdv A outer s H E hr =>
  have tk : Takes (cxOf (L2.CX P w) P w K mg base N_law_refusal "_law_refusal" (defScope s_law_refusal) T.f_law_refusal cdv A outer s H E) (fun cls d _ H => E cls d H) := takes_of rfl rfl rfl rfl
  have hp : PassesOwn (model P w) (cxOf (L2.CX P w) P w K mg base N_law_refusal "_law_refusal" (defScope s_law_refusal) T.f_law_refusal cdv A outer s H E).A (cxOf (L2.CX P w) P w K mg base N_law_refusal "_law_refusal" (defScope s_law_refusal) T.f_law_refusal cdv A outer s H E).env (cxOf (L2.CX P w) P w K mg base N_law_refusal "_law_refusal" (defScope s_law_refusal) T.f_law_refusal cdv A outer s H E).xe := passes_of rfl
  (jss_cons (js_set (i := 2) sc_law_refusal.nd rfl (by first | exact Or.inl rfl | exact Or.inr rfl) je_non)
  (jss_cons (js_try (i := 3) (ex := (tbl [(3, true)])) rfl rfl rfl sc_law_refusal.nd rfl rfl ⟨by rfl, by decide, .inl T.g_BadStep⟩ (tab_cons (PySem.W.exm_ref T.bx_BadStep T.hd_BadStep T.ty_BadStep T.su_BadStep_of_BadStep) tab_nil) tk
    (fun W pn xe tk hp => (jss_one (js_drop (je_call (ok_follow fu T) (hr.mono (by decide)) (by rfl) T.g_follow T.k_follow T.bd_follow tk (ja_cons (jq_n 0) (ja_cons (jq_n 1) ja_nil))))))
    (fun a oe cls d pn hz hv => (jss_one (js_set (i := 2) sc_law_refusal.nd rfl (by first | exact Or.inl rfl | exact Or.inr rfl) (je_tup (jl_cons (je_xf (cs := [3]) (i := 3) (f := 1) rfl hz hv (mem_cons ⟨⟨T.eg_BadStep, T.ek_BadStep, T.bx_BadStep, T.hd_BadStep⟩, T.na_BadStep_index⟩ mem_nil) rfl) (jl_cons (je_and (je_isED (i := 3) (is := (tbl [(3, true)])) rfl hz hv (by rfl) T.b_isinstance (jc_own (by rfl) T.g_RowsError) (tab_cons ⟨⟨T.eg_BadStep, T.ek_BadStep, T.bx_BadStep, T.hd_BadStep, T.ha_BadStep, T.hn_get, T.ht_get, T.hm_BadStep⟩, (kit_ownT T.ic_RowsError T.ty_RowsError T.su_RowsError_of_BadStep)⟩ tab_nil)) (je_one (je_isED (i := 3) (is := (tbl [(3, true)])) rfl hz hv (by rfl) T.b_isinstance (jc_ty (by rfl) T.b_ValueError (by decide +kernel)) (tab_cons ⟨⟨T.eg_BadStep, T.ek_BadStep, T.bx_BadStep, T.hd_BadStep, T.ha_BadStep, T.hn_get, T.ht_get, T.hm_BadStep⟩, (kit_refTy T.kt_BadStep_ValueError)⟩ tab_nil)))) (jl_cons (je_isEDT (i := 3) (is := (tbl [(3, false)])) rfl hz hv (by rfl) T.b_isinstance (jc_own (by rfl) T.g_Unknown) (jc_own (by rfl) T.g_Impossible) (tab_cons ⟨⟨T.eg_BadStep, T.ek_BadStep, T.bx_BadStep, T.hd_BadStep, T.ha_BadStep, T.hn_get, T.ht_get, T.hm_BadStep⟩, kit_any2 (kit_ownF T.ic_Unknown T.ty_Unknown T.su_Unknown_of_BadStep T.su_Unknown_of_Unknown) (kit_ownF T.ic_Impossible T.ty_Impossible T.su_Impossible_of_BadStep T.su_Impossible_of_Impossible)⟩ tab_nil)) jl_nil))))))))
  (jss_one (js_ret (je_n 2)))))
theorem ok_law (fu : Nat) (T : Txt K mg) : FnOk P w K mg base (L2.CX P w) 9 T.f_law T.fd_law ["script"] (spD K (cnT T) [true] (F_law fu)) :=
  okD (n := 21) T.F_law sc_law rfl rfl (fun _ => rfl) fun cdv A outer s H E hr =>
  have tk : Takes (cxOf (L2.CX P w) P w K mg base N_law "law" (defScope s_law) T.f_law cdv A outer s H E) (fun cls d _ H => E cls d H) := takes_of rfl rfl rfl rfl
  have hp : PassesOwn (model P w) (cxOf (L2.CX P w) P w K mg base N_law "law" (defScope s_law) T.f_law cdv A outer s H E).A (cxOf (L2.CX P w) P w K mg base N_law "law" (defScope s_law) T.f_law cdv A outer s H E).env (cxOf (L2.CX P w) P w K mg base N_law "law" (defScope s_law) T.f_law cdv A outer s H E).xe := passes_of rfl
  (jss_cons (js_set (i := 1) sc_law.nd rfl (by first | exact Or.inl rfl | exact Or.inr rfl) (je_call (ok_law_pool fu T) (hr.mono (by decide)) (by rfl) T.g_law_pool T.k_law_pool T.bd_law_pool tk (ja_cons (jq_n 0) (ja_cons (jq_e je_int) (ja_cons (jq_e je_int) ja_nil)))))
  (jss_cons (js_set (i := 2) sc_law.nd rfl (by first | exact Or.inl rfl | exact Or.inr rfl) (je_call (ok_law_pool fu T) (hr.mono (by decide)) (by rfl) T.g_law_pool T.k_law_pool T.bd_law_pool tk (ja_cons (jq_n 0) (ja_cons (jq_e je_int) (ja_cons (jq_e je_int) ja_nil)))))
  (jss_cons (js_set (i := 3) sc_law.nd rfl (by first | exact Or.inl rfl | exact Or.inr rfl) (je_call (ok_law_pool fu T) (hr.mono (by decide)) (by rfl) T.g_law_pool T.k_law_pool T.bd_law_pool tk (ja_cons (jq_n 0) (ja_cons (jq_e je_int) (ja_cons (jq_e je_int) ja_nil)))))
  (jss_cons (js_set (i := 4) sc_law.nd rfl (by first | exact Or.inl rfl | exact Or.inr rfl) (je_call (ok_law_size fu T) (hr.mono (by decide)) (by rfl) T.g_law_size T.k_law_size T.bd_law_size tk (ja_cons (jq_e (je_ix (jq_n 1) (jq_e je_int))) (ja_cons (jq_e je_int) ja_nil))))
  (jss_cons (js_set (i := 5) sc_law.nd rfl (by first | exact Or.inl rfl | exact Or.inr rfl) (je_call (ok_law_names fu T) (hr.mono (by decide)) (by rfl) T.g_law_names T.k_law_names T.bd_law_names tk (ja_cons (jq_n 4) (ja_cons (jq_e (je_ix (jq_n 1) (jq_e je_int))) ja_nil))))
  (jss_cons (js_set (i := 6) sc_law.nd rfl (by first | exact Or.inl rfl | exact Or.inr rfl) (je_call (ok_law_order fu T) (hr.mono (by decide)) (by rfl) T.g_law_order T.k_law_order T.bd_law_order tk (ja_cons (jq_n 5) (ja_cons (jq_n 1) (ja_cons (jq_e je_int) ja_nil)))))
  (jss_cons (js_set (i := 7) sc_law.nd rfl (by first | exact Or.inl rfl | exact Or.inr rfl) (je_op op_modN r_mod (jq_e (je_ty call_int1 r_int (by rfl) T.b_int (by decide +kernel) (ja_cons (jq_e (je_ix (jq_n 1) (jq_e je_int))) ja_nil))) (jq_e je_int)))
  (jss_cons (js_own (i := 8) sc_law.nd rfl (by first | exact Or.inl rfl | exact Or.inr rfl) (jn_call (ok_law_rows fu T) (hr.mono (by decide)) (by rfl) T.g_law_rows T.k_law_rows T.bd_law_rows tk (ja_cons (jq_n 5) (ja_cons (jq_n 6) (ja_cons (jq_n 1) (ja_cons (jq_e je_int) (ja_cons (jq_e (je_op op_modN r_mod (jq_e (je_ty call_int1 r_int (by rfl) T.b_int (by decide +kernel) (ja_cons (jq_e (je_ix (jq_n 1) (jq_e je_int))) ja_nil))) (jq_e je_int))) (ja_cons (jq_n 7) ja_nil))))))))
  (jss_cons (js_for hp rfl (ji_e (je_sl (jq_n 0) (jp_some (jq_e je_int)) (jp_some (jq_e je_int)))) (jg_n 9 sc_law.nd)
    (jss_one (js_app 8 (je_call (ok_law_row fu T) (hr.mono (by decide)) (by rfl) T.g_law_row T.k_law_row T.bd_law_row tk (ja_cons (jq_n 5) (ja_cons (jq_n 6) (ja_cons (jq_e (je_bi call_abs r_abs (by rfl) T.b_abs (by decide +kernel) (ja_cons (jq_n 9) ja_nil))) (ja_cons (jq_e (je_cmp (op_eqDD hr.units) r_eq (jq_n 7) (jq_e je_int) (nomark _))) ja_nil))))) (pe := fun t h => pe_bm PySem.F.plainAttrs_list PySem.F.slot_list_append PySem.F.type_list_append mt_append (pe_var (i := 8) rfl (by first | exact Or.inl rfl | exact Or.inr (Or.inl rfl) | exact Or.inr (Or.inr rfl))) (pa_cons h pa_nil)))))
  (jss_cons (js_if (jt_cmp (op_eqDD hr.units) r_eq (jq_e (je_op op_modN r_mod (jq_e (je_ty call_int1 r_int (by rfl) T.b_int (by decide +kernel) (ja_cons (jq_e (je_ix (jq_n 2) (jq_e je_int))) ja_nil))) (jq_e je_int))) (jq_e je_int) (nomark _))
    (jss_one (js_own (i := 8) sc_law.nd rfl (by first | exact Or.inl rfl | exact Or.inr rfl) (jn_op op_cat r_cat cat_l (jq_e (je_op op_addD r_add (jq_e (je_op op_addD r_add (jq_n 8) (jq_n 8))) (jq_n 8))) (jq_n 8))))
    jss_nil)
  (jss_cons (js_own (i := 10) sc_law.nd rfl (by first | exact Or.inl rfl | exact Or.inr rfl) (jn_lst jl_nil))
  (jss_cons (js_own (i := 11) sc_law.nd rfl (by first | exact Or.inl rfl | exact Or.inr rfl) (jn_lst jl_nil))
  (jss_cons (js_set (i := 12) sc_law.nd rfl (by first | exact Or.inl rfl | exact Or.inr rfl) (je_tup (jl_cons je_str (jl_cons je_str jl_nil))))
  (jss_cons (js_for hp rfl (ji_rg1 (by rfl) T.b_range (jq_e (je_op op_addD r_add (jq_e je_int) (jq_e (je_op op_modN r_mod (jq_e (je_ty call_int1 r_int (by rfl) T.b_int (by decide +kernel) (ja_cons (jq_e (je_ix (jq_n 3) (jq_e je_int))) ja_nil))) (jq_e je_int)))))) (jg_n 13 sc_law.nd)
    (jss_cons (js_set (i := 14) sc_law.nd rfl (by first | exact Or.inl rfl | exact Or.inr rfl) (je_call (ok_law_drawn fu T) (hr.mono (by decide)) (by rfl) T.g_law_drawn T.k_law_drawn T.bd_law_drawn tk (ja_cons (jq_e (je_ix (jq_n 3) (jq_e (je_op op_addD r_add (jq_e je_int) (jq_n 13))))) (ja_cons (jq_n 13) (ja_cons (jq_n 5) (ja_cons (jq_n 8) ja_nil))))))
  (jss_cons (js_set (i := 15) sc_law.nd rfl (by first | exact Or.inl rfl | exact Or.inr rfl) (je_call (ok_law_step fu T) (hr.mono (by decide)) (by rfl) T.g_law_step T.k_law_step T.bd_law_step tk (ja_cons (jq_n 14) (ja_cons (jq_n 11) (ja_cons (jq_n 5) (ja_cons (jq_n 8) ja_nil))))))
  (jss_cons (js_if (jt_w (jw_and (jt_cmp op_isN r_isN (jq_n 15) (jq_e je_non) (nomark _)) (jw_and (jt_cmp op_gt r_gt (jq_n 4) (jq_e je_int) (nomark _)) (jw_and1 (jt_w (jw_or (jt_cmp (op_eqDD hr.units) r_eq (jq_e (je_op op_modN r_mod (jq_e (je_ty call_int1 r_int (by rfl) T.b_int (by decide +kernel) (ja_cons (jq_e (je_ix (jq_n 2) (jq_e je_int))) ja_nil))) (jq_e je_int))) (jq_e je_int) (nomark _)) (jw_or1 (jt_cmp op_gt r_gt (jq_e (je_op op_modN r_mod (jq_e (je_ty call_int1 r_int (by rfl) T.b_int (by decide +kernel) (ja_cons (jq_e (je_ix (jq_n 2) (jq_e (je_op op_addD r_add (jq_e je_int) (jq_n 13))))) ja_nil))) (jq_e je_int))) (jq_e je_int) (nomark _)))))))))
    (jss_cons (js_set (i := 14) sc_law.nd rfl (by first | exact Or.inl rfl | exact Or.inr rfl) (je_call (ok_law_instead fu T) (hr.mono (by decide)) (by rfl) T.g_law_instead T.k_law_instead T.bd_law_instead tk (ja_cons (jq_e (je_ix (jq_n 14) (jq_e je_int))) (ja_cons (jq_e (je_ix (jq_n 2) (jq_e (je_op op_addD r_add (jq_e je_int) (jq_n 13))))) (ja_cons (jq_n 11) (ja_cons (jq_n 5) (ja_cons (jq_n 8) ja_nil)))))))
  (jss_one (js_set (i := 15) sc_law.nd rfl (by first | exact Or.inl rfl | exact Or.inr rfl) (je_call (ok_law_step fu T) (hr.mono (by decide)) (by rfl) T.g_law_step T.k_law_step T.bd_law_step tk (ja_cons (jq_n 14) (ja_cons (jq_n 11) (ja_cons (jq_n 5) (ja_cons (jq_n 8) ja_nil))))))))
    jss_nil)
  (jss_cons (js_if (jt_cmp op_isN r_isN (jq_n 15) (jq_e je_non) (nomark _))
    (jss_cons (js_set (i := 12) sc_law.nd rfl (by first | exact Or.inl rfl | exact Or.inr rfl) (je_n 14))
  (jss_one js_brk))
    jss_nil)
  (jss_cons (js_app 10 (je_n 14) (pe := fun t h => pe_bm PySem.F.plainAttrs_list PySem.F.slot_list_append PySem.F.type_list_append mt_append (pe_var (i := 10) rfl (by first | exact Or.inl rfl | exact Or.inr (Or.inl rfl) | exact Or.inr (Or.inr rfl))) (pa_cons h pa_nil)))
  (jss_one (js_app 11 (je_n 15) (pe := fun t h => pe_bm PySem.F.plainAttrs_list PySem.F.slot_list_append PySem.F.type_list_append mt_append (pe_var (i := 11) rfl (by first | exact Or.inl rfl | exact Or.inr (Or.inl rfl) | exact Or.inr (Or.inr rfl))) (pa_cons h pa_nil))))))))))
  (jss_cons (js_if (jt_w (jw_and (jt_cmp op_gt r_gt (jq_e (je_bi call_lenA r_len (by rfl) T.b_len (by decide +kernel) (ja_cons (jq_n 10) ja_nil))) (jq_e je_int) (nomark _)) (jw_and1 (jt_cmp (op_eqDD hr.units) r_eq (jq_n 12) (jq_e (je_tup (jl_cons je_str (jl_cons je_str jl_nil)))) (nomark _)))))
    (jss_one (js_set (i := 12) sc_law.nd rfl (by first | exact Or.inl rfl | exact Or.inr rfl) (je_call (ok_law_bad fu T) (hr.mono (by decide)) (by rfl) T.g_law_bad T.k_law_bad T.bd_law_bad tk (ja_cons (jq_e (je_ix (jq_n 2) (jq_e je_int))) (ja_cons (jq_n 11) (ja_cons (jq_n 8) ja_nil))))))
    jss_nil)
  (jss_cons (js_set (i := 16) sc_law.nd rfl (by first | exact Or.inl rfl | exact Or.inr rfl) (je_ix (jq_e (je_of_jn (jn_lst (jl_cons (je_of_jn (jn_lst jl_nil)) (jl_cons (je_of_jn (jn_lst (jl_cons (je_tup (jl_cons je_str jl_nil)) jl_nil))) (jl_cons (je_of_jn (jn_lst (jl_cons (je_tup (jl_cons je_str (jl_cons (je_un un_neg r_neg (jq_e je_int)) jl_nil))) (jl_cons (je_tup (jl_cons je_str jl_nil)) jl_nil)))) jl_nil)))))) (jq_e (je_op op_modN r_mod (jq_e (je_ty call_int1 r_int (by rfl) T.b_int (by decide +kernel) (ja_cons (jq_e (je_ix (jq_n 2) (jq_e je_int))) ja_nil))) (jq_e je_int)))))
  (jss_cons (js_set (i := 17) sc_law.nd rfl (by first | exact Or.inl rfl | exact Or.inr rfl) (je_of_jn (jn_lst (jl_cons (je_of_jn (jn_ty call_list_of r_listof (by rfl) T.b_list (by decide +kernel) (ja_cons (jq_n 5) ja_nil))) (jl_cons (je_of_jn (jn_lc (own := [("row", 18)]) rfl rfl sc_law.nd (ji_n 8) (blkOk_by (own := [("row", 18)]) (N := N_law) (sc := defScope s_law) (by decide +kernel)) (fun _ _ _ _ _ => (jgc_n (i := 18) sc_law.nd rfl (by first | exact Or.inl rfl | exact Or.inr rfl) (by decide) (by first | exact .inl rfl | exact .inr rfl))) (fun _ _ _ _ _ => jts_nil) (fun _ _ _ _ _ => (je_of_jn (jn_ty call_list_of r_listof (by rfl) T.b_list (by decide +kernel) (ja_cons (jq_n 18) ja_nil)))))) (jl_cons (je_of_jn (jn_ty call_list_of r_listof (by rfl) T.b_list (by decide +kernel) (ja_cons (jq_n 10) ja_nil))) (jl_cons (je_op op_addD r_add (jq_e (je_op op_addD r_add (jq_e (je_of_jn (jn_ty call_list_of r_listof (by rfl) T.b_list (by decide +kernel) (ja_cons (jq_n 10) ja_nil)))) (jq_e (je_of_jn (jn_lst (jl_cons (je_n 12) jl_nil)))))) (jq_n 16)) jl_nil)))))))
  (jss_cons (js_set (i := 19) sc_law.nd rfl (by first | exact Or.inl rfl | exact Or.inr rfl) (je_make (c := 0) ⟨T.mkc_Table, T.a_TableD_initD, T.i_TableD_initD, T.kc_Table⟩ (ok_TableD_initD fu T) (hr.mono (by decide)) (by rfl) T.g_Table T.bd_TableD_initD tk (ja_cons (jq_e (je_ix (jq_n 17) (jq_e je_int))) (ja_cons (jq_e (je_ix (jq_n 17) (jq_e je_int))) ja_nil))))
  (jss_cons (js_if (jt_cmp op_gt r_gt (jq_e (je_bi call_lenA r_len (by rfl) T.b_len (by decide +kernel) (ja_cons (jq_n 10) ja_nil))) (jq_e je_int) (nomark _))
    (jss_cons (js_own (i := 20) sc_law.nd rfl (by first | exact Or.inl rfl | exact Or.inr rfl) (jn_call (ok_follow fu T) (hr.mono (by decide)) (by rfl) T.g_follow T.k_follow T.bd_follow tk (ja_cons (jq_n 19) (ja_cons (jq_e (je_ix (jq_n 17) (jq_e je_int))) ja_nil))))
  (jss_cons (js_if (jt_not (jt_e (je_call (ok_law_same fu T) (hr.mono (by decide)) (by rfl) T.g_law_same T.k_law_same T.bd_law_same tk (ja_cons (jq_n 20) (ja_cons (jq_n 11) ja_nil)))))
    (jss_one (js_ret je_bl))
    jss_nil)
  (jss_cons (js_app 20 (je_tup jl_nil) (pe := fun t h => pe_bm PySem.F.plainAttrs_list PySem.F.slot_list_append PySem.F.type_list_append mt_append (pe_var (i := 20) rfl (by first | exact Or.inl rfl | exact Or.inr (Or.inl rfl) | exact Or.inr (Or.inr rfl))) (pa_cons h pa_nil)))
  (jss_one (js_if (jt_not (jt_e (je_call (ok_law_same fu T) (hr.mono (by decide)) (by rfl) T.g_law_same T.k_law_same T.bd_law_same tk (ja_cons (jq_e (je_call (ok_follow fu T) (hr.mono (by decide)) (by rfl) T.g_follow T.k_follow T.bd_follow tk (ja_cons (jq_n 19) (ja_cons (jq_e (je_ty call_tuple_of r_tupleof (by rfl) T.b_tuple (by decide +kernel) (ja_cons (jq_n 10) ja_nil))) ja_nil)))) (ja_cons (jq_n 11) ja_nil)))))
    (jss_one (js_ret je_bl))
    jss_nil)))))
    jss_nil)
  (jss_cons (js_set (i := 21) sc_law.nd rfl (by first | exact Or.inl rfl | exact Or.inr rfl) (je_call (ok_law_refusal fu T) (hr.mono (by decide)) (by rfl) T.g_law_refusal T.k_law_refusal T.bd_law_refusal tk (ja_cons (jq_n 19) (ja_cons (jq_e (je_ix (jq_n 17) (jq_e je_int))) ja_nil))))
  (jss_cons (js_if (jt_w (jw_or (jt_cmp op_isN r_isN (jq_n 21) (jq_e je_non) (nomark _)) (jw_or (jt_not (jt_e (je_call (ok_law_is_number fu T) (hr.mono (by decide)) (by rfl) T.g_law_is_number T.k_law_is_number T.bd_law_is_number tk (ja_cons (jq_e (je_ix (jq_n 21) (jq_e je_int))) (ja_cons (jq_e (je_bi call_lenA r_len (by rfl) T.b_len (by decide +kernel) (ja_cons (jq_n 10) ja_nil))) (ja_cons (jq_e (je_bi call_lenA r_len (by rfl) T.b_len (by decide +kernel) (ja_cons (jq_n 10) ja_nil))) ja_nil)))))) (jw_or (jt_not (jt_tru (jq_e (je_ix (jq_n 21) (jq_e je_int))))) (jw_or1 (jt_tru (jq_e (je_ix (jq_n 21) (jq_e je_int)))))))))
    (jss_one (js_ret je_bl))
    jss_nil)
  (jss_cons (js_if (jt_cmp (op_neDD hr.units) r_ne (jq_e (je_of_jn (jn_lc (own := [("row", 18)]) rfl rfl sc_law.nd (ji_e (je_fld (c := 0) (f := 3) (je_n 19) rfl (fa_inj_3 T) ⟨T.pg_Table, T.hd_Table, T.po_Table, T.sa_Table⟩ T.na_Table_rows)) (blkOk_by (own := [("row", 18)]) (N := N_law) (sc := defScope s_law) (by decide +kernel)) (fun _ _ _ _ _ => (jgc_n (i := 18) sc_law.nd rfl (by first | exact Or.inl rfl | exact Or.inr rfl) (by decide) (by first | exact .inl rfl | exact .inr rfl))) (fun _ _ _ _ _ => jts_nil) (fun _ _ _ _ _ => (je_of_jn (jn_ty call_list_of r_listof (by rfl) T.b_list (by decide +kernel) (ja_cons (jq_n 18) ja_nil))))))) (jq_e (je_of_jn (jn_lc (own := [("row", 18)]) rfl rfl sc_law.nd (ji_n 8) (blkOk_by (own := [("row", 18)]) (N := N_law) (sc := defScope s_law) (by decide +kernel)) (fun _ _ _ _ _ => (jgc_n (i := 18) sc_law.nd rfl (by first | exact Or.inl rfl | exact Or.inr rfl) (by decide) (by first | exact .inl rfl | exact .inr rfl))) (fun _ _ _ _ _ => jts_nil) (fun _ _ _ _ _ => (je_call (ok_law_sorted fu T) (hr.mono (by decide)) (by rfl) T.g_law_sorted T.k_law_sorted T.bd_law_sorted takesW (ja_cons (jq_n 5) (ja_cons (jq_n 18) ja_nil))))))) (nomark _))
    (jss_one (js_ret je_bl))
    jss_nil)
  (jss_one (js_ret (je_cmp (op_eqDD hr.units) r_eq (jq_n 17) (jq_e (je_of_jn (jn_lst (jl_cons (je_n 5) (jl_cons (je_n 8) (jl_cons (je_n 10) (jl_cons (je_op op_addD r_add (jq_e (je_op op_addD r_add (jq_n 10) (jq_e (je_of_jn (jn_lst (jl_cons (je_n 12) jl_nil)))))) (jq_n 16)) jl_nil))))))) (nomark _))))))))))))))))))))))))))
end
end K24

set_option autoImplicit true
set_option Elab.async false
set_option linter.all false
set_option maxRecDepth 100000
set_option exponentiation.threshold 10000
set_option maxHeartbeats 4000000
namespace K24
open PySem L2 Ed
theorem all_mk {l : PySem.W.OpenLaw} {w : World} {K : PySem.W.Frag} {h : Heap} {mg : Str → Option Value} {fa : Addr} (pw : ∀ ns : List Int, ns.length ≤ 63 → F_law FUEL [.scr ns] = .ok (.fz (.bl true))) (X : K.In h) (G : h.Ns mainGlobals mg) (hfa : mg "law" = some (.ref fa))
    {f_pair_mask : Addr} {od_pair_mask an_pair_mask : Option Addr} {sl_pair_mask : Array (Option Value)} {oc_pair_mask kV_pair_mask dc_pair_mask pm_pair_mask cd_pair_mask ct_pair_mask : Value}
    {f_is_pair_step : Addr} {od_is_pair_step an_is_pair_step : Option Addr} {sl_is_pair_step : Array (Option Value)} {oc_is_pair_step kV_is_pair_step dc_is_pair_step pm_is_pair_step cd_is_pair_step ct_is_pair_step : Value}
    {f_mask_of : Addr} {od_mask_of an_mask_of : Option Addr} {sl_mask_of : Array (Option Value)} {oc_mask_of kV_mask_of dc_mask_of pm_mask_of cd_mask_of ct_mask_of : Value}
    {f_bits : Addr} {od_bits an_bits : Option Addr} {sl_bits : Array (Option Value)} {oc_bits kV_bits dc_bits pm_bits cd_bits ct_bits : Value}
    {f_names_of : Addr} {od_names_of an_names_of : Option Addr} {sl_names_of : Array (Option Value)} {oc_names_of kV_names_of dc_names_of pm_names_of cd_names_of ct_names_of : Value}
    {f_full_mask : Addr} {od_full_mask an_full_mask : Option Addr} {sl_full_mask : Array (Option Value)} {oc_full_mask kV_full_mask dc_full_mask pm_full_mask cd_full_mask ct_full_mask : Value}
    {f_is_name : Addr} {od_is_name an_is_name : Option Addr} {sl_is_name : Array (Option Value)} {oc_is_name kV_is_name dc_is_name pm_is_name cd_is_name ct_is_name : Value}
    {f_first_misnamed : Addr} {od_first_misnamed an_first_misnamed : Option Addr} {sl_first_misnamed : Array (Option Value)} {oc_first_misnamed kV_first_misnamed dc_first_misnamed pm_first_misnamed cd_first_misnamed ct_first_misnamed : Value}
    {f_is_row : Addr} {od_is_row an_is_row : Option Addr} {sl_is_row : Array (Option Value)} {oc_is_row kV_is_row dc_is_row pm_is_row cd_is_row ct_is_row : Value}
    {f_common_names : Addr} {od_common_names an_common_names : Option Addr} {sl_common_names : Array (Option Value)} {oc_common_names kV_common_names dc_common_names pm_common_names cd_common_names ct_common_names : Value}
    {f_BadTableD_initD : Addr} {od_BadTableD_initD an_BadTableD_initD : Option Addr} {sl_BadTableD_initD : Array (Option Value)} {oc_BadTableD_initD kV_BadTableD_initD dc_BadTableD_initD pm_BadTableD_initD cd_BadTableD_initD ct_BadTableD_initD : Value}
    {f_TableD_initD : Addr} {od_TableD_initD an_TableD_initD : Option Addr} {sl_TableD_initD : Array (Option Value)} {oc_TableD_initD kV_TableD_initD dc_TableD_initD pm_TableD_initD cd_TableD_initD ct_TableD_initD : Value}
    {t_TableD_initD : Addr} {to_TableD_initD : Obj} {ti_TableD_initD : List Value} {tn_TableD_initD : Nat}
    {e_TableD_initD : Addr}
    {f_UnknownRowD_initD : Addr} {od_UnknownRowD_initD an_UnknownRowD_initD : Option Addr} {sl_UnknownRowD_initD : Array (Option Value)} {oc_UnknownRowD_initD kV_UnknownRowD_initD dc_UnknownRowD_initD pm_UnknownRowD_initD cd_UnknownRowD_initD ct_UnknownRowD_initD : Value}
    {f_TableD_getitemD : Addr} {od_TableD_getitemD an_TableD_getitemD : Option Addr} {sl_TableD_getitemD : Array (Option Value)} {oc_TableD_getitemD kV_TableD_getitemD dc_TableD_getitemD pm_TableD_getitemD cd_TableD_getitemD ct_TableD_getitemD : Value}
    {f_TableD_lenD : Addr} {od_TableD_lenD an_TableD_lenD : Option Addr} {sl_TableD_lenD : Array (Option Value)} {oc_TableD_lenD kV_TableD_lenD dc_TableD_lenD pm_TableD_lenD cd_TableD_lenD ct_TableD_lenD : Value}
    {f_single_mask : Addr} {od_single_mask an_single_mask : Option Addr} {sl_single_mask : Array (Option Value)} {oc_single_mask kV_single_mask dc_single_mask pm_single_mask cd_single_mask ct_single_mask : Value}
    {f_step_mask : Addr} {od_step_mask an_step_mask : Option Addr} {sl_step_mask : Array (Option Value)} {oc_step_mask kV_step_mask dc_step_mask pm_step_mask cd_step_mask ct_step_mask : Value}
    {f_BadStepD_initD : Addr} {od_BadStepD_initD an_BadStepD_initD : Option Addr} {sl_BadStepD_initD : Array (Option Value)} {oc_BadStepD_initD kV_BadStepD_initD dc_BadStepD_initD pm_BadStepD_initD cd_BadStepD_initD ct_BadStepD_initD : Value}
    {f_follow : Addr} {od_follow an_follow : Option Addr} {sl_follow : Array (Option Value)} {oc_follow kV_follow dc_follow pm_follow cd_follow ct_follow : Value}
    {f_law_cell : Addr} {od_law_cell an_law_cell : Option Addr} {sl_law_cell : Array (Option Value)} {oc_law_cell kV_law_cell dc_law_cell pm_law_cell cd_law_cell ct_law_cell : Value}
    {f_law_pool : Addr} {od_law_pool an_law_pool : Option Addr} {sl_law_pool : Array (Option Value)} {oc_law_pool kV_law_pool dc_law_pool pm_law_pool cd_law_pool ct_law_pool : Value}
    {f_law_size : Addr} {od_law_size an_law_size : Option Addr} {sl_law_size : Array (Option Value)} {oc_law_size kV_law_size dc_law_size pm_law_size cd_law_size ct_law_size : Value}
    {f_law_names : Addr} {od_law_names an_law_names : Option Addr} {sl_law_names : Array (Option Value)} {oc_law_names kV_law_names dc_law_names pm_law_names cd_law_names ct_law_names : Value}
    {f_law_order : Addr} {od_law_order an_law_order : Option Addr} {sl_law_order : Array (Option Value)} {oc_law_order kV_law_order dc_law_order pm_law_order cd_law_order ct_law_order : Value}
    {f_law_row : Addr} {od_law_row an_law_row : Option Addr} {sl_law_row : Array (Option Value)} {oc_law_row kV_law_row dc_law_row pm_law_row cd_law_row ct_law_row : Value}
    {f_law_rows : Addr} {od_law_rows an_law_rows : Option Addr} {sl_law_rows : Array (Option Value)} {oc_law_rows kV_law_rows dc_law_rows pm_law_rows cd_law_rows ct_law_rows : Value}
    {f_law_sorted : Addr} {od_law_sorted an_law_sorted : Option Addr} {sl_law_sorted : Array (Option Value)} {oc_law_sorted kV_law_sorted dc_law_sorted pm_law_sorted cd_law_sorted ct_law_sorted : Value}
    {f_law_is_number : Addr} {od_law_is_number an_law_is_number : Option Addr} {sl_law_is_number : Array (Option Value)} {oc_law_is_number kV_law_is_number dc_law_is_number pm_law_is_number cd_law_is_number ct_law_is_number : Value}
    {f_law_step : Addr} {od_law_step an_law_step : Option Addr} {sl_law_step : Array (Option Value)} {oc_law_step kV_law_step dc_law_step pm_law_step cd_law_step ct_law_step : Value}
    {f_law_drawn : Addr} {od_law_drawn an_law_drawn : Option Addr} {sl_law_drawn : Array (Option Value)} {oc_law_drawn kV_law_drawn dc_law_drawn pm_law_drawn cd_law_drawn ct_law_drawn : Value}
    {f_law_instead : Addr} {od_law_instead an_law_instead : Option Addr} {sl_law_instead : Array (Option Value)} {oc_law_instead kV_law_instead dc_law_instead pm_law_instead cd_law_instead ct_law_instead : Value}
    {f_law_pair : Addr} {od_law_pair an_law_pair : Option Addr} {sl_law_pair : Array (Option Value)} {oc_law_pair kV_law_pair dc_law_pair pm_law_pair cd_law_pair ct_law_pair : Value}
    {f_law_bad : Addr} {od_law_bad an_law_bad : Option Addr} {sl_law_bad : Array (Option Value)} {oc_law_bad kV_law_bad dc_law_bad pm_law_bad cd_law_bad ct_law_bad : Value}
    {f_law_same : Addr} {od_law_same an_law_same : Option Addr} {sl_law_same : Array (Option Value)} {oc_law_same kV_law_same dc_law_same pm_law_same cd_law_same ct_law_same : Value}
    {f_law_refusal : Addr} {od_law_refusal an_law_refusal : Option Addr} {sl_law_refusal : Array (Option Value)} {oc_law_refusal kV_law_refusal dc_law_refusal pm_law_refusal cd_law_refusal ct_law_refusal : Value}
    {f_law : Addr} {od_law an_law : Option Addr} {sl_law : Array (Option Value)} {oc_law kV_law dc_law pm_law cd_law ct_law : Value}
    {t_BITS : Addr}
    {C_Table : Addr}
    {C_BadTable : Addr}
    {C_UnknownRow : Addr}
    {C_BadStep : Addr}
    {C_Unknown : Addr}
    {C_Impossible : Addr}
    {C_RowsError : Addr}
    {tok_LONGEST_NAME : Tok}
    {tok_LETTERS : Tok}
    {tok_Table_MOST_COLUMNS : Tok}
    {tok_Table_MOST_ROWS : Tok}
    {xnm_BadTable} {xq_BadTable} {xN_BadTable} {xbs_BadTable} {xbm_BadTable} {xsn_BadTable} {xsub_BadTable} {xab_BadTable} {xcol_BadTable} {xdd_BadTable} {xk0_BadTable} {xk1_BadTable} {xk2_BadTable} {xk3_BadTable} {xk5_BadTable}
    {xnm_UnknownRow} {xq_UnknownRow} {xN_UnknownRow} {xbs_UnknownRow} {xbm_UnknownRow} {xsn_UnknownRow} {xsub_UnknownRow} {xab_UnknownRow} {xcol_UnknownRow} {xdd_UnknownRow} {xk0_UnknownRow} {xk1_UnknownRow} {xk2_UnknownRow} {xk3_UnknownRow} {xk5_UnknownRow}
    {xnm_BadStep} {xq_BadStep} {xN_BadStep} {xbs_BadStep} {xbm_BadStep} {xsn_BadStep} {xsub_BadStep} {xab_BadStep} {xcol_BadStep} {xdd_BadStep} {xk0_BadStep} {xk1_BadStep} {xk2_BadStep} {xk3_BadStep} {xk5_BadStep}
    {o_t_BITS : Obj} {ti_t_BITS : List Value} {tn_t_BITS : Nat}
    {o_e_TableD_initD : Obj} {ti_e_TableD_initD : List Value} {tn_e_TableD_initD : Nat}
    (b_BITS : PySem.W.nsIn K mainGlobals "BITS" = some (some (.ref t_BITS)))
    (g_bits : PySem.W.nsIn K mainGlobals "bits" = some (some (.ref f_bits)))
    (g_is_name : PySem.W.nsIn K mainGlobals "is_name" = some (some (.ref f_is_name)))
    (g_Table : PySem.W.nsIn K mainGlobals "Table" = some (some (.ref C_Table)))
    (g_BadTable : PySem.W.nsIn K mainGlobals "BadTable" = some (some (.ref C_BadTable)))
    (g_first_misnamed : PySem.W.nsIn K mainGlobals "first_misnamed" = some (some (.ref f_first_misnamed)))
    (g_is_row : PySem.W.nsIn K mainGlobals "is_row" = some (some (.ref f_is_row)))
    (g_common_names : PySem.W.nsIn K mainGlobals "common_names" = some (some (.ref f_common_names)))
    (g_UnknownRow : PySem.W.nsIn K mainGlobals "UnknownRow" = some (some (.ref C_UnknownRow)))
    (g_full_mask : PySem.W.nsIn K mainGlobals "full_mask" = some (some (.ref f_full_mask)))
    (g_mask_of : PySem.W.nsIn K mainGlobals "mask_of" = some (some (.ref f_mask_of)))
    (g_is_pair_step : PySem.W.nsIn K mainGlobals "is_pair_step" = some (some (.ref f_is_pair_step)))
    (g_single_mask : PySem.W.nsIn K mainGlobals "single_mask" = some (some (.ref f_single_mask)))
    (g_pair_mask : PySem.W.nsIn K mainGlobals "pair_mask" = some (some (.ref f_pair_mask)))
    (g_step_mask : PySem.W.nsIn K mainGlobals "step_mask" = some (some (.ref f_step_mask)))
    (g_BadStep : PySem.W.nsIn K mainGlobals "BadStep" = some (some (.ref C_BadStep)))
    (g_names_of : PySem.W.nsIn K mainGlobals "names_of" = some (some (.ref f_names_of)))
    (g_law_cell : PySem.W.nsIn K mainGlobals "_law_cell" = some (some (.ref f_law_cell)))
    (g_law_row : PySem.W.nsIn K mainGlobals "_law_row" = some (some (.ref f_law_row)))
    (g_law_is_number : PySem.W.nsIn K mainGlobals "_law_is_number" = some (some (.ref f_law_is_number)))
    (g_law_sorted : PySem.W.nsIn K mainGlobals "_law_sorted" = some (some (.ref f_law_sorted)))
    (g_law_step : PySem.W.nsIn K mainGlobals "_law_step" = some (some (.ref f_law_step)))
    (g_law_pair : PySem.W.nsIn K mainGlobals "_law_pair" = some (some (.ref f_law_pair)))
    (g_follow : PySem.W.nsIn K mainGlobals "follow" = some (some (.ref f_follow)))
    (g_Unknown : PySem.W.nsIn K mainGlobals "Unknown" = some (some (.ref C_Unknown)))
    (g_Impossible : PySem.W.nsIn K mainGlobals "Impossible" = some (some (.ref C_Impossible)))
    (g_RowsError : PySem.W.nsIn K mainGlobals "RowsError" = some (some (.ref C_RowsError)))
    (g_law_pool : PySem.W.nsIn K mainGlobals "_law_pool" = some (some (.ref f_law_pool)))
    (g_law_size : PySem.W.nsIn K mainGlobals "_law_size" = some (some (.ref f_law_size)))
    (g_law_names : PySem.W.nsIn K mainGlobals "_law_names" = some (some (.ref f_law_names)))
    (g_law_order : PySem.W.nsIn K mainGlobals "_law_order" = some (some (.ref f_law_order)))
    (g_law_rows : PySem.W.nsIn K mainGlobals "_law_rows" = some (some (.ref f_law_rows)))
    (g_law_drawn : PySem.W.nsIn K mainGlobals "_law_drawn" = some (some (.ref f_law_drawn)))
    (g_law_instead : PySem.W.nsIn K mainGlobals "_law_instead" = some (some (.ref f_law_instead)))
    (g_law_bad : PySem.W.nsIn K mainGlobals "_law_bad" = some (some (.ref f_law_bad)))
    (g_law_same : PySem.W.nsIn K mainGlobals "_law_same" = some (some (.ref f_law_same)))
    (g_law_refusal : PySem.W.nsIn K mainGlobals "_law_refusal" = some (some (.ref f_law_refusal)))
    (g_law : PySem.W.nsIn K mainGlobals "law" = some (some (.ref f_law)))
    (a_BadTableD_initD : PySem.W.findIn K (.ref C_BadTable) "__init__" = some (some (.ref f_BadTableD_initD)))
    (a_UnknownRowD_initD : PySem.W.findIn K (.ref C_UnknownRow) "__init__" = some (some (.ref f_UnknownRowD_initD)))
    (a_TableD_lenD : PySem.W.findIn K (.ref C_Table) "__len__" = some (some (.ref f_TableD_lenD)))
    (a_TableD_getitemD : PySem.W.findIn K (.ref C_Table) "__getitem__" = some (some (.ref f_TableD_getitemD)))
    (a_BadStepD_initD : PySem.W.findIn K (.ref C_BadStep) "__init__" = some (some (.ref f_BadStepD_initD)))
    (a_TableD_initD : PySem.W.findIn K (.ref C_Table) "__init__" = some (some (.ref f_TableD_initD)))
    (l_pair_mask : K.lookup f_pair_mask = some ⟨oc_pair_mask, od_pair_mask, .func (PySem.W.fnOf "pair_mask" "pair_mask" (defArgs s_pair_mask) (defBody s_pair_mask) (defScope s_pair_mask) .none kV_pair_mask dc_pair_mask pm_pair_mask an_pair_mask cd_pair_mask ct_pair_mask), sl_pair_mask⟩)
    (c_pair_mask : PySem.W.codeIn K cd_pair_mask "pair_mask" = true)
    (k_pair_mask : PySem.W.keepIn K (.ref f_pair_mask) = true)
    (l_is_pair_step : K.lookup f_is_pair_step = some ⟨oc_is_pair_step, od_is_pair_step, .func (PySem.W.fnOf "is_pair_step" "is_pair_step" (defArgs s_is_pair_step) (defBody s_is_pair_step) (defScope s_is_pair_step) .none kV_is_pair_step dc_is_pair_step pm_is_pair_step an_is_pair_step cd_is_pair_step ct_is_pair_step), sl_is_pair_step⟩)
    (c_is_pair_step : PySem.W.codeIn K cd_is_pair_step "is_pair_step" = true)
    (k_is_pair_step : PySem.W.keepIn K (.ref f_is_pair_step) = true)
    (l_mask_of : K.lookup f_mask_of = some ⟨oc_mask_of, od_mask_of, .func (PySem.W.fnOf "mask_of" "mask_of" (defArgs s_mask_of) (defBody s_mask_of) (defScope s_mask_of) .none kV_mask_of dc_mask_of pm_mask_of an_mask_of cd_mask_of ct_mask_of), sl_mask_of⟩)
    (c_mask_of : PySem.W.codeIn K cd_mask_of "mask_of" = true)
    (k_mask_of : PySem.W.keepIn K (.ref f_mask_of) = true)
    (l_bits : K.lookup f_bits = some ⟨oc_bits, od_bits, .func (PySem.W.fnOf "bits" "bits" (defArgs s_bits) (defBody s_bits) (defScope s_bits) .none kV_bits dc_bits pm_bits an_bits cd_bits ct_bits), sl_bits⟩)
    (c_bits : PySem.W.codeIn K cd_bits "bits" = true)
    (k_bits : PySem.W.keepIn K (.ref f_bits) = true)
    (l_names_of : K.lookup f_names_of = some ⟨oc_names_of, od_names_of, .func (PySem.W.fnOf "names_of" "names_of" (defArgs s_names_of) (defBody s_names_of) (defScope s_names_of) .none kV_names_of dc_names_of pm_names_of an_names_of cd_names_of ct_names_of), sl_names_of⟩)
    (c_names_of : PySem.W.codeIn K cd_names_of "names_of" = true)
    (k_names_of : PySem.W.keepIn K (.ref f_names_of) = true)
    (l_full_mask : K.lookup f_full_mask = some ⟨oc_full_mask, od_full_mask, .func (PySem.W.fnOf "full_mask" "full_mask" (defArgs s_full_mask) (defBody s_full_mask) (defScope s_full_mask) .none kV_full_mask dc_full_mask pm_full_mask an_full_mask cd_full_mask ct_full_mask), sl_full_mask⟩)
    (c_full_mask : PySem.W.codeIn K cd_full_mask "full_mask" = true)
    (k_full_mask : PySem.W.keepIn K (.ref f_full_mask) = true)
    (l_is_name : K.lookup f_is_name = some ⟨oc_is_name, od_is_name, .func (PySem.W.fnOf "is_name" "is_name" (defArgs s_is_name) (defBody s_is_name) (defScope s_is_name) .none kV_is_name dc_is_name pm_is_name an_is_name cd_is_name ct_is_name), sl_is_name⟩)
    (c_is_name : PySem.W.codeIn K cd_is_name "is_name" = true)
    (k_is_name : PySem.W.keepIn K (.ref f_is_name) = true)
    (l_first_misnamed : K.lookup f_first_misnamed = some ⟨oc_first_misnamed, od_first_misnamed, .func (PySem.W.fnOf "first_misnamed" "first_misnamed" (defArgs s_first_misnamed) (defBody s_first_misnamed) (defScope s_first_misnamed) .none kV_first_misnamed dc_first_misnamed pm_first_misnamed an_first_misnamed cd_first_misnamed ct_first_misnamed), sl_first_misnamed⟩)
    (c_first_misnamed : PySem.W.codeIn K cd_first_misnamed "first_misnamed" = true)
    (k_first_misnamed : PySem.W.keepIn K (.ref f_first_misnamed) = true)
    (l_is_row : K.lookup f_is_row = some ⟨oc_is_row, od_is_row, .func (PySem.W.fnOf "is_row" "is_row" (defArgs s_is_row) (defBody s_is_row) (defScope s_is_row) .none kV_is_row dc_is_row pm_is_row an_is_row cd_is_row ct_is_row), sl_is_row⟩)
    (c_is_row : PySem.W.codeIn K cd_is_row "is_row" = true)
    (k_is_row : PySem.W.keepIn K (.ref f_is_row) = true)
    (l_common_names : K.lookup f_common_names = some ⟨oc_common_names, od_common_names, .func (PySem.W.fnOf "common_names" "common_names" (defArgs s_common_names) (defBody s_common_names) (defScope s_common_names) .none kV_common_names dc_common_names pm_common_names an_common_names cd_common_names ct_common_names), sl_common_names⟩)
    (c_common_names : PySem.W.codeIn K cd_common_names "common_names" = true)
    (k_common_names : PySem.W.keepIn K (.ref f_common_names) = true)
    (l_BadTableD_initD : K.lookup f_BadTableD_initD = some ⟨oc_BadTableD_initD, od_BadTableD_initD, .func (PySem.W.fnOf "__init__" "BadTable.__init__" (defArgs s_BadTableD_initD) (defBody s_BadTableD_initD) (defScope s_BadTableD_initD) .none kV_BadTableD_initD dc_BadTableD_initD pm_BadTableD_initD an_BadTableD_initD cd_BadTableD_initD ct_BadTableD_initD), sl_BadTableD_initD⟩)
    (c_BadTableD_initD : PySem.W.codeIn K cd_BadTableD_initD "BadTable.__init__" = true)
    (k_BadTableD_initD : PySem.W.keepIn K (.ref f_BadTableD_initD) = true)
    (l_TableD_initD : K.lookup f_TableD_initD = some ⟨oc_TableD_initD, od_TableD_initD, .func (PySem.W.fnOf "__init__" "Table.__init__" (defArgs s_TableD_initD) (defBody s_TableD_initD) (defScope s_TableD_initD) (.ref t_TableD_initD) kV_TableD_initD dc_TableD_initD pm_TableD_initD an_TableD_initD cd_TableD_initD ct_TableD_initD), sl_TableD_initD⟩)
    (c_TableD_initD : PySem.W.codeIn K cd_TableD_initD "Table.__init__" = true)
    (k_TableD_initD : PySem.W.keepIn K (.ref f_TableD_initD) = true)
    (t1_TableD_initD : K.lookup t_TableD_initD = some to_TableD_initD)
    (t2_TableD_initD : to_TableD_initD.data = .seq ti_TableD_initD.toArray tn_TableD_initD)
    (t3_TableD_initD : Vals [(V.ref e_TableD_initD)] ti_TableD_initD)
    (l_UnknownRowD_initD : K.lookup f_UnknownRowD_initD = some ⟨oc_UnknownRowD_initD, od_UnknownRowD_initD, .func (PySem.W.fnOf "__init__" "UnknownRow.__init__" (defArgs s_UnknownRowD_initD) (defBody s_UnknownRowD_initD) (defScope s_UnknownRowD_initD) .none kV_UnknownRowD_initD dc_UnknownRowD_initD pm_UnknownRowD_initD an_UnknownRowD_initD cd_UnknownRowD_initD ct_UnknownRowD_initD), sl_UnknownRowD_initD⟩)
    (c_UnknownRowD_initD : PySem.W.codeIn K cd_UnknownRowD_initD "UnknownRow.__init__" = true)
    (k_UnknownRowD_initD : PySem.W.keepIn K (.ref f_UnknownRowD_initD) = true)
    (l_TableD_getitemD : K.lookup f_TableD_getitemD = some ⟨oc_TableD_getitemD, od_TableD_getitemD, .func (PySem.W.fnOf "__getitem__" "Table.__getitem__" (defArgs s_TableD_getitemD) (defBody s_TableD_getitemD) (defScope s_TableD_getitemD) .none kV_TableD_getitemD dc_TableD_getitemD pm_TableD_getitemD an_TableD_getitemD cd_TableD_getitemD ct_TableD_getitemD), sl_TableD_getitemD⟩)
    (c_TableD_getitemD : PySem.W.codeIn K cd_TableD_getitemD "Table.__getitem__" = true)
    (k_TableD_getitemD : PySem.W.keepIn K (.ref f_TableD_getitemD) = true)
    (l_TableD_lenD : K.lookup f_TableD_lenD = some ⟨oc_TableD_lenD, od_TableD_lenD, .func (PySem.W.fnOf "__len__" "Table.__len__" (defArgs s_TableD_lenD) (defBody s_TableD_lenD) (defScope s_TableD_lenD) .none kV_TableD_lenD dc_TableD_lenD pm_TableD_lenD an_TableD_lenD cd_TableD_lenD ct_TableD_lenD), sl_TableD_lenD⟩)
    (c_TableD_lenD : PySem.W.codeIn K cd_TableD_lenD "Table.__len__" = true)
    (k_TableD_lenD : PySem.W.keepIn K (.ref f_TableD_lenD) = true)
    (l_single_mask : K.lookup f_single_mask = some ⟨oc_single_mask, od_single_mask, .func (PySem.W.fnOf "single_mask" "single_mask" (defArgs s_single_mask) (defBody s_single_mask) (defScope s_single_mask) .none kV_single_mask dc_single_mask pm_single_mask an_single_mask cd_single_mask ct_single_mask), sl_single_mask⟩)
    (c_single_mask : PySem.W.codeIn K cd_single_mask "single_mask" = true)
    (k_single_mask : PySem.W.keepIn K (.ref f_single_mask) = true)
    (l_step_mask : K.lookup f_step_mask = some ⟨oc_step_mask, od_step_mask, .func (PySem.W.fnOf "step_mask" "step_mask" (defArgs s_step_mask) (defBody s_step_mask) (defScope s_step_mask) .none kV_step_mask dc_step_mask pm_step_mask an_step_mask cd_step_mask ct_step_mask), sl_step_mask⟩)
    (c_step_mask : PySem.W.codeIn K cd_step_mask "step_mask" = true)
    (k_step_mask : PySem.W.keepIn K (.ref f_step_mask) = true)
    (l_BadStepD_initD : K.lookup f_BadStepD_initD = some ⟨oc_BadStepD_initD, od_BadStepD_initD, .func (PySem.W.fnOf "__init__" "BadStep.__init__" (defArgs s_BadStepD_initD) (defBody s_BadStepD_initD) (defScope s_BadStepD_initD) .none kV_BadStepD_initD dc_BadStepD_initD pm_BadStepD_initD an_BadStepD_initD cd_BadStepD_initD ct_BadStepD_initD), sl_BadStepD_initD⟩)
    (c_BadStepD_initD : PySem.W.codeIn K cd_BadStepD_initD "BadStep.__init__" = true)
    (k_BadStepD_initD : PySem.W.keepIn K (.ref f_BadStepD_initD) = true)
    (l_follow : K.lookup f_follow = some ⟨oc_follow, od_follow, .func (PySem.W.fnOf "follow" "follow" (defArgs s_follow) (defBody s_follow) (defScope s_follow) .none kV_follow dc_follow pm_follow an_follow cd_follow ct_follow), sl_follow⟩)
    (c_follow : PySem.W.codeIn K cd_follow "follow" = true)
    (k_follow : PySem.W.keepIn K (.ref f_follow) = true)
    (l_law_cell : K.lookup f_law_cell = some ⟨oc_law_cell, od_law_cell, .func (PySem.W.fnOf "_law_cell" "_law_cell" (defArgs s_law_cell) (defBody s_law_cell) (defScope s_law_cell) .none kV_law_cell dc_law_cell pm_law_cell an_law_cell cd_law_cell ct_law_cell), sl_law_cell⟩)
    (c_law_cell : PySem.W.codeIn K cd_law_cell "_law_cell" = true)
    (k_law_cell : PySem.W.keepIn K (.ref f_law_cell) = true)
    (l_law_pool : K.lookup f_law_pool = some ⟨oc_law_pool, od_law_pool, .func (PySem.W.fnOf "_law_pool" "_law_pool" (defArgs s_law_pool) (defBody s_law_pool) (defScope s_law_pool) .none kV_law_pool dc_law_pool pm_law_pool an_law_pool cd_law_pool ct_law_pool), sl_law_pool⟩)
    (c_law_pool : PySem.W.codeIn K cd_law_pool "_law_pool" = true)
    (k_law_pool : PySem.W.keepIn K (.ref f_law_pool) = true)
    (l_law_size : K.lookup f_law_size = some ⟨oc_law_size, od_law_size, .func (PySem.W.fnOf "_law_size" "_law_size" (defArgs s_law_size) (defBody s_law_size) (defScope s_law_size) .none kV_law_size dc_law_size pm_law_size an_law_size cd_law_size ct_law_size), sl_law_size⟩)
    (c_law_size : PySem.W.codeIn K cd_law_size "_law_size" = true)
    (k_law_size : PySem.W.keepIn K (.ref f_law_size) = true)
    (l_law_names : K.lookup f_law_names = some ⟨oc_law_names, od_law_names, .func (PySem.W.fnOf "_law_names" "_law_names" (defArgs s_law_names) (defBody s_law_names) (defScope s_law_names) .none kV_law_names dc_law_names pm_law_names an_law_names cd_law_names ct_law_names), sl_law_names⟩)
    (c_law_names : PySem.W.codeIn K cd_law_names "_law_names" = true)
    (k_law_names : PySem.W.keepIn K (.ref f_law_names) = true)
    (l_law_order : K.lookup f_law_order = some ⟨oc_law_order, od_law_order, .func (PySem.W.fnOf "_law_order" "_law_order" (defArgs s_law_order) (defBody s_law_order) (defScope s_law_order) .none kV_law_order dc_law_order pm_law_order an_law_order cd_law_order ct_law_order), sl_law_order⟩)
    (c_law_order : PySem.W.codeIn K cd_law_order "_law_order" = true)
    (k_law_order : PySem.W.keepIn K (.ref f_law_order) = true)
    (l_law_row : K.lookup f_law_row = some ⟨oc_law_row, od_law_row, .func (PySem.W.fnOf "_law_row" "_law_row" (defArgs s_law_row) (defBody s_law_row) (defScope s_law_row) .none kV_law_row dc_law_row pm_law_row an_law_row cd_law_row ct_law_row), sl_law_row⟩)
    (c_law_row : PySem.W.codeIn K cd_law_row "_law_row" = true)
    (k_law_row : PySem.W.keepIn K (.ref f_law_row) = true)
    (l_law_rows : K.lookup f_law_rows = some ⟨oc_law_rows, od_law_rows, .func (PySem.W.fnOf "_law_rows" "_law_rows" (defArgs s_law_rows) (defBody s_law_rows) (defScope s_law_rows) .none kV_law_rows dc_law_rows pm_law_rows an_law_rows cd_law_rows ct_law_rows), sl_law_rows⟩)
    (c_law_rows : PySem.W.codeIn K cd_law_rows "_law_rows" = true)
    (k_law_rows : PySem.W.keepIn K (.ref f_law_rows) = true)
    (l_law_sorted : K.lookup f_law_sorted = some ⟨oc_law_sorted, od_law_sorted, .func (PySem.W.fnOf "_law_sorted" "_law_sorted" (defArgs s_law_sorted) (defBody s_law_sorted) (defScope s_law_sorted) .none kV_law_sorted dc_law_sorted pm_law_sorted an_law_sorted cd_law_sorted ct_law_sorted), sl_law_sorted⟩)
    (c_law_sorted : PySem.W.codeIn K cd_law_sorted "_law_sorted" = true)
    (k_law_sorted : PySem.W.keepIn K (.ref f_law_sorted) = true)
    (l_law_is_number : K.lookup f_law_is_number = some ⟨oc_law_is_number, od_law_is_number, .func (PySem.W.fnOf "_law_is_number" "_law_is_number" (defArgs s_law_is_number) (defBody s_law_is_number) (defScope s_law_is_number) .none kV_law_is_number dc_law_is_number pm_law_is_number an_law_is_number cd_law_is_number ct_law_is_number), sl_law_is_number⟩)
    (c_law_is_number : PySem.W.codeIn K cd_law_is_number "_law_is_number" = true)
    (k_law_is_number : PySem.W.keepIn K (.ref f_law_is_number) = true)
    (l_law_step : K.lookup f_law_step = some ⟨oc_law_step, od_law_step, .func (PySem.W.fnOf "_law_step" "_law_step" (defArgs s_law_step) (defBody s_law_step) (defScope s_law_step) .none kV_law_step dc_law_step pm_law_step an_law_step cd_law_step ct_law_step), sl_law_step⟩)
    (c_law_step : PySem.W.codeIn K cd_law_step "_law_step" = true)
    (k_law_step : PySem.W.keepIn K (.ref f_law_step) = true)
    (l_law_drawn : K.lookup f_law_drawn = some ⟨oc_law_drawn, od_law_drawn, .func (PySem.W.fnOf "_law_drawn" "_law_drawn" (defArgs s_law_drawn) (defBody s_law_drawn) (defScope s_law_drawn) .none kV_law_drawn dc_law_drawn pm_law_drawn an_law_drawn cd_law_drawn ct_law_drawn), sl_law_drawn⟩)
    (c_law_drawn : PySem.W.codeIn K cd_law_drawn "_law_drawn" = true)
    (k_law_drawn : PySem.W.keepIn K (.ref f_law_drawn) = true)
    (l_law_instead : K.lookup f_law_instead = some ⟨oc_law_instead, od_law_instead, .func (PySem.W.fnOf "_law_instead" "_law_instead" (defArgs s_law_instead) (defBody s_law_instead) (defScope s_law_instead) .none kV_law_instead dc_law_instead pm_law_instead an_law_instead cd_law_instead ct_law_instead), sl_law_instead⟩)
    (c_law_instead : PySem.W.codeIn K cd_law_instead "_law_instead" = true)
    (k_law_instead : PySem.W.keepIn K (.ref f_law_instead) = true)
    (l_law_pair : K.lookup f_law_pair = some ⟨oc_law_pair, od_law_pair, .func (PySem.W.fnOf "_law_pair" "_law_pair" (defArgs s_law_pair) (defBody s_law_pair) (defScope s_law_pair) .none kV_law_pair dc_law_pair pm_law_pair an_law_pair cd_law_pair ct_law_pair), sl_law_pair⟩)
    (c_law_pair : PySem.W.codeIn K cd_law_pair "_law_pair" = true)
    (k_law_pair : PySem.W.keepIn K (.ref f_law_pair) = true)
    (l_law_bad : K.lookup f_law_bad = some ⟨oc_law_bad, od_law_bad, .func (PySem.W.fnOf "_law_bad" "_law_bad" (defArgs s_law_bad) (defBody s_law_bad) (defScope s_law_bad) .none kV_law_bad dc_law_bad pm_law_bad an_law_bad cd_law_bad ct_law_bad), sl_law_bad⟩)
    (c_law_bad : PySem.W.codeIn K cd_law_bad "_law_bad" = true)
    (k_law_bad : PySem.W.keepIn K (.ref f_law_bad) = true)
    (l_law_same : K.lookup f_law_same = some ⟨oc_law_same, od_law_same, .func (PySem.W.fnOf "_law_same" "_law_same" (defArgs s_law_same) (defBody s_law_same) (defScope s_law_same) .none kV_law_same dc_law_same pm_law_same an_law_same cd_law_same ct_law_same), sl_law_same⟩)
    (c_law_same : PySem.W.codeIn K cd_law_same "_law_same" = true)
    (k_law_same : PySem.W.keepIn K (.ref f_law_same) = true)
    (l_law_refusal : K.lookup f_law_refusal = some ⟨oc_law_refusal, od_law_refusal, .func (PySem.W.fnOf "_law_refusal" "_law_refusal" (defArgs s_law_refusal) (defBody s_law_refusal) (defScope s_law_refusal) .none kV_law_refusal dc_law_refusal pm_law_refusal an_law_refusal cd_law_refusal ct_law_refusal), sl_law_refusal⟩)
    (c_law_refusal : PySem.W.codeIn K cd_law_refusal "_law_refusal" = true)
    (k_law_refusal : PySem.W.keepIn K (.ref f_law_refusal) = true)
    (l_law : K.lookup f_law = some ⟨oc_law, od_law, .func (PySem.W.fnOf "law" "law" (defArgs s_law) (defBody s_law) (defScope s_law) .none kV_law dc_law pm_law an_law cd_law ct_law), sl_law⟩)
    (c_law : PySem.W.codeIn K cd_law "law" = true)
    (k_law : PySem.W.keepIn K (.ref f_law) = true)
    (xl_BadTable : K.lookup C_BadTable = some (PySem.excClassObj xnm_BadTable xq_BadTable C_BadTable xN_BadTable xbs_BadTable xbm_BadTable true xsn_BadTable xsub_BadTable xab_BadTable xcol_BadTable xdd_BadTable xk0_BadTable xk1_BadTable xk2_BadTable xk3_BadTable xk5_BadTable "ValueError.__new__"))
    (xr_BadTable : PySem.HandSPX.refsVE xbm_BadTable = true)
    (xl_UnknownRow : K.lookup C_UnknownRow = some (PySem.excClassObj xnm_UnknownRow xq_UnknownRow C_UnknownRow xN_UnknownRow xbs_UnknownRow xbm_UnknownRow true xsn_UnknownRow xsub_UnknownRow xab_UnknownRow xcol_UnknownRow xdd_UnknownRow xk0_UnknownRow xk1_UnknownRow xk2_UnknownRow xk3_UnknownRow xk5_UnknownRow "ValueError.__new__"))
    (xr_UnknownRow : PySem.HandSPX.refsVE xbm_UnknownRow = true)
    (xl_BadStep : K.lookup C_BadStep = some (PySem.excClassObj xnm_BadStep xq_BadStep C_BadStep xN_BadStep xbs_BadStep xbm_BadStep true xsn_BadStep xsub_BadStep xab_BadStep xcol_BadStep xdd_BadStep xk0_BadStep xk1_BadStep xk2_BadStep xk3_BadStep xk5_BadStep "ValueError.__new__"))
    (xr_BadStep : PySem.HandSPX.refsVE xbm_BadStep = true)
    (z1_t_BITS : K.lookup t_BITS = some o_t_BITS)
    (z2_t_BITS : o_t_BITS.data = .seq ti_t_BITS.toArray tn_t_BITS)
    (z3_t_BITS : o_t_BITS.cls = .type "tuple")
    (z4_t_BITS : Vals [.int 1, .int 2, .int 4, .int 8, .int 16, .int 32, .int 64, .int 128, .int 256, .int 512, .int 1024, .int 2048] ti_t_BITS)
    (z5_t_BITS : ti_t_BITS.length ≤ 4096)
    (z1_e_TableD_initD : K.lookup e_TableD_initD = some o_e_TableD_initD)
    (z2_e_TableD_initD : o_e_TableD_initD.data = .seq ti_e_TableD_initD.toArray tn_e_TableD_initD)
    (z3_e_TableD_initD : o_e_TableD_initD.cls = .type "tuple")
    (z4_e_TableD_initD : Vals [] ti_e_TableD_initD)
    (z5_e_TableD_initD : ti_e_TableD_initD.length ≤ 4096)
    (b_range : PySem.W.nsIn K mainGlobals "range" = some none)
    (b_len : PySem.W.nsIn K mainGlobals "len" = some none)
    (b_tuple : PySem.W.nsIn K mainGlobals "tuple" = some none)
    (b_sum : PySem.W.nsIn K mainGlobals "sum" = some none)
    (b_LONGEST_NAME : PySem.W.nsIn K mainGlobals "LONGEST_NAME" = some (some (.int 8 tok_LONGEST_NAME)))
    (b_LETTERS : PySem.W.nsIn K mainGlobals "LETTERS" = some (some (.str "abcdefghijklmnopqrstuvwxyz" tok_LETTERS)))
    (b_all : PySem.W.nsIn K mainGlobals "all" = some none)
    (rd_Table : PySem.W.readsIn K C_Table (.type "type") = true)
    (sga_Table : PySem.W.specialIn K (.ref C_Table) "__getattribute__" = some (some (.builtin "type.__getattribute__")))
    (cv_Table_MOST_COLUMNS : PySem.W.findCls K (.ref C_Table) (.type "type") "MOST_COLUMNS" = some (.val (.int 12 tok_Table_MOST_COLUMNS)))
    (bx_BadTable : PySem.W.subIn K (.ref C_BadTable) (.type "BaseException") = some true)
    (ty_BadTable : PySem.W.typeIn K (.ref C_BadTable) = some (.type "type"))
    (kc_BadTable : PySem.W.keepIn K (.ref C_BadTable) = true)
    (sa_BadTable : PySem.W.findIn K (.ref C_BadTable) "__setattr__" = some (some (.builtin "object.__setattr__")))
    (tf_BadTableD_initD : PySem.W.typeIn K (.ref f_BadTableD_initD) = some (.type "function"))
    (na_BadTable_part : PySem.W.findIn K (.ref C_BadTable) "part" = some none)
    (na_BadTable_index : PySem.W.findIn K (.ref C_BadTable) "index" = some none)
    (cv_Table_MOST_ROWS : PySem.W.findCls K (.ref C_Table) (.type "type") "MOST_ROWS" = some (.val (.int 48 tok_Table_MOST_ROWS)))
    (pg_Table : PySem.W.plainGet K C_Table Str.empty = true)
    (hd_Table : PySem.W.hasDictIn K C_Table = true)
    (po_Table : PySem.W.plainOver K C_Table = true)
    (sa_Table : PySem.W.findIn K (.ref C_Table) "__setattr__" = some (some (.builtin "object.__setattr__")))
    (na_Table_columns : PySem.W.findIn K (.ref C_Table) "columns" = some none)
    (na_Table_rows : PySem.W.findIn K (.ref C_Table) "rows" = some none)
    (bx_UnknownRow : PySem.W.subIn K (.ref C_UnknownRow) (.type "BaseException") = some true)
    (ty_UnknownRow : PySem.W.typeIn K (.ref C_UnknownRow) = some (.type "type"))
    (kc_UnknownRow : PySem.W.keepIn K (.ref C_UnknownRow) = true)
    (sa_UnknownRow : PySem.W.findIn K (.ref C_UnknownRow) "__setattr__" = some (some (.builtin "object.__setattr__")))
    (tf_UnknownRowD_initD : PySem.W.typeIn K (.ref f_UnknownRowD_initD) = some (.type "function"))
    (na_UnknownRow_number : PySem.W.findIn K (.ref C_UnknownRow) "number" = some none)
    (i_TableD_lenD : PySem.W.isFn K (.ref f_TableD_lenD) = true)
    (fi_TableD_getitemD : PySem.W.fnIn K f_TableD_getitemD = true)
    (i_TableD_getitemD : PySem.W.isFn K (.ref f_TableD_getitemD) = true)
    (bx_BadStep : PySem.W.subIn K (.ref C_BadStep) (.type "BaseException") = some true)
    (ty_BadStep : PySem.W.typeIn K (.ref C_BadStep) = some (.type "type"))
    (kc_BadStep : PySem.W.keepIn K (.ref C_BadStep) = true)
    (sa_BadStep : PySem.W.findIn K (.ref C_BadStep) "__setattr__" = some (some (.builtin "object.__setattr__")))
    (tf_BadStepD_initD : PySem.W.typeIn K (.ref f_BadStepD_initD) = some (.type "function"))
    (na_BadStep_index : PySem.W.findIn K (.ref C_BadStep) "index" = some none)
    (b_abs : PySem.W.nsIn K mainGlobals "abs" = some none)
    (b_int : PySem.W.nsIn K mainGlobals "int" = some none)
    (b_min : PySem.W.nsIn K mainGlobals "min" = some none)
    (b_list : PySem.W.nsIn K mainGlobals "list" = some none)
    (b_isinstance : PySem.W.nsIn K mainGlobals "isinstance" = some none)
    (b_bool : PySem.W.nsIn K mainGlobals "bool" = some none)
    (b_max : PySem.W.nsIn K mainGlobals "max" = some none)
    (eg_BadStep : PySem.W.findIn K (.ref C_BadStep) "__getattribute__" = some (some (.builtin "BaseException.__getattribute__")))
    (ek_BadStep : PySem.W.findIn K (.ref C_BadStep) "__getattr__" = some none)
    (hd_BadStep : PySem.W.hasDictIn K C_BadStep = true)
    (ha_BadStep : PySem.W.findIn K (.ref C_BadStep) "__class__" = some (some (.builtin "object.__class__")))
    (hn_get : PySem.W.specialIn K (.builtin "object.__class__") "__get__" = some (some (.builtin "getset_descriptor.__get__")))
    (ht_get : PySem.W.takesIn K (.builtin "object.__class__") = some true)
    (hm_BadStep : PySem.W.mroIn K C_BadStep (.type "object") = some true)
    (ic_Unknown : PySem.W.isClsIn K C_Unknown = true)
    (ty_Unknown : PySem.W.typeIn K (.ref C_Unknown) = some (.type "type"))
    (su_Unknown_of_BadStep : PySem.W.subIn K (.ref C_BadStep) (.ref C_Unknown) = some false)
    (su_Unknown_of_Unknown : PySem.W.subIn K (.ref C_Unknown) (.ref C_Unknown) = some true)
    (ic_Impossible : PySem.W.isClsIn K C_Impossible = true)
    (ty_Impossible : PySem.W.typeIn K (.ref C_Impossible) = some (.type "type"))
    (su_Impossible_of_BadStep : PySem.W.subIn K (.ref C_BadStep) (.ref C_Impossible) = some false)
    (su_Impossible_of_Impossible : PySem.W.subIn K (.ref C_Impossible) (.ref C_Impossible) = some true)
    (ic_RowsError : PySem.W.isClsIn K C_RowsError = true)
    (ty_RowsError : PySem.W.typeIn K (.ref C_RowsError) = some (.type "type"))
    (su_RowsError_of_BadStep : PySem.W.subIn K (.ref C_BadStep) (.ref C_RowsError) = some true)
    (b_ValueError : PySem.W.nsIn K mainGlobals "ValueError" = some none)
    (kt_BadStep_ValueError : PySem.W.subIn K (.ref C_BadStep) (.type "ValueError") = some true)
    (su_BadStep_of_BadStep : PySem.W.subIn K (.ref C_BadStep) (.ref C_BadStep) = some true)
    (mkc_Table : PySem.W.makesIn K C_Table = true)
    (kc_Table : PySem.W.keepIn K (.ref C_Table) = true)
    (i_TableD_initD : PySem.W.isFn K (.ref f_TableD_initD) = true)
    : ∃ fd : FuncData, (∀ (s : Shared) (v : Value), BindsTo s fd ⟨[v], []⟩ [("script", v)]) ∧ ∀ base : Heap, K.In base → base.Ns mainGlobals mg → FnOk l.prog w K mg base (L2.CX l.prog w) 9 fa fd ["script"] (spLaw K) := by
  have e := hfa.symm.trans (PySem.W.mg_of X G g_law)
  cases e
  have F_pair_mask := fun_mk (st := s_pair_mask) l_pair_mask c_pair_mask k_pair_mask
  have B_pair_mask := F_pair_mask.binds (ps := ["word", "one", "other"]) fun _ _ _ _ _ _ us hl => match us, hl with | [_, _, _], _ => rfl
  have F_is_pair_step := fun_mk (st := s_is_pair_step) l_is_pair_step c_is_pair_step k_is_pair_step
  have B_is_pair_step := F_is_pair_step.binds (ps := ["step"]) fun _ _ _ _ _ _ us hl => match us, hl with | [_], _ => rfl
  have F_mask_of := fun_mk (st := s_mask_of) l_mask_of c_mask_of k_mask_of
  have B_mask_of := F_mask_of.binds (ps := ["columns", "names"]) fun _ _ _ _ _ _ us hl => match us, hl with | [_, _], _ => rfl
  have F_bits := fun_mk (st := s_bits) l_bits c_bits k_bits
  have B_bits := F_bits.binds (ps := ["mask"]) fun _ _ _ _ _ _ us hl => match us, hl with | [_], _ => rfl
  have F_names_of := fun_mk (st := s_names_of) l_names_of c_names_of k_names_of
  have B_names_of := F_names_of.binds (ps := ["columns", "mask"]) fun _ _ _ _ _ _ us hl => match us, hl with | [_, _], _ => rfl
  have F_full_mask := fun_mk (st := s_full_mask) l_full_mask c_full_mask k_full_mask
  have B_full_mask := F_full_mask.binds (ps := ["count"]) fun _ _ _ _ _ _ us hl => match us, hl with | [_], _ => rfl
  have F_is_name := fun_mk (st := s_is_name) l_is_name c_is_name k_is_name
  have B_is_name := F_is_name.binds (ps := ["text"]) fun _ _ _ _ _ _ us hl => match us, hl with | [_], _ => rfl
  have F_first_misnamed := fun_mk (st := s_first_misnamed) l_first_misnamed c_first_misnamed k_first_misnamed
  have B_first_misnamed := F_first_misnamed.binds (ps := ["columns"]) fun _ _ _ _ _ _ us hl => match us, hl with | [_], _ => rfl
  have F_is_row := fun_mk (st := s_is_row) l_is_row c_is_row k_is_row
  have B_is_row := F_is_row.binds (ps := ["columns", "row"]) fun _ _ _ _ _ _ us hl => match us, hl with | [_, _], _ => rfl
  have F_common_names := fun_mk (st := s_common_names) l_common_names c_common_names k_common_names
  have B_common_names := F_common_names.binds (ps := ["columns", "row"]) fun _ _ _ _ _ _ us hl => match us, hl with | [_, _], _ => rfl
  have F_BadTableD_initD := fun_mk (st := s_BadTableD_initD) l_BadTableD_initD c_BadTableD_initD k_BadTableD_initD
  have B_BadTableD_initD := F_BadTableD_initD.binds (ps := ["self", "part", "index"]) fun _ _ _ _ _ _ us hl => match us, hl with | [_, _, _], _ => rfl
  have F_TableD_initD : FunD K "__init__" "Table.__init__" (defArgs s_TableD_initD) (defBody s_TableD_initD) (defScope s_TableD_initD) [(V.ref e_TableD_initD)] [] f_TableD_initD _ := ⟨⟨oc_TableD_initD, od_TableD_initD, .ref t_TableD_initD, kV_TableD_initD, dc_TableD_initD, pm_TableD_initD, an_TableD_initD, cd_TableD_initD, ct_TableD_initD, sl_TableD_initD, rfl, l_TableD_initD, c_TableD_initD, .inr ⟨by simp, t_TableD_initD, to_TableD_initD, ti_TableD_initD, tn_TableD_initD, rfl, t1_TableD_initD, t2_TableD_initD, t3_TableD_initD⟩, .inl rfl⟩, k_TableD_initD⟩
  have B_TableD_initD := F_TableD_initD.binds1 (ps := ["self", "columns", "rows"]) 3 1 (by simp) rfl fun _ _ _ _ _ _ _ us its hl hd => match us, its, hl, hd with | [_, _, _], [_], _, _ => ⟨_, rfl, rfl⟩
  have B1_TableD_initD := F_TableD_initD.binds1 (ps := ["self", "columns", "rows"]) 2 0 (by simp) rfl fun _ _ _ _ _ _ _ us its hl hd => match us, its, hl, hd with | [_, _], [_], _, _ => ⟨_, rfl, rfl⟩
  have F_UnknownRowD_initD := fun_mk (st := s_UnknownRowD_initD) l_UnknownRowD_initD c_UnknownRowD_initD k_UnknownRowD_initD
  have B_UnknownRowD_initD := F_UnknownRowD_initD.binds (ps := ["self", "number"]) fun _ _ _ _ _ _ us hl => match us, hl with | [_, _], _ => rfl
  have F_TableD_getitemD := fun_mk (st := s_TableD_getitemD) l_TableD_getitemD c_TableD_getitemD k_TableD_getitemD
  have B_TableD_getitemD := F_TableD_getitemD.binds (ps := ["self", "number"]) fun _ _ _ _ _ _ us hl => match us, hl with | [_, _], _ => rfl
  have F_TableD_lenD := fun_mk (st := s_TableD_lenD) l_TableD_lenD c_TableD_lenD k_TableD_lenD
  have B_TableD_lenD := F_TableD_lenD.binds (ps := ["self"]) fun _ _ _ _ _ _ us hl => match us, hl with | [_], _ => rfl
  have F_single_mask := fun_mk (st := s_single_mask) l_single_mask c_single_mask k_single_mask
  have B_single_mask := F_single_mask.binds (ps := ["table", "step"]) fun _ _ _ _ _ _ us hl => match us, hl with | [_, _], _ => rfl
  have F_step_mask := fun_mk (st := s_step_mask) l_step_mask c_step_mask k_step_mask
  have B_step_mask := F_step_mask.binds (ps := ["table", "masks", "step"]) fun _ _ _ _ _ _ us hl => match us, hl with | [_, _, _], _ => rfl
  have F_BadStepD_initD := fun_mk (st := s_BadStepD_initD) l_BadStepD_initD c_BadStepD_initD k_BadStepD_initD
  have B_BadStepD_initD := F_BadStepD_initD.binds (ps := ["self", "index"]) fun _ _ _ _ _ _ us hl => match us, hl with | [_, _], _ => rfl
  have F_follow := fun_mk (st := s_follow) l_follow c_follow k_follow
  have B_follow := F_follow.binds (ps := ["table", "steps"]) fun _ _ _ _ _ _ us hl => match us, hl with | [_, _], _ => rfl
  have F_law_cell := fun_mk (st := s_law_cell) l_law_cell c_law_cell k_law_cell
  have B_law_cell := F_law_cell.binds (ps := ["script", "k"]) fun _ _ _ _ _ _ us hl => match us, hl with | [_, _], _ => rfl
  have F_law_pool := fun_mk (st := s_law_pool) l_law_pool c_law_pool k_law_pool
  have B_law_pool := F_law_pool.binds (ps := ["script", "k", "count"]) fun _ _ _ _ _ _ us hl => match us, hl with | [_, _, _], _ => rfl
  have F_law_size := fun_mk (st := s_law_size) l_law_size c_law_size k_law_size
  have B_law_size := F_law_size.binds (ps := ["draw", "most"]) fun _ _ _ _ _ _ us hl => match us, hl with | [_, _], _ => rfl
  have F_law_names := fun_mk (st := s_law_names) l_law_names c_law_names k_law_names
  have B_law_names := F_law_names.binds (ps := ["count", "seed"]) fun _ _ _ _ _ _ us hl => match us, hl with | [_, _], _ => rfl
  have F_law_order := fun_mk (st := s_law_order) l_law_order c_law_order k_law_order
  have B_law_order := F_law_order.binds (ps := ["names", "pool", "start"]) fun _ _ _ _ _ _ us hl => match us, hl with | [_, _, _], _ => rfl
  have F_law_row := fun_mk (st := s_law_row) l_law_row c_law_row k_law_row
  have B_law_row := F_law_row.binds (ps := ["names", "hidden", "draw", "free"]) fun _ _ _ _ _ _ us hl => match us, hl with | [_, _, _, _], _ => rfl
  have F_law_rows := fun_mk (st := s_law_rows) l_law_rows c_law_rows k_law_rows
  have B_law_rows := F_law_rows.binds (ps := ["names", "hidden", "pool", "start", "count", "mode"]) fun _ _ _ _ _ _ us hl => match us, hl with | [_, _, _, _, _, _], _ => rfl
  have F_law_sorted := fun_mk (st := s_law_sorted) l_law_sorted c_law_sorted k_law_sorted
  have B_law_sorted := F_law_sorted.binds (ps := ["names", "row"]) fun _ _ _ _ _ _ us hl => match us, hl with | [_, _], _ => rfl
  have F_law_is_number := fun_mk (st := s_law_is_number) l_law_is_number c_law_is_number k_law_is_number
  have B_law_is_number := F_law_is_number.binds (ps := ["value", "least", "most"]) fun _ _ _ _ _ _ us hl => match us, hl with | [_, _, _], _ => rfl
  have F_law_step := fun_mk (st := s_law_step) l_law_step c_law_step k_law_step
  have B_law_step := F_law_step.binds (ps := ["step", "sets", "names", "rows"]) fun _ _ _ _ _ _ us hl => match us, hl with | [_, _, _, _], _ => rfl
  have F_law_drawn := fun_mk (st := s_law_drawn) l_law_drawn c_law_drawn k_law_drawn
  have B_law_drawn := F_law_drawn.binds (ps := ["draw", "k", "names", "rows"]) fun _ _ _ _ _ _ us hl => match us, hl with | [_, _, _, _], _ => rfl
  have F_law_instead := fun_mk (st := s_law_instead) l_law_instead c_law_instead k_law_instead
  have B_law_instead := F_law_instead.binds (ps := ["word", "draw", "sets", "names", "rows"]) fun _ _ _ _ _ _ us hl => match us, hl with | [_, _, _, _, _], _ => rfl
  have F_law_pair := fun_mk (st := s_law_pair) l_law_pair c_law_pair k_law_pair
  have B_law_pair := F_law_pair.binds (ps := ["sets", "nested"]) fun _ _ _ _ _ _ us hl => match us, hl with | [_, _], _ => rfl
  have F_law_bad := fun_mk (st := s_law_bad) l_law_bad c_law_bad k_law_bad
  have B_law_bad := F_law_bad.binds (ps := ["draw", "sets", "rows"]) fun _ _ _ _ _ _ us hl => match us, hl with | [_, _, _], _ => rfl
  have F_law_same := fun_mk (st := s_law_same) l_law_same c_law_same k_law_same
  have B_law_same := F_law_same.binds (ps := ["found", "sets"]) fun _ _ _ _ _ _ us hl => match us, hl with | [_, _], _ => rfl
  have F_law_refusal := fun_mk (st := s_law_refusal) l_law_refusal c_law_refusal k_law_refusal
  have B_law_refusal := F_law_refusal.binds (ps := ["table", "steps"]) fun _ _ _ _ _ _ us hl => match us, hl with | [_, _], _ => rfl
  have F_law := fun_mk (st := s_law) l_law c_law k_law
  have B_law := F_law.binds (ps := ["script"]) fun _ _ _ _ _ _ us hl => match us, hl with | [_], _ => rfl
  let T : Txt K mg := {
    k_pair_mask := k_pair_mask,
    f_pair_mask := f_pair_mask, fd_pair_mask := _, F_pair_mask := F_pair_mask, bd_pair_mask := B_pair_mask,
    k_is_pair_step := k_is_pair_step,
    f_is_pair_step := f_is_pair_step, fd_is_pair_step := _, F_is_pair_step := F_is_pair_step, bd_is_pair_step := B_is_pair_step,
    k_mask_of := k_mask_of,
    f_mask_of := f_mask_of, fd_mask_of := _, F_mask_of := F_mask_of, bd_mask_of := B_mask_of,
    k_bits := k_bits,
    f_bits := f_bits, fd_bits := _, F_bits := F_bits, bd_bits := B_bits,
    k_names_of := k_names_of,
    f_names_of := f_names_of, fd_names_of := _, F_names_of := F_names_of, bd_names_of := B_names_of,
    k_full_mask := k_full_mask,
    f_full_mask := f_full_mask, fd_full_mask := _, F_full_mask := F_full_mask, bd_full_mask := B_full_mask,
    k_is_name := k_is_name,
    f_is_name := f_is_name, fd_is_name := _, F_is_name := F_is_name, bd_is_name := B_is_name,
    k_first_misnamed := k_first_misnamed,
    f_first_misnamed := f_first_misnamed, fd_first_misnamed := _, F_first_misnamed := F_first_misnamed, bd_first_misnamed := B_first_misnamed,
    k_is_row := k_is_row,
    f_is_row := f_is_row, fd_is_row := _, F_is_row := F_is_row, bd_is_row := B_is_row,
    k_common_names := k_common_names,
    f_common_names := f_common_names, fd_common_names := _, F_common_names := F_common_names, bd_common_names := B_common_names,
    k_BadTableD_initD := k_BadTableD_initD,
    f_BadTableD_initD := f_BadTableD_initD, fd_BadTableD_initD := _, F_BadTableD_initD := F_BadTableD_initD, bd_BadTableD_initD := B_BadTableD_initD,
    e_TableD_initD := e_TableD_initD,
    k_TableD_initD := k_TableD_initD,
    f_TableD_initD := f_TableD_initD, fd_TableD_initD := _, F_TableD_initD := F_TableD_initD, bd_TableD_initD := binds0 B_TableD_initD,
    ds1_TableD_initD := B1_TableD_initD.choose, dv1_TableD_initD := B1_TableD_initD.choose_spec.1, bd1_TableD_initD := B1_TableD_initD.choose_spec.2,
    k_UnknownRowD_initD := k_UnknownRowD_initD,
    f_UnknownRowD_initD := f_UnknownRowD_initD, fd_UnknownRowD_initD := _, F_UnknownRowD_initD := F_UnknownRowD_initD, bd_UnknownRowD_initD := B_UnknownRowD_initD,
    k_TableD_getitemD := k_TableD_getitemD,
    f_TableD_getitemD := f_TableD_getitemD, fd_TableD_getitemD := _, F_TableD_getitemD := F_TableD_getitemD, bd_TableD_getitemD := B_TableD_getitemD,
    k_TableD_lenD := k_TableD_lenD,
    f_TableD_lenD := f_TableD_lenD, fd_TableD_lenD := _, F_TableD_lenD := F_TableD_lenD, bd_TableD_lenD := B_TableD_lenD,
    k_single_mask := k_single_mask,
    f_single_mask := f_single_mask, fd_single_mask := _, F_single_mask := F_single_mask, bd_single_mask := B_single_mask,
    k_step_mask := k_step_mask,
    f_step_mask := f_step_mask, fd_step_mask := _, F_step_mask := F_step_mask, bd_step_mask := B_step_mask,
    k_BadStepD_initD := k_BadStepD_initD,
    f_BadStepD_initD := f_BadStepD_initD, fd_BadStepD_initD := _, F_BadStepD_initD := F_BadStepD_initD, bd_BadStepD_initD := B_BadStepD_initD,
    k_follow := k_follow,
    f_follow := f_follow, fd_follow := _, F_follow := F_follow, bd_follow := B_follow,
    k_law_cell := k_law_cell,
    f_law_cell := f_law_cell, fd_law_cell := _, F_law_cell := F_law_cell, bd_law_cell := B_law_cell,
    k_law_pool := k_law_pool,
    f_law_pool := f_law_pool, fd_law_pool := _, F_law_pool := F_law_pool, bd_law_pool := B_law_pool,
    k_law_size := k_law_size,
    f_law_size := f_law_size, fd_law_size := _, F_law_size := F_law_size, bd_law_size := B_law_size,
    k_law_names := k_law_names,
    f_law_names := f_law_names, fd_law_names := _, F_law_names := F_law_names, bd_law_names := B_law_names,
    k_law_order := k_law_order,
    f_law_order := f_law_order, fd_law_order := _, F_law_order := F_law_order, bd_law_order := B_law_order,
    k_law_row := k_law_row,
    f_law_row := f_law_row, fd_law_row := _, F_law_row := F_law_row, bd_law_row := B_law_row,
    k_law_rows := k_law_rows,
    f_law_rows := f_law_rows, fd_law_rows := _, F_law_rows := F_law_rows, bd_law_rows := B_law_rows,
    k_law_sorted := k_law_sorted,
    f_law_sorted := f_law_sorted, fd_law_sorted := _, F_law_sorted := F_law_sorted, bd_law_sorted := B_law_sorted,
    k_law_is_number := k_law_is_number,
    f_law_is_number := f_law_is_number, fd_law_is_number := _, F_law_is_number := F_law_is_number, bd_law_is_number := B_law_is_number,
    k_law_step := k_law_step,
    f_law_step := f_law_step, fd_law_step := _, F_law_step := F_law_step, bd_law_step := B_law_step,
    k_law_drawn := k_law_drawn,
    f_law_drawn := f_law_drawn, fd_law_drawn := _, F_law_drawn := F_law_drawn, bd_law_drawn := B_law_drawn,
    k_law_instead := k_law_instead,
    f_law_instead := f_law_instead, fd_law_instead := _, F_law_instead := F_law_instead, bd_law_instead := B_law_instead,
    k_law_pair := k_law_pair,
    f_law_pair := f_law_pair, fd_law_pair := _, F_law_pair := F_law_pair, bd_law_pair := B_law_pair,
    k_law_bad := k_law_bad,
    f_law_bad := f_law_bad, fd_law_bad := _, F_law_bad := F_law_bad, bd_law_bad := B_law_bad,
    k_law_same := k_law_same,
    f_law_same := f_law_same, fd_law_same := _, F_law_same := F_law_same, bd_law_same := B_law_same,
    k_law_refusal := k_law_refusal,
    f_law_refusal := f_law_refusal, fd_law_refusal := _, F_law_refusal := F_law_refusal, bd_law_refusal := B_law_refusal,
    k_law := k_law,
    f_law := fa, fd_law := _, F_law := F_law, bd_law := B_law,
    t_BITS := t_BITS,
    C_Table := C_Table,
    C_BadTable := C_BadTable,
    C_UnknownRow := C_UnknownRow,
    C_BadStep := C_BadStep,
    C_Unknown := C_Unknown,
    C_Impossible := C_Impossible,
    C_RowsError := C_RowsError,
    tok_LONGEST_NAME := tok_LONGEST_NAME,
    tok_LETTERS := tok_LETTERS,
    tok_Table_MOST_COLUMNS := tok_Table_MOST_COLUMNS,
    tok_Table_MOST_ROWS := tok_Table_MOST_ROWS,
    b_range := PySem.W.mg_none_of X G b_range,
    b_len := PySem.W.mg_none_of X G b_len,
    b_BITS := PySem.W.mg_of X G b_BITS,
    g_bits := PySem.W.mg_of X G g_bits,
    b_tuple := PySem.W.mg_none_of X G b_tuple,
    b_sum := PySem.W.mg_none_of X G b_sum,
    b_LONGEST_NAME := PySem.W.mg_of X G b_LONGEST_NAME,
    b_LETTERS := PySem.W.mg_of X G b_LETTERS,
    b_all := PySem.W.mg_none_of X G b_all,
    g_is_name := PySem.W.mg_of X G g_is_name,
    g_Table := PySem.W.mg_of X G g_Table,
    rd_Table := rd_Table,
    sga_Table := sga_Table,
    cv_Table_MOST_COLUMNS := cv_Table_MOST_COLUMNS,
    g_BadTable := PySem.W.mg_of X G g_BadTable,
    bx_BadTable := bx_BadTable,
    ty_BadTable := ty_BadTable,
    kc_BadTable := kc_BadTable,
    sa_BadTable := sa_BadTable,
    a_BadTableD_initD := a_BadTableD_initD,
    tf_BadTableD_initD := tf_BadTableD_initD,
    na_BadTable_part := na_BadTable_part,
    na_BadTable_index := na_BadTable_index,
    g_first_misnamed := PySem.W.mg_of X G g_first_misnamed,
    cv_Table_MOST_ROWS := cv_Table_MOST_ROWS,
    g_is_row := PySem.W.mg_of X G g_is_row,
    pg_Table := pg_Table,
    hd_Table := hd_Table,
    po_Table := po_Table,
    sa_Table := sa_Table,
    na_Table_columns := na_Table_columns,
    g_common_names := PySem.W.mg_of X G g_common_names,
    na_Table_rows := na_Table_rows,
    g_UnknownRow := PySem.W.mg_of X G g_UnknownRow,
    bx_UnknownRow := bx_UnknownRow,
    ty_UnknownRow := ty_UnknownRow,
    kc_UnknownRow := kc_UnknownRow,
    sa_UnknownRow := sa_UnknownRow,
    a_UnknownRowD_initD := a_UnknownRowD_initD,
    tf_UnknownRowD_initD := tf_UnknownRowD_initD,
    na_UnknownRow_number := na_UnknownRow_number,
    g_full_mask := PySem.W.mg_of X G g_full_mask,
    g_mask_of := PySem.W.mg_of X G g_mask_of,
    a_TableD_lenD := a_TableD_lenD,
    i_TableD_lenD := i_TableD_lenD,
    fi_TableD_getitemD := fi_TableD_getitemD,
    a_TableD_getitemD := a_TableD_getitemD,
    i_TableD_getitemD := i_TableD_getitemD,
    g_is_pair_step := PySem.W.mg_of X G g_is_pair_step,
    g_single_mask := PySem.W.mg_of X G g_single_mask,
    g_pair_mask := PySem.W.mg_of X G g_pair_mask,
    g_step_mask := PySem.W.mg_of X G g_step_mask,
    g_BadStep := PySem.W.mg_of X G g_BadStep,
    bx_BadStep := bx_BadStep,
    ty_BadStep := ty_BadStep,
    kc_BadStep := kc_BadStep,
    sa_BadStep := sa_BadStep,
    a_BadStepD_initD := a_BadStepD_initD,
    tf_BadStepD_initD := tf_BadStepD_initD,
    na_BadStep_index := na_BadStep_index,
    g_names_of := PySem.W.mg_of X G g_names_of,
    g_law_cell := PySem.W.mg_of X G g_law_cell,
    b_abs := PySem.W.mg_none_of X G b_abs,
    b_int := PySem.W.mg_none_of X G b_int,
    b_min := PySem.W.mg_none_of X G b_min,
    b_list := PySem.W.mg_none_of X G b_list,
    g_law_row := PySem.W.mg_of X G g_law_row,
    b_isinstance := PySem.W.mg_none_of X G b_isinstance,
    b_bool := PySem.W.mg_none_of X G b_bool,
    g_law_is_number := PySem.W.mg_of X G g_law_is_number,
    g_law_sorted := PySem.W.mg_of X G g_law_sorted,
    g_law_step := PySem.W.mg_of X G g_law_step,
    b_max := PySem.W.mg_none_of X G b_max,
    g_law_pair := PySem.W.mg_of X G g_law_pair,
    g_follow := PySem.W.mg_of X G g_follow,
    g_Unknown := PySem.W.mg_of X G g_Unknown,
    g_Impossible := PySem.W.mg_of X G g_Impossible,
    eg_BadStep := eg_BadStep,
    ek_BadStep := ek_BadStep,
    hd_BadStep := hd_BadStep,
    ha_BadStep := ha_BadStep,
    hn_get := hn_get,
    ht_get := ht_get,
    hm_BadStep := hm_BadStep,
    ic_Unknown := ic_Unknown,
    ty_Unknown := ty_Unknown,
    su_Unknown_of_BadStep := su_Unknown_of_BadStep,
    su_Unknown_of_Unknown := su_Unknown_of_Unknown,
    ic_Impossible := ic_Impossible,
    ty_Impossible := ty_Impossible,
    su_Impossible_of_BadStep := su_Impossible_of_BadStep,
    su_Impossible_of_Impossible := su_Impossible_of_Impossible,
    g_RowsError := PySem.W.mg_of X G g_RowsError,
    ic_RowsError := ic_RowsError,
    ty_RowsError := ty_RowsError,
    su_RowsError_of_BadStep := su_RowsError_of_BadStep,
    b_ValueError := PySem.W.mg_none_of X G b_ValueError,
    kt_BadStep_ValueError := kt_BadStep_ValueError,
    su_BadStep_of_BadStep := su_BadStep_of_BadStep,
    g_law_pool := PySem.W.mg_of X G g_law_pool,
    g_law_size := PySem.W.mg_of X G g_law_size,
    g_law_names := PySem.W.mg_of X G g_law_names,
    g_law_order := PySem.W.mg_of X G g_law_order,
    g_law_rows := PySem.W.mg_of X G g_law_rows,
    g_law_drawn := PySem.W.mg_of X G g_law_drawn,
    g_law_instead := PySem.W.mg_of X G g_law_instead,
    g_law_bad := PySem.W.mg_of X G g_law_bad,
    mkc_Table := mkc_Table,
    kc_Table := kc_Table,
    a_TableD_initD := a_TableD_initD,
    i_TableD_initD := i_TableD_initD,
    g_law_same := PySem.W.mg_of X G g_law_same,
    g_law_refusal := PySem.W.mg_of X G g_law_refusal,
    g_law := PySem.W.mg_of X G g_law,
    oex_BadTable := ⟨⟨_, _, _, _, _, _, _, _, _, _, _, _, _, _, _, xl_BadTable, xr_BadTable⟩, sa_BadTable, bx_BadTable, ty_BadTable, kc_BadTable⟩,
    oex_UnknownRow := ⟨⟨_, _, _, _, _, _, _, _, _, _, _, _, _, _, _, xl_UnknownRow, xr_UnknownRow⟩, sa_UnknownRow, bx_UnknownRow, ty_UnknownRow, kc_UnknownRow⟩,
    oex_BadStep := ⟨⟨_, _, _, _, _, _, _, _, _, _, _, _, _, _, _, xl_BadStep, xr_BadStep⟩, sa_BadStep, bx_BadStep, ty_BadStep, kc_BadStep⟩,
    tc_t_BITS := fun cn F => tup_const z1_t_BITS z3_t_BITS z2_t_BITS z5_t_BITS z4_t_BITS (fun F => (Reps.cons (.int _) (Reps.cons (.int _) (Reps.cons (.int _) (Reps.cons (.int _) (Reps.cons (.int _) (Reps.cons (.int _) (Reps.cons (.int _) (Reps.cons (.int _) (Reps.cons (.int _) (Reps.cons (.int _) (Reps.cons (.int _) (Reps.cons (.int _) Reps.nil))))))))))))) F,
    tc_e_TableD_initD := fun cn F => tup_const z1_e_TableD_initD z3_e_TableD_initD z2_e_TableD_initD z5_e_TableD_initD z4_e_TableD_initD (fun F => Reps.nil) F }
  exact ⟨PySem.W.fnOf "law" "law" (defArgs s_law) (defBody s_law) (defScope s_law) .none kV_law dc_law pm_law an_law cd_law ct_law, fun s v => .of_eq rfl, fun base _ _ => law_sp (ok_law (base := base) FUEL T) pw⟩
theorem walk {l : PySem.W.OpenLaw} {q : Program} {loose : List Str} {XP : (Str → Option Value) → Heap → Prop} {YP : World → Heap → Prop} {d : DefRec} {K : Params → PySem.W.Frag} (hn : l.most = some 63) (hdf : d.params.defaults = [])
    (hY : ∀ (w : World) (h : Heap), YP w h → (K w.params).In h)
    (F : ∀ (w : World) (mg : Str → Option Value) (fa : Addr) (h : Heap), (K w.params).In h → h.Ns mainGlobals mg → mg d.name = some (.ref fa) →
      ∃ fd : FuncData, (∀ (s : Shared) (u : Value), BindsTo s fd ⟨[u], []⟩ [("script", u)]) ∧ ∀ base : Heap, (K w.params).In base → base.Ns mainGlobals mg → FnOk l.prog w (K w.params) mg base (L2.CX l.prog w) 9 fa fd ["script"] (spLaw (K w.params))) :
    PySem.W.WalkO q loose XP YP l.row.toRowW d [] (fun f vs => PySem.call f vs) :=
  L2.walk_of (n := 63) (k := 9) (x := "script") (CX := fun w => L2.CX l.prog w) (sp := fun w => spLaw (K w.params)) hn (by decide) hdf ⟨rfl, by decide, by decide⟩ hY F (fun _ _ a ns hl _ hS => ⟨a, ns, rfl, hS, hl, fun _ => rfl⟩) fun _ _ _ _ _ z => CX_false z
end K24
open PySem PySem.W PyProof.Rows
set_option maxRecDepth 100000 in
set_option maxHeartbeats 0 in
theorem PySem.Challenge.cw_unbrokenrows_k24_steps_followed_holds : PySem.Challenge.rw_unbrokenrows_k24_steps_followed.Holds := by
  w_on; o_law; k_head; (case hw => w_witness2)
  k_fill
  refine K24.walk (l := PySem.Challenge.rw_unbrokenrows_k24_steps_followed) rfl rfl (fun w h Y => PySem.W.kIn_of Y) ?F
  case F =>
    intro w mg fa h KX G hmg
    refine' K24.all_mk K24.law_true KX G hmg ?b_BITS ?g_bits ?g_is_name ?g_Table ?g_BadTable ?g_first_misnamed ?g_is_row ?g_common_names ?g_UnknownRow ?g_full_mask ?g_mask_of ?g_is_pair_step ?g_single_mask ?g_pair_mask ?g_step_mask ?g_BadStep ?g_names_of ?g_law_cell ?g_law_row ?g_law_is_number ?g_law_sorted ?g_law_step ?g_law_pair ?g_follow ?g_Unknown ?g_Impossible ?g_RowsError ?g_law_pool ?g_law_size ?g_law_names ?g_law_order ?g_law_rows ?g_law_drawn ?g_law_instead ?g_law_bad ?g_law_same ?g_law_refusal ?g_law ?a_BadTableD_initD ?a_UnknownRowD_initD ?a_TableD_lenD ?a_TableD_getitemD ?a_BadStepD_initD ?a_TableD_initD ?l_pair_mask ?c_pair_mask ?k_pair_mask ?l_is_pair_step ?c_is_pair_step ?k_is_pair_step ?l_mask_of ?c_mask_of ?k_mask_of ?l_bits ?c_bits ?k_bits ?l_names_of ?c_names_of ?k_names_of ?l_full_mask ?c_full_mask ?k_full_mask ?l_is_name ?c_is_name ?k_is_name ?l_first_misnamed ?c_first_misnamed ?k_first_misnamed ?l_is_row ?c_is_row ?k_is_row ?l_common_names ?c_common_names ?k_common_names ?l_BadTableD_initD ?c_BadTableD_initD ?k_BadTableD_initD ?l_TableD_initD ?c_TableD_initD ?k_TableD_initD ?t1_TableD_initD ?t2_TableD_initD ?t3_TableD_initD ?l_UnknownRowD_initD ?c_UnknownRowD_initD ?k_UnknownRowD_initD ?l_TableD_getitemD ?c_TableD_getitemD ?k_TableD_getitemD ?l_TableD_lenD ?c_TableD_lenD ?k_TableD_lenD ?l_single_mask ?c_single_mask ?k_single_mask ?l_step_mask ?c_step_mask ?k_step_mask ?l_BadStepD_initD ?c_BadStepD_initD ?k_BadStepD_initD ?l_follow ?c_follow ?k_follow ?l_law_cell ?c_law_cell ?k_law_cell ?l_law_pool ?c_law_pool ?k_law_pool ?l_law_size ?c_law_size ?k_law_size ?l_law_names ?c_law_names ?k_law_names ?l_law_order ?c_law_order ?k_law_order ?l_law_row ?c_law_row ?k_law_row ?l_law_rows ?c_law_rows ?k_law_rows ?l_law_sorted ?c_law_sorted ?k_law_sorted ?l_law_is_number ?c_law_is_number ?k_law_is_number ?l_law_step ?c_law_step ?k_law_step ?l_law_drawn ?c_law_drawn ?k_law_drawn ?l_law_instead ?c_law_instead ?k_law_instead ?l_law_pair ?c_law_pair ?k_law_pair ?l_law_bad ?c_law_bad ?k_law_bad ?l_law_same ?c_law_same ?k_law_same ?l_law_refusal ?c_law_refusal ?k_law_refusal ?l_law ?c_law ?k_law ?xl_BadTable ?xr_BadTable ?xl_UnknownRow ?xr_UnknownRow ?xl_BadStep ?xr_BadStep ?z1_t_BITS ?z2_t_BITS ?z3_t_BITS ?z4_t_BITS ?z5_t_BITS ?z1_e_TableD_initD ?z2_e_TableD_initD ?z3_e_TableD_initD ?z4_e_TableD_initD ?z5_e_TableD_initD ?b_range ?b_len ?b_tuple ?b_sum ?b_LONGEST_NAME ?b_LETTERS ?b_all ?rd_Table ?sga_Table ?cv_Table_MOST_COLUMNS ?bx_BadTable ?ty_BadTable ?kc_BadTable ?sa_BadTable ?tf_BadTableD_initD ?na_BadTable_part ?na_BadTable_index ?cv_Table_MOST_ROWS ?pg_Table ?hd_Table ?po_Table ?sa_Table ?na_Table_columns ?na_Table_rows ?bx_UnknownRow ?ty_UnknownRow ?kc_UnknownRow ?sa_UnknownRow ?tf_UnknownRowD_initD ?na_UnknownRow_number ?i_TableD_lenD ?fi_TableD_getitemD ?i_TableD_getitemD ?bx_BadStep ?ty_BadStep ?kc_BadStep ?sa_BadStep ?tf_BadStepD_initD ?na_BadStep_index ?b_abs ?b_int ?b_min ?b_list ?b_isinstance ?b_bool ?b_max ?eg_BadStep ?ek_BadStep ?hd_BadStep ?ha_BadStep ?hn_get ?ht_get ?hm_BadStep ?ic_Unknown ?ty_Unknown ?su_Unknown_of_BadStep ?su_Unknown_of_Unknown ?ic_Impossible ?ty_Impossible ?su_Impossible_of_BadStep ?su_Impossible_of_Impossible ?ic_RowsError ?ty_RowsError ?su_RowsError_of_BadStep ?b_ValueError ?kt_BadStep_ValueError ?su_BadStep_of_BadStep ?mkc_Table ?kc_Table ?i_TableD_initD
    (case b_BITS => k_is)
    (case g_bits => k_is)
    (case g_is_name => k_is)
    (case g_Table => k_is)
    (case g_BadTable => k_is)
    (case g_first_misnamed => k_is)
    (case g_is_row => k_is)
    (case g_common_names => k_is)
    (case g_UnknownRow => k_is)
    (case g_full_mask => k_is)
    (case g_mask_of => k_is)
    (case g_is_pair_step => k_is)
    (case g_single_mask => k_is)
    (case g_pair_mask => k_is)
    (case g_step_mask => k_is)
    (case g_BadStep => k_is)
    (case g_names_of => k_is)
    (case g_law_cell => k_is)
    (case g_law_row => k_is)
    (case g_law_is_number => k_is)
    (case g_law_sorted => k_is)
    (case g_law_step => k_is)
    (case g_law_pair => k_is)
    (case g_follow => k_is)
    (case g_Unknown => k_is)
    (case g_Impossible => k_is)
    (case g_RowsError => k_is)
    (case g_law_pool => k_is)
    (case g_law_size => k_is)
    (case g_law_names => k_is)
    (case g_law_order => k_is)
    (case g_law_rows => k_is)
    (case g_law_drawn => k_is)
    (case g_law_instead => k_is)
    (case g_law_bad => k_is)
    (case g_law_same => k_is)
    (case g_law_refusal => k_is)
    (case g_law => k_is)
    (case a_BadTableD_initD => k_is)
    (case a_UnknownRowD_initD => k_is)
    (case a_TableD_lenD => k_is)
    (case a_TableD_getitemD => k_is)
    (case a_BadStepD_initD => k_is)
    (case a_TableD_initD => k_is)
    (case l_pair_mask => k_is)
    (case c_pair_mask => k_is)
    (case k_pair_mask => k_is)
    (case l_is_pair_step => k_is)
    (case c_is_pair_step => k_is)
    (case k_is_pair_step => k_is)
    (case l_mask_of => k_is)
    (case c_mask_of => k_is)
    (case k_mask_of => k_is)
    (case l_bits => k_is)
    (case c_bits => k_is)
    (case k_bits => k_is)
    (case l_names_of => k_is)
    (case c_names_of => k_is)
    (case k_names_of => k_is)
    (case l_full_mask => k_is)
    (case c_full_mask => k_is)
    (case k_full_mask => k_is)
    (case l_is_name => k_is)
    (case c_is_name => k_is)
    (case k_is_name => k_is)
    (case l_first_misnamed => k_is)
    (case c_first_misnamed => k_is)
    (case k_first_misnamed => k_is)
    (case l_is_row => k_is)
    (case c_is_row => k_is)
    (case k_is_row => k_is)
    (case l_common_names => k_is)
    (case c_common_names => k_is)
    (case k_common_names => k_is)
    (case l_BadTableD_initD => k_is)
    (case c_BadTableD_initD => k_is)
    (case k_BadTableD_initD => k_is)
    (case l_TableD_initD => k_is)
    (case c_TableD_initD => k_is)
    (case k_TableD_initD => k_is)
    (case t1_TableD_initD => k_is)
    (case t2_TableD_initD => rfl)
    (case t3_TableD_initD => exact .cons rfl (.nil))
    (case l_UnknownRowD_initD => k_is)
    (case c_UnknownRowD_initD => k_is)
    (case k_UnknownRowD_initD => k_is)
    (case l_TableD_getitemD => k_is)
    (case c_TableD_getitemD => k_is)
    (case k_TableD_getitemD => k_is)
    (case l_TableD_lenD => k_is)
    (case c_TableD_lenD => k_is)
    (case k_TableD_lenD => k_is)
    (case l_single_mask => k_is)
    (case c_single_mask => k_is)
    (case k_single_mask => k_is)
    (case l_step_mask => k_is)
    (case c_step_mask => k_is)
    (case k_step_mask => k_is)
    (case l_BadStepD_initD => k_is)
    (case c_BadStepD_initD => k_is)
    (case k_BadStepD_initD => k_is)
    (case l_follow => k_is)
    (case c_follow => k_is)
    (case k_follow => k_is)
    (case l_law_cell => k_is)
    (case c_law_cell => k_is)
    (case k_law_cell => k_is)
    (case l_law_pool => k_is)
    (case c_law_pool => k_is)
    (case k_law_pool => k_is)
    (case l_law_size => k_is)
    (case c_law_size => k_is)
    (case k_law_size => k_is)
    (case l_law_names => k_is)
    (case c_law_names => k_is)
    (case k_law_names => k_is)
    (case l_law_order => k_is)
    (case c_law_order => k_is)
    (case k_law_order => k_is)
    (case l_law_row => k_is)
    (case c_law_row => k_is)
    (case k_law_row => k_is)
    (case l_law_rows => k_is)
    (case c_law_rows => k_is)
    (case k_law_rows => k_is)
    (case l_law_sorted => k_is)
    (case c_law_sorted => k_is)
    (case k_law_sorted => k_is)
    (case l_law_is_number => k_is)
    (case c_law_is_number => k_is)
    (case k_law_is_number => k_is)
    (case l_law_step => k_is)
    (case c_law_step => k_is)
    (case k_law_step => k_is)
    (case l_law_drawn => k_is)
    (case c_law_drawn => k_is)
    (case k_law_drawn => k_is)
    (case l_law_instead => k_is)
    (case c_law_instead => k_is)
    (case k_law_instead => k_is)
    (case l_law_pair => k_is)
    (case c_law_pair => k_is)
    (case k_law_pair => k_is)
    (case l_law_bad => k_is)
    (case c_law_bad => k_is)
    (case k_law_bad => k_is)
    (case l_law_same => k_is)
    (case c_law_same => k_is)
    (case k_law_same => k_is)
    (case l_law_refusal => k_is)
    (case c_law_refusal => k_is)
    (case k_law_refusal => k_is)
    (case l_law => k_is)
    (case c_law => k_is)
    (case k_law => k_is)
    (case xl_BadTable => k_is)
    (case xr_BadTable => decide +kernel)
    (case xl_UnknownRow => k_is)
    (case xr_UnknownRow => decide +kernel)
    (case xl_BadStep => k_is)
    (case xr_BadStep => decide +kernel)
    (case z1_t_BITS => k_is)
    (case z2_t_BITS => rfl)
    (case z3_t_BITS => rfl)
    (case z4_t_BITS => exact .cons ⟨_, rfl⟩ (.cons ⟨_, rfl⟩ (.cons ⟨_, rfl⟩ (.cons ⟨_, rfl⟩ (.cons ⟨_, rfl⟩ (.cons ⟨_, rfl⟩ (.cons ⟨_, rfl⟩ (.cons ⟨_, rfl⟩ (.cons ⟨_, rfl⟩ (.cons ⟨_, rfl⟩ (.cons ⟨_, rfl⟩ (.cons ⟨_, rfl⟩ (.nil)))))))))))))
    (case z5_t_BITS => exact Nat.le_of_ble_eq_true rfl)
    (case z1_e_TableD_initD => k_is)
    (case z2_e_TableD_initD => rfl)
    (case z3_e_TableD_initD => rfl)
    (case z4_e_TableD_initD => exact .nil)
    (case z5_e_TableD_initD => exact Nat.le_of_ble_eq_true rfl)
    (case b_range => k_is)
    (case b_len => k_is)
    (case b_tuple => k_is)
    (case b_sum => k_is)
    (case b_LONGEST_NAME => k_is)
    (case b_LETTERS => k_is)
    (case b_all => k_is)
    (case rd_Table => k_is)
    (case sga_Table => k_is)
    (case cv_Table_MOST_COLUMNS => k_is)
    (case bx_BadTable => k_is)
    (case ty_BadTable => k_is)
    (case kc_BadTable => k_is)
    (case sa_BadTable => k_is)
    (case tf_BadTableD_initD => k_is)
    (case na_BadTable_part => k_is)
    (case na_BadTable_index => k_is)
    (case cv_Table_MOST_ROWS => k_is)
    (case pg_Table => k_is)
    (case hd_Table => k_is)
    (case po_Table => k_is)
    (case sa_Table => k_is)
    (case na_Table_columns => k_is)
    (case na_Table_rows => k_is)
    (case bx_UnknownRow => k_is)
    (case ty_UnknownRow => k_is)
    (case kc_UnknownRow => k_is)
    (case sa_UnknownRow => k_is)
    (case tf_UnknownRowD_initD => k_is)
    (case na_UnknownRow_number => k_is)
    (case i_TableD_lenD => k_is)
    (case fi_TableD_getitemD => k_is)
    (case i_TableD_getitemD => k_is)
    (case bx_BadStep => k_is)
    (case ty_BadStep => k_is)
    (case kc_BadStep => k_is)
    (case sa_BadStep => k_is)
    (case tf_BadStepD_initD => k_is)
    (case na_BadStep_index => k_is)
    (case b_abs => k_is)
    (case b_int => k_is)
    (case b_min => k_is)
    (case b_list => k_is)
    (case b_isinstance => k_is)
    (case b_bool => k_is)
    (case b_max => k_is)
    (case eg_BadStep => k_is)
    (case ek_BadStep => k_is)
    (case hd_BadStep => k_is)
    (case ha_BadStep => k_is)
    (case hn_get => k_is)
    (case ht_get => k_is)
    (case hm_BadStep => k_is)
    (case ic_Unknown => k_is)
    (case ty_Unknown => k_is)
    (case su_Unknown_of_BadStep => k_is)
    (case su_Unknown_of_Unknown => k_is)
    (case ic_Impossible => k_is)
    (case ty_Impossible => k_is)
    (case su_Impossible_of_BadStep => k_is)
    (case su_Impossible_of_Impossible => k_is)
    (case ic_RowsError => k_is)
    (case ty_RowsError => k_is)
    (case su_RowsError_of_BadStep => k_is)
    (case b_ValueError => k_is)
    (case kt_BadStep_ValueError => k_is)
    (case su_BadStep_of_BadStep => k_is)
    (case mkc_Table => k_is)
    (case kc_Table => k_is)
    (case i_TableD_initD => k_is)

