import PyProof.Rows.All
import PySem.Str
import Wide.All
import OpenK.AllK
import Wide.FinOn
import HandS.ForMost
import HandS.ForExc
import HandS.ClsMeth
import HandS.ExcIs
import HandS.ExcField
import HandS.Small
import KE.KCallOwn
import HandS.TupAny
import HandS.IsInst
import HandS.Gcd
import HandS.Wide
import HandS.Style
import HandS.FStr
import HandS.Deep
import HandS.WordsDict
import HandS.Comp
import HandS.CallSlots
import HandS.Defaults
import HandS.TryOnly
import HandS.Ends
import PyProof.FitsInt
import PySem.Challenge.RW_unbrokenrows_k01_share_totals_and_texts
set_option autoImplicit true
set_option linter.all false
/-! a data evaluator: Python's constructs over plain data, with owned lists -/
namespace Ed
open PySem

abbrev Key := Sum Int Str

inductive D where
  | non
  | bl (b : Bool)
  | int (i : Int)
  | str (s : Str)
  | lst (xs : List D)
  | tup (xs : List D)
  | dct (kvs : List (Key × D))
  | ins (c : Nat) (fs : List (Nat × D))
  | scr (ns : List Int)

/-- an exception: its class, its fields -/
structure Xc where
  c : Nat
  fs : List (Nat × D)

inductive Sl where
  | emp
  | val (d : D)
  | own (d : D)
  | bor (d : D)
  | slf (c : Nat) (fs : List (Nat × D))
  | exn (x : Xc)

abbrev Env := List Sl

inductive R (α : Type) where
  | ok (a : α)
  | exc (x : Xc) (Γ : Env)
  | bad

def R.bind {α β : Type} : R α → (α → R β) → R β
  | .ok a, f => f a
  | .exc x Γ, _ => .exc x Γ
  | .bad, _ => .bad
def R.of {α : Type} : Option α → R α
  | some a => .ok a
  | none => .bad

inductive DV where
  | fz (d : D)
  | fr (d : D)
def DV.d : DV → D
  | .fz d => d
  | .fr d => d
inductive Ctl where
  | nx
  | brk
  | cnt
  | ret (o : DV)
inductive PV where
  | pn (i : Nat)
  | pd (d : D)

abbrev EV := Env → R (D × Env)
abbrev TV := Env → R (Bool × Env)
abbrev QV := Env → R (PV × Env)
abbrev AV := Env → R (List PV × Env)
abbrev LV := Env → R (List D × Env)
abbrev SV := Env → R (Ctl × Env)
abbrev FV := List D → R DV

def get : Env → Nat → Sl
  | [], _ => .emp
  | s :: _, 0 => s
  | _ :: r, n + 1 => get r n
def put : Env → Nat → Sl → Env
  | [], _, _ => []
  | _ :: r, 0, t => t :: r
  | s :: r, n + 1, t => s :: put r n t
def look : Sl → Option D
  | .val d => some d
  | .own d => some d
  | .bor d => some d
  | _ => none
def rd (Γ : Env) : PV → Option D
  | .pd d => some d
  | .pn i => look (get Γ i)
/-- a slot's value made frozen -/
def frzS : Sl → Option (D × Sl)
  | .val d => some (d, .val d)
  | .own d => some (d, .val d)
  | _ => none

/-! expressions -/
def eC (d : D) : EV := fun Γ => .ok (d, Γ)
def eN (i : Nat) : EV := fun Γ => match frzS (get Γ i) with
  | some (d, s) => .ok (d, put Γ i s)
  | none => .bad
def pN (i : Nat) : QV := fun Γ => match look (get Γ i) with
  | some _ => .ok (.pn i, Γ)
  | none => .bad
def pE (e : EV) : QV := fun Γ => (e Γ).bind fun (d, Γ') => .ok (.pd d, Γ')
def eU (f : D → Option D) (a : QV) : EV := fun Γ => (a Γ).bind fun (p, Γ') => match rd Γ' p with
  | some d => (R.of (f d)).bind fun z => .ok (z, Γ')
  | none => .bad
def eB (f : D → D → Option D) (a b : QV) : EV := fun Γ => (a Γ).bind fun (p, Γ1) => (b Γ1).bind fun (q, Γ2) => match rd Γ2 p, rd Γ2 q with
  | some d, some e => (R.of (f d e)).bind fun z => .ok (z, Γ2)
  | _, _ => .bad
def aNil : AV := fun Γ => .ok ([], Γ)
def aCons (a : QV) (r : AV) : AV := fun Γ => (a Γ).bind fun (p, Γ1) => (r Γ1).bind fun (ps, Γ2) => .ok (p :: ps, Γ2)
def rds (Γ : Env) : List PV → Option (List D)
  | [] => some []
  | p :: ps => match rd Γ p, rds Γ ps with
    | some d, some ds => some (d :: ds)
    | _, _ => none
/-- a built-in of several arguments -/
def eF (f : List D → Option D) (a : AV) : EV := fun Γ => (a Γ).bind fun (ps, Γ') => match rds Γ' ps with
  | some ds => (R.of (f ds)).bind fun z => .ok (z, Γ')
  | none => .bad
def lNil : LV := fun Γ => .ok ([], Γ)
def lCons (a : EV) (r : LV) : LV := fun Γ => (a Γ).bind fun (d, Γ1) => (r Γ1).bind fun (ds, Γ2) => .ok (d :: ds, Γ2)
def seqMax : Nat := 16777216
def eTup (r : LV) : EV := fun Γ => (r Γ).bind fun (ds, Γ') => if ds.length ≤ seqMax then .ok (.tup ds, Γ') else .bad
/-- a new list (or dict): as it comes, owned -/
def nLst (r : LV) : EV := fun Γ => (r Γ).bind fun (ds, Γ') => if ds.length ≤ seqMax then .ok (.lst ds, Γ') else .bad
def eAnd (a b : TV) : TV := fun Γ => (a Γ).bind fun (c, Γ1) => if c then b Γ1 else .ok (false, Γ1)
def eOr (a b : TV) : TV := fun Γ => (a Γ).bind fun (c, Γ1) => if c then .ok (true, Γ1) else b Γ1
def eNot (a : TV) : TV := fun Γ => (a Γ).bind fun (c, Γ1) => .ok (!c, Γ1)
def eIf (t : TV) (a b : EV) : EV := fun Γ => (t Γ).bind fun (c, Γ1) => if c then a Γ1 else b Γ1
/-- a bool as a value -/
def eT (t : TV) : EV := fun Γ => (t Γ).bind fun (c, Γ1) => .ok (.bl c, Γ1)
/-- a test of an expression that gives a bool -/
def tE (e : EV) : TV := fun Γ => (e Γ).bind fun (d, Γ1) => match d with
  | .bl b => .ok (b, Γ1)
  | _ => .bad
def truth : D → Option Bool
  | .non => some false
  | .bl b => some b
  | .int i => some (i != 0)
  | .str s => if s.length ≤ seqMax then some ((s.length : Int) != 0) else none
  | .lst xs => some (!xs.isEmpty)
  | .tup xs => some (!xs.isEmpty)
  | _ => none
def tTru (a : QV) : TV := fun Γ => (a Γ).bind fun (p, Γ') => match rd Γ' p with
  | some d => (R.of (truth d)).bind fun z => .ok (z, Γ')
  | none => .bad

/-! calls: modes, true: lent -/
def prep (Γ : Env) : List Bool → List PV → Option (List D × Env)
  | [], [] => some ([], Γ)
  | m :: ms, p :: ps => match p with
    | .pd d => match prep Γ ms ps with
      | some (ds, Γ') => some (d :: ds, Γ')
      | none => none
    | .pn i => if m then (match look (get Γ i), prep Γ ms ps with
        | some d, some (ds, Γ') => some (d :: ds, Γ')
        | _, _ => none)
      else (match frzS (get Γ i) with
        | some (d, s) => (match prep (put Γ i s) ms ps with
          | some (ds, Γ') => some (d :: ds, Γ')
          | none => none)
        | none => none)
  | _, _ => none
def callF (F : FV) (ms : List Bool) (ps : List PV) (Γ : Env) : R (DV × Env) := match prep Γ ms ps with
  | some (ds, Γ') => (match F ds with
    | .ok o => .ok (o, Γ')
    | .exc x _ => .exc x Γ'
    | .bad => .bad)
  | none => .bad
def eCall (F : FV) (ms : List Bool) (a : AV) : EV := fun Γ => (a Γ).bind fun (ps, Γ1) => (callF F ms ps Γ1).bind fun (o, Γ2) => .ok (o.d, Γ2)
/-- a call whose new list is kept as owned -/
def nCall (F : FV) (ms : List Bool) (a : AV) : EV := fun Γ => (a Γ).bind fun (ps, Γ1) => (callF F ms ps Γ1).bind fun (o, Γ2) => match o with
  | .fr d => .ok (d, Γ2)
  | .fz _ => .bad
/-- except X as n (slot i): ex says of each class whether it is an X -/
def noX (Γ : Env) : Bool := Γ.all fun s => match s with
  | .exn _ => false
  | _ => true
def sTry (i : Nat) (ex : Nat → Option Bool) (b : Env → R (Ctl × Env)) (s : Env → R (Ctl × Env)) : Env → R (Ctl × Env) := fun Γ => match b Γ with
  | .exc x Γ' => (match ex x.c with
    | some true => if (i < Γ'.length) ∧ noX Γ' = true then (match s (put Γ' i (.exn x)) with
      | .ok (c, Γ2) => .ok (c, put Γ2 i .emp)
      | _ => .bad) else .bad
    | some false => .exc x Γ'
    | none => .bad)
  | r => r
/-- except X: -/
def sTry0 (ex : Nat → Option Bool) (b : Env → R (Ctl × Env)) (s : Env → R (Ctl × Env)) : Env → R (Ctl × Env) := fun Γ => match b Γ with
  | .exc x Γ' => (match ex x.c with
    | some true => (match s Γ' with
      | .ok r => .ok r
      | _ => .bad)
    | some false => .exc x Γ'
    | none => .bad)
  | r => r
/-- isinstance of a caught error; its field -/
def eIsE (i : Nat) (is : Nat → Option Bool) : EV := fun Γ => match get Γ i with
  | .exn x => (match if x.fs.isEmpty then is x.c else none with
    | some b => .ok (.bl b, Γ)
    | none => .bad)
  | _ => .bad
def eXf (cs : List Nat) (i f : Nat) : EV := fun Γ => match get Γ i with
  | .exn x => (match if cs.contains x.c then x.fs.lookup f else none with
    | some d => .ok (d, Γ)
    | none => .bad)
  | _ => .bad
/-- o.m(..): F takes the object first -/
def eMeth (c : Nat) (F : FV) (ms : List Bool) (o : EV) (a : AV) : EV := fun Γ => (o Γ).bind fun (d, Γ0) => match d with
  | .ins c' _ => if c' = c then (a Γ0).bind fun (ps, Γ1) => (callF F (false :: ms) (.pd d :: ps) Γ1).bind fun (o, Γ2) => .ok (o.d, Γ2) else .bad
  | _ => .bad
def nMeth (c : Nat) (F : FV) (ms : List Bool) (o : EV) (a : AV) : EV := fun Γ => (o Γ).bind fun (d, Γ0) => match d with
  | .ins c' _ => if c' = c then (a Γ0).bind fun (ps, Γ1) => (callF F (false :: ms) (.pd d :: ps) Γ1).bind fun (o, Γ2) => (match o with
    | .fr d => .ok (d, Γ2)
    | .fz _ => .bad) else .bad
  | _ => .bad
def fld (c f : Nat) : D → Option D
  | .ins c' fs => if c' = c then fs.lookup f else none
  | _ => none
def eFld (c f : Nat) (o : EV) : EV := fun Γ => (o Γ).bind fun (d, Γ') => (R.of (fld c f d)).bind fun z => .ok (z, Γ')

/-- o1 op o2, both of the class c -/
def eOwn2 (c : Nat) (F : FV) (a b : EV) : EV := fun Γ => (a Γ).bind fun (x, Γ1) => (b Γ1).bind fun (y, Γ2) => match x, y with
  | .ins c1 _, .ins c2 _ => if c1 = c ∧ c2 = c then (callF F [false, false] [.pd x, .pd y] Γ2).bind fun (o, Γ3) => .ok (o.d, Γ3) else .bad
  | _, _ => .bad
def eOwn1 (c : Nat) (F : FV) (a : EV) : EV := fun Γ => (a Γ).bind fun (x, Γ1) => match x with
  | .ins c1 _ => if c1 = c then (callF F [false] [.pd x] Γ1).bind fun (o, Γ3) => .ok (o.d, Γ3) else .bad
  | _ => .bad
def isB : D → Bool
  | .bl _ => true
  | _ => false
def isS : D → Bool
  | .str _ => true
  | _ => false
def isL : D → Bool
  | .int n => decide (0 ≤ n) && decide (n < 2 ^ 62)
  | _ => false
/-- bool(o), str(o), len(o): what comes back is of the kind k -/
def eOwnC (c : Nat) (k : D → Bool) (F : FV) (a : EV) : EV := fun Γ => (a Γ).bind fun (x, Γ1) => match x with
  | .ins c1 _ => if c1 = c then (callF F [false] [.pd x] Γ1).bind fun (o, Γ3) => (match o with
    | .fz d => if k d then .ok (d, Γ3) else .bad
    | .fr _ => .bad) else .bad
  | _ => .bad
/-- o[i] -/
def eOwnIx (c : Nat) (F : FV) (a : EV) (b : QV) : EV := fun Γ => (a Γ).bind fun (x, Γ1) => (b Γ1).bind fun (q, Γ2) => match x with
  | .ins c1 _ => if c1 = c then (callF F [false, true] [.pd x, q] Γ2).bind fun (o, Γ3) => .ok (o.d, Γ3) else .bad
  | _ => .bad
/-- x in o -/
def eOwnIn (c : Nat) (F : FV) (a : QV) (b : EV) : EV := fun Γ => (a Γ).bind fun (q, Γ1) => (b Γ1).bind fun (x, Γ2) => match x with
  | .ins c1 _ => if c1 = c then (callF F [false, true] [.pd x, q] Γ2).bind fun (o, Γ3) => (match o with
    | .fz d => if isB d then .ok (d, Γ3) else .bad
    | .fr _ => .bad) else .bad
  | _ => .bad

/-! statements -/
def sNext : SV := fun Γ => .ok (.nx, Γ)
def sBrk : SV := fun Γ => .ok (.brk, Γ)
def sCnt : SV := fun Γ => .ok (.cnt, Γ)
def sSeq (a b : SV) : SV := fun Γ => (a Γ).bind fun (c, Γ') => match c with
  | .nx => b Γ'
  | c => .ok (c, Γ')
def sSet (i : Nat) (e : EV) : SV := fun Γ => (e Γ).bind fun (d, Γ') => .ok (.nx, put Γ' i (.val d))
def sOwn (i : Nat) (e : EV) : SV := fun Γ => (e Γ).bind fun (d, Γ') => .ok (.nx, put Γ' i (.own d))
def sDrop (e : EV) : SV := fun Γ => (e Γ).bind fun (_, Γ') => .ok (.nx, Γ')
def sRet (e : EV) : SV := fun Γ => (e Γ).bind fun (d, Γ') => .ok (.ret (.fz d), Γ')
def sRetN : SV := fun Γ => .ok (.ret (.fz .non), Γ)
def sRetO (e : EV) : SV := fun Γ => (e Γ).bind fun (d, Γ') => .ok (.ret (.fr d), Γ')
/-- return x, x an owned list -/
def sRetX (i : Nat) : SV := fun Γ => match get Γ i with
  | .own d => .ok (.ret (.fr d), Γ)
  | .val d => .ok (.ret (.fz d), Γ)
  | _ => .bad
def sIf (t : TV) (a b : SV) : SV := fun Γ => (t Γ).bind fun (c, Γ') => if c then a Γ' else b Γ'
/-- x.append(e), x owned -/
def sApp (i : Nat) (e : EV) : SV := fun Γ => match look (get Γ i) with
  | some (.lst _) => (e Γ).bind fun (d, Γ') => (match get Γ' i with
    | .own (.lst xs) => if xs.length < seqMax then .ok (.nx, put Γ' i (.own (.lst (xs ++ [d])))) else .bad
    | _ => .bad)
  | _ => .bad
/-- x[j] = e -/
def ixN (n : Nat) (j : Int) : Option Nat := if 0 ≤ j then (if j < n then some j.toNat else none) else if -(n : Int) ≤ j then some (n + j).toNat else none
def sPutI (i : Nat) (j : QV) (e : EV) : SV := fun Γ => (e Γ).bind fun (d, Γ1) => match look (get Γ1 i) with
  | some _ => (j Γ1).bind fun (p, Γ2) => (match rd Γ2 p, get Γ2 i with
    | some (.int k), .own (.lst xs) => (match ixN xs.length k with
      | some m => .ok (.nx, put Γ2 i (.own (.lst (xs.set m d))))
      | none => .bad)
    | _, _ => .bad)
  | none => .bad
def sAug (i : Nat) (f : D → D → Option D) (e : QV) : SV := fun Γ => match look (get Γ i) with
  | some x => (e Γ).bind fun (p, Γ') => (match rd Γ' p with
    | some y => (R.of (f x y)).bind fun z => .ok (.nx, put Γ' i (.val z))
    | none => .bad)
  | none => .bad
/-- targets of a loop or an assignment -/
abbrev GV := D → Env → Option Env
def gN (i : Nat) : GV := fun d Γ => some (put Γ i (.val d))
def gs : List GV → List D → Env → Option Env
  | [], [], Γ => some Γ
  | g :: r, d :: ds, Γ => match g d Γ with
    | some Γ' => gs r ds Γ'
    | none => none
  | _, _, _ => none
def gT (l : List GV) : GV := fun d Γ => match d with
  | .tup ds => gs l ds Γ
  | .lst ds => gs l ds Γ
  | _ => none
def sAsg (g : GV) (e : EV) : SV := fun Γ => (e Γ).bind fun (d, Γ') => match g d Γ' with
  | some Γ2 => .ok (.nx, Γ2)
  | none => .bad
def forL (g : GV) (b : SV) : List D → Env → R (Ctl × Env)
  | [], Γ => .ok (.nx, Γ)
  | d :: ds, Γ => match g d Γ with
    | none => .bad
    | some Γ1 => match b Γ1 with
      | .ok (.nx, Γ2) => forL g b ds Γ2
      | .ok (.cnt, Γ2) => forL g b ds Γ2
      | .ok (.brk, Γ2) => .ok (.nx, Γ2)
      | .ok (.ret o, Γ2) => .ok (.ret o, Γ2)
      | .exc x Γ2 => .exc x Γ2
      | .bad => .bad
def items : D → Option (List D)
  | .lst xs => some xs
  | .tup xs => some xs
  | _ => none
/-- what is walked: a value's items -/
def iSeq (e : EV) : LV := fun Γ => (e Γ).bind fun (d, Γ') => (R.of (items d)).bind fun ds => .ok (ds, Γ')
/-- a name's items: what is lent stays lent -/
def stay : Sl → Option (D × Sl)
  | .val d => some (d, .val d)
  | .own d => some (d, .val d)
  | .bor d => some (d, .bor d)
  | _ => none
def iN (i : Nat) : LV := fun Γ => match stay (get Γ i) with
  | some (d, s) => (R.of (items d)).bind fun ds => .ok (ds, put Γ i s)
  | none => .bad
def rngL (lo : Int) (n : Nat) : List D := (List.range n).map fun (k : Nat) => .int (lo + k)
def rngB (i : Int) : Bool := decide (-(2 ^ 62) ≤ i) && decide (i < 2 ^ 62)
def iRg1 (a : QV) : LV := fun Γ => (a Γ).bind fun (p, Γ') => match rd Γ' p with
  | some (.int n) => if rngB n then .ok (rngL 0 n.toNat, Γ') else .bad
  | _ => .bad
def iRg2 (a b : QV) : LV := fun Γ => (a Γ).bind fun (p, Γ1) => (b Γ1).bind fun (q, Γ2) => match rd Γ2 p, rd Γ2 q with
  | some (.int m), some (.int n) => if rngB m && rngB n then .ok (rngL m (n - m).toNat, Γ2) else .bad
  | _, _ => .bad
def sFor (g : GV) (it : LV) (b : SV) : SV := fun Γ => (it Γ).bind fun (ds, Γ') => forL g b ds Γ'
/-- while, at most n turns -/
def whl (t : TV) (b : SV) : Nat → Env → R (Ctl × Env)
  | 0, _ => .bad
  | n + 1, Γ => (t Γ).bind fun (c, Γ1) => if c then (match b Γ1 with
      | .ok (.nx, Γ2) => whl t b n Γ2
      | .ok (.cnt, Γ2) => whl t b n Γ2
      | .ok (.brk, Γ2) => .ok (.nx, Γ2)
      | .ok (.ret o, Γ2) => .ok (.ret o, Γ2)
      | .exc x Γ2 => .exc x Γ2
      | .bad => .bad) else .ok (.nx, Γ1)
def sWhl (n : Nat) (t : TV) (b : SV) : SV := fun Γ => whl t b n Γ
def sPar (i j : Nat) (a b : EV) : SV := fun Γ => (a Γ).bind fun (x, Γ1) => (b Γ1).bind fun (y, Γ2) => .ok (.nx, put (put Γ2 i (.val x)) j (.val y))
/-- self.f = e, self in the making at slot 0 -/
def putFd (f : Nat) (v : D) : List (Nat × D) → List (Nat × D)
  | [] => [(f, v)]
  | (g, x) :: r => if g = f then (g, v) :: r else (g, x) :: putFd f v r
def sFld (c f : Nat) (e : EV) : SV := fun Γ => (e Γ).bind fun (d, Γ') => match get Γ' 0 with
  | .slf c' fs => if c' = c ∧ fs.length < 900 then .ok (.nx, put Γ' 0 (.slf c' (putFd f d fs))) else .bad
  | _ => .bad
/-- raise X(..) -/
def sRaise (c : Nat) (fs : List Nat) (r : LV) : SV := fun Γ => (r Γ).bind fun (ds, Γ') => .exc ⟨c, fs.zip ds⟩ Γ'

/-! a def -/
def inSl : Bool → D → Sl
  | true, .lst xs => .bor (.lst xs)
  | true, .dct xs => .bor (.dct xs)
  | _, d => .val d
def ins0 : List Bool → List D → Env
  | m :: ms, d :: ds => inSl m d :: ins0 ms ds
  | _, _ => []
def pad : Nat → Env
  | 0 => []
  | n + 1 => .emp :: pad n
def fin : R (Ctl × Env) → R DV
  | .ok (.nx, _) => .ok (.fz .non)
  | .ok (.ret o, _) => .ok o
  | .ok (.brk, _) => .bad
  | .ok (.cnt, _) => .bad
  | .exc x _ => .exc x []
  | .bad => .bad
/-- n: how many further locals -/
def runF (ms : List Bool) (n : Nat) (b : SV) : FV := fun ds => if ds.length = ms.length then fin (b (ins0 ms ds ++ pad n)) else .bad
/-- an __init__: the object's fields -/
def finI (c : Nat) : R (Ctl × Env) → R (List (Nat × D))
  | .ok (.nx, Γ) => match get Γ 0 with
    | .slf c' fs => if c' = c then .ok fs else .bad
    | _ => .bad
  | .ok (.ret _, _) => .bad
  | .ok (.brk, _) => .bad
  | .ok (.cnt, _) => .bad
  | .exc x _ => .exc x []
  | .bad => .bad
def runI (c : Nat) (ms : List Bool) (n : Nat) (b : SV) : List D → R (List (Nat × D)) := fun ds => if ds.length = ms.length then finI c (b (.slf c [] :: (ins0 ms ds ++ pad n))) else .bad
/-- C(..) -/
def mkF (c : Nat) (F : List D → R (List (Nat × D))) : FV := fun ds => match F ds with
  | .ok fs => .ok (.fz (.ins c fs))
  | .exc x _ => .exc x []
  | .bad => .bad
end Ed

set_option autoImplicit true
set_option linter.all false
/-! Python's operations over data -/
namespace Ed
open PySem

def nLt (a : Int) (b : Nat) : Bool := decide (a.natAbs < 2 ^ b)
def mulOk (a b : Int) : Bool := nLt a 64 || nLt b 64 || (nLt a 8000 && nLt b 8000)
def dAdd : D → D → Option D
  | .int a, .int b => some (.int (a + b))
  | .str a, .str b => if a.length + b.length ≤ seqMax then some (.str (a ++ b)) else none
  | .lst a, .lst b => if a.length + b.length ≤ seqMax then some (.lst (a ++ b)) else none
  | .tup a, .tup b => if a.length + b.length ≤ seqMax then some (.tup (a ++ b)) else none
  | _, _ => none
def dCat : D → D → Option D
  | .lst a, .lst b => if a.length + b.length ≤ seqMax then some (.lst (a ++ b)) else none
  | _, _ => none
def dSub : D → D → Option D
  | .int a, .int b => some (.int (a - b))
  | _, _ => none
def dMul : D → D → Option D
  | .int a, .int b => if mulOk a b then some (.int (a * b)) else none
  | _, _ => none
def dDiv : D → D → Option D
  | .int a, .int b => if b ≠ 0 ∧ b.natAbs < 2 ^ 8000 then some (.int (a.fdiv b)) else none
  | _, _ => none
def dMod : D → D → Option D
  | .int a, .int b => if b ≠ 0 then some (.int (a.fmod b)) else none
  | _, _ => none
def dPow : D → D → Option D
  | .int a, .int b => if 0 ≤ b ∧ b ≤ 1000000 ∧ a.natAbs < 2 ^ 64 then some (.int (a ^ b.toNat)) else none
  | _, _ => none
def dNeg : D → Option D
  | .int a => some (.int (-a))
  | _ => none
def dAbs : D → Option D
  | .int i => some (.int (if i < 0 then -i else i))
  | _ => none
def dInt : D → Option D
  | .int i => some (.int i)
  | .bl b => some (.int (if b then 1 else 0))
  | _ => none
def dBool : D → Option D
  | .int i => some (.bl (i != 0))
  | .bl b => some (.bl b)
  | _ => none
def dStr : D → Option D
  | .int i => if i.natAbs < 2 ^ 1900 then some (.str (toString i)) else none
  | .str s => some (.str s)
  | _ => none
def dLen : D → Option D
  | .str s => if s.length ≤ seqMax then some (.int s.length) else none
  | .lst xs => some (.int xs.length)
  | .tup xs => some (.int xs.length)
  | .scr xs => some (.int xs.length)
  | .dct xs => some (.int xs.length)
  | _ => none
def dLt : D → D → Option D
  | .int a, .int b => some (.bl (decide (a < b)))
  | _, _ => none
def dLe : D → D → Option D
  | .int a, .int b => some (.bl (decide (a ≤ b)))
  | _, _ => none
def dGt : D → D → Option D
  | .int a, .int b => some (.bl (decide (b < a)))
  | _, _ => none
def dGe : D → D → Option D
  | .int a, .int b => some (.bl (decide (b ≤ a)))
  | _, _ => none
mutual
def deq : D → D → Bool
  | .non, .non => true
  | .bl a, .bl b => a == b
  | .bl a, .int j => (if a then 1 else 0) == j
  | .int i, .bl b => i == (if b then 1 else 0)
  | .int i, .int j => i == j
  | .str x, .str y => x == y
  | .lst xs, .lst ys => deqs xs ys
  | .tup xs, .tup ys => deqs xs ys
  | _, _ => false
def deqs : List D → List D → Bool
  | [], [] => true
  | x :: xs, y :: ys => deq x y && deqs xs ys
  | _, _ => false
end
/-- plain data, at most n deep -/
def okDat : Nat → D → Bool
  | _, .non => true
  | _, .bl _ => true
  | _, .int _ => true
  | _, .str s => s.cps.all (· < 0x110000)
  | n + 1, .lst xs => xs.all (okDat n)
  | n + 1, .tup xs => xs.all (okDat n)
  | _, _ => false
def sca : D → D → Bool
  | .non, .non => true | .non, .int _ => true | .int _, .non => true | .non, .bl _ => true | .bl _, .non => true | .non, .str _ => true | .str _, .non => true
  | .int _, .int _ => true | .bl _, .bl _ => true | .str _, .str _ => true
  | .int _, .str _ => true | .str _, .int _ => true | .bl _, .str _ => true | .str _, .bl _ => true
  | _, _ => false
def dEq (a b : D) : Option D := if sca a b || (okDat 60 a && okDat 60 b) then some (.bl (deq a b)) else none
def dNe (a b : D) : Option D := if sca a b || (okDat 60 a && okDat 60 b) then some (.bl (!deq a b)) else none
def flat : D → Bool
  | .non => true | .bl _ => true | .int _ => true | .str _ => true
  | _ => false
/-- among flat items; one sign in a text; a key in a dict -/
def isIn (x : D) : D → Option Bool
  | .lst ys => if flat x && ys.all flat then some (ys.any fun y => deq y x) else if okDat 60 x && okDat 60 (.lst ys) then some (ys.any fun y => deq y x) else none
  | .tup ys => if flat x && ys.all flat then some (ys.any fun y => deq y x) else none
  | .str z => match x with
    | .str c => if c.length = 1 then some (decide (c.cps.getD 0 0 ∈ z.cps.toList)) else none
    | _ => none
  | _ => none
def dIn (x y : D) : Option D := (isIn x y).map .bl
def dNin (x y : D) : Option D := (isIn x y).map fun b => .bl (!b)
def dIsN (x y : D) : Option D := match y with
  | .non => match x with
    | .non => some (.bl true)
    | _ => some (.bl false)
  | _ => none
def dNotN (x y : D) : Option D := match y with
  | .non => match x with
    | .non => some (.bl false)
    | _ => some (.bl true)
  | _ => none
def at1 {α : Type} (xs : List α) (i : Int) : Option α := (ixN xs.length i).bind fun j => xs[j]?
def dIx : D → D → Option D
  | .lst xs, .int i => at1 xs i
  | .tup xs, .int i => at1 xs i
  | .scr xs, .int i => (at1 xs i).map .int
  | .str z, .int i => if z.length ≤ seqMax then (at1 z.cps.toList i).map fun c => .str ⟨#[c]⟩ else none
  | _, _ => none
def slI (n d : Nat) : Option Int → Nat
  | none => d
  | some v => if v < 0 then (v + (n : Int)).toNat else min v.toNat n
def cut {α : Type} (xs : List α) (lo hi : Option Int) : List α := (xs.drop (slI xs.length 0 lo)).take (slI xs.length xs.length hi - slI xs.length 0 lo)
/-- a slice's list -/
def dCutL : D → Option Int → Option Int → Option D
  | .lst xs, lo, hi => some (.lst (cut xs lo hi))
  | .scr xs, lo, hi => some (.lst ((cut xs lo hi).map .int))
  | _, _, _ => none
def dCut : D → Option Int → Option Int → Option D
  | .tup xs, lo, hi => some (.tup (cut xs lo hi))
  | .str z, lo, hi => if z.length ≤ seqMax then some (.str ⟨(cut z.cps.toList lo hi).toArray⟩) else none
  | .lst xs, lo, hi => some (.lst (cut xs lo hi))
  | .scr xs, lo, hi => some (.lst ((cut xs lo hi).map .int))
  | _, _, _ => none
def oPart : Option QV → Env → R (Option Int × Env)
  | none, Γ => .ok (none, Γ)
  | some q, Γ => (q Γ).bind fun (p, Γ') => match rd Γ' p with
    | some (.int i) => .ok (some i, Γ')
    | _ => .bad
def eSl (f : D → Option Int → Option Int → Option D) (a : QV) (lo hi : Option QV) : EV := fun Γ => (a Γ).bind fun (p, Γ1) => (oPart lo Γ1).bind fun (l, Γ2) => (oPart hi Γ2).bind fun (h, Γ3) =>
  match rd Γ3 p with
  | some d => (R.of (f d l h)).bind fun z => .ok (z, Γ3)
  | none => .bad
def dRev : D → Option D
  | .lst xs => some (.lst xs.reverse)
  | _ => none
def dGcd : List D → Option D
  | [.int a, .int b] => some (.int ((Nat.gcd a.natAbs b.natAbs : Nat) : Int))
  | _ => none
def o1 (f : D → Option D) : List D → Option D
  | [d] => f d
  | _ => none
def dStrI : D → Option D
  | .int i => if i.natAbs < 2 ^ 1900 then some (.str (toString i)) else none
  | _ => none
inductive Ty where
  | tInt | tBool | tStr | tList | tTuple
def dIsT : Ty → D → Option D
  | .tInt, .int _ => some (.bl true)
  | .tInt, .bl _ => some (.bl true)
  | .tBool, .bl _ => some (.bl true)
  | .tStr, .str _ => some (.bl true)
  | .tList, .lst _ => some (.bl true)
  | .tTuple, .tup _ => some (.bl true)
  | _, .ins _ _ => none
  | _, .scr _ => none
  | _, .dct _ => none
  | _, _ => some (.bl false)
/-- isinstance of an own class: tb says it of the classes -/
def dIsC (tb : Nat → Option Bool) : D → Option D
  | .ins c _ => (tb c).map .bl
  | .scr _ => none
  | .dct _ => none
  | _ => some (.bl false)
/-- tuple(x), list(x) -/
def dTup : D → Option D
  | .lst xs => some (.tup xs)
  | .tup xs => some (.tup xs)
  | _ => none
def dLst : D → Option D
  | .lst xs => some (.lst xs)
  | .tup xs => some (.lst xs)
  | _ => none
def intsL : List D → Option (List Int)
  | [] => some []
  | .int i :: r => (intsL r).map (i :: ·)
  | _ :: _ => none
def boolsL : List D → Option (List Bool)
  | [] => some []
  | .bl i :: r => (boolsL r).map (i :: ·)
  | _ :: _ => none
def dSum : D → Option D
  | .lst xs => (intsL xs).map fun ns => .int ns.sum
  | _ => none
def dAll : D → Option D
  | .lst xs => (boolsL xs).map fun ns => .bl (ns.all id)
  | _ => none
def dAny : D → Option D
  | .lst xs => (boolsL xs).map fun ns => .bl (ns.any id)
  | _ => none
def dMax2 : List D → Option D
  | [.int i, .int j] => some (.int (if j > i then j else i))
  | _ => none
def dMin2 : List D → Option D
  | [.int i, .int j] => some (.int (if j < i then j else i))
  | _ => none
/-- a part of an f-string -/
def dTxt : D → Option D
  | .str s => if s.length ≤ seqMax then some (.str s) else none
  | .int i => if i.natAbs < 2 ^ 1900 then some (.str (toString i)) else none
  | _ => none
def eJs : List EV → Str → EV
  | [], acc, Γ => .ok (.str acc, Γ)
  | e :: es, acc, Γ => (e Γ).bind fun (d, Γ') => match d with
    | .str y => if (acc ++ y).length ≤ seqMax then eJs es (acc ++ y) Γ' else .bad
    | _ => .bad
end Ed

set_option autoImplicit true
set_option linter.all false
/-! comprehensions, over data -/
namespace Ed
open PySem
def stb : Sl → Bool
  | .emp => true
  | .val _ => true
  | .bor _ => true
  | .exn _ => true
  | _ => false
def wipeG (Γ : Env) : List Nat → Env
  | [] => Γ
  | v :: vs => put (wipeG Γ vs) v .emp
def restG (Γ0 Γ : Env) : List Nat → Env
  | [] => Γ
  | v :: vs => put (restG Γ0 Γ vs) v (get Γ0 v)
/-- the turns of a comprehension; the items there are so far -/
def lcL (g : GV) (t : TV) (e : EV) (vs : List Nat) : List D → Env → Nat → Option (List D × Env)
  | [], Γ, _ => some ([], Γ)
  | d :: ds, Γ, n => match g d Γ with
    | none => none
    | some Γ1 => match t Γ1 with
      | .ok (true, Γ2) => (match e Γ2 with
        | .ok (x, Γ3) => if n < seqMax then (match lcL g t e vs ds (wipeG Γ3 vs) (n + 1) with
          | some (l, Γ4) => some (x :: l, Γ4)
          | none => none) else none
        | _ => none)
      | .ok (false, Γ2) => lcL g t e vs ds (wipeG Γ2 vs) n
      | _ => none
def tYs : TV := fun Γ => .ok (true, Γ)
/-- [e for g in it if t] -/
def eLc (vs : List Nat) (it : LV) (g : GV) (t : TV) (e : EV) : EV := fun Γ => (it Γ).bind fun (ds, Γ1) => if vs.all (fun i => stb (get Γ1 i)) = true then (match lcL g t e vs ds (wipeG Γ1 vs) 0 with
  | some (l, Γ2) => .ok (.lst l, restG Γ1 Γ2 vs)
  | none => .bad) else .bad
def isT2 : Ty → D → Option Bool
  | .tInt, .int _ => some true
  | .tInt, .bl _ => some true
  | .tBool, .bl _ => some true
  | .tStr, .str _ => some true
  | .tList, .lst _ => some true
  | .tTuple, .tup _ => some true
  | _, .ins _ _ => none
  | _, .scr _ => none
  | _, .dct _ => none
  | _, _ => some false
/-- what a table says of the own classes -/
def tbl (l : List (Nat × Bool)) (c : Nat) : Option Bool := l.lookup c
def isB2 (tb : Nat → Option Bool) : D → Option Bool
  | .ins c _ => tb c
  | .scr _ => none
  | .dct _ => none
  | _ => some false
def eIsED (i : Nat) (is : Nat → Option Bool) : EV := fun Γ => match get Γ i with
  | .exn x => (match is x.c with
    | some b => .ok (.bl b, Γ)
    | none => .bad)
  | _ => .bad
def sBad : SV := fun _ => .bad
def eAndV (a b : EV) : EV := fun Γ => (a Γ).bind fun (x, Γ1) => match x with
  | .bl true => b Γ1
  | .bl false => .ok (.bl false, Γ1)
  | _ => .bad
def eOrV (a b : EV) : EV := fun Γ => (a Γ).bind fun (x, Γ1) => match x with
  | .bl true => .ok (.bl true, Γ1)
  | .bl false => b Γ1
  | _ => .bad
def eNotV (a : EV) : EV := fun Γ => (a Γ).bind fun (x, Γ1) => match x with
  | .bl k => .ok (.bl (!k), Γ1)
  | _ => .bad
/-- a op b op' c -/
def eChain (f f' : D → D → Option D) (a b c : QV) : EV := fun Γ => (a Γ).bind fun (p, Γ1) => (b Γ1).bind fun (q, Γ2) => match rd Γ2 p, rd Γ2 q with
  | some x, some y => (match f x y with
    | some (.bl true) => (c Γ2).bind fun (r, Γ3) => (match rd Γ3 q, rd Γ3 r with
      | some y', some z => (R.of (f' y' z)).bind fun d => .ok (d, Γ3)
      | _, _ => .bad)
    | some (.bl false) => .ok (.bl false, Γ2)
    | _ => .bad)
  | _, _ => .bad
def maxL : List Int → Option Int
  | [] => none
  | n :: ns => some (ns.foldl max n)
def minL : List Int → Option Int
  | [] => none
  | n :: ns => some (ns.foldl min n)
def dMaxL : D → Option D
  | .lst xs => (intsL xs).bind fun ns => (maxL ns).map .int
  | _ => none
def dMinL : D → Option D
  | .lst xs => (intsL xs).bind fun ns => (minL ns).map .int
  | _ => none
/-- o.m(..) of a text or a list -/
def eBM (f : D → List D → Option D) (a : QV) (l : AV) : EV := fun Γ => (a Γ).bind fun (p, Γ1) => (l Γ1).bind fun (ps, Γ2) => match rd Γ2 p, rds Γ2 ps with
  | some x, some ys => if (rd Γ1 p).isSome then (R.of (f x ys)).bind fun d => .ok (d, Γ2) else .bad
  | _, _ => .bad
end Ed

set_option autoImplicit true
set_option Elab.async false
set_option linter.all false
set_option maxRecDepth 100000
/-! what data stands at a value; the state of a def over the data -/
namespace Ed
open PySem L2

/-- where the classes stand, what the fields are called -/
structure Cn where
  ca : Nat → Addr
  fa : Nat → Str
  /-- the caught error of a suite: where it stands, its class, its dict -/
  ex : Option (Addr × Value × Option Addr) := none
section
variable (K : PySem.W.Frag) (cn : Cn)
inductive Rep (F : Hp) : V → D → Prop
  | non : Rep F .non .non
  | bl (b : Bool) : Rep F (.bl b) (.bl b)
  | int (i : Int) : Rep F (.int i) (.int i)
  | str (s : Str) : Rep F (.str s) (.str s)
  | lst {a : Addr} {vs : List V} {ds : List D} (h : F a = some (.lst vs)) (hl : vs.length = ds.length) (r : ∀ (i : Nat) v d, vs[i]? = some v → ds[i]? = some d → Rep F v d) : Rep F (.ref a) (.lst ds)
  | tup {a : Addr} {vs : List V} {ds : List D} (h : SqT K F a vs) (hl : vs.length = ds.length) (r : ∀ (i : Nat) v d, vs[i]? = some v → ds[i]? = some d → Rep F v d) : Rep F (.ref a) (.tup ds)
  | dct {a : Addr} {kvs : List (L2.Key × V)} {kds : List (L2.Key × D)} (h : F a = some (.dK kvs)) (hk : kvs.map (·.1) = kds.map (fun p => id p.1)) (r : ∀ (i : Nat) v d, kvs[i]? = some v → kds[i]? = some d → Rep F v.2 d.2) : Rep F (.ref a) (.dct kds)
  | ins {a dx : Addr} {fvs : List (Str × V)} {fds : List (Nat × D)} {c : Nat} (h : F a = some (.ins (cn.ca c) dx fvs)) (hk : fvs.map (·.1) = fds.map (fun p => cn.fa p.1)) (r : ∀ (i : Nat) v d, fvs[i]? = some v → fds[i]? = some d → Rep F v.2 d.2) : Rep F (.ref a) (.ins c fds)
  | scr {a : Addr} {ns : List Int} (h : SqL K F a (ns.map V.int)) : Rep F (.ref a) (.scr ns)
def Reps (F : Hp) (vs : List V) (ds : List D) : Prop := vs.length = ds.length ∧ ∀ (i : Nat) v d, vs[i]? = some v → ds[i]? = some d → Rep K cn F v d
def RepP {κ κ' : Type} (g : κ' → κ) (F : Hp) (vs : List (κ × V)) (ds : List (κ' × D)) : Prop := vs.map (·.1) = ds.map (fun p => g p.1) ∧ ∀ (i : Nat) v d, vs[i]? = some v → ds[i]? = some d → Rep K cn F v.2 d.2
end

section
variable {K : PySem.W.Frag} {cn : Cn} {F F' H H' : Hp} {v w : V} {d : D} {vs ws : List V} {ds es : List D}
theorem same_seqT {a : Addr} {xs : List V} (e : L2.Same H H') (h : SqT K H a xs) : SqT K H' a xs := by
  rcases h with (h | ⟨o, h⟩) | h
  · exact .inl (.inl (e _ _ h))
  · exact .inl (.inr ⟨o, e _ _ h⟩)
  · exact .inr h
theorem Rep.mono (s : Same F F') (h : Rep K cn F v d) : Rep K cn F' v d := by
  induction h with
  | non => exact .non
  | bl b => exact .bl b
  | int i => exact .int i
  | str z => exact .str z
  | lst h hl _ ih => exact .lst (s _ _ h) hl ih
  | tup h hl _ ih => exact .tup (same_seqT s h) hl ih
  | dct h hk _ ih => exact .dct (s _ _ h) hk ih
  | ins h hk _ ih => exact .ins (s _ _ h) hk ih
  | scr h => exact .scr (s.seq h)
theorem Reps.mono (s : Same F F') (h : Reps K cn F vs ds) : Reps K cn F' vs ds := ⟨h.1, fun i v d a b => (h.2 i v d a b).mono s⟩
theorem RepP.mono {κ κ' : Type} {g : κ' → κ} {vs : List (κ × V)} {ds : List (κ' × D)} (s : Same F F') (h : RepP K cn g F vs ds) : RepP K cn g F' vs ds := ⟨h.1, fun i v d a b => (h.2 i v d a b).mono s⟩
theorem Reps.nil : Reps K cn F [] [] := ⟨rfl, fun i v d a _ => by simp at a⟩
theorem Reps.cons (h : Rep K cn F v d) (r : Reps K cn F vs ds) : Reps K cn F (v :: vs) (d :: ds) := ⟨by simp [r.1], fun i x y a b => by
  cases i with
  | zero => simp at a b; subst a b; exact h
  | succ i => exact r.2 i x y (by simpa using a) (by simpa using b)⟩
theorem Reps.uncons (r : Reps K cn F (v :: vs) (d :: ds)) : Rep K cn F v d ∧ Reps K cn F vs ds :=
  ⟨r.2 0 v d rfl rfl, by have := r.1; simpa using this, fun i x y a b => r.2 (i + 1) x y (by simpa using a) (by simpa using b)⟩
theorem Reps.inv : Reps K cn F vs (d :: ds) → ∃ v vs', vs = v :: vs' ∧ Rep K cn F v d ∧ Reps K cn F vs' ds := fun r => by
  cases vs with
  | nil => have := r.1; simp at this
  | cons v vs => exact ⟨v, vs, rfl, r.uncons⟩
theorem Reps.inv0 : Reps K cn F vs [] → vs = [] := fun r => List.length_eq_zero_iff.mp r.1
theorem Reps.app (r : Reps K cn F vs ds) (q : Reps K cn F ws es) : Reps K cn F (vs ++ ws) (ds ++ es) := ⟨by simp [r.1, q.1], fun i x y a b => by
  by_cases h : i < vs.length
  · rw [List.getElem?_append_left h] at a
    rw [List.getElem?_append_left (r.1 ▸ h)] at b
    exact r.2 i x y a b
  · rw [List.getElem?_append_right (by omega)] at a
    rw [List.getElem?_append_right (by have := r.1; omega), ← r.1] at b
    exact q.2 _ x y a b⟩
theorem Reps.get (r : Reps K cn F vs ds) {i : Nat} {d : D} (h : ds[i]? = some d) : ∃ v, vs[i]? = some v ∧ Rep K cn F v d := by
  obtain ⟨hi, _⟩ := List.getElem?_eq_some_iff.mp h
  have hv : i < vs.length := by rw [r.1]; exact hi
  exact ⟨vs[i], by simp [hv], r.2 i _ _ (by simp [hv]) h⟩
theorem Reps.getV (r : Reps K cn F vs ds) {i : Nat} {v : V} (h : vs[i]? = some v) : ∃ d, ds[i]? = some d ∧ Rep K cn F v d := by
  obtain ⟨hi, _⟩ := List.getElem?_eq_some_iff.mp h
  have hv : i < ds.length := by rw [← r.1]; exact hi
  exact ⟨ds[i], by simp [hv], r.2 i _ _ h (by simp [hv])⟩
theorem Reps.set (r : Reps K cn F vs ds) {i : Nat} (h : Rep K cn F v d) : Reps K cn F (vs.set i v) (ds.set i d) := ⟨by simp [r.1], fun j x y a b => by
  by_cases e : i = j
  · subst e
    by_cases hi : i < vs.length
    · rw [List.getElem?_set_self hi] at a
      rw [List.getElem?_set_self (r.1 ▸ hi)] at b
      cases a; cases b; exact h
    · rw [List.getElem?_eq_none (by simpa using hi)] at a; cases a
  · rw [List.getElem?_set_ne e] at a b
    exact r.2 j x y a b⟩
theorem Reps.take (r : Reps K cn F vs ds) (n : Nat) : Reps K cn F (vs.take n) (ds.take n) := ⟨by simp [r.1], fun j x y a b => by
  rw [List.getElem?_take] at a b
  split at a
  · rw [if_pos (by assumption)] at b; exact r.2 j x y a b
  · cases a⟩
theorem Reps.drop (r : Reps K cn F vs ds) (n : Nat) : Reps K cn F (vs.drop n) (ds.drop n) := ⟨by simp [r.1], fun j x y a b => by
  rw [List.getElem?_drop] at a b
  exact r.2 _ x y a b⟩
theorem Reps.rev (r : Reps K cn F vs ds) : Reps K cn F vs.reverse ds.reverse := ⟨by simp [r.1], fun j x y a b => by
  obtain ⟨hj, _⟩ := List.getElem?_eq_some_iff.mp a
  rw [List.length_reverse] at hj
  rw [List.getElem?_reverse hj] at a
  rw [List.getElem?_reverse (by rw [← r.1]; exact hj), ← r.1] at b
  exact r.2 _ x y a b⟩

/-- a value as it can be read now: a list may stand outside the frozen heap -/
def Shal (K : PySem.W.Frag) (cn : Cn) (F H : Hp) (v : V) : D → Prop
  | .lst ds => ∃ a vs, v = .ref a ∧ H a = some (.lst vs) ∧ Reps K cn F vs ds
  | .dct ds => ∃ a kvs, v = .ref a ∧ H a = some (.dK kvs) ∧ RepP K cn id F kvs ds
  | d => Rep K cn F v d
theorem Rep.shal (s : Same F H) (h : Rep K cn F v d) : Shal K cn F H v d := by
  cases h with
  | lst h hl r => exact ⟨_, _, rfl, s _ _ h, hl, r⟩
  | dct h hk r => exact ⟨_, _, rfl, s _ _ h, hk, r⟩
  | non => exact .non
  | bl b => exact .bl b
  | int i => exact .int i
  | str z => exact .str z
  | tup h hl r => exact .tup h hl r
  | ins h hk r => exact .ins h hk r
  | scr h => exact .scr h
theorem Shal.mono (s : Same F F') (s2 : Same H H') (h : Shal K cn F H v d) : Shal K cn F' H' v d := by
  cases d with
  | lst ds => obtain ⟨a, vs, e, h, r⟩ := h; exact ⟨a, vs, e, s2 _ _ h, r.mono s⟩
  | dct ds => obtain ⟨a, vs, e, h, r⟩ := h; exact ⟨a, vs, e, s2 _ _ h, r.mono s⟩
  | non => exact Rep.mono s h
  | bl b => exact Rep.mono s h
  | int i => exact Rep.mono s h
  | str z => exact Rep.mono s h
  | tup h1 => exact Rep.mono s h
  | ins c h1 => exact Rep.mono s h
  | scr h1 => exact Rep.mono s h
theorem Shal.int {i : Int} (h : Shal K cn F H v (.int i)) : v = .int i := by cases (show Rep K cn F v (.int i) from h); rfl
theorem Shal.bl {i : Bool} (h : Shal K cn F H v (.bl i)) : v = .bl i := by cases (show Rep K cn F v (.bl i) from h); rfl
theorem Shal.str {i : Str} (h : Shal K cn F H v (.str i)) : v = .str i := by cases (show Rep K cn F v (.str i) from h); rfl
theorem Shal.non (h : Shal K cn F H v .non) : v = .non := by cases (show Rep K cn F v .non from h); rfl
theorem Rep.tupE (s : Same F H) (h : Rep K cn F v (.tup ds)) : ∃ a vs, v = .ref a ∧ SqT K H a vs ∧ Reps K cn F vs ds := by
  cases h with
  | tup h1 hl r => exact ⟨_, _, rfl, same_seqT s h1, hl, r⟩
theorem Shal.tup (s : Same F H) (h : Shal K cn F H v (.tup ds)) : ∃ a vs, v = .ref a ∧ SqT K H a vs ∧ Reps K cn F vs ds := Rep.tupE s h

/-- from a point to a later one: nothing that stood is changed, what is frozen grows by new objects -/
structure Ext (F H F' H' : Hp) : Prop where
  f : Same F F'
  h : Same H H'
  fh : Same F' H'
  nw : ∀ b, F b = none → H b ≠ none → F' b = none
theorem Ext.refl (s : Same F H) : Ext F H F H := ⟨Same.refl _, Same.refl _, s, fun _ h _ => h⟩
theorem Ext.trans {F2 H2 : Hp} (a : Ext F H F' H') (b : Ext F' H' F2 H2) : Ext F H F2 H2 := ⟨a.f.trans b.f, a.h.trans b.h, b.fh, fun x h1 h2 => b.nw x (a.nw x h1 h2) (by
  cases e : H x with
  | none => exact absurd e h2
  | some o => rw [a.h x o e]; simp)⟩
theorem same_new {p : Addr} {o : HO} (h : H p = none) : Same H (upd H p o) := fun a u e => by
  rw [upd_ne (ne_of_none e h)]
  exact e
theorem same_upd {p : Addr} {o : HO} (s : Same F H) : Same (upd F p o) (upd H p o) := fun a u e => by
  by_cases ha : a = p
  · subst ha; rw [upd_same] at e ⊢; exact e
  · rw [upd_ne ha] at e ⊢; exact s _ _ e
theorem same_out {p : Addr} {o : HO} (s : Same F H) (h : F p = none) : Same F (upd H p o) := fun a u e => by
  rw [upd_ne (ne_of_none e h)]; exact s _ _ e
/-- a new object, frozen at once -/
theorem Ext.new {p : Addr} {o : HO} (s : Same F H) (h : H p = none) : Ext F H (upd F p o) (upd H p o) := by
  have hf : F p = none := s.free h
  refine ⟨same_new hf, same_new h, same_upd s, fun b h1 h2 => ?_⟩
  by_cases hb : b = p
  · subst hb; exact absurd h h2
  · rw [upd_ne hb]; exact h1
/-- a new object, not frozen -/
theorem Ext.new0 {p : Addr} {o : HO} (s : Same F H) (h : H p = none) : Ext F H F (upd H p o) := ⟨Same.refl _, same_new h, same_out s (s.free h), fun _ h1 _ => h1⟩
end

/-- what is fixed through a def: the heaps at its entry, its object in the making -/
structure Ct where
  /-- what is lent stands there -/
  B0 : Hp
  H0 : Hp
  F0 : Hp
  slf : Option Addr

section
variable (K : PySem.W.Frag) (cn : Cn) (C : Ct)
def RepX (F : Hp) (cls : Value) (od : Option Addr) (x : Xc) : Prop := cls = .ref (cn.ca x.c) ∧ ((x.fs = [] ∧ od = none) ∨ ∃ d fvs, od = some d ∧ F d = some (.xd fvs) ∧ x.fs ≠ [] ∧ ∀ f z, x.fs.lookup f = some z → ∃ v, fvs.lookup (cn.fa f) = some v ∧ Rep K cn F v z)
theorem RepX.mono {K : PySem.W.Frag} {cn : Cn} {F F' : Hp} {cls : Value} {od : Option Addr} {x : Xc} (s : Same F F') (h : RepX K cn F cls od x) : RepX K cn F' cls od x := by
  obtain ⟨h1, h2⟩ := h
  refine ⟨h1, ?_⟩
  rcases h2 with h2 | ⟨d, fvs, h3, h4, h6, h5⟩
  · exact .inl h2
  · exact .inr ⟨d, fvs, h3, s _ _ h4, h6, fun f z q => (h5 f z q).imp fun v w => ⟨w.1, w.2.mono s⟩⟩
def OwnR (F H : Hp) (a : Addr) : D → Prop
  | .lst ds => ∃ vs, H a = some (.lst vs) ∧ Reps K cn F vs ds
  | .dct ds => ∃ kvs, H a = some (.dK kvs) ∧ RepP K cn id F kvs ds
  | _ => False
def SlR (F H : Hp) (o : Option V) : Sl → Prop
  | .emp => True
  | .val d => ∃ v, o = some v ∧ Rep K cn F v d
  | .own d => ∃ a, o = some (.ref a) ∧ F a = none ∧ C.H0 a = none ∧ OwnR K cn F H a d
  | .bor d => ∃ v, o = some v ∧ Shal K cn F C.B0 v d
  | .slf c fs => ∃ a dx fvs, o = some (.ref a) ∧ C.slf = some a ∧ F a = none ∧ H a = some (.ins (cn.ca c) dx fvs) ∧ RepP K cn cn.fa F fvs fs
  | .exn x => ∃ a, o = some (.ref a) ∧ ∀ a' cls od, cn.ex = some (a', cls, od) → a = a' ∧ RepX K cn F cls od x
structure Bas (F H : Hp) : Prop where
  fh : Same F H
  f0 : Same C.F0 F
  h0 : ∀ b o, C.H0 b = some o → C.slf ≠ some b → H b = some o
  nw : ∀ b, C.F0 b = none → C.H0 b ≠ none → F b = none
  si : ∀ a, C.slf = some a → (∃ c dx fs, C.H0 a = some (.ins c dx fs)) ∧ ∃ o, H a = some o
  b0 : ∀ b o, C.B0 b = some o → C.H0 b = some o
structure RelS (Γ : Env) (σ : St) (F H : Hp) : Prop where
  bs : Bas C F H
  len : Γ.length = σ.length
  sl : ∀ (i : Nat) s, Γ[i]? = some s → SlR K cn C F H ((σ[i]?).join) s
  ow : ∀ (i j : Nat) d d' a, Γ[i]? = some (.own d) → Γ[j]? = some (.own d') → σ[i]? = some (some (V.ref a)) → σ[j]? = some (some (V.ref a)) → i = j
  s0 : ∀ (i : Nat) c fs, Γ[i]? = some (.slf c fs) → i = 0
end

section
variable {K : PySem.W.Frag} {cn : Cn} {C : Ct} {Γ Γ' : Env} {σ : St} {F F' H H' : Hp} {v : V} {d : D} {i : Nat}
theorem get_eq : ∀ (Γ : Env) (i : Nat), get Γ i = (Γ[i]?).getD .emp
  | [], _ => by simp [get]
  | s :: r, 0 => by simp [get]
  | s :: r, n + 1 => by simp [get, get_eq r n]
theorem put_eq : ∀ (Γ : Env) (i : Nat) (s : Sl), put Γ i s = Γ.set i s
  | [], _, _ => by simp [put]
  | s :: r, 0, _ => by simp [put]
  | s :: r, n + 1, _ => by simp [put, put_eq r n]
theorem get_some {s : Sl} (h : get Γ i = s) (n : s ≠ .emp) : Γ[i]? = some s := by
  rw [get_eq] at h
  cases e : Γ[i]? with
  | none => rw [e] at h; exact absurd h.symm n
  | some t => rw [e] at h; exact congrArg some h
theorem Ext.ne {a : Addr} {o : HO} (e : Ext F H F' H') (h1 : F a = none) (h2 : H a = some o) : F' a = none := e.nw a h1 (by rw [h2]; simp)
theorem OwnR.some {a : Addr} (h : OwnR K cn F H a d) : ∃ o, H a = some o := by
  cases d with
  | lst ds => obtain ⟨vs, h, _⟩ := h; exact ⟨_, h⟩
  | dct ds => obtain ⟨vs, h, _⟩ := h; exact ⟨_, h⟩
  | _ => exact h.elim
theorem OwnR.mono {a : Addr} (s : Same F F') (s2 : Same H H') (h : OwnR K cn F H a d) : OwnR K cn F' H' a d := by
  cases d with
  | lst ds => obtain ⟨vs, h, r⟩ := h; exact ⟨vs, s2 _ _ h, r.mono s⟩
  | dct ds => obtain ⟨vs, h, r⟩ := h; exact ⟨vs, s2 _ _ h, r.mono s⟩
  | _ => exact h.elim
theorem SlR.mono {o : Option V} {s : Sl} (e : Ext F H F' H') (h : SlR K cn C F H o s) : SlR K cn C F' H' o s := by
  cases s with
  | emp => trivial
  | val d => obtain ⟨v, a, r⟩ := h; exact ⟨v, a, r.mono e.f⟩
  | own d =>
    obtain ⟨a, e1, n, n0, r⟩ := h
    obtain ⟨o, ho⟩ := r.some
    exact ⟨a, e1, e.ne n ho, n0, r.mono e.f e.h⟩
  | bor d => obtain ⟨v, a, r⟩ := h; exact ⟨v, a, r.mono e.f (Same.refl _)⟩
  | slf c fs => obtain ⟨a, dx, fvs, e1, e2, n, h, r⟩ := h; exact ⟨a, dx, fvs, e1, e2, e.ne n h, e.h _ _ h, r.mono e.f⟩
  | exn x => obtain ⟨a1, e1, q1⟩ := h; exact ⟨a1, e1, fun a' cls od z => ⟨(q1 a' cls od z).1, (q1 a' cls od z).2.mono e.f⟩⟩
theorem Bas.ext (b : Bas C F H) (e : Ext F H F' H') : Bas C F' H' := by
  refine ⟨e.fh, b.f0.trans e.f, fun x o h1 h2 => e.h _ _ (b.h0 x o h1 h2), fun x h1 h2 => ?_, fun a h => ⟨(b.si a h).1, let ⟨o, q⟩ := (b.si a h).2; ⟨o, e.h _ _ q⟩⟩, b.b0⟩
  cases q : H x with
  | some o => exact e.ne (b.nw x h1 h2) q
  | none =>
    -- not tracked now though tracked at the entry: only the object in the making
    cases q0 : C.H0 x with
    | none => exact absurd q0 h2
    | some o =>
      by_cases hs : C.slf = some x
      · obtain ⟨o2, q2⟩ := (b.si x hs).2
        rw [q] at q2; cases q2
      · rw [b.h0 x o q0 hs] at q; cases q
theorem RelS.ext (r : RelS K cn C Γ σ F H) (e : Ext F H F' H') : RelS K cn C Γ σ F' H' := ⟨r.bs.ext e, r.len, fun i s h => (r.sl i s h).mono e, r.ow, r.s0⟩
theorem RelS.at (r : RelS K cn C Γ σ F H) {s : Sl} (h : get Γ i = s) (n : s ≠ .emp) : SlR K cn C F H ((σ[i]?).join) s := r.sl i s (get_some h n)
theorem join_some {o : Option (Option V)} (h : o.join = some v) : o = some (some v) := by
  cases o with
  | none => cases h
  | some x => exact congrArg some h
/-- what a name holds can be read -/
theorem RelS.read (r : RelS K cn C Γ σ F H) (h : look (get Γ i) = some d) : ∃ v, σ[i]? = some (some v) ∧ Shal K cn F H v d := by
  cases e : get Γ i with
  | val x =>
    rw [e] at h; cases h
    obtain ⟨v, q, p⟩ := r.at e (fun z => by cases z)
    exact ⟨v, join_some q, p.shal r.bs.fh⟩
  | own x =>
    rw [e] at h; cases h
    obtain ⟨a, q, n, n0, p⟩ := r.at e (fun z => by cases z)
    refine ⟨_, join_some q, ?_⟩
    cases d with
    | lst ds => obtain ⟨vs, h, p⟩ := p; exact ⟨a, vs, rfl, h, p⟩
    | dct ds => obtain ⟨vs, h, p⟩ := p; exact ⟨a, vs, rfl, h, p⟩
    | _ => exact p.elim
  | bor x =>
    rw [e] at h; cases h
    obtain ⟨v, q, p⟩ := r.at e (fun z => by cases z)
    refine ⟨v, join_some q, ?_⟩
    have ne : ∀ a, (∃ o, C.H0 a = some o ∧ ∀ c dx fs, o ≠ .ins c dx fs) → C.slf ≠ some a := fun a ⟨o, h1, h2⟩ z => by
      obtain ⟨c, dx, fs, q⟩ := (r.bs.si a z).1
      rw [h1] at q; cases q; exact h2 _ _ _ rfl
    cases d with
    | lst ds =>
      obtain ⟨a, vs, e, h, p⟩ := p
      have h := r.bs.b0 _ _ h
      exact ⟨a, vs, e, r.bs.h0 _ _ h (ne a ⟨_, h, fun _ _ _ z => by cases z⟩), p⟩
    | dct ds =>
      obtain ⟨a, vs, e, h, p⟩ := p
      have h := r.bs.b0 _ _ h
      exact ⟨a, vs, e, r.bs.h0 _ _ h (ne a ⟨_, h, fun _ _ _ z => by cases z⟩), p⟩
    | non => exact p
    | bl b => exact p
    | int i => exact p
    | str z => exact p
    | tup h1 => exact p
    | ins c h1 => exact p
    | scr h1 => exact p
  | emp => rw [e] at h; cases h
  | slf c fs => rw [e] at h; cases h
  | exn x => rw [e] at h; cases h
def PVR (K : PySem.W.Frag) (cn : Cn) (σ : St) (F : Hp) (v : V) : PV → Prop
  | .pn i => σ[i]? = some (some v)
  | .pd d => Rep K cn F v d
theorem PVR.mono {p : PV} (s : Same F F') (h : PVR K cn σ F v p) : PVR K cn σ F' v p := by
  cases p with
  | pn i => exact h
  | pd d => exact Rep.mono s h
theorem RelS.rd (r : RelS K cn C Γ σ F H) {p : PV} (h : rd Γ p = some d) (q : PVR K cn σ F v p) : Shal K cn F H v d := by
  cases p with
  | pd x => cases h; exact Rep.shal r.bs.fh q
  | pn i =>
    obtain ⟨w, e, s⟩ := r.read (i := i) h
    rw [show σ[i]? = some (some v) from q] at e
    cases e
    exact s
theorem s0_put {Γ : Env} {i : Nat} {s : Sl} (h : ∀ (i : Nat) c fs, Γ[i]? = some (.slf c fs) → i = 0) (n : i = 0 ∨ ∀ c fs, s ≠ .slf c fs) : ∀ (j : Nat) c fs, (put Γ i s)[j]? = some (.slf c fs) → j = 0 := fun j c fs q => by
  rw [put_eq] at q
  by_cases e : i = j
  · subst e
    rcases n with n | n
    · exact n
    · by_cases hi : i < Γ.length
      · rw [List.getElem?_set_self hi] at q; cases q; exact absurd rfl (n c fs)
      · rw [List.getElem?_eq_none (by simpa using hi)] at q; cases q
  · rw [List.getElem?_set_ne e] at q; exact h j c fs q
theorem getSet {Γ : Env} {i j : Nat} {s t : Sl} (h : (Γ.set i s)[j]? = some t) : (i = j ∧ t = s) ∨ (i ≠ j ∧ Γ[j]? = some t) := by
  by_cases e : i = j
  · subst e
    by_cases hi : i < Γ.length
    · rw [List.getElem?_set_self hi] at h; cases h; exact .inl ⟨rfl, rfl⟩
    · rw [List.getElem?_eq_none (by simpa using hi)] at h; cases h
  · rw [List.getElem?_set_ne e] at h; exact .inr ⟨e, h⟩
/-- an owned thing is made frozen -/
theorem RelS.frz (r : RelS K cn C Γ σ F H) {s : Sl} (h : frzS (get Γ i) = some (d, s)) : ∃ v F', σ[i]? = some (some v) ∧ Same F F' ∧ Rep K cn F' v d ∧ RelS K cn C (put Γ i s) σ F' H := by
  cases e : get Γ i with
  | val x =>
    rw [e] at h; cases h
    obtain ⟨v, q, p⟩ := r.at e (fun z => by cases z)
    refine ⟨v, F, join_some q, Same.refl _, p, ?_⟩
    have : put Γ i (.val d) = Γ := by
      rw [put_eq]
      apply List.ext_getElem?
      intro j
      by_cases z : i = j
      · subst z
        have q := get_some e (fun z => by cases z)
        obtain ⟨hi, _⟩ := List.getElem?_eq_some_iff.mp q
        rw [List.getElem?_set_self hi, q]
      · rw [List.getElem?_set_ne z]
    rw [this]; exact r
  | own x =>
    rw [e] at h; cases h
    have hx := get_some e (fun z => by cases z)
    obtain ⟨a, q, n, n0, p⟩ := r.at e (fun z => by cases z)
    have qσ := join_some q
    obtain ⟨o, ho, hr⟩ : ∃ o, H a = some o ∧ (∀ F', Same F F' → F' a = some o → Rep K cn F' (.ref a) d) := by
      cases d with
      | lst ds => obtain ⟨vs, h, p⟩ := p; exact ⟨_, h, fun F' s q => .lst q p.1 (p.mono s).2⟩
      | dct ds => obtain ⟨vs, h, p⟩ := p; exact ⟨_, h, fun F' s q => .dct q p.1 (p.mono s).2⟩
      | _ => exact p.elim
    have sf : Same F (upd F a o) := same_new n
    refine ⟨.ref a, upd F a o, qσ, sf, hr _ sf upd_same, ⟨⟨?_, r.bs.f0.trans sf, r.bs.h0, fun b h1 h2 => ?_, r.bs.si, r.bs.b0⟩, by rw [put_eq, List.length_set]; exact r.len, fun j t h => ?_, fun j k x y b h1 h2 h3 h4 => ?_, s0_put r.s0 (.inr fun _ _ z => by cases z)⟩⟩
    · intro b u hb
      by_cases z : b = a
      · subst z; rw [upd_same] at hb; cases hb; exact ho
      · rw [upd_ne z] at hb; exact r.bs.fh _ _ hb
    · have z : b ≠ a := fun z => by subst z; exact h2 n0
      rw [upd_ne z]; exact r.bs.nw b h1 h2
    · rw [put_eq] at h
      rcases getSet h with ⟨rfl, rfl⟩ | ⟨z, h⟩
      · exact ⟨.ref a, q, hr _ sf upd_same⟩
      · have w := r.sl j t h
        cases t with
        | emp => trivial
        | val x => obtain ⟨v, a1, r1⟩ := w; exact ⟨v, a1, r1.mono sf⟩
        | own x =>
          obtain ⟨b, e1, m, m0, r1⟩ := w
          have hb : b ≠ a := fun e2 => z (r.ow i j _ _ a hx h qσ (by rw [← e2]; exact join_some e1))
          exact ⟨b, e1, by rw [upd_ne hb]; exact m, m0, r1.mono sf (Same.refl _)⟩
        | bor x => obtain ⟨v, a1, r1⟩ := w; exact ⟨v, a1, r1.mono sf (Same.refl _)⟩
        | slf c fs =>
          obtain ⟨b, dx, fvs, e1, e2, m, h5, r1⟩ := w
          have hb : b ≠ a := fun e3 => by
            subst e3
            obtain ⟨c', dx', fs', q0⟩ := (r.bs.si _ e2).1
            rw [n0] at q0; cases q0
          exact ⟨b, dx, fvs, e1, e2, by rw [upd_ne hb]; exact m, h5, r1.mono sf⟩
        | exn x => obtain ⟨a1, e1, q1⟩ := w; exact ⟨a1, e1, fun a' cls od z => ⟨(q1 a' cls od z).1, (q1 a' cls od z).2.mono sf⟩⟩
    · rw [put_eq] at h1 h2
      rcases getSet h1 with ⟨_, z⟩ | ⟨_, g1⟩
      · cases z
      · rcases getSet h2 with ⟨_, z⟩ | ⟨_, g2⟩
        · cases z
        · exact r.ow j k x y b g1 g2 h3 h4
  | emp => rw [e] at h; cases h
  | bor x => rw [e] at h; cases h
  | slf c fs => rw [e] at h; cases h
  | exn x => rw [e] at h; cases h
end
end Ed

set_option autoImplicit true
set_option Elab.async false
set_option linter.all false
set_option maxRecDepth 100000
/-! the judgements: a piece of syntax runs as its data function says -/
namespace Ed
open PySem L2

def Post {α : Type} (r : R α) (P : α → Prop) (W : Xc → Env → Prop) : Prop := match r with
  | .ok a => P a
  | .exc x Γ => W x Γ
  | .bad => False
theorem Post.bind {α β : Type} {r : R α} {f : α → R β} {P : β → Prop} {W : Xc → Env → Prop} (h : Post (r.bind f) P W) : Post r (fun a => Post (f a) P W) W := by
  cases r with
  | ok a => exact h
  | exc x Γ => exact h
  | bad => exact h
theorem Post.mono {α : Type} {r : R α} {P P' : α → Prop} {W W' : Xc → Env → Prop} (h : Post r P W) (k : ∀ a, P a → P' a) (k2 : ∀ x Γ, W x Γ → W' x Γ) : Post r P' W' := by
  cases r with
  | ok a => exact k a h
  | exc x Γ => exact k2 x Γ h
  | bad => exact h
theorem Post.of {α : Type} {o : Option α} {P : α → Prop} {W : Xc → Env → Prop} (h : Post (R.of o) P W) : ∃ a, o = some a ∧ P a := by
  cases o with
  | none => exact h.elim
  | some a => exact ⟨a, rfl, h⟩

section
variable (K : PySem.W.Frag) (cn : Cn)
abbrev XW (C : Ct) (F : Hp) (W : WX) : Xc → Env → Prop := fun x Γ' => ∀ cls od σ' F' H', Same F F' → RelS K cn C Γ' σ' F' H' → RepX K cn F' cls od x → W cls od σ' H'
def PVRs (σ : St) (F : Hp) : List V → List PV → Prop
  | [], [] => True
  | v :: vs, p :: ps => PVR K cn σ F v p ∧ PVRs σ F vs ps
  | _, _ => False
/-- a new thing, owned by none -/
def NewR (C : Ct) (Γ : Env) (σ : St) (F H : Hp) (v : V) (d : D) : Prop := ∃ a, v = .ref a ∧ F a = none ∧ C.H0 a = none ∧ OwnR K cn F H a d ∧ ∀ (i : Nat) d', Γ[i]? = some (.own d') → σ[i]? ≠ some (some (V.ref a))
end
section
variable {K : PySem.W.Frag} {cn : Cn} {C : Ct} {Γ Γ' : Env} {σ : St} {F F' H H' : Hp} {v : V} {d : D} {i : Nat}
theorem PVRs.mono (s : Same F F') : ∀ {vs : List V} {ps : List PV}, PVRs K cn σ F vs ps → PVRs K cn σ F' vs ps
  | [], [], _ => True.intro
  | _ :: _, _ :: _, h => ⟨h.1.mono s, PVRs.mono s h.2⟩
  | [], _ :: _, h => h.elim
  | _ :: _, [], h => h.elim
theorem NewR.frz (r : RelS K cn C Γ σ F H) (h : NewR K cn C Γ σ F H v d) : ∃ F', Same F F' ∧ Rep K cn F' v d ∧ RelS K cn C Γ σ F' H := by
  obtain ⟨a, rfl, n, n0, p, nown⟩ := h
  obtain ⟨o, ho, hr⟩ : ∃ o, H a = some o ∧ (∀ F', Same F F' → F' a = some o → Rep K cn F' (.ref a) d) := by
    cases d with
    | lst ds => obtain ⟨vs, h, p⟩ := p; exact ⟨_, h, fun F' s q => .lst q p.1 (p.mono s).2⟩
    | dct ds => obtain ⟨vs, h, p⟩ := p; exact ⟨_, h, fun F' s q => .dct q p.1 (p.mono s).2⟩
    | _ => exact p.elim
  have sf : Same F (upd F a o) := same_new n
  refine ⟨upd F a o, sf, hr _ sf upd_same, ⟨⟨?_, r.bs.f0.trans sf, r.bs.h0, fun b h1 h2 => ?_, r.bs.si, r.bs.b0⟩, r.len, fun j t h => ?_, r.ow, r.s0⟩⟩
  · intro b u hb
    by_cases z : b = a
    · subst z; rw [upd_same] at hb; cases hb; exact ho
    · rw [upd_ne z] at hb; exact r.bs.fh _ _ hb
  · have z : b ≠ a := fun z => by subst z; exact h2 n0
    rw [upd_ne z]; exact r.bs.nw b h1 h2
  · have w := r.sl j t h
    cases t with
    | emp => trivial
    | val x => obtain ⟨v, a1, r1⟩ := w; exact ⟨v, a1, r1.mono sf⟩
    | own x =>
      obtain ⟨b, e1, m, m0, r1⟩ := w
      have hb : b ≠ a := fun e2 => nown j x h (by rw [← e2]; exact join_some e1)
      exact ⟨b, e1, by rw [upd_ne hb]; exact m, m0, r1.mono sf (Same.refl _)⟩
    | bor x => obtain ⟨v, a1, r1⟩ := w; exact ⟨v, a1, r1.mono sf (Same.refl _)⟩
    | slf c fs =>
      obtain ⟨b, dx, fvs, e1, e2, m, h5, r1⟩ := w
      have hb : b ≠ a := fun e3 => by
        subst e3
        obtain ⟨c', dx', fs', q0⟩ := (r.bs.si _ e2).1
        rw [n0] at q0; cases q0
      exact ⟨b, dx, fvs, e1, e2, by rw [upd_ne hb]; exact m, h5, r1.mono sf⟩
    | exn x => obtain ⟨a1, e1, q1⟩ := w; exact ⟨a1, e1, fun a' cls od z => ⟨(q1 a' cls od z).1, (q1 a' cls od z).2.mono sf⟩⟩
/-- an owned address is tracked -/
theorem RelS.ownH (r : RelS K cn C Γ σ F H) {a : Addr} (h : Γ[i]? = some (.own d)) (e : σ[i]? = some (some (V.ref a))) : ∃ o, H a = some o := by
  obtain ⟨b, e1, m, m0, r1⟩ := r.sl i _ h
  rw [join_some e1] at e
  cases e
  exact r1.some
/-- a newly laid list -/
theorem NewR.laid (r : RelS K cn C Γ σ F H) {vs : List V} {ds : List D} (q : Reps K cn F vs ds) {p : Addr} (hp : H p = none) :
    RelS K cn C Γ σ F (upd H p (.lst vs)) ∧ NewR K cn C Γ σ F (upd H p (.lst vs)) (.ref p) (.lst ds) := by
  have e := Ext.new0 (o := HO.lst vs) r.bs.fh hp
  refine ⟨r.ext e, p, rfl, r.bs.fh.free hp, ?_, ⟨vs, upd_same, q⟩, fun i d' h z => ?_⟩
  · cases q0 : C.H0 p with
    | none => rfl
    | some o =>
      by_cases hs : C.slf = some p
      · obtain ⟨o2, q2⟩ := (r.bs.si p hs).2
        rw [hp] at q2; cases q2
      · rw [r.bs.h0 p o q0 hs] at hp; cases hp
  · obtain ⟨o, ho⟩ := r.ownH h z
    rw [hp] at ho; cases ho
theorem RelS.setV (r : RelS K cn C Γ σ F H) (h : Rep K cn F v d) : RelS K cn C (put Γ i (.val d)) (σ.set i (some v)) F H := by
  refine ⟨r.bs, by rw [put_eq, List.length_set, List.length_set]; exact r.len, fun j t g => ?_, fun j k x y b h1 h2 h3 h4 => ?_, s0_put r.s0 (.inr fun _ _ z => by cases z)⟩
  · rw [put_eq] at g
    rcases getSet g with ⟨rfl, rfl⟩ | ⟨z, g⟩
    · have hi : i < σ.length := by
        obtain ⟨hi, _⟩ := List.getElem?_eq_some_iff.mp g
        rw [List.length_set, r.len] at hi; exact hi
      rw [List.getElem?_set_self hi]
      exact ⟨v, rfl, h⟩
    · rw [List.getElem?_set_ne z]; exact r.sl j t g
  · rw [put_eq] at h1 h2
    rcases getSet h1 with ⟨_, z⟩ | ⟨z1, g1⟩
    · cases z
    · rcases getSet h2 with ⟨_, z⟩ | ⟨z2, g2⟩
      · cases z
      · rw [List.getElem?_set_ne z1] at h3
        rw [List.getElem?_set_ne z2] at h4
        exact r.ow j k x y b g1 g2 h3 h4
theorem RelS.setX (r : RelS K cn C Γ σ F H) {x : Xc} {a : Addr} (hx : ∀ a' cls od, cn.ex = some (a', cls, od) → a = a' ∧ RepX K cn F cls od x) : RelS K cn C (put Γ i (.exn x)) (σ.set i (some (V.ref a))) F H := by
  refine ⟨r.bs, by rw [put_eq, List.length_set, List.length_set]; exact r.len, fun j t g => ?_, fun j k x y b h1 h2 h3 h4 => ?_, s0_put r.s0 (.inr fun _ _ z => by cases z)⟩
  · rw [put_eq] at g
    rcases getSet g with ⟨rfl, rfl⟩ | ⟨z, g⟩
    · have hi : i < σ.length := by
        obtain ⟨hi, _⟩ := List.getElem?_eq_some_iff.mp g
        rw [List.length_set, r.len] at hi; exact hi
      rw [List.getElem?_set_self hi]
      exact ⟨a, rfl, hx⟩
    · rw [List.getElem?_set_ne z]; exact r.sl j t g
  · rw [put_eq] at h1 h2
    rcases getSet h1 with ⟨_, z⟩ | ⟨z1, g1⟩
    · cases z
    · rcases getSet h2 with ⟨_, z⟩ | ⟨z2, g2⟩
      · cases z
      · rw [List.getElem?_set_ne z1] at h3
        rw [List.getElem?_set_ne z2] at h4
        exact r.ow j k x y b g1 g2 h3 h4
theorem RelS.setE (r : RelS K cn C Γ σ F H) {o : Option V} : RelS K cn C (put Γ i .emp) (σ.set i o) F H := by
  refine ⟨r.bs, by rw [put_eq, List.length_set, List.length_set]; exact r.len, fun j t g => ?_, fun j k x y b h1 h2 h3 h4 => ?_, s0_put r.s0 (.inr fun _ _ z => by cases z)⟩
  · rw [put_eq] at g
    rcases getSet g with ⟨rfl, rfl⟩ | ⟨z, g⟩
    · trivial
    · rw [List.getElem?_set_ne z]; exact r.sl j t g
  · rw [put_eq] at h1 h2
    rcases getSet h1 with ⟨_, z⟩ | ⟨z1, g1⟩
    · cases z
    · rcases getSet h2 with ⟨_, z⟩ | ⟨z2, g2⟩
      · cases z
      · rw [List.getElem?_set_ne z1] at h3
        rw [List.getElem?_set_ne z2] at h4
        exact r.ow j k x y b g1 g2 h3 h4
theorem RelS.setO (r : RelS K cn C Γ σ F H) (h : NewR K cn C Γ σ F H v d) : RelS K cn C (put Γ i (.own d)) (σ.set i (some v)) F H := by
  obtain ⟨a, rfl, n, n0, p, nown⟩ := h
  refine ⟨r.bs, by rw [put_eq, List.length_set, List.length_set]; exact r.len, fun j t g => ?_, fun j k x y b h1 h2 h3 h4 => ?_, s0_put r.s0 (.inr fun _ _ z => by cases z)⟩
  · rw [put_eq] at g
    rcases getSet g with ⟨rfl, rfl⟩ | ⟨z, g⟩
    · have hi : i < σ.length := by
        obtain ⟨hi, _⟩ := List.getElem?_eq_some_iff.mp g
        rw [List.length_set, r.len] at hi; exact hi
      rw [List.getElem?_set_self hi]
      exact ⟨a, rfl, n, n0, p⟩
    · rw [List.getElem?_set_ne z]; exact r.sl j t g
  · rw [put_eq] at h1 h2
    have hs : ∀ {j : Nat} {x : D} {b : Addr}, i ≠ j → (σ.set i (some (V.ref a)))[j]? = some (some (V.ref b)) → Γ[j]? = some (.own x) → b ≠ a := fun {j x b} z h g e => by
      rw [List.getElem?_set_ne z, e] at h
      exact nown j x g h
    have self : ∀ {b : Addr}, (Γ.set i (.own d))[i]? = some (.own d) → (σ.set i (some (V.ref a)))[i]? = some (some (V.ref b)) → b = a := fun {b} g h => by
      have hi : i < σ.length := by
        obtain ⟨hi, _⟩ := List.getElem?_eq_some_iff.mp g
        rw [List.length_set, r.len] at hi; exact hi
      rw [List.getElem?_set_self hi] at h
      cases h; rfl
    rcases getSet h1 with ⟨rfl, z⟩ | ⟨z1, g1⟩
    · rcases getSet h2 with ⟨e, _⟩ | ⟨z2, g2⟩
      · exact e
      · cases z
        exact absurd (self h1 h3) (hs z2 h4 g2)
    · rcases getSet h2 with ⟨rfl, z⟩ | ⟨z2, g2⟩
      · cases z
        exact absurd (self h2 h4) (hs z1 h3 g1)
      · rw [List.getElem?_set_ne z1] at h3
        rw [List.getElem?_set_ne z2] at h4
        exact r.ow j k x y b g1 g2 h3 h4
end

theorem XW.up {K : PySem.W.Frag} {cn : Cn} {C : Ct} {F F' : Hp} {W : WX} {x : Xc} {Γ : Env} (s : Same F F') (h : XW K cn C F W x Γ) : XW K cn C F' W x Γ := fun cls od σ' F2 H' s2 r q => h cls od σ' F2 H' (s.trans s2) r q
/-! ### judgements -/
section
variable (X : Cx) (cn : Cn) (W : WX)
abbrev EEnd (K : PySem.W.Frag) (cn : Cn) (C : Ct) (σ : St) (F : Hp) (Q : VK) : D × Env → Prop := fun p => ∀ v F' H', Same F F' → RelS K cn C p.2 σ F' H' → Rep K cn F' v p.1 → Q v H'
abbrev NEnd (K : PySem.W.Frag) (cn : Cn) (C : Ct) (σ : St) (F : Hp) (Q : VK) : D × Env → Prop := fun p => ∀ v F' H', Same F F' → RelS K cn C p.2 σ F' H' → NewR K cn C p.2 σ F' H' v p.1 → Q v H'
abbrev QEnd (K : PySem.W.Frag) (cn : Cn) (C : Ct) (σ : St) (F : Hp) (Q : VK) : PV × Env → Prop := fun p => ∀ v F' H', Same F F' → RelS K cn C p.2 σ F' H' → PVR K cn σ F' v p.1 → Q v H'
abbrev TEnd (K : PySem.W.Frag) (cn : Cn) (C : Ct) (σ : St) (F : Hp) (Q : Bool → Hp → Prop) : Bool × Env → Prop := fun p => ∀ F' H', Same F F' → RelS K cn C p.2 σ F' H' → Q p.1 H'
abbrev AEnd (K : PySem.W.Frag) (cn : Cn) (C : Ct) (σ : St) (F : Hp) (Q : List V → Hp → Prop) : List PV × Env → Prop := fun p => ∀ vs F' H', Same F F' → RelS K cn C p.2 σ F' H' → PVRs K cn σ F' vs p.1 → Q vs H'
abbrev LEnd (K : PySem.W.Frag) (cn : Cn) (C : Ct) (σ : St) (F : Hp) (Q : List V → Hp → Prop) : List D × Env → Prop := fun p => ∀ vs F' H', Same F F' → RelS K cn C p.2 σ F' H' → Reps K cn F' vs p.1 → Q vs H'
def DE (K : PySem.W.Frag) (t : TE) (ev : EV) : Prop := ∀ C Γ σ F H Q, RelS K cn C Γ σ F H → Post (ev Γ) (EEnd K cn C σ F Q) (XW K cn C F W) → t σ H Q
def DN (K : PySem.W.Frag) (t : TE) (ev : EV) : Prop := ∀ C Γ σ F H Q, RelS K cn C Γ σ F H → Post (ev Γ) (NEnd K cn C σ F Q) (XW K cn C F W) → t σ H Q
def DQ (K : PySem.W.Frag) (t : TE) (ev : QV) : Prop := ∀ C Γ σ F H Q, RelS K cn C Γ σ F H → Post (ev Γ) (QEnd K cn C σ F Q) (XW K cn C F W) → t σ H Q
def DT (K : PySem.W.Frag) (t : TT) (ev : TV) : Prop := ∀ C Γ σ F H Q, RelS K cn C Γ σ F H → Post (ev Γ) (TEnd K cn C σ F Q) (XW K cn C F W) → t σ H Q
def DA (K : PySem.W.Frag) (t : TA) (ev : AV) : Prop := ∀ C Γ σ F H Q, RelS K cn C Γ σ F H → Post (ev Γ) (AEnd K cn C σ F Q) (XW K cn C F W) → t σ H Q
def DL (K : PySem.W.Frag) (t : TA) (ev : LV) : Prop := ∀ C Γ σ F H Q, RelS K cn C Γ σ F H → Post (ev Γ) (LEnd K cn C σ F Q) (XW K cn C F W) → t σ H Q
def JE (e : Expr) (ev : EV) : Prop := ∃ t, PE X e t ∧ DE cn W X.K t ev
def JN (e : Expr) (ev : EV) : Prop := ∃ t, PE X e t ∧ DN cn W X.K t ev
def JQ (e : Expr) (ev : QV) : Prop := ∃ t, PE X e t ∧ DQ cn W X.K t ev
def JT (e : Expr) (ev : TV) : Prop := ∃ t, PT X e t ∧ DT cn W X.K t ev
def JW (e : Expr) (ev : TV) : Prop := ∃ t, PW X e t ∧ DT cn W X.K t ev
def JA (es : List Expr) (ev : AV) : Prop := ∃ t, PA X es t ∧ DA cn W X.K t ev
def JL (es : List Expr) (ev : LV) : Prop := ∃ t, PA X es t ∧ DL cn W X.K t ev
end

section
variable {X : Cx} {cn : Cn} {W : WX} {a b c e : Expr} {es : List Expr} {pos : Pos} {ea eb : EV} {qa qb qc : QV} {ta tb : TV} {av : AV} {lv : LV}

theorem je_n (i : Nat) {x : Str} {pos : Pos} (hN : X.N[i]? = some x := by rfl) (hv : Vis X.env.scope x := by first | exact Or.inl rfl | exact Or.inr (Or.inl rfl) | exact Or.inr (Or.inr rfl)) (hd : (x == ("__debug__" : Str)) = false := by decide)
    (hcd : (x == ("__classdict__" : Str)) = false := by decide) : JE X cn W (.Name x pos) (eN i) := ⟨_, pe_var hN hv hd hcd, fun C Γ σ F H Q r h => by
  unfold eN at h
  cases q : frzS (get Γ i) with
  | none => rw [q] at h; exact h.elim
  | some p =>
    obtain ⟨d, s⟩ := p
    rw [q] at h
    obtain ⟨v, F', e1, sf, rv, r'⟩ := r.frz q
    exact ⟨v, e1, h v F' H sf r' rv⟩⟩
theorem jq_n (i : Nat) {x : Str} {pos : Pos} (hN : X.N[i]? = some x := by rfl) (hv : Vis X.env.scope x := by first | exact Or.inl rfl | exact Or.inr (Or.inl rfl) | exact Or.inr (Or.inr rfl)) (hd : (x == ("__debug__" : Str)) = false := by decide)
    (hcd : (x == ("__classdict__" : Str)) = false := by decide) : JQ X cn W (.Name x pos) (pN i) := ⟨_, pe_var hN hv hd hcd, fun C Γ σ F H Q r h => by
  unfold pN at h
  cases q : look (get Γ i) with
  | none => rw [q] at h; exact h.elim
  | some d =>
    rw [q] at h
    obtain ⟨v, e1, _⟩ := r.read q
    exact ⟨v, e1, h v F H (Same.refl _) r e1⟩⟩
theorem jq_e (h : JE X cn W e ea) : JQ X cn W e (pE ea) := by
  obtain ⟨t, p, q⟩ := h
  refine ⟨t, p, fun C Γ σ F H Q r h => q C Γ σ F H Q r (h.bind.mono (fun a h v F' H' s r' hv => h v F' H' s r' hv) fun _ _ h => h)⟩
theorem je_c {v : V} {d : D} {t : TE} (p : PE X e (tC v)) (h : ∀ F, Rep X.K cn F v d) : JE X cn W e (eC d) := ⟨_, p, fun C Γ σ F H Q r k => k v F H (Same.refl _) r (h F)⟩
theorem je_int {i : Int} {j pos} : JE X cn W (.Constant (.int i) j pos) (eC (.int i)) := ⟨_, pe_int, fun C Γ σ F H Q r k => k _ F H (Same.refl _) r (.int i)⟩
theorem je_bl {i : Bool} {j pos} : JE X cn W (.Constant (.bool i) j pos) (eC (.bl i)) := ⟨_, pe_bl, fun C Γ σ F H Q r k => k _ F H (Same.refl _) r (.bl i)⟩
theorem je_non {j pos} : JE X cn W (.Constant .none j pos) (eC .non) := ⟨_, pe_non, fun C Γ σ F H Q r k => k _ F H (Same.refl _) r .non⟩
theorem je_str {i : Str} {j pos} : JE X cn W (.Constant (.str i) j pos) (eC (.str i)) := ⟨_, pe_str, fun C Γ σ F H Q r k => k _ F H (Same.refl _) r (.str i)⟩
theorem je_of_jn (h : JN X cn W e ea) : JE X cn W e ea := by
  obtain ⟨t, p, q⟩ := h
  refine ⟨t, p, fun C Γ σ F H Q r h => q C Γ σ F H Q r (h.mono (fun a h v F' H' s0 r' hv => ?_) fun _ _ h => h)⟩
  obtain ⟨F2, s, rv, r2⟩ := hv.frz r'
  exact h v F2 H' (s0.trans s) r2 rv

/-! operations by values -/
/-- what an operation's reading asks is had from the data -/
def R1D (K : PySem.W.Frag) (cn : Cn) (r : V → Hp → VK → Prop) (f : D → Option D) : Prop := ∀ F H x dx d Q, Same F H → Shal K cn F H x dx → f dx = some d → (∀ z F' H', Ext F H F' H' → Rep K cn F' z d → Q z H') → r x H Q
def R2D (K : PySem.W.Frag) (cn : Cn) (r : R2) (f : D → D → Option D) : Prop := ∀ F H x y dx dy d Q, Same F H → Shal K cn F H x dx → Shal K cn F H y dy → f dx dy = some d → (∀ z F' H', Ext F H F' H' → Rep K cn F' z d → Q z H') → r x y H Q
def R2N (K : PySem.W.Frag) (cn : Cn) (r : R2) (f : D → D → Option D) : Prop := ∀ F H x y dx dy d Q, Same F H → Shal K cn F H x dx → Shal K cn F H y dy → f dx dy = some d → (∀ p vs ds, d = .lst ds → H p = none → Reps K cn F vs ds → Q (.ref p) (upd H p (.lst vs))) → r x y H Q
def R1N (K : PySem.W.Frag) (cn : Cn) (r : V → Hp → VK → Prop) (f : D → Option D) : Prop := ∀ F H x dx d Q, Same F H → Shal K cn F H x dx → f dx = some d → (∀ p vs ds, d = .lst ds → H p = none → Reps K cn F vs ds → Q (.ref p) (upd H p (.lst vs))) → r x H Q
theorem de_B {t1 t2 : TE} {r : R2} {f : D → D → Option D} (h : R2D X.K cn r f) (h1 : DQ cn W X.K t1 qa) (h2 : DQ cn W X.K t2 qb) : DE cn W X.K (tOp r t1 t2) (eB f qa qb) := fun C Γ σ F H Q R k => by
  refine h1 C Γ σ F H _ R (k.bind.mono (fun p k v F' H' s1 R1 hv => ?_) fun _ _ z => z)
  refine h2 C p.2 σ F' H' _ R1 (k.bind.mono (fun q k w F2 H2 s2 R2 hw => ?_) fun _ _ z => XW.up s1 z)
  cases e1 : rd q.2 p.1 with
  | none => simp only [e1] at k; exact k.elim
  | some d1 =>
    cases e2 : rd q.2 q.1 with
    | none => simp only [e1, e2] at k; exact k.elim
    | some d2 =>
      simp only [e1, e2] at k
      obtain ⟨z, e3, k⟩ := k.bind.of
      exact h F2 H2 v w d1 d2 z Q R2.bs.fh (R2.rd e1 (hv.mono s2)) (R2.rd e2 hw) e3 fun zv F3 H3 ex rz => k zv F3 H3 ((s1.trans s2).trans ex.f) (R2.ext ex) rz
theorem dn_B {t1 t2 : TE} {r : R2} {f : D → D → Option D} (h : R2N X.K cn r f) (hf : ∀ x y z, f x y = some z → ∃ l, z = .lst l) (h1 : DQ cn W X.K t1 qa) (h2 : DQ cn W X.K t2 qb) : DN cn W X.K (tOp r t1 t2) (eB f qa qb) := fun C Γ σ F H Q R k => by
  refine h1 C Γ σ F H _ R (k.bind.mono (fun p k v F' H' s1 R1 hv => ?_) fun _ _ z => z)
  refine h2 C p.2 σ F' H' _ R1 (k.bind.mono (fun q k w F2 H2 s2 R2 hw => ?_) fun _ _ z => XW.up s1 z)
  cases e1 : rd q.2 p.1 with
  | none => simp only [e1] at k; exact k.elim
  | some d1 =>
    cases e2 : rd q.2 q.1 with
    | none => simp only [e1, e2] at k; exact k.elim
    | some d2 =>
      simp only [e1, e2] at k
      obtain ⟨z, e3, k⟩ := k.bind.of
      refine h F2 H2 v w d1 d2 z Q R2.bs.fh (R2.rd e1 (hv.mono s2)) (R2.rd e2 hw) e3 fun a vs ds ez ha hr => ?_
      subst ez
      obtain ⟨r3, nw⟩ := NewR.laid R2 hr ha
      exact k (.ref a) F2 _ (s1.trans s2) r3 nw
theorem de_U {t1 : TE} {r : V → Hp → VK → Prop} {f : D → Option D} (h : R1D X.K cn r f) (h1 : DQ cn W X.K t1 qa) : DE cn W X.K (fun σ H Q => t1 σ H fun x H1 => r x H1 Q) (eU f qa) := fun C Γ σ F H Q R k => by
  refine h1 C Γ σ F H _ R (k.bind.mono (fun p k v F' H' s1 R1 hv => ?_) fun _ _ z => z)
  cases e1 : rd p.2 p.1 with
  | none => simp only [e1] at k; exact k.elim
  | some d1 =>
    simp only [e1] at k
    obtain ⟨z, e3, k⟩ := k.bind.of
    exact h F' H' v d1 z Q R1.bs.fh (R1.rd e1 hv) e3 fun zv F3 H3 ex rz => k zv F3 H3 (s1.trans ex.f) (R1.ext ex) rz
theorem dn_U {t1 : TE} {r : V → Hp → VK → Prop} {f : D → Option D} (h : R1N X.K cn r f) (h1 : DQ cn W X.K t1 qa) : DN cn W X.K (fun σ H Q => t1 σ H fun x H1 => r x H1 Q) (eU f qa) := fun C Γ σ F H Q R k => by
  refine h1 C Γ σ F H _ R (k.bind.mono (fun p k v F' H' s1 R1 hv => ?_) fun _ _ z => z)
  cases e1 : rd p.2 p.1 with
  | none => simp only [e1] at k; exact k.elim
  | some d1 =>
    simp only [e1] at k
    obtain ⟨z, e3, k⟩ := k.bind.of
    refine h F' H' v d1 z Q R1.bs.fh (R1.rd e1 hv) e3 fun a vs ds ez ha hr => ?_
    subst ez
    obtain ⟨r3, nw⟩ := NewR.laid R1 hr ha
    exact k (.ref a) F' _ s1 r3 nw
/-! arguments -/
theorem ja_nil : JA X cn W [] aNil := ⟨_, pa_nil, fun C Γ σ F H Q r k => k [] F H (Same.refl _) r True.intro⟩
theorem ja_cons (h1 : JQ X cn W e qa) (h2 : JA X cn W es av) (hs : starEach (e :: es) X.env = (false, eval e X.env) :: starEach es X.env := by rfl) : JA X cn W (e :: es) (aCons qa av) := by
  obtain ⟨t1, p1, d1⟩ := h1
  obtain ⟨t2, p2, d2⟩ := h2
  refine ⟨_, pa_cons p1 p2 hs, fun C Γ σ F H Q R k => ?_⟩
  refine d1 C Γ σ F H _ R (k.bind.mono (fun p k v F' H' s1 R1 hv => ?_) fun _ _ z => z)
  exact d2 C p.2 σ F' H' _ R1 (k.bind.mono (fun q k vs F2 H2 s2 R2 hw => k (v :: vs) F2 H2 (s1.trans s2) R2 ⟨hv.mono s2, hw⟩) fun _ _ z => XW.up s1 z)
theorem jl_nil : JL X cn W [] lNil := ⟨_, pa_nil, fun C Γ σ F H Q r k => k [] F H (Same.refl _) r .nil⟩
theorem jl_cons (h1 : JE X cn W e ea) (h2 : JL X cn W es lv) (hs : starEach (e :: es) X.env = (false, eval e X.env) :: starEach es X.env := by rfl) : JL X cn W (e :: es) (lCons ea lv) := by
  obtain ⟨t1, p1, d1⟩ := h1
  obtain ⟨t2, p2, d2⟩ := h2
  refine ⟨_, pa_cons p1 p2 hs, fun C Γ σ F H Q R k => ?_⟩
  refine d1 C Γ σ F H _ R (k.bind.mono (fun p k v F' H' s1 R1 hv => ?_) fun _ _ z => z)
  exact d2 C p.2 σ F' H' _ R1 (k.bind.mono (fun q k vs F2 H2 s2 R2 hw => k (v :: vs) F2 H2 (s1.trans s2) R2 (.cons (hv.mono s2) hw)) fun _ _ z => XW.up s1 z)
theorem rds_ok {C : Ct} {Γ : Env} {σ : St} {F H : Hp} (R : RelS X.K cn C Γ σ F H) : ∀ {ps : List PV} {vs : List V} {ds : List D}, rds Γ ps = some ds → PVRs X.K cn σ F vs ps → Paired (fun v d => Shal X.K cn F H v d) vs ds
  | [], [], ds, h, _ => by cases h; exact .nil
  | [], _ :: _, _, _, q => q.elim
  | _ :: _, [], _, _, q => q.elim
  | p :: ps, v :: vs, ds, h, q => by
    unfold rds at h
    cases e1 : rd Γ p with
    | none => simp only [e1] at h; cases h
    | some d =>
      cases e2 : rds Γ ps with
      | none => simp only [e1, e2] at h; cases h
      | some ds' =>
        simp only [e1, e2] at h
        cases h
        exact .cons (R.rd e1 q.1) (rds_ok R e2 q.2)
def RCD (K : PySem.W.Frag) (cn : Cn) (r : List V → Hp → VK → Prop) (f : List D → Option D) : Prop := ∀ F H vs ds d Q, Same F H → Paired (fun v d => Shal K cn F H v d) vs ds → f ds = some d → (∀ z F' H', Ext F H F' H' → Rep K cn F' z d → Q z H') → r vs H Q
def RCN (K : PySem.W.Frag) (cn : Cn) (r : List V → Hp → VK → Prop) (f : List D → Option D) : Prop := ∀ F H vs ds d Q, Same F H → Paired (fun v d => Shal K cn F H v d) vs ds → f ds = some d → (∀ p vs ds, d = .lst ds → H p = none → Reps K cn F vs ds → Q (.ref p) (upd H p (.lst vs))) → r vs H Q
theorem de_F {t : TA} {r : List V → Hp → VK → Prop} {f : List D → Option D} (h : RCD X.K cn r f) (h1 : DA cn W X.K t av) : DE cn W X.K (fun σ H Q => t σ H fun vs H1 => r vs H1 Q) (eF f av) := fun C Γ σ F H Q R k => by
  refine h1 C Γ σ F H _ R (k.bind.mono (fun p k v F' H' s1 R1 hv => ?_) fun _ _ z => z)
  cases e1 : rds p.2 p.1 with
  | none => simp only [e1] at k; exact k.elim
  | some d1 =>
    simp only [e1] at k
    obtain ⟨z, e3, k⟩ := k.bind.of
    exact h F' H' v d1 z Q R1.bs.fh (rds_ok R1 e1 hv) e3 fun zv F3 H3 ex rz => k zv F3 H3 (s1.trans ex.f) (R1.ext ex) rz
theorem dn_F {t : TA} {r : List V → Hp → VK → Prop} {f : List D → Option D} (h : RCN X.K cn r f) (h1 : DA cn W X.K t av) : DN cn W X.K (fun σ H Q => t σ H fun vs H1 => r vs H1 Q) (eF f av) := fun C Γ σ F H Q R k => by
  refine h1 C Γ σ F H _ R (k.bind.mono (fun p k v F' H' s1 R1 hv => ?_) fun _ _ z => z)
  cases e1 : rds p.2 p.1 with
  | none => simp only [e1] at k; exact k.elim
  | some d1 =>
    simp only [e1] at k
    obtain ⟨z, e3, k⟩ := k.bind.of
    refine h F' H' v d1 z Q R1.bs.fh (rds_ok R1 e1 hv) e3 fun a vs ds ez ha hr => ?_
    subst ez
    obtain ⟨r3, nw⟩ := NewR.laid R1 hr ha
    exact k (.ref a) F' _ s1 r3 nw
/-! the forms with syntax -/
theorem je_op {op : Operator} {r : R2} {f : D → D → Option D} (ho : OpR X (binaryOp op) r) (h : R2D X.K cn r f) (ha : JQ X cn W a qa) (hb : JQ X cn W b qb) : JE X cn W (.BinOp a op b pos) (eB f qa qb) := by
  obtain ⟨t1, p1, d1⟩ := ha
  obtain ⟨t2, p2, d2⟩ := hb
  exact ⟨_, pe_op ho p1 p2, de_B h d1 d2⟩
theorem jn_op {op : Operator} {r : R2} {f : D → D → Option D} (ho : OpR X (binaryOp op) r) (h : R2N X.K cn r f) (hf : ∀ x y z, f x y = some z → ∃ l, z = .lst l) (ha : JQ X cn W a qa) (hb : JQ X cn W b qb) : JN X cn W (.BinOp a op b pos) (eB f qa qb) := by
  obtain ⟨t1, p1, d1⟩ := ha
  obtain ⟨t2, p2, d2⟩ := hb
  exact ⟨_, pe_op ho p1 p2, dn_B h hf d1 d2⟩
theorem je_un {op : UnaryOp} {r : V → Hp → VK → Prop} {f : D → Option D} (ho : UnR X (unaryOp op) r) (h : R1D X.K cn r f) (ha : JQ X cn W a qa) : JE X cn W (.UnaryOp op a pos) (eU f qa) := by
  obtain ⟨t1, p1, d1⟩ := ha
  exact ⟨_, pe_un ho p1, de_U (r := r) h d1⟩
theorem je_cmp {op : CmpOp} {r : R2} {f : D → D → Option D} (ho : OpR X (compareOp op) r) (h : R2D X.K cn r f) (ha : JQ X cn W a qa) (hb : JQ X cn W b qb) (hm : behindInMarks op b = false) : JE X cn W (.Compare a [op] [b] pos) (eB f qa qb) := by
  obtain ⟨t1, p1, d1⟩ := ha
  obtain ⟨t2, p2, d2⟩ := hb
  exact ⟨_, pe_cmpR ho p1 p2 hm, de_B h d1 d2⟩
/-- an expression that gives a bool, as a test -/
theorem dt_of {t : TE} (h : DE cn W X.K t ea) : DT cn W X.K (fun σ H Q => t σ H fun x H' => ∃ k, x = .bl k ∧ Q k H') (tE ea) := fun C Γ σ F H Q R k => by
  refine h C Γ σ F H _ R (k.bind.mono (fun p k v F' H' s1 R1 hv => ?_) fun _ _ z => z)
  obtain ⟨d, Γ'⟩ := p
  cases d with
  | bl b => cases hv; exact ⟨b, rfl, k F' H' s1 R1⟩
  | _ => exact k.elim
theorem jt_cmp {op : CmpOp} {r : R2} {f : D → D → Option D} (ho : OpR X (compareOp op) r) (h : R2D X.K cn r f) (ha : JQ X cn W a qa) (hb : JQ X cn W b qb) (hm : behindInMarks op b = false) : JT X cn W (.Compare a [op] [b] pos) (tE (eB f qa qb)) := by
  obtain ⟨t1, p1, d1⟩ := ha
  obtain ⟨t2, p2, d2⟩ := hb
  exact ⟨_, pt_cmpR ho p1 p2 hm, dt_of (de_B h d1 d2)⟩
theorem jt_e (h : JE X cn W e ea) (he : ∀ whole, isTrue e X.env whole = (do let v ← whole; standAt e.pos; holding [v] (truthy v)) := by intro _; rfl) : JT X cn W e (tE ea) := by
  obtain ⟨t, p, d⟩ := h
  exact ⟨_, pt_val p he, dt_of d⟩
theorem truth_ok {F H : Hp} {v : V} {d : D} {k : Bool} (s : Same F H) (h : Shal X.K cn F H v d) (e : truth d = some k) : TruV X.K v H k := by
  cases d with
  | non => cases h.non; cases e; rfl
  | bl b => cases h.bl; cases e; rfl
  | int i => cases h.int; cases e; rfl
  | str z =>
    cases h.str
    have e : (if z.length ≤ seqMax then some ((z.length : Int) != 0) else none) = some k := e
    split at e
    · rename_i hz; cases e; exact ⟨by rw [sizeLine_eq]; exact hz, rfl⟩
    · cases e
  | lst ds =>
    obtain ⟨a, vs, rfl, q, r⟩ := h
    cases e
    refine .inl ⟨vs, SqL.of q, ?_⟩
    have := r.1
    cases vs <;> cases ds <;> first | rfl | (simp at this)
  | tup ds =>
    obtain ⟨a, vs, rfl, q, r⟩ := h.tup s
    cases e
    refine .inr (.inl ⟨vs, q, ?_⟩)
    have := r.1
    cases vs <;> cases ds <;> first | rfl | (simp at this)
  | dct ds => cases e
  | ins c fs => cases e
  | scr ns => cases e
theorem jt_tru (h : JQ X cn W e qa) (he : ∀ whole, isTrue e X.env whole = (do let v ← whole; standAt e.pos; holding [v] (truthy v)) := by intro _; rfl) : JT X cn W e (tTru qa) := by
  obtain ⟨t, p, d⟩ := h
  refine ⟨_, pt_truth p he, fun C Γ σ F H Q R k => ?_⟩
  refine d C Γ σ F H _ R (k.bind.mono (fun p k v F' H' s1 R1 hv => ?_) fun _ _ z => z)
  cases e1 : rd p.2 p.1 with
  | none => simp only [e1] at k; exact k.elim
  | some d1 =>
    simp only [e1] at k
    obtain ⟨z, e3, k⟩ := k.bind.of
    exact ⟨z, truth_ok R1.bs.fh (R1.rd e1 hv) e3, k F' H' s1 R1⟩
theorem jt_w (h : JW X cn W e ta) : JT X cn W e ta := by
  obtain ⟨t, p, d⟩ := h
  exact ⟨t, p.pt, d⟩
variable {rest : List Expr}
theorem jw_and1 (h : JT X cn W a ta) : JW X cn W (.BoolOp .And [a] pos) ta := by
  obtain ⟨t, p, d⟩ := h
  exact ⟨t, pw_and1 p, d⟩
theorem jw_or1 (h : JT X cn W a ta) : JW X cn W (.BoolOp .Or [a] pos) ta := by
  obtain ⟨t, p, d⟩ := h
  exact ⟨t, pw_or1 p, d⟩
theorem jw_and (h : JT X cn W a ta) (h2 : JW X cn W (.BoolOp .And (b :: rest) pos) tb) : JW X cn W (.BoolOp .And (a :: b :: rest) pos) (eAnd ta tb) := by
  obtain ⟨t, p, d⟩ := h
  obtain ⟨t2, p2, d2⟩ := h2
  refine ⟨_, pw_and p p2, fun C Γ σ F H Q R k => ?_⟩
  refine d C Γ σ F H _ R (k.bind.mono (fun p k F' H' s1 R1 => ?_) fun _ _ z => z)
  obtain ⟨c, Γ1⟩ := p
  cases c with
  | true =>
    rw [if_pos rfl]
    exact d2 C Γ1 σ F' H' _ R1 (Post.mono (P := TEnd X.K cn C σ F Q) (W := XW X.K cn C F W) (by simpa using k) (fun p k F2 H2 s2 R2 => k F2 H2 (s1.trans s2) R2) fun _ _ z => XW.up s1 z)
  | false =>
    rw [if_neg Bool.false_ne_true]
    exact (show ∀ F' H', Same F F' → RelS X.K cn C Γ1 σ F' H' → Q false H' from k) F' H' s1 R1
theorem jw_or (h : JT X cn W a ta) (h2 : JW X cn W (.BoolOp .Or (b :: rest) pos) tb) : JW X cn W (.BoolOp .Or (a :: b :: rest) pos) (eOr ta tb) := by
  obtain ⟨t, p, d⟩ := h
  obtain ⟨t2, p2, d2⟩ := h2
  refine ⟨_, pw_or p p2, fun C Γ σ F H Q R k => ?_⟩
  refine d C Γ σ F H _ R (k.bind.mono (fun p k F' H' s1 R1 => ?_) fun _ _ z => z)
  obtain ⟨c, Γ1⟩ := p
  cases c with
  | false =>
    rw [if_neg Bool.false_ne_true]
    exact d2 C Γ1 σ F' H' _ R1 (Post.mono (P := TEnd X.K cn C σ F Q) (W := XW X.K cn C F W) (by simpa using k) (fun p k F2 H2 s2 R2 => k F2 H2 (s1.trans s2) R2) fun _ _ z => XW.up s1 z)
  | true =>
    rw [if_pos rfl]
    exact (show ∀ F' H', Same F F' → RelS X.K cn C Γ1 σ F' H' → Q true H' from k) F' H' s1 R1
theorem jt_not (h : JT X cn W a ta) : JT X cn W (.UnaryOp .Not a pos) (eNot ta) := by
  obtain ⟨t, p, d⟩ := h
  refine ⟨_, pt_not p, fun C Γ σ F H Q R k => ?_⟩
  exact d C Γ σ F H _ R (k.bind.mono (fun p k F' H' s1 R1 => k F' H' s1 R1) fun _ _ z => z)
/-! displays -/
theorem je_tup {x1} (h : JL X cn W es lv) : JE X cn W (.Tuple es x1 pos) (eTup lv) := by
  obtain ⟨t, p, d⟩ := h
  refine ⟨_, pe_tup p, fun C Γ σ F H Q R k => ?_⟩
  refine d C Γ σ F H _ R (k.bind.mono (fun p k vs F' H' s1 R1 hv => ?_) fun _ _ z => z)
  obtain ⟨ds, Γ1⟩ := p
  dsimp only at k
  split at k
  · rename_i hz
    refine ⟨by rw [hv.1, sizeLine_eq]; exact hz, fun p hp => ?_⟩
    have ex := Ext.new (o := HO.tup vs) R1.bs.fh hp
    exact k _ _ _ (s1.trans ex.f) (R1.ext ex) (.tup (SqT.of upd_same) hv.1 (hv.mono ex.f).2)
  · exact k.elim
theorem jn_lst (h : JL X cn W es lv) : JN X cn W (.List es pos) (nLst lv) := by
  obtain ⟨t, p, d⟩ := h
  refine ⟨_, pe_lst p, fun C Γ σ F H Q R k => ?_⟩
  refine d C Γ σ F H _ R (k.bind.mono (fun p k vs F' H' s1 R1 hv => ?_) fun _ _ z => z)
  obtain ⟨ds, Γ1⟩ := p
  dsimp only at k
  split at k
  · rename_i hz
    refine ⟨by rw [hv.1, sizeLine_eq]; exact hz, fun p hp => ?_⟩
    obtain ⟨r3, nw⟩ := NewR.laid R1 hv hp
    exact k _ _ _ s1 r3 nw
  · exact k.elim
theorem je_if {t : Expr} (ht : JT X cn W t ta) (ha : JE X cn W a ea) (hb : JE X cn W b eb) : JE X cn W (.IfExp t a b pos) (eIf ta ea eb) := by
  obtain ⟨t0, p0, d0⟩ := ht
  obtain ⟨t1, p1, d1⟩ := ha
  obtain ⟨t2, p2, d2⟩ := hb
  refine ⟨_, pe_ifExp p0 p1 p2, fun C Γ σ F H Q R k => ?_⟩
  refine d0 C Γ σ F H _ R (k.bind.mono (fun p k F' H' s1 R1 => ?_) fun _ _ z => z)
  obtain ⟨c, Γ1⟩ := p
  cases c with
  | true =>
    rw [if_pos rfl]
    refine d1 C Γ1 σ F' H' _ R1 (Post.mono (P := EEnd X.K cn C σ F Q) (W := XW X.K cn C F W) (by simpa using k) (fun p k v F2 H2 s2 R2 hv => k v F2 H2 (s1.trans s2) R2 hv) fun _ _ z => XW.up s1 z)
  | false =>
    rw [if_neg Bool.false_ne_true]
    refine d2 C Γ1 σ F' H' _ R1 (Post.mono (P := EEnd X.K cn C σ F Q) (W := XW X.K cn C F W) (by simpa using k) (fun p k v F2 H2 s2 R2 hv => k v F2 H2 (s1.trans s2) R2 hv) fun _ _ z => XW.up s1 z)
theorem lookP {F : Hp} {f : Nat} {z : D} (hi : ∀ g, cn.fa g = cn.fa f → g = f) : ∀ {fvs : List (Str × V)} {fs : List (Nat × D)}, fvs.map (·.1) = fs.map (fun p => cn.fa p.1) → (∀ (i : Nat) v d, fvs[i]? = some v → fs[i]? = some d → Rep X.K cn F v.2 d.2) → fs.lookup f = some z → ∃ v, fvs.lookup (cn.fa f) = some v ∧ Rep X.K cn F v z
  | [], [], _, _, e => by cases e
  | [], _ :: _, hk, _, _ => by simp at hk
  | _ :: _, [], hk, _, _ => by simp at hk
  | (g', x) :: xs, (g, y) :: ys, hk, r, e => by
    simp only [List.map_cons, List.cons.injEq] at hk
    obtain ⟨hk1, hk2⟩ := hk
    have hk1 : g' = cn.fa g := hk1
    subst hk1
    simp only [List.lookup] at e ⊢
    by_cases q : f = g
    · subst q
      simp only [beq_self_eq_true] at e ⊢
      cases e
      exact ⟨x, rfl, r 0 _ _ rfl rfl⟩
    · have q1 : (f == g) = false := beq_eq_false_iff_ne.mpr q
      have q2 : (cn.fa f == cn.fa g) = false := beq_eq_false_iff_ne.mpr fun z => q (hi g z.symm).symm
      simp only [q1] at e
      simp only [q2]
      exact lookP hi hk2 (fun i v d a b => r (i + 1) v d (by simpa using a) (by simpa using b)) e
theorem je_fld {c f : Nat} {fs : Str} (h : JE X cn W e ea) (hn : cn.fa f = fs) (hi : ∀ g, cn.fa g = cn.fa f → g = f) (hc : Cls X.K (cn.ca c)) (hna : NoAttr X.K (cn.ca c) fs) (hb : attributeBase e fs X.env (eval e X.env) = eval e X.env := by rfl) : JE X cn W (.Attribute e fs pos) (eFld c f ea) := by
  obtain ⟨t, p, d⟩ := h
  refine ⟨_, pe_fld p hb, fun C Γ σ F H Q R k => ?_⟩
  refine d C Γ σ F H _ R (k.bind.mono (fun p k v F' H' s1 R1 hv => ?_) fun _ _ z => z)
  obtain ⟨d, Γ1⟩ := p
  dsimp only at k
  obtain ⟨z, e3, kk⟩ := k.bind.of
  cases d with
  | ins c2 fs =>
    have e4 : (if c2 = c then fs.lookup f else none) = some z := e3
    by_cases ec : c2 = c
    · rw [if_pos ec] at e4
      subst ec
      cases hv with
      | @ins a dx fvs _ _ h hk r =>
        obtain ⟨v, l, rv⟩ := lookP hi hk r e4
        rw [hn] at l
        exact ⟨a, _, dx, fvs, v, rfl, R1.bs.fh _ _ h, hc, hna, l, kk v F' H' s1 R1 rv⟩
    · rw [if_neg ec] at e4; cases e4
  | _ => cases e3
end
end Ed

set_option autoImplicit true
set_option Elab.async false
set_option linter.all false
set_option maxRecDepth 100000
/-! statements, loops -/
namespace Ed
open PySem L2

section
variable (K : PySem.W.Frag) (cn : Cn) (W : WX)
def DVR (C : Ct) (F H : Hp) (v : V) : DV → Prop
  | .fz d => Rep K cn F v d
  | .fr d => ∃ a, v = .ref a ∧ F a = none ∧ C.H0 a = none ∧ OwnR K cn F H a d
def SEnd (C : Ct) (F : Hp) (Dn : Ends) : Ctl × Env → Prop
  | (.nx, Γ) => ∀ σ' F' H', Same F F' → RelS K cn C Γ σ' F' H' → Dn.nx σ' H'
  | (.brk, Γ) => ∀ σ' F' H', Same F F' → RelS K cn C Γ σ' F' H' → Dn.bk σ' H'
  | (.cnt, Γ) => ∀ σ' F' H', Same F F' → RelS K cn C Γ σ' F' H' → Dn.ct σ' H'
  | (.ret o, Γ) => ∀ v F' H', Same F F' → Bas C F' H' →  DVR K cn C F' H' v o → Dn.rt v H'
def DS (t : TS) (sv : SV) : Prop := ∀ C Γ σ F H Dn, RelS K cn C Γ σ F H → Post (sv Γ) (SEnd K cn C F Dn) (XW K cn C F W) → t Dn σ H
def ItD (C : Ct) (F : Hp) (J : It) (ds : List D) : Prop := ∀ (i : Nat) F2 H2, Same F F2 → Bas C F2 H2 →
  (∀ d, ds[i]? = some d → J.go i H2 ∧ ∀ x H3, J.yld i H2 x H3 → ∃ F3, Ext F2 H2 F3 H3 ∧ Rep K cn F3 x d) ∧ (ds.length ≤ i → J.stop i H2)
def DI (wi : TI) (lv : LV) : Prop := ∀ C Γ σ F H (R : It → Hp → Prop), RelS K cn C Γ σ F H →
  Post (lv Γ) (fun p => ∀ J F' H', Same F F' → RelS K cn C p.2 σ F' H' → ItD K cn C F' J p.1 → R J H') (XW K cn C F W) → wi σ H R
def DG (g : TG) (gv : GV) : Prop := ∀ C Γ σ F H v d Γ' N, RelS K cn C Γ σ F H → Rep K cn F v d → gv d Γ = some Γ' → (∀ σ' F' H', Same F F' → RelS K cn C Γ' σ' F' H' → N σ' H') → g v σ H N
def DGs (g : TGs) (gv : List GV) : Prop := ∀ C Γ σ F H vs ds Γ' N, RelS K cn C Γ σ F H → Reps K cn F vs ds → gs gv ds Γ = some Γ' → (∀ σ' F' H', Same F F' → RelS K cn C Γ' σ' F' H' → N σ' H') → g vs σ H N
end
section
variable (X : Cx) (cn : Cn) (W : WX)
def JS (st : Stmt) (sv : SV) : Prop := ∃ t, PS X st t ∧ DS X.K cn W t sv
def JSs (st : List Stmt) (sv : SV) : Prop := ∃ t, PSs X st t ∧ DS X.K cn W t sv
def JI (tg it : Expr) (lv : LV) : Prop := ∃ wi, PI X tg it wi ∧ DI X.K cn W wi lv
def JG (tg : Expr) (gv : GV) : Prop := ∃ g, PG X tg g ∧ DG X.K cn g gv
def JGs (tgs : List Expr) (gv : List GV) : Prop := ∃ g, PGs X tgs g ∧ DGs X.K cn g gv
end

section
variable {X : Cx} {cn : Cn} {W : WX} {a b c e : Expr} {es : List Expr} {pos : Pos} {ea eb : EV} {qa qb qc : QV} {ta tb : TV} {av : AV} {lv : LV} {st : Stmt} {rest : List Stmt} {sa sb : SV}
theorem SEnd.mono {C : Ct} {F F2 : Hp} {Dn Dn' : Ends} (s : Same F F2) (h1 : ∀ σ H, Dn.nx σ H → Dn'.nx σ H) (h2 : ∀ v H, Dn.rt v H → Dn'.rt v H) (h3 : ∀ σ H, Dn.bk σ H → Dn'.bk σ H) (h4 : ∀ σ H, Dn.ct σ H → Dn'.ct σ H) :
    ∀ p, SEnd X.K cn C F Dn p → SEnd X.K cn C F2 Dn' p
  | (.nx, Γ), h => fun σ' F' H' s2 r => h1 _ _ (h σ' F' H' (s.trans s2) r)
  | (.brk, Γ), h => fun σ' F' H' s2 r => h3 _ _ (h σ' F' H' (s.trans s2) r)
  | (.cnt, Γ), h => fun σ' F' H' s2 r => h4 _ _ (h σ' F' H' (s.trans s2) r)
  | (.ret o, Γ), h => fun v F' H' s2 b r => h2 _ _ (h v F' H' (s.trans s2) b r)
theorem js_pass : JS X cn W (.Pass pos) sNext := ⟨_, ps_pass, fun C Γ σ F H Dn R k => k σ F H (Same.refl _) R⟩
theorem js_brk : JS X cn W (.Break pos) sBrk := ⟨_, ps_break, fun C Γ σ F H Dn R k => k σ F H (Same.refl _) R⟩
theorem js_cnt : JS X cn W (.Continue pos) sCnt := ⟨_, ps_continue, fun C Γ σ F H Dn R k => k σ F H (Same.refl _) R⟩
theorem js_doc {x j pos pos'} : JS X cn W (.Expr (.Constant (.str x) j pos) pos') sNext := ⟨_, ps_doc, fun C Γ σ F H Dn R k => k σ F H (Same.refl _) R⟩
theorem jss_nil : JSs X cn W [] sNext := ⟨_, pss_nil, fun C Γ σ F H Dn R k => k σ F H (Same.refl _) R⟩
theorem jss_one (h : JS X cn W st sa) : JSs X cn W [st] sa := by
  obtain ⟨t, p, d⟩ := h
  exact ⟨t, pss_one p, d⟩
theorem jss_cons (h : JS X cn W st sa) (h2 : JSs X cn W rest sb) : JSs X cn W (st :: rest) (sSeq sa sb) := by
  obtain ⟨t, p, d⟩ := h
  obtain ⟨t2, p2, d2⟩ := h2
  refine ⟨_, pss_cons p p2, fun C Γ σ F H Dn R k => ?_⟩
  refine d C Γ σ F H { Dn with nx := t2 Dn } R (k.bind.mono (fun p k => ?_) fun _ _ z => z)
  obtain ⟨c, Γ1⟩ := p
  cases c with
  | nx => exact fun σ' F' H' s r => d2 C Γ1 σ' F' H' Dn r (Post.mono (P := SEnd X.K cn C F Dn) (W := XW X.K cn C F W) k (SEnd.mono s (fun _ _ z => z) (fun _ _ z => z) (fun _ _ z => z) fun _ _ z => z) fun _ _ z => XW.up s z)
  | brk => exact k
  | cnt => exact k
  | ret o => exact k
theorem js_set {i : Nat} {x : Str} {pos' : Pos} (hN : X.N.Nodup) (hi : X.N[i]? = some x) (hx : Loc X.env.scope x) (he : JE X cn W e ea) (hs : swapsWith e (some (.Name x pos')) pos.line X.env = pure false := by rfl) (hf : X.fn x = true ∨ X.env.scope.names.lookup x = some .local := by first | exact .inl rfl | exact .inr rfl | assumption) :
    JS X cn W (.Assign [.Name x pos'] e pos) (sSet i ea) := by
  obtain ⟨t, p, d⟩ := he
  refine ⟨_, ps_set hN hi hx p hs hf, fun C Γ σ F H Dn R k => ?_⟩
  exact d C Γ σ F H _ R (k.bind.mono (fun p k v F' H' s r rv => k _ F' H' s (r.setV rv)) fun _ _ z => z)
theorem js_own {i : Nat} {x : Str} {pos' : Pos} (hN : X.N.Nodup) (hi : X.N[i]? = some x) (hx : Loc X.env.scope x) (he : JN X cn W e ea) (hs : swapsWith e (some (.Name x pos')) pos.line X.env = pure false := by rfl) (hf : X.fn x = true ∨ X.env.scope.names.lookup x = some .local := by first | exact .inl rfl | exact .inr rfl | assumption) :
    JS X cn W (.Assign [.Name x pos'] e pos) (sOwn i ea) := by
  obtain ⟨t, p, d⟩ := he
  refine ⟨_, ps_set hN hi hx p hs hf, fun C Γ σ F H Dn R k => ?_⟩
  exact d C Γ σ F H _ R (k.bind.mono (fun p k v F' H' s r rv => k _ F' H' s (r.setO rv)) fun _ _ z => z)
theorem js_drop (he : JE X cn W e ea) (hs : swapsWith e none pos.line X.env = pure false := by rfl) : JS X cn W (.Expr e pos) (sDrop ea) := by
  obtain ⟨t, p, d⟩ := he
  refine ⟨_, ps_expr p hs, fun C Γ σ F H Dn R k => ?_⟩
  exact d C Γ σ F H _ R (k.bind.mono (fun p k v F' H' s r rv => k _ F' H' s r) fun _ _ z => z)
theorem js_ret (he : JE X cn W e ea) : JS X cn W (.Return (some e) pos) (sRet ea) := by
  obtain ⟨t, p, d⟩ := he
  refine ⟨_, ps_ret p, fun C Γ σ F H Dn R k => ?_⟩
  exact d C Γ σ F H _ R (k.bind.mono (fun p k v F' H' s r rv => k v F' H' s r.bs rv) fun _ _ z => z)
theorem js_retN : JS X cn W (.Return none pos) sRetN := ⟨_, ps_retN, fun C Γ σ F H Dn R k => k .non F H (Same.refl _) R.bs .non⟩
theorem js_retO (he : JN X cn W e ea) : JS X cn W (.Return (some e) pos) (sRetO ea) := by
  obtain ⟨t, p, d⟩ := he
  refine ⟨_, ps_ret p, fun C Γ σ F H Dn R k => ?_⟩
  exact d C Γ σ F H _ R (k.bind.mono (fun p k v F' H' s r rv => k v F' H' s r.bs (let ⟨a, q1, q2, q3, q4, _⟩ := rv; ⟨a, q1, q2, q3, q4⟩)) fun _ _ z => z)
theorem js_retX (i : Nat) {x : Str} {px : Pos} (hN : X.N[i]? = some x := by rfl) (hv : Vis X.env.scope x := by first | exact Or.inl rfl | exact Or.inr (Or.inl rfl) | exact Or.inr (Or.inr rfl)) (hd : (x == ("__debug__" : Str)) = false := by decide)
    (hcd : (x == ("__classdict__" : Str)) = false := by decide) : JS X cn W (.Return (some (.Name x px)) pos) (sRetX i) := by
  refine ⟨_, ps_ret (pe_var hN hv hd hcd), fun C Γ σ F H Dn R k => ?_⟩
  unfold sRetX at k
  cases q : get Γ i with
  | own d =>
    rw [q] at k
    obtain ⟨a, e1, n, n0, r1⟩ := R.at q (fun z => by cases z)
    exact ⟨_, join_some e1, k _ F H (Same.refl _) R.bs ⟨a, rfl, n, n0, r1⟩⟩
  | val d =>
    rw [q] at k
    obtain ⟨v, e1, rv⟩ := R.at q (fun z => by cases z)
    exact ⟨_, join_some e1, k v F H (Same.refl _) R.bs rv⟩
  | _ => rw [q] at k; exact k.elim
theorem js_if {t : Expr} {s1 s2 : List Stmt} (ht : JT X cn W t ta) (ha : JSs X cn W s1 sa) (hb : JSs X cn W s2 sb) : JS X cn W (.If t s1 s2 pos) (sIf ta sa sb) := by
  obtain ⟨t0, p0, d0⟩ := ht
  obtain ⟨t1, p1, d1⟩ := ha
  obtain ⟨t2, p2, d2⟩ := hb
  refine ⟨_, ps_if p0 p1 p2, fun C Γ σ F H Dn R k => ?_⟩
  refine d0 C Γ σ F H _ R (k.bind.mono (fun p k F' H' s1 R1 => ?_) fun _ _ z => z)
  obtain ⟨c, Γ1⟩ := p
  cases c with
  | true =>
    rw [if_pos rfl]
    exact d1 C Γ1 σ F' H' _ R1 (Post.mono (P := SEnd X.K cn C F Dn) (W := XW X.K cn C F W) (by simpa using k) (SEnd.mono s1 (fun _ _ z => z) (fun _ _ z => z) (fun _ _ z => z) fun _ _ z => z) fun _ _ z => XW.up s1 z)
  | false =>
    rw [if_neg Bool.false_ne_true]
    exact d2 C Γ1 σ F' H' _ R1 (Post.mono (P := SEnd X.K cn C F Dn) (W := XW X.K cn C F W) (by simpa using k) (SEnd.mono s1 (fun _ _ z => z) (fun _ _ z => z) (fun _ _ z => z) fun _ _ z => z) fun _ _ z => XW.up s1 z)
/-! an owned list changed -/
theorem RelS.mut {C : Ct} {Γ : Env} {σ : St} {F H : Hp} (R : RelS X.K cn C Γ σ F H) {i : Nat} {d d' : D} {a : Addr} {o : HO} (g : get Γ i = .own d) (e : σ[i]? = some (some (V.ref a))) (ho : OwnR X.K cn F (upd H a o) a d') :
    RelS X.K cn C (put Γ i (.own d')) σ F (upd H a o) := by
  have gi := get_some g (fun z => by cases z)
  obtain ⟨b, e1, n, n0, r1⟩ := R.at g (fun z => by cases z)
  have e2 := join_some e1
  rw [e] at e2
  cases e2
  refine ⟨⟨same_out R.bs.fh n, R.bs.f0, fun b o' h1 h2 => ?_, R.bs.nw, fun b hb => ⟨(R.bs.si b hb).1, ?_⟩, R.bs.b0⟩, by rw [put_eq, List.length_set]; exact R.len, fun j t h => ?_, fun j k x y b h1 h2 h3 h4 => ?_, s0_put R.s0 (.inr fun _ _ z => by cases z)⟩
  · have hb : b ≠ a := fun z => by subst z; rw [n0] at h1; cases h1
    rw [upd_ne hb]; exact R.bs.h0 b o' h1 h2
  · obtain ⟨o2, h2⟩ := (R.bs.si b hb).2
    by_cases z : b = a
    · subst z; exact ⟨_, upd_same⟩
    · exact ⟨o2, by rw [upd_ne z]; exact h2⟩
  · rw [put_eq] at h
    rcases getSet h with ⟨rfl, rfl⟩ | ⟨z, h⟩
    · exact ⟨a, e1, n, n0, ho⟩
    · have w := R.sl j t h
      cases t with
      | emp => trivial
      | val x => exact w
      | own x =>
        obtain ⟨b, q1, m, m0, r2⟩ := w
        have hb : b ≠ a := fun e3 => z (R.ow i j _ _ a gi h e (by rw [← e3]; exact join_some q1))
        refine ⟨b, q1, m, m0, ?_⟩
        cases x with
        | lst ds => obtain ⟨vs, h, p⟩ := r2; exact ⟨vs, by rw [upd_ne hb]; exact h, p⟩
        | dct ds => obtain ⟨vs, h, p⟩ := r2; exact ⟨vs, by rw [upd_ne hb]; exact h, p⟩
        | _ => exact r2.elim
      | bor x => exact w
      | slf c fs =>
        obtain ⟨b, dx, fvs, q1, q2, m, h5, r2⟩ := w
        have hb : b ≠ a := fun e3 => by
          subst e3
          obtain ⟨c', dx', fs', q0⟩ := (R.bs.si _ q2).1
          rw [n0] at q0; cases q0
        exact ⟨b, dx, fvs, q1, q2, m, by rw [upd_ne hb]; exact h5, r2⟩
      | exn x => exact w
  · rw [put_eq] at h1 h2
    have up : ∀ {j : Nat} {x : D}, (Γ.set i (.own d'))[j]? = some (.own x) → ∃ x', Γ[j]? = some (.own x') := fun {j x} h => by
      rcases getSet h with ⟨rfl, _⟩ | ⟨_, h⟩
      · exact ⟨_, gi⟩
      · exact ⟨_, h⟩
    obtain ⟨x', g1⟩ := up h1
    obtain ⟨y', g2⟩ := up h2
    exact R.ow j k x' y' b g1 g2 h3 h4
theorem js_app (i : Nat) {x : Str} {px pa pos2 pos3 : Pos} (he : JE X cn W e ea) (hN : X.N[i]? = some x := by rfl) (hv : Vis X.env.scope x := by first | exact Or.inl rfl | exact Or.inr (Or.inl rfl) | exact Or.inr (Or.inr rfl)) (hd : (x == ("__debug__" : Str)) = false := by decide)
    (hcd : (x == ("__classdict__" : Str)) = false := by decide) (hst : starEach [e] X.env = [(false, eval e X.env)] := by rfl) (pe : ∀ t, PE X e t → PE X (.Call (.Attribute (.Name x px) "append" pa) [e] [] pos2) (tBM X.K "list" rAppend (tVar i) (tCons t tNil)))
    (hs : swapsWith (.Call (.Attribute (.Name x px) "append" pa) [e] [] pos2) none pos3.line X.env = pure false := by rfl) : JS X cn W (.Expr (.Call (.Attribute (.Name x px) "append" pa) [e] [] pos2) pos3) (sApp i ea) := by
  obtain ⟨t, p, d⟩ := he
  refine ⟨_, ps_expr (pe t p) hs, fun C Γ σ F H Dn R k => ?_⟩
  unfold sApp at k
  cases q : look (get Γ i) with
  | none => rw [q] at k; exact k.elim
  | some x0 =>
    rw [q] at k
    obtain ⟨v0, e0, s0⟩ := R.read q
    cases x0 with
    | lst xs0 =>
      obtain ⟨l, ws, rfl, hq, _⟩ := s0
      refine ⟨.ref l, e0, .inl ⟨rfl, _, SqL.of hq⟩, ?_⟩
      refine d C Γ σ F H _ R (k.bind.mono (fun p k v F' H' s r rv => ?_) fun _ _ z => z)
      obtain ⟨d1, Γ1⟩ := p
      dsimp only at k
      cases q1 : get Γ1 i with
      | own d2 =>
        cases d2 with
        | lst xs =>
          rw [q1] at k
          dsimp only at k
          split at k
          · rename_i hz
            obtain ⟨a, e1, n, n0, vs, hvs, rvs⟩ := r.at q1 (fun z => by cases z)
            have e2 := join_some e1
            rw [e0] at e2
            cases e2
            refine ⟨l, vs, v, rfl, rfl, hvs, by rw [rvs.1, sizeLine_eq]; exact hz, ?_⟩
            refine k σ F' _ s (r.mut q1 (join_some e1) ?_)
            exact ⟨_, upd_same, rvs.app (.cons rv .nil)⟩
          · exact k.elim
        | _ => rw [q1] at k; exact k.elim
      | _ => rw [q1] at k; exact k.elim
    | _ => exact k.elim
theorem js_while {t : Expr} {body : List Stmt} {n : Nat} (hp : PassesOwn (model X.prog X.w) X.A X.env X.xe) (ht : JT X cn W t ta) (hb : JSs X cn W body sb) : JS X cn W (.While t body [] pos) (sWhl n ta sb) := by
  obtain ⟨t0, p0, d0⟩ := ht
  obtain ⟨t1, p1, d1⟩ := hb
  refine ⟨_, ps_while hp p0 p1, fun C Γ σ F H Dn R k => ?_⟩
  refine ⟨fun m σ H => ∃ Γ1 F1, Same F F1 ∧ RelS X.K cn C Γ1 σ F1 H ∧ Post (whl ta sb m Γ1) (SEnd X.K cn C F Dn) (XW X.K cn C F W), ⟨n, Γ, F, Same.refl _, R, k⟩, ?_⟩
  rintro m σ1 H1 ⟨Γ1, F1, s1, R1, k1⟩
  cases m with
  | zero => exact k1.elim
  | succ m =>
    refine d0 C Γ1 σ1 F1 H1 _ R1 ((show Post ((ta Γ1).bind _) _ _ from k1).bind.mono (fun p k F' H' s2 R2 => ?_) fun _ _ z => XW.up s1 z)
    obtain ⟨c, Γ2⟩ := p
    cases c with
    | true =>
      rw [if_pos rfl]
      refine ⟨fun σ' H' => ∃ Γ3 F3, Same F F3 ∧ RelS X.K cn C Γ3 σ' F3 H' ∧ Post (whl ta sb m Γ3) (SEnd X.K cn C F Dn) (XW X.K cn C F W), fun σ' H' q => ⟨m, Nat.lt_succ_self _, q⟩, ?_⟩
      refine d1 C Γ2 σ1 F' H' _ R2 ?_
      simp only [if_true] at k
      cases eb : sb Γ2 with
      | ok p =>
        rw [eb] at k
        obtain ⟨c, Γ3⟩ := p
        cases c with
        | nx => exact fun σ' F3 H3 s3 R3 => ⟨Γ3, F3, (s1.trans s2).trans s3, R3, k⟩
        | cnt => exact fun σ' F3 H3 s3 R3 => ⟨Γ3, F3, (s1.trans s2).trans s3, R3, k⟩
        | brk => exact fun σ' F3 H3 s3 R3 => k σ' F3 H3 ((s1.trans s2).trans s3) R3
        | ret o => exact fun v F3 H3 s3 b r => k v F3 H3 ((s1.trans s2).trans s3) b r
      | exc x Γ3 => rw [eb] at k; exact XW.up (s1.trans s2) k
      | bad => rw [eb] at k; exact k
    | false =>
      rw [if_neg Bool.false_ne_true]
      simp only [Bool.false_eq_true, if_false] at k
      exact k σ1 F' H' (s1.trans s2) R2
/-! targets -/
theorem jg_n (i : Nat) {x : Str} (hN : X.N.Nodup) (hi : X.N[i]? = some x := by rfl) (hx : Loc X.env.scope x := by first | exact Or.inl rfl | exact Or.inr rfl) (hf : X.fn x = true ∨ X.env.scope.names.lookup x = some .local := by first | exact .inl rfl | exact .inr rfl | assumption) : JG X cn (.Name x pos) (gN i) :=
  ⟨_, pg_name hN hi hx hf, fun C Γ σ F H v d Γ' N R rv e k => by
    cases e
    exact k _ F H (Same.refl _) (R.setV rv)⟩
theorem jgs_nil : JGs X cn [] [] := ⟨_, pgs_nil, fun C Γ σ F H vs ds Γ' N R rv e k => by
  cases ds with
  | nil =>
    cases e
    exact ⟨rv.inv0, k _ F H (Same.refl _) R⟩
  | cons d ds => cases e⟩
theorem jgs_cons {g : GV} {gr : List GV} (h1 : JG X cn e g) (h2 : JGs X cn es gr) (hs : (assignEach (e :: es) X.env).map (·.2) = assign e X.env :: (assignEach es X.env).map (·.2) := by rfl) : JGs X cn (e :: es) (g :: gr) := by
  obtain ⟨t1, p1, d1⟩ := h1
  obtain ⟨t2, p2, d2⟩ := h2
  refine ⟨_, pgs_cons p1 p2 hs, fun C Γ σ F H vs ds Γ' N R rv e k => ?_⟩
  cases ds with
  | nil => cases e
  | cons d ds =>
    obtain ⟨v, vs', rfl, r1, r2⟩ := rv.inv
    unfold gs at e
    cases q : g d Γ with
    | none => rw [q] at e; cases e
    | some Γ1 =>
      rw [q] at e
      exact ⟨v, vs', rfl, d1 C Γ σ F H v d Γ1 _ R r1 q fun σ' F' H' s R1 => d2 C Γ1 σ' F' H' vs' ds Γ' N R1 (r2.mono s) e fun σ2 F2 H2 s2 R2 => k σ2 F2 H2 (s.trans s2) R2⟩
theorem jg_t {k : Nat} {gl : List GV} {n : Nat} (hc : X.calm = true) (h : JGs X cn es gl) (hg : gl.length = n := by rfl) (hn : (assignEach es X.env).length = n := by rfl) (hst : (assignEach es X.env).findIdx? (·.1) = none := by rfl) : JG X cn (.Tuple es k pos) (gT gl) := by
  obtain ⟨t, p, d⟩ := h
  have pp : PG X (.Tuple es k pos) (fun v σ H Q => gTup X.K n t v σ H Q ∨ gLst X.K n t v σ H Q) := ⟨fun pins s σ H v u Q I r q => q.elim (fun q => (pg_tup hc p hn hst).run pins s σ H v u Q I r q) fun q => (pg_lst hc p hn hst).run pins s σ H v u Q I r q⟩
  refine ⟨_, pp, fun C Γ σ F H v x Γ' N R rv e kk => ?_⟩
  have len : ∀ {ds : List D} {gl : List GV} {Γ Γ' : Env}, gs gl ds Γ = some Γ' → ds.length = gl.length := by
    intro ds
    induction ds with
    | nil => intro gl Γ Γ' e; cases gl with
      | nil => rfl
      | cons g r => cases e
    | cons d ds ih =>
      intro gl Γ Γ' e
      cases gl with
      | nil => cases e
      | cons g r =>
        unfold gs at e
        cases q : g d Γ with
        | none => rw [q] at e; cases e
        | some Γ1 => rw [q] at e; simp [ih e]
  cases x with
  | tup ds =>
    obtain ⟨a, vs, rfl, hq, r⟩ := Rep.tupE R.bs.fh rv
    exact .inl ⟨a, vs, rfl, hq, by rw [r.1, ← hg]; exact len e, d C Γ σ F H vs ds Γ' N R r e kk⟩
  | lst ds =>
    cases rv with
    | lst hq hl r => exact .inr ⟨_, _, rfl, SqL.of (R.bs.fh _ _ hq), by rw [hl, ← hg]; exact len e, d C Γ σ F H _ ds Γ' N R ⟨hl, r⟩ e kk⟩
  | _ => cases e
theorem js_asg {tg : Expr} {g : GV} (he : JE X cn W e ea) (hg : JG X cn tg g) (hs : swapsWithSole [tg] e pos.line X.env = pure false := by rfl) (hw : swappedStores [tg] e X.env = pure none := by rfl)
    (h1 : (assignEach [tg] X.env).map (·.2) = [assign tg X.env] := by rfl) : JS X cn W (.Assign [tg] e pos) (sAsg g ea) := by
  obtain ⟨t, p, d⟩ := he
  obtain ⟨t1, p1, d1⟩ := hg
  refine ⟨_, ps_asg p p1 hs hw h1, fun C Γ σ F H Dn R k => ?_⟩
  refine d C Γ σ F H _ R (k.bind.mono (fun p k v F' H' s r rv => ?_) fun _ _ z => z)
  cases q : g p.1 p.2 with
  | none => simp only [q] at k; exact k.elim
  | some Γ2 =>
    simp only [q] at k
    exact d1 C p.2 σ F' H' v p.1 Γ2 _ r rv q fun σ' F2 H2 s2 R2 => k σ' F2 H2 (s.trans s2) R2
/-! loops -/
theorem js_for {tg it : Expr} {body : List Stmt} {g : GV} {lv : LV} (hp : PassesOwn (model X.prog X.w) X.A X.env X.xe) (hc : X.calm = true) (hi : JI X cn W tg it lv) (hg : JG X cn tg g) (hb : JSs X cn W body sb)
    (hs : ∀ x, foldedSetIterable it X.env x = pure x := by intro _; rfl) : JS X cn W (.For tg it body [] pos) (sFor g lv sb) := by
  obtain ⟨wi, pi, di⟩ := hi
  obtain ⟨t1, p1, d1⟩ := hg
  obtain ⟨t2, p2, d2⟩ := hb
  refine ⟨_, ps_for hp hc pi p1 p2 hs, fun C Γ σ F H Dn R k => ?_⟩
  refine di C Γ σ F H _ R (k.bind.mono (fun p k J F' H' s R1 hJ => ?_) fun _ _ z => z)
  obtain ⟨ds, Γ0⟩ := p
  refine ⟨fun i m σ H => m = ds.length - i ∧ i ≤ ds.length ∧ ∃ Γ1 F1, Same F' F1 ∧ RelS X.K cn C Γ1 σ F1 H ∧ Post (forL g sb (ds.drop i) Γ1) (SEnd X.K cn C F Dn) (XW X.K cn C F W), ⟨ds.length, by simp, Nat.zero_le _, Γ0, F', Same.refl _, R1, k⟩, ?_⟩
  rintro i m σ1 H1 ⟨rfl, hi, Γ1, F1, s1, R2, k1⟩
  obtain ⟨go, stop⟩ := hJ i F1 H1 s1 R2.bs
  by_cases hlt : i < ds.length
  · have e : ds[i]? = some ds[i] := by simp [hlt]
    obtain ⟨g1, g2⟩ := go _ e
    rw [List.drop_eq_getElem_cons hlt] at k1
    refine .inr ⟨g1, fun σ' H' => i + 1 ≤ ds.length ∧ ∃ Γ1 F1, Same F' F1 ∧ RelS X.K cn C Γ1 σ' F1 H' ∧ Post (forL g sb (ds.drop (i + 1)) Γ1) (SEnd X.K cn C F Dn) (XW X.K cn C F W), fun σ' H' q => ⟨ds.length - (i + 1), by omega, rfl, q⟩, fun x H2 y => ?_⟩
    obtain ⟨F3, ex, rx⟩ := g2 x H2 y
    unfold forL at k1
    cases q : g ds[i] Γ1 with
    | none => rw [q] at k1; exact k1.elim
    | some Γ2 =>
      rw [q] at k1
      dsimp only at k1
      refine d1 C Γ1 σ1 F3 H2 x ds[i] Γ2 _ (R2.ext ex) rx q fun σ' F4 H4 s4 R4 => ?_
      refine d2 C Γ2 σ' F4 H4 _ R4 ?_
      have sa : Same F' F4 := (s1.trans ex.f).trans s4
      cases eb : sb Γ2 with
      | ok p =>
        rw [eb] at k1
        obtain ⟨c, Γ3⟩ := p
        cases c with
        | nx => exact fun σ' F5 H5 s5 R5 => ⟨hlt, Γ3, F5, sa.trans s5, R5, k1⟩
        | cnt => exact fun σ' F5 H5 s5 R5 => ⟨hlt, Γ3, F5, sa.trans s5, R5, k1⟩
        | brk => exact fun σ' F5 H5 s5 R5 => k1 σ' F5 H5 (s.trans (sa.trans s5)) R5
        | ret o => exact fun v F5 H5 s5 b r => k1 v F5 H5 (s.trans (sa.trans s5)) b r
      | exc x Γ3 => rw [eb] at k1; exact XW.up (s.trans sa) k1
      | bad => rw [eb] at k1; exact k1
  · have e : ds.drop i = [] := List.drop_eq_nil_of_le (by omega)
    rw [e] at k1
    exact .inl ⟨stop (by show ds.length ≤ i; omega), k1 σ1 F1 H1 (s.trans s1) R2⟩
theorem PI.or {tg it : Expr} {w1 w2 : TI} (h1 : PI X tg it w1) (h2 : PI X tg it w2) : PI X tg it (fun σ H R => w1 σ H R ∨ w2 σ H R) := ⟨fun pins s σ H R I q => q.elim (h1.run pins s σ H R I) (h2.run pins s σ H R I)⟩
/-- what can be read now and later -/
def Stable (K : PySem.W.Frag) (cn : Cn) (C : Ct) (F : Hp) (v : V) (d : D) : Prop := Rep K cn F v d ∨ Shal K cn F C.B0 v d
theorem itd_lst {C : Ct} {F : Hp} {v : V} {ds : List D} (h : Stable X.K cn C F v (.lst ds)) : ∃ a, v = .ref a ∧ ItD X.K cn C F (Itl X.K a) ds ∧ ∀ F2 H2, Same F F2 → Bas C F2 H2 → ∃ vs, SqL X.K H2 a vs := by
  obtain ⟨a, vs, e, rv, st⟩ : ∃ a vs, v = .ref a ∧ Reps X.K cn F vs ds ∧ ∀ F2 H2, Same F F2 → Bas C F2 H2 → SqL X.K H2 a vs := by
    rcases h with h | ⟨a, vs, e, h, r⟩
    · cases h with
      | lst h hl r => exact ⟨_, _, rfl, ⟨hl, r⟩, fun F2 H2 s b => SqL.of (b.fh _ _ (s _ _ h))⟩
    · refine ⟨a, vs, e, r, fun F2 H2 s b => ?_⟩
      have ne : ∀ a, (∃ o, C.H0 a = some o ∧ ∀ c dx fs, o ≠ .ins c dx fs) → C.slf ≠ some a := fun a ⟨o, h1, h2⟩ z => by
        obtain ⟨c, dx, fs, q⟩ := (b.si a z).1
        rw [h1] at q; cases q; exact h2 _ _ _ rfl
      have h := b.b0 _ _ h
      exact SqL.of (b.h0 _ _ h (ne a ⟨_, h, fun _ _ _ z => by cases z⟩))
  refine ⟨a, e, fun i F2 H2 s b => ⟨fun d hd => ?_, fun hi => ⟨vs, st F2 H2 s b, by rw [rv.1]; exact hi⟩⟩, fun F2 H2 s b => ⟨vs, st F2 H2 s b⟩⟩
  obtain ⟨v, hv, r1⟩ := rv.get hd
  exact ⟨⟨vs, v, st F2 H2 s b, hv⟩, fun x H3 ⟨e, y⟩ => by
    subst e
    have := y vs (st F2 _ s b)
    rw [hv] at this; cases this
    exact ⟨F2, Ext.refl b.fh, r1.mono s⟩⟩
theorem itd_tup {C : Ct} {F : Hp} {v : V} {ds : List D} (h : Rep X.K cn F v (.tup ds)) : ∃ a, v = .ref a ∧ ItD X.K cn C F (Itt X.K a) ds ∧ ∀ F2 H2, Same F F2 → Bas C F2 H2 → ∃ vs, SqT X.K H2 a vs := by
  cases h with
  | @tup a vs _ h hl r =>
    have rv : Reps X.K cn F vs ds := ⟨hl, r⟩
    have st : ∀ F2 H2, Same F F2 → Bas C F2 H2 → SqT X.K H2 a vs := fun F2 H2 s b => same_seqT b.fh (same_seqT s h)
    refine ⟨a, rfl, fun i F2 H2 s b => ⟨fun d hd => ?_, fun hi => ⟨vs, st F2 H2 s b, by rw [rv.1]; exact hi⟩⟩, fun F2 H2 s b => ⟨vs, st F2 H2 s b⟩⟩
    obtain ⟨v, hv, r1⟩ := rv.get hd
    exact ⟨⟨vs, v, st F2 H2 s b, hv⟩, fun x H3 ⟨e, y⟩ => by
      subst e
      have := y vs (st F2 _ s b)
      rw [hv] at this; cases this
      exact ⟨F2, Ext.refl b.fh, r1.mono s⟩⟩
theorem ji_e {tg : Expr} (h : JE X cn W e ea) : JI X cn W tg e (iSeq ea) := by
  obtain ⟨t, p, d⟩ := h
  refine ⟨_, PI.or (pi_list p) (pi_tup p), fun C Γ σ F H R RR k => ?_⟩
  have k' := k.bind
  cases eq : ea Γ with
  | bad => rw [eq] at k'; exact k'.elim
  | exc x Γ1 => rw [eq] at k'; exact .inl (d C Γ σ F H _ RR (by rw [eq]; exact k'))
  | ok p =>
    obtain ⟨d0, Γ1⟩ := p
    rw [eq] at k'
    obtain ⟨ds, e3, k2⟩ := (show Post ((Ed.R.of (items d0)).bind fun ds => Ed.R.ok (ds, Γ1)) _ _ from k').bind.of
    cases d0 with
    | lst xs =>
      cases e3
      refine .inl (d C Γ σ F H _ RR ?_)
      rw [eq]
      intro v F' H' s r rv
      obtain ⟨a, ev, it, sq⟩ := itd_lst (C := C) (.inl rv)
      exact ⟨a, ev, sq F' H' (Same.refl _) r.bs, k2 _ F' H' s r it⟩
    | tup xs =>
      cases e3
      refine .inr (d C Γ σ F H _ RR ?_)
      rw [eq]
      intro v F' H' s r rv
      obtain ⟨a, ev, it, sq⟩ := itd_tup (C := C) rv
      exact ⟨a, ev, sq F' H' (Same.refl _) r.bs, k2 _ F' H' s r it⟩
    | _ => cases e3
theorem ji_n {tg : Expr} (i : Nat) {x : Str} {pos : Pos} (hN : X.N[i]? = some x := by rfl) (hv : Vis X.env.scope x := by first | exact Or.inl rfl | exact Or.inr (Or.inl rfl) | exact Or.inr (Or.inr rfl)) (hd : (x == ("__debug__" : Str)) = false := by decide)
    (hcd : (x == ("__classdict__" : Str)) = false := by decide) : JI X cn W tg (.Name x pos) (iN i) := by
  refine ⟨_, PI.or (pi_list (pe_var hN hv hd hcd)) (pi_tup (pe_var hN hv hd hcd)), fun C Γ σ F H R RR k => ?_⟩
  unfold iN at k
  have fin : ∀ {d0 : D} {s : Sl} {v : V} {F' : Hp}, σ[i]? = some (some v) → Same F F' → RelS X.K cn C (put Γ i s) σ F' H → Stable X.K cn C F' v d0 → (∀ ds, d0 = .tup ds → Rep X.K cn F' v d0) →
      Post ((Ed.R.of (items d0)).bind fun ds => Ed.R.ok (ds, put Γ i s)) (fun p => ∀ J F' H', Same F F' → RelS X.K cn C p.2 σ F' H' → ItD X.K cn C F' J p.1 → R J H') (XW X.K cn C F W) →
      iList X.K (tVar i) σ H R ∨ iTup X.K (tVar i) σ H R := fun {d0 s v F'} ev sf r st tp k => by
    obtain ⟨ds, e3, k2⟩ := k.bind.of
    cases d0 with
    | lst xs =>
      cases e3
      obtain ⟨a, e, it, sq⟩ := itd_lst (C := C) st
      subst e
      exact .inl ⟨_, ev, a, rfl, sq F' H (Same.refl _) r.bs, k2 _ F' H sf r it⟩
    | tup xs =>
      cases e3
      obtain ⟨a, e, it, sq⟩ := itd_tup (C := C) (tp _ rfl)
      subst e
      exact .inr ⟨_, ev, a, rfl, sq F' H (Same.refl _) r.bs, k2 _ F' H sf r it⟩
    | _ => cases e3
  cases q : get Γ i with
  | val d0 =>
    rw [q] at k
    obtain ⟨v, F', e1, sf, rv, r'⟩ := RR.frz (i := i) (d := d0) (s := .val d0) (by rw [q]; rfl)
    exact fin e1 sf r' (.inl rv) (fun _ _ => rv) k
  | own d0 =>
    rw [q] at k
    obtain ⟨v, F', e1, sf, rv, r'⟩ := RR.frz (i := i) (d := d0) (s := .val d0) (by rw [q]; rfl)
    exact fin e1 sf r' (.inl rv) (fun _ _ => rv) k
  | bor d0 =>
    rw [q] at k
    obtain ⟨v, e1, sh⟩ := RR.at q (fun z => by cases z)
    have e2 : put Γ i (.bor d0) = Γ := by
      rw [put_eq]
      have gq := get_some q (fun z => by cases z)
      apply List.ext_getElem?
      intro j
      by_cases z : i = j
      · subst z
        obtain ⟨hi, _⟩ := List.getElem?_eq_some_iff.mp gq
        rw [List.getElem?_set_self hi, gq]
      · rw [List.getElem?_set_ne z]
    refine fin (join_some e1) (Same.refl _) (by rw [e2]; exact RR) (.inr sh) (fun ds e => ?_) k
    subst e
    exact sh
  | _ => rw [q] at k; exact k.elim
theorem itd_rng {C : Ct} {F : Hp} (lo : Int) (n : Nat) : ItD X.K cn C F (Itr lo n) (rngL lo n) := fun i F2 H2 s b => by
  refine ⟨fun d hd => ?_, fun hi => by
    show n ≤ i
    simpa [rngL] using hi⟩
  obtain ⟨hi, e⟩ := List.getElem?_eq_some_iff.mp hd
  have hi' : i < n := by simpa [rngL] using hi
  have e' : d = .int (lo + i) := by rw [← e]; simp [rngL]
  exact ⟨hi', fun x H3 ⟨e1, e2⟩ => by subst e1 e2; exact ⟨F2, Ext.refl b.fh, by rw [e']; exact .int _⟩⟩
theorem ji_rg1 {tg : Expr} {p : Pos} (hg : Gl X "range") (hm : X.mg "range" = none) (ha : JQ X cn W a qa) (hs : starEach [a] X.env = [(false, eval a X.env)] := by rfl) : JI X cn W tg (.Call (.Name "range" p) [a] [] pos) (iRg1 qa) := by
  obtain ⟨t, pe, d⟩ := ha
  refine ⟨_, pi_range1 hg hm (pa_cons pe pa_nil hs) hs, fun C Γ σ F H R RR k => ?_⟩
  refine d C Γ σ F H _ RR (k.bind.mono (fun p k v F' H' s1 R1 hv => ?_) fun _ _ z => z)
  obtain ⟨pv, Γ1⟩ := p
  dsimp only at k hv R1
  cases e1 : rd Γ1 pv with
  | none => simp only [e1] at k; exact k.elim
  | some d1 =>
    cases d1 with
    | int n =>
      simp only [e1] at k
      have sh := (R1.rd e1 hv).int
      subst sh
      split at k
      · rename_i hb
        simp only [rngB, Bool.and_eq_true, decide_eq_true_eq] at hb
        exact ⟨n, rfl, hb.1, hb.2, k _ F' H' s1 R1 (itd_rng 0 _)⟩
      · exact k.elim
    | _ => simp only [e1] at k; exact k.elim
theorem ji_rg2 {tg : Expr} {p : Pos} (hg : Gl X "range") (hm : X.mg "range" = none) (ha : JQ X cn W a qa) (hb : JQ X cn W b qb) (hs : starEach [a, b] X.env = [(false, eval a X.env), (false, eval b X.env)] := by rfl) (hs2 : starEach [b] X.env = [(false, eval b X.env)] := by rfl) :
    JI X cn W tg (.Call (.Name "range" p) [a, b] [] pos) (iRg2 qa qb) := by
  obtain ⟨t, pe, d⟩ := ha
  obtain ⟨t2, pe2, d2⟩ := hb
  refine ⟨_, pi_range2 hg hm (pa_cons pe (pa_cons pe2 pa_nil hs2) (by rw [hs, hs2])) hs hs2, fun C Γ σ F H R RR k => ?_⟩
  refine d C Γ σ F H _ RR (k.bind.mono (fun p k v F' H' s1 R1 hv => ?_) fun _ _ z => z)
  refine d2 C p.2 σ F' H' _ R1 (k.bind.mono (fun q k w F2 H2 s2 R2 hw => ?_) fun _ _ z => XW.up s1 z)
  obtain ⟨pw, Γ2⟩ := q
  dsimp only at k hw R2
  cases e1 : rd Γ2 p.1 with
  | none => simp only [e1] at k; exact k.elim
  | some d1 =>
    cases e2 : rd Γ2 pw with
    | none => simp only [e1, e2] at k; cases d1 <;> exact k.elim
    | some d2 =>
      cases d1 with
      | int m =>
        cases d2 with
        | int n =>
          simp only [e1, e2] at k
          have sh := (R2.rd e1 (hv.mono s2)).int
          have sh2 := (R2.rd e2 hw).int
          subst sh sh2
          split at k
          · rename_i hb
            simp only [rngB, Bool.and_eq_true, decide_eq_true_eq] at hb
            exact ⟨m, n, rfl, ⟨hb.1.1, hb.1.2, hb.2.1, hb.2.2⟩, k _ F2 H2 (s1.trans s2) R2 (itd_rng m _)⟩
          · exact k.elim
        | _ => simp only [e1, e2] at k; exact k.elim
      | _ => simp only [e1, e2] at k; exact k.elim
end
end Ed

set_option autoImplicit true
set_option Elab.async false
set_option linter.all false
set_option maxRecDepth 100000
/-! defs: what a def over data promises; calls -/
namespace Ed
open PySem L2

section
variable (K : PySem.W.Frag) (cn : Cn)
def ArgR (F H : Hp) : List Bool → List V → List D → Prop
  | [], [], [] => True
  | m :: ms, v :: vs, d :: ds => (if m = true then Shal K cn F H v d else Rep K cn F v d) ∧ ArgR F H ms vs ds
  | _, _, _ => False
def spD (ms : List Bool) (Ff : FV) : Sp := fun vs H Q E => vs.length = ms.length ∧ ∃ F ds, Same F H ∧ ArgR K cn F H ms vs ds ∧
  Post (Ff ds) (fun o => ∀ v F' H', Ext F H F' H' → DVR K cn ⟨H, H, F, none⟩ F' H' v o → Q v H') (fun x _ => ∀ cls od F' H', Ext F H F' H' → RepX K cn F' cls od x → E cls od H')
/-- an __init__: the object in the making at p -/
def spI (c : Nat) (ms : List Bool) (Ff : List D → R (List (Nat × D))) : Sp := fun vs H Q E => vs.length = ms.length + 1 ∧ ∃ p vs' dx F ds, vs = .ref p :: vs' ∧ H p = some (.ins (cn.ca c) dx []) ∧ F p = none ∧ Same F H ∧ ArgR K cn F H ms vs' ds ∧
  Post (Ff ds) (fun fs => ∀ F' H', Same F F' → Same F' H' → (∀ b o, H b = some o → b ≠ p → H' b = some o) → (∀ b, F b = none → H b ≠ none → F' b = none) →
      (∃ dx fvs, H' p = some (.ins (cn.ca c) dx fvs) ∧ RepP K cn cn.fa F' fvs fs) → Q .non H')
    (fun x _ => ∀ cls od F' H', Same F F' → Same F' H' → (∀ b o, H b = some o → b ≠ p → H' b = some o) → (∀ b, F b = none → H b ≠ none → F' b = none) → (∃ o, H' p = some o) → RepX K cn F' cls od x → E cls od H')
end
section
variable {P : Program} {w : World} {K : PySem.W.Frag} {mg : Str → Option Value} {base : Heap} {cn : Cn}
theorem ArgR.len {F H : Hp} : ∀ {ms : List Bool} {vs : List V} {ds : List D}, ArgR K cn F H ms vs ds → vs.length = ms.length ∧ ds.length = ms.length
  | [], [], [], _ => ⟨rfl, rfl⟩
  | _ :: _, _ :: _, _ :: _, h => by
    obtain ⟨a, b⟩ := ArgR.len h.2
    exact ⟨by simp [a], by simp [b]⟩
  | [], [], _ :: _, h => h.elim
  | [], _ :: _, _, h => h.elim
  | _ :: _, [], _, h => h.elim
  | _ :: _, _ :: _, [], h => h.elim
theorem pad_none : ∀ (n i : Nat) (s : Sl), (pad n)[i]? = some s → s = .emp
  | 0, i, s, h => by simp [pad] at h
  | n + 1, 0, s, h => by simp [pad] at h; exact h.symm
  | n + 1, i + 1, s, h => pad_none n i s (by simpa [pad] using h)
theorem pad_len : ∀ n, (pad n).length = n
  | 0 => rfl
  | n + 1 => by simp [pad, pad_len n]
theorem ins0_len {F H : Hp} : ∀ {ms : List Bool} {vs : List V} {ds : List D}, ArgR K cn F H ms vs ds → (ins0 ms ds).length = ms.length
  | [], [], [], _ => rfl
  | _ :: _, _ :: _, _ :: _, h => by simp [ins0, ins0_len h.2]
  | [], [], _ :: _, h => h.elim
  | [], _ :: _, _, h => h.elim
  | _ :: _, [], _, h => h.elim
  | _ :: _, _ :: _, [], h => h.elim
theorem inSl_ok {C : Ct} {F H : Hp} {m : Bool} {v : V} {d : D} (hs : Same F H) (e : C.B0 = H) (h : if m = true then Shal K cn F H v d else Rep K cn F v d) : SlR K cn C F H (some v) (inSl m d) := by
  subst e
  cases m with
  | false => cases d <;> exact ⟨v, rfl, h⟩
  | true =>
    have h : Shal K cn F C.B0 v d := h
    cases d <;> exact ⟨v, rfl, h⟩
theorem inSl_no {m : Bool} {d d' : D} : inSl m d ≠ .own d' := by
  cases m <;> cases d <;> (intro h; cases h)
theorem inSl_nos {m : Bool} {d : D} {c : Nat} {fs : List (Nat × D)} : inSl m d ≠ .slf c fs := by
  cases m <;> cases d <;> (intro h; cases h)
theorem ins0_at {C : Ct} {F H : Hp} (hs : Same F H) (e : C.B0 = H) {n : Nat} : ∀ {ms : List Bool} {vs : List V} {ds : List D}, ArgR K cn F H ms vs ds →
    ∀ (i : Nat) s, (ins0 ms ds ++ pad n)[i]? = some s → SlR K cn C F H (((vs.map some ++ List.replicate n none)[i]?).join) s ∧ (∀ d, s ≠ .own d) ∧ ∀ c fs, s ≠ .slf c fs
  | [], [], [], _, i, s, q => by
    have := pad_none n i s (by simpa [ins0] using q)
    subst this
    exact ⟨True.intro, (fun d z => by cases z), fun _ _ z => by cases z⟩
  | m :: ms, v :: vs, d :: ds, h, 0, s, q => by
    simp only [ins0, List.cons_append, List.getElem?_cons_zero, Option.some.injEq] at q
    subst q
    exact ⟨inSl_ok hs e h.1, (fun d' => inSl_no), fun _ _ => inSl_nos⟩
  | m :: ms, v :: vs, d :: ds, h, i + 1, s, q => ins0_at hs e h.2 i s (by simpa [ins0] using q)
  | [], [], _ :: _, h, _, _, _ => h.elim
  | [], _ :: _, _, h, _, _, _ => h.elim
  | _ :: _, [], _, h, _, _, _ => h.elim
  | _ :: _, _ :: _, [], h, _, _, _ => h.elim
theorem start_rel {F H : Hp} {ms : List Bool} {vs : List V} {ds : List D} {N : List Str} {n : Nat} (hs : Same F H) (h : ArgR K cn F H ms vs ds) (hN : N.length = ms.length + n) :
    RelS K cn ⟨H, H, F, none⟩ (ins0 ms ds ++ pad n) (L2.start N vs) F H := by
  obtain ⟨l1, l2⟩ := h.len
  have e : N.length - vs.length = n := by omega
  unfold L2.start
  rw [e]
  refine ⟨⟨hs, Same.refl _, fun b o q _ => q, fun b q _ => q, (fun a z => by cases z), fun _ _ z => z⟩, by simp [ins0_len h, pad_len, l1], fun i s q => (ins0_at hs rfl h i s q).1, fun i j d d' a q _ _ _ => ?_, fun i c fs q => absurd rfl ((ins0_at (C := ⟨H, H, F, none⟩) hs rfl h i _ q).2.2 c fs)⟩
  exact absurd rfl ((ins0_at (C := ⟨H, H, F, none⟩) hs rfl h i _ q).2.1 d)
theorem Bas.toExt {F H F' H' : Hp} (b : Bas ⟨H, H, F, none⟩ F' H') : Ext F H F' H' := ⟨b.f0, fun a o q => b.h0 a o q (fun z => by cases z), b.fh, b.nw⟩
theorem bodyD {X : Cx} {ms : List Bool} {n : Nat} {sv : SV} {Ff : FV} {vs : List V} {H : Hp} {Q : VK} {E : XK} {N : List Str} {st : List Stmt} (hN : N.length = ms.length + n) (hF : ∀ ds, Ff ds = runF ms n sv ds)
    (h : spD X.K cn ms Ff vs H Q E) (body : JSs X cn (fun cls d _ H => E cls d H) st sv) : ∃ t, PSs X st t ∧ t { nx := fun _ H' => Q .non H', rt := Q } (L2.start N vs) H := by
  obtain ⟨t, p, d⟩ := body
  obtain ⟨hl, F, ds, hs, ha, k⟩ := h
  refine ⟨t, p, d ⟨H, H, F, none⟩ (ins0 ms ds ++ pad n) (L2.start N vs) F H _ (start_rel hs ha hN) ?_⟩
  rw [hF] at k
  unfold runF at k
  rw [if_pos ha.len.2] at k
  cases e : sv (ins0 ms ds ++ pad n) with
  | bad => rw [e] at k; exact k.elim
  | exc x Γ => rw [e] at k; exact fun cls od σ' F' H' _ r q => k cls od F' H' r.bs.toExt q
  | ok p =>
    obtain ⟨c, Γ⟩ := p
    rw [e] at k
    cases c with
    | nx => exact fun σ' F' H' s r => k .non F' H' r.bs.toExt .non
    | ret o => exact fun v F' H' s b r => k v F' H' b.toExt r
    | brk => exact k.elim
    | cnt => exact k.elim
theorem okD {x qual : Str} {st : Stmt} {f : Addr} {fd : FuncData} {N ps : List Str} {k : Nat} {ms : List Bool} {n : Nat} {sv : SV} {Ff : FV} (F : Fun K x qual st f fd) (S : FnScope N ps (defScope st)) (hp : ms.length = ps.length) (hN : N.length = ms.length + n) (hF : ∀ ds, Ff ds = runF ms n sv ds)
    (hbody : ∀ (cdv : Value) (A : Around) (outer : List PySem.Env) (s : Shared) (H : Hp) (E : XK), Room k (A.deeper (PyProof.Rows.envOfC qual (defScope st) s.heap.objs.size f cdv)) →
      JSs (cxOf (L2.CX P w) P w K mg base N qual (defScope st) f cdv A outer s H E) cn (fun cls d _ H => E cls d H) (defBody st) sv) : FnOk P w K mg base (L2.CX P w) (k + 1) f fd ps (spD K cn ms Ff) :=
  F.okX S (fun vs H Q E h => by rw [h.1]; exact hp) fun cdv A outer s H vs Q E hr h => bodyD (X := cxOf (L2.CX P w) P w K mg base N qual (defScope st) f cdv A outer s H E) hN hF h (hbody cdv A outer s H E hr)
end

section
variable {X : Cx} {cn : Cn} {W : WX} {e o : Expr} {es : List Expr} {pos : Pos} {eo : EV} {av : AV}
theorem prep_ok {C : Ct} {σ : L2.St} {H : Hp} : ∀ {ms : List Bool} {ps : List PV} {vs : List V} {Γ Γ' : Env} {F : Hp} {ds : List D}, RelS X.K cn C Γ σ F H → PVRs X.K cn σ F vs ps → prep Γ ms ps = some (ds, Γ') →
    ∃ F', Same F F' ∧ RelS X.K cn C Γ' σ F' H ∧ ArgR X.K cn F' H ms vs ds
  | [], [], [], Γ, Γ', F, ds, R, q, e => by
    cases e
    exact ⟨F, Same.refl _, R, True.intro⟩
  | [], [], _ :: _, _, _, _, _, _, q, _ => q.elim
  | [], _ :: _, _, _, _, _, _, _, _, e => by cases e
  | _ :: _, [], _, _, _, _, _, _, _, e => by cases e
  | _ :: _, _ :: _, [], _, _, _, _, _, q, _ => q.elim
  | m :: ms, p :: ps, v :: vs, Γ, Γ', F, ds, R, q, e => by
    unfold prep at e
    cases p with
    | pd d =>
      dsimp only at e
      cases e1 : prep Γ ms ps with
      | none => rw [e1] at e; cases e
      | some r =>
        obtain ⟨ds', Γ2⟩ := r
        rw [e1] at e; cases e
        obtain ⟨F', s, R', ar⟩ := prep_ok R q.2 e1
        refine ⟨F', s, R', ?_, ar⟩
        have h1 : Rep X.K cn F' v d := Rep.mono s q.1
        cases m with
        | true => exact h1.shal R'.bs.fh
        | false => exact h1
    | pn i =>
      dsimp only at e
      cases m with
      | true =>
        simp only [if_true] at e
        cases e0 : look (get Γ i) with
        | none => rw [e0] at e; cases e
        | some d =>
          cases e1 : prep Γ ms ps with
          | none => rw [e0, e1] at e; cases e
          | some r =>
            obtain ⟨ds', Γ2⟩ := r
            rw [e0, e1] at e; cases e
            obtain ⟨F', s, R', ar⟩ := prep_ok R q.2 e1
            obtain ⟨w, ew, sh⟩ := R.read e0
            rw [show σ[i]? = some (some v) from q.1] at ew
            cases ew
            exact ⟨F', s, R', sh.mono s (Same.refl _), ar⟩
      | false =>
        simp only [Bool.false_eq_true, if_false] at e
        cases e0 : frzS (get Γ i) with
        | none => rw [e0] at e; cases e
        | some r =>
          obtain ⟨d, s0⟩ := r
          rw [e0] at e
          dsimp only at e
          obtain ⟨w, F1, ew, s1, rw1, R1⟩ := R.frz e0
          rw [show σ[i]? = some (some v) from q.1] at ew
          cases ew
          cases e1 : prep (put Γ i s0) ms ps with
          | none => rw [e1] at e; cases e
          | some r =>
            obtain ⟨ds', Γ2⟩ := r
            rw [e1] at e; cases e
            obtain ⟨F', s, R', ar⟩ := prep_ok R1 (PVRs.mono s1 q.2) e1
            exact ⟨F', s1.trans s, R', rw1.mono s, ar⟩
/-- what comes back -/
def DVN (K : PySem.W.Frag) (cn : Cn) (C : Ct) (Γ : Env) (σ : L2.St) (F H : Hp) (v : V) : DV → Prop
  | .fz d => Rep K cn F v d
  | .fr d => NewR K cn C Γ σ F H v d
theorem call_ok {C : Ct} {σ : L2.St} {Γ : Env} {F H : Hp} {ms : List Bool} {ps : List PV} {vs : List V} {Ff : FV} {P' : DV × Env → Prop} {Q : VK} (R : RelS X.K cn C Γ σ F H) (q : PVRs X.K cn σ F vs ps) (k : Post (callF Ff ms ps Γ) P' (XW X.K cn C F W))
    (hP : ∀ o Γ2 v F2 H2, P' (o, Γ2) → Same F F2 → RelS X.K cn C Γ2 σ F2 H2 → DVN X.K cn C Γ2 σ F2 H2 v o → Q v H2) : spD X.K cn ms Ff vs H Q (WE W σ) := by
  unfold callF at k
  cases e1 : prep Γ ms ps with
  | none => rw [e1] at k; exact k.elim
  | some r =>
    obtain ⟨ds, Γ2⟩ := r
    rw [e1] at k
    dsimp only at k
    obtain ⟨F1, s1, R1, ar⟩ := prep_ok R q e1
    refine ⟨ar.len.1, F1, ds, R1.bs.fh, ar, ?_⟩
    cases e2 : Ff ds with
    | bad => rw [e2] at k; exact k.elim
    | exc x Γ3 => rw [e2] at k; exact fun cls od F' H' ex rx => k cls od σ F' H' (s1.trans ex.f) (R1.ext ex) rx
    | ok o =>
      rw [e2] at k
      intro v F' H' ex dv
      refine hP o Γ2 v F' H' k (s1.trans ex.f) (R1.ext ex) ?_
      cases o with
      | fz d => exact dv
      | fr d =>
        obtain ⟨a, ev, n, n0, r⟩ := dv
        refine ⟨a, ev, n, ?_, r, fun i d' hi z => ?_⟩
        · have n1 : H a = none := n0
          cases q0 : C.H0 a with
          | none => rfl
          | some o =>
            by_cases hs : C.slf = some a
            · obtain ⟨o2, q2⟩ := (R1.bs.si a hs).2
              rw [n1] at q2; cases q2
            · have z := R1.bs.h0 a o q0 hs
              rw [n1] at z; cases z
        · obtain ⟨o, ho⟩ := R1.ownH hi z
          rw [show H a = none from n0] at ho; cases ho
theorem dvn_e {C : Ct} {Γ : Env} {σ : L2.St} {F H F0 : Hp} {v : V} {o : DV} {Q : VK} (s : Same F0 F) (R : RelS X.K cn C Γ σ F H) (h : DVN X.K cn C Γ σ F H v o) (k : EEnd X.K cn C σ F0 Q (o.d, Γ)) : Q v H := by
  cases o with
  | fz d => exact k v F H s R h
  | fr d =>
    obtain ⟨F2, s2, r2, R2⟩ := h.frz R
    exact k v F2 H (s.trans s2) R2 r2
section
variable {k : Nat} {f : Addr} {fd : FuncData} {ps : List Str} {ms : List Bool} {Ff : FV} {x : Str} {p : Pos}
theorem je_call (F : FnOk X.prog X.w X.K X.mg X.base (L2.CX X.prog X.w) k f fd ps (spD X.K cn ms Ff)) (hr : Room k X.A) (hg : Gl X x) (hm : X.mg x = some (.ref f)) (hk : PySem.W.keepIn X.K (.ref f) = true) (hb : Binds X.K fd ps []) (tk : Takes X W)
    (ha : JA X cn W (e :: es) av) (hdb : (x == ("__debug__" : Str)) = false := by decide) (he : starEach (e :: es) X.env = (false, eval e X.env) :: starEach es X.env := by rfl) (hpl : (backTo pos (starEach es X.env)).any (·.1) = false := by rfl) :
    JE X cn W (.Call (.Name x p) (e :: es) [] pos) (eCall Ff ms av) := by
  obtain ⟨t, pa, d⟩ := ha
  refine ⟨_, pe_callS F hr hg hm hk hb (fun σ => passAt tk σ) pa hdb he hpl, fun C Γ σ F H Q R k => ?_⟩
  refine d C Γ σ F H _ R (k.bind.mono (fun p k vs F' H' s1 R1 hv => ?_) fun _ _ z => z)
  exact call_ok R1 hv (k.bind.mono (fun _ z => z) fun _ _ z => XW.up s1 z) fun o Γ2 v F2 H2 hP s R2 dv => dvn_e (s1.trans s) R2 dv hP
theorem jn_call (F : FnOk X.prog X.w X.K X.mg X.base (L2.CX X.prog X.w) k f fd ps (spD X.K cn ms Ff)) (hr : Room k X.A) (hg : Gl X x) (hm : X.mg x = some (.ref f)) (hk : PySem.W.keepIn X.K (.ref f) = true) (hb : Binds X.K fd ps []) (tk : Takes X W)
    (ha : JA X cn W (e :: es) av) (hdb : (x == ("__debug__" : Str)) = false := by decide) (he : starEach (e :: es) X.env = (false, eval e X.env) :: starEach es X.env := by rfl) (hpl : (backTo pos (starEach es X.env)).any (·.1) = false := by rfl) :
    JN X cn W (.Call (.Name x p) (e :: es) [] pos) (nCall Ff ms av) := by
  obtain ⟨t, pa, d⟩ := ha
  refine ⟨_, pe_callS F hr hg hm hk hb (fun σ => passAt tk σ) pa hdb he hpl, fun C Γ σ F H Q R k => ?_⟩
  refine d C Γ σ F H _ R (k.bind.mono (fun p k vs F' H' s1 R1 hv => ?_) fun _ _ z => z)
  refine call_ok R1 hv (k.bind.mono (fun _ z => z) fun _ _ z => XW.up s1 z) fun o Γ2 v F2 H2 hP s R2 dv => ?_
  cases o with
  | fz d => exact hP.elim
  | fr d => exact hP v F2 H2 (s1.trans s) R2 dv
end
end
end Ed

set_option autoImplicit true
set_option Elab.async false
set_option linter.all false
set_option maxRecDepth 100000
/-! objects made, methods, errors -/
namespace Ed
open PySem L2

section
variable {P : Program} {w : World} {K : PySem.W.Frag} {mg : Str → Option Value} {base : Heap} {cn : Cn}
theorem start_relI {F H : Hp} {ms : List Bool} {vs : List V} {ds : List D} {N : List Str} {n c : Nat} {p dx : Addr} (hp : H p = some (.ins (cn.ca c) dx [])) (fp : F p = none) (hs : Same F H) (h : ArgR K cn F H ms vs ds) (hN : N.length = ms.length + 1 + n) :
    RelS K cn ⟨H, H, F, some p⟩ (.slf c [] :: (ins0 ms ds ++ pad n)) (L2.start N (.ref p :: vs)) F H := by
  obtain ⟨l1, l2⟩ := h.len
  have e : N.length - (V.ref p :: vs).length = n := by simp only [List.length_cons]; omega
  unfold L2.start
  rw [e]
  refine ⟨⟨hs, Same.refl _, fun b o q _ => q, fun b q _ => q, (fun a z => by cases z; exact ⟨⟨_, _, _, hp⟩, _, hp⟩), fun _ _ z => z⟩, by simp [ins0_len h, pad_len, l1], fun i s q => ?_, fun i j d d' a q _ _ _ => ?_, fun i c' fs q => ?_⟩
  · cases i with
    | zero =>
      simp only [List.getElem?_cons_zero, Option.some.injEq] at q
      subst q
      exact ⟨p, dx, [], rfl, rfl, fp, hp, rfl, fun i v d a _ => by simp at a⟩
    | succ i => exact (ins0_at (C := ⟨H, H, F, some p⟩) hs rfl h i s (by simpa using q)).1
  · cases i with
    | zero => simp only [List.getElem?_cons_zero, Option.some.injEq] at q; cases q
    | succ i => exact absurd rfl ((ins0_at (C := ⟨H, H, F, some p⟩) hs rfl h i _ (by simpa using q)).2.1 d)
  · cases i with
    | zero => rfl
    | succ i => exact absurd rfl ((ins0_at (C := ⟨H, H, F, some p⟩) hs rfl h i _ (by simpa using q)).2.2 c' fs)
theorem bodyI {X : Cx} {cn : Cn} {N : List Str} {c n : Nat} {ms : List Bool} {sv : SV} {Ff : List D → R (List (Nat × D))} {st : List Stmt} {vs : List V} {H : Hp} {Q : VK} {E : XK} (body : JSs X cn (fun cls d _ H => E cls d H) st sv) (hN : N.length = ms.length + 1 + n) (hF : ∀ ds, Ff ds = runI c ms n sv ds) (h : spI X.K cn c ms Ff vs H Q E) :
    ∃ t, PSs X st t ∧ t { nx := fun _ H' => Q .non H', rt := Q } (L2.start N vs) H := by
    obtain ⟨t, p, d⟩ := body
    obtain ⟨hl, a, vs', dx, F0, ds, rfl, ha, fa, hs, har, k⟩ := h
    refine ⟨t, p, d ⟨H, H, F0, some a⟩ (.slf c [] :: (ins0 ms ds ++ pad n)) (L2.start N (.ref a :: vs')) F0 H _ (start_relI ha fa hs har hN) ?_⟩
    rw [hF] at k
    unfold runI at k
    rw [if_pos har.len.2] at k
    cases e : sv (.slf c [] :: (ins0 ms ds ++ pad n)) with
    | bad => rw [e] at k; exact k.elim
    | exc x Γ => rw [e] at k; exact fun cls od σ' F' H' _ r q => k cls od F' H' r.bs.f0 r.bs.fh (fun b o h1 h2 => r.bs.h0 b o h1 (fun z => h2 (Option.some.inj z).symm)) r.bs.nw (r.bs.si a rfl).2 q
    | ok q =>
      obtain ⟨ct, Γ⟩ := q
      rw [e] at k
      cases ct with
      | nx =>
        intro σ' F' H' s r
        have k := (show Post (match get Γ 0 with
          | .slf c' fs => if c' = c then Ed.R.ok fs else .bad
          | _ => .bad) _ _ from k)
        cases g : get Γ 0 with
        | slf c' fs =>
          rw [g] at k
          dsimp only at k
          by_cases ec : c' = c
          · subst ec
            rw [if_pos rfl] at k
            obtain ⟨b, dx', fvs, e1, e2, n1, h5, r1⟩ := r.at g (fun z => by cases z)
            cases e2
            exact k F' H' r.bs.f0 r.bs.fh (fun b o h1 h2 => r.bs.h0 b o h1 (fun z => h2 (Option.some.inj z).symm)) r.bs.nw ⟨dx', fvs, h5, r1⟩
          · rw [if_neg ec] at k; exact k.elim
        | _ => rw [g] at k; exact k.elim
      | ret o => exact k.elim
      | brk => exact k.elim
      | cnt => exact k.elim
theorem okI {x qual : Str} {st : Stmt} {f : Addr} {fd : FuncData} {N ps : List Str} {k c : Nat} {ms : List Bool} {n : Nat} {sv : SV} {Ff : List D → R (List (Nat × D))} (F : Fun K x qual st f fd) (S : FnScope N ps (defScope st)) (hp : ms.length + 1 = ps.length) (hN : N.length = ms.length + 1 + n) (hF : ∀ ds, Ff ds = runI c ms n sv ds)
    (hbody : ∀ (cdv : Value) (A : Around) (outer : List PySem.Env) (s : Shared) (H : Hp) (E : XK), Room k (A.deeper (PyProof.Rows.envOfC qual (defScope st) s.heap.objs.size f cdv)) →
      JSs (cxOf (L2.CX P w) P w K mg base N qual (defScope st) f cdv A outer s H E) cn (fun cls d _ H => E cls d H) (defBody st) sv) : FnOk P w K mg base (L2.CX P w) (k + 1) f fd ps (spI K cn c ms Ff) :=
  F.okX S (fun vs H Q E h => by rw [h.1]; exact hp) fun cdv A outer s H vs Q E hr h => bodyI (X := cxOf (L2.CX P w) P w K mg base N qual (defScope st) f cdv A outer s H E) (hbody cdv A outer s H E hr) hN hF h
theorem ArgR.mono {F H F' H' : Hp} (s : Same F F') (s2 : Same H H') : ∀ {ms : List Bool} {vs : List V} {ds : List D}, ArgR K cn F H ms vs ds → ArgR K cn F' H' ms vs ds
  | [], [], [], _ => True.intro
  | m :: ms, _ :: _, _ :: _, h => ⟨by
      have h1 := h.1
      cases m with
      | true => exact Shal.mono s s2 h1
      | false => exact Rep.mono s h1, ArgR.mono s s2 h.2⟩
  | [], [], _ :: _, h => h.elim
  | [], _ :: _, _, h => h.elim
  | _ :: _, [], _, h => h.elim
  | _ :: _, _ :: _, [], h => h.elim
/-- C(..) by its __init__ -/
theorem spD_make {c : Nat} {ms : List Bool} {Ff : List D → R (List (Nat × D))} {vs : List V} {H : Hp} {Q : VK} {E : XK} (h : spD K cn ms (mkF c Ff) vs H Q E) : ∀ x dx, H x = none → H dx = none → dx ≠ x →
    spI K cn c ms Ff (.ref x :: vs) (upd (upd H dx (.own x)) x (.ins (cn.ca c) dx [])) (fun v H2 => v = .non ∧ Q (.ref x) H2) E := by
  intro x dx hx hdx ne
  obtain ⟨hl, F, ds, hs, har, k⟩ := h
  have s1 : Same H (upd (upd H dx (.own x)) x (.ins (cn.ca c) dx [])) := (same_new hdx).trans (same_new (by rw [upd_ne (Ne.symm ne)]; exact hx))
  have fx : F x = none := hs.free hx
  have up : ∀ {b : Addr}, H b ≠ none → (upd (upd H dx (.own x)) x (.ins (cn.ca c) dx []) : Hp) b ≠ none := fun {b} h => by
    cases q : H b with
    | none => exact absurd q h
    | some o => rw [s1 b o q]; simp
  have nx : ∀ {b : Addr} {o : HO}, H b = some o → b ≠ x := fun {b o} q z => by rw [z, hx] at q; cases q
  refine ⟨by simp [hl], x, vs, dx, F, ds, rfl, upd_same, fx, hs.trans s1, har.mono (Same.refl _) s1, ?_⟩
  unfold mkF at k
  cases e : Ff ds with
  | bad => rw [e] at k; exact k.elim
  | exc y Γ =>
    rw [e] at k
    intro cls od F' H' a1 a2 a3 a4 a5 rx
    refine k cls od F' H' ⟨a1, fun b o q => a3 b o (s1 b o q) (nx q), a2, fun b h1 h2 => a4 b h1 (up h2)⟩ rx
  | ok fs =>
    rw [e] at k
    intro F' H' a1 a2 a3 a4 a5
    obtain ⟨dx', fvs, h5, r⟩ := a5
    refine ⟨rfl, ?_⟩
    have fx' : F' x = none := a4 x fx (by rw [upd_same]; simp)
    have sf : Same F' (upd F' x (.ins (cn.ca c) dx' fvs)) := same_new fx'
    refine k (.ref x) (upd F' x (.ins (cn.ca c) dx' fvs)) H' ⟨a1.trans sf, fun b o q => a3 b o (s1 b o q) (nx q), ?_, fun b h1 h2 => ?_⟩ (.ins upd_same r.1 (r.mono sf).2)
    · intro b o q
      by_cases z : b = x
      · subst z; rw [upd_same] at q; cases q; exact h5
      · rw [upd_ne z] at q; exact a2 b o q
    · have z : b ≠ x := fun z => by subst z; exact h2 hx
      rw [upd_ne z]; exact a4 b h1 (up h2)
end

section
variable {X : Cx} {cn : Cn} {W : WX} {e o : Expr} {es : List Expr} {pos apos : Pos} {ea eo : EV} {av : AV} {lv : LV}
/-! self.f = e -/
theorem RepP.put {F : Hp} {f : Nat} {v : V} {d : D} (hi : ∀ g, cn.fa g = cn.fa f → g = f) (rv : Rep X.K cn F v d) : ∀ {fvs : List (Str × V)} {fs : List (Nat × D)}, RepP X.K cn cn.fa F fvs fs → RepP X.K cn cn.fa F (putF (cn.fa f) v fvs) (putFd f d fs)
  | [], [], _ => ⟨rfl, fun i x y a b => by
    cases i with
    | zero =>
      simp only [putF, putFd, List.getElem?_cons_zero, Option.some.injEq] at a b
      subst a b; exact rv
    | succ i => simp [putF] at a⟩
  | [], _ :: _, h => by have := h.1; simp at this
  | _ :: _, [], h => by have := h.1; simp at this
  | (g', x) :: xs, (g, y) :: ys, h => by
    obtain ⟨hk, r⟩ := h
    simp only [List.map_cons, List.cons.injEq] at hk
    obtain ⟨hk1, hk2⟩ := hk
    have hk1 : g' = cn.fa g := hk1
    subst hk1
    by_cases q : g = f
    · subst q
      have e1 : putF (cn.fa g) v ((cn.fa g, x) :: xs) = (cn.fa g, v) :: xs := by show (if cn.fa g = cn.fa g then _ else _) = _; rw [if_pos rfl]
      have e2 : putFd g d ((g, y) :: ys) = (g, d) :: ys := by show (if g = g then _ else _) = _; rw [if_pos rfl]
      rw [e1, e2]
      refine ⟨by simp [hk2], fun i a b h1 h2 => ?_⟩
      cases i with
      | zero => simp at h1 h2; subst h1 h2; exact rv
      | succ i => exact r (i + 1) a b (by simpa using h1) (by simpa using h2)
    · have q2 : ¬ cn.fa g = cn.fa f := fun z => q (hi g z)
      have e1 : putF (cn.fa f) v ((cn.fa g, x) :: xs) = (cn.fa g, x) :: putF (cn.fa f) v xs := by show (if cn.fa g = cn.fa f then _ else _) = _; rw [if_neg q2]
      have e2 : putFd f d ((g, y) :: ys) = (g, y) :: putFd f d ys := by show (if g = f then _ else _) = _; rw [if_neg q]
      have ih := RepP.put hi rv (fvs := xs) (fs := ys) ⟨hk2, fun i a b h1 h2 => r (i + 1) a b (by simpa using h1) (by simpa using h2)⟩
      rw [e1, e2]
      refine ⟨by simp [ih.1], fun i a b h1 h2 => ?_⟩
      cases i with
      | zero => exact r 0 a b (by simpa using h1) (by simpa using h2)
      | succ i => exact ih.2 i a b (by simpa using h1) (by simpa using h2)
theorem js_fld {c f : Nat} {x fn : Str} {px pos' : Pos} (he : JE X cn W e ea) (hn : cn.fa f = fn) (hi : ∀ g, cn.fa g = cn.fa f → g = f) (hc : Cls X.K (cn.ca c)) (hna : NoAttr X.K (cn.ca c) fn) (hN : X.N[0]? = some x := by rfl) (hv : Vis X.env.scope x := by first | exact Or.inl rfl | exact Or.inr (Or.inl rfl) | exact Or.inr (Or.inr rfl)) (hd : (x == ("__debug__" : Str)) = false := by decide)
    (hcd : (x == ("__classdict__" : Str)) = false := by decide) (hs : swapsWith e (some (.Attribute (.Name x px) fn pos')) pos.line X.env = pure false := by rfl) : JS X cn W (.Assign [.Attribute (.Name x px) fn pos'] e pos) (sFld c f ea) := by
  obtain ⟨t, p, d⟩ := he
  refine ⟨_, ps_fld (pe_var hN hv hd hcd) p hs, fun C Γ σ F H Dn R k => ?_⟩
  refine d C Γ σ F H _ R (k.bind.mono (fun p k v F' H' s r rv => ?_) fun _ _ z => z)
  obtain ⟨d1, Γ1⟩ := p
  dsimp only at k r rv
  cases g : get Γ1 0 with
  | slf c' fs =>
    rw [g] at k
    dsimp only at k
    by_cases ec : c' = c ∧ fs.length < 900
    · rw [if_pos ec] at k
      have kk := k
      obtain ⟨ec, hl⟩ := ec
      subst ec
      obtain ⟨a, dx, fvs, e1, e2, n, h5, rp⟩ := r.at g (fun z => by cases z)
      have hlen : fvs.length = fs.length := by have := congrArg List.length rp.1; simpa using this
      refine ⟨.ref a, join_some e1, a, _, dx, fvs, rfl, h5, hc, hna, by omega, ?_⟩
      have g0 := get_some g (fun z => by cases z)
      have H0a : ∃ o, C.H0 a = some o := by obtain ⟨⟨c0, dx0, fs0, q⟩, _⟩ := r.bs.si a e2; exact ⟨_, q⟩
      rw [← hn]
      refine kk σ F' _ s ⟨⟨same_out r.bs.fh n, r.bs.f0, fun b o h1 h2 => ?_, r.bs.nw, fun b hb => ⟨(r.bs.si b hb).1, ?_⟩, r.bs.b0⟩, by rw [put_eq, List.length_set]; exact r.len, fun j t h => ?_, fun j k2 x y b h1 h2 h3 h4 => ?_, s0_put r.s0 (.inl rfl)⟩
      · have hb : b ≠ a := fun z => by subst z; exact h2 e2
        rw [upd_ne hb]; exact r.bs.h0 b o h1 h2
      · rw [e2] at hb; cases hb; exact ⟨_, upd_same⟩
      · rw [put_eq] at h
        rcases getSet h with ⟨rfl, rfl⟩ | ⟨z, h⟩
        · exact ⟨a, dx, _, e1, e2, n, upd_same, rp.put hi rv⟩
        · have w := r.sl j t h
          cases t with
          | emp => trivial
          | val x => exact w
          | own x =>
            obtain ⟨b, q1, m, m0, r2⟩ := w
            have hb : b ≠ a := fun e3 => by subst e3; obtain ⟨o, q⟩ := H0a; rw [m0] at q; cases q
            refine ⟨b, q1, m, m0, ?_⟩
            cases x with
            | lst ds => obtain ⟨vs, h, p⟩ := r2; exact ⟨vs, by rw [upd_ne hb]; exact h, p⟩
            | dct ds => obtain ⟨vs, h, p⟩ := r2; exact ⟨vs, by rw [upd_ne hb]; exact h, p⟩
            | _ => exact r2.elim
          | bor x => exact w
          | slf c2 fs2 =>
            obtain ⟨b, dx2, fvs2, q1, q2, m, h6, r2⟩ := w
            rw [e2] at q2; cases q2
            exact absurd (r.s0 j _ _ h).symm z
          | exn x => exact w
      · rw [put_eq] at h1 h2
        rcases getSet h1 with ⟨_, z⟩ | ⟨_, g1⟩
        · cases z
        · rcases getSet h2 with ⟨_, z⟩ | ⟨_, g2⟩
          · cases z
          · exact r.ow j k2 x y b g1 g2 h3 h4
    · rw [if_neg ec] at k; exact k.elim
  | _ => rw [g] at k; exact k.elim
end
end Ed

set_option autoImplicit true
set_option Elab.async false
set_option linter.all false
set_option maxRecDepth 100000
set_option maxHeartbeats 4000000
/-! own methods and operators, wished at the caller's slots -/
namespace L2
open PySem PySem.Spec PyProof.Rows PySem.W
section
variable {X : Cx} {k : Nat} {f C : Addr} {fd : FuncData} {ps : List Str} {sp : Sp} {W : WX} {x m : Str} {p pos apos : Pos} {e o : Expr} {es : List Expr} {ta te : TE} {t : TA}
/-- the callee runs, in an around that is like ours -/
theorem runS {A : Around} {pins : List (Addr × Obj)} {σ : L2.St} {H : Hp} {s : Shared} {Q : VK} {us : List Value} {vs : List V} (F : FnOk X.prog X.w X.K X.mg X.base (L2.CX X.prog X.w) k f fd ps sp) (hr : Room k A) (he : Env0 X.prog X.w X.K X.mg X.base A X.stack s H) (hb : Binds X.K fd ps []) (tk : Takes X W)
    (I : Inv X pins σ H s) (r : Vals vs us) (h : sp vs H Q (WE W σ)) : wpAny (model X.prog X.w) A (call (.ref f) us) (EP X pins σ Q) X.xe s := by
  have hl : us.length = ps.length := by rw [← r.length]; exact F.len _ _ _ _ h
  have b := hb s us I.kIn (by rw [List.append_nil]; exact hl)
  rw [List.append_nil] at b
  refine wpAny_call (codeAny_mono (F.run A X.stack s H ⟨us, []⟩ us vs Q (WE W σ) hr he b r h) fun r s' hq => ?_)
  cases r with
  | error e => exact passAt tk σ pins H s e s' I hq
  | ok fl =>
    cases fl with
    | ret u => exact I.after hq
    | next => exact False.elim hq
    | brk => exact False.elim hq
    | cont => exact False.elim hq
/-- o.m(e, ..) -/
def tMethX (C : Addr) (m : Str) (sp : Sp) (W : WX) (ta : TE) (t : TA) : TE := fun σ H Q => ta σ H fun x H1 => ∃ a dx fs, x = .ref a ∧ H1 a = some (.ins C dx fs) ∧ fs.lookup m = none ∧ t σ H1 fun vs H2 => sp (x :: vs) H2 Q (WE W σ)
theorem pe_methX {pl : Sem Bool} (he : PE X o ta) (c : Cls X.K C) (hm : Meth X.K C m f) (F : FnOk X.prog X.w X.K X.mg X.base (L2.CX X.prog X.w) k f fd ps sp) (hr : Room k X.A) (hb : Binds X.K fd ps []) (tk : Takes X W) (ha : PA X (e :: es) t)
    (hst : starEach (e :: es) X.env = (false, eval e X.env) :: starEach es X.env := by rfl) (hpl : (backTo pos (starEach es X.env)).any (·.1) = false := by rfl)
    (ht : eval (.Call (.Attribute o m apos) (e :: es) [] pos) X.env = (do
      let ov ← eval o X.env
      standAt apos.atName
      let (f, first) ← holding [ov] (getMethod ov m pl)
      callWith pos f first (backTo pos (starEach (e :: es) X.env)) (backToKw pos (keywordEach [] X.env))) := by rfl) :
    PE X (.Call (.Attribute o m apos) (e :: es) [] pos) (tMethX C m sp W ta t) := by
  refine ⟨fun pins s σ H Q I h => ?_⟩
  refine PySem.W.methodCall_KW (pl := pl) (thn (he.run pins s σ H _ I h) fun u s1 ⟨x, H1, I1, rx, a, dx, fs, ex, ea, l, q⟩ => ?_) ht
  subst ex
  obtain rfl : u = Value.ref a := rx
  refine getmeth_ok I1 ea c hm l ?_
  refine PySem.W.callWith_K (first := [.ref a]) (h₀ := X.base) I.ok.mod.kin hm.kp (thn (ha.run pos pins s1 σ H1 _ I1 q) fun us s2 ⟨vs, H2, I2, r, q2⟩ => ⟨I2.kIn, ?_⟩) hst hpl
  exact runS (us := .ref a :: us) (vs := .ref a :: vs) F hr I2.env0 hb tk I2 (.cons rfl r) q2
theorem pe_methX0 {pl : Sem Bool} (he : PE X o ta) (c : Cls X.K C) (hm : Meth X.K C m f) (F : FnOk X.prog X.w X.K X.mg X.base (L2.CX X.prog X.w) k f fd ps sp) (hr : Room k X.A) (hb : Binds X.K fd ps []) (tk : Takes X W)
    (ht : eval (.Call (.Attribute o m apos) [] [] pos) X.env = (do
      let ov ← eval o X.env
      standAt apos.atName
      let (f, first) ← holding [ov] (getMethod ov m pl)
      callWith pos f first (backTo pos (starEach [] X.env)) (backToKw pos (keywordEach [] X.env))) := by rfl) :
    PE X (.Call (.Attribute o m apos) [] [] pos) (tMethX C m sp W ta tNil) := by
  refine ⟨fun pins s σ H Q I h => ?_⟩
  refine PySem.W.methodCall_KW (pl := pl) (thn (he.run pins s σ H _ I h) fun u s1 ⟨x, H1, I1, rx, a, dx, fs, ex, ea, l, q⟩ => ?_) ht
  subst ex
  obtain rfl : u = Value.ref a := rx
  refine getmeth_ok I1 ea c hm l ?_
  exact PySem.W.callWith_K0 (first := [.ref a]) I1.kIn hm.kp (runS (us := [.ref a]) (vs := [.ref a]) F hr I1.env0 hb tk I1 (.cons rfl .nil) q)
/-- C(e, ..) -/
def tMakeX (C : Addr) (sp : Sp) (W : WX) (t : TA) : TE := fun σ H Q => t σ H fun vs H1 => ∀ x dx, H1 x = none → H1 dx = none → dx ≠ x →
  sp (.ref x :: vs) (upd (upd H1 dx (.own x)) x (.ins C dx [])) (fun v H2 => v = .non ∧ Q (.ref x) H2) (WE W σ)
theorem runS_make {pins : List (Addr × Obj)} {σ : L2.St} {H : Hp} {s : Shared} {Q : VK} {us : List Value} {vs : List V} (M : Mk X.K C f) (F : FnOk X.prog X.w X.K X.mg X.base (L2.CX X.prog X.w) k f fd ps sp) (hr : Room (k + 1) X.A) (hb : Binds X.K fd ps [])
    (tk : Takes X W) (I : Inv X pins σ H s) (r : Vals vs us)
    (h : ∀ x dx, H x = none → H dx = none → dx ≠ x → sp (.ref x :: vs) (upd (upd H dx (.own x)) x (.ins C dx [])) (fun v H2 => v = .non ∧ Q (.ref x) H2) (WE W σ)) :
    wpAny (model X.prog X.w) X.A (call (.ref C) us) (EP X pins σ Q) X.xe s := by
  have hq := h (s.heap.objs.size + 1) s.heap.objs.size (I.hok.fresh (Nat.le_succ _)) (I.hok.fresh (Nat.le_refl _)) (Nat.ne_of_lt (Nat.lt_succ_self _))
  have I2 := Inv.made (C := C) I
  have r2 : Vals (V.ref (s.heap.objs.size + 1) :: vs) (Value.ref (s.heap.objs.size + 1) :: us) := .cons rfl r
  have hl : (Value.ref (s.heap.objs.size + 1) :: us).length = ps.length := by
    have e := r2.length
    rw [F.len _ _ _ _ hq] at e
    exact e.symm
  have b := hb _ (Value.ref (s.heap.objs.size + 1) :: us) I2.kIn (by rw [List.append_nil]; exact hl)
  rw [List.append_nil] at b
  refine wpAny_call (make_map (f := f) I.kIn M.makes M.init (beq_iff_eq.mp M.fn) (codeAny_mono (F.run _ X.stack _ _ ⟨Value.ref (s.heap.objs.size + 1) :: us, []⟩ (Value.ref (s.heap.objs.size + 1) :: us) _ _ (WE W σ) (hr.make C us [])
    (I2.env0.make C us []) b r2 hq) fun r s' hq' => ?_))
  cases r with
  | error e => exact passAt tk σ pins _ _ e s' I2 hq'
  | ok fl =>
    cases fl with
    | ret u =>
      obtain ⟨v, H', I3, rv, ev, q3⟩ := I2.after hq'
      subst ev
      exact ⟨rv, ⟨V.ref (s.heap.objs.size + 1), H', I3, rfl, q3⟩⟩
    | next => exact False.elim hq'
    | brk => exact False.elim hq'
    | cont => exact False.elim hq'
theorem pe_makeX (M : Mk X.K C f) (F : FnOk X.prog X.w X.K X.mg X.base (L2.CX X.prog X.w) k f fd ps sp) (hr : Room (k + 1) X.A) (hg : Gl X x) (hm : X.mg x = some (.ref C)) (hb : Binds X.K fd ps []) (tk : Takes X W)
    (ha : PA X (e :: es) t) (hdb : (x == ("__debug__" : Str)) = false := by decide) (he : starEach (e :: es) X.env = (false, eval e X.env) :: starEach es X.env := by rfl) (hpl : (backTo pos (starEach es X.env)).any (·.1) = false := by rfl) :
    PE X (.Call (.Name x p) (e :: es) [] pos) (tMakeX C sp W t) := by
  refine ⟨fun pins s σ H Q I h => ?_⟩
  refine wpAny_Call_Name_kw (ld_glob I hg hm ?_ hdb)
  refine PySem.W.callWith_K (h₀ := X.base) I.ok.mod.kin M.kp (thn (ha.run pos pins s σ H _ I h) fun us s1 ⟨vs, H1, I1, r, q⟩ => ⟨I1.kIn, ?_⟩) he hpl
  exact runS_make M F hr hb tk I1 r q
/-- C.m(e, ..), m a staticmethod: the def at f -/
structure SMeth (K : PySem.W.Frag) (C f : Addr) (m : Str) (mc : Value) (q : Addr) : Prop where
  rd : PySem.W.readsIn K C mc = true
  ga : PySem.W.specialIn K (.ref C) "__getattribute__" = some (some (.builtin "type.__getattribute__"))
  fc : PySem.W.findCls K (.ref C) mc m = some (.get (.builtin "staticmethod.__get__") (.ref q) .none (.ref C))
  rc : ∃ rest, PySem.W.recIn K q "staticmethod" = some (.ref f :: rest)
  kp : PySem.W.keepIn K (.ref f) = true
theorem pe_smX {pl : Sem Bool} {mc : Value} {q : Addr} {px : Pos} (hg : Gl X x) (hm : X.mg x = some (.ref C)) (S : SMeth X.K C f m mc q) (F : FnOk X.prog X.w X.K X.mg X.base (L2.CX X.prog X.w) k f fd ps sp) (hr : Room k X.A) (hb : Binds X.K fd ps []) (tk : Takes X W) (ha : PA X (e :: es) t)
    (hdb : (x == ("__debug__" : Str)) = false := by decide) (hst : starEach (e :: es) X.env = (false, eval e X.env) :: starEach es X.env := by rfl) (hpl : (backTo pos (starEach es X.env)).any (·.1) = false := by rfl)
    (ht : eval (.Call (.Attribute (.Name x px) m apos) (e :: es) [] pos) X.env = (do
      let ov ← eval (.Name x px) X.env
      standAt apos.atName
      let (f, first) ← holding [ov] (getMethod ov m pl)
      callWith pos f first (backTo pos (starEach (e :: es) X.env)) (backToKw pos (keywordEach [] X.env))) := by rfl) :
    PE X (.Call (.Attribute (.Name x px) m apos) (e :: es) [] pos) (tCallS sp (WE W) t) := by
  refine ⟨fun pins s σ H Q I h => ?_⟩
  refine PySem.W.methodCall_KW (pl := pl) (ld_glob I hg hm ?_ hdb) ht
  obtain ⟨rest, hp⟩ := S.rc
  refine PySem.W.method_cls I.kIn S.ga (PySem.W.cls_bind I.kIn S.rd S.fc (wpAny_call (PySem.W.sm_get (s := { s with toks := s.toks + 1 }) I.kIn hp (PySem.W.handed_on rfl ?_))))
  have I0 := I.tok (s.toks + 1)
  refine PySem.W.callWith_K (first := []) (h₀ := X.base) I.ok.mod.kin S.kp (thn (ha.run pos pins _ σ H _ I0 h) fun us s2 ⟨vs, H2, I2, r, q2⟩ => ⟨I2.kIn, ?_⟩) hst hpl
  exact runS (us := us) (vs := vs) F hr I2.env0 hb tk I2 r q2
theorem ins_atS {pins : List (Addr × Obj)} {s : Shared} {σ : L2.St} {H : Hp} {a C dx : Addr} {fs : List (Str × V)} (I : Inv X pins σ H s) (e : H a = some (.ins C dx fs)) :
    ∃ od, InstAt s.heap a (instObj C dx) C (some od) := by
  obtain ⟨mA, O, _⟩ := ins_get I.hok e
  obtain ⟨od, J, _⟩ := O.look
  exact ⟨od, J⟩
theorem val_casesS {v : V} {u : Value} (r : RelV v u) : u ≠ .notImplemented := by
  cases v with
  | non => cases (show u = Value.none from r); exact fun z => nomatch z
  | bl b => cases (show u = Value.bool b from r); exact fun z => nomatch z
  | int i => obtain ⟨t, e⟩ := (show ∃ t, u = Value.int i t from r); cases e; exact fun z => nomatch z
  | str x => obtain ⟨t, e⟩ := (show ∃ t, u = Value.str x t from r); cases e; exact fun z => nomatch z
  | byt b => obtain ⟨t, e⟩ := (show ∃ t, u = Value.bytes b t from r); cases e; exact fun z => nomatch z
  | flt b => obtain ⟨t, e⟩ := (show ∃ t, u = Value.float b t from r); cases e; exact fun z => nomatch z
  | ref a => cases (show u = Value.ref a from r); exact fun z => nomatch z
  | ty n => cases (show u = Value.type n from r); exact fun z => nomatch z
theorem cmpBack_S {Q' : Value → Shared → Prop} {v : V} {u : Value} {s' : Shared} (r : RelV v u) (h : Q' u s') : PySem.W.CmpBack Q' u s' := by
  have hn := val_casesS r
  cases u with
  | notImplemented => exact absurd rfl hn
  | _ => exact h
/-- a op b of two instances of one class -/
def tOwn2 (C : Addr) (sp : Sp) (W : WX) (ta tb : TE) : TE := fun σ H Q => ta σ H fun x H1 => tb σ H1 fun y H2 => ∃ a dx fs b dy gs, x = .ref a ∧ y = .ref b ∧ H2 a = some (.ins C dx fs) ∧ H2 b = some (.ins C dy gs) ∧ sp [x, y] H2 Q (WE W σ)
theorem pe_own2 {a b : Expr} {tb : TE} {op : Operator} (sf : selfFirst X.K C = true) (hm : Meth X.K C (PySem.dunder op.info.2) f) (F : FnOk X.prog X.w X.K X.mg X.base (L2.CX X.prog X.w) k f fd ps sp) (hr : Room k X.A) (hb : Binds X.K fd ps []) (tk : Takes X W) (ha : PE X a ta) (hb2 : PE X b tb) :
    PE X (.BinOp a op b pos) (tOwn2 C sp W ta tb) := by
  refine ⟨fun pins s σ H Q I h => ?_⟩
  refine wpAny_BinOp (binT ha hb2 I h fun v u s2 x y H2 I2 rx ry q => ?_)
  obtain ⟨a, dx, fs, b, dy, gs, rfl, rfl, ha, hb', q⟩ := q
  obtain rfl : v = Value.ref a := rx
  obtain rfl : u = Value.ref b := ry
  obtain ⟨m, F0⟩ := I2.fr
  obtain ⟨od, J⟩ := ins_atS I2 ha
  obtain ⟨od2, J2⟩ := ins_atS I2 hb'
  refine binop_K F0 I2.mod.kin J J2.type sf hm.at_ hm.fn (wpAny_mono (runS F hr I2.env0 hb tk I2 (us := [.ref a, .ref b]) (vs := [.ref a, .ref b]) (.cons rfl (.cons rfl .nil)) q) (fun z s' hz => ?_) fun _ _ e => e)
  obtain ⟨v', H', I', r', q'⟩ := hz
  exact cmpBack_S r' ⟨v', H', I', r', q'⟩
/-- a == b of two instances of one class -/
theorem pe_ownEq {a b : Expr} {tb : TE} (nf : notFirst X.K C (.ref C) = true) (hm : Meth X.K C "__eq__" f) (F : FnOk X.prog X.w X.K X.mg X.base (L2.CX X.prog X.w) k f fd ps sp) (hr : Room k X.A) (hb : Binds X.K fd ps []) (tk : Takes X W) (ha : PE X a ta) (hb2 : PE X b tb) :
    PE X (.Compare a [.Eq] [b] pos) (tOwn2 C sp W ta tb) := by
  refine ⟨fun pins s σ H Q I h => ?_⟩
  refine wpAny_Compare1 (binT ha hb2 I h fun v u s2 x y H2 I2 rx ry q => ?_) (nobehind _ (by decide) (by decide))
  obtain ⟨a, dx, fs, b, dy, gs, rfl, rfl, ha, hb', q⟩ := q
  obtain rfl : v = Value.ref a := rx
  obtain rfl : u = Value.ref b := ry
  obtain ⟨m, F0⟩ := I2.fr
  obtain ⟨od, J⟩ := ins_atS I2 ha
  obtain ⟨od2, J2⟩ := ins_atS I2 hb'
  show wpAny (model X.prog X.w) X.A (richCompare .Eq (.ref a) (.ref b)) (EP X pins σ Q) X.xe s2
  refine cmp_K (op := .Eq) (tb := .ref C) hr.units0 F0 I2.mod.kin J J2.type nf hm.at_ hm.fn (wpAny_mono (runS F hr I2.env0 hb tk I2 (us := [.ref a, .ref b]) (vs := [.ref a, .ref b]) (.cons rfl (.cons rfl .nil)) q) (fun z s' hz => ?_) fun _ _ e => e)
  obtain ⟨v', H', I', r', q'⟩ := hz
  exact cmpBack_S r' ⟨v', H', I', r', q'⟩
/-- -a, ~a -/
def tOwn1 (C : Addr) (sp : Sp) (W : WX) (ta : TE) : TE := fun σ H Q => ta σ H fun x H1 => ∃ a dx fs, x = .ref a ∧ H1 a = some (.ins C dx fs) ∧ sp [x] H1 Q (WE W σ)
theorem pe_ownInv {a : Expr} (hm : Meth X.K C "__invert__" f) (F : FnOk X.prog X.w X.K X.mg X.base (L2.CX X.prog X.w) k f fd ps sp) (hr : Room k X.A) (hb : Binds X.K fd ps []) (tk : Takes X W) (ha : PE X a ta) : PE X (.UnaryOp .Invert a pos) (tOwn1 C sp W ta) := by
  refine ⟨fun pins s σ H Q I h => ?_⟩
  refine PyProof.Rows.UnaryOp_ (thn (ha.run pins s σ H _ I h) fun v s1 ⟨x, H1, I1, r1, a, dx, fs, ex, ea, q⟩ => ?_)
  subst ex
  obtain rfl : v = Value.ref a := r1
  obtain ⟨m, F0⟩ := I1.fr
  obtain ⟨od, J⟩ := ins_atS I1 ea
  exact ksp_inv F0 I1.mod.kin J hm.at_ hm.fn (runS F hr I1.env0 hb tk I1 (us := [.ref a]) (vs := [.ref a]) (.cons rfl .nil) q)
/-- o[i] by an own __getitem__ -/
def tOwnIx (C : Addr) (sp : Sp) (W : WX) (ta tb : TE) : TE := fun σ H Q => ta σ H fun x H1 => tb σ H1 fun y H2 => ∃ a dx fs, x = .ref a ∧ H2 a = some (.ins C dx fs) ∧ sp [x, y] H2 Q (WE W σ)
/-- y in o by an own __contains__ -/
def tOwnIn (C : Addr) (sp : Sp) (W : WX) (ta tb : TE) : TE := fun σ H Q => ta σ H fun x H1 => tb σ H1 fun y H2 => ∃ a dx fs, y = .ref a ∧ H2 a = some (.ins C dx fs) ∧ sp [y, x] H2 (fun v H3 => ∃ b, v = .bl b ∧ Q (.bl b) H3) (WE W σ)
/-- bool(o), str(o), len(o), abs(o) -/
def tOwnB (C : Addr) (sp : Sp) (W : WX) (t : TA) : TE := fun σ H Q => t σ H fun xs H1 => ∃ a dx fs, xs = [.ref a] ∧ H1 a = some (.ins C dx fs) ∧ sp xs H1 (fun v H3 => ∃ b, v = .bl b ∧ Q (.bl b) H3) (WE W σ)
def tOwnS (C : Addr) (sp : Sp) (W : WX) (t : TA) : TE := fun σ H Q => t σ H fun xs H1 => ∃ a dx fs, xs = [.ref a] ∧ H1 a = some (.ins C dx fs) ∧ sp xs H1 (fun v H3 => ∃ b, v = .str b ∧ Q (.str b) H3) (WE W σ)
def tOwnL (C : Addr) (sp : Sp) (W : WX) (t : TA) : TE := fun σ H Q => t σ H fun xs H1 => ∃ a dx fs, xs = [.ref a] ∧ H1 a = some (.ins C dx fs) ∧ sp xs H1 (fun v H3 => ∃ n, v = .int n ∧ (0 ≤ n ∧ n < 2 ^ 63) ∧ Q (.int n) H3) (WE W σ)
theorem bool_hereS {prog : Program} {w : World} {A : Around} {E : Value → Shared → Prop} {s : Shared} {x : Value} {Q : Value → Shared → Prop}
    (h : wpAny (model prog w) A.in1.in1 (truthy x) (fun b s' => Q (.bool b) s') E s) : wpAny (model prog w) A (call (.type "bool") [x]) Q E s := by
  have ft := F.called_bool
  obtain ⟨c, tl, hmro⟩ := ft.mro
  have hmade := ft.made
  have hsub := ft.sub
  have f1 := F.conv_sub_bool
  have h1 := ft.notType
  have h2 := ft.canCreate
  have new : wpAny (model prog w) A.in1.in1 (Builtin.«bool.__new__» ⟨[.type "bool", x], []⟩) (fun fin s' => ∃ b, fin = .done (.ret (.bool b)) ∧ Q (.bool b) s') E s := by
    obtain ⟨hp, g, d, tk, os⟩ := s
    unfold Builtin.«bool.__new__»
    repeat (any_goals (first | assumption | wp_step))
    refine wpAny_mono h (fun b s' q => ?_) (fun _ _ e => e)
    exact wpAny_pure ⟨b, rfl, q⟩
  have hlook := ft.init.lookup
  refine wpAny_call (codeAny_of_tree ?_)
  show wpAny _ _ (callAny (.type "bool") _) _ _ _
  refine wpAny_pure ⟨Code.quiet_builtin _ (by decide +kernel), codeAny_builtin PySem.F.entry_type_call ?_⟩
  rw [Around.under_plain (weight_type_call_type "bool" [x] []) (units_type_call_type "bool" [x] [])]
  repeat (any_goals (first | assumption | wp_step))
  refine codeAny_mono (codeAny_call_builtin (R := fun r s' => match r with | .ok (.ret v) => (∃ b, v = .bool b) ∧ Q v s' | .ok _ => False | .error e => E e s') ft.plain F.entry_bool_new (wpAny_of_eq (F.newCall_bool_1 x) (wpAny_mono new (fun fin s' q => ?_) fun _ _ e => e))) fun r s1 hr => ?_
  · obtain ⟨b, rfl, q⟩ := q
    exact ⟨⟨b, rfl⟩, q⟩
  · cases r with
    | error e => exact hr
    | ok fl =>
      cases fl with
      | ret obj =>
        obtain ⟨⟨b, rfl⟩, q⟩ := hr
        have hT : s1.TypeIs (.bool b) "bool" := PySem.typeIs_bool _ _
        have hbi := ft.init.bind (.bool b)
        repeat (any_goals (first | assumption | wp_step))
        have im := object_init_meets (self := .bool b) (rest := [x]) ft.init.lookup ft.made F.newNe_bool prog w A.in1 (fun r s' => r = .ok (.ret .none) ∧ Q (.bool b) s') s1 ⟨hT, rfl, q⟩
        refine codeAny_mono (codeAny_call_builtin (R := fun r s' => r = .ok (.ret .none) ∧ Q (.bool b) s') ft.init.plain PySem.F.entry_object_init (ft.init.check _ _ _ _ _ _ _ _ hT (F.args_object_init_2 _ x) im)) fun r2 s2 hr2 => ?_
        obtain ⟨rfl, q2⟩ := hr2
        repeat (any_goals (first | assumption | wp_step))
      | _ => exact hr.elim
theorem pe_ownBool (hm : Meth X.K C "__bool__" f) (F : FnOk X.prog X.w X.K X.mg X.base (L2.CX X.prog X.w) k f fd ps sp) (hr : Room (k + 1 + 1) X.A) (hb : Binds X.K fd ps []) (tk : Takes X W) (hg : Gl X "bool") (hmn : X.mg "bool" = none) (ha : PA X (e :: es) t)
    (he : starEach (e :: es) X.env = (false, eval e X.env) :: starEach es X.env := by rfl) (hpl : (backTo pos (starEach es X.env)).any (·.1) = false := by rfl) : PE X (.Call (.Name "bool" p) (e :: es) [] pos) (tOwnB C sp W t) := by
  refine ⟨fun pins s σ H Q I h => ?_⟩
  refine wpAny_Call_Name_kw (ld_blt I hg hmn (u := Value.type "bool") (by decide +kernel) ?_ (by decide) (by decide))
  refine PyProof.Rows.callWith_type1 (thn (ha.run pos pins s σ H _ I h) fun us s1 ⟨vs, H1, I1, r1, a, dx, fs, ex, ea, q⟩ => ?_) he hpl
  subst ex
  obtain ⟨u, rfl, rx⟩ := vals1 r1
  obtain rfl : u = Value.ref a := rx
  obtain ⟨m, F0⟩ := I1.fr
  obtain ⟨od, J⟩ := ins_atS I1 ea
  refine bool_hereS (truthy_K F0 I1.mod.kin J hm.at_ hm.fn (wpAny_mono (runS F hr.in1.in1 I1.env0.in1.in1 hb tk I1 (us := [.ref a]) (vs := [.ref a]) (.cons rfl .nil) q) (fun z s' hz => ?_) fun _ _ e => e))
  obtain ⟨v', H', I', r', b, rfl, q'⟩ := hz
  cases (show z = Value.bool b from r')
  exact ⟨.bl b, H', I', rfl, q'⟩
theorem pe_ownStr (hm : Meth X.K C "__str__" f) (F : FnOk X.prog X.w X.K X.mg X.base (L2.CX X.prog X.w) k f fd ps sp) (hr : Room (k + 1 + 1) X.A) (hb : Binds X.K fd ps []) (tk : Takes X W) (hg : Gl X "str") (hmn : X.mg "str" = none) (ha : PA X (e :: es) t)
    (he : starEach (e :: es) X.env = (false, eval e X.env) :: starEach es X.env := by rfl) (hpl : (backTo pos (starEach es X.env)).any (·.1) = false := by rfl) : PE X (.Call (.Name "str" p) (e :: es) [] pos) (tOwnS C sp W t) := by
  refine ⟨fun pins s σ H Q I h => ?_⟩
  refine wpAny_Call_Name_kw (ld_blt I hg hmn (u := Value.type "str") (by decide +kernel) ?_ (by decide) (by decide))
  refine PyProof.Rows.callWith_type1 (thn (ha.run pos pins s σ H _ I h) fun us s1 ⟨vs, H1, I1, r1, a, dx, fs, ex, ea, q⟩ => ?_) he hpl
  subst ex
  obtain ⟨u, rfl, rx⟩ := vals1 r1
  obtain rfl : u = Value.ref a := rx
  obtain ⟨od, J⟩ := ins_atS I1 ea
  refine kso_call hr.in1.in1.units0 I1.kIn J hm.at_ hm.fn (wpAny_mono (runS F hr.in1.in1 I1.env0.in1.in1 hb tk I1 (us := [.ref a]) (vs := [.ref a]) (.cons rfl .nil) q) (fun z s' hz => ?_) fun _ _ e => e)
  obtain ⟨v', H', I', r', b, rfl, q'⟩ := hz
  obtain ⟨tk', rfl⟩ := (show ∃ t, z = Value.str b t from r')
  exact ⟨.str b, H', I', ⟨_, rfl⟩, q'⟩
theorem pe_ownLen (hm : Meth X.K C "__len__" f) (F : FnOk X.prog X.w X.K X.mg X.base (L2.CX X.prog X.w) k f fd ps sp) (hr : Room (k + 1) X.A) (hb : Binds X.K fd ps []) (tk : Takes X W) (hg : Gl X "len") (hmn : X.mg "len" = none) (ha : PA X (e :: es) t)
    (he : starEach (e :: es) X.env = (false, eval e X.env) :: starEach es X.env := by rfl) (hpl : (backTo pos (starEach es X.env)).any (·.1) = false := by rfl) : PE X (.Call (.Name "len" p) (e :: es) [] pos) (tOwnL C sp W t) := by
  refine ⟨fun pins s σ H Q I h => ?_⟩
  refine wpAny_Call_Name_kw (ld_blt I hg hmn (u := Value.builtin "len") (by decide +kernel) ?_ (by decide) (by decide))
  refine PyProof.Rows.callWith_builtin1 (thn (ha.run pos pins s σ H _ I h) fun us s1 ⟨vs, H1, I1, r1, a, dx, fs, ex, ea, q⟩ => ?_) he hpl
  subst ex
  obtain ⟨u, rfl, rx⟩ := vals1 r1
  obtain rfl : u = Value.ref a := rx
  obtain ⟨m, F0⟩ := I1.fr
  obtain ⟨od, J⟩ := ins_atS I1 ea
  refine len_K F0 I1.mod.kin J hm.at_ hm.fn (wpAny_mono (runS F hr.in1 I1.env0.in1 hb tk I1 (us := [.ref a]) (vs := [.ref a]) (.cons rfl .nil) q) (fun z s' hz => ?_) fun _ _ e => e)
  obtain ⟨v', H', I', r', n, rfl, hn, q'⟩ := hz
  obtain ⟨tk', rfl⟩ := (show ∃ t, z = Value.int n t from r')
  exact ⟨hn, .int n, H', I'.tok _, ⟨_, rfl⟩, q'⟩
theorem pe_ownIx {a b : Expr} {tb : TE} (hq : noSeq X.K C = true) (hm : Meth X.K C "__getitem__" f) (F : FnOk X.prog X.w X.K X.mg X.base (L2.CX X.prog X.w) k f fd ps sp) (hr : Room k X.A) (hb : Binds X.K fd ps []) (tk : Takes X W) (ha : PE X a ta) (hb2 : PE X b tb) (hs : PlainIx b)
    (htail : ∀ (pins : List (Addr × Obj)) (s : Shared) (σ : L2.St) (H : Hp) (x : Addr) (dx : Addr) (fs : List (Str × V)) (u : Value) (Q : Value → Shared → Prop), Inv X pins σ H s → H x = some (.ins C dx fs) → wpAny (model X.prog X.w) X.A (getItem (.ref x) u) Q X.xe s → wpAny (model X.prog X.w) X.A (subscriptTail a b (.ref x) u) Q X.xe s) :
    PE X (.Subscript a b pos) (tOwnIx C sp W ta tb) := by
  refine ⟨fun pins s σ H Q I h => ?_⟩
  refine PyProof.Rows.Subscript_ (binT ha hb2 I h fun v u s2 x y H2 I2 rx ry q => ?_)
  obtain ⟨a, dx, fs, rfl, ha, q⟩ := q
  obtain rfl : v = Value.ref a := rx
  obtain ⟨m, F0⟩ := I2.fr
  obtain ⟨od, J⟩ := ins_atS I2 ha
  refine htail pins s2 σ H2 a dx fs u _ I2 ha (getItem_K F0 I2.mod.kin J hq hm.at_ hm.fn ?_)
  exact runS F hr I2.env0 hb tk I2 (us := [.ref a, u]) (vs := [.ref a, y]) (.cons rfl (.cons ry .nil)) q
theorem pe_ownIn {a b : Expr} {tb : TE} (hm : Meth X.K C "__contains__" f) (F : FnOk X.prog X.w X.K X.mg X.base (L2.CX X.prog X.w) k f fd ps sp) (hr : Room k X.A) (hb : Binds X.K fd ps []) (tk : Takes X W) (ha : PE X a ta) (hb2 : PE X b tb) (hmk : behindInMarks .In b = false := by rfl) :
    PE X (.Compare a [.In] [b] pos) (tOwnIn C sp W ta tb) := by
  refine ⟨fun pins s σ H Q I h => ?_⟩
  refine wpAny_Compare1 (binT ha hb2 I h fun v u s2 x y H2 I2 rx ry q => ?_) hmk
  obtain ⟨a, dx, fs, rfl, ha, q⟩ := q
  obtain rfl : u = Value.ref a := ry
  obtain ⟨m, F0⟩ := I2.fr
  obtain ⟨od, J⟩ := ins_atS I2 ha
  refine in_K F0 I2.mod.kin J hm.at_ hm.fn (wpAny_mono (runS F hr I2.env0 hb tk I2 (us := [.ref a, v]) (vs := [.ref a, x]) (.cons rfl (.cons rx .nil)) q) (fun z s' hz => ?_) fun _ _ e => e)
  obtain ⟨v', H', I', r', b, rfl, q'⟩ := hz
  cases (show z = Value.bool b from r')
  exact wpAny_truthy_bool ⟨.bl b, H', I', rfl, q'⟩
end
end L2

set_option autoImplicit true
set_option Elab.async false
set_option linter.all false
set_option maxRecDepth 100000
set_option maxHeartbeats 4000000
/-! rules: methods, objects made, own operators, errors raised and caught -/
namespace Ed
open PySem L2

section
variable {X : Cx} {cn : Cn} {W : WX} {a b e o : Expr} {es : List Expr} {pos apos : Pos} {ea eb eo : EV} {qa qb : QV} {av : AV} {lv : LV} {sa sb : SV}
variable {k c : Nat} {f : Addr} {fd : FuncData} {ps : List Str} {ms : List Bool} {Ff : FV} {x m : Str} {p : Pos}
theorem insOf {F : Hp} {v : V} {c : Nat} {fs : List (Nat × D)} (h : Rep X.K cn F v (.ins c fs)) : ∃ a dx fvs, v = .ref a ∧ F a = some (.ins (cn.ca c) dx fvs) ∧ fvs.map (·.1) = fs.map (fun p => cn.fa p.1) := by
  cases h with
  | ins h hk r => exact ⟨_, _, _, rfl, h, hk⟩
theorem look_no {m : Str} {fa : Nat → Str} (hm : ∀ g, fa g ≠ m) : ∀ {fvs : List (Str × V)} {fs : List (Nat × D)}, fvs.map (·.1) = fs.map (fun p => fa p.1) → fvs.lookup m = none
  | [], _, _ => rfl
  | _ :: _, [], h => by simp at h
  | (g, y) :: r, (g2, z) :: r2, h => by
    simp only [List.map_cons, List.cons.injEq] at h
    obtain ⟨h1, h2⟩ := h
    have h1 : g = fa g2 := h1
    subst h1
    have q : (m == fa g2) = false := beq_eq_false_iff_ne.mpr fun z => hm g2 z.symm
    simp only [List.lookup, q]
    exact look_no hm h2
theorem dn_meth {t1 : TE} {t : TA} {C0 : Addr} {ms : List Bool} {Q : VK} {P' : D × Env → Prop} {C : Ct} {Γ : Env} {σ : L2.St} {F H : Hp} {fin : DV × Env → R (D × Env)} (hC : C0 = cn.ca c) (hm : ∀ g, cn.fa g ≠ m) (h1 : DE cn W X.K t1 eo) (h2 : DA cn W X.K t av) (R : RelS X.K cn C Γ σ F H)
    (k : Post ((eo Γ).bind fun (d, Γ0) => match d with
      | .ins c' _ => if c' = c then (av Γ0).bind fun (ps, Γ1) => (callF Ff (false :: ms) (.pd d :: ps) Γ1).bind fin else .bad
      | _ => .bad) P' (XW X.K cn C F W))
    (hP : ∀ o Γ2 v F2 H2, Post (fin (o, Γ2)) P' (XW X.K cn C F W) → Same F F2 → RelS X.K cn C Γ2 σ F2 H2 → DVN X.K cn C Γ2 σ F2 H2 v o → Q v H2) : tMethX C0 m (spD X.K cn (false :: ms) Ff) W t1 t σ H Q := by
  subst hC
  refine h1 C Γ σ F H _ R (k.bind.mono (fun p k v F' H' s1 R1 hv => ?_) fun _ _ z => z)
  obtain ⟨d, Γ0⟩ := p
  cases d with
  | ins c' fs =>
    dsimp only at k R1 hv
    by_cases ec : c' = c
    · subst ec
      rw [if_pos rfl] at k
      obtain ⟨a, dx, fvs, ev, ha, hk⟩ := insOf hv
      refine ⟨a, dx, fvs, ev, R1.bs.fh _ _ ha, look_no hm hk, ?_⟩
      refine h2 C Γ0 σ F' H' _ R1 (k.bind.mono (fun q k vs F2 H2 s2 R2 hw => ?_) fun _ _ z => XW.up s1 z)
      exact call_ok (ps := .pd (.ins c' fs) :: q.1) R2 ⟨hv.mono s2, hw⟩ (k.bind.mono (fun _ z => z) fun _ _ z => XW.up (s1.trans s2) z) fun o Γ2 v2 F3 H3 hp s3 R3 dv => hP o Γ2 v2 F3 H3 hp ((s1.trans s2).trans s3) R3 dv
    · rw [if_neg ec] at k; exact k.elim
  | _ => exact k.elim
theorem je_meth {pl : Sem Bool} (he : JE X cn W o eo) (hc : Cls X.K (cn.ca c)) (hm : Meth X.K (cn.ca c) m f) (hno : ∀ g, cn.fa g ≠ m) (F : FnOk X.prog X.w X.K X.mg X.base (L2.CX X.prog X.w) k f fd ps (spD X.K cn (false :: ms) Ff)) (hr : Room k X.A) (hb : Binds X.K fd ps []) (tk : Takes X W) (ha : JA X cn W (e :: es) av)
    (hst : starEach (e :: es) X.env = (false, eval e X.env) :: starEach es X.env := by rfl) (hpl : (backTo pos (starEach es X.env)).any (·.1) = false := by rfl)
    (ht : eval (.Call (.Attribute o m apos) (e :: es) [] pos) X.env = (do
      let ov ← eval o X.env
      standAt apos.atName
      let (f, first) ← holding [ov] (getMethod ov m pl)
      callWith pos f first (backTo pos (starEach (e :: es) X.env)) (backToKw pos (keywordEach [] X.env))) := by rfl) : JE X cn W (.Call (.Attribute o m apos) (e :: es) [] pos) (eMeth c Ff ms eo av) := by
  obtain ⟨t1, p1, d1⟩ := he
  obtain ⟨t2, p2, d2⟩ := ha
  exact ⟨_, pe_methX p1 hc hm F hr hb tk p2 hst hpl ht, fun C Γ σ F H Q R k => dn_meth rfl hno d1 d2 R k fun o Γ2 v F2 H2 hp s R2 dv => dvn_e s R2 dv hp⟩
theorem jn_meth {pl : Sem Bool} (he : JE X cn W o eo) (hc : Cls X.K (cn.ca c)) (hm : Meth X.K (cn.ca c) m f) (hno : ∀ g, cn.fa g ≠ m) (F : FnOk X.prog X.w X.K X.mg X.base (L2.CX X.prog X.w) k f fd ps (spD X.K cn (false :: ms) Ff)) (hr : Room k X.A) (hb : Binds X.K fd ps []) (tk : Takes X W) (ha : JA X cn W (e :: es) av)
    (hst : starEach (e :: es) X.env = (false, eval e X.env) :: starEach es X.env := by rfl) (hpl : (backTo pos (starEach es X.env)).any (·.1) = false := by rfl)
    (ht : eval (.Call (.Attribute o m apos) (e :: es) [] pos) X.env = (do
      let ov ← eval o X.env
      standAt apos.atName
      let (f, first) ← holding [ov] (getMethod ov m pl)
      callWith pos f first (backTo pos (starEach (e :: es) X.env)) (backToKw pos (keywordEach [] X.env))) := by rfl) : JN X cn W (.Call (.Attribute o m apos) (e :: es) [] pos) (nMeth c Ff ms eo av) := by
  obtain ⟨t1, p1, d1⟩ := he
  obtain ⟨t2, p2, d2⟩ := ha
  refine ⟨_, pe_methX p1 hc hm F hr hb tk p2 hst hpl ht, fun C Γ σ F H Q R k => dn_meth rfl hno d1 d2 R k fun o Γ2 v F2 H2 hp s R2 dv => ?_⟩
  cases o with
  | fz d => exact hp.elim
  | fr d => exact hp v F2 H2 s R2 dv
theorem da_nil : DA cn W X.K tNil aNil := fun C Γ σ F H Q r k => k [] F H (Same.refl _) r True.intro
theorem je_meth0 {pl : Sem Bool} (he : JE X cn W o eo) (hc : Cls X.K (cn.ca c)) (hm : Meth X.K (cn.ca c) m f) (hno : ∀ g, cn.fa g ≠ m) (F : FnOk X.prog X.w X.K X.mg X.base (L2.CX X.prog X.w) k f fd ps (spD X.K cn [false] Ff)) (hr : Room k X.A) (hb : Binds X.K fd ps []) (tk : Takes X W)
    (ht : eval (.Call (.Attribute o m apos) [] [] pos) X.env = (do
      let ov ← eval o X.env
      standAt apos.atName
      let (f, first) ← holding [ov] (getMethod ov m pl)
      callWith pos f first (backTo pos (starEach [] X.env)) (backToKw pos (keywordEach [] X.env))) := by rfl) : JE X cn W (.Call (.Attribute o m apos) [] [] pos) (eMeth c Ff [] eo aNil) := by
  obtain ⟨t1, p1, d1⟩ := he
  exact ⟨_, pe_methX0 p1 hc hm F hr hb tk ht, fun C Γ σ F H Q R k => dn_meth rfl hno d1 da_nil R k fun o Γ2 v F2 H2 hp s R2 dv => dvn_e s R2 dv hp⟩
theorem jn_meth0 {pl : Sem Bool} (he : JE X cn W o eo) (hc : Cls X.K (cn.ca c)) (hm : Meth X.K (cn.ca c) m f) (hno : ∀ g, cn.fa g ≠ m) (F : FnOk X.prog X.w X.K X.mg X.base (L2.CX X.prog X.w) k f fd ps (spD X.K cn [false] Ff)) (hr : Room k X.A) (hb : Binds X.K fd ps []) (tk : Takes X W)
    (ht : eval (.Call (.Attribute o m apos) [] [] pos) X.env = (do
      let ov ← eval o X.env
      standAt apos.atName
      let (f, first) ← holding [ov] (getMethod ov m pl)
      callWith pos f first (backTo pos (starEach [] X.env)) (backToKw pos (keywordEach [] X.env))) := by rfl) : JN X cn W (.Call (.Attribute o m apos) [] [] pos) (nMeth c Ff [] eo aNil) := by
  obtain ⟨t1, p1, d1⟩ := he
  refine ⟨_, pe_methX0 p1 hc hm F hr hb tk ht, fun C Γ σ F H Q R k => dn_meth rfl hno d1 da_nil R k fun o Γ2 v F2 H2 hp s R2 dv => ?_⟩
  cases o with
  | fz d => exact hp.elim
  | fr d => exact hp v F2 H2 s R2 dv
/-- C(e, ..) -/
theorem je_make {Fi : List D → R (List (Nat × D))} (M : Mk X.K (cn.ca c) f) (F : FnOk X.prog X.w X.K X.mg X.base (L2.CX X.prog X.w) k f fd ps (spI X.K cn c ms Fi)) (hr : Room (k + 1) X.A) (hg : Gl X x) (hm : X.mg x = some (.ref (cn.ca c))) (hb : Binds X.K fd ps []) (tk : Takes X W)
    (ha : JA X cn W (e :: es) av) (hdb : (x == ("__debug__" : Str)) = false := by decide) (he : starEach (e :: es) X.env = (false, eval e X.env) :: starEach es X.env := by rfl) (hpl : (backTo pos (starEach es X.env)).any (·.1) = false := by rfl) :
    JE X cn W (.Call (.Name x p) (e :: es) [] pos) (eCall (mkF c Fi) ms av) := by
  obtain ⟨t, pa, d⟩ := ha
  refine ⟨_, pe_makeX M F hr hg hm hb tk pa hdb he hpl, fun C Γ σ F0 H Q R k => ?_⟩
  refine d C Γ σ F0 H _ R (k.bind.mono (fun p k vs F' H' s1 R1 hv => ?_) fun _ _ z => z)
  exact spD_make (call_ok R1 hv (k.bind.mono (fun _ z => z) fun _ _ z => XW.up s1 z) fun o Γ2 v F2 H2 hP s R2 dv => dvn_e (s1.trans s) R2 dv hP)
/-- C.m(e, ..), a staticmethod -/
theorem je_sm {pl : Sem Bool} {mc : Value} {q : Addr} {px : Pos} (hg : Gl X x) (hm : X.mg x = some (.ref (cn.ca c))) (S : SMeth X.K (cn.ca c) f m mc q) (F : FnOk X.prog X.w X.K X.mg X.base (L2.CX X.prog X.w) k f fd ps (spD X.K cn ms Ff)) (hr : Room k X.A) (hb : Binds X.K fd ps []) (tk : Takes X W) (ha : JA X cn W (e :: es) av)
    (hdb : (x == ("__debug__" : Str)) = false := by decide) (hst : starEach (e :: es) X.env = (false, eval e X.env) :: starEach es X.env := by rfl) (hpl : (backTo pos (starEach es X.env)).any (·.1) = false := by rfl)
    (ht : eval (.Call (.Attribute (.Name x px) m apos) (e :: es) [] pos) X.env = (do
      let ov ← eval (.Name x px) X.env
      standAt apos.atName
      let (f, first) ← holding [ov] (getMethod ov m pl)
      callWith pos f first (backTo pos (starEach (e :: es) X.env)) (backToKw pos (keywordEach [] X.env))) := by rfl) :
    JE X cn W (.Call (.Attribute (.Name x px) m apos) (e :: es) [] pos) (eCall Ff ms av) := by
  obtain ⟨t, pa, d⟩ := ha
  refine ⟨_, pe_smX hg hm S F hr hb tk pa hdb hst hpl ht, fun C Γ σ F0 H Q R k => ?_⟩
  refine d C Γ σ F0 H _ R (k.bind.mono (fun p k vs F' H' s1 R1 hv => ?_) fun _ _ z => z)
  exact call_ok R1 hv (k.bind.mono (fun _ z => z) fun _ _ z => XW.up s1 z) fun o Γ2 v F2 H2 hP s R2 dv => dvn_e (s1.trans s) R2 dv hP
/-! own operators -/
theorem je_own2 {op : Operator} (sf : PySem.W.selfFirst X.K (cn.ca c) = true) (hm : Meth X.K (cn.ca c) (PySem.dunder op.info.2) f) (F : FnOk X.prog X.w X.K X.mg X.base (L2.CX X.prog X.w) k f fd ps (spD X.K cn [false, false] Ff)) (hr : Room k X.A) (hb : Binds X.K fd ps []) (tk : Takes X W) (ha : JE X cn W a ea) (hb2 : JE X cn W b eb) :
    JE X cn W (.BinOp a op b pos) (eOwn2 c Ff ea eb) := by
  obtain ⟨t1, p1, d1⟩ := ha
  obtain ⟨t2, p2, d2⟩ := hb2
  refine ⟨_, pe_own2 sf hm F hr hb tk p1 p2, fun C Γ σ F0 H Q R k => ?_⟩
  refine d1 C Γ σ F0 H _ R (k.bind.mono (fun p k v F' H' s1 R1 hv => ?_) fun _ _ z => z)
  refine d2 C p.2 σ F' H' _ R1 (k.bind.mono (fun q k w F2 H2 s2 R2 hw => ?_) fun _ _ z => XW.up s1 z)
  obtain ⟨x1, Γ1⟩ := p
  obtain ⟨x2, Γ2⟩ := q
  cases x1 with
  | ins c1 fs1 =>
    cases x2 with
    | ins c2 fs2 =>
      dsimp only at k hv hw R2
      by_cases ec : c1 = c ∧ c2 = c
      · rw [if_pos ec] at k
        obtain ⟨e1, e2⟩ := ec
        have kk := k
        subst e1 e2
        obtain ⟨a1, dx, fvs, ev, ha, _⟩ := insOf (hv.mono s2)
        obtain ⟨a2, dy, gvs, ew, ha2, _⟩ := insOf hw
        exact ⟨a1, dx, fvs, a2, dy, gvs, ev, ew, R2.bs.fh _ _ ha, R2.bs.fh _ _ ha2, call_ok (vs := [v, w]) (ps := [.pd (.ins _ fs1), .pd (.ins _ fs2)]) R2 ⟨hv.mono s2, hw, True.intro⟩ (kk.bind.mono (fun _ z => z) fun _ _ z => XW.up (s1.trans s2) z) fun o Γ3 v3 F3 H3 hP s3 R3 dv => dvn_e ((s1.trans s2).trans s3) R3 dv hP⟩
      · rw [if_neg ec] at k; exact k.elim
    | _ => exact k.elim
  | _ => exact k.elim
theorem je_ownEq (nf : PySem.W.notFirst X.K (cn.ca c) (.ref (cn.ca c)) = true) (hm : Meth X.K (cn.ca c) "__eq__" f) (F : FnOk X.prog X.w X.K X.mg X.base (L2.CX X.prog X.w) k f fd ps (spD X.K cn [false, false] Ff)) (hr : Room k X.A) (hb : Binds X.K fd ps []) (tk : Takes X W) (ha : JE X cn W a ea) (hb2 : JE X cn W b eb) :
    JE X cn W (.Compare a [.Eq] [b] pos) (eOwn2 c Ff ea eb) := by
  obtain ⟨t1, p1, d1⟩ := ha
  obtain ⟨t2, p2, d2⟩ := hb2
  refine ⟨_, pe_ownEq nf hm F hr hb tk p1 p2, fun C Γ σ F0 H Q R k => ?_⟩
  refine d1 C Γ σ F0 H _ R (k.bind.mono (fun p k v F' H' s1 R1 hv => ?_) fun _ _ z => z)
  refine d2 C p.2 σ F' H' _ R1 (k.bind.mono (fun q k w F2 H2 s2 R2 hw => ?_) fun _ _ z => XW.up s1 z)
  obtain ⟨x1, Γ1⟩ := p
  obtain ⟨x2, Γ2⟩ := q
  cases x1 with
  | ins c1 fs1 =>
    cases x2 with
    | ins c2 fs2 =>
      dsimp only at k hv hw R2
      by_cases ec : c1 = c ∧ c2 = c
      · rw [if_pos ec] at k
        obtain ⟨e1, e2⟩ := ec
        have kk := k
        subst e1 e2
        obtain ⟨a1, dx, fvs, ev, ha, _⟩ := insOf (hv.mono s2)
        obtain ⟨a2, dy, gvs, ew, ha2, _⟩ := insOf hw
        exact ⟨a1, dx, fvs, a2, dy, gvs, ev, ew, R2.bs.fh _ _ ha, R2.bs.fh _ _ ha2, call_ok (vs := [v, w]) (ps := [.pd (.ins _ fs1), .pd (.ins _ fs2)]) R2 ⟨hv.mono s2, hw, True.intro⟩ (kk.bind.mono (fun _ z => z) fun _ _ z => XW.up (s1.trans s2) z) fun o Γ3 v3 F3 H3 hP s3 R3 dv => dvn_e ((s1.trans s2).trans s3) R3 dv hP⟩
      · rw [if_neg ec] at k; exact k.elim
    | _ => exact k.elim
  | _ => exact k.elim
theorem je_ownInv (hm : Meth X.K (cn.ca c) "__invert__" f) (F : FnOk X.prog X.w X.K X.mg X.base (L2.CX X.prog X.w) k f fd ps (spD X.K cn [false] Ff)) (hr : Room k X.A) (hb : Binds X.K fd ps []) (tk : Takes X W) (ha : JE X cn W a ea) : JE X cn W (.UnaryOp .Invert a pos) (eOwn1 c Ff ea) := by
  obtain ⟨t1, p1, d1⟩ := ha
  refine ⟨_, pe_ownInv hm F hr hb tk p1, fun C Γ σ F0 H Q R k => ?_⟩
  refine d1 C Γ σ F0 H _ R (k.bind.mono (fun p k v F' H' s1 R1 hv => ?_) fun _ _ z => z)
  obtain ⟨x1, Γ1⟩ := p
  cases x1 with
  | ins c1 fs1 =>
    dsimp only at k hv R1
    by_cases ec : c1 = c
    · rw [if_pos ec] at k
      have kk := k
      subst ec
      obtain ⟨a1, dx, fvs, ev, ha, _⟩ := insOf hv
      exact ⟨a1, dx, fvs, ev, R1.bs.fh _ _ ha, call_ok (vs := [v]) (ps := [.pd (.ins _ fs1)]) R1 ⟨hv, True.intro⟩ (kk.bind.mono (fun _ z => z) fun _ _ z => XW.up s1 z) fun o Γ3 v3 F3 H3 hP s3 R3 dv => dvn_e (s1.trans s3) R3 dv hP⟩
    · rw [if_neg ec] at k; exact k.elim
  | _ => exact k.elim
theorem dc_own {t : TA} {kd : D → Bool} {C : Ct} {Γ : Env} {σ : L2.St} {F0 H : Hp} {Q : VK} {Q' : VK} (d1 : ∀ Q : List V → Hp → Prop, Post (ea Γ) (fun p => ∀ v F' H', Same F0 F' → RelS X.K cn C p.2 σ F' H' → Rep X.K cn F' v p.1 → Q [v] H') (XW X.K cn C F0 W) → t σ H Q)
    (hq : ∀ d v F2 H2 Γ2, kd d = true → Rep X.K cn F2 v d → EEnd X.K cn C σ F0 Q (d, Γ2) → Same F0 F2 → RelS X.K cn C Γ2 σ F2 H2 → Q' v H2)
    (k : Post (eOwnC c kd Ff ea Γ) (EEnd X.K cn C σ F0 Q) (XW X.K cn C F0 W)) : t σ H fun xs H1 => ∃ a dx fs, xs = [.ref a] ∧ H1 a = some (.ins (cn.ca c) dx fs) ∧ spD X.K cn [false] Ff xs H1 Q' (WE W σ) := by
  refine d1 _ (k.bind.mono (fun p k v F' H' s1 R1 hv => ?_) fun _ _ z => z)
  obtain ⟨x1, Γ1⟩ := p
  cases x1 with
  | ins c1 fs1 =>
    dsimp only at k hv R1
    by_cases ec : c1 = c
    · rw [if_pos ec] at k
      have kk := k
      subst ec
      obtain ⟨a1, dx, fvs, ev, ha, _⟩ := insOf hv
      refine ⟨a1, dx, fvs, by rw [ev], R1.bs.fh _ _ ha, call_ok (vs := [v]) (ps := [.pd (.ins _ fs1)]) R1 ⟨hv, True.intro⟩ (kk.bind.mono (fun _ z => z) fun _ _ z => XW.up s1 z) fun o Γ3 v3 F3 H3 hP s3 R3 dv => ?_⟩
      cases o with
      | fz d =>
        dsimp only at hP
        split at hP
        · rename_i hk
          exact hq d v3 F3 H3 Γ3 hk dv hP (s1.trans s3) R3
        · exact hP.elim
      | fr d => exact hP.elim
    · rw [if_neg ec] at k; exact k.elim
  | _ => exact k.elim
theorem ta_one {te : TE} (h : DE cn W X.K te ea) {C : Ct} {Γ : Env} {σ : L2.St} {F0 H : Hp} (R : RelS X.K cn C Γ σ F0 H) (Q : List V → Hp → Prop) (k : Post (ea Γ) (fun p => ∀ v F' H', Same F0 F' → RelS X.K cn C p.2 σ F' H' → Rep X.K cn F' v p.1 → Q [v] H') (XW X.K cn C F0 W)) : tCons te tNil σ H Q :=
  h C Γ σ F0 H _ R k
theorem je_ownBool (hm : Meth X.K (cn.ca c) "__bool__" f) (F : FnOk X.prog X.w X.K X.mg X.base (L2.CX X.prog X.w) k f fd ps (spD X.K cn [false] Ff)) (hr : Room (k + 1 + 1) X.A) (hb : Binds X.K fd ps []) (tk : Takes X W) (hg : Gl X "bool") (hmn : X.mg "bool" = none) (ha : JE X cn W e ea)
    (he : starEach [e] X.env = (false, eval e X.env) :: starEach [] X.env := by rfl) (hpl : (backTo pos (starEach [] X.env)).any (·.1) = false := by rfl) : JE X cn W (.Call (.Name "bool" p) [e] [] pos) (eOwnC c isB Ff ea) := by
  obtain ⟨t1, p1, d1⟩ := ha
  refine ⟨_, pe_ownBool hm F hr hb tk hg hmn (pa_cons p1 pa_nil he) he hpl, fun C Γ σ F H Q R k => ?_⟩
  refine dc_own (ta_one d1 R) (fun d v F2 H2 Γ2 hk rv hP s R2 => ?_) k
  cases d with
  | bl b => cases rv; exact ⟨b, rfl, hP _ F2 H2 s R2 (.bl b)⟩
  | _ => cases hk
theorem je_ownStr (hm : Meth X.K (cn.ca c) "__str__" f) (F : FnOk X.prog X.w X.K X.mg X.base (L2.CX X.prog X.w) k f fd ps (spD X.K cn [false] Ff)) (hr : Room (k + 1 + 1) X.A) (hb : Binds X.K fd ps []) (tk : Takes X W) (hg : Gl X "str") (hmn : X.mg "str" = none) (ha : JE X cn W e ea)
    (he : starEach [e] X.env = (false, eval e X.env) :: starEach [] X.env := by rfl) (hpl : (backTo pos (starEach [] X.env)).any (·.1) = false := by rfl) : JE X cn W (.Call (.Name "str" p) [e] [] pos) (eOwnC c isS Ff ea) := by
  obtain ⟨t1, p1, d1⟩ := ha
  refine ⟨_, pe_ownStr hm F hr hb tk hg hmn (pa_cons p1 pa_nil he) he hpl, fun C Γ σ F H Q R k => ?_⟩
  refine dc_own (ta_one d1 R) (fun d v F2 H2 Γ2 hk rv hP s R2 => ?_) k
  cases d with
  | str b => cases rv; exact ⟨b, rfl, hP _ F2 H2 s R2 (.str b)⟩
  | _ => cases hk
theorem je_ownLen (hm : Meth X.K (cn.ca c) "__len__" f) (F : FnOk X.prog X.w X.K X.mg X.base (L2.CX X.prog X.w) k f fd ps (spD X.K cn [false] Ff)) (hr : Room (k + 1) X.A) (hb : Binds X.K fd ps []) (tk : Takes X W) (hg : Gl X "len") (hmn : X.mg "len" = none) (ha : JE X cn W e ea)
    (he : starEach [e] X.env = (false, eval e X.env) :: starEach [] X.env := by rfl) (hpl : (backTo pos (starEach [] X.env)).any (·.1) = false := by rfl) : JE X cn W (.Call (.Name "len" p) [e] [] pos) (eOwnC c isL Ff ea) := by
  obtain ⟨t1, p1, d1⟩ := ha
  refine ⟨_, pe_ownLen hm F hr hb tk hg hmn (pa_cons p1 pa_nil he) he hpl, fun C Γ σ F H Q R k => ?_⟩
  refine dc_own (ta_one d1 R) (fun d v F2 H2 Γ2 hk rv hP s R2 => ?_) k
  cases d with
  | int b =>
    cases rv
    have hk := Bool.and_eq_true_iff.mp (show (decide (0 ≤ b) && decide (b < 2 ^ 62)) = true from hk)
    have h1 := of_decide_eq_true hk.1
    have h2 := of_decide_eq_true hk.2
    exact ⟨b, rfl, ⟨h1, Int.lt_trans h2 (by decide)⟩, hP _ F2 H2 s R2 (.int b)⟩
  | _ => cases hk
/-! errors -/
/-- X(), X an own exception class without own __init__ -/
theorem pmk_own0 {C : Addr} {bmB : List Value} {B newId initId : String} (F : ExcBaseFacts B newId initId bmB) (q : PySem.W.excIn X.K C bmB newId = true) (gC : X.mg x = some (.ref C))
    (kC : PySem.W.keepIn X.K (.ref C) = true) (r : Raises X (.ref C)) (hg : Gl X x) (hdb : (x == ("__debug__" : Str)) = false := by decide) : PMk X (.Call (.Name x p) [] [] pos) (fun _ H Q => Q (.ref C) none H) := by
  intro pins s σ H Q I h
  refine wpAny_Call_Name_kw (ld_glob I hg gC ?_ hdb)
  refine PySem.W.callWith_K0 I.kIn kC ?_
  show wpAny _ _ (call (.ref C) []) _ _ _
  obtain ⟨bm, N, nm, qn, bs, hdct, sn, sub, ab, col, dd, k0, k1, k2, k3, k5, mN, hC, hN, hni, T⟩ := exc_obj I.kIn q
  exact wpAny_call_exc_subT F T hC hN hni (fun h' e hm => mk_of I hm r h (I.hok.gone hm.new)) (Nat.zero_le _)
theorem js_raise0 {C : Addr} {bmB : List Value} {B newId initId : String} {pos2 : Pos} (hc : X.calm = true) (tk : Takes X W) (hC : C = cn.ca c) (F : ExcBaseFacts B newId initId bmB) (q : PySem.W.excIn X.K C bmB newId = true) (gC : X.mg x = some (.ref C))
    (kC : PySem.W.keepIn X.K (.ref C) = true) (r : Raises X (.ref C)) (hg : Gl X x) (hdb : (x == ("__debug__" : Str)) = false := by decide) : JS X cn W (.Raise (some (.Call (.Name x p) [] [] pos)) none pos2) (sRaise c [] lNil) := by
  subst hC
  refine ⟨_, ps_raise hc tk (pmk_own0 F q gC kC r hg hdb), fun C Γ σ F H Dn R k => ?_⟩
  exact k (.ref (cn.ca c)) none σ F H (Same.refl _) R ⟨rfl, .inl ⟨rfl, rfl⟩⟩
/-- the caught error does not matter to what data stands where -/
theorem Rep.cx {K : PySem.W.Frag} {ca : Nat → Addr} {fa : Nat → Str} {e e' : Option (Addr × Value × Option Addr)} {F : Hp} {v : V} {d : D} (h : Rep K ⟨ca, fa, e⟩ F v d) : Rep K ⟨ca, fa, e'⟩ F v d := by
  induction h with
  | non => exact .non
  | bl b => exact .bl b
  | int i => exact .int i
  | str z => exact .str z
  | lst h hl _ ih => exact .lst h hl ih
  | tup h hl _ ih => exact .tup h hl ih
  | dct h hk _ ih => exact .dct h hk ih
  | ins h hk _ ih => exact .ins h hk ih
  | scr h => exact .scr h
section
variable {K : PySem.W.Frag} {ca : Nat → Addr} {fa : Nat → Str} {e e' : Option (Addr × Value × Option Addr)} {F H : Hp} {v : V} {d : D} {C : Ct} {Γ : Env} {σ : St} {a : Addr}
theorem Reps.cx {vs : List V} {ds : List D} (h : Reps K ⟨ca, fa, e⟩ F vs ds) : Reps K ⟨ca, fa, e'⟩ F vs ds := ⟨h.1, fun i v d a b => (h.2 i v d a b).cx⟩
theorem RepP.cx {κ κ' : Type} {g : κ' → κ} {vs : List (κ × V)} {ds : List (κ' × D)} (h : RepP K ⟨ca, fa, e⟩ g F vs ds) : RepP K ⟨ca, fa, e'⟩ g F vs ds := ⟨h.1, fun i v d a b => (h.2 i v d a b).cx⟩
theorem OwnR.cx (h : OwnR K ⟨ca, fa, e⟩ F H a d) : OwnR K ⟨ca, fa, e'⟩ F H a d := by
  cases d with
  | lst ds => obtain ⟨vs, h, r⟩ := h; exact ⟨vs, h, r.cx⟩
  | dct ds => obtain ⟨vs, h, r⟩ := h; exact ⟨vs, h, r.cx⟩
  | _ => exact h.elim
theorem Shal.cx (h : Shal K ⟨ca, fa, e⟩ F H v d) : Shal K ⟨ca, fa, e'⟩ F H v d := by
  cases d with
  | lst ds => obtain ⟨a, vs, e1, h, r⟩ := h; exact ⟨a, vs, e1, h, r.cx⟩
  | dct ds => obtain ⟨a, vs, e1, h, r⟩ := h; exact ⟨a, vs, e1, h, r.cx⟩
  | _ => exact Rep.cx h
theorem RepX.cx {cls : Value} {od : Option Addr} {x : Xc} (h : RepX K ⟨ca, fa, e⟩ F cls od x) : RepX K ⟨ca, fa, e'⟩ F cls od x := by
  obtain ⟨h1, h2⟩ := h
  refine ⟨h1, ?_⟩
  rcases h2 with h2 | ⟨d, fvs, h3, h4, h6, h5⟩
  · exact .inl h2
  · exact .inr ⟨d, fvs, h3, h4, h6, fun f z q => (h5 f z q).imp fun v w => ⟨w.1, w.2.cx⟩⟩
theorem RelS.cx (r : RelS K ⟨ca, fa, e⟩ C Γ σ F H) (hx : (∀ (i : Nat) x, Γ[i]? ≠ some (.exn x)) ∨ e' = none) : RelS K ⟨ca, fa, e'⟩ C Γ σ F H := by
  refine ⟨r.bs, r.len, fun j t h => ?_, r.ow, r.s0⟩
  have w := r.sl j t h
  cases t with
  | emp => trivial
  | val x => obtain ⟨v, a1, r1⟩ := w; exact ⟨v, a1, r1.cx⟩
  | own x => obtain ⟨b, e1, m, m0, r1⟩ := w; exact ⟨b, e1, m, m0, r1.cx⟩
  | bor x => obtain ⟨v, a1, r1⟩ := w; exact ⟨v, a1, r1.cx⟩
  | slf c fs => obtain ⟨b, dx, fvs, e1, e2, m, h5, r1⟩ := w; exact ⟨b, dx, fvs, e1, e2, m, h5, r1.cx⟩
  | exn x =>
    rcases hx with hx | hx
    · exact absurd h (hx j x)
    · subst hx
      obtain ⟨a1, e1, _⟩ := w
      exact ⟨a1, e1, fun _ _ _ z => by cases z⟩
theorem noX_ok : ∀ {Γ : Env}, noX Γ = true → ∀ (i : Nat) x, Γ[i]? ≠ some (.exn x)
  | [], _, i, x => by simp
  | s :: Γ, h, i, x => by
    unfold noX at h
    rw [List.all_cons, Bool.and_eq_true] at h
    cases i with
    | zero =>
      intro q
      have : s = .exn x := by simpa using q
      subst this
      exact Bool.noConfusion (show false = true from h.1)
    | succ i => rw [List.getElem?_cons_succ]; exact noX_ok (Γ := Γ) h.2 i x
end
/-- the wish within a try -/
theorem js_try {i : Nat} {n : Str} {cv : Value} {ex : Nat → Option Bool} {body suite : List Stmt} {b₀ : Stmt} {np pos' : Pos} (hx0 : cn.ex = none) (hs : X.stack = X.env :: X.outer) (hf : X.env.frame = some X.env.locals) (hN : X.N.Nodup) (hi : X.N[i]? = some n) (hln : X.env.kindOf n = some .local) (hc : Names X x cv) (hex : ∀ c b, ex c = some b → PySem.W.exmOne X.K (.ref (cn.ca c)) cv = some b) (tk : Takes X W)
    (hb : ∀ (W : WX) (pn : List (Addr × Obj)) (xe : Value → Shared → Prop), Takes (X.tr pn xe) W → PassesOwn (model X.prog X.w) X.A X.env xe → JSs (X.tr pn xe) cn W body sa)
    (hsu : ∀ (a : Addr) (oe : Obj) (cls : Value) (d : Option Addr) (pn : List (Addr × Obj)), Zc cls d oe → (∃ vs, oe.data = .fields vs) → JSs (X.suite a ((a, oe) :: pn)) ⟨cn.ca, cn.fa, some (a, cls, d)⟩ (fun _ _ _ _ => False) (b₀ :: suite) sb) :
    JS X cn W (.Try body [.ExceptHandler (some (.Name x np)) (some n) (b₀ :: suite) pos'] [] [] pos) (sTry i ex sa sb) := by
  obtain ⟨ca, fa, ex0⟩ := cn
  cases hx0
  refine ⟨_, ps_try_as (ts := fun a cls d Dn σ H => ∃ C Γ F, RelS X.K ⟨ca, fa, some (a, cls, d)⟩ C Γ σ F H ∧ Post (sb Γ) (SEnd X.K ⟨ca, fa, some (a, cls, d)⟩ C F Dn) (fun _ _ => False))
    (tb := fun W Dn σ H => ∃ C Γ F, RelS X.K ⟨ca, fa, none⟩ C Γ σ F H ∧ Post (sa Γ) (SEnd X.K ⟨ca, fa, none⟩ C F Dn) (XW X.K ⟨ca, fa, none⟩ C F W)) hs hf hN hi hln hc tk (fun W pn xe t1 t2 => ?_) (fun a oe cls d pn hz hv => ?_), fun C Γ σ F H Dn R k => ?_⟩
  · obtain ⟨t, p, d⟩ := hb W pn xe t1 t2
    refine ⟨fun pins s σ H D I h => p.run pins s σ H D I ?_⟩
    obtain ⟨C, Γ, F, h1, h2⟩ := h
    exact d C Γ σ F H D h1 h2
  · obtain ⟨ts, p, dd⟩ := hsu a oe cls d pn hz hv
    refine ⟨fun pins s σ H D I h => p.run pins s σ H D I ?_⟩
    obtain ⟨C, Γ, F, h1, h5⟩ := h
    exact dd C Γ σ F H D h1 (Post.mono h5 (fun _ z => z) fun _ _ z => z.elim)
  · refine ⟨C, Γ, F, R, ?_⟩
    unfold sTry at k
    cases e : sa Γ with
    | bad => rw [e] at k; exact k.elim
    | ok p => rw [e] at k; exact k
    | exc y Γ1 =>
      rw [e] at k
      dsimp only at k
      intro cls od σ1 F1 H1 s1 R1 rx
      cases ee : ex y.c with
      | none => rw [ee] at k; exact k.elim
      | some bb =>
        rw [ee] at k
        refine ⟨bb, by rw [rx.1]; exact hex _ _ ee, fun hbb a na => ?_, fun hbb => ?_⟩
        · subst hbb
          dsimp only at k
          by_cases hi1 : i < Γ1.length ∧ noX Γ1 = true
          · rw [if_pos hi1] at k
            have R2 : RelS X.K ⟨ca, fa, some (a, cls, od)⟩ C Γ1 σ1 F1 H1 := R1.cx (.inl (noX_ok hi1.2))
            refine ⟨C, put Γ1 i (.exn y), F1, R2.setX (fun a' cls' od' z => by cases z; exact ⟨rfl, rx.cx⟩), ?_⟩
            cases es : sb (put Γ1 i (.exn y)) with
            | bad => rw [es] at k; exact k.elim
            | exc _ _ => rw [es] at k; exact k.elim
            | ok p =>
              obtain ⟨ct, Γ2⟩ := p
              rw [es] at k
              cases ct with
              | nx => exact fun σ2 F2 H2 s2 R2 => k _ F2 H2 (s1.trans s2) (R2.cx (.inr rfl)).setE
              | brk => exact fun σ2 F2 H2 s2 R2 => k _ F2 H2 (s1.trans s2) (R2.cx (.inr rfl)).setE
              | cnt => exact fun σ2 F2 H2 s2 R2 => k _ F2 H2 (s1.trans s2) (R2.cx (.inr rfl)).setE
              | ret o =>
                refine fun v F2 H2 s2 b r => k v F2 H2 (s1.trans s2) b ?_
                cases o with
                | fz d => exact Rep.cx r
                | fr d => obtain ⟨a1, e1, h1, h2, h3⟩ := r; exact ⟨a1, e1, h1, h2, h3.cx⟩
          · rw [if_neg hi1] at k; exact k.elim
        · subst hbb
          exact k cls od σ1 F1 H1 s1 R1 rx
end
end Ed

set_option autoImplicit true
set_option Elab.async false
set_option linter.all false
set_option maxRecDepth 100000
set_option maxHeartbeats 4000000
set_option exponentiation.threshold 10000
/-! Python's operations, over data -/
namespace Ed
open PySem L2

section
variable {X : Cx} {cn : Cn} {W : WX} {a b c e : Expr} {es : List Expr} {pos : Pos} {ea eb : EV} {qa qb : QV} {ta : TV} {av : AV} {lv : LV}
theorem ext0 {F H : Hp} (s : Same F H) : Ext F H F H := Ext.refl s
theorem log2_of {n k : Nat} (h : n < 2 ^ k) (hk : 0 < k) : n.log2 < k := by
  by_cases h0 : n = 0
  · subst h0; exact hk
  · exact (Nat.log2_lt h0).mpr h
/-- two rules for one operation -/
theorem R2D.or {K : PySem.W.Frag} {cn : Cn} {r r' : R2} {f : D → D → Option D} (h : ∀ F H x y dx dy d Q, Same F H → Shal K cn F H x dx → Shal K cn F H y dy → f dx dy = some d → (∀ z F' H', Ext F H F' H' → Rep K cn F' z d → Q z H') → r x y H Q ∨ r' x y H Q) : R2D K cn (fun x y H Q => r x y H Q ∨ r' x y H Q) f := h
/-! + -/
def rAddD (K : PySem.W.Frag) : R2 := fun x y H Q => rI0 (fun i j => .int (i + j)) x y H Q ∨ ((∃ i j, x = .str i ∧ y = .str j ∧ i.length + j.length ≤ sizeLine ∧ Q (.str (i ++ j)) H) ∨ (rCat x y H Q ∨ rCatA K x y H Q))
theorem op_addD : OpR X (binaryOp .Add) (rAddD X.K) := OpR.or op_add (OpR.or op_add_str (OpR.or op_cat op_catA))
theorem sm : (seqMax : Nat) = sizeLine := by rw [sizeLine_eq]; rfl
theorem r_add : R2D X.K cn (rAddD X.K) dAdd := fun F H x y dx dy d Q s hx hy e k => by
  cases dx with
  | int i =>
    cases dy with
    | int j => cases e; rw [hx.int, hy.int]; exact .inl ⟨i, j, rfl, rfl, k _ F H (ext0 s) (.int _)⟩
    | _ => cases e
  | str i =>
    cases dy with
    | str j =>
      have e : (if i.length + j.length ≤ seqMax then some (D.str (i ++ j)) else none) = some d := e
      split at e
      · rename_i hz; cases e; rw [hx.str, hy.str]; exact .inr (.inl ⟨i, j, rfl, rfl, by rw [← sm]; exact hz, k _ F H (ext0 s) (.str _)⟩)
      · cases e
    | _ => cases e
  | lst i =>
    cases dy with
    | lst j =>
      have e : (if i.length + j.length ≤ seqMax then some (D.lst (i ++ j)) else none) = some d := e
      split at e
      · rename_i hz
        cases e
        obtain ⟨a, vs, rfl, ha, ra⟩ := hx
        obtain ⟨b, ws, rfl, hb, rb⟩ := hy
        refine .inr (.inr (.inl ⟨a, b, vs, ws, rfl, rfl, ha, hb, by rw [← sm, ra.1, rb.1]; exact hz, fun p hp => ?_⟩))
        have ex := Ext.new (o := HO.lst (vs ++ ws)) s hp
        exact k _ _ _ ex (.lst upd_same ((ra.app rb).mono ex.f).1 ((ra.app rb).mono ex.f).2)
      · cases e
    | _ => cases e
  | tup i =>
    cases dy with
    | tup j =>
      have e : (if i.length + j.length ≤ seqMax then some (D.tup (i ++ j)) else none) = some d := e
      split at e
      · rename_i hz
        cases e
        obtain ⟨a, vs, ea, ha, ra⟩ := hx.tup s
        obtain ⟨b, ws, eb, hb, rb⟩ := hy.tup s
        have rx : Rep X.K cn F x (.tup i) := hx
        have ry : Rep X.K cn F y (.tup j) := hy
        refine .inr (.inr (.inr ⟨a, b, vs, ws, ea, eb, ha, hb, by rw [← sm, ra.1, rb.1]; exact hz, fun e => ?_, fun _ e => ?_, fun _ _ p hp => ?_⟩))
        · have : i = [] := by have := ra.1; rw [e] at this; exact List.length_eq_zero_iff.mp this.symm
          subst this
          rw [← eb]
          exact k _ F H (ext0 s) (by simpa using ry)
        · have : j = [] := by have := rb.1; rw [e] at this; exact List.length_eq_zero_iff.mp this.symm
          subst this
          rw [← ea]
          exact k _ F H (ext0 s) (by simpa using rx)
        · have ex := Ext.new (o := HO.tup (vs ++ ws)) s hp
          exact k _ _ _ ex (.tup (SqT.of upd_same) ((ra.app rb).mono ex.f).1 ((ra.app rb).mono ex.f).2)
      · cases e
    | _ => cases e
  | _ => cases e
theorem r_cat : R2N X.K cn rCat dCat := fun F H x y dx dy d Q s hx hy e k => by
  cases dx with
  | lst i =>
    cases dy with
    | lst j =>
      have e : (if i.length + j.length ≤ seqMax then some (D.lst (i ++ j)) else none) = some d := e
      split at e
      · rename_i hz
        cases e
        obtain ⟨a, vs, rfl, ha, ra⟩ := hx
        obtain ⟨b, ws, rfl, hb, rb⟩ := hy
        exact ⟨a, b, vs, ws, rfl, rfl, ha, hb, by rw [← sm, ra.1, rb.1]; exact hz, fun p hp => k p _ _ rfl hp (ra.app rb)⟩
      · cases e
    | _ => cases e
  | _ => cases e
theorem cat_l : ∀ x y z, dCat x y = some z → ∃ l, z = .lst l := fun x y z e => by
  cases x with
  | lst i =>
    cases y with
    | lst j =>
      have e : (if i.length + j.length ≤ seqMax then some (D.lst (i ++ j)) else none) = some z := e
      split at e
      · cases e; exact ⟨_, rfl⟩
      · cases e
    | _ => cases e
  | _ => cases e
/-! ints -/
theorem r2i {C : Int → Int → Prop} {g : Int → Int → V} {f : D → D → Option D} (h : ∀ dx dy d, f dx dy = some d → ∃ i j, dx = .int i ∧ dy = .int j ∧ C i j ∧ ∀ F, Rep X.K cn F (g i j) d) : R2D X.K cn (rI C g) f := fun F H x y dx dy d Q s hx hy e k => by
  obtain ⟨i, j, rfl, rfl, hc, hr⟩ := h dx dy d e
  rw [hx.int, hy.int]
  exact ⟨i, j, rfl, rfl, hc, k _ F H (ext0 s) (hr F)⟩
theorem r2i0 {g : Int → Int → V} {f : D → D → Option D} (h : ∀ dx dy d, f dx dy = some d → ∃ i j, dx = .int i ∧ dy = .int j ∧ ∀ F, Rep X.K cn F (g i j) d) : R2D X.K cn (rI0 g) f := fun F H x y dx dy d Q s hx hy e k => by
  obtain ⟨i, j, rfl, rfl, hr⟩ := h dx dy d e
  rw [hx.int, hy.int]
  exact ⟨i, j, rfl, rfl, k _ F H (ext0 s) (hr F)⟩
theorem r_sub : R2D X.K cn (rI0 fun i j => .int (i - j)) dSub := r2i0 fun dx dy d e => by
  cases dx <;> cases dy <;> first | (cases e; exact ⟨_, _, rfl, rfl, fun _ => .int _⟩) | cases e
theorem r_lt : R2D X.K cn (rI0 fun i j => .bl (decide (i < j))) dLt := r2i0 fun dx dy d e => by
  cases dx <;> cases dy <;> first | (cases e; exact ⟨_, _, rfl, rfl, fun _ => .bl _⟩) | cases e
theorem r_le : R2D X.K cn (rI0 fun i j => .bl (decide (i ≤ j))) dLe := r2i0 fun dx dy d e => by
  cases dx <;> cases dy <;> first | (cases e; exact ⟨_, _, rfl, rfl, fun _ => .bl _⟩) | cases e
theorem r_gt : R2D X.K cn (rI0 fun i j => .bl (decide (j < i))) dGt := r2i0 fun dx dy d e => by
  cases dx <;> cases dy <;> first | (cases e; exact ⟨_, _, rfl, rfl, fun _ => .bl _⟩) | cases e
theorem r_ge : R2D X.K cn (rI0 fun i j => .bl (decide (j ≤ i))) dGe := r2i0 fun dx dy d e => by
  cases dx <;> cases dy <;> first | (cases e; exact ⟨_, _, rfl, rfl, fun _ => .bl _⟩) | cases e
theorem mulOk_ok {i j : Int} (h : mulOk i j = true) : PySem.IntMulOk i j := by
  unfold mulOk nLt at h
  simp only [Bool.or_eq_true, Bool.and_eq_true, decide_eq_true_eq] at h
  rcases h with (h | h) | ⟨h, h2⟩
  · exact CMul.ok (.inl ⟨by omega, by omega⟩)
  · exact CMul.ok (.inr ⟨by omega, by omega⟩)
  · exact (wide_mul h h2 (by decide) (by decide) (by decide)).ok
theorem op_mulD : OpR X (binaryOp .Mult) (rI PySem.IntMulOk fun i j => .int (i * j)) := opI fun _ _ _ _ _ _ _ hc q => PyProof.Rows.mul_int q hc
theorem r_mul : R2D X.K cn (rI PySem.IntMulOk fun i j => .int (i * j)) dMul := r2i fun dx dy d e => by
  cases dx with
  | int i =>
    cases dy with
    | int j =>
      have e : (if mulOk i j then some (D.int (i * j)) else none) = some d := e
      split at e
      · rename_i h; cases e; exact ⟨i, j, rfl, rfl, mulOk_ok h, fun _ => .int _⟩
      · cases e
    | _ => cases e
  | _ => cases e
def CDivD (_ j : Int) : Prop := j ≠ 0 ∧ j.natAbs.log2 < 9000
theorem op_divD : OpR X (binaryOp .FloorDiv) (rI CDivD fun i j => .int (i.fdiv j)) := opI fun _ _ _ _ _ _ _ hc q => PyProof.Rows.floordiv_int hc.1 q (.inl (PyProof.noPylong_of_log2 hc.2))
theorem r_div : R2D X.K cn (rI CDivD fun i j => .int (i.fdiv j)) dDiv := r2i fun dx dy d e => by
  cases dx with
  | int i =>
    cases dy with
    | int j =>
      have e : (if j ≠ 0 ∧ j.natAbs < 2 ^ 8000 then some (D.int (i.fdiv j)) else none) = some d := e
      split at e
      · rename_i h; cases e; exact ⟨i, j, rfl, rfl, ⟨h.1, Nat.lt_of_lt_of_le (log2_of h.2 (by decide)) (by decide)⟩, fun _ => .int _⟩
      · cases e
    | _ => cases e
  | _ => cases e
theorem r_mod : R2D X.K cn (rI (fun _ j => j ≠ 0) fun i j => .int (i.fmod j)) dMod := r2i fun dx dy d e => by
  cases dx with
  | int i =>
    cases dy with
    | int j =>
      have e : (if j ≠ 0 then some (D.int (i.fmod j)) else none) = some d := e
      split at e
      · rename_i h; cases e; exact ⟨i, j, rfl, rfl, h, fun _ => .int _⟩
      · cases e
    | _ => cases e
  | _ => cases e
theorem r_pow : R2D X.K cn (rI CPow fun i j => .int (i ^ j.toNat)) dPow := r2i fun dx dy d e => by
  cases dx with
  | int i =>
    cases dy with
    | int j =>
      have e : (if 0 ≤ j ∧ j ≤ 1000000 ∧ i.natAbs < 2 ^ 64 then some (D.int (i ^ j.toNat)) else none) = some d := e
      split at e
      · rename_i h; cases e; exact ⟨i, j, rfl, rfl, h, fun _ => .int _⟩
      · cases e
    | _ => cases e
  | _ => cases e
theorem r_neg : R1D X.K cn (rU fun i => .int (-i)) dNeg := fun F H x dx d Q s hx e k => by
  cases dx with
  | int i => cases e; rw [hx.int]; exact ⟨i, rfl, k _ F H (ext0 s) (.int _)⟩
  | _ => cases e
/-! built-in calls -/
theorem je_bi {id : String} {r : List V → Hp → VK → Prop} {f : List D → Option D} {x : Str} {p : Pos} (hc : CallR X (.builtin id) r) (h : RCD X.K cn r f) (hg : Gl X x) (hm : X.mg x = none) (hv : bootBuiltins x = some (.builtin id)) (ha : JA X cn W (e :: es) av) (hn : x ≠ "__name__" := by decide) (hdb : (x == ("__debug__" : Str)) = false := by decide)
    (he : starEach (e :: es) X.env = (false, eval e X.env) :: starEach es X.env := by rfl) (hpl : (backTo pos (starEach es X.env)).any (·.1) = false := by rfl) : JE X cn W (.Call (.Name x p) (e :: es) [] pos) (eF f av) := by
  obtain ⟨t, pa, d⟩ := ha
  exact ⟨_, pe_callB hc hg hm hv pa hn hdb he hpl, de_F (r := r) h d⟩
theorem jn_bi {id : String} {r : List V → Hp → VK → Prop} {f : List D → Option D} {x : Str} {p : Pos} (hc : CallR X (.builtin id) r) (h : RCN X.K cn r f) (hg : Gl X x) (hm : X.mg x = none) (hv : bootBuiltins x = some (.builtin id)) (ha : JA X cn W (e :: es) av) (hn : x ≠ "__name__" := by decide) (hdb : (x == ("__debug__" : Str)) = false := by decide)
    (he : starEach (e :: es) X.env = (false, eval e X.env) :: starEach es X.env := by rfl) (hpl : (backTo pos (starEach es X.env)).any (·.1) = false := by rfl) : JN X cn W (.Call (.Name x p) (e :: es) [] pos) (eF f av) := by
  obtain ⟨t, pa, d⟩ := ha
  exact ⟨_, pe_callB hc hg hm hv pa hn hdb he hpl, dn_F (r := r) h d⟩
theorem je_ty {T : String} {r : List V → Hp → VK → Prop} {f : List D → Option D} {x : Str} {p : Pos} (hc : CallR X (.type T) r) (h : RCD X.K cn r f) (hg : Gl X x) (hm : X.mg x = none) (hv : bootBuiltins x = some (.type T)) (ha : JA X cn W (e :: es) av) (hn : x ≠ "__name__" := by decide) (hdb : (x == ("__debug__" : Str)) = false := by decide)
    (he : starEach (e :: es) X.env = (false, eval e X.env) :: starEach es X.env := by rfl) (hpl : (backTo pos (starEach es X.env)).any (·.1) = false := by rfl) : JE X cn W (.Call (.Name x p) (e :: es) [] pos) (eF f av) := by
  obtain ⟨t, pa, d⟩ := ha
  exact ⟨_, pe_callTy hc hg hm hv pa hn hdb he hpl, de_F (r := r) h d⟩
theorem jn_ty {T : String} {r : List V → Hp → VK → Prop} {f : List D → Option D} {x : Str} {p : Pos} (hc : CallR X (.type T) r) (h : RCN X.K cn r f) (hg : Gl X x) (hm : X.mg x = none) (hv : bootBuiltins x = some (.type T)) (ha : JA X cn W (e :: es) av) (hn : x ≠ "__name__" := by decide) (hdb : (x == ("__debug__" : Str)) = false := by decide)
    (he : starEach (e :: es) X.env = (false, eval e X.env) :: starEach es X.env := by rfl) (hpl : (backTo pos (starEach es X.env)).any (·.1) = false := by rfl) : JN X cn W (.Call (.Name x p) (e :: es) [] pos) (eF f av) := by
  obtain ⟨t, pa, d⟩ := ha
  exact ⟨_, pe_callTy hc hg hm hv pa hn hdb he hpl, dn_F (r := r) h d⟩
theorem rc1 {r : List V → Hp → VK → Prop} {f : D → Option D} (h : R1D X.K cn (fun x H Q => r [x] H Q) f) : RCD X.K cn r (o1 f) := fun F H vs ds d Q s p e k => by
  cases p with
  | nil => cases e
  | cons h1 t =>
    cases t with
    | nil => exact h F H _ _ d Q s h1 e k
    | cons _ _ => cases e
theorem rn1 {r : List V → Hp → VK → Prop} {f : D → Option D} (h : R1N X.K cn (fun x H Q => r [x] H Q) f) : RCN X.K cn r (o1 f) := fun F H vs ds d Q s p e k => by
  cases p with
  | nil => cases e
  | cons h1 t =>
    cases t with
    | nil => exact h F H _ _ d Q s h1 e k
    | cons _ _ => cases e
theorem r_abs : RCD X.K cn (fun xs H Q => ∃ i, xs = [.int i] ∧ Q (.int (if i < 0 then -i else i)) H) (o1 dAbs) := rc1 fun F H x dx d Q s hx e k => by
  cases dx with
  | int i => cases e; rw [hx.int]; exact ⟨i, rfl, k _ F H (ext0 s) (.int _)⟩
  | _ => cases e
theorem r_int : RCD X.K cn (fun xs H Q => (∃ i, xs = [.int i] ∧ Q (.int i) H) ∨ ∃ k, xs = [.bl k] ∧ Q (.int (if k then 1 else 0)) H) (o1 dInt) := rc1 fun F H x dx d Q s hx e k => by
  cases dx with
  | int i => cases e; rw [hx.int]; exact .inl ⟨i, rfl, k _ F H (ext0 s) (.int _)⟩
  | bl i => cases e; rw [hx.bl]; exact .inr ⟨i, rfl, k _ F H (ext0 s) (.int _)⟩
  | _ => cases e
theorem r_bool : RCD X.K cn (fun xs H Q => (∃ i, xs = [.int i] ∧ Q (.bl (i != 0)) H) ∨ ∃ k, xs = [.bl k] ∧ Q (.bl k) H) (o1 dBool) := rc1 fun F H x dx d Q s hx e k => by
  cases dx with
  | int i => cases e; rw [hx.int]; exact .inl ⟨i, rfl, k _ F H (ext0 s) (.bl _)⟩
  | bl i => cases e; rw [hx.bl]; exact .inr ⟨i, rfl, k _ F H (ext0 s) (.bl _)⟩
  | _ => cases e
theorem r_strI : RCD X.K cn (fun xs H Q => ∃ i, xs = [.int i] ∧ i.natAbs.log2 < 1920 ∧ Q (.str (toString i)) H) (o1 dStrI) := rc1 fun F H x dx d Q s hx e k => by
  cases dx with
  | int i =>
    have e : (if i.natAbs < 2 ^ 1900 then some (D.str (toString i)) else none) = some d := e
    split at e
    · rename_i h
      cases e; rw [hx.int]
      exact ⟨i, rfl, Nat.lt_of_lt_of_le (log2_of h (by decide)) (by decide), k _ F H (ext0 s) (.str _)⟩
    · cases e
  | _ => cases e
def rLenA (K : PySem.W.Frag) : List V → Hp → VK → Prop := fun xs H Q => (∃ x n, xs = [x] ∧ LenV K x H n ∧ Q (.int n) H) ∨ ∃ a kvs, xs = [V.ref a] ∧ H a = some (.dK kvs) ∧ Q (.int kvs.length) H
theorem call_lenA : CallR X (.builtin "len") (rLenA X.K) := CallR.or call_len call_lenD
theorem r_len : RCD X.K cn (rLenA X.K) (o1 dLen) := rc1 fun F H x dx d Q s hx e k => by
  cases dx with
  | str z =>
    have e : (if z.length ≤ seqMax then some (D.int z.length) else none) = some d := e
    split at e
    · rename_i h; cases e; rw [hx.str]; exact .inl ⟨_, _, rfl, ⟨by rw [← sm]; exact h, rfl⟩, k _ F H (ext0 s) (.int _)⟩
    · cases e
  | lst xs =>
    cases e
    obtain ⟨a, vs, rfl, h, r⟩ := hx
    exact .inl ⟨_, _, rfl, .inl ⟨vs, SqL.of h, r.1.symm⟩, k _ F H (ext0 s) (.int _)⟩
  | tup xs =>
    cases e
    obtain ⟨a, vs, rfl, h, r⟩ := hx.tup s
    exact .inl ⟨_, _, rfl, .inr ⟨vs, h, r.1.symm⟩, k _ F H (ext0 s) (.int _)⟩
  | scr ns =>
    cases e
    cases (show Rep X.K cn F x (.scr ns) from hx) with
    | scr h => exact .inl ⟨_, _, rfl, .inl ⟨_, s.seq h, by rw [List.length_map]⟩, k _ F H (ext0 s) (.int _)⟩
  | dct kvs =>
    cases e
    obtain ⟨a, vs, rfl, h, r⟩ := hx
    have hl : vs.length = kvs.length := by have := congrArg List.length r.1; simpa using this
    exact .inr ⟨_, _, rfl, h, by rw [hl]; exact k _ F H (ext0 s) (.int _)⟩
  | _ => cases e
end
end Ed

set_option autoImplicit true
set_option Elab.async false
set_option linter.all false
set_option maxRecDepth 100000
set_option maxHeartbeats 4000000
set_option autoImplicit false
/-! ==, in, is None, indices, slices -/
namespace Ed
open PySem L2

mutual
def toP : D → PyData
  | .non => .none
  | .bl b => .bool b
  | .int i => .int i
  | .str s => .str s
  | .lst xs => .list (toPs xs)
  | .tup xs => .tuple (toPs xs)
  | _ => .none
def toPs : List D → List PyData
  | [] => []
  | x :: xs => toP x :: toPs xs
end
theorem okDat_cases {n : Nat} {d : D} (h : okDat n d = true) : (∃ m xs, n = m + 1 ∧ (d = .lst xs ∨ d = .tup xs) ∧ ∀ x ∈ xs, okDat m x = true) ∨ d = .non ∨ (∃ b, d = .bl b) ∨ (∃ i, d = .int i) ∨ ∃ s, d = .str s ∧ PyData.strOk s = true := by
  cases d with
  | non => exact .inr (.inl rfl)
  | bl b => exact .inr (.inr (.inl ⟨_, rfl⟩))
  | int b => exact .inr (.inr (.inr (.inl ⟨_, rfl⟩)))
  | str b => exact .inr (.inr (.inr (.inr ⟨_, rfl, by simpa [okDat, PyData.strOk] using h⟩)))
  | lst xs =>
    cases n with
    | zero => simp [okDat] at h
    | succ m => exact .inl ⟨m, xs, rfl, .inl rfl, by simpa [okDat] using h⟩
  | tup xs =>
    cases n with
    | zero => simp [okDat] at h
    | succ m => exact .inl ⟨m, xs, rfl, .inr rfl, by simpa [okDat] using h⟩
  | _ => cases n <;> simp [okDat] at h
theorem toPs_ok {m : Nat} (ih : ∀ d, okDat m d = true → (toP d).canLay0 = true ∧ (toP d).depth ≤ m) : ∀ xs : List D, (∀ x ∈ xs, okDat m x = true) → PyData.canLayAll0 (toPs xs) = true ∧ PyData.depthAll (toPs xs) ≤ m
  | [], _ => ⟨by simp [toPs, PyData.canLayAll0], by simp [toPs, PyData.depthAll]⟩
  | x :: xs, h => by
    have h1 := ih x (h x (by simp))
    have h2 := toPs_ok ih xs fun y hy => h y (by simp [hy])
    refine ⟨by simp [toPs, PyData.canLayAll0, h1.1, h2.1], ?_⟩
    simp only [toPs, PyData.depthAll]
    exact Nat.max_le.mpr ⟨h1.2, h2.2⟩
theorem toP_ok : ∀ (n : Nat) (d : D), okDat n d = true → (toP d).canLay0 = true ∧ (toP d).depth ≤ n := by
  intro n
  induction n with
  | zero =>
    intro d h
    rcases okDat_cases h with ⟨m, xs, e, _⟩ | rfl | ⟨b, rfl⟩ | ⟨b, rfl⟩ | ⟨b, rfl, hs⟩
    · cases e
    all_goals first | exact ⟨rfl, Nat.zero_le _⟩ | exact ⟨hs, Nat.zero_le _⟩
  | succ n ih =>
    intro d h
    rcases okDat_cases h with ⟨m, xs, e, hd, hx⟩ | rfl | ⟨b, rfl⟩ | ⟨b, rfl⟩ | ⟨b, rfl, hs⟩
    · cases e
      have := toPs_ok ih xs hx
      rcases hd with rfl | rfl
      · exact ⟨by simpa [toP, PyData.canLay0] using this.1, by simpa [toP, PyData.depth] using this.2⟩
      · exact ⟨by simpa [toP, PyData.canLay0] using this.1, by simpa [toP, PyData.depth] using this.2⟩
    all_goals first | exact ⟨rfl, Nat.zero_le _⟩ | exact ⟨hs, Nat.zero_le _⟩
theorem toP_sh {d : D} (h : okDat 60 d = true) : SeqAt.shaped (toP d) = true := by
  have := toP_ok 60 d h
  unfold SeqAt.shaped
  simp [this.1]
  omega
theorem eqvs {m : Nat} (ih : ∀ d e k, okDat m d = true → okDat k e = true → PyData.eqv (toP d) (toP e) = deq d e) : ∀ (xs ys : List D) (k : Nat), (∀ x ∈ xs, okDat m x = true) → (∀ y ∈ ys, okDat k y = true) → PyData.eqvAll (toPs xs) (toPs ys) = deqs xs ys
  | [], [], _, _, _ => by simp [toPs, PyData.eqvAll, deqs]
  | [], _ :: _, _, _, _ => by simp [toPs, PyData.eqvAll, deqs]
  | _ :: _, [], _, _, _ => by simp [toPs, PyData.eqvAll, deqs]
  | x :: xs, y :: ys, k, h1, h2 => by
    simp only [toPs, PyData.eqvAll, deqs]
    rw [ih x y k (h1 x (by simp)) (h2 y (by simp)), eqvs ih xs ys k (fun z hz => h1 z (by simp [hz])) fun z hz => h2 z (by simp [hz])]
theorem eqv_deq : ∀ (n : Nat) (d e : D) (k : Nat), okDat n d = true → okDat k e = true → PyData.eqv (toP d) (toP e) = deq d e := by
  intro n
  induction n with
  | zero =>
    intro d e k hd he
    rcases okDat_cases hd with ⟨m, xs, z, _⟩ | rfl | ⟨b, rfl⟩ | ⟨b, rfl⟩ | ⟨b, rfl, _⟩
    · cases z
    all_goals (rcases okDat_cases he with ⟨m, ys, z, rfl | rfl, _⟩ | rfl | ⟨c, rfl⟩ | ⟨c, rfl⟩ | ⟨c, rfl, _⟩ <;> simp [toP, PyData.eqv, deq])
  | succ n ih =>
    intro d e k hd he
    rcases okDat_cases hd with ⟨m, xs, z, h1 | h1, hx⟩ | rfl | ⟨b, rfl⟩ | ⟨b, rfl⟩ | ⟨b, rfl, _⟩
    · cases z; subst h1
      rcases okDat_cases he with ⟨m, ys, z, rfl | rfl, hy⟩ | rfl | ⟨c, rfl⟩ | ⟨c, rfl⟩ | ⟨c, rfl, _⟩
      · simp only [toP, PyData.eqv, deq]; exact eqvs ih xs ys _ hx hy
      all_goals simp [toP, PyData.eqv, deq]
    · cases z; subst h1
      rcases okDat_cases he with ⟨m, ys, z, rfl | rfl, hy⟩ | rfl | ⟨c, rfl⟩ | ⟨c, rfl⟩ | ⟨c, rfl, _⟩
      · simp [toP, PyData.eqv, deq]
      · simp only [toP, PyData.eqv, deq]; exact eqvs ih xs ys _ hx hy
      all_goals simp [toP, PyData.eqv, deq]
    all_goals (rcases okDat_cases he with ⟨m, ys, z, rfl | rfl, _⟩ | rfl | ⟨c, rfl⟩ | ⟨c, rfl⟩ | ⟨c, rfl, _⟩ <;> simp [toP, PyData.eqv, deq])
section
variable {K : PySem.W.Frag} {cn : Cn} {F H : Hp} {v : V} {d : D}
theorem dps {m : Nat} (ih : ∀ v d, okDat m d = true → Rep K cn F v d → Dp K H v (toP d)) : ∀ (ds : List D) (vs : List V), (∀ x ∈ ds, okDat m x = true) → Reps K cn F vs ds → DpAll K H vs (toPs ds)
  | [], vs, _, r => by
    cases r.inv0
    exact .nil
  | d :: ds, vs, h, r => by
    obtain ⟨v, vs', rfl, r1, r2⟩ := r.inv
    exact .cons (ih v d (h d (by simp)) r1) (dps ih ds vs' (fun x hx => h x (by simp [hx])) r2)
theorem dp_rep (s : Same F H) : ∀ (n : Nat) (v : V) (d : D), okDat n d = true → Rep K cn F v d → Dp K H v (toP d) := by
  intro n
  induction n with
  | zero =>
    intro v d h r
    rcases okDat_cases h with ⟨m, xs, e, _⟩ | rfl | ⟨b, rfl⟩ | ⟨b, rfl⟩ | ⟨b, rfl, hs⟩
    · cases e
    all_goals (cases r; constructor)
  | succ n ih =>
    intro v d h r
    rcases okDat_cases h with ⟨m, xs, e, rfl | rfl, hx⟩ | rfl | ⟨b, rfl⟩ | ⟨b, rfl⟩ | ⟨b, rfl, hs⟩
    · cases e
      cases r with
      | lst h hl q => exact .lst (.inl (.inl (s _ _ h))) (dps ih _ _ hx ⟨hl, q⟩)
    · cases e
      obtain ⟨a, vs, rfl, ha, q⟩ := r.tupE s
      exact .tup ha (dps ih _ _ hx q)
    all_goals (cases r; constructor)
theorem dp_shal (s : Same F H) {n : Nat} (h : okDat n d = true) (r : Shal K cn F H v d) : Dp K H v (toP d) := by
  cases d with
  | lst ds =>
    rcases okDat_cases h with ⟨m, xs, e, h1 | h1, hx⟩ | h1 | ⟨b, h1⟩ | ⟨b, h1⟩ | ⟨b, h1, _⟩ <;> cases h1
    obtain ⟨a, vs, rfl, ha, q⟩ := r
    exact .lst (SqL.of ha) (dps (dp_rep s m) _ _ hx q)
  | dct ds => cases n <;> simp [okDat] at h
  | _ => exact dp_rep s n v _ h r
end
section
variable {X : Cx} {cn : Cn} {W : WX} {a b c e : Expr} {es : List Expr} {pos : Pos} {ea eb : EV} {qa qb : QV} {ta tb : TV} {av : AV} {lv : LV} {bq bl bh : QV}
/-! == -/
def rEqDD (K : PySem.W.Frag) : R2 := fun x y H Q => rEq x y H Q ∨ rEqD K x y H Q
theorem op_eqDD (hu : X.A.units + 64 < cLine) : OpR X (compareOp .Eq) (rEqDD X.K) := OpR.or op_eq (op_eqD hu)
def rNeDD (K : PySem.W.Frag) : R2 := fun x y H Q => rNe x y H Q ∨ rNeD K x y H Q
theorem op_neDD (hu : X.A.units + 64 < cLine) : OpR X (compareOp .NotEq) (rNeDD X.K) := OpR.or op_ne (op_neD hu)
theorem sca_ok {F H : Hp} {x y : V} {dx dy : D} (h : sca dx dy = true) (hx : Shal X.K cn F H x dx) (hy : Shal X.K cn F H y dy) : scal x y = true ∧ decide (x = y) = deq dx dy := by
  cases dx <;> cases dy <;> first
    | exact Bool.noConfusion (show false = true from h)
    | skip
  all_goals (cases (show Rep X.K cn F x _ from hx); cases (show Rep X.K cn F y _ from hy); refine ⟨rfl, ?_⟩; simp [deq])
  all_goals (rw [Bool.eq_iff_iff]; simp)
theorem r_eq : R2D X.K cn (rEqDD X.K) dEq := fun F H x y dx dy d Q s hx hy e k => by
  unfold dEq at e
  by_cases h : sca dx dy = true
  · rw [if_pos (by simp [h])] at e
    cases e
    obtain ⟨h1, h2⟩ := sca_ok h hx hy
    exact .inl ⟨h1, by rw [h2]; exact k _ F H (ext0 s) (.bl _)⟩
  · split at e
    · rename_i h2
      simp only [h, Bool.false_or, Bool.and_eq_true] at h2
      cases e
      exact .inr ⟨_, _, dp_shal s h2.1 hx, dp_shal s h2.2 hy, toP_sh h2.1, toP_sh h2.2, by rw [eqv_deq _ _ _ _ h2.1 h2.2]; exact k _ F H (ext0 s) (.bl _)⟩
    · cases e
theorem r_ne : R2D X.K cn (rNeDD X.K) dNe := fun F H x y dx dy d Q s hx hy e k => by
  unfold dNe at e
  by_cases h : sca dx dy = true
  · rw [if_pos (by simp [h])] at e
    cases e
    obtain ⟨h1, h2⟩ := sca_ok h hx hy
    exact .inl ⟨h1, by rw [h2]; exact k _ F H (ext0 s) (.bl _)⟩
  · split at e
    · rename_i h2
      simp only [h, Bool.false_or, Bool.and_eq_true] at h2
      cases e
      exact .inr ⟨_, _, dp_shal s h2.1 hx, dp_shal s h2.2 hy, toP_sh h2.1, toP_sh h2.2, by rw [eqv_deq _ _ _ _ h2.1 h2.2]; exact k _ F H (ext0 s) (.bl _)⟩
    · cases e
/-! in -/
def rInDD (K : PySem.W.Frag) : R2 := fun x y H Q => rIn K false x y H Q ∨ (rInD K x y H Q ∨ ∃ (c : Nat) (z : Str), x = .str ⟨#[c]⟩ ∧ y = .str z ∧ Q (.bl (decide (c ∈ z.cps.toList))) H)
theorem op_inDD (hu : X.A.units + 65 < cLine) : OpR X (compareOp .In) (rInDD X.K) := OpR.or op_in_seq (OpR.or (op_inD hu) op_in_sign)
def rNinDD (K : PySem.W.Frag) : R2 := fun x y H Q => rIn K true x y H Q ∨ (rNotInD K x y H Q ∨ ∃ (c : Nat) (z : Str), x = .str ⟨#[c]⟩ ∧ y = .str z ∧ Q (.bl (!decide (c ∈ z.cps.toList))) H)
theorem op_ninDD (hu : X.A.units + 65 < cLine) : OpR X (compareOp .NotIn) (rNinDD X.K) := OpR.or op_notIn_seq (OpR.or (op_notInD hu) op_notIn_sign)
theorem flat_v {F : Hp} {x : V} {dx : D} (h : flat dx = true) (r : Rep X.K cn F x dx) : flatV x = true := by
  cases dx <;> first | exact Bool.noConfusion (show false = true from h) | (cases r; rfl)
theorem flat_eqV {F : Hp} {x y : V} {dx dy : D} (h : flat dx = true) (h2 : flat dy = true) (r : Rep X.K cn F x dx) (q : Rep X.K cn F y dy) : eqV y x = deq dy dx := by
  cases dx <;> first | exact Bool.noConfusion (show false = true from h) | skip
  all_goals (cases dy <;> first | exact Bool.noConfusion (show false = true from h2) | (cases r; cases q; simp [eqV, deq]))
theorem flat_any {F : Hp} {x : V} {dx : D} (h : flat dx = true) (r : Rep X.K cn F x dx) : ∀ (ds : List D) (vs : List V), ds.all flat = true → Reps X.K cn F vs ds → vs.all flatV = true ∧ inV x vs = ds.any fun y => deq y dx
  | [], vs, _, q => by cases q.inv0; exact ⟨rfl, rfl⟩
  | d :: ds, vs, h2, q => by
    obtain ⟨v, vs', rfl, r1, r2⟩ := q.inv
    rw [List.all_cons, Bool.and_eq_true] at h2
    obtain ⟨i1, i2⟩ := flat_any h r ds vs' h2.2 r2
    refine ⟨by rw [List.all_cons, i1, flat_v h2.1 r1]; rfl, ?_⟩
    unfold inV at *
    rw [List.any_cons, List.any_cons, i2, flat_eqV h h2.1 r r1]
theorem flat_rep {F H : Hp} {x : V} {dx : D} (h : flat dx = true) (r : Shal X.K cn F H x dx) : Rep X.K cn F x dx := by
  cases dx <;> first | exact Bool.noConfusion (show false = true from h) | exact r
theorem toP_any {m k : Nat} {x : D} (hx : okDat m x = true) : ∀ ys : List D, (∀ y ∈ ys, okDat k y = true) → ((toPs ys).any fun z => PyData.eqv z (toP x)) = ys.any fun y => deq y x
  | [], _ => rfl
  | y :: ys, h => by
    simp only [toPs, List.any_cons]
    rw [toP_any hx ys fun z hz => h z (by simp [hz]), eqv_deq _ _ _ _ (h y (by simp)) hx]
theorem isIn_cases {F H : Hp} {x y : V} {dx dy : D} {b : Bool} (s : Same F H) (hx : Shal X.K cn F H x dx) (hy : Shal X.K cn F H y dy) (e : isIn dx dy = some b) :
    (∃ p xs, y = .ref p ∧ (SqL X.K H p xs ∨ SqT X.K H p xs) ∧ flatV x = true ∧ xs.all flatV = true ∧ inV x xs = b) ∨
    (∃ d ds, Dp X.K H x d ∧ Dp X.K H y (.list ds) ∧ SeqAt.shaped d = true ∧ SeqAt.shaped (.list ds) = true ∧ (ds.any fun z => PyData.eqv z d) = b) ∨
    (∃ (c : Nat) (z : Str), x = .str ⟨#[c]⟩ ∧ y = .str z ∧ decide (c ∈ z.cps.toList) = b) := by
  cases dy with
  | lst ys =>
    have e : (if flat dx && ys.all flat then some (ys.any fun y => deq y dx) else if okDat 60 dx && okDat 60 (.lst ys) then some (ys.any fun y => deq y dx) else none) = some b := e
    split at e
    · rename_i h
      rw [Bool.and_eq_true] at h
      cases e
      obtain ⟨a, vs, rfl, ha, q⟩ := hy
      have f := flat_any h.1 (flat_rep h.1 hx) ys vs h.2 q
      exact .inl ⟨a, vs, rfl, .inl (SqL.of ha), flat_v h.1 (flat_rep h.1 hx), f.1, f.2⟩
    · split at e
      · rename_i h
        rw [Bool.and_eq_true] at h
        cases e
        have hd := dp_shal s h.2 hy
        have hs := toP_sh h.2
        rw [toP] at hd hs
        refine .inr (.inl ⟨_, _, dp_shal s h.1 hx, hd, toP_sh h.1, hs, ?_⟩)
        rcases okDat_cases h.2 with ⟨m, xs, z, h1 | h1, hx2⟩ | h1 | ⟨b, h1⟩ | ⟨b, h1⟩ | ⟨b, h1, _⟩ <;> cases h1
        exact toP_any h.1 ys hx2
      · cases e
  | tup ys =>
    have e : (if flat dx && ys.all flat then some (ys.any fun y => deq y dx) else none) = some b := e
    split at e
    · rename_i h
      rw [Bool.and_eq_true] at h
      cases e
      obtain ⟨a, vs, rfl, ha, q⟩ := hy.tup s
      have f := flat_any h.1 (flat_rep h.1 hx) ys vs h.2 q
      exact .inl ⟨a, vs, rfl, .inr ha, flat_v h.1 (flat_rep h.1 hx), f.1, f.2⟩
    · cases e
  | str z =>
    cases dx with
    | str c =>
      have e : (if c.length = 1 then some (decide (c.cps.getD 0 0 ∈ z.cps.toList)) else none) = some b := e
      split at e
      · rename_i h
        cases e
        rw [hx.str, hy.str]
        refine .inr (.inr ⟨c.cps.getD 0 0, z, ?_, rfl, rfl⟩)
        obtain ⟨cs⟩ := c
        have : cs = #[cs.getD 0 0] := by
          apply Array.ext
          · exact h
          · intro i h1 h2
            have : i = 0 := by simp at h2; omega
            subst this
            simp [Array.getD, h1]
        rw [← this]
      · cases e
    | _ => cases e
  | _ => cases e
theorem r_in : R2D X.K cn (rInDD X.K) dIn := fun F H x y dx dy d Q s hx hy e k => by
  unfold dIn at e
  cases h : isIn dx dy with
  | none => rw [h] at e; cases e
  | some b =>
    rw [h] at e
    cases e
    have kk := k _ F H (ext0 s) (.bl b)
    rcases isIn_cases s hx hy h with ⟨p, xs, h1, h2, h3, h4, rfl⟩ | ⟨dd, ds, h1, h2, h3, h4, rfl⟩ | ⟨c, z, h1, h2, rfl⟩
    · exact .inl ⟨p, xs, h1, h2, h3, h4, kk⟩
    · exact .inr (.inl ⟨dd, ds, h1, h2, h3, h4, kk⟩)
    · exact .inr (.inr ⟨c, z, h1, h2, kk⟩)
theorem r_nin : R2D X.K cn (rNinDD X.K) dNin := fun F H x y dx dy d Q s hx hy e k => by
  unfold dNin at e
  cases h : isIn dx dy with
  | none => rw [h] at e; cases e
  | some b =>
    rw [h] at e
    cases e
    have kk := k _ F H (ext0 s) (.bl (!b))
    rcases isIn_cases s hx hy h with ⟨p, xs, h1, h2, h3, h4, rfl⟩ | ⟨dd, ds, h1, h2, h3, h4, rfl⟩ | ⟨c, z, h1, h2, rfl⟩
    · exact .inl ⟨p, xs, h1, h2, h3, h4, kk⟩
    · exact .inr (.inl ⟨dd, ds, h1, h2, h3, h4, kk⟩)
    · exact .inr (.inr ⟨c, z, h1, h2, kk⟩)
/-! is None -/
def rIsN1 : R2 := fun x y H Q => y = .non ∧ Q (.bl (decide (x = .non))) H
def rNotN1 : R2 := fun x y H Q => y = .non ∧ Q (.bl (!decide (x = .non))) H
theorem isnon {F H : Hp} {x : V} {dx : D} (h : Shal X.K cn F H x dx) : decide (x = .non) = (match dx with | .non => true | _ => false) := by
  cases dx with
  | lst ds => obtain ⟨a, vs, rfl, _⟩ := h; simp
  | dct ds => obtain ⟨a, vs, rfl, _⟩ := h; simp
  | _ => cases (show Rep X.K cn F x _ from h) <;> simp
theorem r_isN : R2D X.K cn rIsN1 dIsN := fun F H x y dx dy d Q s hx hy e k => by
  cases dy with
  | non =>
    refine ⟨hy.non, ?_⟩
    rw [isnon hx]
    cases dx <;> (cases (show some _ = some d from e); exact k _ F H (ext0 s) (.bl _))
  | _ => cases e
theorem r_notN : R2D X.K cn rNotN1 dNotN := fun F H x y dx dy d Q s hx hy e k => by
  cases dy with
  | non =>
    refine ⟨hy.non, ?_⟩
    rw [isnon hx]
    cases dx <;> (cases (show some _ = some d from e); exact k _ F H (ext0 s) (.bl _))
  | _ => cases e
/-! indices -/
theorem at1_eq {α : Type} (xs : List α) (i : Int) : at1 xs i = atI xs i := by
  unfold atI at1 Ed.ixN L2.ixN
  by_cases h : 0 ≤ i
  · rw [if_pos h, if_pos h]
  · rw [if_neg h, if_neg h, Int.add_comm]
theorem atI_map {α β : Type} (f : α → β) (xs : List α) (i : Int) : atI (xs.map f) i = (atI xs i).map f := by
  unfold atI
  rw [List.length_map]
  cases L2.ixN xs.length i <;> simp
theorem Reps.atI {F : Hp} {vs : List V} {ds : List D} {i : Int} {d : D} (r : Reps X.K cn F vs ds) (h : L2.atI ds i = some d) : ∃ v, L2.atI vs i = some v ∧ Rep X.K cn F v d := by
  unfold L2.atI at *
  rw [r.1]
  cases e : L2.ixN ds.length i with
  | none => rw [e] at h; cases h
  | some j =>
    rw [e] at h
    exact r.get h
theorem r_ix : R2D X.K cn (rIx X.K) dIx := fun F H x y dx dy d Q s hx hy e k => by
  cases dy with
  | int i =>
    rw [hy.int]
    cases dx with
    | lst ds =>
      have e : at1 ds i = some d := e
      rw [at1_eq] at e
      obtain ⟨a, vs, rfl, ha, q⟩ := hx
      obtain ⟨v, h1, h2⟩ := q.atI e
      exact .inl ⟨a, vs, i, v, rfl, rfl, SqL.of ha, h1, k v F H (ext0 s) h2⟩
    | tup ds =>
      have e : at1 ds i = some d := e
      rw [at1_eq] at e
      obtain ⟨a, vs, rfl, ha, q⟩ := hx.tup s
      obtain ⟨v, h1, h2⟩ := q.atI e
      exact .inr (.inl ⟨a, vs, i, v, rfl, rfl, ha, h1, k v F H (ext0 s) h2⟩)
    | scr ns =>
      have e : (at1 ns i).map D.int = some d := e
      rw [at1_eq] at e
      cases h : atI ns i with
      | none => rw [h] at e; cases e
      | some z =>
        rw [h] at e
        cases e
        cases (show Rep X.K cn F x (.scr ns) from hx) with
        | scr hq => exact .inl ⟨_, _, i, .int z, rfl, rfl, s.seq hq, by rw [atI_map, h]; rfl, k _ F H (ext0 s) (.int z)⟩
    | str z =>
      have e : (if z.length ≤ seqMax then (at1 z.cps.toList i).map fun c => D.str ⟨#[c]⟩ else none) = some d := e
      split at e
      · rename_i hz
        rw [at1_eq] at e
        rw [hx.str]
        cases h : atI z.cps.toList i with
        | none => rw [h] at e; cases e
        | some c =>
          rw [h] at e
          cases e
          exact .inr (.inr ⟨z, i, c, rfl, rfl, by rw [← sm]; exact hz, h, k _ F H (ext0 s) (.str _)⟩)
      · cases e
    | _ => cases e
  | _ => cases dx <;> cases e
theorem je_ix (h1 : JQ X cn W a qa) (h2 : JQ X cn W b qb) (hs : PlainIx b := by first | exact (fun _ _ => rfl) | (intro o i; rfl)) : JE X cn W (.Subscript a b pos) (eB dIx qa qb) := by
  obtain ⟨t1, p1, d1⟩ := h1
  obtain ⟨t2, p2, d2⟩ := h2
  exact ⟨_, pe_ix ix_seq p1 p2 hs, de_B r_ix d1 d2⟩
/-! slices -/
theorem slI_eq (n d : Nat) (o : Option Int) : slI n d o = HT.sIx n d o := by
  unfold slI HT.sIx
  cases o <;> rfl
theorem cut_eq (xs : List V) (lo hi : Option Int) : cut xs lo hi = cutV xs lo hi := by
  unfold cut cutV
  simp only [slI_eq]
theorem cut_map {α β : Type} (f : α → β) (xs : List α) (lo hi : Option Int) : cut (xs.map f) lo hi = (cut xs lo hi).map f := by
  unfold cut
  simp [List.length_map, List.map_take, List.map_drop]
theorem Reps.cut {F : Hp} {vs : List V} {ds : List D} (r : Reps X.K cn F vs ds) (lo hi : Option Int) : Reps X.K cn F (Ed.cut vs lo hi) (Ed.cut ds lo hi) := by
  unfold Ed.cut
  rw [r.1]
  exact (r.drop _).take _
/-- a part of a slice -/
def DP (cn : Cn) (W : WX) (K : PySem.W.Frag) (t : TO) (o : Option QV) : Prop := ∀ C Γ σ F H Q, RelS K cn C Γ σ F H → Post (oPart o Γ) (fun p : Option Int × Env => ∀ F' H', Same F F' → RelS K cn C p.2 σ F' H' → Q p.1 H') (XW K cn C F W) → t σ H Q
def JP (X : Cx) (cn : Cn) (W : WX) (e : Option Expr) (o : Option QV) : Prop := ∃ t, PO X e t ∧ DP cn W X.K t o
theorem jp_none : JP X cn W none none := ⟨_, po_none, fun C Γ σ F H Q R k => k F H (Same.refl _) R⟩
theorem jp_some (h : JQ X cn W e qa) : JP X cn W (some e) (some qa) := by
  obtain ⟨t, p, d⟩ := h
  refine ⟨_, po_some p, fun C Γ σ F H Q R k => d C Γ σ F H _ R (k.bind.mono (fun q k v F' H' s1 R1 hv => ?_) fun _ _ z => z)⟩
  cases e1 : rd q.2 q.1 with
  | none => simp only [e1] at k; exact k.elim
  | some dd =>
    cases dd with
    | int i =>
      simp only [e1] at k
      have hv' := R1.rd e1 hv
      exact ⟨i, hv'.int, k F' H' s1 R1⟩
    | _ => simp only [e1] at k; exact k.elim
def RSD (K : PySem.W.Frag) (cn : Cn) (r : V → Option Int → Option Int → Hp → VK → Prop) (f : D → Option Int → Option Int → Option D) : Prop := ∀ F H x dx l u d Q, Same F H → Shal K cn F H x dx → f dx l u = some d → (∀ z F' H', Ext F H F' H' → Rep K cn F' z d → Q z H') → r x l u H Q
def RSN (K : PySem.W.Frag) (cn : Cn) (r : V → Option Int → Option Int → Hp → VK → Prop) (f : D → Option Int → Option Int → Option D) : Prop := ∀ F H x dx l u d Q, Same F H → Shal K cn F H x dx → f dx l u = some d → (∀ p vs ds, d = .lst ds → H p = none → Reps K cn F vs ds → Q (.ref p) (upd H p (.lst vs))) → r x l u H Q
def rSlAll (K : PySem.W.Frag) : V → Option Int → Option Int → Hp → VK → Prop := fun x lo hi H Q => rSlL K x lo hi H Q ∨ (rSlA K x lo hi H Q ∨ rSlS x lo hi H Q)
theorem sl_all : L2.SlR X (rSlAll X.K) := L2.SlR.or sl_list (L2.SlR.or sl_tupA sl_str)
theorem sl_tupD {F : Hp} {H : Hp} {x : V} {xs : List D} {l u : Option Int} {Q : VK} (s : Same F H) (hx : Shal X.K cn F H x (.tup xs)) (k : ∀ z F' H', Ext F H F' H' → Rep X.K cn F' z (.tup (cut xs l u)) → Q z H') : rSlA X.K x l u H Q := by
  obtain ⟨a, vs, rfl, ha, q⟩ := hx.tup s
  have hx' : Rep X.K cn F (.ref a) (.tup xs) := hx
  refine ⟨a, vs, rfl, ha, fun hw => ?_, fun hw p hp => ?_⟩
  · refine k _ F H (ext0 s) ?_
    have : cut xs l u = xs := by
      unfold cut
      rw [slI_eq, slI_eq, ← q.1, hw.1, hw.2]
      simp [q.1]
    rw [this]; exact hx'
  · have ex := Ext.new (o := HO.tup (cutV vs l u)) s hp
    have qq := (q.cut l u).mono ex.f
    rw [cut_eq] at qq
    exact k _ _ _ ex (.tup (SqT.of upd_same) qq.1 qq.2)
theorem r_cut : RSD X.K cn (rSlAll X.K) dCut := fun F H x dx l u d Q s hx e k => by
  cases dx with
  | lst xs =>
    cases e
    obtain ⟨a, vs, rfl, ha, q⟩ := hx
    refine .inl ⟨a, vs, rfl, SqL.of ha, fun p hp => ?_⟩
    have ex := Ext.new (o := HO.lst (cutV vs l u)) s hp
    have qq := (q.cut l u).mono ex.f
    rw [cut_eq] at qq
    exact k _ _ _ ex (.lst upd_same qq.1 qq.2)
  | scr ns =>
    cases e
    cases (show Rep X.K cn F x (.scr ns) from hx) with
    | scr hq =>
      refine .inl ⟨_, _, rfl, s.seq hq, fun p hp => ?_⟩
      have ex := Ext.new (o := HO.lst (cutV (ns.map V.int) l u)) s hp
      refine k _ _ _ ex (.lst upd_same (by rw [← cut_eq, cut_map]; simp) fun i v d h1 h2 => ?_)
      rw [← cut_eq, cut_map, List.getElem?_map] at h1
      rw [List.getElem?_map] at h2
      cases h : (cut ns l u)[i]? with
      | none => rw [h] at h1; cases h1
      | some z => rw [h] at h1 h2; cases h1; cases h2; exact .int z
  | tup xs => cases e; exact .inr (.inl (sl_tupD s hx k))
  | str z =>
    have e : (if z.length ≤ seqMax then some (D.str ⟨(cut z.cps.toList l u).toArray⟩) else none) = some d := e
    split at e
    · rename_i hz
      cases e
      rw [hx.str]
      refine .inr (.inr ⟨z, rfl, by rw [← sm]; exact hz, ?_⟩)
      have : cutS z l u = ⟨(cut z.cps.toList l u).toArray⟩ := by
        unfold cutS cut
        simp only [slI_eq, Array.length_toList]
        rfl
      rw [this]
      exact k _ F H (ext0 s) (.str _)
    · cases e
  | _ => cases e
theorem ints_reps {F : Hp} (ns : List Int) : Reps X.K cn F (ns.map V.int) (ns.map D.int) := ⟨by simp, fun i v d h1 h2 => by
  rw [List.getElem?_map] at h1 h2
  cases h : ns[i]? with
  | none => rw [h] at h1; cases h1
  | some z => rw [h] at h1 h2; cases h1; cases h2; exact .int z⟩
theorem r_cutL : RSN X.K cn (rSlL X.K) dCutL := fun F H x dx l u d Q s hx e k => by
  cases dx with
  | lst xs =>
    cases e
    obtain ⟨a, vs, rfl, ha, q⟩ := hx
    exact ⟨a, vs, rfl, SqL.of ha, fun p hp => k p _ _ rfl hp (by have := q.cut l u; rwa [cut_eq] at this)⟩
  | scr ns =>
    cases e
    cases (show Rep X.K cn F x (.scr ns) from hx) with
    | scr hq => exact ⟨_, _, rfl, s.seq hq, fun p hp => k p _ _ rfl hp (by rw [← cut_eq, cut_map]; exact ints_reps _)⟩
  | _ => cases e
theorem je_sl {lo hi : Option Expr} {ol oh : Option QV} {p2 : Pos} (h1 : JQ X cn W a qa) (h2 : JP X cn W lo ol) (h3 : JP X cn W hi oh) : JE X cn W (.Subscript a (.Slice lo hi none p2) pos) (eSl dCut qa ol oh) := by
  obtain ⟨t1, p1, d1⟩ := h1
  obtain ⟨t2, q2, d2⟩ := h2
  obtain ⟨t3, q3, d3⟩ := h3
  refine ⟨_, pe_slice sl_all p1 q2 q3, fun C Γ σ F H Q R k => ?_⟩
  refine d1 C Γ σ F H _ R (k.bind.mono (fun p k v F' H' s1 R1 hv => ?_) fun _ _ z => z)
  refine d2 C p.2 σ F' H' _ R1 (k.bind.mono (fun q k F2 H2 s2 R2 => ?_) fun _ _ z => XW.up s1 z)
  refine d3 C q.2 σ F2 H2 _ R2 (k.bind.mono (fun r k F3 H3 s3 R3 => ?_) fun _ _ z => XW.up (s1.trans s2) z)
  cases e1 : rd r.2 p.1 with
  | none => simp only [e1] at k; exact k.elim
  | some dd =>
    simp only [e1] at k
    obtain ⟨z, e3, k⟩ := k.bind.of
    exact r_cut F3 H3 v dd q.1 r.1 z Q R3.bs.fh (R3.rd e1 (hv.mono (s2.trans s3))) e3 fun zv F4 H4 ex rz => k zv F4 H4 (((s1.trans s2).trans s3).trans ex.f) (R3.ext ex) rz
theorem jn_sl {lo hi : Option Expr} {ol oh : Option QV} {p2 : Pos} (h1 : JQ X cn W a qa) (h2 : JP X cn W lo ol) (h3 : JP X cn W hi oh) : JN X cn W (.Subscript a (.Slice lo hi none p2) pos) (eSl dCutL qa ol oh) := by
  obtain ⟨t1, p1, d1⟩ := h1
  obtain ⟨t2, q2, d2⟩ := h2
  obtain ⟨t3, q3, d3⟩ := h3
  refine ⟨_, pe_slice sl_list p1 q2 q3, fun C Γ σ F H Q R k => ?_⟩
  refine d1 C Γ σ F H _ R (k.bind.mono (fun p k v F' H' s1 R1 hv => ?_) fun _ _ z => z)
  refine d2 C p.2 σ F' H' _ R1 (k.bind.mono (fun q k F2 H2 s2 R2 => ?_) fun _ _ z => XW.up s1 z)
  refine d3 C q.2 σ F2 H2 _ R2 (k.bind.mono (fun r k F3 H3 s3 R3 => ?_) fun _ _ z => XW.up (s1.trans s2) z)
  cases e1 : rd r.2 p.1 with
  | none => simp only [e1] at k; exact k.elim
  | some dd =>
    simp only [e1] at k
    obtain ⟨z, e3, k⟩ := k.bind.of
    refine r_cutL F3 H3 v dd q.1 r.1 z Q R3.bs.fh (R3.rd e1 (hv.mono (s2.trans s3))) e3 fun a vs ds ez ha hr => ?_
    subst ez
    obtain ⟨r3, nw⟩ := NewR.laid R3 hr ha
    exact k (.ref a) F3 _ ((s1.trans s2).trans s3) r3 nw
theorem je_rev {k : Nat} {p1 p2 p3 : Pos} (h : JQ X cn W a qa) : JE X cn W (.Subscript a (.Slice none none (some (.UnaryOp .USub (.Constant (.int 1) k p1) p2)) p3) pos) (eU dRev qa) := by
  obtain ⟨t1, p1, d1⟩ := h
  refine ⟨_, pe_revL p1, de_U (r := fun x H Q => ∃ a xs, x = .ref a ∧ SqL X.K H a xs ∧ ∀ p, H p = none → Q (.ref p) (upd H p (.lst xs.reverse))) (fun F H x dx d Q s hx e k => ?_) d1⟩
  cases dx with
  | lst xs =>
    cases e
    obtain ⟨a, vs, rfl, ha, q⟩ := hx
    refine ⟨a, vs, rfl, SqL.of ha, fun p hp => ?_⟩
    have ex := Ext.new (o := HO.lst vs.reverse) s hp
    exact k _ _ _ ex (.lst upd_same (q.rev.mono ex.f).1 (q.rev.mono ex.f).2)
  | _ => cases e
theorem jn_rev {k : Nat} {p1 p2 p3 : Pos} (h : JQ X cn W a qa) : JN X cn W (.Subscript a (.Slice none none (some (.UnaryOp .USub (.Constant (.int 1) k p1) p2)) p3) pos) (eU dRev qa) := by
  obtain ⟨t1, p1, d1⟩ := h
  refine ⟨_, pe_revL p1, dn_U (r := fun x H Q => ∃ a xs, x = .ref a ∧ SqL X.K H a xs ∧ ∀ p, H p = none → Q (.ref p) (upd H p (.lst xs.reverse))) (fun F H x dx d Q s hx e k => ?_) d1⟩
  cases dx with
  | lst xs =>
    cases e
    obtain ⟨a, vs, rfl, ha, q⟩ := hx
    exact ⟨a, vs, rfl, SqL.of ha, fun p hp => k p _ _ rfl hp q.rev⟩
  | _ => cases e
end
end Ed

set_option autoImplicit true
set_option Elab.async false
set_option linter.all false
set_option maxRecDepth 100000
set_option maxHeartbeats 4000000
set_option autoImplicit false
/-! isinstance, gcd, list, tuple, sum, all, any, max, min, texts -/
namespace Ed
open PySem L2
section
variable {X : Cx} {cn : Cn} {W : WX} {a b c e : Expr} {es : List Expr} {pos : Pos} {ea eb : EV} {qa qb : QV} {ta tb : TV} {av : AV} {lv : LV}
/-! isinstance -/
/-- what the second place holds: a class, as a value -/
def JC (X : Cx) (e : Expr) (v : V) (u : Value) : Prop := PE X e (tC v) ∧ ClsV v u
theorem jc_own {x : Str} {p : Pos} {C : Addr} (hg : Gl X x) (hm : X.mg x = some (.ref C)) (hd : (x == ("__debug__" : Str)) = false := by decide) : JC X (.Name x p) (.ref C) (.ref C) := ⟨pe_glob hg hm rfl hd, .own C⟩
theorem jc_ty {x : Str} {p : Pos} {T : String} (hg : Gl X x) (hm : X.mg x = none) (hv : bootBuiltins x = some (.type T)) (hn : x ≠ "__name__" := by decide) (hd : (x == ("__debug__" : Str)) = false := by decide) : JC X (.Name x p) (.ty T) (.type T) := ⟨pe_bltn hg hm hv rfl hn hd, .ty T⟩
/-- what is asked of the data, whose class the other is -/
def TyD (K : PySem.W.Frag) (cn : Cn) (u : Value) : D → Bool → Prop
  | .non, b => PySem.W.kitOne K (.type "NoneType") u = some b
  | .bl _, b => PySem.W.kitOne K (.type "bool") u = some b
  | .int _, b => PySem.W.kitOne K (.type "int") u = some b
  | .str _, b => PySem.W.kitOne K (.type "str") u = some b
  | .lst _, b => PySem.W.kitOne K (.type "list") u = some b
  | .tup _, b => PySem.W.kitOne K (.type "tuple") u = some b
  | .dct _, b => PySem.W.kitOne K (.type "dict") u = some b
  | .ins c _, b => PySem.W.kitOne K (.ref (cn.ca c)) u = some b ∧ Cls K (cn.ca c) ∧ PySem.W.findIn K (.ref (cn.ca c)) "__class__" = some (some (.builtin "object.__class__")) ∧
      PySem.W.specialIn K (.builtin "object.__class__") "__get__" = some (some (.builtin "getset_descriptor.__get__")) ∧ PySem.W.takesIn K (.builtin "object.__class__") = some true ∧ PySem.W.mroIn K (cn.ca c) (.type "object") = some true
  | .scr _, _ => False
theorem tyx {F H : Hp} {x : V} {d : D} {u : Value} {b : Bool} (s : Same F H) (hx : Shal X.K cn F H x d) (h : TyD X.K cn u d b) : ∃ t, TyX X.K H x t ∧ PySem.W.kitOne X.K t u = some b := by
  cases d with
  | non => rw [hx.non]; exact ⟨_, .base .non, h⟩
  | bl z => rw [hx.bl]; exact ⟨_, .base (.bl z), h⟩
  | int z => rw [hx.int]; exact ⟨_, .base (.int z), h⟩
  | str z => rw [hx.str]; exact ⟨_, .base (.str z), h⟩
  | lst ds => obtain ⟨a, vs, rfl, ha, _⟩ := hx; exact ⟨_, .base (.lst ha), h⟩
  | dct ds => obtain ⟨a, vs, rfl, ha, _⟩ := hx; exact ⟨_, .base (.dK ha), h⟩
  | tup ds =>
    obtain ⟨a, vs, rfl, ha, _⟩ := hx.tup s
    rcases ha with (ha | ⟨o, ha⟩) | ⟨o, _, _, ho, hc, _⟩
    · exact ⟨_, .base (.tup ha), h⟩
    · exact ⟨_, .fTuple ha, h⟩
    · exact ⟨_, .kTuple ho hc, h⟩
  | ins c fs =>
    obtain ⟨h, h1, h2, h3, h4, h5⟩ := h
    cases (show Rep X.K cn F x (.ins c fs) from hx) with
    | ins he => exact ⟨_, .base (.ins (s _ _ he) h1 h2 h3 h4 h5), h⟩
  | scr ns => exact h.elim
theorem je_isi {p : Pos} {v : V} {u : Value} {f : D → Option Bool} (hg : Gl X "isinstance") (hm : X.mg "isinstance" = none) (h1 : JQ X cn W a qa) (h2 : JC X b v u) (hf : ∀ d k, f d = some k → TyD X.K cn u d k)
    (he : starEach [a, b] X.env = (false, eval a X.env) :: starEach [b] X.env := by rfl) (he2 : starEach [b] X.env = (false, eval b X.env) :: starEach [] X.env := by rfl) (hpl : (backTo pos (starEach [b] X.env)).any (·.1) = false := by rfl) :
    JE X cn W (.Call (.Name "isinstance" p) [a, b] [] pos) (eU (fun d => (f d).map .bl) qa) := by
  obtain ⟨t1, p1, d1⟩ := h1
  refine ⟨_, pe_callB call_isi hg hm rfl (pa_cons p1 (pa_cons h2.1 pa_nil he2) he) (by decide) (by decide) he hpl, fun C Γ σ F H Q R k => ?_⟩
  refine d1 C Γ σ F H _ R (k.bind.mono (fun q k w F' H' s1 R1 hv => ?_) fun _ _ z => z)
  cases e1 : rd q.2 q.1 with
  | none => simp only [e1] at k; exact k.elim
  | some dd =>
    simp only [e1] at k
    obtain ⟨z, e3, k⟩ := k.bind.of
    cases e4 : f dd with
    | none => rw [e4] at e3; cases e3
    | some bb =>
      rw [e4] at e3
      cases e3
      obtain ⟨t, ty, kk⟩ := tyx R1.bs.fh (R1.rd e1 hv) (hf dd bb e4)
      exact ⟨w, v, t, u, bb, rfl, h2.2, ty, kk, k (.bl bb) F' H' s1 R1 (.bl bb)⟩
/-! the built-in types -/
theorem ty_int (d : D) (k : Bool) (h : dIsT .tInt d = some (.bl k)) : TyD X.K cn (.type "int") d k := by
  cases d <;> first | (cases h; exact kit_ty (by decide +kernel)) | cases h
theorem ty_bool (d : D) (k : Bool) (h : dIsT .tBool d = some (.bl k)) : TyD X.K cn (.type "bool") d k := by
  cases d <;> first | (cases h; exact kit_ty (by decide +kernel)) | cases h
theorem ty_str (d : D) (k : Bool) (h : dIsT .tStr d = some (.bl k)) : TyD X.K cn (.type "str") d k := by
  cases d <;> first | (cases h; exact kit_ty (by decide +kernel)) | cases h
theorem ty_list (d : D) (k : Bool) (h : dIsT .tList d = some (.bl k)) : TyD X.K cn (.type "list") d k := by
  cases d <;> first | (cases h; exact kit_ty (by decide +kernel)) | cases h
theorem ty_tuple (d : D) (k : Bool) (h : dIsT .tTuple d = some (.bl k)) : TyD X.K cn (.type "tuple") d k := by
  cases d <;> first | (cases h; exact kit_ty (by decide +kernel)) | cases h
end
end Ed

set_option autoImplicit true
set_option Elab.async false
set_option linter.all false
set_option maxRecDepth 100000
set_option maxHeartbeats 4000000
set_option autoImplicit false
/-! comprehensions -/
namespace Ed
open PySem L2
section
variable {K : PySem.W.Frag} {cn : Cn} {C : Ct} {Γ Γ' Γ1 Γ2 : Env} {σ : St} {F F' F1 F2 H H' H1 H2 : Hp} {v : V} {d : D} {i : Nat} {D0 : Addr} {o o' : HO} {vs : List Nat}
/-- the heap at the entry with one thing more: what is being made is kept -/
def Ct.at (C : Ct) (a : Addr) (o : HO) : Ct := ⟨C.B0, upd C.H0 a o, C.F0, C.slf⟩
theorem RelS.toD (R : RelS K cn C Γ σ F H) (hD : H D0 = some o) (fD : F D0 = none) (nD : ∀ (j : Nat) d', Γ[j]? = some (.own d') → σ[j]? ≠ some (some (V.ref D0))) (h0 : C.H0 D0 = none) : RelS K cn (C.at D0 o) Γ σ F H := by
  refine ⟨⟨R.bs.fh, R.bs.f0, fun b o' h1 h2 => ?_, fun b h1 h2 => ?_, fun a h => ?_, fun b o' h => ?_⟩, R.len, fun j t h => ?_, R.ow, R.s0⟩
  · by_cases z : b = D0
    · subst z
      have : (upd C.H0 b o) b = some o' := h1
      rw [upd_same] at this
      cases this; exact hD
    · have : (upd C.H0 D0 o) b = some o' := h1
      rw [upd_ne z] at this
      exact R.bs.h0 b o' this h2
  · by_cases z : b = D0
    · subst z; exact fD
    · have : (upd C.H0 D0 o) b ≠ none := h2
      rw [upd_ne z] at this
      exact R.bs.nw b h1 this
  · obtain ⟨⟨c, dx, fs, q⟩, q2⟩ := R.bs.si a h
    refine ⟨⟨c, dx, fs, ?_⟩, q2⟩
    have z : a ≠ D0 := fun z => by subst z; rw [h0] at q; cases q
    show (upd C.H0 D0 o) a = _
    rw [upd_ne z]; exact q
  · have q := R.bs.b0 b o' h
    have z : b ≠ D0 := fun z => by subst z; rw [h0] at q; cases q
    show (upd C.H0 D0 o) b = _
    rw [upd_ne z]; exact q
  · have w := R.sl j t h
    cases t with
    | emp => trivial
    | val x => exact w
    | bor x => exact w
    | slf c fs => exact w
    | exn x => exact w
    | own x =>
      obtain ⟨a, e1, n, n0, r⟩ := w
      refine ⟨a, e1, n, ?_, r⟩
      have z : a ≠ D0 := fun z => nD j x h (by rw [← z]; exact join_some e1)
      show (upd C.H0 D0 o) a = none
      rw [upd_ne z]; exact n0
theorem Bas.ofD (R : Bas (C.at D0 o) F H) (h0 : C.H0 D0 = none) (f0 : C.F0 D0 = none) (hs : C.slf ≠ some D0) (hb : ∀ b o, C.B0 b = some o → C.H0 b = some o) (hi : ∀ a, C.slf = some a → ∃ c dx fs, C.H0 a = some (.ins c dx fs)) : Bas C F H ∧ H D0 = some o ∧ F D0 = none := by
  have e : (C.at D0 o).H0 D0 = some o := by show (upd C.H0 D0 o) D0 = _; exact upd_same
  refine ⟨⟨R.fh, R.f0, fun b o' h1 h2 => ?_, fun b h1 h2 => ?_, fun a h => ⟨hi a h, (R.si a h).2⟩, hb⟩, R.h0 D0 o e hs, R.nw D0 f0 (by rw [e]; simp)⟩
  · have z : b ≠ D0 := fun z => by subst z; rw [h0] at h1; cases h1
    exact R.h0 b o' (by show (upd C.H0 D0 o) b = _; rw [upd_ne z]; exact h1) h2
  · have z : b ≠ D0 := fun z => by subst z; exact h2 h0
    exact R.nw b h1 (by show (upd C.H0 D0 o) b ≠ _; rw [upd_ne z]; exact h2)
theorem RelS.ofD (R : RelS K cn (C.at D0 o) Γ σ F H) (h0 : C.H0 D0 = none) (f0 : C.F0 D0 = none) (hs : C.slf ≠ some D0) (hb : ∀ b o, C.B0 b = some o → C.H0 b = some o) (hi : ∀ a, C.slf = some a → ∃ c dx fs, C.H0 a = some (.ins c dx fs)) :
    RelS K cn C Γ σ F H ∧ H D0 = some o ∧ F D0 = none ∧ ∀ (j : Nat) d', Γ[j]? = some (.own d') → σ[j]? ≠ some (some (V.ref D0)) := by
  obtain ⟨b1, b2, b3⟩ := R.bs.ofD h0 f0 hs hb hi
  refine ⟨⟨b1, R.len, fun j t h => ?_, R.ow, R.s0⟩, b2, b3, fun j d' h z => ?_⟩
  · have w := R.sl j t h
    cases t with
    | emp => trivial
    | val x => exact w
    | bor x => exact w
    | slf c fs => exact w
    | exn x => exact w
    | own x =>
      obtain ⟨a, e1, n, n0, r⟩ := w
      refine ⟨a, e1, n, ?_, r⟩
      have n0 : (upd C.H0 D0 o) a = none := n0
      by_cases z : a = D0
      · subst z; exact h0
      · rw [upd_ne z] at n0; exact n0
  · obtain ⟨a, e1, n, n0, r⟩ := R.sl j _ h
    rw [join_some e1] at z
    cases z
    have n0 : (upd C.H0 D0 o) D0 = none := n0
    rw [upd_same] at n0; cases n0
theorem RelS.updD (R : RelS K cn C Γ σ F H) (fD : F D0 = none) (nD : ∀ (j : Nat) d', Γ[j]? = some (.own d') → σ[j]? ≠ some (some (V.ref D0))) (h0 : C.H0 D0 = none) (hs : C.slf ≠ some D0) : RelS K cn C Γ σ F (upd H D0 o) := by
  refine ⟨⟨same_out R.bs.fh fD, R.bs.f0, fun b o' h1 h2 => ?_, R.bs.nw, fun a h => ⟨(R.bs.si a h).1, ?_⟩, R.bs.b0⟩, R.len, fun j t h => ?_, R.ow, R.s0⟩
  · have z : b ≠ D0 := fun z => by subst z; rw [h0] at h1; cases h1
    rw [upd_ne z]; exact R.bs.h0 b o' h1 h2
  · have z : a ≠ D0 := fun z => by subst z; exact hs h
    rw [upd_ne z]; exact (R.bs.si a h).2
  · have w := R.sl j t h
    cases t with
    | emp => trivial
    | val x => exact w
    | bor x => exact w
    | slf c fs =>
      obtain ⟨a, dx, fvs, e1, e2, n, h, r⟩ := w
      have z : a ≠ D0 := fun z => by subst z; exact hs e2
      exact ⟨a, dx, fvs, e1, e2, n, by rw [upd_ne z]; exact h, r⟩
    | exn x => exact w
    | own x =>
      obtain ⟨a, e1, n, n0, r⟩ := w
      have z : a ≠ D0 := fun z => nD j x h (by rw [← z]; exact join_some e1)
      refine ⟨a, e1, n, n0, ?_⟩
      cases x with
      | lst ds => obtain ⟨vs, h, p⟩ := r; exact ⟨vs, by rw [upd_ne z]; exact h, p⟩
      | dct ds => obtain ⟨vs, h, p⟩ := r; exact ⟨vs, by rw [upd_ne z]; exact h, p⟩
      | _ => exact r.elim
theorem RelS.wipe (R : RelS K cn C Γ σ F H) : ∀ vs : List Nat, RelS K cn C (wipeG Γ vs) (L2.wipe σ vs) F H
  | [] => R
  | v :: vs => (RelS.wipe R vs).setE
theorem wipe_ne : ∀ {vs : List Nat} {j : Nat}, j ∉ vs → (L2.wipe σ vs)[j]? = σ[j]?
  | [], _, _ => rfl
  | v :: vs, j, h => by
    show ((L2.wipe σ vs).set v none)[j]? = _
    rw [List.getElem?_set_ne (fun z => h (by simp [z]))]
    exact wipe_ne (fun z => h (by simp [z]))
theorem wipe_in : ∀ {vs : List Nat} {j : Nat}, j ∈ vs → j < σ.length → (L2.wipe σ vs)[j]? = some none
  | [], _, h, _ => by cases h
  | v :: vs, j, h, hl => by
    show ((L2.wipe σ vs).set v none)[j]? = _
    by_cases z : v = j
    · subst z; rw [List.getElem?_set_self (by rw [L2.wipe_length]; exact hl)]
    · rw [List.getElem?_set_ne z]
      rcases List.mem_cons.mp h with q | q
      · exact absurd q.symm z
      · exact wipe_in q hl
theorem wipe_ext {σ1 σ2 : St} (hl : σ1.length = σ2.length) (h : ∀ j, j ∉ vs → σ1[j]? = σ2[j]?) : L2.wipe σ1 vs = L2.wipe σ2 vs := by
  apply List.ext_getElem?
  intro j
  by_cases z : j ∈ vs
  · by_cases hj : j < σ1.length
    · rw [wipe_in z hj, wipe_in z (hl ▸ hj)]
    · rw [List.getElem?_eq_none (by rw [L2.wipe_length]; omega), List.getElem?_eq_none (by rw [L2.wipe_length]; omega)]
  · rw [wipe_ne z, wipe_ne z, h j z]
theorem wipe_wipe : L2.wipe (L2.wipe σ vs) vs = L2.wipe σ vs := wipe_ext (L2.wipe_length σ vs) fun j h => wipe_ne h
theorem restG_get {Γ0 Γ : Env} {t : Sl} : ∀ {vs : List Nat} {j : Nat}, (restG Γ0 Γ vs)[j]? = some t → (j ∈ vs ∧ t = get Γ0 j) ∨ (j ∉ vs ∧ Γ[j]? = some t)
  | [], j, h => .inr ⟨by simp, h⟩
  | v :: vs, j, h => by
    have h : (put (restG Γ0 Γ vs) v (get Γ0 v))[j]? = some t := h
    rw [put_eq] at h
    rcases getSet h with ⟨rfl, rfl⟩ | ⟨z, h⟩
    · exact .inl ⟨by simp, rfl⟩
    · rcases restG_get h with ⟨h1, h2⟩ | ⟨h1, h2⟩
      · exact .inl ⟨by simp [h1], h2⟩
      · exact .inr ⟨by simp [h1, Ne.symm z], h2⟩
theorem restG_len {Γ0 Γ : Env} : ∀ vs : List Nat, (restG Γ0 Γ vs).length = Γ.length
  | [] => rfl
  | v :: vs => by show (put (restG Γ0 Γ vs) v (get Γ0 v)).length = _; rw [put_eq, List.length_set, restG_len vs]
theorem RelS.rest (R1 : RelS K cn C Γ1 σ F1 H1) (st : ∀ i ∈ vs, stb (get Γ1 i) = true) (s : Same F1 F2) (R2 : RelS K cn C Γ2 (L2.wipe σ vs) F2 H2) : RelS K cn C (restG Γ1 Γ2 vs) σ F2 H2 := by
  have own : ∀ {j : Nat} {d : D}, (restG Γ1 Γ2 vs)[j]? = some (.own d) → j ∉ vs ∧ Γ2[j]? = some (.own d) := fun {j d} h => by
    rcases restG_get h with ⟨h1, h2⟩ | h1
    · have := st j h1
      rw [← h2] at this; cases this
    · exact h1
  refine ⟨R2.bs, by rw [restG_len, R2.len, L2.wipe_length], fun j t h => ?_, fun j k x y b h1 h2 h3 h4 => ?_, fun j c fs h => ?_⟩
  · rcases restG_get h with ⟨h1, h2⟩ | ⟨h1, h2⟩
    · have hst := st j h1
      rw [← h2] at hst
      cases t with
      | emp => trivial
      | val x =>
        obtain ⟨v, e, r⟩ := R1.at h2.symm (fun z => by cases z)
        exact ⟨v, e, r.mono s⟩
      | bor x =>
        obtain ⟨v, e, r⟩ := R1.at h2.symm (fun z => by cases z)
        exact ⟨v, e, r.mono s (Same.refl _)⟩
      | exn x =>
        obtain ⟨a, e, q1⟩ := R1.at h2.symm (fun z => by cases z)
        exact ⟨a, e, fun a' cls od z => ⟨(q1 a' cls od z).1, (q1 a' cls od z).2.mono s⟩⟩
      | own x => cases hst
      | slf c fs => cases hst
    · have w := R2.sl j t h2
      rw [wipe_ne h1] at w
      exact w
  · obtain ⟨a1, a2⟩ := own h1
    obtain ⟨b1, b2⟩ := own h2
    exact R2.ow j k x y b a2 b2 (by rw [wipe_ne a1]; exact h3) (by rw [wipe_ne b1]; exact h4)
  · rcases restG_get h with ⟨h1, h2⟩ | ⟨h1, h2⟩
    · have := st j h1
      rw [← h2] at this; cases this
    · exact R2.s0 j c fs h2
end
end Ed

set_option autoImplicit true
set_option Elab.async false
set_option linter.all false
set_option maxRecDepth 100000
set_option maxHeartbeats 4000000
set_option autoImplicit false
namespace Ed
open PySem L2
/-- no exception is wished -/
abbrev W0 : WX := fun _ _ _ _ => False
section
variable (K : PySem.W.Frag) (cn : Cn)
/-- what the data function says of an expression, as a reading -/
def tSem (ev : EV) : TE := fun σ H Q => ∃ C Γ F, RelS K cn C Γ σ F H ∧ Post (ev Γ) (EEnd K cn C σ F Q) (XW K cn C F W0)
def tSemT (ev : TV) : TT := fun σ H Q => ∃ C Γ F, RelS K cn C Γ σ F H ∧ Post (ev Γ) (TEnd K cn C σ F Q) (XW K cn C F W0)
/-- a target that stays within the slots vs -/
def DGc (vs : List Nat) (g : TG) (gv : GV) : Prop := ∀ C Γ σ F H v d Γ' N, RelS K cn C Γ σ F H → Rep K cn F v d → gv d Γ = some Γ' → (∀ σ' F' H', Same F F' → RelS K cn C Γ' σ' F' H' → L2.wipe σ' vs = L2.wipe σ vs → N σ' H') → g v σ H N
def DGcs (vs : List Nat) (g : TGs) (gv : List GV) : Prop := ∀ C Γ σ F H ws ds Γ' N, RelS K cn C Γ σ F H → Reps K cn F ws ds → gs gv ds Γ = some Γ' → (∀ σ' F' H', Same F F' → RelS K cn C Γ' σ' F' H' → L2.wipe σ' vs = L2.wipe σ vs → N σ' H') → g ws σ H N
def tSemG (vs : List Nat) (gv : GV) : TG := fun v σ H N => ∃ C Γ F d Γ', RelS K cn C Γ σ F H ∧ Rep K cn F v d ∧ gv d Γ = some Γ' ∧ ∀ σ' F' H', Same F F' → RelS K cn C Γ' σ' F' H' → L2.wipe σ' vs = L2.wipe σ vs → N σ' H'
end
def JGc (X : Cx) (cn : Cn) (vs : List Nat) (e : Expr) (g : GV) : Prop := ∃ t, PG X e t ∧ DGc X.K cn vs t g
def JGcs (X : Cx) (cn : Cn) (vs : List Nat) (es : List Expr) (g : List GV) : Prop := ∃ t, PGs X es t ∧ DGcs X.K cn vs t g
def JTs (X : Cx) (cn : Cn) (W : WX) (ifs : List Expr) (tv : TV) : Prop := ∃ t, PTs X ifs t ∧ DT cn W X.K t tv
section
variable {X : Cx} {cn : Cn} {W : WX} {a b c e : Expr} {es : List Expr} {pos : Pos} {ea eb ev : EV} {qa qb : QV} {ta tb tv : TV} {av : AV} {lv : LV} {vs : List Nat} {g : GV}
theorem JE.sem (h : JE X cn W0 e ev) : PE X e (tSem X.K cn ev) := by
  obtain ⟨t, p, d⟩ := h
  refine ⟨fun pins s σ H Q I h => p.run pins s σ H Q I ?_⟩
  obtain ⟨C, Γ, F, r, k⟩ := h
  exact d C Γ σ F H Q r k
theorem JTs.sem {ifs : List Expr} (h : JTs X cn W0 ifs tv) : PTs X ifs (tSemT X.K cn tv) := by
  obtain ⟨t, p, d⟩ := h
  refine ⟨fun pins s σ H Q I h => p.run pins s σ H Q I ?_⟩
  obtain ⟨C, Γ, F, r, k⟩ := h
  exact d C Γ σ F H Q r k
theorem JGc.sem (h : JGc X cn vs e g) : PG X e (tSemG X.K cn vs g) := by
  obtain ⟨t, p, d⟩ := h
  refine ⟨fun pins s σ H v u Q I r h => p.run pins s σ H v u Q I r ?_⟩
  obtain ⟨C, Γ, F, d0, Γ', r1, r2, e, k⟩ := h
  exact d C Γ σ F H v d0 Γ' Q r1 r2 e k
theorem jts_nil : JTs X cn W [] tYs := ⟨_, pts_nil, fun C Γ σ F H Q r k => k F H (Same.refl _) r⟩
theorem jts_one (h : JT X cn W c tv) : JTs X cn W [c] tv := by
  obtain ⟨t, p, d⟩ := h
  exact ⟨_, pts_one p, d⟩
theorem wipe_set {σ : St} {i : Nat} {x : Option V} (h : i ∈ vs) : L2.wipe (σ.set i x) vs = L2.wipe σ vs := wipe_ext (by simp) fun j hj => List.getElem?_set_ne fun z => hj (by rw [← z]; exact h)
theorem jgc_n {i : Nat} {x : Str} {pos : Pos} (hN : X.N.Nodup) (hi : X.N[i]? = some x) (hx : Loc X.env.scope x) (hv : i ∈ vs) (hf : X.fn x = true ∨ X.env.scope.names.lookup x = some .local) : JGc X cn vs (.Name x pos) (gN i) :=
  ⟨_, pg_name hN hi hx hf, fun C Γ σ F H v d Γ' N R rv e k => by
    cases e
    exact k _ F H (Same.refl _) (R.setV rv) (wipe_set hv)⟩
theorem jgcs_nil : JGcs X cn vs [] [] := ⟨_, pgs_nil, fun C Γ σ F H ws ds Γ' N R rv e k => by
  cases ds with
  | nil =>
    cases e
    exact ⟨rv.inv0, k _ F H (Same.refl _) R rfl⟩
  | cons _ _ => cases e⟩
theorem jgcs_cons {gr : List GV} (h1 : JGc X cn vs e g) (h2 : JGcs X cn vs es gr) (hs : (assignEach (e :: es) X.env).map (·.2) = assign e X.env :: (assignEach es X.env).map (·.2) := by rfl) : JGcs X cn vs (e :: es) (g :: gr) := by
  obtain ⟨t1, p1, d1⟩ := h1
  obtain ⟨t2, p2, d2⟩ := h2
  refine ⟨_, pgs_cons p1 p2 hs, fun C Γ σ F H ws ds Γ' N R rv e k => ?_⟩
  cases ds with
  | nil => cases e
  | cons d ds =>
    obtain ⟨w, ws', rfl, r1, r2⟩ := rv.inv
    refine ⟨w, ws', rfl, ?_⟩
    have e : (match g d Γ with | some Γ' => gs gr ds Γ' | none => none) = some Γ' := e
    cases eg : g d Γ with
    | none => rw [eg] at e; cases e
    | some Γ1 =>
      rw [eg] at e
      exact d1 C Γ σ F H w d Γ1 _ R r1 eg fun σ1 F1 H1 s1 R1 w1 => d2 C Γ1 σ1 F1 H1 ws' ds Γ' N R1 (r2.mono s1) e fun σ2 F2 H2 s2 R2 w2 => k σ2 F2 H2 (s1.trans s2) R2 (w2.trans w1)
theorem jgc_t {k : Nat} {gl : List GV} {n : Nat} (hc : X.calm = true) (h : JGcs X cn vs es gl) (hg : gl.length = n) (hn : (assignEach es X.env).length = n) (hst : (assignEach es X.env).findIdx? (·.1) = none) : JGc X cn vs (.Tuple es k pos) (gT gl) := by
  obtain ⟨t, p, d⟩ := h
  have pp : PG X (.Tuple es k pos) (fun v σ H Q => gTup X.K n t v σ H Q ∨ gLst X.K n t v σ H Q) := ⟨fun pins s σ H v u Q I r q => q.elim (fun q => (pg_tup hc p hn hst).run pins s σ H v u Q I r q) fun q => (pg_lst hc p hn hst).run pins s σ H v u Q I r q⟩
  refine ⟨_, pp, fun C Γ σ F H v dd Γ' N R rv e k => ?_⟩
  have gsl : ∀ {gl : List GV} {ds : List D} {Γ Γ' : Env}, gs gl ds Γ = some Γ' → ds.length = gl.length := by
    intro gl
    induction gl with
    | nil => intro ds Γ Γ' e; cases ds with | nil => rfl | cons _ _ => cases e
    | cons g gl ih =>
      intro ds Γ Γ' e
      cases ds with
      | nil => cases e
      | cons d ds =>
        have e : (match g d Γ with | some Γ' => gs gl ds Γ' | none => none) = some Γ' := e
        cases eg : g d Γ with
        | none => rw [eg] at e; cases e
        | some Γ1 => rw [eg] at e; simp [ih e]
  cases dd with
  | tup ds =>
    obtain ⟨a, ws, rfl, ha, q⟩ := rv.tupE R.bs.fh
    exact .inl ⟨a, ws, rfl, ha, by rw [q.1, gsl e, hg], d C Γ σ F H ws ds Γ' N R q e k⟩
  | lst ds =>
    cases rv with
    | lst h hl q => exact .inr ⟨_, _, rfl, SqL.of (R.bs.fh _ _ h), by rw [hl, gsl e, hg], d C Γ σ F H _ ds Γ' N R ⟨hl, q⟩ e k⟩
  | _ => cases e
theorem dn_lc {wi : TI} (hi : DI X.K cn W wi lv) : DN cn W X.K (tLc wi (tSemG X.K cn vs g) (tSemT X.K cn tv) (tSem X.K cn ev) vs) (eLc vs lv g tv ev) := fun C Γ σ F H Q R k => by
  refine hi C Γ σ F H _ R (k.bind.mono (fun p k J F1 H1 s1 R1 hJ => ?_) fun _ _ z => z)
  obtain ⟨ds, Γ1⟩ := p
  dsimp only at k R1 hJ
  intro D0 hD0
  by_cases hst : vs.all (fun i => stb (get Γ1 i)) = true
  · rw [if_pos hst] at k
    cases el : lcL g tv ev vs ds (wipeG Γ1 vs) 0 with
    | none => rw [el] at k; exact k.elim
    | some lp =>
      obtain ⟨L, Γe⟩ := lp
      rw [el] at k
      have k : NEnd X.K cn C σ F Q (D.lst L, restG Γ1 Γe vs) := k
      have st : ∀ i ∈ vs, stb (get Γ1 i) = true := List.all_eq_true.mp hst
      have hs : C.slf ≠ some D0 := fun z => by
        obtain ⟨_, o, q⟩ := R1.bs.si _ z
        rw [hD0] at q; cases q
      have h0 : C.H0 D0 = none := by
        cases q : C.H0 D0 with
        | none => rfl
        | some o => rw [R1.bs.h0 D0 o q hs] at hD0; cases hD0
      have f1 : F1 D0 = none := R1.bs.fh.free hD0
      have f0 : C.F0 D0 = none := by
        cases q : C.F0 D0 with
        | none => rfl
        | some o => rw [R1.bs.f0 _ _ q] at f1; cases f1
      have hb := R1.bs.b0
      have hsi := fun a h => (R1.bs.si a h).1
      have ex0 := Ext.new0 (o := HO.lst []) R1.bs.fh hD0
      refine ⟨fun i m H2 => m = ds.length - i ∧ i ≤ ds.length ∧ ∃ Γ2 F2 acc dacc l, Same F1 F2 ∧ RelS X.K cn C Γ2 (L2.wipe σ vs) F2 H2 ∧ H2 D0 = some (.lst acc) ∧ F2 D0 = none ∧ Reps X.K cn F2 acc dacc ∧
        (∀ (j : Nat) d', Γ2[j]? = some (.own d') → (L2.wipe σ vs)[j]? ≠ some (some (V.ref D0))) ∧ lcL g tv ev vs (ds.drop i) Γ2 dacc.length = some (l, Γe) ∧ L = dacc ++ l,
        ⟨ds.length, by simp, Nat.zero_le _, wipeG Γ1 vs, F1, [], [], L, Same.refl _, (R1.wipe vs).ext ex0, upd_same, f1, .nil, fun j d' h z => ?_, el, rfl⟩, ?_⟩
      · obtain ⟨a, e1, _, _, r⟩ := (R1.wipe vs).sl j _ h
        rw [join_some e1] at z
        cases z
        obtain ⟨o, ho⟩ := r.some
        rw [hD0] at ho; cases ho
      · rintro i m H2 ⟨rfl, hi, Γ2, F2, acc, dacc, l, s2, R2, hD2, fD2, racc, nD2, el2, eL⟩
        by_cases hlt : i < ds.length
        · refine .inr ?_
          obtain ⟨d, ed⟩ : ∃ d, ds[i]? = some d := ⟨ds[i], by simp [hlt]⟩
          obtain ⟨go, yl⟩ := (hJ i F2 H2 s2 R2.bs).1 d ed
          have edr : ds.drop i = d :: ds.drop (i + 1) := by
            rw [List.drop_eq_getElem_cons hlt]
            rw [List.getElem?_eq_getElem hlt] at ed
            cases ed; rfl
          rw [edr] at el2
          unfold lcL at el2
          refine ⟨go, fun H' => ∃ Γ3 F3 acc dacc l, Same F1 F3 ∧ RelS X.K cn C Γ3 (L2.wipe σ vs) F3 H' ∧ H' D0 = some (.lst acc) ∧ F3 D0 = none ∧ Reps X.K cn F3 acc dacc ∧
            (∀ (j : Nat) d', Γ3[j]? = some (.own d') → (L2.wipe σ vs)[j]? ≠ some (some (V.ref D0))) ∧ lcL g tv ev vs (ds.drop (i + 1)) Γ3 dacc.length = some (l, Γe) ∧ L = dacc ++ l, fun H' q => ⟨ds.length - (i + 1), by omega, rfl, hlt, q⟩, fun x H3 y => ?_⟩
          obtain ⟨F3, ex, rx⟩ := yl x H3 y
          have R3 := R2.ext ex
          have hD3 := ex.h _ _ hD2
          have fD3 : F3 D0 = none := ex.ne fD2 hD2
          have RC := R3.toD hD3 fD3 nD2 h0
          cases eg : g d Γ2 with
          | none => rw [eg] at el2; cases el2
          | some Γ3 =>
            rw [eg] at el2
            dsimp only at el2
            refine ⟨C.at D0 (.lst acc), Γ2, F3, d, Γ3, RC, rx, eg, fun σ2 F4 H4 s4 R4 hw => ⟨hw.trans wipe_wipe, C.at D0 (.lst acc), Γ3, F4, R4, ?_⟩⟩
            have hw2 : L2.wipe σ2 vs = L2.wipe σ vs := hw.trans wipe_wipe
            cases et : tv Γ3 with
            | bad => rw [et] at el2; cases el2
            | exc _ _ => rw [et] at el2; cases el2
            | ok p =>
              obtain ⟨b, Γ4⟩ := p
              rw [et] at el2
              intro F5 H5 s5 R5
              have fin : ∀ {Γ5 : Env} {F6 H6 : Hp}, Same F5 F6 → RelS X.K cn (C.at D0 (.lst acc)) Γ5 σ2 F6 H6 → RelS X.K cn C (wipeG Γ5 vs) (L2.wipe σ vs) F6 H6 ∧ H6 D0 = some (.lst acc) ∧ F6 D0 = none ∧ Same F1 F6 ∧ Reps X.K cn F6 acc dacc ∧ ∀ (j : Nat) d', (wipeG Γ5 vs)[j]? = some (.own d') → (L2.wipe σ vs)[j]? ≠ some (some (V.ref D0)) := fun {Γ5 F6 H6} s6 R6 => by
                obtain ⟨q1, q2, q3, q4⟩ := R6.ofD h0 f0 hs hb hsi
                have qw := R6.wipe vs
                rw [hw2] at qw
                obtain ⟨w1, w2, w3, w4⟩ := qw.ofD h0 f0 hs hb hsi
                exact ⟨w1, q2, q3, ((s2.trans ex.f).trans s4).trans (s5.trans s6), racc.mono ((ex.f.trans s4).trans (s5.trans s6)), w4⟩
              cases b with
              | false =>
                rw [if_neg Bool.false_ne_true]
                obtain ⟨w1, w2, w3, w4, w5, w6⟩ := fin (Same.refl _) R5
                exact ⟨wipeG Γ4 vs, F5, acc, dacc, l, w4, w1, w2, w3, w5, w6, el2, eL⟩
              | true =>
                rw [if_pos rfl]
                dsimp only at el2
                cases ee : ev Γ4 with
                | bad => rw [ee] at el2; cases el2
                | exc _ _ => rw [ee] at el2; cases el2
                | ok p =>
                  obtain ⟨xd, Γ5⟩ := p
                  rw [ee] at el2
                  dsimp only at el2
                  split at el2
                  · rename_i hz
                    cases er : lcL g tv ev vs (ds.drop (i + 1)) (wipeG Γ5 vs) (dacc.length + 1) with
                    | none => rw [er] at el2; cases el2
                    | some lp2 =>
                      obtain ⟨l2, Γx⟩ := lp2
                      rw [er] at el2
                      cases el2
                      refine ⟨C.at D0 (.lst acc), Γ4, F5, R5, ?_⟩
                      rw [ee]
                      intro v F6 H6 s6 R6 rv
                      obtain ⟨w1, w2, w3, w4, w5, w6⟩ := fin s6 R6
                      refine ⟨acc, w2, by rw [w5.1, ← sm]; exact hz, wipeG Γ5 vs, F6, acc ++ [v], dacc ++ [xd], l2, w4, w1.updD w3 w6 h0 hs, upd_same, w3, w5.app (.cons rv .nil), w6, by rw [List.length_append]; exact er, by rw [List.append_assoc]; exact eL⟩
                  · cases el2
        · have e : i = ds.length := by omega
          refine .inl ⟨(hJ i F2 H2 s2 R2.bs).2 (by omega), ?_⟩
          rw [List.drop_eq_nil_of_le (by omega)] at el2
          cases el2
          rw [List.append_nil] at eL
          subst eL
          refine k (.ref D0) F2 H2 (s1.trans s2) (R1.rest st s2 R2) ⟨D0, rfl, fD2, h0, ⟨acc, hD2, racc⟩, fun j d' h => ?_⟩
          rcases restG_get h with ⟨h1, h2⟩ | ⟨h1, h2⟩
          · have := st j h1
            rw [← h2] at this; cases this
          · have := nD2 j d' h2
            rw [wipe_ne h1] at this; exact this
  · rw [if_neg hst] at k; exact k.elim
/-- [elt for tg in iter if ..] -/
theorem jn_lc {elt tg iter : Expr} {ifs : List Expr} {scope : Scope} {own : List (Str × Nat)} (hv : own.map (·.2) = vs) (hc : X.calm = true) (hN : X.N.Nodup) (hi : JI X cn W tg iter lv) (ok : BlkOk X.N X.env.scope scope own)
    (hg : ∀ (s : Shared) (H : Hp) (C : Addr) (cl : List (Str × Addr)) (fp : List Addr), JGc (X.blk s H scope (compEnvC scope cl C X.env) fp) cn vs tg g) (ht : ∀ (s : Shared) (H : Hp) (C : Addr) (cl : List (Str × Addr)) (fp : List Addr), JTs (X.blk s H scope (compEnvC scope cl C X.env) fp) cn W0 ifs tv)
    (he : ∀ (s : Shared) (H : Hp) (C : Addr) (cl : List (Str × Addr)) (fp : List Addr), JE (X.blk s H scope (compEnvC scope cl C X.env) fp) cn W0 elt ev) (hs : ∀ x, foldedSetIterable iter X.env x = pure x := by intro _; rfl) :
    JN X cn W (.ListComp elt [⟨tg, iter, ifs, 0⟩] scope pos) (eLc vs lv g tv ev) := by
  subst hv
  obtain ⟨wi, p, d⟩ := hi
  exact ⟨_, pe_lc (te := tSem X.K cn ev) (tt := tSemT X.K cn tv) (g := tSemG X.K cn (own.map (·.2)) g) hc hN p ok (fun s H C cl fp => (hg s H C cl fp).sem) (fun s H C cl fp => (ht s H C cl fp).sem) (fun s H C cl fp => (he s H C cl fp).sem) hs, dn_lc d⟩
/-- name = [..], the name a local -/
theorem js_setLc {i : Nat} {y : Str} {py spos : Pos} {elt tg iter : Expr} {ifs : List Expr} {scope : Scope} {own : List (Str × Nat)} (hv : own.map (·.2) = vs) (hc : X.calm = true) (hN : X.N.Nodup) (hy : X.N[i]? = some y) (hyl : X.env.scope.names.lookup y = some .local)
    (hsw : swapsWith (.ListComp elt [⟨tg, iter, ifs, 0⟩] scope pos) (some (.Name y py)) spos.line X.env = pure true) (hi : JI X cn W tg iter lv) (ok : BlkOk X.N X.env.scope scope own)
    (hg : ∀ (s : Shared) (H : Hp) (C : Addr) (cl : List (Str × Addr)) (fp : List Addr), JGc (X.blk s H scope (compEnvC scope cl C X.env) fp) cn vs tg g) (ht : ∀ (s : Shared) (H : Hp) (C : Addr) (cl : List (Str × Addr)) (fp : List Addr), JTs (X.blk s H scope (compEnvC scope cl C X.env) fp) cn W0 ifs tv)
    (he : ∀ (s : Shared) (H : Hp) (C : Addr) (cl : List (Str × Addr)) (fp : List Addr), JE (X.blk s H scope (compEnvC scope cl C X.env) fp) cn W0 elt ev) (hs : ∀ x, foldedSetIterable iter X.env x = pure x := by intro _; rfl) :
    JS X cn W (.Assign [.Name y py] (.ListComp elt [⟨tg, iter, ifs, 0⟩] scope pos) spos) (sOwn i (eLc vs lv g tv ev)) := by
  subst hv
  obtain ⟨wi, p, d⟩ := hi
  refine ⟨_, ps_setLc (te := tSem X.K cn ev) (tt := tSemT X.K cn tv) (g := tSemG X.K cn (own.map (·.2)) g) hc hN hy hyl hsw p ok (fun s H C cl fp => (hg s H C cl fp).sem) (fun s H C cl fp => (ht s H C cl fp).sem) (fun s H C cl fp => (he s H C cl fp).sem) hs, fun C Γ σ F H Dn R k => ?_⟩
  exact dn_lc (cn := cn) (W := W) d C Γ σ F H _ R (k.bind.mono (fun p k v F' H' s r rv => k _ F' H' s (r.setO rv)) fun _ _ z => z)
end
end Ed

set_option autoImplicit true
set_option Elab.async false
set_option linter.all false
set_option maxRecDepth 100000
set_option maxHeartbeats 4000000
set_option autoImplicit false
/-! more operations -/
namespace Ed
open PySem L2
section
variable {X : Cx} {cn : Cn} {W : WX} {a b c e : Expr} {es rest : List Expr} {pos : Pos} {ea eb ec : EV} {qa qb qc : QV} {ta tb : TV} {av : AV} {lv : LV} {st : Stmt}
theorem js_never : JS X cn W st sBad := ⟨_, ps_never, fun C Γ σ F H Dn R k => k.elim⟩
theorem je_bad : PE X e (fun _ _ _ => False) → JE X cn W e (fun _ => .bad) := fun p => ⟨_, p, fun C Γ σ F H Q R k => k.elim⟩
/-! and, or, not, as values -/
theorem je_one {op : BoolOp} (h : JE X cn W a ea) : JE X cn W (.BoolOp op [a] pos) ea := by
  obtain ⟨t, p, d⟩ := h
  exact ⟨t, pe_one p, d⟩
theorem je_and (h : JE X cn W a ea) (h2 : JE X cn W (.BoolOp .And (b :: rest) pos) eb) : JE X cn W (.BoolOp .And (a :: b :: rest) pos) (eAndV ea eb) := by
  obtain ⟨t1, p1, d1⟩ := h
  obtain ⟨t2, p2, d2⟩ := h2
  refine ⟨_, pe_and p1 p2, fun C Γ σ F H Q R k => ?_⟩
  refine d1 C Γ σ F H _ R (k.bind.mono (fun p k v F' H' s1 R1 hv => ?_) fun _ _ z => z)
  obtain ⟨x, Γ1⟩ := p
  cases x with
  | bl z =>
    cases hv
    refine ⟨z, rfl, ?_⟩
    cases z with
    | true =>
      rw [if_pos rfl]
      exact d2 C Γ1 σ F' H' Q R1 (Post.mono (P := EEnd X.K cn C σ F Q) (W := XW X.K cn C F W) k (fun p k v F2 H2 s r rv => k v F2 H2 (s1.trans s) r rv) fun _ _ z => XW.up s1 z)
    | false =>
      rw [if_neg Bool.false_ne_true]
      exact k _ F' H' s1 R1 (.bl _)
  | _ => exact k.elim
theorem je_or (h : JE X cn W a ea) (h2 : JE X cn W (.BoolOp .Or (b :: rest) pos) eb) : JE X cn W (.BoolOp .Or (a :: b :: rest) pos) (eOrV ea eb) := by
  obtain ⟨t1, p1, d1⟩ := h
  obtain ⟨t2, p2, d2⟩ := h2
  refine ⟨_, pe_or p1 p2, fun C Γ σ F H Q R k => ?_⟩
  refine d1 C Γ σ F H _ R (k.bind.mono (fun p k v F' H' s1 R1 hv => ?_) fun _ _ z => z)
  obtain ⟨x, Γ1⟩ := p
  cases x with
  | bl z =>
    cases hv
    refine ⟨z, rfl, ?_⟩
    cases z with
    | false =>
      rw [if_neg Bool.false_ne_true]
      exact d2 C Γ1 σ F' H' Q R1 (Post.mono (P := EEnd X.K cn C σ F Q) (W := XW X.K cn C F W) k (fun p k v F2 H2 s r rv => k v F2 H2 (s1.trans s) r rv) fun _ _ z => XW.up s1 z)
    | true =>
      rw [if_pos rfl]
      exact k _ F' H' s1 R1 (.bl _)
  | _ => exact k.elim
theorem je_not (h : JE X cn W a ea) : JE X cn W (.UnaryOp .Not a pos) (eNotV ea) := by
  obtain ⟨t1, p1, d1⟩ := h
  refine ⟨_, pe_not p1, fun C Γ σ F H Q R k => ?_⟩
  refine d1 C Γ σ F H _ R (k.bind.mono (fun p k v F' H' s1 R1 hv => ?_) fun _ _ z => z)
  obtain ⟨x, Γ1⟩ := p
  cases x with
  | bl z =>
    cases hv
    exact ⟨z, rfl, k _ F' H' s1 R1 (.bl _)⟩
  | _ => exact k.elim
/-! a op b op' c -/
theorem dchain {t1 t2 t3 : TE} {r r' : R2} {f f' : D → D → Option D} (h : R2D X.K cn r f) (h' : R2D X.K cn r' f') (h1 : DQ cn W X.K t1 qa) (h2 : DQ cn W X.K t2 qb) (h3 : DQ cn W X.K t3 qc) (hb : ∀ x y d, f x y = some d → ∃ k, d = .bl k) : DE cn W X.K (tChain r r' t1 t2 t3) (eChain f f' qa qb qc) := fun C Γ σ F H Q R k => by
  refine h1 C Γ σ F H _ R (k.bind.mono (fun p k v F' H' s1 R1 hv => ?_) fun _ _ z => z)
  refine h2 C p.2 σ F' H' _ R1 (k.bind.mono (fun q k w F2 H2 s2 R2 hw => ?_) fun _ _ z => XW.up s1 z)
  cases e1 : rd q.2 p.1 with
  | none => simp only [e1] at k; exact k.elim
  | some d1 =>
    cases e2 : rd q.2 q.1 with
    | none => simp only [e1, e2] at k; exact k.elim
    | some d2 =>
      simp only [e1, e2] at k
      cases e3 : f d1 d2 with
      | none => rw [e3] at k; exact k.elim
      | some d3 =>
        obtain ⟨kk, rfl⟩ := hb _ _ _ e3
        rw [e3] at k
        refine h F2 H2 v w d1 d2 _ _ R2.bs.fh (R2.rd e1 (hv.mono s2)) (R2.rd e2 hw) e3 fun z F3 H3 ex rz => ?_
        cases rz
        refine ⟨kk, rfl, ?_⟩
        have R3 := R2.ext ex
        have s3 := (s1.trans s2).trans ex.f
        cases kk with
        | false => rw [if_neg Bool.false_ne_true]; exact k _ F3 H3 s3 R3 (.bl _)
        | true =>
          rw [if_pos rfl]
          refine h3 C q.2 σ F3 H3 _ R3 (k.bind.mono (fun r k u F4 H4 s4 R4 hu => ?_) fun _ _ z => XW.up s3 z)
          cases e4 : rd r.2 q.1 with
          | none => simp only [e4] at k; exact k.elim
          | some y' =>
            cases e5 : rd r.2 r.1 with
            | none => simp only [e4, e5] at k; exact k.elim
            | some z' =>
              simp only [e4, e5] at k
              obtain ⟨zz, e6, k⟩ := k.bind.of
              exact h' F4 H4 w u y' z' zz Q R4.bs.fh (R4.rd e4 ((hw.mono ex.f).mono s4)) (R4.rd e5 hu) e6 fun zv F5 H5 ex2 rz => k zv F5 H5 ((s3.trans s4).trans ex2.f) (R4.ext ex2) rz
theorem je_chain {op op' : CmpOp} {r r' : R2} {f f' : D → D → Option D} (ho : OpR X (compareOp op) r) (h : R2D X.K cn r f) (hb : ∀ x y d, f x y = some d → ∃ k, d = .bl k) (ho' : OpR X (compareOp op') r') (h' : R2D X.K cn r' f') (h1 : JQ X cn W a qa) (h2 : JQ X cn W b qb) (h3 : JQ X cn W c qc)
    (hm : lastMarks [op, op'] [b, c] = false := by with_unfolding_all rfl) : JE X cn W (.Compare a [op, op'] [b, c] pos) (eChain f f' qa qb qc) := by
  obtain ⟨t1, p1, d1⟩ := h1
  obtain ⟨t2, p2, d2⟩ := h2
  obtain ⟨t3, p3, d3⟩ := h3
  exact ⟨_, pe_chain ho ho' p1 p2 p3 hm, dchain h h' d1 d2 d3 hb⟩
theorem bl_lt : ∀ x y d, dLt x y = some d → ∃ k, d = .bl k := fun x y d e => by cases x <;> cases y <;> first | (cases e; exact ⟨_, rfl⟩) | cases e
theorem bl_le : ∀ x y d, dLe x y = some d → ∃ k, d = .bl k := fun x y d e => by cases x <;> cases y <;> first | (cases e; exact ⟨_, rfl⟩) | cases e
theorem bl_eq : ∀ x y d, dEq x y = some d → ∃ k, d = .bl k := fun x y d e => by
  unfold dEq at e
  split at e
  · cases e; exact ⟨_, rfl⟩
  · cases e
/-! statements -/
theorem js_par {i j : Nat} {x y : Str} {px py pt : Pos} {kt k2 : Nat} {pt2 : Pos} (hc : X.calm = true) (hN : X.N.Nodup) (hi : X.N[i]? = some x) (hj : X.N[j]? = some y) (hij : i ≠ j)
    (hx : X.env.scope.names.lookup x = some .local) (hy : X.env.scope.names.lookup y = some .local) (h1 : JE X cn W a ea) (h2 : JE X cn W b eb)
    (hw : swappedStores [.Tuple [.Name x px, .Name y py] kt pt] (.Tuple [a, b] k2 pt2) X.env = pure (some [x, y]))
    (hs1 : starEach [a, b] X.env = (false, eval a X.env) :: starEach [b] X.env := by rfl) (hs2 : starEach [b] X.env = (false, eval b X.env) :: starEach [] X.env := by rfl)
    (hs : swapsWithSole [.Tuple [.Name x px, .Name y py] kt pt] (.Tuple [a, b] k2 pt2) pos.line X.env = pure false := by rfl) :
    JS X cn W (.Assign [.Tuple [.Name x px, .Name y py] kt pt] (.Tuple [a, b] k2 pt2) pos) (sPar i j ea eb) := by
  obtain ⟨t1, p1, d1⟩ := h1
  obtain ⟨t2, p2, d2⟩ := h2
  refine ⟨_, ps_par hc hN hi hj hij hx hy (pa_cons p1 (pa_cons p2 pa_nil hs2) hs1) hw hs, fun C Γ σ F H Dn R k => ?_⟩
  refine d1 C Γ σ F H _ R (k.bind.mono (fun p k v F' H' s1 R1 hv => ?_) fun _ _ z => z)
  refine d2 C p.2 σ F' H' _ R1 (k.bind.mono (fun q k w F2 H2 s2 R2 hw => ?_) fun _ _ z => XW.up s1 z)
  exact ⟨v, w, rfl, k _ F2 H2 (s1.trans s2) ((R2.setV (hv.mono s2)).setV hw)⟩
/-- xs[j] = e, xs owned -/
theorem js_puti (i : Nat) {x : Str} {px ps : Pos} (he : JE X cn W e ea) (h2 : JQ X cn W b qb) (hN : X.N[i]? = some x := by rfl) (hv : Vis X.env.scope x := by first | exact Or.inl rfl | exact Or.inr (Or.inl rfl) | exact Or.inr (Or.inr rfl)) (hd : (x == ("__debug__" : Str)) = false := by decide)
    (hcd : (x == ("__classdict__" : Str)) = false := by decide)
    (ha : ∀ v, assign (.Subscript (.Name x px) b ps) X.env v = (do
      let ov ← holding [v] (eval (.Name x px) X.env)
      let iv ← holding [v, ov] (eval b X.env)
      standAt ps
      holding [v, ov, iv] (setItem ov iv v)
      release [v, ov, iv] []) := by intro _; rfl)
    (hs : swapsWithSole [.Subscript (.Name x px) b ps] e pos.line X.env = pure false := by rfl) (hw : swappedStores [.Subscript (.Name x px) b ps] e X.env = pure none := by rfl)
    (h1 : (assignEach [.Subscript (.Name x px) b ps] X.env).map (·.2) = [assign (.Subscript (.Name x px) b ps) X.env] := by rfl) : JS X cn W (.Assign [.Subscript (.Name x px) b ps] e pos) (sPutI i qb ea) := by
  obtain ⟨t1, p1, d1⟩ := he
  obtain ⟨t2, p2, d2⟩ := h2
  refine ⟨_, ps_asg p1 (pg_sub (pe_var hN hv hd hcd) p2 set_list ha) hs hw h1, fun C Γ σ F H Dn R k => ?_⟩
  refine d1 C Γ σ F H _ R (k.bind.mono (fun p k v F' H' s1 R1 hv => ?_) fun _ _ z => z)
  obtain ⟨d, Γ1⟩ := p
  dsimp only at k R1 hv
  cases q : look (get Γ1 i) with
  | none => rw [q] at k; exact k.elim
  | some x0 =>
    rw [q] at k
    obtain ⟨v0, e0, _⟩ := R1.read q
    refine ⟨v0, e0, ?_⟩
    refine d2 C Γ1 σ F' H' _ R1 (k.bind.mono (fun q k w F2 H2 s2 R2 hw => ?_) fun _ _ z => XW.up s1 z)
    obtain ⟨pv, Γ2⟩ := q
    dsimp only at k R2 hw
    cases e1 : rd Γ2 pv with
    | none => simp only [e1] at k; exact k.elim
    | some dj =>
      cases dj with
      | int kk =>
        cases g : get Γ2 i with
        | own dd =>
          cases dd with
          | lst xs =>
            simp only [e1, g] at k
            cases em : Ed.ixN xs.length kk with
            | none => rw [em] at k; exact k.elim
            | some m =>
              rw [em] at k
              dsimp only at k
              obtain ⟨a, e2, n, n0, ws, hws, rws⟩ := R2.at g (fun z => by cases z)
              have e3 := join_some e2
              rw [e0] at e3
              cases e3
              have rj := R2.rd e1 hw
              refine ⟨a, ws, kk, m, rfl, rj.int, hws, ?_, ?_⟩
              · rw [rws.1]
                rw [← em]
                unfold Ed.ixN L2.ixN
                by_cases h : 0 ≤ kk
                · rw [if_pos h, if_pos h]
                · rw [if_neg h, if_neg h, Int.add_comm]
              · refine k σ F2 _ (s1.trans s2) (R2.mut g e0 ?_)
                exact ⟨_, upd_same, rws.set (hv.mono s2)⟩
          | _ => simp only [e1, g] at k; exact k.elim
        | _ => simp only [e1, g] at k; exact k.elim
      | _ => simp only [e1] at k; exact k.elim
/-! lists and tuples made of others; sums -/
theorem r_listof : RCN X.K cn (fun xs H Q => ∃ p ys, xs = [.ref p] ∧ (SqL X.K H p ys ∨ SqT X.K H p ys) ∧ ∀ l, H l = none → Q (.ref l) (upd H l (.lst ys))) (o1 dLst) := rn1 fun F H x dx d Q s hx e k => by
  cases dx with
  | lst xs => cases e; obtain ⟨a, vs, rfl, h, r⟩ := hx; exact ⟨a, vs, rfl, .inl (SqL.of h), fun l hl => k l vs xs rfl hl r⟩
  | tup xs => cases e; obtain ⟨a, vs, rfl, h, r⟩ := hx.tup s; exact ⟨a, vs, rfl, .inr h, fun l hl => k l vs xs rfl hl r⟩
  | _ => cases e
theorem r_tupleof : RCD X.K cn (fun xs H Q => ∃ p ys, xs = [.ref p] ∧ ((SqL X.K H p ys ∧ ∀ l, H l = none → Q (.ref l) (upd H l (.tup ys))) ∨ (SqT X.K H p ys ∧ Q (.ref p) H))) (o1 dTup) := rc1 fun F H x dx d Q s hx e k => by
  cases dx with
  | lst xs =>
    cases e
    obtain ⟨a, vs, rfl, h, r⟩ := hx
    refine ⟨a, vs, rfl, .inl ⟨SqL.of h, fun l hl => ?_⟩⟩
    have ex := Ext.new (o := HO.tup vs) s hl
    exact k _ _ _ ex (.tup (SqT.of upd_same) (r.mono ex.f).1 (r.mono ex.f).2)
  | tup xs => cases e; obtain ⟨a, vs, rfl, h, r⟩ := hx.tup s; exact ⟨a, vs, rfl, .inr ⟨h, k _ F H (ext0 s) hx⟩⟩
  | _ => cases e
theorem ints_ok {F : Hp} : ∀ (xs : List D) (vs : List V) (ns : List Int), intsL xs = some ns → Reps X.K cn F vs xs → vs = ns.map V.int
  | [], vs, ns, e, r => by cases e; exact r.inv0
  | x :: xs, vs, ns, e, r => by
    obtain ⟨v, vs', rfl, r1, r2⟩ := r.inv
    cases x with
    | int i =>
      have e : (intsL xs).map (i :: ·) = some ns := e
      cases q : intsL xs with
      | none => rw [q] at e; cases e
      | some ms =>
        rw [q] at e; cases e
        cases r1
        rw [ints_ok xs vs' ms q r2]; rfl
    | _ => cases e
theorem bools_ok {F : Hp} : ∀ (xs : List D) (vs : List V) (ns : List Bool), boolsL xs = some ns → Reps X.K cn F vs xs → vs = ns.map V.bl
  | [], vs, ns, e, r => by cases e; exact r.inv0
  | x :: xs, vs, ns, e, r => by
    obtain ⟨v, vs', rfl, r1, r2⟩ := r.inv
    cases x with
    | bl i =>
      have e : (boolsL xs).map (i :: ·) = some ns := e
      cases q : boolsL xs with
      | none => rw [q] at e; cases e
      | some ms =>
        rw [q] at e; cases e
        cases r1
        rw [bools_ok xs vs' ms q r2]; rfl
    | _ => cases e
theorem r_sum : RCD X.K cn (rSum X.K) (o1 dSum) := rc1 fun F H x dx d Q s hx e k => by
  cases dx with
  | lst xs =>
    have e : (intsL xs).map (fun ns => D.int ns.sum) = some d := e
    cases q : intsL xs with
    | none => rw [q] at e; cases e
    | some ns =>
      rw [q] at e; cases e
      obtain ⟨a, vs, rfl, h, r⟩ := hx
      rw [ints_ok xs vs ns q r] at h
      exact ⟨a, ns, rfl, SqL.of h, k _ F H (ext0 s) (.int _)⟩
  | _ => cases e
theorem r_all : RCD X.K cn (rAll X.K) (o1 dAll) := rc1 fun F H x dx d Q s hx e k => by
  cases dx with
  | lst xs =>
    have e : (boolsL xs).map (fun ns => D.bl (ns.all id)) = some d := e
    cases q : boolsL xs with
    | none => rw [q] at e; cases e
    | some ns =>
      rw [q] at e; cases e
      obtain ⟨a, vs, rfl, h, r⟩ := hx
      rw [bools_ok xs vs ns q r] at h
      exact ⟨a, ns, rfl, SqL.of h, k _ F H (ext0 s) (.bl _)⟩
  | _ => cases e
theorem r_any : RCD X.K cn (rAny X.K) (o1 dAny) := rc1 fun F H x dx d Q s hx e k => by
  cases dx with
  | lst xs =>
    have e : (boolsL xs).map (fun ns => D.bl (ns.any id)) = some d := e
    cases q : boolsL xs with
    | none => rw [q] at e; cases e
    | some ns =>
      rw [q] at e; cases e
      obtain ⟨a, vs, rfl, h, r⟩ := hx
      rw [bools_ok xs vs ns q r] at h
      exact ⟨a, ns, rfl, SqL.of h, k _ F H (ext0 s) (.bl _)⟩
  | _ => cases e
theorem two_ok {F H : Hp} {vs : List V} {d1 d2 : D} (p : Paired (fun v d => Shal X.K cn F H v d) vs [d1, d2]) : ∃ v1 v2, vs = [v1, v2] ∧ Shal X.K cn F H v1 d1 ∧ Shal X.K cn F H v2 d2 := by
  cases p with
  | cons h1 t => cases t with
    | cons h2 t => cases t; exact ⟨_, _, rfl, h1, h2⟩
theorem int2_cases {f : List D → Option D} {ds : List D} {d : D} (h : f ds = some d) (h0 : ∀ ds, (∀ i j, ds ≠ [.int i, .int j]) → f ds = none) : ∃ i j, ds = [.int i, .int j] := by
  by_cases q : ∃ i j, ds = [.int i, .int j]
  · exact q
  · rw [h0 ds fun i j z => q ⟨i, j, z⟩] at h; cases h
theorem r_max2 : RCD X.K cn (fun xs H Q => ∃ i j, xs = [.int i, .int j] ∧ Q (.int (if j > i then j else i)) H) dMax2 := fun F H vs ds d Q s p e k => by
  obtain ⟨i, j, rfl⟩ := int2_cases e (fun ds h => by unfold dMax2; split <;> first | exact absurd rfl (h _ _) | rfl)
  obtain ⟨v1, v2, rfl, h1, h2⟩ := two_ok p
  cases e
  exact ⟨i, j, by rw [h1.int, h2.int], k _ F H (ext0 s) (.int _)⟩
theorem r_min2 : RCD X.K cn (fun xs H Q => ∃ i j, xs = [.int i, .int j] ∧ Q (.int (if j < i then j else i)) H) dMin2 := fun F H vs ds d Q s p e k => by
  obtain ⟨i, j, rfl⟩ := int2_cases e (fun ds h => by unfold dMin2; split <;> first | exact absurd rfl (h _ _) | rfl)
  obtain ⟨v1, v2, rfl, h1, h2⟩ := two_ok p
  cases e
  exact ⟨i, j, by rw [h1.int, h2.int], k _ F H (ext0 s) (.int _)⟩
theorem r_gcd : RCD X.K cn rGcd dGcd := fun F H vs ds d Q s p e k => by
  obtain ⟨i, j, rfl⟩ := int2_cases e (fun ds h => by unfold dGcd; split <;> first | exact absurd rfl (h _ _) | rfl)
  obtain ⟨v1, v2, rfl, h1, h2⟩ := two_ok p
  cases e
  exact ⟨i, j, by rw [h1.int, h2.int], k _ F H (ext0 s) (.int _)⟩
theorem je_gcd {x : Str} {p : Pos} (hg : Gl X x) (hm : X.mg x = some (.builtin "math.gcd")) (ha : JA X cn W (e :: es) av) (hdb : (x == ("__debug__" : Str)) = false := by decide)
    (he : starEach (e :: es) X.env = (false, eval e X.env) :: starEach es X.env := by rfl) (hpl : (backTo pos (starEach es X.env)).any (·.1) = false := by rfl) : JE X cn W (.Call (.Name x p) (e :: es) [] pos) (eF dGcd av) := by
  obtain ⟨t, pa, d⟩ := ha
  exact ⟨_, pe_callBfun cr_gcd hg hm pa hdb he hpl, de_F (r := rGcd) r_gcd d⟩
theorem max_of {n : Int} : ∀ (ns : List Int) (n : Int), (ns.foldl max n) ∈ n :: ns ∧ ∀ y ∈ n :: ns, y ≤ ns.foldl max n
  | [], n => ⟨by simp, by simp⟩
  | m :: ns, n => by
    obtain ⟨h1, h2⟩ := max_of (n := n) ns (max n m)
    rw [List.foldl_cons]
    refine ⟨?_, fun y hy => ?_⟩
    · rcases List.mem_cons.mp h1 with h | h
      · rw [h]
        rcases Int.le_total n m with q | q
        · rw [Int.max_eq_right q]; simp
        · rw [Int.max_eq_left q]; simp
      · simp [h]
    · have := h2 (max n m) (by simp)
      rcases List.mem_cons.mp hy with rfl | hy
      · exact Int.le_trans (Int.le_max_left _ _) this
      · rcases List.mem_cons.mp hy with rfl | hy
        · exact Int.le_trans (Int.le_max_right _ _) this
        · exact h2 y (by simp [hy])
theorem min_of {n : Int} : ∀ (ns : List Int) (n : Int), (ns.foldl min n) ∈ n :: ns ∧ ∀ y ∈ n :: ns, ns.foldl min n ≤ y
  | [], n => ⟨by simp, by simp⟩
  | m :: ns, n => by
    obtain ⟨h1, h2⟩ := min_of (n := n) ns (min n m)
    rw [List.foldl_cons]
    refine ⟨?_, fun y hy => ?_⟩
    · rcases List.mem_cons.mp h1 with h | h
      · rw [h]
        rcases Int.le_total n m with q | q
        · rw [Int.min_eq_left q]; simp
        · rw [Int.min_eq_right q]; simp
      · simp [h]
    · have := h2 (min n m) (by simp)
      rcases List.mem_cons.mp hy with rfl | hy
      · exact Int.le_trans this (Int.min_le_left _ _)
      · rcases List.mem_cons.mp hy with rfl | hy
        · exact Int.le_trans this (Int.min_le_right _ _)
        · exact h2 y (by simp [hy])
theorem r_maxL : RCD X.K cn (rMax X.K) (o1 dMaxL) := rc1 fun F H x dx d Q s hx e k => by
  cases dx with
  | lst xs =>
    have e : ((intsL xs).bind fun ns => (maxL ns).map D.int) = some d := e
    cases q : intsL xs with
    | none => rw [q] at e; cases e
    | some ns =>
      rw [q] at e
      cases ns with
      | nil => cases e
      | cons n ns =>
        cases e
        obtain ⟨a, vs, rfl, h, r⟩ := hx
        rw [ints_ok xs vs _ q r] at h
        refine ⟨a, n :: ns, rfl, SqL.of h, by simp, fun m hm hy => ?_⟩
        obtain ⟨h1, h2⟩ := max_of (n := n) ns n
        have : m = ns.foldl max n := Int.le_antisymm (h2 m hm) (hy _ h1)
        rw [this]; exact k _ F H (ext0 s) (.int _)
  | _ => cases e
theorem r_minL : RCD X.K cn (rMin X.K) (o1 dMinL) := rc1 fun F H x dx d Q s hx e k => by
  cases dx with
  | lst xs =>
    have e : ((intsL xs).bind fun ns => (minL ns).map D.int) = some d := e
    cases q : intsL xs with
    | none => rw [q] at e; cases e
    | some ns =>
      rw [q] at e
      cases ns with
      | nil => cases e
      | cons n ns =>
        cases e
        obtain ⟨a, vs, rfl, h, r⟩ := hx
        rw [ints_ok xs vs _ q r] at h
        refine ⟨a, n :: ns, rfl, SqL.of h, by simp, fun m hm hy => ?_⟩
        obtain ⟨h1, h2⟩ := min_of (n := n) ns n
        have : m = ns.foldl min n := Int.le_antisymm (hy _ h1) (h2 m hm)
        rw [this]; exact k _ F H (ext0 s) (.int _)
  | _ => cases e
/-! f-strings -/
theorem je_fmt (h : JQ X cn W a qa) : JE X cn W (.FormattedValue a (-1) none pos) (eU dTxt qa) := by
  obtain ⟨t1, p1, d1⟩ := h
  refine ⟨_, pe_fmt p1, de_U (r := fun x H Q => (∃ y : Str, x = .str y ∧ y.length ≤ sizeLine ∧ Q (.str y) H) ∨ ∃ i : Int, x = .int i ∧ i.natAbs.log2 < 1920 ∧ Q (.str (toString i)) H) (fun F H x dx d Q s hx e k => ?_) d1⟩
  cases dx with
  | str z =>
    have e : (if z.length ≤ seqMax then some (D.str z) else none) = some d := e
    split at e
    · rename_i hz; cases e; exact .inl ⟨z, hx.str, by rw [← sm]; exact hz, k _ F H (ext0 s) (.str _)⟩
    · cases e
  | int i =>
    have e : (if i.natAbs < 2 ^ 1900 then some (D.str (toString i)) else none) = some d := e
    split at e
    · rename_i hz; cases e; exact .inr ⟨i, hx.int, Nat.lt_of_lt_of_le (log2_of hz (by decide)) (by decide), k _ F H (ext0 s) (.str _)⟩
    · cases e
  | _ => cases e
/-- the parts -/
def JF (X : Cx) (cn : Cn) (W : WX) (es : List Expr) (l : List EV) : Prop := ∃ ts, PJ X es ts ∧ ∀ acc C Γ σ F H (Q : Str → Hp → Prop), RelS X.K cn C Γ σ F H → Post (eJs l acc Γ) (fun p => ∀ F' H', Same F F' → RelS X.K cn C p.2 σ F' H' → ∀ s, p.1 = .str s → Q s H') (XW X.K cn C F W) → tJs ts acc σ H Q
theorem jf_nil : JF X cn W [] [] := ⟨_, .nil, fun acc C Γ σ F H Q R k => k F H (Same.refl _) R acc rfl⟩
theorem jf_cons {l : List EV} (h : JE X cn W e ea) (h2 : JF X cn W es l) : JF X cn W (e :: es) (ea :: l) := by
  obtain ⟨t, p, d⟩ := h
  obtain ⟨ts, p2, d2⟩ := h2
  refine ⟨_, .cons p p2, fun acc C Γ σ F H Q R k => ?_⟩
  refine d C Γ σ F H _ R (k.bind.mono (fun p k v F' H' s1 R1 hv => ?_) fun _ _ z => z)
  obtain ⟨x, Γ1⟩ := p
  cases x with
  | str y =>
    cases hv
    dsimp only at k
    split at k
    · rename_i hz
      refine ⟨y, rfl, by rw [← sm]; exact hz, d2 (acc ++ y) C Γ1 σ F' H' Q R1 (Post.mono (P := fun p => ∀ F' H', Same F F' → RelS X.K cn C p.2 σ F' H' → ∀ s, p.1 = .str s → Q s H') (W := XW X.K cn C F W) k (fun p k F2 H2 s r z q => k F2 H2 (s1.trans s) r z q) fun _ _ z => XW.up s1 z)⟩
    · exact k.elim
  | _ => exact k.elim
theorem eJs_str : ∀ (l : List EV) (acc : Str) (Γ : Env) (p : D × Env), eJs l acc Γ = .ok p → ∃ s, p.1 = .str s
  | [], acc, Γ, p, h => by cases h; exact ⟨_, rfl⟩
  | e :: l, acc, Γ, p, h => by
    unfold eJs at h
    cases q : e Γ with
    | bad => rw [q] at h; cases h
    | exc _ _ => rw [q] at h; cases h
    | ok r =>
      rw [q] at h
      obtain ⟨x, Γ1⟩ := r
      have h : (match x with | .str y => if (acc ++ y).length ≤ seqMax then eJs l (acc ++ y) Γ1 else .bad | _ => .bad) = .ok p := h
      cases x with
      | str y =>
        dsimp only at h
        split at h
        · exact eJs_str l _ _ _ h
        · cases h
      | _ => cases h
theorem je_joined {v1 v2 : Expr} {l : List EV} (h : JF X cn W (v1 :: v2 :: rest) l) : JE X cn W (.JoinedStr (v1 :: v2 :: rest) pos) (eJs l Str.empty) := by
  obtain ⟨ts, p, d⟩ := h
  refine ⟨_, pe_joined p, fun C Γ σ F H Q R k => d _ C Γ σ F H _ R (k.mono (fun p k F' H' s r z hz => ?_) fun _ _ z => z)⟩
  obtain ⟨x, Γ1⟩ := p
  cases hz
  exact k _ F' H' s r (.str z)
theorem je_joined1 {v1 : Expr} (h : JE X cn W v1 ea) : JE X cn W (.JoinedStr [v1] pos) ea := by
  obtain ⟨t, p, d⟩ := h
  exact ⟨_, pe_joined1 p, d⟩
end
end Ed

set_option autoImplicit true
set_option Elab.async false
set_option linter.all false
set_option maxRecDepth 100000
set_option maxHeartbeats 4000000
set_option autoImplicit false
/-! in an except suite; isinstance of own classes -/
namespace Ed
open PySem L2
section
variable {X : Cx} {cn : Cn} {W : WX} {pos : Pos}
theorem eX_at {K : PySem.W.Frag} {C : Ct} {Γ : Env} {σ : St} {F H : Hp} {i : Nat} {x : Xc} (R : RelS K cn C Γ σ F H) (g : get Γ i = .exn x) {a0 : Addr} {cls : Value} {od : Option Addr} (hx : cn.ex = some (a0, cls, od)) : σ[i]? = some (some (.ref a0)) ∧ RepX K cn F cls od x := by
  obtain ⟨a1, e1, q1⟩ := R.at g (fun z => by cases z)
  obtain ⟨h1, h2⟩ := q1 _ _ _ hx
  subst h1
  exact ⟨join_some e1, h2⟩
/-- err.f in an except suite -/
theorem je_xf {i f : Nat} {cs : List Nat} {a0 : Addr} {oe : Obj} {cls : Value} {od : Option Addr} {pn : List (Addr × Obj)} {n m : Str} {pos2 : Pos} (hx0 : cn.ex = some (a0, cls, od)) (hz : Zc cls od oe) (hf : ∃ vs, oe.data = .fields vs)
    (T : ∀ c, cs.contains c = true → XfC X.K (cn.ca c) ∧ PySem.W.findIn X.K (.ref (cn.ca c)) n = some none) (hn : cn.fa f = n)
    (hN : X.N[i]? = some m := by rfl) (hv : Vis X.env.scope m := by first | exact Or.inl rfl | exact Or.inr (Or.inl rfl) | exact Or.inr (Or.inr rfl)) (hd : (m == ("__debug__" : Str)) = false := by decide)
    (hcd : (m == ("__classdict__" : Str)) = false := by decide) (hb : attributeBase (.Name m pos) n X.env (eval (.Name m pos) X.env) = eval (.Name m pos) X.env := by rfl) : JE (X.suite a0 ((a0, oe) :: pn)) cn W (.Attribute (.Name m pos) n pos2) (eXf cs i f) := by
  by_cases h : ∃ c, cs.contains c = true ∧ cls = .ref (cn.ca c)
  · obtain ⟨c, hc, rfl⟩ := h
    obtain ⟨T1, T2⟩ := T c hc
    refine ⟨_, pe_xf T1 T2 hz hf (pe_var (X := X.suite a0 ((a0, oe) :: pn)) (i := i) (x := m) (pos := pos) hN hv hd hcd) hb, fun C Γ σ F H Q R k => ?_⟩
    unfold eXf at k
    cases g : get Γ i with
    | exn x =>
      rw [g] at k
      dsimp only at k
      by_cases hcc : cs.contains x.c = true
      · rw [if_pos hcc] at k
        cases el : x.fs.lookup f with
        | none => rw [el] at k; exact k.elim
        | some d =>
          rw [el] at k
          obtain ⟨e1, rx⟩ := eX_at R g hx0
          refine ⟨_, e1, rfl, rfl, ?_⟩
          rcases rx.2 with ⟨h0, _⟩ | ⟨dd, fvs, h1, h2, _, h3⟩
          · rw [h0] at el; cases el
          · obtain ⟨v, hv1, hv2⟩ := h3 f d el
            exact ⟨dd, fvs, v, h1, R.bs.fh _ _ h2, by rw [← hn]; exact hv1, k v F H (Same.refl _) R hv2⟩
      · rw [if_neg hcc] at k; exact k.elim
    | _ => rw [g] at k; exact k.elim
  · refine ⟨fun _ _ _ => False, ⟨fun _ _ _ _ _ _ z => z.elim⟩, fun C Γ σ F H Q R k => ?_⟩
    unfold eXf at k
    cases g : get Γ i with
    | exn x =>
      rw [g] at k
      dsimp only at k
      by_cases hcc : cs.contains x.c = true
      · obtain ⟨e1, rx⟩ := eX_at R g hx0
        exact h ⟨x.c, hcc, rx.1⟩
      · rw [if_neg hcc] at k; exact k.elim
    | _ => rw [g] at k; exact k.elim
/-- isinstance(err, D) in an except suite -/
theorem je_isE {i : Nat} {is : Nat → Option Bool} {a0 : Addr} {oe : Obj} {cls : Value} {od : Option Addr} {pn : List (Addr × Obj)} {m : Str} {b : Expr} {p p1 : Pos} {v : V} {u : Value} (hx0 : cn.ex = some (a0, cls, od)) (hz : Zc cls od oe) (hf : ∃ vs, oe.data = .fields vs)
    (hg : Gl X "isinstance") (hm : X.mg "isinstance" = none) (h2 : JC (X.suite a0 ((a0, oe) :: pn)) b v u)
    (T : ∀ c k, is c = some k → ExcC X.K (cn.ca c) ∧ PySem.W.kitOne X.K (.ref (cn.ca c)) u = some k)
    (hN : X.N[i]? = some m := by rfl) (hv : Vis X.env.scope m := by first | exact Or.inl rfl | exact Or.inr (Or.inl rfl) | exact Or.inr (Or.inr rfl)) (hd : (m == ("__debug__" : Str)) = false := by decide)
    (hcd : (m == ("__classdict__" : Str)) = false := by decide)
    (he : starEach [.Name m p1, b] X.env = (false, eval (.Name m p1) X.env) :: starEach [b] X.env := by rfl) (he2 : starEach [b] X.env = (false, eval b X.env) :: starEach [] X.env := by rfl) (hpl : (backTo pos (starEach [b] X.env)).any (·.1) = false := by rfl) :
    JE (X.suite a0 ((a0, oe) :: pn)) cn W (.Call (.Name "isinstance" p) [.Name m p1, b] [] pos) (eIsE i is) := by
  by_cases h : od = none ∧ ∃ c k, is c = some k ∧ cls = .ref (cn.ca c)
  · obtain ⟨rfl, c, kk, hc, rfl⟩ := h
    obtain ⟨T1, T2⟩ := T c kk hc
    refine ⟨_, pe_callB (X := X.suite a0 ((a0, oe) :: pn)) (call_isE T1 hz hf) hg hm rfl (pa_cons (X := X.suite a0 ((a0, oe) :: pn)) (pe_var (X := X.suite a0 ((a0, oe) :: pn)) (i := i) (x := m) (pos := p1) hN hv hd hcd) (pa_cons (X := X.suite a0 ((a0, oe) :: pn)) h2.1 pa_nil he2) he) (by decide) (by decide) he hpl, fun C Γ σ F H Q R k => ?_⟩
    unfold eIsE at k
    cases g : get Γ i with
    | exn x =>
      rw [g] at k
      dsimp only at k
      by_cases hcc : x.fs.isEmpty = true
      · rw [if_pos hcc] at k
        cases el : is x.c with
        | none => rw [el] at k; exact k.elim
        | some d =>
          rw [el] at k
          obtain ⟨e1, rx⟩ := eX_at R g hx0
          have q := (T x.c d el).2
          refine ⟨_, e1, v, u, d, rfl, fun w r => ?_, ?_, k (.bl d) F H (Same.refl _) R (.bl d)⟩
          · exact h2.2.eq r
          · rw [rx.1]; exact q
      · rw [if_neg hcc] at k; exact k.elim
    | _ => rw [g] at k; exact k.elim
  · refine ⟨fun _ _ _ => False, ⟨fun _ _ _ _ _ _ z => z.elim⟩, fun C Γ σ F H Q R k => ?_⟩
    unfold eIsE at k
    cases g : get Γ i with
    | exn x =>
      rw [g] at k
      dsimp only at k
      by_cases hcc : x.fs.isEmpty = true
      · rw [if_pos hcc] at k
        cases el : is x.c with
        | none => rw [el] at k; exact k.elim
        | some d =>
          obtain ⟨e1, rx⟩ := eX_at R g hx0
          rcases rx.2 with ⟨_, h1⟩ | ⟨dd, fvs, h1, _, h3, _⟩
          · exact h ⟨h1, x.c, d, el, rx.1⟩
          · exact absurd (List.isEmpty_iff.mp hcc) h3
      · rw [if_neg hcc] at k; exact k.elim
    | _ => rw [g] at k; exact k.elim
/-! isinstance(x, C), C an own class: tb says it of the own classes -/
structure IsC (K : PySem.W.Frag) (C : Addr) : Prop where
  none : PySem.W.kitOne K (.type "NoneType") (.ref C) = some false
  bool : PySem.W.kitOne K (.type "bool") (.ref C) = some false
  int : PySem.W.kitOne K (.type "int") (.ref C) = some false
  str : PySem.W.kitOne K (.type "str") (.ref C) = some false
  list : PySem.W.kitOne K (.type "list") (.ref C) = some false
  tuple : PySem.W.kitOne K (.type "tuple") (.ref C) = some false
theorem ty_own {tb : Nat → Option Bool} {C : Addr} (h : IsC X.K C) (T : ∀ c k, tb c = some k → PySem.W.kitOne X.K (.ref (cn.ca c)) (.ref C) = some k ∧ Cls X.K (cn.ca c) ∧ PySem.W.findIn X.K (.ref (cn.ca c)) "__class__" = some (some (.builtin "object.__class__")) ∧ PySem.W.mroIn X.K (cn.ca c) (.type "object") = some true)
    (h3 : PySem.W.specialIn X.K (.builtin "object.__class__") "__get__" = some (some (.builtin "getset_descriptor.__get__"))) (h4 : PySem.W.takesIn X.K (.builtin "object.__class__") = some true) (d : D) (k : Bool) (e : isB2 tb d = some k) : TyD X.K cn (.ref C) d k := by
  cases d with
  | ins c fs => obtain ⟨t1, t2, t3, t4⟩ := T c k e; exact ⟨t1, t2, t3, h3, h4, t4⟩
  | non => cases e; exact h.none
  | bl _ => cases e; exact h.bool
  | int _ => cases e; exact h.int
  | str _ => cases e; exact h.str
  | lst _ => cases e; exact h.list
  | tup _ => cases e; exact h.tuple
  | dct _ => cases e
  | scr _ => cases e
end
end Ed

set_option autoImplicit true
set_option Elab.async false
set_option linter.all false
set_option maxRecDepth 100000
set_option maxHeartbeats 4000000
set_option autoImplicit false
/-! default values; the law itself -/
namespace L2
open PySem PySem.Spec PyProof.Rows PySem.W
section
variable {X : Cx} {k : Nat} {f C : Addr} {fd : FuncData} {ps : List Str} {sp : Sp} {W : WX} {x m : Str} {p pos apos : Pos} {e o : Expr} {es : List Expr} {ta te : TE} {t : TA}
theorem runS_makeD {ds : List Value} {dvs : List V} {pins : List (Addr × Obj)} {σ : L2.St} {H : Hp} {s : Shared} {Q : VK} {us : List Value} {vs : List V} (M : Mk X.K C f) (F : FnOk X.prog X.w X.K X.mg X.base (L2.CX X.prog X.w) k f fd ps sp) (hr : Room (k + 1) X.A) (hb : Binds X.K fd ps ds) (hd : Vals dvs ds)
    (tk : Takes X W) (I : Inv X pins σ H s) (r : Vals vs us)
    (h : ∀ x dx, H x = none → H dx = none → dx ≠ x → sp (.ref x :: (vs ++ dvs)) (upd (upd H dx (.own x)) x (.ins C dx [])) (fun v H2 => v = .non ∧ Q (.ref x) H2) (WE W σ)) :
    wpAny (model X.prog X.w) X.A (call (.ref C) us) (EP X pins σ Q) X.xe s := by
  have hq := h (s.heap.objs.size + 1) s.heap.objs.size (I.hok.fresh (Nat.le_succ _)) (I.hok.fresh (Nat.le_refl _)) (Nat.ne_of_lt (Nat.lt_succ_self _))
  have I2 := Inv.made (C := C) I
  have r2 : Vals (V.ref (s.heap.objs.size + 1) :: (vs ++ dvs)) (Value.ref (s.heap.objs.size + 1) :: (us ++ ds)) := .cons rfl (r.append hd)
  have hl : ((Value.ref (s.heap.objs.size + 1) :: us) ++ ds).length = ps.length := by
    have e := r2.length
    rw [F.len _ _ _ _ hq] at e
    exact e.symm
  have b := hb _ (Value.ref (s.heap.objs.size + 1) :: us) I2.kIn hl
  refine wpAny_call (make_map (f := f) I.kIn M.makes M.init (beq_iff_eq.mp M.fn) (codeAny_mono (F.run _ X.stack _ _ ⟨Value.ref (s.heap.objs.size + 1) :: us, []⟩ (Value.ref (s.heap.objs.size + 1) :: (us ++ ds)) _ _ (WE W σ) (hr.make C us [])
    (I2.env0.make C us []) b r2 hq) fun r s' hq' => ?_))
  cases r with
  | error e => exact passAt tk σ pins _ _ e s' I2 hq'
  | ok fl =>
    cases fl with
    | ret u =>
      obtain ⟨v, H', I3, rv, ev, q3⟩ := I2.after hq'
      subst ev
      exact ⟨rv, ⟨V.ref (s.heap.objs.size + 1), H', I3, rfl, q3⟩⟩
    | next => exact False.elim hq'
    | brk => exact False.elim hq'
    | cont => exact False.elim hq'
def tMakeXD (C : Addr) (sp : Sp) (dvs : List V) (W : WX) (t : TA) : TE := fun σ H Q => t σ H fun vs H1 => ∀ x dx, H1 x = none → H1 dx = none → dx ≠ x →
  sp (.ref x :: (vs ++ dvs)) (upd (upd H1 dx (.own x)) x (.ins C dx [])) (fun v H2 => v = .non ∧ Q (.ref x) H2) (WE W σ)
theorem pe_makeXD {ds : List Value} {dvs : List V} (M : Mk X.K C f) (F : FnOk X.prog X.w X.K X.mg X.base (L2.CX X.prog X.w) k f fd ps sp) (hr : Room (k + 1) X.A) (hg : Gl X x) (hm : X.mg x = some (.ref C)) (hb : Binds X.K fd ps ds) (hd : Vals dvs ds) (tk : Takes X W)
    (ha : PA X (e :: es) t) (hdb : (x == ("__debug__" : Str)) = false := by decide) (he : starEach (e :: es) X.env = (false, eval e X.env) :: starEach es X.env := by rfl) (hpl : (backTo pos (starEach es X.env)).any (·.1) = false := by rfl) :
    PE X (.Call (.Name x p) (e :: es) [] pos) (tMakeXD C sp dvs W t) := by
  refine ⟨fun pins s σ H Q I h => ?_⟩
  refine wpAny_Call_Name_kw (ld_glob I hg hm ?_ hdb)
  refine PySem.W.callWith_K (h₀ := X.base) I.ok.mod.kin M.kp (thn (ha.run pos pins s σ H _ I h) fun us s1 ⟨vs, H1, I1, r, q⟩ => ⟨I1.kIn, ?_⟩) he hpl
  exact runS_makeD M F hr hb hd tk I1 r q
end
end L2
namespace Ed
open PySem L2
section
variable {P : Program} {w : World} {K : PySem.W.Frag} {mg : Str → Option Value} {base : Heap} {cn : Cn}
theorem okDD {x qual : Str} {params : Arguments} {body : List Stmt} {scope : Scope} {dvs : List V} {kws : List (Str × V)} {f : Addr} {fd : FuncData} {N ps : List Str} {k : Nat} {ms : List Bool} {n : Nat} {sv : SV} {Ff : FV} (F : FunD K x qual params body scope dvs kws f fd) (S : FnScope N ps scope) (hp : ms.length = ps.length) (hN : N.length = ms.length + n) (hF : ∀ ds, Ff ds = runF ms n sv ds)
    (hbody : ∀ (cdv : Value) (A : Around) (outer : List PySem.Env) (s : Shared) (H : Hp) (E : XK), Room k (A.deeper (PyProof.Rows.envOfC qual scope s.heap.objs.size f cdv)) →
      JSs (cxOf (L2.CX P w) P w K mg base N qual scope f cdv A outer s H E) cn (fun cls d _ H => E cls d H) body sv) : FnOk P w K mg base (L2.CX P w) (k + 1) f fd ps (spD K cn ms Ff) :=
  F.ok S (fun vs H Q E h => by rw [h.1]; exact hp) fun cdv A outer s H vs Q E hr h => bodyD (X := cxOf (L2.CX P w) P w K mg base N qual scope f cdv A outer s H E) hN hF h (hbody cdv A outer s H E hr)
theorem okID {x qual : Str} {params : Arguments} {body : List Stmt} {scope : Scope} {dvs : List V} {kws : List (Str × V)} {f : Addr} {fd : FuncData} {N ps : List Str} {k c : Nat} {ms : List Bool} {n : Nat} {sv : SV} {Ff : List D → R (List (Nat × D))} (F : FunD K x qual params body scope dvs kws f fd) (S : FnScope N ps scope) (hp : ms.length + 1 = ps.length) (hN : N.length = ms.length + 1 + n) (hF : ∀ ds, Ff ds = runI c ms n sv ds)
    (hbody : ∀ (cdv : Value) (A : Around) (outer : List PySem.Env) (s : Shared) (H : Hp) (E : XK), Room k (A.deeper (PyProof.Rows.envOfC qual scope s.heap.objs.size f cdv)) →
      JSs (cxOf (L2.CX P w) P w K mg base N qual scope f cdv A outer s H E) cn (fun cls d _ H => E cls d H) body sv) : FnOk P w K mg base (L2.CX P w) (k + 1) f fd ps (spI K cn c ms Ff) :=
  F.ok S (fun vs H Q E h => by rw [h.1]; exact hp) fun cdv A outer s H vs Q E hr h => bodyI (hbody cdv A outer s H E hr) hN hF h
theorem ArgR.app {F H : Hp} {ms1 : List Bool} {vs1 : List V} {ds1 : List D} (q : ArgR K cn F H ms1 vs1 ds1) : ∀ {ms : List Bool} {vs : List V} {ds : List D}, ArgR K cn F H ms vs ds → ArgR K cn F H (ms ++ ms1) (vs ++ vs1) (ds ++ ds1)
  | [], [], [], _ => q
  | m :: ms, _ :: _, _ :: _, h => ⟨h.1, ArgR.app q h.2⟩
  | [], [], _ :: _, h => h.elim
  | [], _ :: _, _, h => h.elim
  | _ :: _, [], _, h => h.elim
  | _ :: _, _ :: _, [], h => h.elim
theorem spD_dfl {ms ms1 : List Bool} {Ff : FV} {vs dvs : List V} {dd : List D} {H : Hp} {Q : VK} {E : XK} (hd : ∀ F H, Same F H → ArgR K cn F H ms1 dvs dd) (h : spD K cn ms (fun ds => Ff (ds ++ dd)) vs H Q E) : spD K cn (ms ++ ms1) Ff (vs ++ dvs) H Q E := by
  obtain ⟨hl, F, ds, hs, ha, k⟩ := h
  have q := hd F H hs
  exact ⟨by rw [List.length_append, List.length_append, hl, q.len.1], F, ds ++ dd, hs, q.app ha, k⟩
theorem spI_dfl {c : Nat} {ms ms1 : List Bool} {Ff : List D → R (List (Nat × D))} {vs dvs : List V} {dd : List D} {p : Addr} {H : Hp} {Q : VK} {E : XK} (hd : ∀ F H, Same F H → ArgR K cn F H ms1 dvs dd) (h : spI K cn c ms (fun ds => Ff (ds ++ dd)) (.ref p :: vs) H Q E) : spI K cn c (ms ++ ms1) Ff (.ref p :: (vs ++ dvs)) H Q E := by
  obtain ⟨hl, p', vs', dx, F, ds, e, hp, fp, hs, ha, k⟩ := h
  cases e
  have q := hd F H hs
  exact ⟨by simp only [List.length_cons, List.length_append, ha.len.1, q.len.1], p, vs ++ dvs, dx, F, ds ++ dd, rfl, hp, fp, hs, q.app ha, k⟩
end
section
variable {X : Cx} {cn : Cn} {W : WX} {e : Expr} {es : List Expr} {pos : Pos} {av : AV} {k c : Nat} {f : Addr} {fd : FuncData} {ps : List Str} {ms ms1 : List Bool} {Ff : FV} {x : Str} {p : Pos} {dvs : List V} {dd : List D} {dls : List Value}
theorem je_callD (F : FnOk X.prog X.w X.K X.mg X.base (L2.CX X.prog X.w) k f fd ps (spD X.K cn (ms ++ ms1) Ff)) (hr : Room k X.A) (hg : Gl X x) (hm : X.mg x = some (.ref f)) (hk : PySem.W.keepIn X.K (.ref f) = true) (hb : Binds X.K fd ps dls) (hd : Vals dvs dls) (hdd : ∀ F H, Same F H → ArgR X.K cn F H ms1 dvs dd) (tk : Takes X W)
    (ha : JA X cn W (e :: es) av) (hdb : (x == ("__debug__" : Str)) = false := by decide) (he : starEach (e :: es) X.env = (false, eval e X.env) :: starEach es X.env := by rfl) (hpl : (backTo pos (starEach es X.env)).any (·.1) = false := by rfl) :
    JE X cn W (.Call (.Name x p) (e :: es) [] pos) (eCall (fun ds => Ff (ds ++ dd)) ms av) := by
  obtain ⟨t, pa, d⟩ := ha
  refine ⟨_, pe_callSD F hr hg hm hk hb hd (fun σ => passAt tk σ) pa hdb he hpl, fun C Γ σ F H Q R k => ?_⟩
  refine d C Γ σ F H _ R (k.bind.mono (fun p k vs F' H' s1 R1 hv => ?_) fun _ _ z => z)
  exact spD_dfl hdd (call_ok R1 hv (k.bind.mono (fun _ z => z) fun _ _ z => XW.up s1 z) fun o Γ2 v F2 H2 hP s R2 dv => dvn_e (s1.trans s) R2 dv hP)
theorem jn_callD (F : FnOk X.prog X.w X.K X.mg X.base (L2.CX X.prog X.w) k f fd ps (spD X.K cn (ms ++ ms1) Ff)) (hr : Room k X.A) (hg : Gl X x) (hm : X.mg x = some (.ref f)) (hk : PySem.W.keepIn X.K (.ref f) = true) (hb : Binds X.K fd ps dls) (hd : Vals dvs dls) (hdd : ∀ F H, Same F H → ArgR X.K cn F H ms1 dvs dd) (tk : Takes X W)
    (ha : JA X cn W (e :: es) av) (hdb : (x == ("__debug__" : Str)) = false := by decide) (he : starEach (e :: es) X.env = (false, eval e X.env) :: starEach es X.env := by rfl) (hpl : (backTo pos (starEach es X.env)).any (·.1) = false := by rfl) :
    JN X cn W (.Call (.Name x p) (e :: es) [] pos) (nCall (fun ds => Ff (ds ++ dd)) ms av) := by
  obtain ⟨t, pa, d⟩ := ha
  refine ⟨_, pe_callSD F hr hg hm hk hb hd (fun σ => passAt tk σ) pa hdb he hpl, fun C Γ σ F H Q R k => ?_⟩
  refine d C Γ σ F H _ R (k.bind.mono (fun p k vs F' H' s1 R1 hv => ?_) fun _ _ z => z)
  refine spD_dfl hdd (call_ok R1 hv (k.bind.mono (fun _ z => z) fun _ _ z => XW.up s1 z) fun o Γ2 v F2 H2 hP s R2 dv => ?_)
  cases o with
  | fz d => exact hP.elim
  | fr d => exact hP v F2 H2 (s1.trans s) R2 dv
theorem je_makeD {Fi : List D → R (List (Nat × D))} (M : Mk X.K (cn.ca c) f) (F : FnOk X.prog X.w X.K X.mg X.base (L2.CX X.prog X.w) k f fd ps (spI X.K cn c (ms ++ ms1) Fi)) (hr : Room (k + 1) X.A) (hg : Gl X x) (hm : X.mg x = some (.ref (cn.ca c))) (hb : Binds X.K fd ps dls) (hd : Vals dvs dls) (hdd : ∀ F H, Same F H → ArgR X.K cn F H ms1 dvs dd) (tk : Takes X W)
    (ha : JA X cn W (e :: es) av) (hdb : (x == ("__debug__" : Str)) = false := by decide) (he : starEach (e :: es) X.env = (false, eval e X.env) :: starEach es X.env := by rfl) (hpl : (backTo pos (starEach es X.env)).any (·.1) = false := by rfl) :
    JE X cn W (.Call (.Name x p) (e :: es) [] pos) (eCall (mkF c fun ds => Fi (ds ++ dd)) ms av) := by
  obtain ⟨t, pa, d⟩ := ha
  refine ⟨_, pe_makeXD M F hr hg hm hb hd tk pa hdb he hpl, fun C Γ σ F0 H Q R k => ?_⟩
  refine d C Γ σ F0 H _ R (k.bind.mono (fun p k vs F' H' s1 R1 hv => ?_) fun _ _ z => z)
  have q := spD_make (call_ok R1 hv (k.bind.mono (fun _ z => z) fun _ _ z => XW.up s1 z) fun o Γ2 v F2 H2 hP s R2 dv => dvn_e (s1.trans s) R2 dv hP)
  exact fun x dx h1 h2 h3 => spI_dfl hdd (q x dx h1 h2 h3)
end
/-- default values of plain kinds -/
theorem dfl_nil {K : PySem.W.Frag} {cn : Cn} : ∀ F H, Same F H → ArgR K cn F H [] [] [] := fun _ _ _ => True.intro
theorem dfl_int {K : PySem.W.Frag} {cn : Cn} {i : Int} {ms : List Bool} {vs : List V} {ds : List D} {m : Bool} (h : ∀ F H, Same F H → ArgR K cn F H ms vs ds) : ∀ F H, Same F H → ArgR K cn F H (m :: ms) (.int i :: vs) (.int i :: ds) := fun F H s => ⟨by cases m <;> exact Rep.int i, h F H s⟩
theorem dfl_bl {K : PySem.W.Frag} {cn : Cn} {i : Bool} {ms : List Bool} {vs : List V} {ds : List D} {m : Bool} (h : ∀ F H, Same F H → ArgR K cn F H ms vs ds) : ∀ F H, Same F H → ArgR K cn F H (m :: ms) (.bl i :: vs) (.bl i :: ds) := fun F H s => ⟨by cases m <;> exact Rep.bl i, h F H s⟩
theorem dfl_non {K : PySem.W.Frag} {cn : Cn} {ms : List Bool} {vs : List V} {ds : List D} {m : Bool} (h : ∀ F H, Same F H → ArgR K cn F H ms vs ds) : ∀ F H, Same F H → ArgR K cn F H (m :: ms) (.non :: vs) (.non :: ds) := fun F H s => ⟨by cases m <;> exact Rep.non, h F H s⟩
/-! the law -/
def spLaw (K : PySem.W.Frag) : Sp := fun vs H Q _ => ∃ (a : Addr) (ns : List Int), vs = [.ref a] ∧ SqL K H a (ns.map V.int) ∧ ns.length ≤ 63 ∧ ∀ H', Q (.bl true) H'
theorem law_sp {P : Program} {w : World} {K : PySem.W.Frag} {mg : Str → Option Value} {base : Heap} {cn : Cn} {k : Nat} {f : Addr} {fd : FuncData} {ps : List Str} {m : Bool} {Ff : FV} (F : FnOk P w K mg base (L2.CX P w) k f fd ps (spD K cn [m] Ff)) (h : ∀ ns : List Int, ns.length ≤ 63 → Ff [.scr ns] = .ok (.fz (.bl true))) : FnOk P w K mg base (L2.CX P w) k f fd ps (spLaw K) := by
  have up : ∀ vs H Q E, spLaw K vs H Q E → spD K cn [m] Ff vs H Q E := fun vs H Q E ⟨a, ns, e, hs, hl, q⟩ => by
    subst e
    have r : Rep K cn H (.ref a) (.scr ns) := .scr hs
    refine ⟨rfl, H, [.scr ns], Same.refl _, ⟨by cases m <;> exact r, True.intro⟩, ?_⟩
    rw [h ns hl]
    intro v F' H' ex dv
    cases (show Rep K cn F' v (.bl true) from dv)
    exact q H'
  exact ⟨fun vs H Q E q => F.len vs H Q E (up vs H Q E q), fun A outer s H args us vs Q E hr he hb r q => F.run A outer s H args us vs Q E hr he hb r (up vs H Q E q)⟩
theorem CX_false {P : Program} {w : World} {H : Hp} {s : Shared} {e : Value} {s' : Shared} (h : L2.CX P w [] H s (fun _ _ _ => False) e s') : False := by
  obtain ⟨a, B, H', cls, d, _, _, _, _, _, _, _, z⟩ := h
  exact z
end Ed

set_option autoImplicit true
set_option Elab.async false
set_option linter.all false
set_option maxRecDepth 100000
set_option maxHeartbeats 4000000
set_option autoImplicit false
/-! small helpers for what gen2 prints -/
namespace L2
open PySem PySem.Spec PyProof.Rows PySem.W
theorem Room.units65 {k : Nat} {A : Around} (r : Room k A) : A.units + 65 < cLine := by have := r.un; omega
end L2
namespace Ed
open PySem L2
theorem takesW {X : Cx} : Takes X W0 := fun _ _ h => by
  obtain ⟨a, B, sI, pins, σ, H, cls, d, _, _, _, _, _, _, _, _, z⟩ := h
  exact z.elim
theorem tab_nil {P : Nat → Bool → Prop} : ∀ c k, tbl [] c = some k → P c k := fun c k h => by cases h
theorem tab_cons {P : Nat → Bool → Prop} {a : Nat} {b : Bool} {l : List (Nat × Bool)} (h : P a b) (t : ∀ c k, tbl l c = some k → P c k) : ∀ c k, tbl ((a, b) :: l) c = some k → P c k := fun c k e => by
  unfold tbl at e
  rw [List.lookup_cons] at e
  by_cases q : (c == a) = true
  · rw [q] at e
    cases e
    rw [beq_iff_eq.mp q]; exact h
  · rw [Bool.not_eq_true _ |>.mp q] at e
    exact t c k e
theorem mem_nil {P : Nat → Prop} : ∀ c, ([] : List Nat).contains c = true → P c := fun c h => by simp at h
theorem mem_cons {P : Nat → Prop} {a : Nat} {l : List Nat} (h : P a) (t : ∀ c, l.contains c = true → P c) : ∀ c, (a :: l).contains c = true → P c := fun c e => by
  rw [List.contains_cons, Bool.or_eq_true] at e
  rcases e with e | e
  · rw [beq_iff_eq.mp e]; exact h
  · exact t c e
theorem binds0 {K : PySem.W.Frag} {fd : FuncData} {ps : List Str} (h : ∃ ds, Vals [] ds ∧ Binds K fd ps ds) : Binds K fd ps [] := by
  obtain ⟨ds, r, b⟩ := h
  cases r
  exact b
theorem kit_self (K : PySem.W.Frag) (t : Value) : PySem.W.kitOne K t t = some true := if_pos (by simp)
theorem kit_other {K : PySem.W.Frag} {t : String} {C : Addr} {b : Option Bool} (h2 : PySem.W.isClsIn K C = true) (h3 : PySem.W.typeIn K (.ref C) = some (.type "type")) (h4 : PySem.W.subIn K (.type t) (.ref C) = b) : PySem.W.kitOne K (.type t) (.ref C) = b := by
  have e2 : ((PySem.W.clsIn K C).isSome && PySem.W.typeIn K (.ref C) == some (.type "type")) = true := by
    have h2' : (PySem.W.clsIn K C).isSome = true := h2
    rw [h2', h3]
    rfl
  unfold PySem.W.kitOne
  rw [show (Value.type t == Value.ref C) = false from beq_eq_false_iff_ne.mpr (by intro h; cases h)]
  show (if ((PySem.W.clsIn K C).isSome && PySem.W.typeIn K (.ref C) == some (.type "type")) = true then PySem.W.subIn K (.type t) (.ref C) else none) = b
  rw [if_pos e2, h4]
theorem kit_refTy {K : PySem.W.Frag} {t : String} {C : Addr} {b : Option Bool} (h4 : PySem.W.subIn K (.ref C) (.type t) = b) (hm : PySem.W.kitMeta t = true := by decide +kernel) : PySem.W.kitOne K (.ref C) (.type t) = b := by
  unfold PySem.W.kitOne
  rw [show (Value.ref C == Value.type t) = false from beq_eq_false_iff_ne.mpr (by intro h; cases h)]
  show (if PySem.W.kitMeta t = true then PySem.W.subIn K (.ref C) (.type t) else none) = b
  rw [if_pos hm, h4]
/-- two own classes: a subclass counts as itself -/
theorem kit_ownT {K : PySem.W.Frag} {D C : Addr} (h2 : PySem.W.isClsIn K C = true) (h3 : PySem.W.typeIn K (.ref C) = some (.type "type")) (h4 : PySem.W.subIn K (.ref D) (.ref C) = some true) : PySem.W.kitOne K (.ref D) (.ref C) = some true := by
  have e2 : ((PySem.W.clsIn K C).isSome && PySem.W.typeIn K (.ref C) == some (.type "type")) = true := by
    have h2' : (PySem.W.clsIn K C).isSome = true := h2
    rw [h2', h3]
    rfl
  unfold PySem.W.kitOne
  split
  · rfl
  · show (if ((PySem.W.clsIn K C).isSome && PySem.W.typeIn K (.ref C) == some (.type "type")) = true then PySem.W.subIn K (.ref D) (.ref C) else none) = _
    rw [if_pos e2, h4]
theorem kit_ownF {K : PySem.W.Frag} {D C : Addr} (h2 : PySem.W.isClsIn K C = true) (h3 : PySem.W.typeIn K (.ref C) = some (.type "type")) (h4 : PySem.W.subIn K (.ref D) (.ref C) = some false) (hne : PySem.W.subIn K (.ref C) (.ref C) = some true) : PySem.W.kitOne K (.ref D) (.ref C) = some false := by
  have e2 : ((PySem.W.clsIn K C).isSome && PySem.W.typeIn K (.ref C) == some (.type "type")) = true := by
    have h2' : (PySem.W.clsIn K C).isSome = true := h2
    rw [h2', h3]
    rfl
  unfold PySem.W.kitOne
  split
  · rename_i q
    have : D = C := Value.ref.inj (beq_iff_eq.mp q)
    rw [this, hne] at h4
    cases h4
  · show (if ((PySem.W.clsIn K C).isSome && PySem.W.typeIn K (.ref C) == some (.type "type")) = true then PySem.W.subIn K (.ref D) (.ref C) else none) = _
    rw [if_pos e2, h4]
section
variable {X : Cx} {cn : Cn} {W : WX} {a b c : Expr} {pos : Pos} {qa qb qc : QV}
theorem ty2_int (d : D) (k : Bool) (h : isT2 .tInt d = some k) : TyD X.K cn (.type "int") d k := by
  cases d <;> first | (cases h; exact kit_ty (by decide +kernel)) | cases h
theorem ty2_bool (d : D) (k : Bool) (h : isT2 .tBool d = some k) : TyD X.K cn (.type "bool") d k := by
  cases d <;> first | (cases h; exact kit_ty (by decide +kernel)) | cases h
theorem ty2_str (d : D) (k : Bool) (h : isT2 .tStr d = some k) : TyD X.K cn (.type "str") d k := by
  cases d <;> first | (cases h; exact kit_ty (by decide +kernel)) | cases h
theorem ty2_list (d : D) (k : Bool) (h : isT2 .tList d = some k) : TyD X.K cn (.type "list") d k := by
  cases d <;> first | (cases h; exact kit_ty (by decide +kernel)) | cases h
theorem ty2_tuple (d : D) (k : Bool) (h : isT2 .tTuple d = some k) : TyD X.K cn (.type "tuple") d k := by
  cases d <;> first | (cases h; exact kit_ty (by decide +kernel)) | cases h
theorem jt_chain {op op' : CmpOp} {r r' : R2} {f f' : D → D → Option D} (ho : OpR X (compareOp op) r) (h : R2D X.K cn r f) (hb : ∀ x y d, f x y = some d → ∃ k, d = .bl k) (ho' : OpR X (compareOp op') r') (h' : R2D X.K cn r' f') (h1 : JQ X cn W a qa) (h2 : JQ X cn W b qb) (h3 : JQ X cn W c qc)
    (hm : lastMarks [op, op'] [b, c] = false := by with_unfolding_all rfl) : JT X cn W (.Compare a [op, op'] [b, c] pos) (tE (eChain f f' qa qb qc)) := by
  obtain ⟨t1, p1, d1⟩ := h1
  obtain ⟨t2, p2, d2⟩ := h2
  obtain ⟨t3, p3, d3⟩ := h3
  refine ⟨_, pt_chain ho ho' p1 p2 p3 hm, fun C Γ σ F H Q R k => ?_⟩
  refine dchain h h' d1 d2 d3 hb C Γ σ F H _ R (k.bind.mono (fun p k v F' H' s r rv => ?_) fun _ _ z => z)
  obtain ⟨x, Γ1⟩ := p
  cases x with
  | bl z => cases rv; exact ⟨z, rfl, k F' H' s r⟩
  | _ => exact k.elim
end
end Ed

set_option autoImplicit true
set_option Elab.async false
set_option linter.all false
set_option maxRecDepth 100000
set_option exponentiation.threshold 10000
/-! running the data functions by rewriting: every rest of a run is a named function of what came -/
namespace Ed
open PySem
section
variable {α β : Type} {Γ Γ1 Γ' : Env} {a b c : QV} {e e1 e2 : EV} {t t1 t2 : TV} {av : AV} {lv : LV} {s s1 s2 : SV} {f f' : D → D → Option D} {f1 : D → Option D} {fl : List D → Option D} {i j n m : Nat} {d x y z : D} {F : FV} {ms : List Bool} {g : GV} {p q : PV} {ps qs : List PV} {ds es : List D} {k : Bool} {xc : Xc} {o : DV} {ct : Ctl} {l : List EV} {acc st : Str}
def kR (Γ : Env) : Option D → R (D × Env)
  | some d => .ok (d, Γ)
  | none => .bad
theorem kR_s : kR Γ (some d) = .ok (d, Γ) := rfl
theorem eC_ap : eC d Γ = .ok (d, Γ) := rfl
def kN (i : Nat) (Γ : Env) : Option (D × Sl) → R (D × Env)
  | some (d, s) => .ok (d, put Γ i s)
  | none => .bad
theorem eN_ap : eN i Γ = kN i Γ (frzS (get Γ i)) := by
  unfold eN
  cases frzS (get Γ i) <;> rfl
theorem kN_s {w : Sl} : kN i Γ (some (d, w)) = .ok (d, put Γ i w) := rfl
def kP (i : Nat) (Γ : Env) : Option D → R (PV × Env)
  | some _ => .ok (.pn i, Γ)
  | none => .bad
theorem pN_ap : pN i Γ = kP i Γ (look (get Γ i)) := by
  unfold pN
  cases look (get Γ i) <;> rfl
theorem kP_s : kP i Γ (some d) = .ok (.pn i, Γ) := rfl
def kpE  : R (D × Env) → R (PV × Env)
  | .ok (d, Γ) => .ok (.pd d, Γ)
  | .exc x Γ => .exc x Γ
  | .bad => .bad
theorem kpE_ok : kpE  (.ok (d, Γ)) = .ok (.pd d, Γ) := rfl
theorem kpE_ex : kpE  (.exc xc Γ) = .exc xc Γ := rfl
theorem pE_ap : pE e Γ = kpE (e Γ) := by unfold pE; cases e Γ <;> rfl
def kU2 (f : D → Option D) (Γ : Env) : Option D → R (D × Env)
  | some d => kR Γ (f d)
  | none => .bad
theorem kU2_s : kU2 f1 Γ (some x) = kR Γ (f1 x) := rfl
def kU (f1 : D → Option D) : R (PV × Env) → R (D × Env)
  | .ok (p, Γ) => kU2 f1 Γ (rd Γ p)
  | .exc x Γ => .exc x Γ
  | .bad => .bad
theorem kU_ok : kU f1 (.ok (p, Γ)) = kU2 f1 Γ (rd Γ p) := rfl
theorem kU_ex : kU f1 (.exc xc Γ) = .exc xc Γ := rfl
theorem eU_ap : eU f1 a Γ = kU f1 (a Γ) := by
  unfold eU
  cases a Γ with
  | ok r => obtain ⟨p, Γ'⟩ := r; show (match rd Γ' p with | some d => (R.of (f1 d)).bind fun z => .ok (z, Γ') | none => .bad) = kU2 f1 Γ' (rd Γ' p); cases rd Γ' p with
    | none => rfl
    | some d => show (R.of (f1 d)).bind _ = kR Γ' (f1 d); cases f1 d <;> rfl
  | exc x Γ => rfl
  | bad => rfl
def kB3 (f : D → D → Option D) (Γ : Env) : Option D → Option D → R (D × Env)
  | some d, some e => kR Γ (f d e)
  | _, _ => .bad
theorem kB3_s : kB3 f Γ (some x) (some y) = kR Γ (f x y) := rfl
def kB2 (f : D → D → Option D) (p : PV) : R (PV × Env) → R (D × Env)
  | .ok (q, Γ) => kB3 f Γ (rd Γ p) (rd Γ q)
  | .exc x Γ => .exc x Γ
  | .bad => .bad
theorem kB2_ok : kB2 f p (.ok (q, Γ)) = kB3 f Γ (rd Γ p) (rd Γ q) := rfl
theorem kB2_ex : kB2 f p (.exc xc Γ) = .exc xc Γ := rfl
def kB1 (f : D → D → Option D) (b : QV) : R (PV × Env) → R (D × Env)
  | .ok (p, Γ) => kB2 f p (b Γ)
  | .exc x Γ => .exc x Γ
  | .bad => .bad
theorem kB1_ok : kB1 f b (.ok (p, Γ)) = kB2 f p (b Γ) := rfl
theorem kB1_ex : kB1 f b (.exc xc Γ) = .exc xc Γ := rfl
theorem eB_ap : eB f a b Γ = kB1 f b (a Γ) := by
  unfold eB
  cases a Γ with
  | ok r =>
    obtain ⟨p, Γ1⟩ := r
    show (b Γ1).bind _ = kB2 f p (b Γ1)
    cases b Γ1 with
    | ok r =>
      obtain ⟨q, Γ2⟩ := r
      show (match rd Γ2 p, rd Γ2 q with | some d, some e => (R.of (f d e)).bind fun z => .ok (z, Γ2) | _, _ => .bad) = kB3 f Γ2 (rd Γ2 p) (rd Γ2 q)
      cases rd Γ2 p with
      | none => cases rd Γ2 q <;> rfl
      | some d => cases rd Γ2 q with
        | none => rfl
        | some e => show (R.of (f d e)).bind _ = kR Γ2 (f d e); cases f d e <;> rfl
    | exc x Γ => rfl
    | bad => rfl
  | exc x Γ => rfl
  | bad => rfl
def kF2 (f : List D → Option D) (Γ : Env) : Option (List D) → R (D × Env)
  | some d => kR Γ (f d)
  | none => .bad
theorem kF2_s : kF2 fl Γ (some ds) = kR Γ (fl ds) := rfl
def kF (fl : List D → Option D) : R (List PV × Env) → R (D × Env)
  | .ok (ps, Γ) => kF2 fl Γ (rds Γ ps)
  | .exc x Γ => .exc x Γ
  | .bad => .bad
theorem kF_ok : kF fl (.ok (ps, Γ)) = kF2 fl Γ (rds Γ ps) := rfl
theorem kF_ex : kF fl (.exc xc Γ) = .exc xc Γ := rfl
theorem eF_ap : eF fl av Γ = kF fl (av Γ) := by
  unfold eF
  cases av Γ with
  | ok r => obtain ⟨p, Γ'⟩ := r; show (match rds Γ' p with | some d => (R.of (fl d)).bind fun z => .ok (z, Γ') | none => .bad) = kF2 fl Γ' (rds Γ' p); cases rds Γ' p with
    | none => rfl
    | some d => show (R.of (fl d)).bind _ = kR Γ' (fl d); cases fl d <;> rfl
  | exc x Γ => rfl
  | bad => rfl
theorem aNil_ap : aNil Γ = .ok ([], Γ) := rfl
theorem lNil_ap : lNil Γ = .ok ([], Γ) := rfl
def kA2 (p : PV) : R (List PV × Env) → R (List PV × Env)
  | .ok (ps, Γ) => .ok (p :: ps, Γ)
  | .exc x Γ => .exc x Γ
  | .bad => .bad
theorem kA2_ok : kA2 p (.ok (ps, Γ)) = .ok (p :: ps, Γ) := rfl
theorem kA2_ex : kA2 p (.exc xc Γ) = .exc xc Γ := rfl
def kA1 (av : AV) : R (PV × Env) → R (List PV × Env)
  | .ok (p, Γ) => kA2 p (av Γ)
  | .exc x Γ => .exc x Γ
  | .bad => .bad
theorem kA1_ok : kA1 av (.ok (p, Γ)) = kA2 p (av Γ) := rfl
theorem kA1_ex : kA1 av (.exc xc Γ) = .exc xc Γ := rfl
theorem aCons_ap : aCons a av Γ = kA1 av (a Γ) := by
  unfold aCons
  cases a Γ with
  | ok r =>
    obtain ⟨p, Γ1⟩ := r
    show (av Γ1).bind _ = kA2 p (av Γ1)
    cases av Γ1 <;> rfl
  | exc x Γ => rfl
  | bad => rfl
def kL2 (d : D) : R (List D × Env) → R (List D × Env)
  | .ok (ds, Γ) => .ok (d :: ds, Γ)
  | .exc x Γ => .exc x Γ
  | .bad => .bad
theorem kL2_ok : kL2 d (.ok (ds, Γ)) = .ok (d :: ds, Γ) := rfl
theorem kL2_ex : kL2 d (.exc xc Γ) = .exc xc Γ := rfl
def kL1 (lv : LV) : R (D × Env) → R (List D × Env)
  | .ok (d, Γ) => kL2 d (lv Γ)
  | .exc x Γ => .exc x Γ
  | .bad => .bad
theorem kL1_ok : kL1 lv (.ok (d, Γ)) = kL2 d (lv Γ) := rfl
theorem kL1_ex : kL1 lv (.exc xc Γ) = .exc xc Γ := rfl
theorem lCons_ap : lCons e lv Γ = kL1 lv (e Γ) := by
  unfold lCons
  cases e Γ with
  | ok r =>
    obtain ⟨p, Γ1⟩ := r
    show (lv Γ1).bind _ = kL2 p (lv Γ1)
    cases lv Γ1 <;> rfl
  | exc x Γ => rfl
  | bad => rfl
def kSz (r : R (D × Env)) : Bool → R (D × Env)
  | true => r
  | false => .bad
theorem kSz_t : kSz (.ok (d, Γ)) true = .ok (d, Γ) := rfl
def kTp  : R (List D × Env) → R (D × Env)
  | .ok (ds, Γ) => kSz (.ok (.tup ds, Γ)) (decide (ds.length ≤ seqMax))
  | .exc x Γ => .exc x Γ
  | .bad => .bad
theorem kTp_ok : kTp  (.ok (ds, Γ)) = kSz (.ok (.tup ds, Γ)) (decide (ds.length ≤ seqMax)) := rfl
theorem kTp_ex : kTp  (.exc xc Γ) = .exc xc Γ := rfl
def kLs  : R (List D × Env) → R (D × Env)
  | .ok (ds, Γ) => kSz (.ok (.lst ds, Γ)) (decide (ds.length ≤ seqMax))
  | .exc x Γ => .exc x Γ
  | .bad => .bad
theorem kLs_ok : kLs  (.ok (ds, Γ)) = kSz (.ok (.lst ds, Γ)) (decide (ds.length ≤ seqMax)) := rfl
theorem kLs_ex : kLs  (.exc xc Γ) = .exc xc Γ := rfl
theorem eTup_ap : eTup lv Γ = kTp (lv Γ) := by
  unfold eTup
  cases lv Γ with
  | ok r => obtain ⟨ds, Γ1⟩ := r; show (if ds.length ≤ seqMax then _ else _) = kSz _ _; by_cases h : ds.length ≤ seqMax <;> simp [h, kSz]
  | exc x Γ => rfl
  | bad => rfl
theorem nLst_ap : nLst lv Γ = kLs (lv Γ) := by
  unfold nLst
  cases lv Γ with
  | ok r => obtain ⟨ds, Γ1⟩ := r; show (if ds.length ≤ seqMax then _ else _) = kSz _ _; by_cases h : ds.length ≤ seqMax <;> simp [h, kSz]
  | exc x Γ => rfl
  | bad => rfl
def kIf {α : Type} (a b : Env → R α) : R (Bool × Env) → R α
  | .ok (true, Γ) => a Γ
  | .ok (false, Γ) => b Γ
  | .exc x Γ => .exc x Γ
  | .bad => .bad
theorem kIf_t {u v : Env → R α} : kIf u v (.ok (true, Γ)) = u Γ := rfl
theorem kIf_f {u v : Env → R α} : kIf u v (.ok (false, Γ)) = v Γ := rfl
theorem kIf_ex {u v : Env → R α} : kIf u v (.exc xc Γ) = .exc xc Γ := rfl
def tC (k : Bool) : TV := fun Γ => .ok (k, Γ)
theorem tC_ap : tC k Γ = .ok (k, Γ) := rfl
theorem eAnd_ap : eAnd t1 t2 Γ = kIf (t2) (tC false) (t1 Γ) := by
  unfold eAnd
  cases t1 Γ with
  | ok r => obtain ⟨k, Γ1⟩ := r; cases k <;> rfl
  | exc x Γ => rfl
  | bad => rfl
theorem eOr_ap : eOr t1 t2 Γ = kIf (tC true) (t2) (t1 Γ) := by
  unfold eOr
  cases t1 Γ with
  | ok r => obtain ⟨k, Γ1⟩ := r; cases k <;> rfl
  | exc x Γ => rfl
  | bad => rfl
theorem eNot_ap : eNot t1 Γ = kIf (tC false) (tC true) (t1 Γ) := by
  unfold eNot
  cases t1 Γ with
  | ok r => obtain ⟨k, Γ1⟩ := r; cases k <;> rfl
  | exc x Γ => rfl
  | bad => rfl
theorem eIf_ap : eIf t1 e1 e2 Γ = kIf (e1) (e2) (t1 Γ) := by
  unfold eIf
  cases t1 Γ with
  | ok r => obtain ⟨k, Γ1⟩ := r; cases k <;> rfl
  | exc x Γ => rfl
  | bad => rfl
theorem sIf_ap : sIf t1 s1 s2 Γ = kIf (s1) (s2) (t1 Γ) := by
  unfold sIf
  cases t1 Γ with
  | ok r => obtain ⟨k, Γ1⟩ := r; cases k <;> rfl
  | exc x Γ => rfl
  | bad => rfl
def kE2 (Γ : Env) : D → R (Bool × Env)
  | .bl b => .ok (b, Γ)
  | _ => .bad
theorem kE2_b : kE2 Γ (.bl k) = .ok (k, Γ) := rfl
def kE  : R (D × Env) → R (Bool × Env)
  | .ok (d, Γ) => kE2 Γ d
  | .exc x Γ => .exc x Γ
  | .bad => .bad
theorem kE_ok : kE  (.ok (d, Γ)) = kE2 Γ d := rfl
theorem kE_ex : kE  (.exc xc Γ) = .exc xc Γ := rfl
theorem tE_ap : tE e Γ = kE (e Γ) := by
  unfold tE
  cases e Γ with
  | ok r => obtain ⟨d, Γ1⟩ := r; cases d <;> rfl
  | exc x Γ => rfl
  | bad => rfl
def kT3 (Γ : Env) : Option Bool → R (Bool × Env)
  | some d => .ok (d, Γ)
  | none => .bad
theorem kT3_s : kT3 Γ (some k) = .ok (k, Γ) := rfl
def kT2 (Γ : Env) : Option D → R (Bool × Env)
  | some d => kT3 Γ (truth d)
  | none => .bad
theorem kT2_s : kT2 Γ (some x) = kT3 Γ (truth x) := rfl
def kT  : R (PV × Env) → R (Bool × Env)
  | .ok (p, Γ) => kT2 Γ (rd Γ p)
  | .exc x Γ => .exc x Γ
  | .bad => .bad
theorem kT_ok : kT  (.ok (p, Γ)) = kT2 Γ (rd Γ p) := rfl
theorem kT_ex : kT  (.exc xc Γ) = .exc xc Γ := rfl
theorem tTru_ap : tTru a Γ = kT (a Γ) := by
  unfold tTru
  cases a Γ with
  | ok r => obtain ⟨p, Γ'⟩ := r; show (match rd Γ' p with | some d => (R.of (truth d)).bind fun z => .ok (z, Γ') | none => .bad) = kT2 Γ' (rd Γ' p); cases rd Γ' p with
    | none => rfl
    | some d => show (R.of (truth d)).bind _ = kT3 Γ' (truth d); cases truth d <;> rfl
  | exc x Γ => rfl
  | bad => rfl
theorem tru_int {k : Int} : truth (.int k) = some (k != 0) := rfl
theorem tru_bl {k : Bool} : truth (.bl k) = some k := rfl
theorem tru_lst {k : List D} : truth (.lst k) = some (!k.isEmpty) := rfl
theorem tru_tup {k : List D} : truth (.tup k) = some (!k.isEmpty) := rfl
theorem tru_non : truth .non = some false := rfl
theorem tYs_ap : tYs Γ = .ok (true, Γ) := rfl
def eCB (k : Bool) : EV := fun Γ => .ok (.bl k, Γ)
theorem eCB_ap : eCB k Γ = .ok (.bl k, Γ) := rfl
theorem eAndV_ap : eAndV e1 e2 Γ = kIf (e2) (eCB false) (kE (e1 Γ)) := by
  unfold eAndV
  cases e1 Γ with
  | ok r => obtain ⟨d, Γ1⟩ := r; cases d with
    | bl k => cases k <;> rfl
    | _ => rfl
  | exc x Γ => rfl
  | bad => rfl
theorem eOrV_ap : eOrV e1 e2 Γ = kIf (eCB true) (e2) (kE (e1 Γ)) := by
  unfold eOrV
  cases e1 Γ with
  | ok r => obtain ⟨d, Γ1⟩ := r; cases d with
    | bl k => cases k <;> rfl
    | _ => rfl
  | exc x Γ => rfl
  | bad => rfl
theorem eNotV_ap : eNotV e1 Γ = kIf (eCB false) (eCB true) (kE (e1 Γ)) := by
  unfold eNotV
  cases e1 Γ with
  | ok r => obtain ⟨d, Γ1⟩ := r; cases d with
    | bl k => cases k <;> rfl
    | _ => rfl
  | exc x Γ => rfl
  | bad => rfl
def kCh4 (f' : D → D → Option D) (Γ : Env) : Option D → Option D → R (D × Env)
  | some y, some z => kR Γ (f' y z)
  | _, _ => .bad
theorem kCh4_s : kCh4 f' Γ (some x) (some y) = kR Γ (f' x y) := rfl
def kCh3 (f' : D → D → Option D) (q : PV) : R (PV × Env) → R (D × Env)
  | .ok (p, Γ) => kCh4 f' Γ (rd Γ q) (rd Γ p)
  | .exc x Γ => .exc x Γ
  | .bad => .bad
theorem kCh3_ok : kCh3 f' q (.ok (p, Γ)) = kCh4 f' Γ (rd Γ q) (rd Γ p) := rfl
theorem kCh3_ex : kCh3 f' q (.exc xc Γ) = .exc xc Γ := rfl
def kCh2 (f' : D → D → Option D) (q : PV) (c : QV) (Γ : Env) : Option D → R (D × Env)
  | some (.bl true) => kCh3 f' q (c Γ)
  | some (.bl false) => .ok (.bl false, Γ)
  | _ => .bad
theorem kCh2_t : kCh2 f' q c Γ (some (.bl true)) = kCh3 f' q (c Γ) := rfl
theorem kCh2_f : kCh2 f' q c Γ (some (.bl false)) = .ok (.bl false, Γ) := rfl
def kCh1 (f f' : D → D → Option D) (q : PV) (c : QV) (Γ : Env) : Option D → Option D → R (D × Env)
  | some x, some y => kCh2 f' q c Γ (f x y)
  | _, _ => .bad
theorem kCh1_s : kCh1 f f' q c Γ (some x) (some y) = kCh2 f' q c Γ (f x y) := rfl
def kCh0 (f f' : D → D → Option D) (c : QV) (p : PV) : R (PV × Env) → R (D × Env)
  | .ok (q, Γ) => kCh1 f f' q c Γ (rd Γ p) (rd Γ q)
  | .exc x Γ => .exc x Γ
  | .bad => .bad
theorem kCh0_ok : kCh0 f f' c p (.ok (q, Γ)) = kCh1 f f' q c Γ (rd Γ p) (rd Γ q) := rfl
theorem kCh0_ex : kCh0 f f' c p (.exc xc Γ) = .exc xc Γ := rfl
def kCh (f f' : D → D → Option D) (b c : QV) : R (PV × Env) → R (D × Env)
  | .ok (p, Γ) => kCh0 f f' c p (b Γ)
  | .exc x Γ => .exc x Γ
  | .bad => .bad
theorem kCh_ok : kCh f f' b c (.ok (p, Γ)) = kCh0 f f' c p (b Γ) := rfl
theorem kCh_ex : kCh f f' b c (.exc xc Γ) = .exc xc Γ := rfl
theorem eChain_ap : eChain f f' a b c Γ = kCh f f' b c (a Γ) := by
  unfold eChain
  cases a Γ with
  | ok r =>
    obtain ⟨p, Γ1⟩ := r
    show (b Γ1).bind _ = kCh0 f f' c p (b Γ1)
    cases b Γ1 with
    | ok r =>
      obtain ⟨q, Γ2⟩ := r
      show (match rd Γ2 p, rd Γ2 q with | some x, some y => _ | _, _ => _) = kCh1 f f' q c Γ2 (rd Γ2 p) (rd Γ2 q)
      cases rd Γ2 p with
      | none => cases rd Γ2 q <;> rfl
      | some x => cases rd Γ2 q with
        | none => rfl
        | some y =>
          show (match f x y with | some (.bl true) => _ | some (.bl false) => _ | _ => _) = kCh2 f' q c Γ2 (f x y)
          cases f x y with
          | none => rfl
          | some d => cases d with
            | bl k => cases k with
              | false => rfl
              | true =>
                show (c Γ2).bind _ = kCh3 f' q (c Γ2)
                cases c Γ2 with
                | ok r =>
                  obtain ⟨u, Γ3⟩ := r
                  show (match rd Γ3 q, rd Γ3 u with | some y', some z => (R.of (f' y' z)).bind _ | _, _ => _) = kCh4 f' Γ3 (rd Γ3 q) (rd Γ3 u)
                  cases rd Γ3 q with
                  | none => cases rd Γ3 u <;> rfl
                  | some y' => cases rd Γ3 u with
                    | none => rfl
                    | some z => show (R.of (f' y' z)).bind _ = kR Γ3 (f' y' z); cases f' y' z <;> rfl
                | exc x Γ => rfl
                | bad => rfl
            | _ => rfl
    | exc x Γ => rfl
    | bad => rfl
  | exc x Γ => rfl
  | bad => rfl
def kC (Γ : Env) : R DV → R (DV × Env)
  | .ok o => .ok (o, Γ)
  | .exc x _ => .exc x Γ
  | .bad => .bad
def kCp (F : FV) : Option (List D × Env) → R (DV × Env)
  | some (ds, Γ) => kC Γ (F ds)
  | none => .bad
theorem callF_ap : callF F ms ps Γ = kCp F (prep Γ ms ps) := by
  unfold callF kCp
  cases prep Γ ms ps with
  | none => rfl
  | some p => obtain ⟨ds, Γ'⟩ := p; dsimp only; unfold kC; cases F ds <;> rfl
theorem kCp_s : kCp F (some (ds, Γ)) = kC Γ (F ds) := rfl
theorem kC_ok : kC Γ (.ok o) = .ok (o, Γ) := rfl
theorem kC_ex : kC Γ (.exc xc Γ') = .exc xc Γ := rfl
def kCd  : R (DV × Env) → R (D × Env)
  | .ok (o, Γ) => .ok (o.d, Γ)
  | .exc x Γ => .exc x Γ
  | .bad => .bad
theorem kCd_ok : kCd  (.ok (o, Γ)) = .ok (o.d, Γ) := rfl
theorem kCd_ex : kCd  (.exc xc Γ) = .exc xc Γ := rfl
def kFr2 (Γ : Env) : DV → R (D × Env)
  | .fr d => .ok (d, Γ)
  | .fz _ => .bad
theorem kFr2_r : kFr2 Γ (.fr d) = .ok (d, Γ) := rfl
def kFr  : R (DV × Env) → R (D × Env)
  | .ok (o, Γ) => kFr2 Γ o
  | .exc x Γ => .exc x Γ
  | .bad => .bad
theorem kFr_ok : kFr  (.ok (o, Γ)) = kFr2 Γ o := rfl
theorem kFr_ex : kFr  (.exc xc Γ) = .exc xc Γ := rfl
def kC1 (F : FV) (ms : List Bool) : R (List PV × Env) → R (D × Env)
  | .ok (ps, Γ) => kCd (callF F ms ps Γ)
  | .exc x Γ => .exc x Γ
  | .bad => .bad
theorem kC1_ok : kC1 F ms (.ok (ps, Γ)) = kCd (callF F ms ps Γ) := rfl
theorem kC1_ex : kC1 F ms (.exc xc Γ) = .exc xc Γ := rfl
theorem eCall_ap : eCall F ms av Γ = kC1 F ms (av Γ) := by
  unfold eCall
  cases av Γ with
  | ok r =>
    obtain ⟨ps, Γ1⟩ := r
    show (callF F ms ps Γ1).bind _ = kCd (callF F ms ps Γ1)
    cases callF F ms ps Γ1 with
    | ok r => obtain ⟨o, Γ2⟩ := r; cases o <;> rfl
    | exc x Γ => rfl
    | bad => rfl
  | exc x Γ => rfl
  | bad => rfl
def kC2 (F : FV) (ms : List Bool) : R (List PV × Env) → R (D × Env)
  | .ok (ps, Γ) => kFr (callF F ms ps Γ)
  | .exc x Γ => .exc x Γ
  | .bad => .bad
theorem kC2_ok : kC2 F ms (.ok (ps, Γ)) = kFr (callF F ms ps Γ) := rfl
theorem kC2_ex : kC2 F ms (.exc xc Γ) = .exc xc Γ := rfl
theorem nCall_ap : nCall F ms av Γ = kC2 F ms (av Γ) := by
  unfold nCall
  cases av Γ with
  | ok r =>
    obtain ⟨ps, Γ1⟩ := r
    show (callF F ms ps Γ1).bind _ = kFr (callF F ms ps Γ1)
    cases callF F ms ps Γ1 with
    | ok r => obtain ⟨o, Γ2⟩ := r; cases o <;> rfl
    | exc x Γ => rfl
    | bad => rfl
  | exc x Γ => rfl
  | bad => rfl
theorem dfz : (DV.fz d).d = d := rfl
theorem dfr : (DV.fr d).d = d := rfl
theorem prep0 : prep Γ [] [] = some ([], Γ) := rfl
def pK (d : D) : Option (List D × Env) → Option (List D × Env)
  | some (ds, Γ) => some (d :: ds, Γ)
  | none => none
theorem pK_s : pK d (some (ds, Γ)) = some (d :: ds, Γ) := rfl
theorem prep_d {m : Bool} : prep Γ (m :: ms) (.pd d :: ps) = pK d (prep Γ ms ps) := by
  show (match prep Γ ms ps with | some (ds, Γ') => some (d :: ds, Γ') | none => none) = _
  cases prep Γ ms ps <;> rfl
def pKt (r : Option (List D × Env)) : Option D → Option (List D × Env)
  | some d => pK d r
  | none => none
theorem prep_t : prep Γ (true :: ms) (.pn i :: ps) = pKt (prep Γ ms ps) (look (get Γ i)) := by
  rw [prep]
  simp only [if_true]
  cases look (get Γ i) <;> cases prep Γ ms ps <;> rfl
theorem pKt_s {r : Option (List D × Env)} : pKt r (some d) = pK d r := rfl
def pKf (Γ : Env) (i : Nat) (ms : List Bool) (ps : List PV) : Option (D × Sl) → Option (List D × Env)
  | some (d, s) => pK d (prep (put Γ i s) ms ps)
  | none => none
theorem prep_f : prep Γ (false :: ms) (.pn i :: ps) = pKf Γ i ms ps (frzS (get Γ i)) := by
  rw [prep]
  simp only [Bool.false_eq_true, if_false]
  cases frzS (get Γ i) with
  | none => rfl
  | some r => obtain ⟨d, s⟩ := r; show (match prep (put Γ i s) ms ps with | some (ds, Γ') => some (d :: ds, Γ') | none => none) = pK d (prep (put Γ i s) ms ps); cases prep (put Γ i s) ms ps <;> rfl
theorem pKf_s {w : Sl} : pKf Γ i ms ps (some (d, w)) = pK d (prep (put Γ i w) ms ps) := rfl
def kMk (c : Nat) : R (List (Nat × D)) → R DV
  | .ok fs => .ok (.fz (.ins c fs))
  | .exc x _ => .exc x []
  | .bad => .bad
theorem mkF_ap {Fi : List D → R (List (Nat × D))} : mkF n Fi ds = kMk n (Fi ds) := by unfold mkF kMk; cases Fi ds <;> rfl
theorem kMk_ok {fs : List (Nat × D)} : kMk n (.ok fs) = .ok (.fz (.ins n fs)) := rfl
theorem kMk_ex : kMk n (.exc xc Γ) = .exc xc [] := rfl
def kFl (n m : Nat) : R (D × Env) → R (D × Env)
  | .ok (d, Γ) => kR Γ (fld n m d)
  | .exc x Γ => .exc x Γ
  | .bad => .bad
theorem kFl_ok : kFl n m (.ok (d, Γ)) = kR Γ (fld n m d) := rfl
theorem kFl_ex : kFl n m (.exc xc Γ) = .exc xc Γ := rfl
theorem eFld_ap : eFld n m e Γ = kFl n m (e Γ) := by
  unfold eFld
  cases e Γ with
  | ok r => obtain ⟨d, Γ'⟩ := r; show (R.of (fld n m d)).bind _ = kR Γ' (fld n m d); cases fld n m d <;> rfl
  | exc x Γ => rfl
  | bad => rfl
theorem fld_s {fs : List (Nat × D)} : fld n m (.ins n fs) = fs.lookup m := if_pos rfl
def kO2 (c : Nat) (F : FV) (Γ : Env) : D → D → R (D × Env)
  | .ins c1 a, .ins c2 b => if c1 = c ∧ c2 = c then kCd (callF F [false, false] [.pd (.ins c1 a), .pd (.ins c2 b)] Γ) else .bad
  | _, _ => .bad
theorem kO2_s {u v : List (Nat × D)} : kO2 n F Γ (.ins n u) (.ins n v) = kCd (callF F [false, false] [.pd (.ins n u), .pd (.ins n v)] Γ) := if_pos ⟨rfl, rfl⟩
def kO1 (n : Nat) (F : FV) (x : D) : R (D × Env) → R (D × Env)
  | .ok (y, Γ) => kO2 n F Γ x y
  | .exc x Γ => .exc x Γ
  | .bad => .bad
theorem kO1_ok : kO1 n F x (.ok (y, Γ)) = kO2 n F Γ x y := rfl
theorem kO1_ex : kO1 n F x (.exc xc Γ) = .exc xc Γ := rfl
def kO0 (n : Nat) (F : FV) (e2 : EV) : R (D × Env) → R (D × Env)
  | .ok (x, Γ) => kO1 n F x (e2 Γ)
  | .exc x Γ => .exc x Γ
  | .bad => .bad
theorem kO0_ok : kO0 n F e2 (.ok (x, Γ)) = kO1 n F x (e2 Γ) := rfl
theorem kO0_ex : kO0 n F e2 (.exc xc Γ) = .exc xc Γ := rfl
theorem bind_cd (r : R (DV × Env)) : (r.bind fun (o, Γ3) => R.ok (o.d, Γ3)) = kCd r := by
  cases r with
  | ok p => rfl
  | exc x Γ => rfl
  | bad => rfl
theorem eOwn2_ap : eOwn2 n F e1 e2 Γ = kO0 n F e2 (e1 Γ) := by
  unfold eOwn2
  cases e1 Γ with
  | ok r =>
    obtain ⟨x, Γ1⟩ := r
    show (e2 Γ1).bind _ = kO1 n F x (e2 Γ1)
    cases e2 Γ1 with
    | ok r =>
      obtain ⟨y, Γ2⟩ := r
      cases x with
      | ins c1 u => cases y with
        | ins c2 v =>
          show (if c1 = n ∧ c2 = n then (callF F [false, false] [.pd (.ins c1 u), .pd (.ins c2 v)] Γ2).bind _ else _) = (if c1 = n ∧ c2 = n then kCd _ else _)
          by_cases h : c1 = n ∧ c2 = n
          · rw [if_pos h, if_pos h, ← bind_cd]
          · rw [if_neg h, if_neg h]
        | _ => rfl
      | _ => rfl
    | exc x Γ => rfl
    | bad => rfl
  | exc x Γ => rfl
  | bad => rfl
def kOC3 (k : D → Bool) (Γ : Env) : DV → R (D × Env)
  | .fz d => kSz (.ok (d, Γ)) (k d)
  | .fr _ => .bad
theorem kOC3_s {kk : D → Bool} : kOC3 kk Γ (.fz d) = kSz (.ok (d, Γ)) (kk d) := rfl
def kOC2 (kk : D → Bool) : R (DV × Env) → R (D × Env)
  | .ok (o, Γ) => kOC3 kk Γ o
  | .exc x Γ => .exc x Γ
  | .bad => .bad
theorem kOC2_ok {kk : D → Bool} : kOC2 kk (.ok (o, Γ)) = kOC3 kk Γ o := rfl
theorem kOC2_ex {kk : D → Bool} : kOC2 kk (.exc xc Γ) = .exc xc Γ := rfl
def kOC1 (c : Nat) (kk : D → Bool) (F : FV) (Γ : Env) : D → R (D × Env)
  | .ins c1 a => if c1 = c then kOC2 kk (callF F [false] [.pd (.ins c1 a)] Γ) else .bad
  | _ => .bad
theorem kOC1_s {kk : D → Bool} {u : List (Nat × D)} : kOC1 n kk F Γ (.ins n u) = kOC2 kk (callF F [false] [.pd (.ins n u)] Γ) := if_pos rfl
def kOC0 (n : Nat) (kk : D → Bool) (F : FV) : R (D × Env) → R (D × Env)
  | .ok (x, Γ) => kOC1 n kk F Γ x
  | .exc x Γ => .exc x Γ
  | .bad => .bad
theorem kOC0_ok {kk : D → Bool} : kOC0 n kk F (.ok (x, Γ)) = kOC1 n kk F Γ x := rfl
theorem kOC0_ex {kk : D → Bool} : kOC0 n kk F (.exc xc Γ) = .exc xc Γ := rfl
theorem eOwnC_ap {kk : D → Bool} : eOwnC n kk F e Γ = kOC0 n kk F (e Γ) := by
  unfold eOwnC
  cases e Γ with
  | ok r =>
    obtain ⟨x, Γ1⟩ := r
    cases x with
    | ins c1 u =>
      show (if c1 = n then (callF F [false] [.pd (.ins c1 u)] Γ1).bind _ else _) = (if c1 = n then kOC2 kk (callF F [false] [.pd (.ins c1 u)] Γ1) else _)
      by_cases h : c1 = n
      · rw [if_pos h, if_pos h]
        cases callF F [false] [.pd (.ins c1 u)] Γ1 with
        | ok r =>
          obtain ⟨o, Γ2⟩ := r
          cases o with
          | fz d => show (if kk d = true then _ else _) = kSz _ (kk d); cases kk d <;> rfl
          | fr d => rfl
        | exc x Γ => rfl
        | bad => rfl
      · rw [if_neg h, if_neg h]
    | _ => rfl
  | exc x Γ => rfl
  | bad => rfl
def kM2 (F : FV) (ms : List Bool) (d : D) : R (List PV × Env) → R (D × Env)
  | .ok (ps, Γ) => kCd (callF F (false :: ms) (.pd d :: ps) Γ)
  | .exc x Γ => .exc x Γ
  | .bad => .bad
theorem kM2_ok : kM2 F ms d (.ok (ps, Γ)) = kCd (callF F (false :: ms) (.pd d :: ps) Γ) := rfl
theorem kM2_ex : kM2 F ms d (.exc xc Γ) = .exc xc Γ := rfl
def kM1 (c : Nat) (F : FV) (ms : List Bool) (av : AV) (Γ : Env) : D → R (D × Env)
  | .ins c1 a => if c1 = c then kM2 F ms (.ins c1 a) (av Γ) else .bad
  | _ => .bad
theorem kM1_s {u : List (Nat × D)} : kM1 n F ms av Γ (.ins n u) = kM2 F ms (.ins n u) (av Γ) := if_pos rfl
def kM0 (n : Nat) (F : FV) (ms : List Bool) (av : AV) : R (D × Env) → R (D × Env)
  | .ok (x, Γ) => kM1 n F ms av Γ x
  | .exc x Γ => .exc x Γ
  | .bad => .bad
theorem kM0_ok : kM0 n F ms av (.ok (x, Γ)) = kM1 n F ms av Γ x := rfl
theorem kM0_ex : kM0 n F ms av (.exc xc Γ) = .exc xc Γ := rfl
theorem eMeth_ap : eMeth n F ms e av Γ = kM0 n F ms av (e Γ) := by
  unfold eMeth
  cases e Γ with
  | ok r =>
    obtain ⟨x, Γ1⟩ := r
    cases x with
    | ins c1 u =>
      show (if c1 = n then (av Γ1).bind _ else _) = (if c1 = n then kM2 F ms (.ins c1 u) (av Γ1) else _)
      by_cases h : c1 = n
      · rw [if_pos h, if_pos h]
        cases av Γ1 with
        | ok r => obtain ⟨ps, Γ2⟩ := r; exact bind_cd _
        | exc x Γ => rfl
        | bad => rfl
      · rw [if_neg h, if_neg h]
    | _ => rfl
  | exc x Γ => rfl
  | bad => rfl
theorem eJs_nil : eJs [] acc Γ = .ok (.str acc, Γ) := rfl
def kJz (r : Env → R (D × Env)) (Γ : Env) : Bool → R (D × Env)
  | true => r Γ
  | false => .bad
theorem kJz_t {r : Env → R (D × Env)} : kJz r Γ true = r Γ := rfl
def kJ2 (l : List EV) (acc : Str) (Γ : Env) : D → R (D × Env)
  | .str y => kJz (eJs l (acc ++ y)) Γ (decide ((acc ++ y).length ≤ seqMax))
  | _ => .bad
theorem kJ2_s : kJ2 l acc Γ (.str st) = kJz (eJs l (acc ++ st)) Γ (decide ((acc ++ st).length ≤ seqMax)) := rfl
def kJ (l : List EV) (acc : Str) : R (D × Env) → R (D × Env)
  | .ok (d, Γ) => kJ2 l acc Γ d
  | .exc x Γ => .exc x Γ
  | .bad => .bad
theorem kJ_ok : kJ l acc (.ok (d, Γ)) = kJ2 l acc Γ d := rfl
theorem kJ_ex : kJ l acc (.exc xc Γ) = .exc xc Γ := rfl
theorem eJs_cons : eJs (e :: l) acc Γ = kJ l acc (e Γ) := by
  rw [eJs]
  cases e Γ with
  | ok r =>
    obtain ⟨d, Γ1⟩ := r
    cases d with
    | str y => show (if (acc ++ y).length ≤ seqMax then _ else _) = kJz _ _ _; by_cases h : (acc ++ y).length ≤ seqMax <;> simp [h, kJz]
    | _ => rfl
  | exc x Γ => rfl
  | bad => rfl
def kSl4 (f : D → Option Int → Option Int → Option D) (lo hi : Option Int) (Γ : Env) : Option D → R (D × Env)
  | some d => kR Γ (f d lo hi)
  | none => .bad
theorem kSl4_s {fs : D → Option Int → Option Int → Option D} {lo hi : Option Int} : kSl4 fs lo hi Γ (some d) = kR Γ (fs d lo hi) := rfl
def kSl3 (f : D → Option Int → Option Int → Option D) (p : PV) (lo : Option Int) : R (Option Int × Env) → R (D × Env)
  | .ok (hi, Γ) => kSl4 f lo hi Γ (rd Γ p)
  | .exc x Γ => .exc x Γ
  | .bad => .bad
theorem kSl3_s {fs : D → Option Int → Option Int → Option D} {lo hi : Option Int} : kSl3 fs p lo (.ok (hi, Γ)) = kSl4 fs lo hi Γ (rd Γ p) := rfl
def kSl2 (f : D → Option Int → Option Int → Option D) (p : PV) (oh : Option QV) : R (Option Int × Env) → R (D × Env)
  | .ok (lo, Γ) => kSl3 f p lo (oPart oh Γ)
  | .exc x Γ => .exc x Γ
  | .bad => .bad
theorem kSl2_s {fs : D → Option Int → Option Int → Option D} {lo : Option Int} {oh : Option QV} : kSl2 fs p oh (.ok (lo, Γ)) = kSl3 fs p lo (oPart oh Γ) := rfl
def kSl1 (f : D → Option Int → Option Int → Option D) (ol oh : Option QV) : R (PV × Env) → R (D × Env)
  | .ok (p, Γ) => kSl2 f p oh (oPart ol Γ)
  | .exc x Γ => .exc x Γ
  | .bad => .bad
theorem kSl1_s {fs : D → Option Int → Option Int → Option D} {ol oh : Option QV} : kSl1 fs ol oh (.ok (p, Γ)) = kSl2 fs p oh (oPart ol Γ) := rfl
theorem eSl_ap {fs : D → Option Int → Option Int → Option D} {ol oh : Option QV} : eSl fs a ol oh Γ = kSl1 fs ol oh (a Γ) := by
  unfold eSl
  cases a Γ with
  | ok r =>
    obtain ⟨p, Γ1⟩ := r
    show (oPart ol Γ1).bind _ = kSl2 fs p oh (oPart ol Γ1)
    cases oPart ol Γ1 with
    | ok r =>
      obtain ⟨lo, Γ2⟩ := r
      show (oPart oh Γ2).bind _ = kSl3 fs p lo (oPart oh Γ2)
      cases oPart oh Γ2 with
      | ok r =>
        obtain ⟨hi, Γ3⟩ := r
        show (match rd Γ3 p with | some d => (R.of (fs d lo hi)).bind _ | none => _) = kSl4 fs lo hi Γ3 (rd Γ3 p)
        cases rd Γ3 p with
        | none => rfl
        | some d => show (R.of (fs d lo hi)).bind _ = kR Γ3 (fs d lo hi); cases fs d lo hi <;> rfl
      | exc x Γ => rfl
      | bad => rfl
    | exc x Γ => rfl
    | bad => rfl
  | exc x Γ => rfl
  | bad => rfl
theorem oP_n : oPart none Γ = .ok (none, Γ) := rfl
def kOp2 (Γ : Env) : Option D → R (Option Int × Env)
  | some (.int i) => .ok (some i, Γ)
  | _ => .bad
theorem kOp2_s {v : Int} : kOp2 Γ (some (.int v)) = .ok (some v, Γ) := rfl
def kOp : R (PV × Env) → R (Option Int × Env)
  | .ok (p, Γ) => kOp2 Γ (rd Γ p)
  | .exc x Γ => .exc x Γ
  | .bad => .bad
theorem kOp_s : kOp (.ok (p, Γ)) = kOp2 Γ (rd Γ p) := rfl
theorem oP_s : oPart (some a) Γ = kOp (a Γ) := by
  show (a Γ).bind _ = kOp (a Γ)
  cases a Γ with
  | ok r => obtain ⟨p, Γ1⟩ := r; show (match rd Γ1 p with | some (.int i) => _ | _ => _) = kOp2 Γ1 (rd Γ1 p); cases rd Γ1 p with
    | none => rfl
    | some d => cases d <;> rfl
  | exc x Γ => rfl
  | bad => rfl
def kLc2 (Γ : Env) (vs : List Nat) : Option (List D × Env) → R (D × Env)
  | some (l, Γ2) => .ok (.lst l, restG Γ Γ2 vs)
  | none => .bad
theorem kLc2_s {vs : List Nat} : kLc2 Γ vs (some (ds, Γ1)) = .ok (.lst ds, restG Γ Γ1 vs) := rfl
def kLc1 (vs : List Nat) (g : GV) (t : TV) (e : EV) (ds : List D) (Γ : Env) : Bool → R (D × Env)
  | true => kLc2 Γ vs (lcL g t e vs ds (wipeG Γ vs) 0)
  | false => .bad
theorem kLc1_t {vs : List Nat} : kLc1 vs g t e ds Γ true = kLc2 Γ vs (lcL g t e vs ds (wipeG Γ vs) 0) := rfl
def kLc (vs : List Nat) (g : GV) (t : TV) (e : EV) : R (List D × Env) → R (D × Env)
  | .ok (ds, Γ) => kLc1 vs g t e ds Γ (vs.all fun i => stb (get Γ i))
  | .exc x Γ => .exc x Γ
  | .bad => .bad
theorem kLc_ok {vs : List Nat} : kLc vs g t e (.ok (ds, Γ)) = kLc1 vs g t e ds Γ (vs.all fun i => stb (get Γ i)) := rfl
theorem eLc_ap {vs : List Nat} : eLc vs lv g t e Γ = kLc vs g t e (lv Γ) := by
  unfold eLc
  cases lv Γ with
  | ok r =>
    obtain ⟨ds, Γ1⟩ := r
    show (if (vs.all fun i => stb (get Γ1 i)) = true then _ else _) = kLc1 vs g t e ds Γ1 (vs.all fun i => stb (get Γ1 i))
    cases vs.all fun i => stb (get Γ1 i) with
    | false => rfl
    | true => show (match lcL g t e vs ds (wipeG Γ1 vs) 0 with | some (l, Γ2) => _ | none => _) = kLc2 Γ1 vs _; cases lcL g t e vs ds (wipeG Γ1 vs) 0 <;> rfl
  | exc x Γ => rfl
  | bad => rfl
def kIs2 (Γ : Env) : Option (List D) → R (List D × Env)
  | some ds => .ok (ds, Γ)
  | none => .bad
theorem kIs2_s : kIs2 Γ (some ds) = .ok (ds, Γ) := rfl
def kIs : R (D × Env) → R (List D × Env)
  | .ok (d, Γ) => kIs2 Γ (items d)
  | .exc x Γ => .exc x Γ
  | .bad => .bad
theorem kIs_ok : kIs (.ok (d, Γ)) = kIs2 Γ (items d) := rfl
theorem iSeq_ap : iSeq e Γ = kIs (e Γ) := by
  unfold iSeq
  cases e Γ with
  | ok r => obtain ⟨d, Γ1⟩ := r; show (R.of (items d)).bind _ = kIs2 Γ1 (items d); cases items d <;> rfl
  | exc x Γ => rfl
  | bad => rfl
theorem it_l : items (.lst ds) = some ds := rfl
theorem it_t : items (.tup ds) = some ds := rfl
def kIn (i : Nat) (Γ : Env) : Option (D × Sl) → R (List D × Env)
  | some (d, s) => kIs2 (put Γ i s) (items d)
  | none => .bad
theorem kIn_s {w : Sl} : kIn i Γ (some (d, w)) = kIs2 (put Γ i w) (items d) := rfl
theorem iN_ap : iN i Γ = kIn i Γ (stay (get Γ i)) := by
  unfold iN
  cases stay (get Γ i) with
  | none => rfl
  | some r => obtain ⟨d, s⟩ := r; show (R.of (items d)).bind _ = kIs2 _ (items d); cases items d <;> rfl
def kRg2 (Γ : Env) : Option D → R (List D × Env)
  | some (.int n) => if rngB n then .ok (rngL 0 n.toNat, Γ) else .bad
  | _ => .bad
theorem kRg2_s {v : Int} (h : rngB v = true) : kRg2 Γ (some (.int v)) = .ok (rngL 0 v.toNat, Γ) := if_pos h
def kRg : R (PV × Env) → R (List D × Env)
  | .ok (p, Γ) => kRg2 Γ (rd Γ p)
  | .exc x Γ => .exc x Γ
  | .bad => .bad
theorem kRg_ok : kRg (.ok (p, Γ)) = kRg2 Γ (rd Γ p) := rfl
theorem iRg1_ap : iRg1 a Γ = kRg (a Γ) := by
  unfold iRg1
  cases a Γ with
  | ok r => obtain ⟨p, Γ1⟩ := r; show (match rd Γ1 p with | some (.int n) => _ | _ => _) = kRg2 Γ1 (rd Γ1 p); cases rd Γ1 p with
    | none => rfl
    | some d => cases d <;> rfl
  | exc x Γ => rfl
  | bad => rfl
def kRh3 (Γ : Env) : Option D → Option D → R (List D × Env)
  | some (.int m), some (.int n) => if rngB m && rngB n then .ok (rngL m (n - m).toNat, Γ) else .bad
  | _, _ => .bad
theorem kRh3_s {u v : Int} (h : (rngB u && rngB v) = true) : kRh3 Γ (some (.int u)) (some (.int v)) = .ok (rngL u (v - u).toNat, Γ) := if_pos h
def kRh2 (p : PV) : R (PV × Env) → R (List D × Env)
  | .ok (q, Γ) => kRh3 Γ (rd Γ p) (rd Γ q)
  | .exc x Γ => .exc x Γ
  | .bad => .bad
theorem kRh2_ok : kRh2 p (.ok (q, Γ)) = kRh3 Γ (rd Γ p) (rd Γ q) := rfl
def kRh1 (b : QV) : R (PV × Env) → R (List D × Env)
  | .ok (p, Γ) => kRh2 p (b Γ)
  | .exc x Γ => .exc x Γ
  | .bad => .bad
theorem kRh1_ok : kRh1 b (.ok (p, Γ)) = kRh2 p (b Γ) := rfl
theorem iRg2_ap : iRg2 a b Γ = kRh1 b (a Γ) := by
  unfold iRg2
  cases a Γ with
  | ok r =>
    obtain ⟨p, Γ1⟩ := r
    show (b Γ1).bind _ = kRh2 p (b Γ1)
    cases b Γ1 with
    | ok r =>
      obtain ⟨q, Γ2⟩ := r
      show (match rd Γ2 p, rd Γ2 q with | some (.int m), some (.int n) => _ | _, _ => _) = kRh3 Γ2 (rd Γ2 p) (rd Γ2 q)
      cases rd Γ2 p with
      | none => cases rd Γ2 q <;> rfl
      | some d => cases rd Γ2 q with
        | none => cases d <;> rfl
        | some d2 => cases d <;> cases d2 <;> rfl
    | exc x Γ => rfl
    | bad => rfl
  | exc x Γ => rfl
  | bad => rfl
theorem sNext_ap : sNext Γ = .ok (.nx, Γ) := rfl
theorem sBrk_ap : sBrk Γ = .ok (.brk, Γ) := rfl
theorem sCnt_ap : sCnt Γ = .ok (.cnt, Γ) := rfl
theorem sRetN_ap : sRetN Γ = .ok (.ret (.fz .non), Γ) := rfl
def kS (s : SV) : R (Ctl × Env) → R (Ctl × Env)
  | .ok (.nx, Γ) => s Γ
  | .ok (c, Γ) => .ok (c, Γ)
  | .exc x Γ => .exc x Γ
  | .bad => .bad
theorem kS_nx : kS s (.ok (.nx, Γ)) = s Γ := rfl
theorem kS_rt : kS s (.ok (.ret o, Γ)) = .ok (.ret o, Γ) := rfl
theorem kS_bk : kS s (.ok (.brk, Γ)) = .ok (.brk, Γ) := rfl
theorem kS_ct : kS s (.ok (.cnt, Γ)) = .ok (.cnt, Γ) := rfl
theorem kS_ex : kS s (.exc xc Γ) = .exc xc Γ := rfl
theorem sSeq_ap : sSeq s1 s2 Γ = kS s2 (s1 Γ) := by
  unfold sSeq
  cases s1 Γ with
  | ok r => obtain ⟨c, Γ1⟩ := r; cases c <;> rfl
  | exc x Γ => rfl
  | bad => rfl
def kSet (i : Nat) : R (D × Env) → R (Ctl × Env)
  | .ok (d, Γ) => .ok (.nx, put Γ i (.val d))
  | .exc x Γ => .exc x Γ
  | .bad => .bad
theorem kSet_ok : kSet i (.ok (d, Γ)) = .ok (.nx, put Γ i (.val d)) := rfl
theorem kSet_ex : kSet i (.exc xc Γ) = .exc xc Γ := rfl
theorem sSet_ap : sSet i e Γ = kSet i (e Γ) := by
  unfold sSet
  cases e Γ <;> rfl
def kOwn (i : Nat) : R (D × Env) → R (Ctl × Env)
  | .ok (d, Γ) => .ok (.nx, put Γ i (.own d))
  | .exc x Γ => .exc x Γ
  | .bad => .bad
theorem kOwn_ok : kOwn i (.ok (d, Γ)) = .ok (.nx, put Γ i (.own d)) := rfl
theorem kOwn_ex : kOwn i (.exc xc Γ) = .exc xc Γ := rfl
theorem sOwn_ap : sOwn i e Γ = kOwn i (e Γ) := by
  unfold sOwn
  cases e Γ <;> rfl
def kDrp  : R (D × Env) → R (Ctl × Env)
  | .ok (d, Γ) => .ok (.nx, Γ)
  | .exc x Γ => .exc x Γ
  | .bad => .bad
theorem kDrp_ok : kDrp  (.ok (d, Γ)) = .ok (.nx, Γ) := rfl
theorem kDrp_ex : kDrp  (.exc xc Γ) = .exc xc Γ := rfl
theorem sDrop_ap : sDrop  e Γ = kDrp  (e Γ) := by
  unfold sDrop
  cases e Γ <;> rfl
def kRet  : R (D × Env) → R (Ctl × Env)
  | .ok (d, Γ) => .ok (.ret (.fz d), Γ)
  | .exc x Γ => .exc x Γ
  | .bad => .bad
theorem kRet_ok : kRet  (.ok (d, Γ)) = .ok (.ret (.fz d), Γ) := rfl
theorem kRet_ex : kRet  (.exc xc Γ) = .exc xc Γ := rfl
theorem sRet_ap : sRet  e Γ = kRet  (e Γ) := by
  unfold sRet
  cases e Γ <;> rfl
def kReO  : R (D × Env) → R (Ctl × Env)
  | .ok (d, Γ) => .ok (.ret (.fr d), Γ)
  | .exc x Γ => .exc x Γ
  | .bad => .bad
theorem kReO_ok : kReO  (.ok (d, Γ)) = .ok (.ret (.fr d), Γ) := rfl
theorem kReO_ex : kReO  (.exc xc Γ) = .exc xc Γ := rfl
theorem sRetO_ap : sRetO  e Γ = kReO  (e Γ) := by
  unfold sRetO
  cases e Γ <;> rfl
def kRx (Γ : Env) : Sl → R (Ctl × Env)
  | .own d => .ok (.ret (.fr d), Γ)
  | .val d => .ok (.ret (.fz d), Γ)
  | _ => .bad
theorem sRetX_ap : sRetX i Γ = kRx Γ (get Γ i) := by unfold sRetX kRx; cases get Γ i <;> rfl
theorem kRx_o : kRx Γ (.own d) = .ok (.ret (.fr d), Γ) := rfl
theorem kRx_v : kRx Γ (.val d) = .ok (.ret (.fz d), Γ) := rfl
def kAp3 (Γ : Env) (i : Nat) (xs : List D) (d : D) : Bool → R (Ctl × Env)
  | true => .ok (.nx, put Γ i (.own (.lst (xs ++ [d]))))
  | false => .bad
theorem kAp3_t : kAp3 Γ i ds d true = .ok (.nx, put Γ i (.own (.lst (ds ++ [d])))) := rfl
def kAp2 (Γ : Env) (i : Nat) (d : D) : Sl → R (Ctl × Env)
  | .own (.lst xs) => kAp3 Γ i xs d (decide (xs.length < seqMax))
  | _ => .bad
theorem kAp2_o : kAp2 Γ i d (.own (.lst ds)) = kAp3 Γ i ds d (decide (ds.length < seqMax)) := rfl
def kAp1 (i : Nat) : R (D × Env) → R (Ctl × Env)
  | .ok (d, Γ) => kAp2 Γ i d (get Γ i)
  | .exc x Γ => .exc x Γ
  | .bad => .bad
theorem kAp1_ok : kAp1 i (.ok (d, Γ)) = kAp2 Γ i d (get Γ i) := rfl
def kAp0 (i : Nat) (e : EV) (Γ : Env) : Option D → R (Ctl × Env)
  | some (.lst _) => kAp1 i (e Γ)
  | _ => .bad
theorem kAp0_s : kAp0 i e Γ (some (.lst ds)) = kAp1 i (e Γ) := rfl
theorem sApp_ap : sApp i e Γ = kAp0 i e Γ (look (get Γ i)) := by
  unfold sApp
  cases look (get Γ i) with
  | none => rfl
  | some d => cases d with
    | lst xs =>
      show (e Γ).bind _ = kAp1 i (e Γ)
      cases e Γ with
      | ok r =>
        obtain ⟨d, Γ1⟩ := r
        show (match get Γ1 i with | .own (.lst xs) => _ | _ => _) = kAp2 Γ1 i d (get Γ1 i)
        cases get Γ1 i with
        | own z => cases z with
          | lst xs => show (if xs.length < seqMax then _ else _) = kAp3 _ _ _ _ _; by_cases h : xs.length < seqMax <;> simp [h, kAp3]
          | _ => rfl
        | _ => rfl
      | exc x Γ => rfl
      | bad => rfl
    | _ => rfl
def kPi4 (Γ : Env) (i : Nat) (xs : List D) (d : D) : Option Nat → R (Ctl × Env)
  | some m => .ok (.nx, put Γ i (.own (.lst (xs.set m d))))
  | none => .bad
theorem kPi4_s : kPi4 Γ i ds d (some m) = .ok (.nx, put Γ i (.own (.lst (ds.set m d)))) := rfl
def kPi3 (Γ : Env) (i : Nat) (d : D) : Option D → Sl → R (Ctl × Env)
  | some (.int k), .own (.lst xs) => kPi4 Γ i xs d (ixN xs.length k)
  | _, _ => .bad
theorem kPi3_s {v : Int} : kPi3 Γ i d (some (.int v)) (.own (.lst ds)) = kPi4 Γ i ds d (ixN ds.length v) := rfl
def kPi2 (i : Nat) (d : D) : R (PV × Env) → R (Ctl × Env)
  | .ok (p, Γ) => kPi3 Γ i d (rd Γ p) (get Γ i)
  | .exc x Γ => .exc x Γ
  | .bad => .bad
theorem kPi2_ok : kPi2 i d (.ok (p, Γ)) = kPi3 Γ i d (rd Γ p) (get Γ i) := rfl
def kPi1 (i : Nat) (b : QV) (d : D) (Γ : Env) : Option D → R (Ctl × Env)
  | some _ => kPi2 i d (b Γ)
  | none => .bad
theorem kPi1_s : kPi1 i b d Γ (some x) = kPi2 i d (b Γ) := rfl
def kPi0 (i : Nat) (b : QV) : R (D × Env) → R (Ctl × Env)
  | .ok (d, Γ) => kPi1 i b d Γ (look (get Γ i))
  | .exc x Γ => .exc x Γ
  | .bad => .bad
theorem kPi0_ok : kPi0 i b (.ok (d, Γ)) = kPi1 i b d Γ (look (get Γ i)) := rfl
theorem sPutI_ap : sPutI i b e Γ = kPi0 i b (e Γ) := by
  unfold sPutI
  cases e Γ with
  | ok r =>
    obtain ⟨d, Γ1⟩ := r
    show (match look (get Γ1 i) with | some _ => (b Γ1).bind _ | none => _) = kPi1 i b d Γ1 (look (get Γ1 i))
    cases look (get Γ1 i) with
    | none => rfl
    | some x =>
      show (b Γ1).bind _ = kPi2 i d (b Γ1)
      cases b Γ1 with
      | ok r =>
        obtain ⟨p, Γ2⟩ := r
        show (match rd Γ2 p, get Γ2 i with | some (.int k), .own (.lst xs) => _ | _, _ => _) = kPi3 Γ2 i d (rd Γ2 p) (get Γ2 i)
        cases rd Γ2 p with
        | none => rfl
        | some z => cases z with
          | int v => cases get Γ2 i with
            | own w => cases w with
              | lst xs => show (match ixN xs.length v with | some m => _ | none => _) = kPi4 _ _ _ _ (ixN xs.length v); cases ixN xs.length v <;> rfl
              | _ => rfl
            | _ => rfl
          | _ => rfl
      | exc x Γ => rfl
      | bad => rfl
  | exc x Γ => rfl
  | bad => rfl
def kPr2 (i j : Nat) (x : D) : R (D × Env) → R (Ctl × Env)
  | .ok (y, Γ) => .ok (.nx, put (put Γ i (.val x)) j (.val y))
  | .exc x Γ => .exc x Γ
  | .bad => .bad
theorem kPr2_ok : kPr2 i j x (.ok (y, Γ)) = .ok (.nx, put (put Γ i (.val x)) j (.val y)) := rfl
def kPr1 (i j : Nat) (e2 : EV) : R (D × Env) → R (Ctl × Env)
  | .ok (x, Γ) => kPr2 i j x (e2 Γ)
  | .exc x Γ => .exc x Γ
  | .bad => .bad
theorem kPr1_ok : kPr1 i j e2 (.ok (x, Γ)) = kPr2 i j x (e2 Γ) := rfl
theorem sPar_ap : sPar i j e1 e2 Γ = kPr1 i j e2 (e1 Γ) := by
  unfold sPar
  cases e1 Γ with
  | ok r => obtain ⟨x, Γ1⟩ := r; show (e2 Γ1).bind _ = kPr2 i j x (e2 Γ1); cases e2 Γ1 <;> rfl
  | exc x Γ => rfl
  | bad => rfl
def kAs2 : Option Env → R (Ctl × Env)
  | some Γ => .ok (.nx, Γ)
  | none => .bad
theorem kAs2_s : kAs2 (some Γ) = .ok (.nx, Γ) := rfl
def kAs (g : GV) : R (D × Env) → R (Ctl × Env)
  | .ok (d, Γ) => kAs2 (g d Γ)
  | .exc x Γ => .exc x Γ
  | .bad => .bad
theorem kAs_ok : kAs g (.ok (d, Γ)) = kAs2 (g d Γ) := rfl
theorem sAsg_ap : sAsg g e Γ = kAs g (e Γ) := by
  unfold sAsg
  cases e Γ with
  | ok r => obtain ⟨d, Γ1⟩ := r; show (match g d Γ1 with | some _ => _ | none => _) = kAs2 (g d Γ1); cases g d Γ1 <;> rfl
  | exc x Γ => rfl
  | bad => rfl
theorem gN_ap : gN i d Γ = some (put Γ i (.val d)) := rfl
theorem gT_t {l : List GV} : gT l (.tup ds) Γ = gs l ds Γ := rfl
theorem gT_l {l : List GV} : gT l (.lst ds) Γ = gs l ds Γ := rfl
theorem gs_nil : gs [] [] Γ = some Γ := rfl
def kGs (l : List GV) (ds : List D) : Option Env → Option Env
  | some Γ => gs l ds Γ
  | none => none
theorem kGs_s {l : List GV} : kGs l ds (some Γ) = gs l ds Γ := rfl
theorem gs_cons {l : List GV} : gs (g :: l) (d :: ds) Γ = kGs l ds (g d Γ) := by
  show (match g d Γ with | some Γ' => gs l ds Γ' | none => none) = _
  cases g d Γ <;> rfl
def kFor (g : GV) (s : SV) : R (List D × Env) → R (Ctl × Env)
  | .ok (ds, Γ) => forL g s ds Γ
  | .exc x Γ => .exc x Γ
  | .bad => .bad
theorem kFor_ok : kFor g s (.ok (ds, Γ)) = forL g s ds Γ := rfl
theorem sFor_ap : sFor g lv s Γ = kFor g s (lv Γ) := by unfold sFor; cases lv Γ <;> rfl
theorem sWhl_ap : sWhl n t s Γ = whl t s n Γ := rfl
def kFd2 (c f : Nat) (d : D) (Γ : Env) : Sl → R (Ctl × Env)
  | .slf c' fs => if c' = c ∧ fs.length < 900 then .ok (.nx, put Γ 0 (.slf c' (putFd f d fs))) else .bad
  | _ => .bad
theorem kFd2_s {fs : List (Nat × D)} (h : fs.length < 900) : kFd2 n m d Γ (.slf n fs) = .ok (.nx, put Γ 0 (.slf n (putFd m d fs))) := if_pos ⟨rfl, h⟩
def kFd (c f : Nat) : R (D × Env) → R (Ctl × Env)
  | .ok (d, Γ) => kFd2 c f d Γ (get Γ 0)
  | .exc x Γ => .exc x Γ
  | .bad => .bad
theorem kFd_ok : kFd n m (.ok (d, Γ)) = kFd2 n m d Γ (get Γ 0) := rfl
theorem sFld_ap : sFld n m e Γ = kFd n m (e Γ) := by
  unfold sFld
  cases e Γ with
  | ok r => obtain ⟨d, Γ1⟩ := r; show (match get Γ1 0 with | .slf c' fs => _ | _ => _) = kFd2 n m d Γ1 (get Γ1 0); cases get Γ1 0 <;> rfl
  | exc x Γ => rfl
  | bad => rfl
def kRs (c : Nat) (fs : List Nat) : R (List D × Env) → R (Ctl × Env)
  | .ok (ds, Γ) => .exc ⟨c, fs.zip ds⟩ Γ
  | .exc x Γ => .exc x Γ
  | .bad => .bad
theorem kRs_ok {fs : List Nat} : kRs n fs (.ok (ds, Γ)) = .exc ⟨n, fs.zip ds⟩ Γ := rfl
theorem sRaise_ap {fs : List Nat} : sRaise n fs lv Γ = kRs n fs (lv Γ) := by unfold sRaise; cases lv Γ <;> rfl
def kSu (i : Nat) : R (Ctl × Env) → R (Ctl × Env)
  | .ok (c, Γ) => .ok (c, put Γ i .emp)
  | _ => .bad
theorem kSu_ok : kSu i (.ok (ct, Γ)) = .ok (ct, put Γ i .emp) := rfl
def kTr3 (i : Nat) (s : SV) (Γ : Env) (x : Xc) : Bool → R (Ctl × Env)
  | true => kSu i (s (put Γ i (.exn x)))
  | false => .bad
theorem kTr3_t : kTr3 i s Γ xc true = kSu i (s (put Γ i (.exn xc))) := rfl
def kTr2 (i : Nat) (s : SV) (Γ : Env) (x : Xc) : Option Bool → R (Ctl × Env)
  | some true => kTr3 i s Γ x (decide (i < Γ.length) && noX Γ)
  | some false => .exc x Γ
  | none => .bad
theorem kTr2_t : kTr2 i s Γ xc (some true) = kTr3 i s Γ xc (decide (i < Γ.length) && noX Γ) := rfl
theorem kTr2_f : kTr2 i s Γ xc (some false) = .exc xc Γ := rfl
def kTr (i : Nat) (ex : Nat → Option Bool) (s : SV) : R (Ctl × Env) → R (Ctl × Env)
  | .exc x Γ => kTr2 i s Γ x (ex x.c)
  | r => r
theorem kTr_ok {ex : Nat → Option Bool} {r : Ctl × Env} : kTr i ex s (.ok r) = .ok r := rfl
theorem kTr_ex {ex : Nat → Option Bool} : kTr i ex s (.exc xc Γ) = kTr2 i s Γ xc (ex xc.c) := rfl
theorem sTry_ap {ex : Nat → Option Bool} : sTry i ex s1 s2 Γ = kTr i ex s2 (s1 Γ) := by
  unfold sTry
  cases s1 Γ with
  | ok r => rfl
  | bad => rfl
  | exc x Γ1 =>
    show (match ex x.c with | some true => _ | some false => _ | none => _) = kTr2 i s2 Γ1 x (ex x.c)
    cases ex x.c with
    | none => rfl
    | some b => cases b with
      | false => rfl
      | true =>
        show (if i < Γ1.length ∧ noX Γ1 = true then _ else _) = kTr3 i s2 Γ1 x (decide (i < Γ1.length) && noX Γ1)
        by_cases h : i < Γ1.length ∧ noX Γ1 = true
        · rw [if_pos h, h.2, decide_eq_true h.1]
          show (match s2 (put Γ1 i (.exn x)) with | .ok (c, Γ2) => _ | _ => _) = kSu i (s2 (put Γ1 i (.exn x)))
          cases s2 (put Γ1 i (.exn x)) with
          | ok r => rfl
          | exc _ _ => rfl
          | bad => rfl
        · rw [if_neg h]
          have : (decide (i < Γ1.length) && noX Γ1) = false := by
            by_cases h1 : i < Γ1.length
            · cases h2 : noX Γ1 with
              | false => rw [Bool.and_false]
              | true => exact absurd ⟨h1, h2⟩ h
            · rw [decide_eq_false h1, Bool.false_and]
          rw [this]; rfl
def kIE2 (Γ : Env) : Option Bool → R (D × Env)
  | some b => .ok (.bl b, Γ)
  | none => .bad
theorem kIE2_s : kIE2 Γ (some k) = .ok (.bl k, Γ) := rfl
def kIE (is : Nat → Option Bool) (Γ : Env) : Sl → R (D × Env)
  | .exn x => kIE2 Γ (if x.fs.isEmpty then is x.c else none)
  | _ => .bad
theorem kIE_s {is : Nat → Option Bool} : kIE is Γ (.exn ⟨n, []⟩) = kIE2 Γ (is n) := rfl
theorem eIsE_ap {is : Nat → Option Bool} : eIsE i is Γ = kIE is Γ (get Γ i) := by
  unfold eIsE kIE
  cases get Γ i with
  | exn x => dsimp only; cases (if x.fs.isEmpty = true then is x.c else none) <;> rfl
  | _ => rfl
def kXf (cs : List Nat) (f : Nat) (Γ : Env) : Sl → R (D × Env)
  | .exn x => kR Γ (if cs.contains x.c then x.fs.lookup f else none)
  | _ => .bad
theorem kXf_s {cs : List Nat} : kXf cs n Γ (.exn xc) = kR Γ (if cs.contains xc.c then xc.fs.lookup n else none) := rfl
theorem eXf_ap {cs : List Nat} : eXf cs i n Γ = kXf cs n Γ (get Γ i) := by
  unfold eXf kXf
  cases get Γ i with
  | exn x => dsimp only; cases (if cs.contains x.c = true then x.fs.lookup n else none) <;> rfl
  | _ => rfl
theorem runF_ap (h : ds.length = ms.length) : runF ms n s ds = fin (s (ins0 ms ds ++ pad n)) := if_pos h
theorem runI_ap (h : ds.length = ms.length) : runI m ms n s ds = finI m (s (.slf m [] :: (ins0 ms ds ++ pad n))) := if_pos h
theorem fin_nx : fin (.ok (.nx, Γ)) = .ok (.fz .non) := rfl
theorem fin_rt : fin (.ok (.ret o, Γ)) = .ok o := rfl
theorem fin_ex : fin (.exc xc Γ) = .exc xc [] := rfl
theorem finI_ex : finI n (.exc xc Γ) = .exc xc [] := rfl
def kFi (c : Nat) : Sl → R (List (Nat × D))
  | .slf c' fs => if c' = c then .ok fs else .bad
  | _ => .bad
theorem kFi_s {fs : List (Nat × D)} : kFi n (.slf n fs) = .ok fs := if_pos rfl
theorem finI_nx : finI n (.ok (.nx, Γ)) = kFi n (get Γ 0) := by
  show (match get Γ 0 with | .slf c' fs => _ | _ => _) = _
  cases get Γ 0 <;> rfl
theorem app_nil {α : Type} (l : List α) : [] ++ l = l := rfl
theorem app_cons {α : Type} (x : α) (l r : List α) : (x :: l) ++ r = x :: (l ++ r) := rfl
theorem ins0_nil : ins0 [] [] = [] := rfl
theorem ins0_cons {b : Bool} : ins0 (b :: ms) (d :: ds) = inSl b d :: ins0 ms ds := rfl
theorem inSl_f : inSl false d = .val d := by cases d <;> rfl
theorem inSl_l : inSl true (.lst ds) = .bor (.lst ds) := rfl
theorem inSl_i {v : Int} {b : Bool} : inSl b (.int v) = .val (.int v) := by cases b <;> rfl
theorem inSl_b {v : Bool} {b : Bool} : inSl b (.bl v) = .val (.bl v) := by cases b <;> rfl
theorem inSl_s {b : Bool} : inSl b (.str st) = .val (.str st) := by cases b <;> rfl
theorem inSl_n {b : Bool} : inSl b .non = .val .non := by cases b <;> rfl
theorem inSl_t {b : Bool} : inSl b (.tup ds) = .val (.tup ds) := by cases b <;> rfl
theorem inSl_c {b : Bool} {v : List Int} : inSl b (.scr v) = .val (.scr v) := by cases b <;> rfl
theorem inSl_o {b : Bool} {fs : List (Nat × D)} : inSl b (.ins n fs) = .val (.ins n fs) := by cases b <;> rfl
theorem pad_0 : pad 0 = [] := rfl
theorem pad_1 : pad (n + 1) = .emp :: pad n := rfl
theorem get_0 {w : Sl} : get (w :: Γ) 0 = w := rfl
theorem get_1 {w : Sl} : get (w :: Γ) (n + 1) = get Γ n := rfl
theorem put_0 {w v : Sl} : put (w :: Γ) 0 v = v :: Γ := rfl
theorem put_1 {w v : Sl} : put (w :: Γ) (n + 1) v = w :: put Γ n v := rfl
theorem look_v : look (.val d) = some d := rfl
theorem look_o : look (.own d) = some d := rfl
theorem look_b : look (.bor d) = some d := rfl
theorem frz_v : frzS (.val d) = some (d, .val d) := rfl
theorem frz_o : frzS (.own d) = some (d, .val d) := rfl
theorem stay_v : stay (.val d) = some (d, .val d) := rfl
theorem stay_o : stay (.own d) = some (d, .val d) := rfl
theorem stay_b : stay (.bor d) = some (d, .bor d) := rfl
theorem rd_d : rd Γ (.pd d) = some d := rfl
theorem rd_n : rd Γ (.pn i) = look (get Γ i) := rfl
theorem rds_nil : rds Γ [] = some [] := rfl
def kRd : Option D → Option (List D) → Option (List D)
  | some d, some ds => some (d :: ds)
  | _, _ => none
theorem kRd_s : kRd (some d) (some ds) = some (d :: ds) := rfl
theorem rds_cons : rds Γ (p :: ps) = kRd (rd Γ p) (rds Γ ps) := by
  show (match rd Γ p, rds Γ ps with | some d, some ds => some (d :: ds) | _, _ => none) = _
  cases rd Γ p <;> cases rds Γ ps <;> rfl
theorem wipe_nil : wipeG Γ [] = Γ := rfl
theorem wipe_cons {vs : List Nat} : wipeG Γ (i :: vs) = put (wipeG Γ vs) i .emp := rfl
theorem rest_nil : restG Γ Γ1 [] = Γ1 := rfl
theorem rest_cons {vs : List Nat} : restG Γ Γ1 (i :: vs) = put (restG Γ Γ1 vs) i (get Γ i) := rfl
theorem all_nil {α : Type} {u : α → Bool} : List.all [] u = true := rfl
theorem all_cons {α : Type} {u : α → Bool} {v : α} {l : List α} : List.all (v :: l) u = (u v && List.all l u) := rfl
theorem stb_e : stb .emp = true := rfl
theorem stb_v : stb (.val d) = true := rfl
theorem stb_b : stb (.bor d) = true := rfl
theorem noX_nil : noX [] = true := rfl
theorem noX_e : noX (.emp :: Γ) = noX Γ := rfl
theorem noX_v : noX (.val d :: Γ) = noX Γ := rfl
theorem noX_o : noX (.own d :: Γ) = noX Γ := rfl
theorem noX_b : noX (.bor d :: Γ) = noX Γ := rfl
theorem true_and' {b : Bool} : (true && b) = b := rfl
theorem tbl_ap {l : List (Nat × Bool)} : tbl l n = l.lookup n := rfl
theorem putFd_nil : putFd n d [] = [(n, d)] := rfl
theorem putFd_cons {fs : List (Nat × D)} : putFd n d ((m, x) :: fs) = if m = n then (m, d) :: fs else (m, x) :: putFd n d fs := rfl
/-! operations -/
theorem dAdd_i {u v : Int} : dAdd (.int u) (.int v) = some (.int (u + v)) := rfl
theorem dSub_i {u v : Int} : dSub (.int u) (.int v) = some (.int (u - v)) := rfl
theorem dMul_i {u v : Int} (h : mulOk u v = true) : dMul (.int u) (.int v) = some (.int (u * v)) := if_pos h
theorem mulOk_r {u v : Int} (h : v.natAbs < 2 ^ 64) : mulOk u v = true := by unfold mulOk nLt; rw [decide_eq_true h]; simp
theorem mulOk_l {u v : Int} (h : u.natAbs < 2 ^ 64) : mulOk u v = true := by unfold mulOk nLt; rw [decide_eq_true h]; simp
theorem mulOk_b {u v : Int} (h : u.natAbs < 2 ^ 8000) (h2 : v.natAbs < 2 ^ 8000) : mulOk u v = true := by unfold mulOk nLt; rw [decide_eq_true h, decide_eq_true h2]; simp
theorem dDiv_i {u v : Int} (h : v ≠ 0 ∧ v.natAbs < 2 ^ 8000) : dDiv (.int u) (.int v) = some (.int (u.fdiv v)) := if_pos h
theorem dDiv_r {u v : Int} (h0 : v ≠ 0) (h : -18446744073709551616 < v) (h2 : v < 18446744073709551616) : dDiv (.int u) (.int v) = some (.int (u.fdiv v)) := if_pos ⟨h0, Nat.lt_of_lt_of_le (show v.natAbs < 2 ^ 64 by omega) (Nat.pow_le_pow_right (by decide) (by decide))⟩
theorem mul_r {u v : Int} (h : -18446744073709551616 < v) (h2 : v < 18446744073709551616) : dMul (.int u) (.int v) = some (.int (u * v)) := dMul_i (mulOk_r (by omega))
theorem mul_l {u v : Int} (h : -18446744073709551616 < u) (h2 : u < 18446744073709551616) : dMul (.int u) (.int v) = some (.int (u * v)) := dMul_i (mulOk_l (by omega))
theorem dMod_i {u v : Int} (h : v ≠ 0) : dMod (.int u) (.int v) = some (.int (u.fmod v)) := if_pos h
theorem dPow_i {u v : Int} (h : 0 ≤ v ∧ v ≤ 1000000 ∧ u.natAbs < 2 ^ 64) : dPow (.int u) (.int v) = some (.int (u ^ v.toNat)) := if_pos h
theorem dNeg_i {u : Int} : dNeg (.int u) = some (.int (-u)) := rfl
theorem dLt_i {u v : Int} : dLt (.int u) (.int v) = some (.bl (decide (u < v))) := rfl
theorem dLe_i {u v : Int} : dLe (.int u) (.int v) = some (.bl (decide (u ≤ v))) := rfl
theorem dGt_i {u v : Int} : dGt (.int u) (.int v) = some (.bl (decide (v < u))) := rfl
theorem dGe_i {u v : Int} : dGe (.int u) (.int v) = some (.bl (decide (v ≤ u))) := rfl
theorem dEq_i {u v : Int} : dEq (.int u) (.int v) = some (.bl (u == v)) := by simp [dEq, sca, deq]
theorem dNe_i {u v : Int} : dNe (.int u) (.int v) = some (.bl (!(u == v))) := by simp [dNe, sca, deq]
theorem dEq_b {u v : Bool} : dEq (.bl u) (.bl v) = some (.bl (u == v)) := by simp [dEq, sca, deq]
theorem dNe_b {u v : Bool} : dNe (.bl u) (.bl v) = some (.bl (!(u == v))) := by simp [dNe, sca, deq]
theorem dEq_s {u v : Str} : dEq (.str u) (.str v) = some (.bl (u == v)) := by simp [dEq, sca, deq]
theorem dNe_s {u v : Str} : dNe (.str u) (.str v) = some (.bl (!(u == v))) := by simp [dNe, sca, deq]
theorem o1_ap : o1 f1 [d] = f1 d := rfl
theorem dAbs_i {u : Int} : dAbs (.int u) = some (.int (if u < 0 then -u else u)) := rfl
theorem dInt_i {u : Int} : dInt (.int u) = some (.int u) := rfl
theorem dInt_b {u : Bool} : dInt (.bl u) = some (.int (if u then 1 else 0)) := rfl
theorem dBool_i {u : Int} : dBool (.int u) = some (.bl (u != 0)) := rfl
theorem dLen_l : dLen (.lst ds) = some (.int ds.length) := rfl
theorem dLen_t : dLen (.tup ds) = some (.int ds.length) := rfl
theorem dLen_c {v : List Int} : dLen (.scr v) = some (.int v.length) := rfl
theorem dIx_l {v : Int} : dIx (.lst ds) (.int v) = at1 ds v := rfl
theorem dIx_t {v : Int} : dIx (.tup ds) (.int v) = at1 ds v := rfl
theorem dIx_c {v : Int} {ns : List Int} : dIx (.scr ns) (.int v) = (at1 ns v).map .int := rfl
theorem at_0 {α : Type} {u : α} {l : List α} : at1 (u :: l) 0 = some u := by simp [at1, ixN]
theorem at_nat {α : Type} {l : List α} {k : Nat} : at1 l (k : Int) = l[k]? := by
  unfold at1 ixN
  by_cases h : (k : Int) < l.length
  · rw [if_pos (by omega), if_pos h]; simp
  · rw [if_pos (by omega), if_neg h]; simp; omega
theorem at_1 {α : Type} {u v : α} {l : List α} : at1 (u :: v :: l) 1 = some v := at_nat (k := 1)
theorem at_2 {α : Type} {u v w : α} {l : List α} : at1 (u :: v :: w :: l) 2 = some w := at_nat (k := 2)
theorem at_3 {α : Type} {u v w r : α} {l : List α} : at1 (u :: v :: w :: r :: l) 3 = some r := at_nat (k := 3)
theorem isT_ii {u : Int} : isT2 .tInt (.int u) = some true := rfl
theorem isT_bi {u : Int} : isT2 .tBool (.int u) = some false := rfl
theorem isT_bb {u : Bool} : isT2 .tBool (.bl u) = some true := rfl
theorem isT_ss : isT2 .tStr (.str st) = some true := rfl
theorem isT_ll : isT2 .tList (.lst ds) = some true := rfl
theorem isT_tt : isT2 .tTuple (.tup ds) = some true := rfl
theorem isB2_i {tb : Nat → Option Bool} {fs : List (Nat × D)} : isB2 tb (.ins n fs) = tb n := rfl
theorem map_s {α β : Type} {u : α → β} {v : α} : Option.map u (some v) = some (u v) := rfl
theorem dRev_l : dRev (.lst ds) = some (.lst ds.reverse) := rfl
theorem dTup_l : dTup (.lst ds) = some (.tup ds) := rfl
theorem dTup_t : dTup (.tup ds) = some (.tup ds) := rfl
theorem dLst_l : dLst (.lst ds) = some (.lst ds) := rfl
theorem dLst_t : dLst (.tup ds) = some (.lst ds) := rfl
theorem dCut_l {lo hi : Option Int} : dCut (.lst ds) lo hi = some (.lst (cut ds lo hi)) := rfl
theorem dCutL_l {lo hi : Option Int} : dCutL (.lst ds) lo hi = some (.lst (cut ds lo hi)) := rfl
theorem dGcd_i {u v : Int} : dGcd [.int u, .int v] = some (.int ((Nat.gcd u.natAbs v.natAbs : Nat) : Int)) := rfl
theorem dTxt_i {u : Int} (h : u.natAbs < 2 ^ 1900) : dTxt (.int u) = some (.str (toString u)) := if_pos h
theorem dTxt_s (h : st.length ≤ seqMax) : dTxt (.str st) = some (.str st) := if_pos h
theorem dStrI_i {u : Int} (h : u.natAbs < 2 ^ 1900) : dStrI (.int u) = some (.str (toString u)) := if_pos h
theorem dAdd_s {u v : Str} (h : u.length + v.length ≤ seqMax) : dAdd (.str u) (.str v) = some (.str (u ++ v)) := if_pos h
theorem dAdd_l (h : ds.length + es.length ≤ seqMax) : dAdd (.lst ds) (.lst es) = some (.lst (ds ++ es)) := if_pos h
theorem dCat_l (h : ds.length + es.length ≤ seqMax) : dCat (.lst ds) (.lst es) = some (.lst (ds ++ es)) := if_pos h
theorem dAdd_t (h : ds.length + es.length ≤ seqMax) : dAdd (.tup ds) (.tup es) = some (.tup (ds ++ es)) := if_pos h
theorem isB_b : isB (.bl k) = true := rfl
theorem isS_s : isS (.str st) = true := rfl
/-! loops -/
def kGb (s : SV) : Option Env → R (Ctl × Env)
  | some Γ => s Γ
  | none => .bad
theorem kGb_s : kGb s (some Γ) = s Γ := rfl
/-- a for that runs through: what holds before each turn -/
theorem forL_run {P : Nat → Env → Prop} (h0 : P 0 Γ) (h : ∀ (i : Nat) (Γ : Env) (d : D), ds[i]? = some d → P i Γ → ∃ Γ2, kGb s (g d Γ) = .ok (.nx, Γ2) ∧ P (i + 1) Γ2) : ∃ Γ', forL g s ds Γ = .ok (.nx, Γ') ∧ P ds.length Γ' := by
  induction ds generalizing Γ P with
  | nil => exact ⟨Γ, rfl, h0⟩
  | cons d ds ih =>
    obtain ⟨Γ2, e2, p⟩ := h 0 Γ d rfl h0
    cases e1 : g d Γ with
    | none => rw [e1] at e2; cases e2
    | some Γ1 =>
    rw [e1] at e2
    have e2 : s Γ1 = .ok (.nx, Γ2) := e2
    obtain ⟨Γ', e3, p'⟩ := ih (P := fun i => P (i + 1)) p fun i Γ d hd q => h (i + 1) Γ d hd q
    refine ⟨Γ', ?_, p'⟩
    show (match g d Γ with | none => R.bad | some Γ1 => match s Γ1 with | .ok (.nx, Γ2) => forL g s ds Γ2 | .ok (.cnt, Γ2) => forL g s ds Γ2 | .ok (.brk, Γ2) => .ok (.nx, Γ2) | .ok (.ret o, Γ2) => .ok (.ret o, Γ2) | .exc x Γ2 => .exc x Γ2 | .bad => .bad) = _
    rw [e1]; dsimp only; rw [e2]; exact e3
/-- a while by a measure -/
theorem whl_run {P : Nat → Env → Prop} {Qe : Env → Prop} (h : ∀ (m : Nat) (Γ : Env), P m Γ → (∃ Γ1, t Γ = .ok (false, Γ1) ∧ Qe Γ1) ∨ ∃ Γ1 Γ2 m', t Γ = .ok (true, Γ1) ∧ s Γ1 = .ok (.nx, Γ2) ∧ m' < m ∧ P m' Γ2) : ∀ (n m : Nat) (Γ : Env), m < n → P m Γ → ∃ Γ', whl t s n Γ = .ok (.nx, Γ') ∧ Qe Γ'
  | 0, m, Γ, hm, _ => absurd hm (Nat.not_lt_zero _)
  | n + 1, m, Γ, hm, p => by
    rcases h m Γ p with ⟨Γ1, e, q⟩ | ⟨Γ1, Γ2, m', e1, e2, hl, p2⟩
    · refine ⟨Γ1, ?_, q⟩
      rw [whl, e]; rfl
    · obtain ⟨Γ', e3, q⟩ := whl_run h n m' Γ2 (by omega) p2
      refine ⟨Γ', ?_, q⟩
      rw [whl, e1]
      show (match s Γ1 with | .ok (.nx, Γ2) => whl t s n Γ2 | .ok (.cnt, Γ2) => whl t s n Γ2 | .ok (.brk, Γ2) => .ok (.nx, Γ2) | .ok (.ret o, Γ2) => .ok (.ret o, Γ2) | .exc x Γ2 => .exc x Γ2 | .bad => .bad) = _
      rw [e2]; exact e3
def kGe (e : EV) : Option Env → R (D × Env)
  | some Γ => e Γ
  | none => .bad
theorem kGe_s : kGe e (some Γ) = e Γ := rfl
/-- a comprehension without tests -/
theorem lcL_map {vs : List Nat} {P : Env → Prop} (u : D → D) (h : ∀ (d : D) (Γ : Env), d ∈ ds → P Γ → ∃ Γ2, kGe e (g d Γ) = .ok (u d, Γ2) ∧ P (wipeG Γ2 vs)) (h0 : P Γ) {n : Nat} (hn : n + ds.length ≤ seqMax) : ∃ Γ', lcL g tYs e vs ds Γ n = some (ds.map u, Γ') ∧ P Γ' := by
  induction ds generalizing Γ n with
  | nil => exact ⟨Γ, rfl, h0⟩
  | cons d ds ih =>
    obtain ⟨Γ2, e2, p⟩ := h d Γ (by simp) h0
    cases e1 : g d Γ with
    | none => rw [e1] at e2; cases e2
    | some Γ1 =>
    rw [e1] at e2
    have e2 : e Γ1 = .ok (u d, Γ2) := e2
    rw [List.length_cons] at hn
    obtain ⟨Γ', e3, q⟩ := ih (fun d Γ hd => h d Γ (by simp [hd])) p (n := n + 1) (by omega)
    refine ⟨Γ', ?_, q⟩
    rw [lcL, e1]
    dsimp only [tYs]
    show (match e Γ1 with | .ok (x, Γ3) => if n < seqMax then (match lcL g tYs e vs ds (wipeG Γ3 vs) (n + 1) with | some (l, Γ4) => some (x :: l, Γ4) | none => none) else none | _ => none) = _
    rw [e2]
    show (if n < seqMax then (match lcL g tYs e vs ds (wipeG Γ2 vs) (n + 1) with | some (l, Γ4) => some (u d :: l, Γ4) | none => none) else none) = _
    rw [if_pos (by omega), e3]; rfl
end
end Ed

set_option autoImplicit true
set_option linter.all false
/-! fractions in lowest terms, plain -/
namespace Pf
def cg (n d : Int) : Int := if d < 0 then -((Nat.gcd n.natAbs d.natAbs : Nat) : Int) else ((Nat.gcd n.natAbs d.natAbs : Nat) : Int)
def nn (n d : Int) : Int := n.fdiv (cg n d)
def nd (n d : Int) : Int := d.fdiv (cg n d)
theorem cg_ne {n d : Int} (h : d ≠ 0) : cg n d ≠ 0 := by
  have h1 : 0 < Nat.gcd n.natAbs d.natAbs := Nat.gcd_pos_of_pos_right _ (by omega)
  unfold cg
  split <;> omega
theorem cg_dn (n d : Int) : cg n d ∣ n := by
  have h : ((Nat.gcd n.natAbs d.natAbs : Nat) : Int) ∣ n := Int.ofNat_dvd_left.mpr (Nat.gcd_dvd_left _ _)
  unfold cg
  split
  · exact Int.neg_dvd.mpr h
  · exact h
theorem cg_dd (n d : Int) : cg n d ∣ d := by
  have h : ((Nat.gcd n.natAbs d.natAbs : Nat) : Int) ∣ d := Int.ofNat_dvd_left.mpr (Nat.gcd_dvd_right _ _)
  unfold cg
  split
  · exact Int.neg_dvd.mpr h
  · exact h
theorem nn_mul (n d : Int) : nn n d * cg n d = n := by
  unfold nn
  exact Int.fdiv_mul_cancel (cg_dn n d)
theorem nd_mul (n d : Int) : nd n d * cg n d = d := by
  unfold nd
  exact Int.fdiv_mul_cancel (cg_dd n d)
theorem nd_pos {n d : Int} (h : d ≠ 0) : 0 < nd n d := by
  have e := nd_mul n d
  have hc := cg_ne (n := n) h
  have hg : (0 : Int) < ((Nat.gcd n.natAbs d.natAbs : Nat) : Int) := by
    have h1 : 0 < Nat.gcd n.natAbs d.natAbs := Nat.gcd_pos_of_pos_right _ (by omega)
    omega
  by_cases hd : d < 0
  · have e2 : cg n d = -((Nat.gcd n.natAbs d.natAbs : Nat) : Int) := by unfold cg; rw [if_pos hd]
    rw [e2] at e
    rcases Int.lt_trichotomy (nd n d) 0 with h1 | h1 | h1
    · have := Int.mul_pos_of_neg_of_neg h1 (show -((Nat.gcd n.natAbs d.natAbs : Nat) : Int) < 0 by omega)
      omega
    · rw [h1, Int.zero_mul] at e
      omega
    · exact h1
  · have e2 : cg n d = ((Nat.gcd n.natAbs d.natAbs : Nat) : Int) := by unfold cg; rw [if_neg hd]
    rw [e2] at e
    rcases Int.lt_trichotomy (nd n d) 0 with h1 | h1 | h1
    · have := Int.mul_neg_of_neg_of_pos h1 hg
      omega
    · rw [h1, Int.zero_mul] at e
      omega
    · exact h1
theorem cg_scale {k n d : Int} (hk : k ≠ 0) (hd : d ≠ 0) : cg (k * n) (k * d) = k * cg n d ∨ cg (k * n) (k * d) = k * cg n d := by
  left
  unfold cg
  rw [Int.natAbs_mul, Int.natAbs_mul, Nat.gcd_mul_left]
  have e : (((k.natAbs * Nat.gcd n.natAbs d.natAbs : Nat)) : Int) = (k.natAbs : Int) * ((Nat.gcd n.natAbs d.natAbs : Nat) : Int) := by rw [Int.natCast_mul]
  rw [e]
  rcases Int.lt_trichotomy k 0 with h | h | h
  · have ek : (k.natAbs : Int) = -k := by omega
    rw [ek]
    by_cases h2 : d < 0
    · have h3 : ¬ k * d < 0 := by
        have := Int.mul_pos_of_neg_of_neg h h2
        omega
      rw [if_neg h3, if_pos h2, Int.neg_mul, Int.mul_neg]
    · have h3 : k * d < 0 := Int.mul_neg_of_neg_of_pos h (by omega)
      rw [if_pos h3, if_neg h2, Int.neg_mul, Int.neg_neg]
  · exact absurd h hk
  · have ek : (k.natAbs : Int) = k := by omega
    rw [ek]
    by_cases h2 : d < 0
    · have h3 : k * d < 0 := Int.mul_neg_of_pos_of_neg h h2
      rw [if_pos h3, if_pos h2, Int.mul_neg]
    · have h3 : ¬ k * d < 0 := by
        have := Int.mul_pos h (show 0 < d by omega)
        omega
      rw [if_neg h3, if_neg h2]
theorem mul_left_cancel' {k a b : Int} (hk : k ≠ 0) (h : a * k = b * k) : a = b := Int.eq_of_mul_eq_mul_right hk h
theorem nn_scale {k n d : Int} (hk : k ≠ 0) (hd : d ≠ 0) : nn (k * n) (k * d) = nn n d := by
  have e := nn_mul (k * n) (k * d)
  have e2 := nn_mul n d
  have ec : cg (k * n) (k * d) = k * cg n d := (cg_scale hk hd).elim id id
  rw [ec] at e
  have hc : k * cg n d ≠ 0 := Int.mul_ne_zero hk (cg_ne hd)
  refine mul_left_cancel' hc ?_
  rw [e, ← Int.mul_assoc, Int.mul_comm (nn n d) k, Int.mul_assoc, e2]
theorem nd_scale {k n d : Int} (hk : k ≠ 0) (hd : d ≠ 0) : nd (k * n) (k * d) = nd n d := by
  have e := nd_mul (k * n) (k * d)
  have e2 := nd_mul n d
  have ec : cg (k * n) (k * d) = k * cg n d := (cg_scale hk hd).elim id id
  rw [ec] at e
  have hc : k * cg n d ≠ 0 := Int.mul_ne_zero hk (cg_ne hd)
  refine mul_left_cancel' hc ?_
  rw [e, ← Int.mul_assoc, Int.mul_comm (nd n d) k, Int.mul_assoc, e2]
/-- two fractions of one value -/
theorem same_of {n d n' d' k : Int} (hk : k ≠ 0) (hd : d ≠ 0) (e1 : n' = k * n) (e2 : d' = k * d) : nn n d = nn n' d' ∧ nd n d = nd n' d' := by
  subst e1; subst e2
  exact ⟨(nn_scale hk hd).symm, (nd_scale hk hd).symm⟩
theorem same_cross {a b c d : Int} (hb : b ≠ 0) (hd : d ≠ 0) (h : a * d = c * b) : nn a b = nn c d ∧ nd a b = nd c d := by
  have h1 := same_of (n := a) (d := b) (n' := d * a) (d' := d * b) hd hb rfl rfl
  have h2 := same_of (n := c) (d := d) (n' := b * c) (d' := b * d) hb hd rfl rfl
  have e1 : d * a = b * c := by rw [Int.mul_comm d a, h, Int.mul_comm]
  have e2 : d * b = b * d := Int.mul_comm _ _
  rw [h1.1, h1.2, h2.1, h2.2, e1, e2]
  exact ⟨rfl, rfl⟩
theorem fr (a b : Int) : a = nn a b * cg a b ∧ b = nd a b * cg a b := ⟨(nn_mul a b).symm, (nd_mul a b).symm⟩
section
variable {a b c d k : Int}
theorem add_same (hb : b ≠ 0) (hd : d ≠ 0) : nn (nn a b * nd c d + nn c d * nd a b) (nd a b * nd c d) = nn (a * d + c * b) (b * d) ∧ nd (nn a b * nd c d + nn c d * nd a b) (nd a b * nd c d) = nd (a * d + c * b) (b * d) := by
  have p1 := nd_pos (n := a) hb
  have p2 := nd_pos (n := c) hd
  have c1 := cg_ne (n := a) hb
  have c2 := cg_ne (n := c) hd
  obtain ⟨e1, e2⟩ := fr a b
  obtain ⟨e3, e4⟩ := fr c d
  refine same_of (k := cg a b * cg c d) (Int.mul_ne_zero c1 c2) (Int.mul_ne_zero (by omega) (by omega)) ?_ ?_
  · generalize nn a b = N at *
    generalize nd a b = D at *
    generalize nn c d = N' at *
    generalize nd c d = D' at *
    generalize cg a b = g at *
    generalize cg c d = g' at *
    subst e1 e2 e3 e4
    grind
  · generalize nn a b = N at *
    generalize nd a b = D at *
    generalize nd c d = D' at *
    generalize cg a b = g at *
    generalize cg c d = g' at *
    subst e2 e4
    grind
theorem sub_same (hb : b ≠ 0) (hd : d ≠ 0) : nn (nn a b * nd c d - nn c d * nd a b) (nd a b * nd c d) = nn (a * d - c * b) (b * d) ∧ nd (nn a b * nd c d - nn c d * nd a b) (nd a b * nd c d) = nd (a * d - c * b) (b * d) := by
  have p1 := nd_pos (n := a) hb
  have p2 := nd_pos (n := c) hd
  have c1 := cg_ne (n := a) hb
  have c2 := cg_ne (n := c) hd
  obtain ⟨e1, e2⟩ := fr a b
  obtain ⟨e3, e4⟩ := fr c d
  refine same_of (k := cg a b * cg c d) (Int.mul_ne_zero c1 c2) (Int.mul_ne_zero (by omega) (by omega)) ?_ ?_
  · generalize nn a b = N at *
    generalize nd a b = D at *
    generalize nn c d = N' at *
    generalize nd c d = D' at *
    generalize cg a b = g at *
    generalize cg c d = g' at *
    subst e1 e2 e3 e4
    grind
  · generalize nn a b = N at *
    generalize nd a b = D at *
    generalize nd c d = D' at *
    generalize cg a b = g at *
    generalize cg c d = g' at *
    subst e2 e4
    grind
theorem mul_same (hb : b ≠ 0) (hd : d ≠ 0) : nn (nn a b * nn c d) (nd a b * nd c d) = nn (a * c) (b * d) ∧ nd (nn a b * nn c d) (nd a b * nd c d) = nd (a * c) (b * d) := by
  have p1 := nd_pos (n := a) hb
  have p2 := nd_pos (n := c) hd
  have c1 := cg_ne (n := a) hb
  have c2 := cg_ne (n := c) hd
  obtain ⟨e1, e2⟩ := fr a b
  obtain ⟨e3, e4⟩ := fr c d
  refine same_of (k := cg a b * cg c d) (Int.mul_ne_zero c1 c2) (Int.mul_ne_zero (by omega) (by omega)) ?_ ?_
  · generalize nn a b = N at *
    generalize nn c d = N' at *
    generalize cg a b = g at *
    generalize cg c d = g' at *
    subst e1 e3
    grind
  · generalize nd a b = D at *
    generalize nd c d = D' at *
    generalize cg a b = g at *
    generalize cg c d = g' at *
    subst e2 e4
    grind
theorem mulk_same (hb : b ≠ 0) : nn (nn a b * k) (nd a b) = nn (a * k) b ∧ nd (nn a b * k) (nd a b) = nd (a * k) b := by
  have p1 := nd_pos (n := a) hb
  have c1 := cg_ne (n := a) hb
  obtain ⟨e1, e2⟩ := fr a b
  refine same_of (k := cg a b) c1 (by omega) ?_ ?_
  · generalize nn a b = N at *
    generalize cg a b = g at *
    subst e1
    grind
  · generalize nd a b = D at *
    generalize cg a b = g at *
    subst e2
    grind
theorem neg_same (hb : b ≠ 0) : nn (-nn a b) (nd a b) = nn (-a) b ∧ nd (-nn a b) (nd a b) = nd (-a) b := by
  have h := mulk_same (a := a) (b := b) (k := -1) hb
  have e1 : nn a b * -1 = -nn a b := by omega
  have e2 : a * -1 = -a := by omega
  rw [e1, e2] at h
  exact h
def iabs (i : Int) : Int := if i < 0 then -i else i
theorem iabs_mul (i j : Int) : iabs (i * j) = iabs i * iabs j := by
  unfold iabs
  have h1 := Int.natAbs_mul i j
  have e : ∀ x : Int, (if x < 0 then -x else x) = (x.natAbs : Int) := fun x => by split <;> omega
  rw [e, e, e, h1, Int.natCast_mul]
theorem iabs_pos {i : Int} (h : i ≠ 0) : 0 < iabs i := by
  unfold iabs
  split <;> omega
theorem abs_same (hb : b ≠ 0) : nn (iabs (nn a b)) (nd a b) = nn (iabs a) (iabs b) ∧ nd (iabs (nn a b)) (nd a b) = nd (iabs a) (iabs b) := by
  have p1 := nd_pos (n := a) hb
  have c1 := iabs_pos (cg_ne (n := a) hb)
  obtain ⟨e1, e2⟩ := fr a b
  refine same_of (k := iabs (cg a b)) (by omega) (by omega) ?_ ?_
  · conv => lhs; rw [e1]
    rw [iabs_mul, Int.mul_comm]
  · conv => lhs; rw [e2]
    rw [iabs_mul, Int.mul_comm, show iabs (nd a b) = nd a b by unfold iabs; rw [if_neg (by omega)]]
theorem self_sub (hb : b ≠ 0) : nn (nn a b * nd a b - nn a b * nd a b) (nd a b * nd a b) = nn 0 1 ∧ nd (nn a b * nd a b - nn a b * nd a b) (nd a b * nd a b) = nd 0 1 := by
  have p1 := nd_pos (n := a) hb
  have h := same_of (n := 0) (d := 1) (n' := nn a b * nd a b - nn a b * nd a b) (d' := nd a b * nd a b) (k := nd a b * nd a b) (Int.mul_ne_zero (by omega) (by omega)) (by decide) (by omega) (by omega)
  exact ⟨h.1.symm, h.2.symm⟩
theorem lt_same (hb : b ≠ 0) (hd : d ≠ 0) : (nn a b * nd c d < nn c d * nd a b) ↔ (a * b * d * d < c * d * b * b) := by
  have p1 := nd_pos (n := a) hb
  have p2 := nd_pos (n := c) hd
  have c1 := cg_ne (n := a) hb
  have c2 := cg_ne (n := c) hd
  obtain ⟨e1, e2⟩ := fr a b
  obtain ⟨e3, e4⟩ := fr c d
  generalize nn a b = N at *
  generalize nd a b = D at *
  generalize nn c d = N' at *
  generalize nd c d = D' at *
  generalize cg a b = g at *
  generalize cg c d = g' at *
  subst e1 e2 e3 e4
  have q1 : 0 < g * g := by rcases Int.lt_trichotomy g 0 with h | h | h; exact Int.mul_pos_of_neg_of_neg h h; exact absurd h c1; exact Int.mul_pos h h
  have q2 : 0 < g' * g' := by rcases Int.lt_trichotomy g' 0 with h | h | h; exact Int.mul_pos_of_neg_of_neg h h; exact absurd h c2; exact Int.mul_pos h h
  have q : 0 < (g * g) * (g' * g') * (D * D') := Int.mul_pos (Int.mul_pos q1 q2) (Int.mul_pos p1 p2)
  have f1 : N * g * (D * g) * (D' * g') * (D' * g') = ((g * g) * (g' * g') * (D * D')) * (N * D') := by grind
  have f2 : N' * g' * (D' * g') * (D * g) * (D * g) = ((g * g) * (g' * g') * (D * D')) * (N' * D) := by grind
  rw [f1, f2]
  constructor
  · intro h
    exact Int.mul_lt_mul_of_pos_left h q
  · intro h
    exact Int.lt_of_mul_lt_mul_left h (Int.le_of_lt q)
theorem eq_same (hb : b ≠ 0) (hd : d ≠ 0) : (nn a b = nn c d ∧ nd a b = nd c d) ↔ (a * b * d * d = c * d * b * b) := by
  constructor
  · rintro ⟨h1, h2⟩
    obtain ⟨e1, e2⟩ := fr a b
    obtain ⟨e3, e4⟩ := fr c d
    rw [h1] at e1
    rw [h2] at e2
    generalize nn c d = N' at *
    generalize nd c d = D' at *
    generalize cg a b = g at *
    generalize cg c d = g' at *
    clear h1 h2
    subst e1 e2 e3 e4
    grind
  · intro h
    refine same_cross hb hd ?_
    have e1 : a * b * d * d = (a * d) * (b * d) := by grind
    have e2 : c * d * b * b = (c * b) * (b * d) := by grind
    rw [e1, e2] at h
    exact mul_left_cancel' (Int.mul_ne_zero hb hd) h
theorem zero_same (hb : b ≠ 0) : nn a b = 0 ↔ a = 0 := by
  obtain ⟨e1, e2⟩ := fr a b
  have c1 := cg_ne (n := a) hb
  constructor
  · intro h
    rw [h, Int.zero_mul] at e1
    exact e1
  · intro h
    rw [h] at e1
    rcases Int.mul_eq_zero.mp e1.symm with z | z
    · rw [h]; exact z
    · rw [h] at c1; exact absurd z c1
theorem is_same (n d : Int) : nn n d * cg n d = n ∧ nd n d * cg n d = d := ⟨nn_mul n d, nd_mul n d⟩
theorem nn_le (n : Int) {d : Int} (h : d ≠ 0) : (nn n d).natAbs ≤ n.natAbs := by
  have e := nn_mul n d
  have hc := cg_ne (n := n) h
  have e2 : (nn n d).natAbs * (cg n d).natAbs = n.natAbs := by rw [← Int.natAbs_mul, e]
  have h1 : 1 ≤ (cg n d).natAbs := by omega
  calc (nn n d).natAbs = (nn n d).natAbs * 1 := (Nat.mul_one _).symm
    _ ≤ (nn n d).natAbs * (cg n d).natAbs := Nat.mul_le_mul_left _ h1
    _ = n.natAbs := e2
theorem nd_le (n : Int) {d : Int} (h : d ≠ 0) : (nd n d).natAbs ≤ d.natAbs := by
  have e := nd_mul n d
  have hc := cg_ne (n := n) h
  have e2 : (nd n d).natAbs * (cg n d).natAbs = d.natAbs := by rw [← Int.natAbs_mul, e]
  have h1 : 1 ≤ (cg n d).natAbs := by omega
  calc (nd n d).natAbs = (nd n d).natAbs * 1 := (Nat.mul_one _).symm
    _ ≤ (nd n d).natAbs * (cg n d).natAbs := Nat.mul_le_mul_left _ h1
    _ = d.natAbs := e2
theorem cg_le (n : Int) {d : Int} (h : d ≠ 0) : (cg n d).natAbs ≤ d.natAbs := by
  have hg : Nat.gcd n.natAbs d.natAbs ≤ d.natAbs := Nat.gcd_le_right _ (by omega)
  unfold cg
  split <;> omega
end
end Pf

set_option autoImplicit true
set_option Elab.async false
set_option linter.all false
set_option maxRecDepth 100000
set_option exponentiation.threshold 10000
set_option maxHeartbeats 4000000
namespace K01
open PySem Ed
def sg_ShareD_initD_0 (fu : Nat) : SV := (sSeq (sSet 3 (eF dGcd (aCons (pN 1) (aCons (pN 2) aNil))))
  (sSeq (sIf (tE (eB dLt (pN 2) (pE (eC (.int 0)))))
    (sSet 3 (eU dNeg (pN 3)))
    sNext)
  (sSeq (sFld 1 0 (eB dDiv (pN 1) (pN 3)))
  (sFld 1 1 (eB dDiv (pN 2) (pN 3))))))
def sv_ShareD_initD (fu : Nat) : SV := (sSeq (sIf (tE (eB dEq (pN 2) (pE (eC (.int 0)))))
    (sRaise 0 [] lNil)
    sNext)
  (sg_ShareD_initD_0 fu))
def F_ShareD_initD (fu : Nat) : List D → R (List (Nat × D)) := runI 1 [true, true] 1 (sv_ShareD_initD fu)
def sv_ShareD_addD (fu : Nat) : SV := (sSeq (sIf (eNot (tE (eU (fun d => (isB2 (tbl [(1, true)]) d).map .bl) (pN 1))))
    sBad
    sNext)
  (sRet (eCall (mkF 1 (F_ShareD_initD fu)) [true, true] (aCons (pE (eB dAdd (pE (eB dMul (pE (eFld 1 0 (eN 0))) (pE (eFld 1 1 (eN 1))))) (pE (eB dMul (pE (eFld 1 0 (eN 1))) (pE (eFld 1 1 (eN 0))))))) (aCons (pE (eB dMul (pE (eFld 1 1 (eN 0))) (pE (eFld 1 1 (eN 1))))) aNil)))))
def F_ShareD_addD (fu : Nat) : FV := runF [false, false] 0 (sv_ShareD_addD fu)
def lb_Share_total_0 (fu : Nat) : SV := (sSet 1 (eOwn2 1 (F_ShareD_addD fu) (eN 1) (eN 2)))
def sv_Share_total (fu : Nat) : SV := (sSeq (sSet 1 (eCall (mkF 1 fun ds => F_ShareD_initD fu (ds ++ [(.int 1)])) [true] (aCons (pE (eC (.int 0))) aNil)))
  (sSeq (sFor (gN 2) (iN 0) (lb_Share_total_0 fu))
  (sRet (eN 1))))
def F_Share_total (fu : Nat) : FV := runF [true] 2 (sv_Share_total fu)
def sv_ShareD_boolD (fu : Nat) : SV := (sRet (eF (o1 dBool) (aCons (pE (eFld 1 0 (eN 0))) aNil)))
def F_ShareD_boolD (fu : Nat) : FV := runF [false] 0 (sv_ShareD_boolD fu)
def sv_ShareD_strD (fu : Nat) : SV := (sSeq (sIf (tE (eB dEq (pE (eFld 1 1 (eN 0))) (pE (eC (.int 1)))))
    (sRet (eF (o1 dStrI) (aCons (pE (eFld 1 0 (eN 0))) aNil)))
    sNext)
  (sRet (eJs [(eU dTxt (pE (eFld 1 0 (eN 0)))), (eC (.str "/")), (eU dTxt (pE (eFld 1 1 (eN 0))))] Str.empty)))
def F_ShareD_strD (fu : Nat) : FV := runF [false] 0 (sv_ShareD_strD fu)
def sv_law_cell (fu : Nat) : SV := (sSeq (sIf (tE (eB dLt (pN 1) (pE (eF (o1 dLen) (aCons (pN 0) aNil)))))
    (sRet (eB dIx (pN 0) (pN 1)))
    sNext)
  (sRet (eC (.int 0))))
def F_law_cell (fu : Nat) : FV := runF [true, true] 0 (sv_law_cell fu)
def lb_law_pool_0 (fu : Nat) : SV := (sSeq (sApp 4 (eB dMod (pE (eF (o1 dInt) (aCons (pN 3) aNil))) (pE (eC (.int 27720)))))
  (sSet 3 (eB dDiv (pN 3) (pE (eC (.int 27720))))))
def lb_law_pool_1 (fu : Nat) : SV := (sSeq (sSet 6 (eB dMod (pE (eF (o1 dInt) (aCons (pE (eB dAdd (pE (eB dAdd (pE (eB dAdd (pE (eB dMul (pN 3) (pE (eC (.int 48271))))) (pE (eB dMul (pE (eB dAdd (pN 5) (pE (eC (.int 1))))) (pE (eC (.int 69621))))))) (pE (eB dMul (pN 1) (pE (eC (.int 7919))))))) (pE (eC (.int 1234577))))) aNil))) (pE (eC (.int 2147483647)))))
  (sSeq (sSet 7 (eB dMod (pE (eF (o1 dInt) (aCons (pE (eB dAdd (pE (eB dAdd (pE (eB dMul (pN 6) (pN 6))) (pE (eB dMul (pN 3) (pE (eC (.int 16807))))))) (pN 5))) aNil))) (pE (eC (.int 2147483629)))))
  (sSeq (sSet 8 (eB dMod (pE (eF (o1 dInt) (aCons (pE (eB dAdd (pE (eB dMul (pN 7) (pN 7))) (pN 6))) aNil))) (pE (eC (.int 2147483587)))))
  (sApp 4 (eB dMod (pE (eF (o1 dInt) (aCons (pE (eB dDiv (pN 8) (pE (eC (.int 17))))) aNil))) (pE (eC (.int 27720))))))))
def sg_law_pool_2 (fu : Nat) : SV := (sSeq (sOwn 4 (nLst lNil))
  (sSeq (sIf (tE (eB dGe (pN 3) (pE (eB dPow (pE (eC (.int 10))) (pE (eC (.int 18)))))))
    (sSeq (sSet 3 (eB dSub (pN 3) (pE (eB dPow (pE (eC (.int 10))) (pE (eC (.int 18)))))))
  (sSeq (sFor (gN 5) (iRg1 (pN 2)) (lb_law_pool_0 fu))
  (sRetX 4)))
    sNext)
  (sSeq (sFor (gN 5) (iRg1 (pN 2)) (lb_law_pool_1 fu))
  (sRetX 4))))
def sv_law_pool (fu : Nat) : SV := (sSeq (sSet 3 (eF (o1 dAbs) (aCons (pE (eCall (F_law_cell fu) [true, true] (aCons (pN 0) (aCons (pN 1) aNil)))) aNil)))
  (sg_law_pool_2 fu))
def F_law_pool (fu : Nat) : FV := runF [true, true, true] 6 (sv_law_pool fu)
def sv_law_part (fu : Nat) : SV := (sSeq (sSet 3 (eB dIx (pE (nLst (lCons (eC (.int 7)) (lCons (eC (.int 41)) (lCons (eC (.int 2001)) (lCons (eB dSub (pE (eB dMul (pE (eC (.int 2))) (pE (eB dPow (pE (eC (.int 10))) (pE (eC (.int 15))))))) (pE (eC (.int 1)))) lNil)))))) (pE (eB dMod (pE (eF (o1 dInt) (aCons (pE (eB dIx (pN 0) (pN 1))) aNil))) (pN 2)))))
  (sSeq (sSet 4 (eB dAdd (pE (eB dMul (pE (eB dAdd (pE (eB dMul (pE (eB dAdd (pE (eB dMul (pE (eB dIx (pN 0) (pE (eB dAdd (pN 1) (pE (eC (.int 1))))))) (pE (eC (.int 27720))))) (pE (eB dIx (pN 0) (pE (eB dAdd (pN 1) (pE (eC (.int 2))))))))) (pE (eC (.int 27720))))) (pE (eB dIx (pN 0) (pE (eB dAdd (pN 1) (pE (eC (.int 3))))))))) (pE (eC (.int 27720))))) (pE (eB dIx (pN 0) (pE (eB dAdd (pN 1) (pE (eC (.int 4)))))))))
  (sRet (eB dSub (pE (eB dMod (pE (eF (o1 dInt) (aCons (pN 4) aNil))) (pN 3))) (pE (eB dDiv (pN 3) (pE (eC (.int 2)))))))))
def F_law_part (fu : Nat) : FV := runF [true, true, true] 2 (sv_law_part fu)
def lb_law_common_0 (fu : Nat) : SV := (sPar 0 1 (eN 1) (eB dMod (pE (eF (o1 dInt) (aCons (pN 0) aNil))) (pN 1)))
def lt_law_common_1 (fu : Nat) : TV := (tE (eB dGt (pN 1) (pE (eC (.int 0)))))
def sv_law_common (fu : Nat) : SV := (sSeq (sSet 0 (eF (o1 dAbs) (aCons (pN 0) aNil)))
  (sSeq (sSet 1 (eF (o1 dAbs) (aCons (pN 1) aNil)))
  (sSeq (sWhl fu (lt_law_common_1 fu) (lb_law_common_0 fu))
  (sRet (eN 0)))))
def F_law_common (fu : Nat) : FV := runF [false, false] 0 (sv_law_common fu)
def lb_law_added_0 (fu : Nat) : SV := (sSeq (sSet 1 (eB dAdd (pE (eB dMul (pN 1) (pE (eB dIx (pN 3) (pE (eC (.int 1))))))) (pE (eB dMul (pE (eB dIx (pN 3) (pE (eC (.int 0))))) (pN 2)))))
  (sSet 2 (eB dMul (pN 2) (pE (eB dIx (pN 3) (pE (eC (.int 1))))))))
def sv_law_added (fu : Nat) : SV := (sSeq (sSet 1 (eC (.int 0)))
  (sSeq (sSet 2 (eC (.int 1)))
  (sSeq (sFor (gN 3) (iN 0) (lb_law_added_0 fu))
  (sRet (eTup (lCons (eN 1) (lCons (eN 2) lNil)))))))
def F_law_added (fu : Nat) : FV := runF [true] 3 (sv_law_added fu)
def sv_law_text (fu : Nat) : SV := (sSeq (sSet 1 (eCall (F_law_common fu) [false, false] (aCons (pE (eB dIx (pN 0) (pE (eC (.int 0))))) (aCons (pE (eB dIx (pN 0) (pE (eC (.int 1))))) aNil))))
  (sSeq (sIf (tE (eB dLt (pE (eB dIx (pN 0) (pE (eC (.int 1))))) (pE (eC (.int 0)))))
    (sSet 1 (eU dNeg (pN 1)))
    sNext)
  (sSeq (sIf (tE (eB dEq (pE (eB dIx (pN 0) (pE (eC (.int 1))))) (pN 1)))
    (sRet (eF (o1 dStrI) (aCons (pE (eB dDiv (pE (eB dIx (pN 0) (pE (eC (.int 0))))) (pN 1))) aNil)))
    sNext)
  (sRet (eB dAdd (pE (eB dAdd (pE (eF (o1 dStrI) (aCons (pE (eB dDiv (pE (eB dIx (pN 0) (pE (eC (.int 0))))) (pN 1))) aNil))) (pE (eC (.str "/"))))) (pE (eF (o1 dStrI) (aCons (pE (eB dDiv (pE (eB dIx (pN 0) (pE (eC (.int 1))))) (pN 1))) aNil))))))))
def F_law_text (fu : Nat) : FV := runF [true] 1 (sv_law_text fu)
def sg_law_is_0 (fu : Nat) : SV := (sSeq (sSet 2 (eCall (F_law_common fu) [false, false] (aCons (pE (eB dIx (pN 1) (pE (eC (.int 0))))) (aCons (pE (eB dIx (pN 1) (pE (eC (.int 1))))) aNil))))
  (sSeq (sSet 3 (eC (.int 1)))
  (sSeq (sIf (tE (eB dLt (pE (eB dIx (pN 1) (pE (eC (.int 1))))) (pE (eC (.int 0)))))
    (sSet 3 (eU dNeg (pE (eC (.int 1)))))
    sNext)
  (sRet (eAndV (eB dEq (pE (eB dMul (pE (eFld 1 0 (eN 0))) (pN 2))) (pE (eB dMul (pE (eB dIx (pN 1) (pE (eC (.int 0))))) (pN 3)))) (eB dEq (pE (eB dMul (pE (eFld 1 1 (eN 0))) (pN 2))) (pE (eB dMul (pE (eB dIx (pN 1) (pE (eC (.int 1))))) (pN 3)))))))))
def sv_law_is (fu : Nat) : SV := (sSeq (sIf (eNot (tE (eU (fun d => (isB2 (tbl [(1, true)]) d).map .bl) (pN 0))))
    (sRet (eC (.bl false)))
    sNext)
  (sSeq (sIf (eOr (eNot (tE (eU (fun d => (isT2 .tInt d).map .bl) (pE (eFld 1 0 (eN 0)))))) (tE (eU (fun d => (isT2 .tBool d).map .bl) (pE (eFld 1 0 (eN 0))))))
    (sRet (eC (.bl false)))
    sNext)
  (sSeq (sIf (eOr (eNot (tE (eU (fun d => (isT2 .tInt d).map .bl) (pE (eFld 1 1 (eN 0)))))) (eOr (tE (eU (fun d => (isT2 .tBool d).map .bl) (pE (eFld 1 1 (eN 0))))) (tE (eB dLt (pE (eFld 1 1 (eN 0))) (pE (eC (.int 1)))))))
    (sRet (eC (.bl false)))
    sNext)
  (sg_law_is_0 fu))))
def F_law_is (fu : Nat) : FV := runF [true, true] 2 (sv_law_is fu)
def sv_law_refused (fu : Nat) : SV := (sSeq (sSet 1 (nLst lNil))
  (sSeq (sTry 2 (tbl [(0, true)])
    (sDrop (eCall (mkF 1 (F_ShareD_initD fu)) [true, true] (aCons (pN 0) (aCons (pE (eC (.int 0))) aNil))))
    (sSeq (sSet 1 (nLst (lCons (eIsE 2 (tbl [(0, true)])) (lCons (eIsE 2 (tbl [(0, true)])) (lCons (eIsE 2 (tbl [(0, false)])) lNil)))))
  (sSet 1 (eB dAdd (pN 1) (pE (nLst (lCons (eIsE 2 (tbl [(0, false)])) (lCons (eIsE 2 (tbl [(0, false)])) lNil))))))))
  (sRet (eAndV (eB dEq (pN 1) (pE (nLst (lCons (eC (.bl true)) (lCons (eC (.bl true)) (lCons (eC (.bl false)) (lCons (eC (.bl false)) (lCons (eC (.bl false)) lNil)))))))) (eCall (F_law_is fu) [true, true] (aCons (pE (eCall (mkF 1 (F_ShareD_initD fu)) [true, true] (aCons (pN 0) (aCons (pE (eC (.int 1))) aNil)))) (aCons (pE (eTup (lCons (eN 0) (lCons (eC (.int 1)) lNil)))) aNil)))))))
def F_law_refused (fu : Nat) : FV := runF [false] 2 (sv_law_refused fu)
def lb_law_parts_0 (fu : Nat) : SV := (sSeq (sSet 7 (eCall (F_law_part fu) [true, true, true] (aCons (pN 1) (aCons (pE (eB dAdd (pE (eC (.int 1))) (pE (eB dMul (pE (eC (.int 5))) (pN 6))))) (aCons (pN 4) aNil)))))
  (sSeq (sSet 8 (eCall (F_law_part fu) [true, true, true] (aCons (pN 2) (aCons (pE (eB dMul (pE (eC (.int 5))) (pN 6))) (aCons (pN 4) aNil)))))
  (sSeq (sIf (tE (eB dEq (pN 8) (pE (eC (.int 0)))))
    (sSet 8 (eC (.int 1)))
    sNext)
  (sApp 5 (eTup (lCons (eN 7) (lCons (eN 8) lNil)))))))
def sg_law_parts_1 (fu : Nat) : SV := (sSeq (sOwn 5 (nLst lNil))
  (sSeq (sFor (gN 6) (iRg1 (pE (eB dMod (pE (eF (o1 dInt) (aCons (pE (eB dIx (pN 1) (pE (eC (.int 0))))) aNil))) (pE (eC (.int 7)))))) (lb_law_parts_0 fu))
  (sSeq (sIf (eAnd (tE (eN 3)) (tE (eB dGt (pE (eF (o1 dLen) (aCons (pN 5) aNil))) (pE (eC (.int 0))))))
    (sSeq (sSet 9 (eCall (F_law_added fu) [true] (aCons (pE (eSl dCut (pN 5) none (some (pE (eU dNeg (pE (eC (.int 1)))))))) aNil)))
  (sSeq (sSet 10 (eB dSub (pE (eB dMod (pE (eF (o1 dInt) (aCons (pE (eB dIx (pN 1) (pE (eC (.int 32))))) aNil))) (pE (eC (.int 7))))) (pE (eC (.int 3)))))
  (sPutI 5 (pE (eU dNeg (pE (eC (.int 1))))) (eTup (lCons (eB dSub (pE (eB dMul (pN 10) (pE (eB dIx (pN 9) (pE (eC (.int 1))))))) (pE (eB dIx (pN 9) (pE (eC (.int 0)))))) (lCons (eB dIx (pN 9) (pE (eC (.int 1)))) lNil))))))
    sNext)
  (sRetX 5))))
def sv_law_parts (fu : Nat) : SV := (sSeq (sSet 1 (eCall (F_law_pool fu) [true, true, true] (aCons (pN 0) (aCons (pE (eC (.int 0))) (aCons (pE (eC (.int 60))) aNil)))))
  (sSeq (sSet 2 (eCall (F_law_pool fu) [true, true, true] (aCons (pN 0) (aCons (pE (eC (.int 1))) (aCons (pE (eC (.int 60))) aNil)))))
  (sSeq (sSet 3 (eB dEq (pE (eB dMod (pE (eF (o1 dInt) (aCons (pE (eB dIx (pN 1) (pE (eC (.int 31))))) aNil))) (pE (eC (.int 3))))) (pE (eC (.int 0)))))
  (sSeq (sSet 4 (eB dSub (pE (eC (.int 4))) (pE (eF (o1 dInt) (aCons (pN 3) aNil)))))
  (sg_law_parts_1 fu)))))
def F_law_parts (fu : Nat) : FV := runF [true] 10 (sv_law_parts fu)
def el_law_0 (fu : Nat) : EV := (eCall (mkF 1 (F_ShareD_initD fu)) [true, true] (aCons (pE (eB dIx (pN 4) (pE (eC (.int 0))))) (aCons (pE (eB dIx (pN 4) (pE (eC (.int 1))))) aNil)))
def lb_law_1 (fu : Nat) : SV := (sSeq (sIf (eOr (eNot (tE (eCall (F_law_is fu) [true, true] (aCons (pE (eB dIx (pN 3) (pN 6))) (aCons (pE (eB dIx (pN 1) (pN 6))) aNil))))) (tE (eB dNe (pE (eOwnC 1 isS (F_ShareD_strD fu) (eB dIx (pN 3) (pN 6)))) (pE (eCall (F_law_text fu) [true] (aCons (pE (eB dIx (pN 1) (pN 6))) aNil))))))
    (sRet (eC (.bl false)))
    sNext)
  (sIf (eNot (tE (eCall (F_law_is fu) [true, true] (aCons (pE (eCall (F_Share_total fu) [true] (aCons (pE (nLst (lCons (eB dIx (pN 3) (pN 6)) lNil))) aNil))) (aCons (pE (eB dIx (pN 1) (pN 6))) aNil)))))
    (sRet (eC (.bl false)))
    sNext))
def sg_law_2 (fu : Nat) : SV := (sSeq (sIf (eOr (eNot (tE (eCall (F_law_is fu) [true, true] (aCons (pE (eCall (F_Share_total fu) [true] (aCons (pE (nLst lNil)) aNil))) (aCons (pE (eTup (lCons (eC (.int 0)) (lCons (eC (.int 1)) lNil)))) aNil))))) (eOr (tE (eB dNe (pE (eOwnC 1 isS (F_ShareD_strD fu) (eCall (F_Share_total fu) [true] (aCons (pE (nLst lNil)) aNil)))) (pE (eC (.str "0"))))) (tE (eOwnC 1 isB (F_ShareD_boolD fu) (eCall (mkF 1 fun ds => F_ShareD_initD fu (ds ++ [(.int 1)])) [true] (aCons (pE (eC (.int 0))) aNil))))))
    (sRet (eC (.bl false)))
    sNext)
  (sRet (eAndV (eCall (F_law_refused fu) [false] (aCons (pE (eB dIx (pN 2) (pE (eC (.int 0))))) aNil)) (eAndV (eCall (F_law_refused fu) [false] (aCons (pE (eC (.int 0))) aNil)) (eCall (F_law_refused fu) [false] (aCons (pE (eB dIx (pN 7) (pE (eC (.int 0))))) aNil))))))
def sg_law_3 (fu : Nat) : SV := (sSeq (sApp 3 (eCall (mkF 1 (F_ShareD_initD fu)) [true, true] (aCons (pE (eB dIx (pN 7) (pE (eC (.int 0))))) (aCons (pE (eB dIx (pN 7) (pE (eC (.int 1))))) aNil))))
  (sSeq (sIf (eOr (eNot (tE (eCall (F_law_is fu) [true, true] (aCons (pN 5) (aCons (pN 2) aNil))))) (eNot (tE (eCall (F_law_is fu) [true, true] (aCons (pE (eCall (F_Share_total fu) [true] (aCons (pN 3) aNil))) (aCons (pE (eCall (F_law_added fu) [true] (aCons (pE (eB dAdd (pN 1) (pE (nLst (lCons (eN 7) lNil))))) aNil))) aNil))))))
    (sRet (eC (.bl false)))
    sNext)
  (sg_law_2 fu)))
def sg_law_4 (fu : Nat) : SV := (sSeq (sIf (eOr (eNot (tE (eCall (F_law_is fu) [true, true] (aCons (pE (eCall (F_Share_total fu) [true] (aCons (pE (eF (o1 dTup) (aCons (pN 3) aNil))) aNil))) (aCons (pN 2) aNil))))) (eNot (tE (eCall (F_law_is fu) [true, true] (aCons (pE (eCall (F_Share_total fu) [true] (aCons (pE (eU dRev (pN 3))) aNil))) (aCons (pN 2) aNil))))))
    (sRet (eC (.bl false)))
    sNext)
  (sSeq (sSet 7 (eTup (lCons (eB dSub (pE (eB dMod (pE (eF (o1 dInt) (aCons (pE (eCall (F_law_cell fu) [true, true] (aCons (pN 0) (aCons (pE (eC (.int 2))) aNil)))) aNil))) (pE (eC (.int 41))))) (pE (eC (.int 20)))) (lCons (eB dAdd (pE (eC (.int 1))) (pE (eB dMod (pE (eF (o1 dInt) (aCons (pE (eCall (F_law_cell fu) [true, true] (aCons (pN 0) (aCons (pE (eC (.int 3))) aNil)))) aNil))) (pE (eC (.int 9)))))) lNil))))
  (sg_law_3 fu)))
def sg_law_5 (fu : Nat) : SV := (sSeq (sIf (tE (eB dNe (pE (eF (o1 dLen) (aCons (pN 3) aNil))) (pE (eF (o1 dLen) (aCons (pN 1) aNil)))))
    (sRet (eC (.bl false)))
    sNext)
  (sSeq (sFor (gN 6) (iRg1 (pE (eF (o1 dLen) (aCons (pN 1) aNil)))) (lb_law_1 fu))
  (sg_law_4 fu)))
def sg_law_6 (fu : Nat) : SV := (sSeq (sSet 5 (eCall (F_Share_total fu) [true] (aCons (pN 3) aNil)))
  (sSeq (sIf (eOr (eNot (tE (eCall (F_law_is fu) [true, true] (aCons (pN 5) (aCons (pN 2) aNil))))) (eOr (tE (eB dNe (pE (eOwnC 1 isS (F_ShareD_strD fu) (eN 5))) (pE (eCall (F_law_text fu) [true] (aCons (pN 2) aNil))))) (tE (eB dNe (pE (eOwnC 1 isB (F_ShareD_boolD fu) (eN 5))) (pE (eB dNe (pE (eB dIx (pN 2) (pE (eC (.int 0))))) (pE (eC (.int 0)))))))))
    (sRet (eC (.bl false)))
    sNext)
  (sg_law_5 fu)))
def sg_law_7 (fu : Nat) : SV := (sSeq (sSet 2 (eCall (F_law_added fu) [true] (aCons (pN 1) aNil)))
  (sSeq (sOwn 3 (eLc [4] (iN 1) (gN 4) tYs (el_law_0 fu)))
  (sg_law_6 fu)))
def sv_law (fu : Nat) : SV := (sSeq (sSet 1 (eCall (F_law_parts fu) [true] (aCons (pN 0) aNil)))
  (sg_law_7 fu))
def F_law (fu : Nat) : FV := runF [true] 7 (sv_law fu)
end K01

set_option autoImplicit true
set_option Elab.async false
set_option linter.all false
set_option maxRecDepth 100000
set_option exponentiation.threshold 10000
set_option maxHeartbeats 4000000
namespace K01
open PySem Ed
theorem at_getD {α : Type} {l : List α} {k : Int} {d : α} (h : 0 ≤ k) (h2 : k < l.length) : at1 l k = some (l.getD k.toNat d) := by
  unfold at1 ixN
  rw [if_pos h, if_pos h2]
  show l[k.toNat]? = _
  rw [List.getD_eq_getElem?_getD, List.getElem?_eq_getElem (by omega)]; rfl
theorem cell_ok (fu : Nat) (ns : List Int) {k : Int} (h : 0 ≤ k) : F_law_cell fu [.scr ns, .int k] = .ok (.fz (.int (ns.getD k.toNat 0))) := by
  unfold F_law_cell sv_law_cell
  rw [runF_ap rfl]
  by_cases h2 : k < ns.length
  · simp only [kR_s, eC_ap, eN_ap, kN_s, pN_ap, kP_s, kpE_ok, kpE_ex, pE_ap, kU2_s, kU_ok, kU_ex, eU_ap, kB3_s, kB2_ok, kB2_ex, kB1_ok, kB1_ex, eB_ap, kF2_s, kF_ok, kF_ex, eF_ap, aNil_ap, lNil_ap, kA2_ok, kA2_ex, kA1_ok, kA1_ex, aCons_ap, kL2_ok, kL2_ex, kL1_ok, kL1_ex, lCons_ap, kSz_t, kTp_ok, kTp_ex, kLs_ok, kLs_ex, eTup_ap, nLst_ap, kIf_t, kIf_f, kIf_ex, tC_ap, eAnd_ap, eOr_ap, eNot_ap, eIf_ap, sIf_ap, kE2_b, kE_ok, kE_ex, tE_ap, kT3_s, kT2_s, kT_ok, kT_ex, tTru_ap, tru_int, tru_bl, tru_lst, tru_tup, tru_non, tYs_ap, eCB_ap, eAndV_ap, eOrV_ap, eNotV_ap, kCh4_s, kCh3_ok, kCh3_ex, kCh2_t, kCh2_f, kCh1_s, kCh0_ok, kCh0_ex, kCh_ok, kCh_ex, eChain_ap, callF_ap, kCp_s, kC_ok, kC_ex, kCd_ok, kCd_ex, kFr2_r, kFr_ok, kFr_ex, kC1_ok, kC1_ex, eCall_ap, kC2_ok, kC2_ex, nCall_ap, dfz, dfr, prep0, pK_s, prep_d, prep_t, pKt_s, prep_f, pKf_s, mkF_ap, kMk_ok, kMk_ex, kFl_ok, kFl_ex, eFld_ap, fld_s, kO2_s, kO1_ok, kO1_ex, kO0_ok, kO0_ex, eOwn2_ap, kOC3_s, kOC2_ok, kOC2_ex, kOC1_s, kOC0_ok, kOC0_ex, eOwnC_ap, kM2_ok, kM2_ex, kM1_s, kM0_ok, kM0_ex, eMeth_ap, eJs_nil, kJz_t, kJ2_s, kJ_ok, kJ_ex, eJs_cons, kSl4_s, kSl3_s, kSl2_s, kSl1_s, eSl_ap, oP_n, kOp2_s, kOp_s, oP_s, kLc2_s, kLc1_t, kLc_ok, eLc_ap, kIs2_s, kIs_ok, iSeq_ap, it_l, it_t, kIn_s, iN_ap, kRg_ok, iRg1_ap, kRh2_ok, kRh1_ok, iRg2_ap, sNext_ap, sBrk_ap, sCnt_ap, sRetN_ap, kS_nx, kS_rt, kS_bk, kS_ct, kS_ex, sSeq_ap, kSet_ok, kSet_ex, sSet_ap, kOwn_ok, kOwn_ex, sOwn_ap, kDrp_ok, kDrp_ex, sDrop_ap, kRet_ok, kRet_ex, sRet_ap, kReO_ok, kReO_ex, sRetO_ap, sRetX_ap, kRx_o, kRx_v, kAp3_t, kAp2_o, kAp1_ok, kAp0_s, sApp_ap, kPi4_s, kPi3_s, kPi2_ok, kPi1_s, kPi0_ok, sPutI_ap, kPr2_ok, kPr1_ok, sPar_ap, kAs2_s, kAs_ok, sAsg_ap, gN_ap, gT_t, gT_l, gs_nil, kGs_s, gs_cons, kFor_ok, sFor_ap, sWhl_ap, kFd_ok, sFld_ap, kRs_ok, sRaise_ap, kSu_ok, kTr3_t, kTr2_t, kTr2_f, kTr_ok, kTr_ex, sTry_ap, kIE2_s, kIE_s, eIsE_ap, kXf_s, eXf_ap, fin_nx, fin_rt, fin_ex, finI_ex, kFi_s, finI_nx, app_nil, app_cons, ins0_nil, ins0_cons, inSl_f, inSl_l, inSl_i, inSl_b, inSl_s, inSl_n, inSl_t, inSl_c, inSl_o, pad_0, pad_1, get_0, get_1, put_0, put_1, look_v, look_o, look_b, frz_v, frz_o, stay_v, stay_o, stay_b, rd_d, rd_n, rds_nil, kRd_s, rds_cons, wipe_nil, wipe_cons, rest_nil, rest_cons, all_nil, all_cons, stb_e, stb_v, stb_b, noX_nil, noX_e, noX_v, noX_o, noX_b, true_and', tbl_ap, putFd_nil, putFd_cons, dAdd_i, dSub_i, dNeg_i, dLt_i, dLe_i, dGt_i, dGe_i, dEq_i, dNe_i, dEq_b, dNe_b, dEq_s, dNe_s, o1_ap, dAbs_i, dInt_i, dInt_b, dBool_i, dLen_l, dLen_t, dLen_c, dIx_l, dIx_t, dIx_c, at_0, at_1, at_2, at_3, isT_ii, isT_bi, isT_bb, isT_ss, isT_ll, isT_tt, isB2_i, map_s, dRev_l, dTup_l, dTup_t, dLst_l, dLst_t, dCut_l, dCutL_l, dGcd_i, isB_b, isS_s, mul_r, mul_l, dDiv_r, dMod_i, kGb_s, kGe_s,
  decide_true, decide_false, Bool.not_true, Bool.not_false, Bool.and_true, Bool.and_false, Bool.false_and, if_true, if_false, ite_true, ite_false, Bool.false_eq_true, List.lookup_cons, List.lookup_nil, List.length_cons, List.length_nil, Nat.reduceBEq, Nat.reduceLT, Nat.reduceLeDiff, Nat.zero_le, seqMax, List.length_map, Nat.reduceAdd, Nat.reduceEqDiff, Nat.reducePow, Int.reduceNe, Int.reduceEq, Int.reduceLT, Int.reduceLE, Int.reduceBEq, Int.reduceNeg, Int.natAbs_neg, ne_eq, not_true, not_false_eq_true, and_self, true_and, and_true, beq_self_eq_true, h2, at_getD (d := 0) h h2]
  · simp only [kR_s, eC_ap, eN_ap, kN_s, pN_ap, kP_s, kpE_ok, kpE_ex, pE_ap, kU2_s, kU_ok, kU_ex, eU_ap, kB3_s, kB2_ok, kB2_ex, kB1_ok, kB1_ex, eB_ap, kF2_s, kF_ok, kF_ex, eF_ap, aNil_ap, lNil_ap, kA2_ok, kA2_ex, kA1_ok, kA1_ex, aCons_ap, kL2_ok, kL2_ex, kL1_ok, kL1_ex, lCons_ap, kSz_t, kTp_ok, kTp_ex, kLs_ok, kLs_ex, eTup_ap, nLst_ap, kIf_t, kIf_f, kIf_ex, tC_ap, eAnd_ap, eOr_ap, eNot_ap, eIf_ap, sIf_ap, kE2_b, kE_ok, kE_ex, tE_ap, kT3_s, kT2_s, kT_ok, kT_ex, tTru_ap, tru_int, tru_bl, tru_lst, tru_tup, tru_non, tYs_ap, eCB_ap, eAndV_ap, eOrV_ap, eNotV_ap, kCh4_s, kCh3_ok, kCh3_ex, kCh2_t, kCh2_f, kCh1_s, kCh0_ok, kCh0_ex, kCh_ok, kCh_ex, eChain_ap, callF_ap, kCp_s, kC_ok, kC_ex, kCd_ok, kCd_ex, kFr2_r, kFr_ok, kFr_ex, kC1_ok, kC1_ex, eCall_ap, kC2_ok, kC2_ex, nCall_ap, dfz, dfr, prep0, pK_s, prep_d, prep_t, pKt_s, prep_f, pKf_s, mkF_ap, kMk_ok, kMk_ex, kFl_ok, kFl_ex, eFld_ap, fld_s, kO2_s, kO1_ok, kO1_ex, kO0_ok, kO0_ex, eOwn2_ap, kOC3_s, kOC2_ok, kOC2_ex, kOC1_s, kOC0_ok, kOC0_ex, eOwnC_ap, kM2_ok, kM2_ex, kM1_s, kM0_ok, kM0_ex, eMeth_ap, eJs_nil, kJz_t, kJ2_s, kJ_ok, kJ_ex, eJs_cons, kSl4_s, kSl3_s, kSl2_s, kSl1_s, eSl_ap, oP_n, kOp2_s, kOp_s, oP_s, kLc2_s, kLc1_t, kLc_ok, eLc_ap, kIs2_s, kIs_ok, iSeq_ap, it_l, it_t, kIn_s, iN_ap, kRg_ok, iRg1_ap, kRh2_ok, kRh1_ok, iRg2_ap, sNext_ap, sBrk_ap, sCnt_ap, sRetN_ap, kS_nx, kS_rt, kS_bk, kS_ct, kS_ex, sSeq_ap, kSet_ok, kSet_ex, sSet_ap, kOwn_ok, kOwn_ex, sOwn_ap, kDrp_ok, kDrp_ex, sDrop_ap, kRet_ok, kRet_ex, sRet_ap, kReO_ok, kReO_ex, sRetO_ap, sRetX_ap, kRx_o, kRx_v, kAp3_t, kAp2_o, kAp1_ok, kAp0_s, sApp_ap, kPi4_s, kPi3_s, kPi2_ok, kPi1_s, kPi0_ok, sPutI_ap, kPr2_ok, kPr1_ok, sPar_ap, kAs2_s, kAs_ok, sAsg_ap, gN_ap, gT_t, gT_l, gs_nil, kGs_s, gs_cons, kFor_ok, sFor_ap, sWhl_ap, kFd_ok, sFld_ap, kRs_ok, sRaise_ap, kSu_ok, kTr3_t, kTr2_t, kTr2_f, kTr_ok, kTr_ex, sTry_ap, kIE2_s, kIE_s, eIsE_ap, kXf_s, eXf_ap, fin_nx, fin_rt, fin_ex, finI_ex, kFi_s, finI_nx, app_nil, app_cons, ins0_nil, ins0_cons, inSl_f, inSl_l, inSl_i, inSl_b, inSl_s, inSl_n, inSl_t, inSl_c, inSl_o, pad_0, pad_1, get_0, get_1, put_0, put_1, look_v, look_o, look_b, frz_v, frz_o, stay_v, stay_o, stay_b, rd_d, rd_n, rds_nil, kRd_s, rds_cons, wipe_nil, wipe_cons, rest_nil, rest_cons, all_nil, all_cons, stb_e, stb_v, stb_b, noX_nil, noX_e, noX_v, noX_o, noX_b, true_and', tbl_ap, putFd_nil, putFd_cons, dAdd_i, dSub_i, dNeg_i, dLt_i, dLe_i, dGt_i, dGe_i, dEq_i, dNe_i, dEq_b, dNe_b, dEq_s, dNe_s, o1_ap, dAbs_i, dInt_i, dInt_b, dBool_i, dLen_l, dLen_t, dLen_c, dIx_l, dIx_t, dIx_c, at_0, at_1, at_2, at_3, isT_ii, isT_bi, isT_bb, isT_ss, isT_ll, isT_tt, isB2_i, map_s, dRev_l, dTup_l, dTup_t, dLst_l, dLst_t, dCut_l, dCutL_l, dGcd_i, isB_b, isS_s, mul_r, mul_l, dDiv_r, dMod_i, kGb_s, kGe_s,
  decide_true, decide_false, Bool.not_true, Bool.not_false, Bool.and_true, Bool.and_false, Bool.false_and, if_true, if_false, ite_true, ite_false, Bool.false_eq_true, List.lookup_cons, List.lookup_nil, List.length_cons, List.length_nil, Nat.reduceBEq, Nat.reduceLT, Nat.reduceLeDiff, Nat.zero_le, seqMax, List.length_map, Nat.reduceAdd, Nat.reduceEqDiff, Nat.reducePow, Int.reduceNe, Int.reduceEq, Int.reduceLT, Int.reduceLE, Int.reduceBEq, Int.reduceNeg, Int.natAbs_neg, ne_eq, not_true, not_false_eq_true, and_self, true_and, and_true, beq_self_eq_true, h2]
    rw [List.getD_eq_getElem?_getD, List.getElem?_eq_none (by omega)]; rfl
theorem rng_get {lo : Int} {n i : Nat} {d : D} (h : (rngL lo n)[i]? = some d) : d = .int (lo + i) ∧ i < n := by
  unfold rngL at h
  rw [List.getElem?_map] at h
  by_cases hi : i < n
  · rw [List.getElem?_range hi] at h; cases h; exact ⟨rfl, hi⟩
  · rw [List.getElem?_eq_none (by simpa using hi)] at h; cases h
theorem rng_len {lo : Int} {n : Nat} : (rngL lo n).length = n := by unfold rngL; simp
theorem fm_abs (a : Int) {m : Int} (h : 0 < m) (h2 : m ≤ 18446744073709551616) : (a.fmod m).natAbs < 2 ^ 64 := by
  have h3 := Int.fmod_nonneg_of_pos a h
  have h4 := Int.fmod_lt_of_pos a h
  omega
def PoolI (ns : List Int) (k n : Int) (i : Nat) (Γ : Ed.Env) : Prop := ∃ (v : Int) (xs : List Int) (j5 j6 j7 j8 : Sl), Γ = [.val (.scr ns), .val (.int k), .val (.int n), .val (.int v), .own (.lst (xs.map D.int)), j5, j6, j7, j8] ∧ xs.length = i ∧ ∀ x ∈ xs, 0 ≤ x ∧ x < 27720
theorem app_int (xs : List Int) (x : Int) : xs.map D.int ++ [D.int x] = (xs ++ [x]).map D.int := by simp
theorem fm_lt (a : Int) {m : Int} (h : 0 < m) : 0 ≤ a.fmod m ∧ a.fmod m < m := ⟨Int.fmod_nonneg_of_pos a h, Int.fmod_lt_of_pos a h⟩
theorem mem_app {xs : List Int} {x : Int} (hb : ∀ x ∈ xs, 0 ≤ x ∧ x < 27720) (hx : 0 ≤ x ∧ x < 27720) : ∀ y ∈ xs ++ [x], 0 ≤ y ∧ y < 27720 := fun y hy => by
  rcases List.mem_append.mp hy with h | h
  · exact hb y h
  · rw [List.mem_singleton.mp h]; exact hx
theorem pool_step0 {ns : List Int} {k n : Int} {i : Nat} {Γ : Ed.Env} {d : D} (fu : Nat) (hn : n < 10000) (hd : (rngL 0 n.toNat)[i]? = some d) (h : PoolI ns k n i Γ) : ∃ Γ2, kGb (lb_law_pool_0 fu) (gN 5 d Γ) = .ok (.nx, Γ2) ∧ PoolI ns k n (i + 1) Γ2 := by
  obtain ⟨v, xs, j5, j6, j7, j8, rfl, hl, hb⟩ := h
  obtain ⟨rfl, hi⟩ := rng_get hd
  have hz : xs.length < 16777216 := by omega
  unfold lb_law_pool_0
  refine' ⟨_, ?_, ?_⟩
  rotate_left
  · simp only [kR_s, eC_ap, eN_ap, kN_s, pN_ap, kP_s, kpE_ok, kpE_ex, pE_ap, kU2_s, kU_ok, kU_ex, eU_ap, kB3_s, kB2_ok, kB2_ex, kB1_ok, kB1_ex, eB_ap, kF2_s, kF_ok, kF_ex, eF_ap, aNil_ap, lNil_ap, kA2_ok, kA2_ex, kA1_ok, kA1_ex, aCons_ap, kL2_ok, kL2_ex, kL1_ok, kL1_ex, lCons_ap, kSz_t, kTp_ok, kTp_ex, kLs_ok, kLs_ex, eTup_ap, nLst_ap, kIf_t, kIf_f, kIf_ex, tC_ap, eAnd_ap, eOr_ap, eNot_ap, eIf_ap, sIf_ap, kE2_b, kE_ok, kE_ex, tE_ap, kT3_s, kT2_s, kT_ok, kT_ex, tTru_ap, tru_int, tru_bl, tru_lst, tru_tup, tru_non, tYs_ap, eCB_ap, eAndV_ap, eOrV_ap, eNotV_ap, kCh4_s, kCh3_ok, kCh3_ex, kCh2_t, kCh2_f, kCh1_s, kCh0_ok, kCh0_ex, kCh_ok, kCh_ex, eChain_ap, callF_ap, kCp_s, kC_ok, kC_ex, kCd_ok, kCd_ex, kFr2_r, kFr_ok, kFr_ex, kC1_ok, kC1_ex, eCall_ap, kC2_ok, kC2_ex, nCall_ap, dfz, dfr, prep0, pK_s, prep_d, prep_t, pKt_s, prep_f, pKf_s, mkF_ap, kMk_ok, kMk_ex, kFl_ok, kFl_ex, eFld_ap, fld_s, kO2_s, kO1_ok, kO1_ex, kO0_ok, kO0_ex, eOwn2_ap, kOC3_s, kOC2_ok, kOC2_ex, kOC1_s, kOC0_ok, kOC0_ex, eOwnC_ap, kM2_ok, kM2_ex, kM1_s, kM0_ok, kM0_ex, eMeth_ap, eJs_nil, kJz_t, kJ2_s, kJ_ok, kJ_ex, eJs_cons, kSl4_s, kSl3_s, kSl2_s, kSl1_s, eSl_ap, oP_n, kOp2_s, kOp_s, oP_s, kLc2_s, kLc1_t, kLc_ok, eLc_ap, kIs2_s, kIs_ok, iSeq_ap, it_l, it_t, kIn_s, iN_ap, kRg_ok, iRg1_ap, kRh2_ok, kRh1_ok, iRg2_ap, sNext_ap, sBrk_ap, sCnt_ap, sRetN_ap, kS_nx, kS_rt, kS_bk, kS_ct, kS_ex, sSeq_ap, kSet_ok, kSet_ex, sSet_ap, kOwn_ok, kOwn_ex, sOwn_ap, kDrp_ok, kDrp_ex, sDrop_ap, kRet_ok, kRet_ex, sRet_ap, kReO_ok, kReO_ex, sRetO_ap, sRetX_ap, kRx_o, kRx_v, kAp3_t, kAp2_o, kAp1_ok, kAp0_s, sApp_ap, kPi4_s, kPi3_s, kPi2_ok, kPi1_s, kPi0_ok, sPutI_ap, kPr2_ok, kPr1_ok, sPar_ap, kAs2_s, kAs_ok, sAsg_ap, gN_ap, gT_t, gT_l, gs_nil, kGs_s, gs_cons, kFor_ok, sFor_ap, sWhl_ap, kFd_ok, sFld_ap, kRs_ok, sRaise_ap, kSu_ok, kTr3_t, kTr2_t, kTr2_f, kTr_ok, kTr_ex, sTry_ap, kIE2_s, kIE_s, eIsE_ap, kXf_s, eXf_ap, fin_nx, fin_rt, fin_ex, finI_ex, kFi_s, finI_nx, app_nil, app_cons, ins0_nil, ins0_cons, inSl_f, inSl_l, inSl_i, inSl_b, inSl_s, inSl_n, inSl_t, inSl_c, inSl_o, pad_0, pad_1, get_0, get_1, put_0, put_1, look_v, look_o, look_b, frz_v, frz_o, stay_v, stay_o, stay_b, rd_d, rd_n, rds_nil, kRd_s, rds_cons, wipe_nil, wipe_cons, rest_nil, rest_cons, all_nil, all_cons, stb_e, stb_v, stb_b, noX_nil, noX_e, noX_v, noX_o, noX_b, true_and', tbl_ap, putFd_nil, putFd_cons, dAdd_i, dSub_i, dNeg_i, dLt_i, dLe_i, dGt_i, dGe_i, dEq_i, dNe_i, dEq_b, dNe_b, dEq_s, dNe_s, o1_ap, dAbs_i, dInt_i, dInt_b, dBool_i, dLen_l, dLen_t, dLen_c, dIx_l, dIx_t, dIx_c, at_0, at_1, at_2, at_3, isT_ii, isT_bi, isT_bb, isT_ss, isT_ll, isT_tt, isB2_i, map_s, dRev_l, dTup_l, dTup_t, dLst_l, dLst_t, dCut_l, dCutL_l, dGcd_i, isB_b, isS_s, mul_r, mul_l, dDiv_r, dMod_i, kGb_s, kGe_s,
  decide_true, decide_false, Bool.not_true, Bool.not_false, Bool.and_true, Bool.and_false, Bool.false_and, if_true, if_false, ite_true, ite_false, Bool.false_eq_true, List.lookup_cons, List.lookup_nil, List.length_cons, List.length_nil, Nat.reduceBEq, Nat.reduceLT, Nat.reduceLeDiff, Nat.zero_le, seqMax, List.length_map, Nat.reduceAdd, Nat.reduceEqDiff, Nat.reducePow, Int.reduceNe, Int.reduceEq, Int.reduceLT, Int.reduceLE, Int.reduceBEq, Int.reduceNeg, Int.natAbs_neg, ne_eq, not_true, not_false_eq_true, and_self, true_and, and_true, beq_self_eq_true, hz, app_int]
    rfl
  · exact ⟨_, _, _, _, _, _, rfl, by simp [hl], mem_app hb (fm_lt _ (by decide))⟩
theorem fmA (a : Int) : (-18446744073709551616 < a.fmod 2147483647) = True := by have := fm_lt a (m := 2147483647) (by decide); simp; omega
theorem fmB (a : Int) : (a.fmod 2147483647 < 18446744073709551616) = True := by have := fm_lt a (m := 2147483647) (by decide); simp; omega
theorem fmC (a : Int) : (-18446744073709551616 < a.fmod 2147483629) = True := by have := fm_lt a (m := 2147483629) (by decide); simp; omega
theorem fmD (a : Int) : (a.fmod 2147483629 < 18446744073709551616) = True := by have := fm_lt a (m := 2147483629) (by decide); simp; omega
theorem pool_step1 {ns : List Int} {k n : Int} {i : Nat} {Γ : Ed.Env} {d : D} (fu : Nat) (hn : n < 10000) (hd : (rngL 0 n.toNat)[i]? = some d) (h : PoolI ns k n i Γ) : ∃ Γ2, kGb (lb_law_pool_1 fu) (gN 5 d Γ) = .ok (.nx, Γ2) ∧ PoolI ns k n (i + 1) Γ2 := by
  obtain ⟨v, xs, j5, j6, j7, j8, rfl, hl, hb⟩ := h
  obtain ⟨rfl, hi⟩ := rng_get hd
  have hz : xs.length < 16777216 := by omega
  unfold lb_law_pool_1
  refine' ⟨_, ?_, ?_⟩
  rotate_left
  · simp only [kR_s, eC_ap, eN_ap, kN_s, pN_ap, kP_s, kpE_ok, kpE_ex, pE_ap, kU2_s, kU_ok, kU_ex, eU_ap, kB3_s, kB2_ok, kB2_ex, kB1_ok, kB1_ex, eB_ap, kF2_s, kF_ok, kF_ex, eF_ap, aNil_ap, lNil_ap, kA2_ok, kA2_ex, kA1_ok, kA1_ex, aCons_ap, kL2_ok, kL2_ex, kL1_ok, kL1_ex, lCons_ap, kSz_t, kTp_ok, kTp_ex, kLs_ok, kLs_ex, eTup_ap, nLst_ap, kIf_t, kIf_f, kIf_ex, tC_ap, eAnd_ap, eOr_ap, eNot_ap, eIf_ap, sIf_ap, kE2_b, kE_ok, kE_ex, tE_ap, kT3_s, kT2_s, kT_ok, kT_ex, tTru_ap, tru_int, tru_bl, tru_lst, tru_tup, tru_non, tYs_ap, eCB_ap, eAndV_ap, eOrV_ap, eNotV_ap, kCh4_s, kCh3_ok, kCh3_ex, kCh2_t, kCh2_f, kCh1_s, kCh0_ok, kCh0_ex, kCh_ok, kCh_ex, eChain_ap, callF_ap, kCp_s, kC_ok, kC_ex, kCd_ok, kCd_ex, kFr2_r, kFr_ok, kFr_ex, kC1_ok, kC1_ex, eCall_ap, kC2_ok, kC2_ex, nCall_ap, dfz, dfr, prep0, pK_s, prep_d, prep_t, pKt_s, prep_f, pKf_s, mkF_ap, kMk_ok, kMk_ex, kFl_ok, kFl_ex, eFld_ap, fld_s, kO2_s, kO1_ok, kO1_ex, kO0_ok, kO0_ex, eOwn2_ap, kOC3_s, kOC2_ok, kOC2_ex, kOC1_s, kOC0_ok, kOC0_ex, eOwnC_ap, kM2_ok, kM2_ex, kM1_s, kM0_ok, kM0_ex, eMeth_ap, eJs_nil, kJz_t, kJ2_s, kJ_ok, kJ_ex, eJs_cons, kSl4_s, kSl3_s, kSl2_s, kSl1_s, eSl_ap, oP_n, kOp2_s, kOp_s, oP_s, kLc2_s, kLc1_t, kLc_ok, eLc_ap, kIs2_s, kIs_ok, iSeq_ap, it_l, it_t, kIn_s, iN_ap, kRg_ok, iRg1_ap, kRh2_ok, kRh1_ok, iRg2_ap, sNext_ap, sBrk_ap, sCnt_ap, sRetN_ap, kS_nx, kS_rt, kS_bk, kS_ct, kS_ex, sSeq_ap, kSet_ok, kSet_ex, sSet_ap, kOwn_ok, kOwn_ex, sOwn_ap, kDrp_ok, kDrp_ex, sDrop_ap, kRet_ok, kRet_ex, sRet_ap, kReO_ok, kReO_ex, sRetO_ap, sRetX_ap, kRx_o, kRx_v, kAp3_t, kAp2_o, kAp1_ok, kAp0_s, sApp_ap, kPi4_s, kPi3_s, kPi2_ok, kPi1_s, kPi0_ok, sPutI_ap, kPr2_ok, kPr1_ok, sPar_ap, kAs2_s, kAs_ok, sAsg_ap, gN_ap, gT_t, gT_l, gs_nil, kGs_s, gs_cons, kFor_ok, sFor_ap, sWhl_ap, kFd_ok, sFld_ap, kRs_ok, sRaise_ap, kSu_ok, kTr3_t, kTr2_t, kTr2_f, kTr_ok, kTr_ex, sTry_ap, kIE2_s, kIE_s, eIsE_ap, kXf_s, eXf_ap, fin_nx, fin_rt, fin_ex, finI_ex, kFi_s, finI_nx, app_nil, app_cons, ins0_nil, ins0_cons, inSl_f, inSl_l, inSl_i, inSl_b, inSl_s, inSl_n, inSl_t, inSl_c, inSl_o, pad_0, pad_1, get_0, get_1, put_0, put_1, look_v, look_o, look_b, frz_v, frz_o, stay_v, stay_o, stay_b, rd_d, rd_n, rds_nil, kRd_s, rds_cons, wipe_nil, wipe_cons, rest_nil, rest_cons, all_nil, all_cons, stb_e, stb_v, stb_b, noX_nil, noX_e, noX_v, noX_o, noX_b, true_and', tbl_ap, putFd_nil, putFd_cons, dAdd_i, dSub_i, dNeg_i, dLt_i, dLe_i, dGt_i, dGe_i, dEq_i, dNe_i, dEq_b, dNe_b, dEq_s, dNe_s, o1_ap, dAbs_i, dInt_i, dInt_b, dBool_i, dLen_l, dLen_t, dLen_c, dIx_l, dIx_t, dIx_c, at_0, at_1, at_2, at_3, isT_ii, isT_bi, isT_bb, isT_ss, isT_ll, isT_tt, isB2_i, map_s, dRev_l, dTup_l, dTup_t, dLst_l, dLst_t, dCut_l, dCutL_l, dGcd_i, isB_b, isS_s, mul_r, mul_l, dDiv_r, dMod_i, kGb_s, kGe_s,
  decide_true, decide_false, Bool.not_true, Bool.not_false, Bool.and_true, Bool.and_false, Bool.false_and, if_true, if_false, ite_true, ite_false, Bool.false_eq_true, List.lookup_cons, List.lookup_nil, List.length_cons, List.length_nil, Nat.reduceBEq, Nat.reduceLT, Nat.reduceLeDiff, Nat.zero_le, seqMax, List.length_map, Nat.reduceAdd, Nat.reduceEqDiff, Nat.reducePow, Int.reduceNe, Int.reduceEq, Int.reduceLT, Int.reduceLE, Int.reduceBEq, Int.reduceNeg, Int.natAbs_neg, ne_eq, not_true, not_false_eq_true, and_self, true_and, and_true, beq_self_eq_true, hz, app_int, fmA, fmB, fmC, fmD]
    rfl
  · exact ⟨_, _, _, _, _, _, rfl, by simp [hl], mem_app hb (fm_lt _ (by decide))⟩
theorem pow18 : dPow (.int 10) (.int 18) = some (.int 1000000000000000000) := rfl
theorem rngB_of {n : Int} (h : 0 ≤ n) (h2 : n < 10000) : rngB n = true := by
  unfold rngB
  rw [decide_eq_true (by omega), decide_eq_true (by omega)]; rfl
theorem pool_ok (fu : Nat) (ns : List Int) {k n : Int} (hk : 0 ≤ k) (hn : 0 ≤ n) (hn2 : n < 10000) : ∃ xs : List Int, F_law_pool fu [.scr ns, .int k, .int n] = .ok (.fr (.lst (xs.map D.int))) ∧ xs.length = n.toNat ∧ ∀ x ∈ xs, 0 ≤ x ∧ x < 27720 := by
  unfold F_law_pool sv_law_pool sg_law_pool_2
  rw [runF_ap rfl]
  generalize hv : (if ns.getD k.toNat 0 < 0 then -(ns.getD k.toNat 0) else ns.getD k.toNat 0) = v
  have h0 : PoolI ns k n 0 [.val (.scr ns), .val (.int k), .val (.int n), .val (.int v), .own (.lst []), .emp, .emp, .emp, .emp] := ⟨_, [], _, _, _, _, rfl, rfl, fun x hx => by cases hx⟩
  have h1 : PoolI ns k n 0 [.val (.scr ns), .val (.int k), .val (.int n), .val (.int (v - 1000000000000000000)), .own (.lst []), .emp, .emp, .emp, .emp] := ⟨_, [], _, _, _, _, rfl, rfl, fun x hx => by cases hx⟩
  obtain ⟨Γa, ea, xs, _, _, _, _, _, rfl, hl, hb⟩ := forL_run (g := gN 5) (s := lb_law_pool_1 fu) (ds := rngL 0 n.toNat) h0 fun i Γ d => pool_step1 fu hn2
  obtain ⟨Γb, eb, ys, _, _, _, _, _, rfl, hl2, hb2⟩ := forL_run (g := gN 5) (s := lb_law_pool_0 fu) (ds := rngL 0 n.toNat) h1 fun i Γ d => pool_step0 fu hn2
  rw [rng_len] at hl hl2
  by_cases hc : 1000000000000000000 ≤ v
  · refine' ⟨_, ?_, hl2, hb2⟩
    simp only [kR_s, eC_ap, eN_ap, kN_s, pN_ap, kP_s, kpE_ok, kpE_ex, pE_ap, kU2_s, kU_ok, kU_ex, eU_ap, kB3_s, kB2_ok, kB2_ex, kB1_ok, kB1_ex, eB_ap, kF2_s, kF_ok, kF_ex, eF_ap, aNil_ap, lNil_ap, kA2_ok, kA2_ex, kA1_ok, kA1_ex, aCons_ap, kL2_ok, kL2_ex, kL1_ok, kL1_ex, lCons_ap, kSz_t, kTp_ok, kTp_ex, kLs_ok, kLs_ex, eTup_ap, nLst_ap, kIf_t, kIf_f, kIf_ex, tC_ap, eAnd_ap, eOr_ap, eNot_ap, eIf_ap, sIf_ap, kE2_b, kE_ok, kE_ex, tE_ap, kT3_s, kT2_s, kT_ok, kT_ex, tTru_ap, tru_int, tru_bl, tru_lst, tru_tup, tru_non, tYs_ap, eCB_ap, eAndV_ap, eOrV_ap, eNotV_ap, kCh4_s, kCh3_ok, kCh3_ex, kCh2_t, kCh2_f, kCh1_s, kCh0_ok, kCh0_ex, kCh_ok, kCh_ex, eChain_ap, callF_ap, kCp_s, kC_ok, kC_ex, kCd_ok, kCd_ex, kFr2_r, kFr_ok, kFr_ex, kC1_ok, kC1_ex, eCall_ap, kC2_ok, kC2_ex, nCall_ap, dfz, dfr, prep0, pK_s, prep_d, prep_t, pKt_s, prep_f, pKf_s, mkF_ap, kMk_ok, kMk_ex, kFl_ok, kFl_ex, eFld_ap, fld_s, kO2_s, kO1_ok, kO1_ex, kO0_ok, kO0_ex, eOwn2_ap, kOC3_s, kOC2_ok, kOC2_ex, kOC1_s, kOC0_ok, kOC0_ex, eOwnC_ap, kM2_ok, kM2_ex, kM1_s, kM0_ok, kM0_ex, eMeth_ap, eJs_nil, kJz_t, kJ2_s, kJ_ok, kJ_ex, eJs_cons, kSl4_s, kSl3_s, kSl2_s, kSl1_s, eSl_ap, oP_n, kOp2_s, kOp_s, oP_s, kLc2_s, kLc1_t, kLc_ok, eLc_ap, kIs2_s, kIs_ok, iSeq_ap, it_l, it_t, kIn_s, iN_ap, kRg_ok, iRg1_ap, kRh2_ok, kRh1_ok, iRg2_ap, sNext_ap, sBrk_ap, sCnt_ap, sRetN_ap, kS_nx, kS_rt, kS_bk, kS_ct, kS_ex, sSeq_ap, kSet_ok, kSet_ex, sSet_ap, kOwn_ok, kOwn_ex, sOwn_ap, kDrp_ok, kDrp_ex, sDrop_ap, kRet_ok, kRet_ex, sRet_ap, kReO_ok, kReO_ex, sRetO_ap, sRetX_ap, kRx_o, kRx_v, kAp3_t, kAp2_o, kAp1_ok, kAp0_s, sApp_ap, kPi4_s, kPi3_s, kPi2_ok, kPi1_s, kPi0_ok, sPutI_ap, kPr2_ok, kPr1_ok, sPar_ap, kAs2_s, kAs_ok, sAsg_ap, gN_ap, gT_t, gT_l, gs_nil, kGs_s, gs_cons, kFor_ok, sFor_ap, sWhl_ap, kFd_ok, sFld_ap, kRs_ok, sRaise_ap, kSu_ok, kTr3_t, kTr2_t, kTr2_f, kTr_ok, kTr_ex, sTry_ap, kIE2_s, kIE_s, eIsE_ap, kXf_s, eXf_ap, fin_nx, fin_rt, fin_ex, finI_ex, kFi_s, finI_nx, app_nil, app_cons, ins0_nil, ins0_cons, inSl_f, inSl_l, inSl_i, inSl_b, inSl_s, inSl_n, inSl_t, inSl_c, inSl_o, pad_0, pad_1, get_0, get_1, put_0, put_1, look_v, look_o, look_b, frz_v, frz_o, stay_v, stay_o, stay_b, rd_d, rd_n, rds_nil, kRd_s, rds_cons, wipe_nil, wipe_cons, rest_nil, rest_cons, all_nil, all_cons, stb_e, stb_v, stb_b, noX_nil, noX_e, noX_v, noX_o, noX_b, true_and', tbl_ap, putFd_nil, putFd_cons, dAdd_i, dSub_i, dNeg_i, dLt_i, dLe_i, dGt_i, dGe_i, dEq_i, dNe_i, dEq_b, dNe_b, dEq_s, dNe_s, o1_ap, dAbs_i, dInt_i, dInt_b, dBool_i, dLen_l, dLen_t, dLen_c, dIx_l, dIx_t, dIx_c, at_0, at_1, at_2, at_3, isT_ii, isT_bi, isT_bb, isT_ss, isT_ll, isT_tt, isB2_i, map_s, dRev_l, dTup_l, dTup_t, dLst_l, dLst_t, dCut_l, dCutL_l, dGcd_i, isB_b, isS_s, mul_r, mul_l, dDiv_r, dMod_i, kGb_s, kGe_s,
  decide_true, decide_false, Bool.not_true, Bool.not_false, Bool.and_true, Bool.and_false, Bool.false_and, if_true, if_false, ite_true, ite_false, Bool.false_eq_true, List.lookup_cons, List.lookup_nil, List.length_cons, List.length_nil, Nat.reduceBEq, Nat.reduceLT, Nat.reduceLeDiff, Nat.zero_le, seqMax, List.length_map, Nat.reduceAdd, Nat.reduceEqDiff, Nat.reducePow, Int.reduceNe, Int.reduceEq, Int.reduceLT, Int.reduceLE, Int.reduceBEq, Int.reduceNeg, Int.natAbs_neg, ne_eq, not_true, not_false_eq_true, and_self, true_and, and_true, beq_self_eq_true, cell_ok fu ns hk, hv, pow18, hc, kRg2_s (rngB_of hn hn2), eb]
  · refine' ⟨_, ?_, hl, hb⟩
    simp only [kR_s, eC_ap, eN_ap, kN_s, pN_ap, kP_s, kpE_ok, kpE_ex, pE_ap, kU2_s, kU_ok, kU_ex, eU_ap, kB3_s, kB2_ok, kB2_ex, kB1_ok, kB1_ex, eB_ap, kF2_s, kF_ok, kF_ex, eF_ap, aNil_ap, lNil_ap, kA2_ok, kA2_ex, kA1_ok, kA1_ex, aCons_ap, kL2_ok, kL2_ex, kL1_ok, kL1_ex, lCons_ap, kSz_t, kTp_ok, kTp_ex, kLs_ok, kLs_ex, eTup_ap, nLst_ap, kIf_t, kIf_f, kIf_ex, tC_ap, eAnd_ap, eOr_ap, eNot_ap, eIf_ap, sIf_ap, kE2_b, kE_ok, kE_ex, tE_ap, kT3_s, kT2_s, kT_ok, kT_ex, tTru_ap, tru_int, tru_bl, tru_lst, tru_tup, tru_non, tYs_ap, eCB_ap, eAndV_ap, eOrV_ap, eNotV_ap, kCh4_s, kCh3_ok, kCh3_ex, kCh2_t, kCh2_f, kCh1_s, kCh0_ok, kCh0_ex, kCh_ok, kCh_ex, eChain_ap, callF_ap, kCp_s, kC_ok, kC_ex, kCd_ok, kCd_ex, kFr2_r, kFr_ok, kFr_ex, kC1_ok, kC1_ex, eCall_ap, kC2_ok, kC2_ex, nCall_ap, dfz, dfr, prep0, pK_s, prep_d, prep_t, pKt_s, prep_f, pKf_s, mkF_ap, kMk_ok, kMk_ex, kFl_ok, kFl_ex, eFld_ap, fld_s, kO2_s, kO1_ok, kO1_ex, kO0_ok, kO0_ex, eOwn2_ap, kOC3_s, kOC2_ok, kOC2_ex, kOC1_s, kOC0_ok, kOC0_ex, eOwnC_ap, kM2_ok, kM2_ex, kM1_s, kM0_ok, kM0_ex, eMeth_ap, eJs_nil, kJz_t, kJ2_s, kJ_ok, kJ_ex, eJs_cons, kSl4_s, kSl3_s, kSl2_s, kSl1_s, eSl_ap, oP_n, kOp2_s, kOp_s, oP_s, kLc2_s, kLc1_t, kLc_ok, eLc_ap, kIs2_s, kIs_ok, iSeq_ap, it_l, it_t, kIn_s, iN_ap, kRg_ok, iRg1_ap, kRh2_ok, kRh1_ok, iRg2_ap, sNext_ap, sBrk_ap, sCnt_ap, sRetN_ap, kS_nx, kS_rt, kS_bk, kS_ct, kS_ex, sSeq_ap, kSet_ok, kSet_ex, sSet_ap, kOwn_ok, kOwn_ex, sOwn_ap, kDrp_ok, kDrp_ex, sDrop_ap, kRet_ok, kRet_ex, sRet_ap, kReO_ok, kReO_ex, sRetO_ap, sRetX_ap, kRx_o, kRx_v, kAp3_t, kAp2_o, kAp1_ok, kAp0_s, sApp_ap, kPi4_s, kPi3_s, kPi2_ok, kPi1_s, kPi0_ok, sPutI_ap, kPr2_ok, kPr1_ok, sPar_ap, kAs2_s, kAs_ok, sAsg_ap, gN_ap, gT_t, gT_l, gs_nil, kGs_s, gs_cons, kFor_ok, sFor_ap, sWhl_ap, kFd_ok, sFld_ap, kRs_ok, sRaise_ap, kSu_ok, kTr3_t, kTr2_t, kTr2_f, kTr_ok, kTr_ex, sTry_ap, kIE2_s, kIE_s, eIsE_ap, kXf_s, eXf_ap, fin_nx, fin_rt, fin_ex, finI_ex, kFi_s, finI_nx, app_nil, app_cons, ins0_nil, ins0_cons, inSl_f, inSl_l, inSl_i, inSl_b, inSl_s, inSl_n, inSl_t, inSl_c, inSl_o, pad_0, pad_1, get_0, get_1, put_0, put_1, look_v, look_o, look_b, frz_v, frz_o, stay_v, stay_o, stay_b, rd_d, rd_n, rds_nil, kRd_s, rds_cons, wipe_nil, wipe_cons, rest_nil, rest_cons, all_nil, all_cons, stb_e, stb_v, stb_b, noX_nil, noX_e, noX_v, noX_o, noX_b, true_and', tbl_ap, putFd_nil, putFd_cons, dAdd_i, dSub_i, dNeg_i, dLt_i, dLe_i, dGt_i, dGe_i, dEq_i, dNe_i, dEq_b, dNe_b, dEq_s, dNe_s, o1_ap, dAbs_i, dInt_i, dInt_b, dBool_i, dLen_l, dLen_t, dLen_c, dIx_l, dIx_t, dIx_c, at_0, at_1, at_2, at_3, isT_ii, isT_bi, isT_bb, isT_ss, isT_ll, isT_tt, isB2_i, map_s, dRev_l, dTup_l, dTup_t, dLst_l, dLst_t, dCut_l, dCutL_l, dGcd_i, isB_b, isS_s, mul_r, mul_l, dDiv_r, dMod_i, kGb_s, kGe_s,
  decide_true, decide_false, Bool.not_true, Bool.not_false, Bool.and_true, Bool.and_false, Bool.false_and, if_true, if_false, ite_true, ite_false, Bool.false_eq_true, List.lookup_cons, List.lookup_nil, List.length_cons, List.length_nil, Nat.reduceBEq, Nat.reduceLT, Nat.reduceLeDiff, Nat.zero_le, seqMax, List.length_map, Nat.reduceAdd, Nat.reduceEqDiff, Nat.reducePow, Int.reduceNe, Int.reduceEq, Int.reduceLT, Int.reduceLE, Int.reduceBEq, Int.reduceNeg, Int.natAbs_neg, ne_eq, not_true, not_false_eq_true, and_self, true_and, and_true, beq_self_eq_true, cell_ok fu ns hk, hv, pow18, hc, kRg2_s (rngB_of hn hn2), ea]
end K01

set_option autoImplicit true
set_option Elab.async false
set_option linter.all false
set_option maxRecDepth 100000
set_option exponentiation.threshold 10000
set_option maxHeartbeats 4000000
namespace K01
open PySem Ed
open Pf (nn nd cg)
def sh (n d : Int) : D := .ins 1 [(0, .int (nn n d)), (1, .int (nd n d))]
theorem beq_ff {a b : Int} (h : a ≠ b) : (a == b) = false := by simp [h]
theorem beq_tt {a b : Int} (h : a = b) : (a == b) = true := by simp [h]
theorem gcd_le {n d : Int} (h : d ≠ 0) : Nat.gcd n.natAbs d.natAbs ≤ d.natAbs := Nat.le_of_dvd (by omega) (Nat.gcd_dvd_right _ _)
theorem init_ok (fu : Nat) {n d : Int} (h : d ≠ 0) (hb : d.natAbs < 2 ^ 7000) : F_ShareD_initD fu [.int n, .int d] = .ok [(0, .int (nn n d)), (1, .int (nd n d))] := by
  have hg0 : 0 < Nat.gcd n.natAbs d.natAbs := Nat.gcd_pos_of_pos_right _ (by omega)
  have hg := gcd_le (n := n) h
  have hp : (2:Nat) ^ 7000 ≤ 2 ^ 8000 := Nat.pow_le_pow_right (by decide) (by decide)
  unfold F_ShareD_initD sv_ShareD_initD sg_ShareD_initD_0
  rw [runI_ap rfl]
  by_cases hd : d < 0
  · have hc : cg n d = -((Nat.gcd n.natAbs d.natAbs : Nat) : Int) := if_pos hd
    have hk : cg n d ≠ 0 ∧ (cg n d).natAbs < 2 ^ 8000 := by rw [hc]; exact ⟨by omega, by omega⟩
    simp only [kR_s, eC_ap, eN_ap, kN_s, pN_ap, kP_s, kpE_ok, kpE_ex, pE_ap, kU2_s, kU_ok, kU_ex, eU_ap, kB3_s, kB2_ok, kB2_ex, kB1_ok, kB1_ex, eB_ap, kF2_s, kF_ok, kF_ex, eF_ap, aNil_ap, lNil_ap, kA2_ok, kA2_ex, kA1_ok, kA1_ex, aCons_ap, kL2_ok, kL2_ex, kL1_ok, kL1_ex, lCons_ap, kSz_t, kTp_ok, kTp_ex, kLs_ok, kLs_ex, eTup_ap, nLst_ap, kIf_t, kIf_f, kIf_ex, tC_ap, eAnd_ap, eOr_ap, eNot_ap, eIf_ap, sIf_ap, kE2_b, kE_ok, kE_ex, tE_ap, kT3_s, kT2_s, kT_ok, kT_ex, tTru_ap, tru_int, tru_bl, tru_lst, tru_tup, tru_non, tYs_ap, eCB_ap, eAndV_ap, eOrV_ap, eNotV_ap, kCh4_s, kCh3_ok, kCh3_ex, kCh2_t, kCh2_f, kCh1_s, kCh0_ok, kCh0_ex, kCh_ok, kCh_ex, eChain_ap, callF_ap, kCp_s, kC_ok, kC_ex, kCd_ok, kCd_ex, kFr2_r, kFr_ok, kFr_ex, kC1_ok, kC1_ex, eCall_ap, kC2_ok, kC2_ex, nCall_ap, dfz, dfr, prep0, pK_s, prep_d, prep_t, pKt_s, prep_f, pKf_s, mkF_ap, kMk_ok, kMk_ex, kFl_ok, kFl_ex, eFld_ap, fld_s, kO2_s, kO1_ok, kO1_ex, kO0_ok, kO0_ex, eOwn2_ap, kOC3_s, kOC2_ok, kOC2_ex, kOC1_s, kOC0_ok, kOC0_ex, eOwnC_ap, kM2_ok, kM2_ex, kM1_s, kM0_ok, kM0_ex, eMeth_ap, eJs_nil, kJz_t, kJ2_s, kJ_ok, kJ_ex, eJs_cons, kSl4_s, kSl3_s, kSl2_s, kSl1_s, eSl_ap, oP_n, kOp2_s, kOp_s, oP_s, kLc2_s, kLc1_t, kLc_ok, eLc_ap, kIs2_s, kIs_ok, iSeq_ap, it_l, it_t, kIn_s, iN_ap, kRg_ok, iRg1_ap, kRh2_ok, kRh1_ok, iRg2_ap, sNext_ap, sBrk_ap, sCnt_ap, sRetN_ap, kS_nx, kS_rt, kS_bk, kS_ct, kS_ex, sSeq_ap, kSet_ok, kSet_ex, sSet_ap, kOwn_ok, kOwn_ex, sOwn_ap, kDrp_ok, kDrp_ex, sDrop_ap, kRet_ok, kRet_ex, sRet_ap, kReO_ok, kReO_ex, sRetO_ap, sRetX_ap, kRx_o, kRx_v, kAp3_t, kAp2_o, kAp1_ok, kAp0_s, sApp_ap, kPi4_s, kPi3_s, kPi2_ok, kPi1_s, kPi0_ok, sPutI_ap, kPr2_ok, kPr1_ok, sPar_ap, kAs2_s, kAs_ok, sAsg_ap, gN_ap, gT_t, gT_l, gs_nil, kGs_s, gs_cons, kFor_ok, sFor_ap, sWhl_ap, kFd_ok, sFld_ap, kRs_ok, sRaise_ap, kSu_ok, kTr3_t, kTr2_t, kTr2_f, kTr_ok, kTr_ex, sTry_ap, kIE2_s, kIE_s, eIsE_ap, kXf_s, eXf_ap, fin_nx, fin_rt, fin_ex, finI_ex, kFi_s, finI_nx, app_nil, app_cons, ins0_nil, ins0_cons, inSl_f, inSl_l, inSl_i, inSl_b, inSl_s, inSl_n, inSl_t, inSl_c, inSl_o, pad_0, pad_1, get_0, get_1, put_0, put_1, look_v, look_o, look_b, frz_v, frz_o, stay_v, stay_o, stay_b, rd_d, rd_n, rds_nil, kRd_s, rds_cons, wipe_nil, wipe_cons, rest_nil, rest_cons, all_nil, all_cons, stb_e, stb_v, stb_b, noX_nil, noX_e, noX_v, noX_o, noX_b, true_and', tbl_ap, putFd_nil, putFd_cons, dAdd_i, dSub_i, dNeg_i, dLt_i, dLe_i, dGt_i, dGe_i, dEq_i, dNe_i, dEq_b, dNe_b, dEq_s, dNe_s, o1_ap, dAbs_i, dInt_i, dInt_b, dBool_i, dLen_l, dLen_t, dLen_c, dIx_l, dIx_t, dIx_c, at_0, at_1, at_2, at_3, isT_ii, isT_bi, isT_bb, isT_ss, isT_ll, isT_tt, isB2_i, map_s, dRev_l, dTup_l, dTup_t, dLst_l, dLst_t, dCut_l, dCutL_l, dGcd_i, isB_b, isS_s, mul_r, mul_l, dDiv_r, dMod_i, kGb_s, kGe_s,
  decide_true, decide_false, Bool.not_true, Bool.not_false, Bool.and_true, Bool.and_false, Bool.false_and, if_true, if_false, ite_true, ite_false, Bool.false_eq_true, List.lookup_cons, List.lookup_nil, List.length_cons, List.length_nil, Nat.reduceBEq, Nat.reduceLT, Nat.reduceLeDiff, Nat.zero_le, seqMax, List.length_map, Nat.reduceAdd, Nat.reduceEqDiff, Nat.reducePow, Int.reduceNe, Int.reduceEq, Int.reduceLT, Int.reduceLE, Int.reduceBEq, Int.reduceNeg, Int.natAbs_neg, ne_eq, not_true, not_false_eq_true, and_self, true_and, and_true, beq_self_eq_true, beq_ff h, hd, ← hc, dDiv_i hk, kFd2_s]
    rfl
  · have hc : cg n d = ((Nat.gcd n.natAbs d.natAbs : Nat) : Int) := if_neg hd
    have hk : cg n d ≠ 0 ∧ (cg n d).natAbs < 2 ^ 8000 := by rw [hc]; exact ⟨by omega, by omega⟩
    simp only [kR_s, eC_ap, eN_ap, kN_s, pN_ap, kP_s, kpE_ok, kpE_ex, pE_ap, kU2_s, kU_ok, kU_ex, eU_ap, kB3_s, kB2_ok, kB2_ex, kB1_ok, kB1_ex, eB_ap, kF2_s, kF_ok, kF_ex, eF_ap, aNil_ap, lNil_ap, kA2_ok, kA2_ex, kA1_ok, kA1_ex, aCons_ap, kL2_ok, kL2_ex, kL1_ok, kL1_ex, lCons_ap, kSz_t, kTp_ok, kTp_ex, kLs_ok, kLs_ex, eTup_ap, nLst_ap, kIf_t, kIf_f, kIf_ex, tC_ap, eAnd_ap, eOr_ap, eNot_ap, eIf_ap, sIf_ap, kE2_b, kE_ok, kE_ex, tE_ap, kT3_s, kT2_s, kT_ok, kT_ex, tTru_ap, tru_int, tru_bl, tru_lst, tru_tup, tru_non, tYs_ap, eCB_ap, eAndV_ap, eOrV_ap, eNotV_ap, kCh4_s, kCh3_ok, kCh3_ex, kCh2_t, kCh2_f, kCh1_s, kCh0_ok, kCh0_ex, kCh_ok, kCh_ex, eChain_ap, callF_ap, kCp_s, kC_ok, kC_ex, kCd_ok, kCd_ex, kFr2_r, kFr_ok, kFr_ex, kC1_ok, kC1_ex, eCall_ap, kC2_ok, kC2_ex, nCall_ap, dfz, dfr, prep0, pK_s, prep_d, prep_t, pKt_s, prep_f, pKf_s, mkF_ap, kMk_ok, kMk_ex, kFl_ok, kFl_ex, eFld_ap, fld_s, kO2_s, kO1_ok, kO1_ex, kO0_ok, kO0_ex, eOwn2_ap, kOC3_s, kOC2_ok, kOC2_ex, kOC1_s, kOC0_ok, kOC0_ex, eOwnC_ap, kM2_ok, kM2_ex, kM1_s, kM0_ok, kM0_ex, eMeth_ap, eJs_nil, kJz_t, kJ2_s, kJ_ok, kJ_ex, eJs_cons, kSl4_s, kSl3_s, kSl2_s, kSl1_s, eSl_ap, oP_n, kOp2_s, kOp_s, oP_s, kLc2_s, kLc1_t, kLc_ok, eLc_ap, kIs2_s, kIs_ok, iSeq_ap, it_l, it_t, kIn_s, iN_ap, kRg_ok, iRg1_ap, kRh2_ok, kRh1_ok, iRg2_ap, sNext_ap, sBrk_ap, sCnt_ap, sRetN_ap, kS_nx, kS_rt, kS_bk, kS_ct, kS_ex, sSeq_ap, kSet_ok, kSet_ex, sSet_ap, kOwn_ok, kOwn_ex, sOwn_ap, kDrp_ok, kDrp_ex, sDrop_ap, kRet_ok, kRet_ex, sRet_ap, kReO_ok, kReO_ex, sRetO_ap, sRetX_ap, kRx_o, kRx_v, kAp3_t, kAp2_o, kAp1_ok, kAp0_s, sApp_ap, kPi4_s, kPi3_s, kPi2_ok, kPi1_s, kPi0_ok, sPutI_ap, kPr2_ok, kPr1_ok, sPar_ap, kAs2_s, kAs_ok, sAsg_ap, gN_ap, gT_t, gT_l, gs_nil, kGs_s, gs_cons, kFor_ok, sFor_ap, sWhl_ap, kFd_ok, sFld_ap, kRs_ok, sRaise_ap, kSu_ok, kTr3_t, kTr2_t, kTr2_f, kTr_ok, kTr_ex, sTry_ap, kIE2_s, kIE_s, eIsE_ap, kXf_s, eXf_ap, fin_nx, fin_rt, fin_ex, finI_ex, kFi_s, finI_nx, app_nil, app_cons, ins0_nil, ins0_cons, inSl_f, inSl_l, inSl_i, inSl_b, inSl_s, inSl_n, inSl_t, inSl_c, inSl_o, pad_0, pad_1, get_0, get_1, put_0, put_1, look_v, look_o, look_b, frz_v, frz_o, stay_v, stay_o, stay_b, rd_d, rd_n, rds_nil, kRd_s, rds_cons, wipe_nil, wipe_cons, rest_nil, rest_cons, all_nil, all_cons, stb_e, stb_v, stb_b, noX_nil, noX_e, noX_v, noX_o, noX_b, true_and', tbl_ap, putFd_nil, putFd_cons, dAdd_i, dSub_i, dNeg_i, dLt_i, dLe_i, dGt_i, dGe_i, dEq_i, dNe_i, dEq_b, dNe_b, dEq_s, dNe_s, o1_ap, dAbs_i, dInt_i, dInt_b, dBool_i, dLen_l, dLen_t, dLen_c, dIx_l, dIx_t, dIx_c, at_0, at_1, at_2, at_3, isT_ii, isT_bi, isT_bb, isT_ss, isT_ll, isT_tt, isB2_i, map_s, dRev_l, dTup_l, dTup_t, dLst_l, dLst_t, dCut_l, dCutL_l, dGcd_i, isB_b, isS_s, mul_r, mul_l, dDiv_r, dMod_i, kGb_s, kGe_s,
  decide_true, decide_false, Bool.not_true, Bool.not_false, Bool.and_true, Bool.and_false, Bool.false_and, if_true, if_false, ite_true, ite_false, Bool.false_eq_true, List.lookup_cons, List.lookup_nil, List.length_cons, List.length_nil, Nat.reduceBEq, Nat.reduceLT, Nat.reduceLeDiff, Nat.zero_le, seqMax, List.length_map, Nat.reduceAdd, Nat.reduceEqDiff, Nat.reducePow, Int.reduceNe, Int.reduceEq, Int.reduceLT, Int.reduceLE, Int.reduceBEq, Int.reduceNeg, Int.natAbs_neg, ne_eq, not_true, not_false_eq_true, and_self, true_and, and_true, beq_self_eq_true, beq_ff h, hd, ← hc, dDiv_i hk, kFd2_s]
    rfl
theorem init_ex (fu : Nat) {n : Int} : F_ShareD_initD fu [.int n, .int 0] = .exc ⟨0, []⟩ [] := by
  unfold F_ShareD_initD sv_ShareD_initD sg_ShareD_initD_0
  rw [runI_ap rfl]
  simp only [kR_s, eC_ap, eN_ap, kN_s, pN_ap, kP_s, kpE_ok, kpE_ex, pE_ap, kU2_s, kU_ok, kU_ex, eU_ap, kB3_s, kB2_ok, kB2_ex, kB1_ok, kB1_ex, eB_ap, kF2_s, kF_ok, kF_ex, eF_ap, aNil_ap, lNil_ap, kA2_ok, kA2_ex, kA1_ok, kA1_ex, aCons_ap, kL2_ok, kL2_ex, kL1_ok, kL1_ex, lCons_ap, kSz_t, kTp_ok, kTp_ex, kLs_ok, kLs_ex, eTup_ap, nLst_ap, kIf_t, kIf_f, kIf_ex, tC_ap, eAnd_ap, eOr_ap, eNot_ap, eIf_ap, sIf_ap, kE2_b, kE_ok, kE_ex, tE_ap, kT3_s, kT2_s, kT_ok, kT_ex, tTru_ap, tru_int, tru_bl, tru_lst, tru_tup, tru_non, tYs_ap, eCB_ap, eAndV_ap, eOrV_ap, eNotV_ap, kCh4_s, kCh3_ok, kCh3_ex, kCh2_t, kCh2_f, kCh1_s, kCh0_ok, kCh0_ex, kCh_ok, kCh_ex, eChain_ap, callF_ap, kCp_s, kC_ok, kC_ex, kCd_ok, kCd_ex, kFr2_r, kFr_ok, kFr_ex, kC1_ok, kC1_ex, eCall_ap, kC2_ok, kC2_ex, nCall_ap, dfz, dfr, prep0, pK_s, prep_d, prep_t, pKt_s, prep_f, pKf_s, mkF_ap, kMk_ok, kMk_ex, kFl_ok, kFl_ex, eFld_ap, fld_s, kO2_s, kO1_ok, kO1_ex, kO0_ok, kO0_ex, eOwn2_ap, kOC3_s, kOC2_ok, kOC2_ex, kOC1_s, kOC0_ok, kOC0_ex, eOwnC_ap, kM2_ok, kM2_ex, kM1_s, kM0_ok, kM0_ex, eMeth_ap, eJs_nil, kJz_t, kJ2_s, kJ_ok, kJ_ex, eJs_cons, kSl4_s, kSl3_s, kSl2_s, kSl1_s, eSl_ap, oP_n, kOp2_s, kOp_s, oP_s, kLc2_s, kLc1_t, kLc_ok, eLc_ap, kIs2_s, kIs_ok, iSeq_ap, it_l, it_t, kIn_s, iN_ap, kRg_ok, iRg1_ap, kRh2_ok, kRh1_ok, iRg2_ap, sNext_ap, sBrk_ap, sCnt_ap, sRetN_ap, kS_nx, kS_rt, kS_bk, kS_ct, kS_ex, sSeq_ap, kSet_ok, kSet_ex, sSet_ap, kOwn_ok, kOwn_ex, sOwn_ap, kDrp_ok, kDrp_ex, sDrop_ap, kRet_ok, kRet_ex, sRet_ap, kReO_ok, kReO_ex, sRetO_ap, sRetX_ap, kRx_o, kRx_v, kAp3_t, kAp2_o, kAp1_ok, kAp0_s, sApp_ap, kPi4_s, kPi3_s, kPi2_ok, kPi1_s, kPi0_ok, sPutI_ap, kPr2_ok, kPr1_ok, sPar_ap, kAs2_s, kAs_ok, sAsg_ap, gN_ap, gT_t, gT_l, gs_nil, kGs_s, gs_cons, kFor_ok, sFor_ap, sWhl_ap, kFd_ok, sFld_ap, kRs_ok, sRaise_ap, kSu_ok, kTr3_t, kTr2_t, kTr2_f, kTr_ok, kTr_ex, sTry_ap, kIE2_s, kIE_s, eIsE_ap, kXf_s, eXf_ap, fin_nx, fin_rt, fin_ex, finI_ex, kFi_s, finI_nx, app_nil, app_cons, ins0_nil, ins0_cons, inSl_f, inSl_l, inSl_i, inSl_b, inSl_s, inSl_n, inSl_t, inSl_c, inSl_o, pad_0, pad_1, get_0, get_1, put_0, put_1, look_v, look_o, look_b, frz_v, frz_o, stay_v, stay_o, stay_b, rd_d, rd_n, rds_nil, kRd_s, rds_cons, wipe_nil, wipe_cons, rest_nil, rest_cons, all_nil, all_cons, stb_e, stb_v, stb_b, noX_nil, noX_e, noX_v, noX_o, noX_b, true_and', tbl_ap, putFd_nil, putFd_cons, dAdd_i, dSub_i, dNeg_i, dLt_i, dLe_i, dGt_i, dGe_i, dEq_i, dNe_i, dEq_b, dNe_b, dEq_s, dNe_s, o1_ap, dAbs_i, dInt_i, dInt_b, dBool_i, dLen_l, dLen_t, dLen_c, dIx_l, dIx_t, dIx_c, at_0, at_1, at_2, at_3, isT_ii, isT_bi, isT_bb, isT_ss, isT_ll, isT_tt, isB2_i, map_s, dRev_l, dTup_l, dTup_t, dLst_l, dLst_t, dCut_l, dCutL_l, dGcd_i, isB_b, isS_s, mul_r, mul_l, dDiv_r, dMod_i, kGb_s, kGe_s,
  decide_true, decide_false, Bool.not_true, Bool.not_false, Bool.and_true, Bool.and_false, Bool.false_and, if_true, if_false, ite_true, ite_false, Bool.false_eq_true, List.lookup_cons, List.lookup_nil, List.length_cons, List.length_nil, Nat.reduceBEq, Nat.reduceLT, Nat.reduceLeDiff, Nat.zero_le, seqMax, List.length_map, Nat.reduceAdd, Nat.reduceEqDiff, Nat.reducePow, Int.reduceNe, Int.reduceEq, Int.reduceLT, Int.reduceLE, Int.reduceBEq, Int.reduceNeg, Int.natAbs_neg, ne_eq, not_true, not_false_eq_true, and_self, true_and, and_true, beq_self_eq_true]
  rfl
theorem bool_ok (fu : Nat) {n d : Int} : F_ShareD_boolD fu [sh n d] = .ok (.fz (.bl (nn n d != 0))) := by
  unfold F_ShareD_boolD sv_ShareD_boolD sh
  rw [runF_ap rfl]
  simp only [kR_s, eC_ap, eN_ap, kN_s, pN_ap, kP_s, kpE_ok, kpE_ex, pE_ap, kU2_s, kU_ok, kU_ex, eU_ap, kB3_s, kB2_ok, kB2_ex, kB1_ok, kB1_ex, eB_ap, kF2_s, kF_ok, kF_ex, eF_ap, aNil_ap, lNil_ap, kA2_ok, kA2_ex, kA1_ok, kA1_ex, aCons_ap, kL2_ok, kL2_ex, kL1_ok, kL1_ex, lCons_ap, kSz_t, kTp_ok, kTp_ex, kLs_ok, kLs_ex, eTup_ap, nLst_ap, kIf_t, kIf_f, kIf_ex, tC_ap, eAnd_ap, eOr_ap, eNot_ap, eIf_ap, sIf_ap, kE2_b, kE_ok, kE_ex, tE_ap, kT3_s, kT2_s, kT_ok, kT_ex, tTru_ap, tru_int, tru_bl, tru_lst, tru_tup, tru_non, tYs_ap, eCB_ap, eAndV_ap, eOrV_ap, eNotV_ap, kCh4_s, kCh3_ok, kCh3_ex, kCh2_t, kCh2_f, kCh1_s, kCh0_ok, kCh0_ex, kCh_ok, kCh_ex, eChain_ap, callF_ap, kCp_s, kC_ok, kC_ex, kCd_ok, kCd_ex, kFr2_r, kFr_ok, kFr_ex, kC1_ok, kC1_ex, eCall_ap, kC2_ok, kC2_ex, nCall_ap, dfz, dfr, prep0, pK_s, prep_d, prep_t, pKt_s, prep_f, pKf_s, mkF_ap, kMk_ok, kMk_ex, kFl_ok, kFl_ex, eFld_ap, fld_s, kO2_s, kO1_ok, kO1_ex, kO0_ok, kO0_ex, eOwn2_ap, kOC3_s, kOC2_ok, kOC2_ex, kOC1_s, kOC0_ok, kOC0_ex, eOwnC_ap, kM2_ok, kM2_ex, kM1_s, kM0_ok, kM0_ex, eMeth_ap, eJs_nil, kJz_t, kJ2_s, kJ_ok, kJ_ex, eJs_cons, kSl4_s, kSl3_s, kSl2_s, kSl1_s, eSl_ap, oP_n, kOp2_s, kOp_s, oP_s, kLc2_s, kLc1_t, kLc_ok, eLc_ap, kIs2_s, kIs_ok, iSeq_ap, it_l, it_t, kIn_s, iN_ap, kRg_ok, iRg1_ap, kRh2_ok, kRh1_ok, iRg2_ap, sNext_ap, sBrk_ap, sCnt_ap, sRetN_ap, kS_nx, kS_rt, kS_bk, kS_ct, kS_ex, sSeq_ap, kSet_ok, kSet_ex, sSet_ap, kOwn_ok, kOwn_ex, sOwn_ap, kDrp_ok, kDrp_ex, sDrop_ap, kRet_ok, kRet_ex, sRet_ap, kReO_ok, kReO_ex, sRetO_ap, sRetX_ap, kRx_o, kRx_v, kAp3_t, kAp2_o, kAp1_ok, kAp0_s, sApp_ap, kPi4_s, kPi3_s, kPi2_ok, kPi1_s, kPi0_ok, sPutI_ap, kPr2_ok, kPr1_ok, sPar_ap, kAs2_s, kAs_ok, sAsg_ap, gN_ap, gT_t, gT_l, gs_nil, kGs_s, gs_cons, kFor_ok, sFor_ap, sWhl_ap, kFd_ok, sFld_ap, kRs_ok, sRaise_ap, kSu_ok, kTr3_t, kTr2_t, kTr2_f, kTr_ok, kTr_ex, sTry_ap, kIE2_s, kIE_s, eIsE_ap, kXf_s, eXf_ap, fin_nx, fin_rt, fin_ex, finI_ex, kFi_s, finI_nx, app_nil, app_cons, ins0_nil, ins0_cons, inSl_f, inSl_l, inSl_i, inSl_b, inSl_s, inSl_n, inSl_t, inSl_c, inSl_o, pad_0, pad_1, get_0, get_1, put_0, put_1, look_v, look_o, look_b, frz_v, frz_o, stay_v, stay_o, stay_b, rd_d, rd_n, rds_nil, kRd_s, rds_cons, wipe_nil, wipe_cons, rest_nil, rest_cons, all_nil, all_cons, stb_e, stb_v, stb_b, noX_nil, noX_e, noX_v, noX_o, noX_b, true_and', tbl_ap, putFd_nil, putFd_cons, dAdd_i, dSub_i, dNeg_i, dLt_i, dLe_i, dGt_i, dGe_i, dEq_i, dNe_i, dEq_b, dNe_b, dEq_s, dNe_s, o1_ap, dAbs_i, dInt_i, dInt_b, dBool_i, dLen_l, dLen_t, dLen_c, dIx_l, dIx_t, dIx_c, at_0, at_1, at_2, at_3, isT_ii, isT_bi, isT_bb, isT_ss, isT_ll, isT_tt, isB2_i, map_s, dRev_l, dTup_l, dTup_t, dLst_l, dLst_t, dCut_l, dCutL_l, dGcd_i, isB_b, isS_s, mul_r, mul_l, dDiv_r, dMod_i, kGb_s, kGe_s,
  decide_true, decide_false, Bool.not_true, Bool.not_false, Bool.and_true, Bool.and_false, Bool.false_and, if_true, if_false, ite_true, ite_false, Bool.false_eq_true, List.lookup_cons, List.lookup_nil, List.length_cons, List.length_nil, Nat.reduceBEq, Nat.reduceLT, Nat.reduceLeDiff, Nat.zero_le, seqMax, List.length_map, Nat.reduceAdd, Nat.reduceEqDiff, Nat.reducePow, Int.reduceNe, Int.reduceEq, Int.reduceLT, Int.reduceLE, Int.reduceBEq, Int.reduceNeg, Int.natAbs_neg, ne_eq, not_true, not_false_eq_true, and_self, true_and, and_true, beq_self_eq_true]
theorem nn_le {n d : Int} (h : d ≠ 0) : (nn n d).natAbs ≤ n.natAbs := by
  have e := Pf.nn_mul n d
  have hc := Pf.cg_ne (n := n) h
  have := congrArg Int.natAbs e
  rw [Int.natAbs_mul] at this
  rw [← this]
  exact Nat.le_mul_of_pos_right _ (by omega)
theorem nd_le {n d : Int} (h : d ≠ 0) : (nd n d).natAbs ≤ d.natAbs := by
  have e := Pf.nd_mul n d
  have hc := Pf.cg_ne (n := n) h
  have := congrArg Int.natAbs e
  rw [Int.natAbs_mul] at this
  have h2 : (nd n d).natAbs * (cg n d).natAbs = d.natAbs := this
  rw [← h2]
  exact Nat.le_mul_of_pos_right _ (by omega)
theorem add_ok (fu : Nat) {a b c d : Int} (hb : b ≠ 0) (hd : d ≠ 0) (s1 : a.natAbs < 2 ^ 3000) (s2 : b.natAbs < 2 ^ 3000) (s3 : c.natAbs < 2 ^ 3000) (s4 : d.natAbs < 2 ^ 3000) : F_ShareD_addD fu [sh a b, sh c d] = .ok (.fz (sh (a * d + c * b) (b * d))) := by
  have p1 := Pf.nd_pos (n := a) hb
  have p2 := Pf.nd_pos (n := c) hd
  have l1 := nn_le (n := a) hb
  have l2 := nd_le (n := a) hb
  have l3 := nn_le (n := c) hd
  have l4 := nd_le (n := c) hd
  have hp : (2:Nat) ^ 3000 ≤ 2 ^ 8000 := Nat.pow_le_pow_right (by decide) (by decide)
  have hm1 := dMul_i (u := nn a b) (v := nd c d) (mulOk_b (by omega) (by omega))
  have hm2 := dMul_i (u := nn c d) (v := nd a b) (mulOk_b (by omega) (by omega))
  have hm3 := dMul_i (u := nd a b) (v := nd c d) (mulOk_b (by omega) (by omega))
  have hz : nd a b * nd c d ≠ 0 := Int.mul_ne_zero (by omega) (by omega)
  have hs : (nd a b * nd c d).natAbs < 2 ^ 7000 := by
    rw [Int.natAbs_mul]
    have h1 : (nd a b).natAbs * (nd c d).natAbs < 2 ^ 3000 * 2 ^ 3000 := Nat.mul_lt_mul'' (by omega) (by omega)
    have h2 : (2:Nat) ^ 3000 * 2 ^ 3000 ≤ 2 ^ 7000 := by rw [← Nat.pow_add]; exact Nat.pow_le_pow_right (by decide) (by decide)
    omega
  have e := Pf.add_same (a := a) (c := c) hb hd
  unfold F_ShareD_addD sv_ShareD_addD
  rw [runF_ap rfl]
  have hi := init_ok fu (n := nn a b * nd c d + nn c d * nd a b) hz hs
  rw [e.1, e.2] at hi
  unfold sh
  simp only [kR_s, eC_ap, eN_ap, kN_s, pN_ap, kP_s, kpE_ok, kpE_ex, pE_ap, kU2_s, kU_ok, kU_ex, eU_ap, kB3_s, kB2_ok, kB2_ex, kB1_ok, kB1_ex, eB_ap, kF2_s, kF_ok, kF_ex, eF_ap, aNil_ap, lNil_ap, kA2_ok, kA2_ex, kA1_ok, kA1_ex, aCons_ap, kL2_ok, kL2_ex, kL1_ok, kL1_ex, lCons_ap, kSz_t, kTp_ok, kTp_ex, kLs_ok, kLs_ex, eTup_ap, nLst_ap, kIf_t, kIf_f, kIf_ex, tC_ap, eAnd_ap, eOr_ap, eNot_ap, eIf_ap, sIf_ap, kE2_b, kE_ok, kE_ex, tE_ap, kT3_s, kT2_s, kT_ok, kT_ex, tTru_ap, tru_int, tru_bl, tru_lst, tru_tup, tru_non, tYs_ap, eCB_ap, eAndV_ap, eOrV_ap, eNotV_ap, kCh4_s, kCh3_ok, kCh3_ex, kCh2_t, kCh2_f, kCh1_s, kCh0_ok, kCh0_ex, kCh_ok, kCh_ex, eChain_ap, callF_ap, kCp_s, kC_ok, kC_ex, kCd_ok, kCd_ex, kFr2_r, kFr_ok, kFr_ex, kC1_ok, kC1_ex, eCall_ap, kC2_ok, kC2_ex, nCall_ap, dfz, dfr, prep0, pK_s, prep_d, prep_t, pKt_s, prep_f, pKf_s, mkF_ap, kMk_ok, kMk_ex, kFl_ok, kFl_ex, eFld_ap, fld_s, kO2_s, kO1_ok, kO1_ex, kO0_ok, kO0_ex, eOwn2_ap, kOC3_s, kOC2_ok, kOC2_ex, kOC1_s, kOC0_ok, kOC0_ex, eOwnC_ap, kM2_ok, kM2_ex, kM1_s, kM0_ok, kM0_ex, eMeth_ap, eJs_nil, kJz_t, kJ2_s, kJ_ok, kJ_ex, eJs_cons, kSl4_s, kSl3_s, kSl2_s, kSl1_s, eSl_ap, oP_n, kOp2_s, kOp_s, oP_s, kLc2_s, kLc1_t, kLc_ok, eLc_ap, kIs2_s, kIs_ok, iSeq_ap, it_l, it_t, kIn_s, iN_ap, kRg_ok, iRg1_ap, kRh2_ok, kRh1_ok, iRg2_ap, sNext_ap, sBrk_ap, sCnt_ap, sRetN_ap, kS_nx, kS_rt, kS_bk, kS_ct, kS_ex, sSeq_ap, kSet_ok, kSet_ex, sSet_ap, kOwn_ok, kOwn_ex, sOwn_ap, kDrp_ok, kDrp_ex, sDrop_ap, kRet_ok, kRet_ex, sRet_ap, kReO_ok, kReO_ex, sRetO_ap, sRetX_ap, kRx_o, kRx_v, kAp3_t, kAp2_o, kAp1_ok, kAp0_s, sApp_ap, kPi4_s, kPi3_s, kPi2_ok, kPi1_s, kPi0_ok, sPutI_ap, kPr2_ok, kPr1_ok, sPar_ap, kAs2_s, kAs_ok, sAsg_ap, gN_ap, gT_t, gT_l, gs_nil, kGs_s, gs_cons, kFor_ok, sFor_ap, sWhl_ap, kFd_ok, sFld_ap, kRs_ok, sRaise_ap, kSu_ok, kTr3_t, kTr2_t, kTr2_f, kTr_ok, kTr_ex, sTry_ap, kIE2_s, kIE_s, eIsE_ap, kXf_s, eXf_ap, fin_nx, fin_rt, fin_ex, finI_ex, kFi_s, finI_nx, app_nil, app_cons, ins0_nil, ins0_cons, inSl_f, inSl_l, inSl_i, inSl_b, inSl_s, inSl_n, inSl_t, inSl_c, inSl_o, pad_0, pad_1, get_0, get_1, put_0, put_1, look_v, look_o, look_b, frz_v, frz_o, stay_v, stay_o, stay_b, rd_d, rd_n, rds_nil, kRd_s, rds_cons, wipe_nil, wipe_cons, rest_nil, rest_cons, all_nil, all_cons, stb_e, stb_v, stb_b, noX_nil, noX_e, noX_v, noX_o, noX_b, true_and', tbl_ap, putFd_nil, putFd_cons, dAdd_i, dSub_i, dNeg_i, dLt_i, dLe_i, dGt_i, dGe_i, dEq_i, dNe_i, dEq_b, dNe_b, dEq_s, dNe_s, o1_ap, dAbs_i, dInt_i, dInt_b, dBool_i, dLen_l, dLen_t, dLen_c, dIx_l, dIx_t, dIx_c, at_0, at_1, at_2, at_3, isT_ii, isT_bi, isT_bb, isT_ss, isT_ll, isT_tt, isB2_i, map_s, dRev_l, dTup_l, dTup_t, dLst_l, dLst_t, dCut_l, dCutL_l, dGcd_i, isB_b, isS_s, mul_r, mul_l, dDiv_r, dMod_i, kGb_s, kGe_s,
  decide_true, decide_false, Bool.not_true, Bool.not_false, Bool.and_true, Bool.and_false, Bool.false_and, if_true, if_false, ite_true, ite_false, Bool.false_eq_true, List.lookup_cons, List.lookup_nil, List.length_cons, List.length_nil, Nat.reduceBEq, Nat.reduceLT, Nat.reduceLeDiff, Nat.zero_le, seqMax, List.length_map, Nat.reduceAdd, Nat.reduceEqDiff, Nat.reducePow, Int.reduceNe, Int.reduceEq, Int.reduceLT, Int.reduceLE, Int.reduceBEq, Int.reduceNeg, Int.natAbs_neg, ne_eq, not_true, not_false_eq_true, and_self, true_and, and_true, beq_self_eq_true, hm1, hm2, hm3, hi]
end K01

set_option autoImplicit true
set_option Elab.async false
set_option linter.all false
set_option maxRecDepth 100000
set_option exponentiation.threshold 10000
set_option maxHeartbeats 4000000
namespace K01
open PySem Ed
open Pf (nn nd cg)
/-! the law's own sums -/
def addP : List (Int × Int) → Int × Int := fun l => l.foldl (fun s p => (s.1 * p.2 + p.1 * s.2, s.2 * p.2)) (0, 1)
def prt (p : Int × Int) : D := .tup [.int p.1, .int p.2]
def OkB (b : Nat) (p : Int × Int) : Prop := p.2 ≠ 0 ∧ p.1.natAbs < 2 ^ b ∧ p.2.natAbs < 2 ^ b
abbrev Ok1 := OkB 270
theorem pw (a b : Nat) : (2:Nat) ^ a * 2 ^ b = 2 ^ (a + b) := (Nat.pow_add 2 a b).symm
theorem add_bound {b : Nat} {s p : Int × Int} {m : Nat} (hs : s.2 ≠ 0 ∧ s.1.natAbs < 2 ^ m ∧ s.2.natAbs < 2 ^ m) (hp : OkB b p) : (s.2 * p.2 ≠ 0 ∧ (s.1 * p.2 + p.1 * s.2).natAbs < 2 ^ (m + (b + 1)) ∧ (s.2 * p.2).natAbs < 2 ^ (m + (b + 1))) := by
  obtain ⟨h1, h2, h3⟩ := hs
  obtain ⟨q1, q2, q3⟩ := hp
  have e1 : (2:Nat) ^ (m + (b + 1)) = 2 ^ m * 2 ^ b + 2 ^ m * 2 ^ b := by rw [pw, show m + (b + 1) = (m + b) + 1 by omega, Nat.pow_succ]; omega
  refine ⟨Int.mul_ne_zero h1 q1, ?_, ?_⟩
  · have a1 : (s.1 * p.2).natAbs < 2 ^ m * 2 ^ b := by rw [Int.natAbs_mul]; exact Nat.mul_lt_mul'' h2 q3
    have a2 : (p.1 * s.2).natAbs < 2 ^ m * 2 ^ b := by rw [Int.natAbs_mul, Nat.mul_comm]; exact Nat.mul_lt_mul'' h3 q2
    omega
  · have a1 : (s.2 * p.2).natAbs < 2 ^ m * 2 ^ b := by rw [Int.natAbs_mul]; exact Nat.mul_lt_mul'' h3 q3
    omega
def StB (b m : Nat) (s : Int × Int) : Prop := s.2 ≠ 0 ∧ s.1.natAbs < 2 ^ ((b + 1) * m + 1) ∧ s.2.natAbs < 2 ^ ((b + 1) * m + 1)
theorem StB.step {b m : Nat} {s p : Int × Int} (h : StB b m s) (hp : OkB b p) : StB b (m + 1) (s.1 * p.2 + p.1 * s.2, s.2 * p.2) := by
  have := add_bound h hp
  unfold StB
  rw [show (b + 1) * (m + 1) + 1 = (b + 1) * m + 1 + (b + 1) by rw [Nat.mul_succ]; omega]
  exact this
theorem St0 {b : Nat} : StB b 0 (0, 1) := ⟨show (1:Int) ≠ 0 by decide, by simp, by simp⟩
theorem addP_app (l : List (Int × Int)) (p : Int × Int) : addP (l ++ [p]) = ((addP l).1 * p.2 + p.1 * (addP l).2, (addP l).2 * p.2) := by unfold addP; rw [List.foldl_append]; rfl
theorem St_fold {b : Nat} : ∀ (l : List (Int × Int)) (s : Int × Int) (m : Nat), StB b m s → (∀ p ∈ l, OkB b p) → StB b (m + l.length) (l.foldl (fun s p => (s.1 * p.2 + p.1 * s.2, s.2 * p.2)) s)
  | [], s, m, h, _ => h
  | p :: l, s, m, h, hp => by
    have := St_fold l _ (m + 1) (h.step (hp p (by simp))) fun q hq => hp q (by simp [hq])
    rw [List.foldl_cons, List.length_cons, show m + (l.length + 1) = m + 1 + l.length by omega]
    exact this
theorem St_addP {b : Nat} (l : List (Int × Int)) (h : ∀ p ∈ l, OkB b p) : StB b l.length (addP l) := by
  have := St_fold l (0, 1) 0 St0 h
  rwa [Nat.zero_add] at this
theorem take_s {α : Type} {l : List α} {i : Nat} {p : α} (h : l[i]? = some p) : l.take (i + 1) = l.take i ++ [p] := by
  rw [List.take_succ, h]; rfl
theorem addP_take {l : List (Int × Int)} {i : Nat} {p : Int × Int} (h : l[i]? = some p) : addP (l.take (i + 1)) = ((addP (l.take i)).1 * p.2 + p.1 * (addP (l.take i)).2, (addP (l.take i)).2 * p.2) := by rw [take_s h, addP_app]
theorem map_get {α β : Type} {f : α → β} {l : List α} {i : Nat} {d : β} (h : (l.map f)[i]? = some d) : ∃ p, l[i]? = some p ∧ d = f p := by
  rw [List.getElem?_map] at h
  cases e : l[i]? with
  | none => rw [e] at h; cases h
  | some p => rw [e] at h; cases h; exact ⟨p, rfl, rfl⟩
theorem get_mem {α : Type} {l : List α} {i : Nat} {p : α} (h : l[i]? = some p) : p ∈ l := List.mem_of_getElem? h
theorem StB.lt {b m : Nat} {s : Int × Int} (h : StB b m s) {k : Nat} (hk : (b + 1) * m + 1 ≤ k) : s.2 ≠ 0 ∧ s.1.natAbs < 2 ^ k ∧ s.2.natAbs < 2 ^ k := by
  have : (2:Nat) ^ ((b + 1) * m + 1) ≤ 2 ^ k := Nat.pow_le_pow_right (by decide) hk
  exact ⟨h.1, Nat.lt_of_lt_of_le h.2.1 this, Nat.lt_of_lt_of_le h.2.2 this⟩
theorem St_take {l : List (Int × Int)} (h : ∀ p ∈ l, Ok1 p) (i : Nat) (hl : i < l.length) : StB 270 i (addP (l.take i)) := by
  have := St_addP (l.take i) fun p hp => h p (List.mem_of_mem_take hp)
  rwa [List.length_take, Nat.min_eq_left (by omega)] at this
theorem OkB.lt {b : Nat} {p : Int × Int} (h : OkB b p) {k : Nat} (hk : b ≤ k) : OkB k p := by
  have : (2:Nat) ^ b ≤ 2 ^ k := Nat.pow_le_pow_right (by decide) hk
  exact ⟨h.1, Nat.lt_of_lt_of_le h.2.1 this, Nat.lt_of_lt_of_le h.2.2 this⟩
/-- a list or a tuple of them -/
def AddI (x : Sl) (l : List (Int × Int)) (i : Nat) (Γ : Ed.Env) : Prop := ∃ j3, Γ = [x, .val (.int (addP (l.take i)).1), .val (.int (addP (l.take i)).2), j3]
theorem added_ok (fu : Nat) {l : List (Int × Int)} (h : ∀ p ∈ l, Ok1 p) (hl : l.length ≤ 8) : F_law_added fu [.lst (l.map prt)] = .ok (.fz (prt (addP l))) := by
  have st : ∀ (i : Nat) (Γ : Ed.Env) (d : D), (l.map prt)[i]? = some d → AddI (.bor (.lst (l.map prt))) l i Γ → ∃ Γ2, kGb (lb_law_added_0 fu) (gN 3 d Γ) = .ok (.nx, Γ2) ∧ AddI (.bor (.lst (l.map prt))) l (i + 1) Γ2 := by
    intro i Γ d hd hP
    obtain ⟨j3, rfl⟩ := hP
    obtain ⟨p, hp, rfl⟩ := map_get hd
    have hi : i < l.length := (List.getElem?_eq_some_iff.mp hp).1
    obtain ⟨q1, q2, q3⟩ := (St_take h i hi).lt (k := 7000) (by omega)
    obtain ⟨r1, r2, r3⟩ := (h p (get_mem hp)).lt (k := 7000) (by decide)
    have hz : (2:Nat) ^ 7000 ≤ 2 ^ 8000 := Nat.pow_le_pow_right (by decide) (by decide)
    have m1 := dMul_i (u := (addP (l.take i)).1) (v := p.2) (mulOk_b (by omega) (by omega))
    have m2 := dMul_i (u := p.1) (v := (addP (l.take i)).2) (mulOk_b (by omega) (by omega))
    have m3 := dMul_i (u := (addP (l.take i)).2) (v := p.2) (mulOk_b (by omega) (by omega))
    unfold lb_law_added_0 prt
    refine' ⟨_, ?_, ?_⟩
    rotate_left
    · simp only [kR_s, eC_ap, eN_ap, kN_s, pN_ap, kP_s, kpE_ok, kpE_ex, pE_ap, kU2_s, kU_ok, kU_ex, eU_ap, kB3_s, kB2_ok, kB2_ex, kB1_ok, kB1_ex, eB_ap, kF2_s, kF_ok, kF_ex, eF_ap, aNil_ap, lNil_ap, kA2_ok, kA2_ex, kA1_ok, kA1_ex, aCons_ap, kL2_ok, kL2_ex, kL1_ok, kL1_ex, lCons_ap, kSz_t, kTp_ok, kTp_ex, kLs_ok, kLs_ex, eTup_ap, nLst_ap, kIf_t, kIf_f, kIf_ex, tC_ap, eAnd_ap, eOr_ap, eNot_ap, eIf_ap, sIf_ap, kE2_b, kE_ok, kE_ex, tE_ap, kT3_s, kT2_s, kT_ok, kT_ex, tTru_ap, tru_int, tru_bl, tru_lst, tru_tup, tru_non, tYs_ap, eCB_ap, eAndV_ap, eOrV_ap, eNotV_ap, kCh4_s, kCh3_ok, kCh3_ex, kCh2_t, kCh2_f, kCh1_s, kCh0_ok, kCh0_ex, kCh_ok, kCh_ex, eChain_ap, callF_ap, kCp_s, kC_ok, kC_ex, kCd_ok, kCd_ex, kFr2_r, kFr_ok, kFr_ex, kC1_ok, kC1_ex, eCall_ap, kC2_ok, kC2_ex, nCall_ap, dfz, dfr, prep0, pK_s, prep_d, prep_t, pKt_s, prep_f, pKf_s, mkF_ap, kMk_ok, kMk_ex, kFl_ok, kFl_ex, eFld_ap, fld_s, kO2_s, kO1_ok, kO1_ex, kO0_ok, kO0_ex, eOwn2_ap, kOC3_s, kOC2_ok, kOC2_ex, kOC1_s, kOC0_ok, kOC0_ex, eOwnC_ap, kM2_ok, kM2_ex, kM1_s, kM0_ok, kM0_ex, eMeth_ap, eJs_nil, kJz_t, kJ2_s, kJ_ok, kJ_ex, eJs_cons, kSl4_s, kSl3_s, kSl2_s, kSl1_s, eSl_ap, oP_n, kOp2_s, kOp_s, oP_s, kLc2_s, kLc1_t, kLc_ok, eLc_ap, kIs2_s, kIs_ok, iSeq_ap, it_l, it_t, kIn_s, iN_ap, kRg_ok, iRg1_ap, kRh2_ok, kRh1_ok, iRg2_ap, sNext_ap, sBrk_ap, sCnt_ap, sRetN_ap, kS_nx, kS_rt, kS_bk, kS_ct, kS_ex, sSeq_ap, kSet_ok, kSet_ex, sSet_ap, kOwn_ok, kOwn_ex, sOwn_ap, kDrp_ok, kDrp_ex, sDrop_ap, kRet_ok, kRet_ex, sRet_ap, kReO_ok, kReO_ex, sRetO_ap, sRetX_ap, kRx_o, kRx_v, kAp3_t, kAp2_o, kAp1_ok, kAp0_s, sApp_ap, kPi4_s, kPi3_s, kPi2_ok, kPi1_s, kPi0_ok, sPutI_ap, kPr2_ok, kPr1_ok, sPar_ap, kAs2_s, kAs_ok, sAsg_ap, gN_ap, gT_t, gT_l, gs_nil, kGs_s, gs_cons, kFor_ok, sFor_ap, sWhl_ap, kFd_ok, sFld_ap, kRs_ok, sRaise_ap, kSu_ok, kTr3_t, kTr2_t, kTr2_f, kTr_ok, kTr_ex, sTry_ap, kIE2_s, kIE_s, eIsE_ap, kXf_s, eXf_ap, fin_nx, fin_rt, fin_ex, finI_ex, kFi_s, finI_nx, app_nil, app_cons, ins0_nil, ins0_cons, inSl_f, inSl_l, inSl_i, inSl_b, inSl_s, inSl_n, inSl_t, inSl_c, inSl_o, pad_0, pad_1, get_0, get_1, put_0, put_1, look_v, look_o, look_b, frz_v, frz_o, stay_v, stay_o, stay_b, rd_d, rd_n, rds_nil, kRd_s, rds_cons, wipe_nil, wipe_cons, rest_nil, rest_cons, all_nil, all_cons, stb_e, stb_v, stb_b, noX_nil, noX_e, noX_v, noX_o, noX_b, true_and', tbl_ap, putFd_nil, putFd_cons, dAdd_i, dSub_i, dNeg_i, dLt_i, dLe_i, dGt_i, dGe_i, dEq_i, dNe_i, dEq_b, dNe_b, dEq_s, dNe_s, o1_ap, dAbs_i, dInt_i, dInt_b, dBool_i, dLen_l, dLen_t, dLen_c, dIx_l, dIx_t, dIx_c, at_0, at_1, at_2, at_3, isT_ii, isT_bi, isT_bb, isT_ss, isT_ll, isT_tt, isB2_i, map_s, dRev_l, dTup_l, dTup_t, dLst_l, dLst_t, dCut_l, dCutL_l, dGcd_i, isB_b, isS_s, mul_r, mul_l, dDiv_r, dMod_i, kGb_s, kGe_s,
  decide_true, decide_false, Bool.not_true, Bool.not_false, Bool.and_true, Bool.and_false, Bool.false_and, if_true, if_false, ite_true, ite_false, Bool.false_eq_true, List.lookup_cons, List.lookup_nil, List.length_cons, List.length_nil, Nat.reduceBEq, Nat.reduceLT, Nat.reduceLeDiff, Nat.zero_le, seqMax, List.length_map, Nat.reduceAdd, Nat.reduceEqDiff, Nat.reducePow, Int.reduceNe, Int.reduceEq, Int.reduceLT, Int.reduceLE, Int.reduceBEq, Int.reduceNeg, Int.natAbs_neg, ne_eq, not_true, not_false_eq_true, and_self, true_and, and_true, beq_self_eq_true, m1, m2, m3]
      rfl
    · unfold AddI
      rw [addP_take hp]
      exact ⟨_, rfl⟩
  have h0 : AddI (.bor (.lst (l.map prt))) l 0 [.bor (.lst (l.map prt)), .val (.int 0), .val (.int 1), .emp] := ⟨_, rfl⟩
  obtain ⟨Γ', e, j3, rfl⟩ := forL_run (g := gN 3) (s := lb_law_added_0 fu) (ds := l.map prt) h0 st
  unfold F_law_added sv_law_added
  rw [runF_ap rfl]
  simp only [kR_s, eC_ap, eN_ap, kN_s, pN_ap, kP_s, kpE_ok, kpE_ex, pE_ap, kU2_s, kU_ok, kU_ex, eU_ap, kB3_s, kB2_ok, kB2_ex, kB1_ok, kB1_ex, eB_ap, kF2_s, kF_ok, kF_ex, eF_ap, aNil_ap, lNil_ap, kA2_ok, kA2_ex, kA1_ok, kA1_ex, aCons_ap, kL2_ok, kL2_ex, kL1_ok, kL1_ex, lCons_ap, kSz_t, kTp_ok, kTp_ex, kLs_ok, kLs_ex, eTup_ap, nLst_ap, kIf_t, kIf_f, kIf_ex, tC_ap, eAnd_ap, eOr_ap, eNot_ap, eIf_ap, sIf_ap, kE2_b, kE_ok, kE_ex, tE_ap, kT3_s, kT2_s, kT_ok, kT_ex, tTru_ap, tru_int, tru_bl, tru_lst, tru_tup, tru_non, tYs_ap, eCB_ap, eAndV_ap, eOrV_ap, eNotV_ap, kCh4_s, kCh3_ok, kCh3_ex, kCh2_t, kCh2_f, kCh1_s, kCh0_ok, kCh0_ex, kCh_ok, kCh_ex, eChain_ap, callF_ap, kCp_s, kC_ok, kC_ex, kCd_ok, kCd_ex, kFr2_r, kFr_ok, kFr_ex, kC1_ok, kC1_ex, eCall_ap, kC2_ok, kC2_ex, nCall_ap, dfz, dfr, prep0, pK_s, prep_d, prep_t, pKt_s, prep_f, pKf_s, mkF_ap, kMk_ok, kMk_ex, kFl_ok, kFl_ex, eFld_ap, fld_s, kO2_s, kO1_ok, kO1_ex, kO0_ok, kO0_ex, eOwn2_ap, kOC3_s, kOC2_ok, kOC2_ex, kOC1_s, kOC0_ok, kOC0_ex, eOwnC_ap, kM2_ok, kM2_ex, kM1_s, kM0_ok, kM0_ex, eMeth_ap, eJs_nil, kJz_t, kJ2_s, kJ_ok, kJ_ex, eJs_cons, kSl4_s, kSl3_s, kSl2_s, kSl1_s, eSl_ap, oP_n, kOp2_s, kOp_s, oP_s, kLc2_s, kLc1_t, kLc_ok, eLc_ap, kIs2_s, kIs_ok, iSeq_ap, it_l, it_t, kIn_s, iN_ap, kRg_ok, iRg1_ap, kRh2_ok, kRh1_ok, iRg2_ap, sNext_ap, sBrk_ap, sCnt_ap, sRetN_ap, kS_nx, kS_rt, kS_bk, kS_ct, kS_ex, sSeq_ap, kSet_ok, kSet_ex, sSet_ap, kOwn_ok, kOwn_ex, sOwn_ap, kDrp_ok, kDrp_ex, sDrop_ap, kRet_ok, kRet_ex, sRet_ap, kReO_ok, kReO_ex, sRetO_ap, sRetX_ap, kRx_o, kRx_v, kAp3_t, kAp2_o, kAp1_ok, kAp0_s, sApp_ap, kPi4_s, kPi3_s, kPi2_ok, kPi1_s, kPi0_ok, sPutI_ap, kPr2_ok, kPr1_ok, sPar_ap, kAs2_s, kAs_ok, sAsg_ap, gN_ap, gT_t, gT_l, gs_nil, kGs_s, gs_cons, kFor_ok, sFor_ap, sWhl_ap, kFd_ok, sFld_ap, kRs_ok, sRaise_ap, kSu_ok, kTr3_t, kTr2_t, kTr2_f, kTr_ok, kTr_ex, sTry_ap, kIE2_s, kIE_s, eIsE_ap, kXf_s, eXf_ap, fin_nx, fin_rt, fin_ex, finI_ex, kFi_s, finI_nx, app_nil, app_cons, ins0_nil, ins0_cons, inSl_f, inSl_l, inSl_i, inSl_b, inSl_s, inSl_n, inSl_t, inSl_c, inSl_o, pad_0, pad_1, get_0, get_1, put_0, put_1, look_v, look_o, look_b, frz_v, frz_o, stay_v, stay_o, stay_b, rd_d, rd_n, rds_nil, kRd_s, rds_cons, wipe_nil, wipe_cons, rest_nil, rest_cons, all_nil, all_cons, stb_e, stb_v, stb_b, noX_nil, noX_e, noX_v, noX_o, noX_b, true_and', tbl_ap, putFd_nil, putFd_cons, dAdd_i, dSub_i, dNeg_i, dLt_i, dLe_i, dGt_i, dGe_i, dEq_i, dNe_i, dEq_b, dNe_b, dEq_s, dNe_s, o1_ap, dAbs_i, dInt_i, dInt_b, dBool_i, dLen_l, dLen_t, dLen_c, dIx_l, dIx_t, dIx_c, at_0, at_1, at_2, at_3, isT_ii, isT_bi, isT_bb, isT_ss, isT_ll, isT_tt, isB2_i, map_s, dRev_l, dTup_l, dTup_t, dLst_l, dLst_t, dCut_l, dCutL_l, dGcd_i, isB_b, isS_s, mul_r, mul_l, dDiv_r, dMod_i, kGb_s, kGe_s,
  decide_true, decide_false, Bool.not_true, Bool.not_false, Bool.and_true, Bool.and_false, Bool.false_and, if_true, if_false, ite_true, ite_false, Bool.false_eq_true, List.lookup_cons, List.lookup_nil, List.length_cons, List.length_nil, Nat.reduceBEq, Nat.reduceLT, Nat.reduceLeDiff, Nat.zero_le, seqMax, List.length_map, Nat.reduceAdd, Nat.reduceEqDiff, Nat.reducePow, Int.reduceNe, Int.reduceEq, Int.reduceLT, Int.reduceLE, Int.reduceBEq, Int.reduceNeg, Int.natAbs_neg, ne_eq, not_true, not_false_eq_true, and_self, true_and, and_true, beq_self_eq_true, e]
  rw [List.take_length]; rfl
/-! Euclid -/
theorem common_ok (fu : Nat) (a b : Int) (h : b.natAbs < fu) : F_law_common fu [.int a, .int b] = .ok (.fz (.int ((Nat.gcd a.natAbs b.natAbs : Nat) : Int))) := by
  have run := whl_run (t := lt_law_common_1 fu) (s := lb_law_common_0 fu) (P := fun m Γ => ∃ x y : Nat, Γ = [.val (.int (x : Int)), .val (.int (y : Int))] ∧ Nat.gcd x y = Nat.gcd a.natAbs b.natAbs ∧ m = y) (Qe := fun Γ => ∃ j, Γ = [.val (.int ((Nat.gcd a.natAbs b.natAbs : Nat) : Int)), j]) (fun m Γ hP => by
    obtain ⟨x, y, rfl, hg, rfl⟩ := hP
    by_cases hy : 0 < (m : Int)
    · right
      unfold lt_law_common_1 lb_law_common_0
      have hm : (m : Int) ≠ 0 := by omega
      refine' ⟨_, _, x % m, ?_, ?_, Nat.mod_lt _ (by omega), ?_⟩
      rotate_left 2
      · simp only [kR_s, eC_ap, eN_ap, kN_s, pN_ap, kP_s, kpE_ok, kpE_ex, pE_ap, kU2_s, kU_ok, kU_ex, eU_ap, kB3_s, kB2_ok, kB2_ex, kB1_ok, kB1_ex, eB_ap, kF2_s, kF_ok, kF_ex, eF_ap, aNil_ap, lNil_ap, kA2_ok, kA2_ex, kA1_ok, kA1_ex, aCons_ap, kL2_ok, kL2_ex, kL1_ok, kL1_ex, lCons_ap, kSz_t, kTp_ok, kTp_ex, kLs_ok, kLs_ex, eTup_ap, nLst_ap, kIf_t, kIf_f, kIf_ex, tC_ap, eAnd_ap, eOr_ap, eNot_ap, eIf_ap, sIf_ap, kE2_b, kE_ok, kE_ex, tE_ap, kT3_s, kT2_s, kT_ok, kT_ex, tTru_ap, tru_int, tru_bl, tru_lst, tru_tup, tru_non, tYs_ap, eCB_ap, eAndV_ap, eOrV_ap, eNotV_ap, kCh4_s, kCh3_ok, kCh3_ex, kCh2_t, kCh2_f, kCh1_s, kCh0_ok, kCh0_ex, kCh_ok, kCh_ex, eChain_ap, callF_ap, kCp_s, kC_ok, kC_ex, kCd_ok, kCd_ex, kFr2_r, kFr_ok, kFr_ex, kC1_ok, kC1_ex, eCall_ap, kC2_ok, kC2_ex, nCall_ap, dfz, dfr, prep0, pK_s, prep_d, prep_t, pKt_s, prep_f, pKf_s, mkF_ap, kMk_ok, kMk_ex, kFl_ok, kFl_ex, eFld_ap, fld_s, kO2_s, kO1_ok, kO1_ex, kO0_ok, kO0_ex, eOwn2_ap, kOC3_s, kOC2_ok, kOC2_ex, kOC1_s, kOC0_ok, kOC0_ex, eOwnC_ap, kM2_ok, kM2_ex, kM1_s, kM0_ok, kM0_ex, eMeth_ap, eJs_nil, kJz_t, kJ2_s, kJ_ok, kJ_ex, eJs_cons, kSl4_s, kSl3_s, kSl2_s, kSl1_s, eSl_ap, oP_n, kOp2_s, kOp_s, oP_s, kLc2_s, kLc1_t, kLc_ok, eLc_ap, kIs2_s, kIs_ok, iSeq_ap, it_l, it_t, kIn_s, iN_ap, kRg_ok, iRg1_ap, kRh2_ok, kRh1_ok, iRg2_ap, sNext_ap, sBrk_ap, sCnt_ap, sRetN_ap, kS_nx, kS_rt, kS_bk, kS_ct, kS_ex, sSeq_ap, kSet_ok, kSet_ex, sSet_ap, kOwn_ok, kOwn_ex, sOwn_ap, kDrp_ok, kDrp_ex, sDrop_ap, kRet_ok, kRet_ex, sRet_ap, kReO_ok, kReO_ex, sRetO_ap, sRetX_ap, kRx_o, kRx_v, kAp3_t, kAp2_o, kAp1_ok, kAp0_s, sApp_ap, kPi4_s, kPi3_s, kPi2_ok, kPi1_s, kPi0_ok, sPutI_ap, kPr2_ok, kPr1_ok, sPar_ap, kAs2_s, kAs_ok, sAsg_ap, gN_ap, gT_t, gT_l, gs_nil, kGs_s, gs_cons, kFor_ok, sFor_ap, sWhl_ap, kFd_ok, sFld_ap, kRs_ok, sRaise_ap, kSu_ok, kTr3_t, kTr2_t, kTr2_f, kTr_ok, kTr_ex, sTry_ap, kIE2_s, kIE_s, eIsE_ap, kXf_s, eXf_ap, fin_nx, fin_rt, fin_ex, finI_ex, kFi_s, finI_nx, app_nil, app_cons, ins0_nil, ins0_cons, inSl_f, inSl_l, inSl_i, inSl_b, inSl_s, inSl_n, inSl_t, inSl_c, inSl_o, pad_0, pad_1, get_0, get_1, put_0, put_1, look_v, look_o, look_b, frz_v, frz_o, stay_v, stay_o, stay_b, rd_d, rd_n, rds_nil, kRd_s, rds_cons, wipe_nil, wipe_cons, rest_nil, rest_cons, all_nil, all_cons, stb_e, stb_v, stb_b, noX_nil, noX_e, noX_v, noX_o, noX_b, true_and', tbl_ap, putFd_nil, putFd_cons, dAdd_i, dSub_i, dNeg_i, dLt_i, dLe_i, dGt_i, dGe_i, dEq_i, dNe_i, dEq_b, dNe_b, dEq_s, dNe_s, o1_ap, dAbs_i, dInt_i, dInt_b, dBool_i, dLen_l, dLen_t, dLen_c, dIx_l, dIx_t, dIx_c, at_0, at_1, at_2, at_3, isT_ii, isT_bi, isT_bb, isT_ss, isT_ll, isT_tt, isB2_i, map_s, dRev_l, dTup_l, dTup_t, dLst_l, dLst_t, dCut_l, dCutL_l, dGcd_i, isB_b, isS_s, mul_r, mul_l, dDiv_r, dMod_i, kGb_s, kGe_s,
  decide_true, decide_false, Bool.not_true, Bool.not_false, Bool.and_true, Bool.and_false, Bool.false_and, if_true, if_false, ite_true, ite_false, Bool.false_eq_true, List.lookup_cons, List.lookup_nil, List.length_cons, List.length_nil, Nat.reduceBEq, Nat.reduceLT, Nat.reduceLeDiff, Nat.zero_le, seqMax, List.length_map, Nat.reduceAdd, Nat.reduceEqDiff, Nat.reducePow, Int.reduceNe, Int.reduceEq, Int.reduceLT, Int.reduceLE, Int.reduceBEq, Int.reduceNeg, Int.natAbs_neg, ne_eq, not_true, not_false_eq_true, and_self, true_and, and_true, beq_self_eq_true, hy]
        rfl
      · simp only [kR_s, eC_ap, eN_ap, kN_s, pN_ap, kP_s, kpE_ok, kpE_ex, pE_ap, kU2_s, kU_ok, kU_ex, eU_ap, kB3_s, kB2_ok, kB2_ex, kB1_ok, kB1_ex, eB_ap, kF2_s, kF_ok, kF_ex, eF_ap, aNil_ap, lNil_ap, kA2_ok, kA2_ex, kA1_ok, kA1_ex, aCons_ap, kL2_ok, kL2_ex, kL1_ok, kL1_ex, lCons_ap, kSz_t, kTp_ok, kTp_ex, kLs_ok, kLs_ex, eTup_ap, nLst_ap, kIf_t, kIf_f, kIf_ex, tC_ap, eAnd_ap, eOr_ap, eNot_ap, eIf_ap, sIf_ap, kE2_b, kE_ok, kE_ex, tE_ap, kT3_s, kT2_s, kT_ok, kT_ex, tTru_ap, tru_int, tru_bl, tru_lst, tru_tup, tru_non, tYs_ap, eCB_ap, eAndV_ap, eOrV_ap, eNotV_ap, kCh4_s, kCh3_ok, kCh3_ex, kCh2_t, kCh2_f, kCh1_s, kCh0_ok, kCh0_ex, kCh_ok, kCh_ex, eChain_ap, callF_ap, kCp_s, kC_ok, kC_ex, kCd_ok, kCd_ex, kFr2_r, kFr_ok, kFr_ex, kC1_ok, kC1_ex, eCall_ap, kC2_ok, kC2_ex, nCall_ap, dfz, dfr, prep0, pK_s, prep_d, prep_t, pKt_s, prep_f, pKf_s, mkF_ap, kMk_ok, kMk_ex, kFl_ok, kFl_ex, eFld_ap, fld_s, kO2_s, kO1_ok, kO1_ex, kO0_ok, kO0_ex, eOwn2_ap, kOC3_s, kOC2_ok, kOC2_ex, kOC1_s, kOC0_ok, kOC0_ex, eOwnC_ap, kM2_ok, kM2_ex, kM1_s, kM0_ok, kM0_ex, eMeth_ap, eJs_nil, kJz_t, kJ2_s, kJ_ok, kJ_ex, eJs_cons, kSl4_s, kSl3_s, kSl2_s, kSl1_s, eSl_ap, oP_n, kOp2_s, kOp_s, oP_s, kLc2_s, kLc1_t, kLc_ok, eLc_ap, kIs2_s, kIs_ok, iSeq_ap, it_l, it_t, kIn_s, iN_ap, kRg_ok, iRg1_ap, kRh2_ok, kRh1_ok, iRg2_ap, sNext_ap, sBrk_ap, sCnt_ap, sRetN_ap, kS_nx, kS_rt, kS_bk, kS_ct, kS_ex, sSeq_ap, kSet_ok, kSet_ex, sSet_ap, kOwn_ok, kOwn_ex, sOwn_ap, kDrp_ok, kDrp_ex, sDrop_ap, kRet_ok, kRet_ex, sRet_ap, kReO_ok, kReO_ex, sRetO_ap, sRetX_ap, kRx_o, kRx_v, kAp3_t, kAp2_o, kAp1_ok, kAp0_s, sApp_ap, kPi4_s, kPi3_s, kPi2_ok, kPi1_s, kPi0_ok, sPutI_ap, kPr2_ok, kPr1_ok, sPar_ap, kAs2_s, kAs_ok, sAsg_ap, gN_ap, gT_t, gT_l, gs_nil, kGs_s, gs_cons, kFor_ok, sFor_ap, sWhl_ap, kFd_ok, sFld_ap, kRs_ok, sRaise_ap, kSu_ok, kTr3_t, kTr2_t, kTr2_f, kTr_ok, kTr_ex, sTry_ap, kIE2_s, kIE_s, eIsE_ap, kXf_s, eXf_ap, fin_nx, fin_rt, fin_ex, finI_ex, kFi_s, finI_nx, app_nil, app_cons, ins0_nil, ins0_cons, inSl_f, inSl_l, inSl_i, inSl_b, inSl_s, inSl_n, inSl_t, inSl_c, inSl_o, pad_0, pad_1, get_0, get_1, put_0, put_1, look_v, look_o, look_b, frz_v, frz_o, stay_v, stay_o, stay_b, rd_d, rd_n, rds_nil, kRd_s, rds_cons, wipe_nil, wipe_cons, rest_nil, rest_cons, all_nil, all_cons, stb_e, stb_v, stb_b, noX_nil, noX_e, noX_v, noX_o, noX_b, true_and', tbl_ap, putFd_nil, putFd_cons, dAdd_i, dSub_i, dNeg_i, dLt_i, dLe_i, dGt_i, dGe_i, dEq_i, dNe_i, dEq_b, dNe_b, dEq_s, dNe_s, o1_ap, dAbs_i, dInt_i, dInt_b, dBool_i, dLen_l, dLen_t, dLen_c, dIx_l, dIx_t, dIx_c, at_0, at_1, at_2, at_3, isT_ii, isT_bi, isT_bb, isT_ss, isT_ll, isT_tt, isB2_i, map_s, dRev_l, dTup_l, dTup_t, dLst_l, dLst_t, dCut_l, dCutL_l, dGcd_i, isB_b, isS_s, mul_r, mul_l, dDiv_r, dMod_i, kGb_s, kGe_s,
  decide_true, decide_false, Bool.not_true, Bool.not_false, Bool.and_true, Bool.and_false, Bool.false_and, if_true, if_false, ite_true, ite_false, Bool.false_eq_true, List.lookup_cons, List.lookup_nil, List.length_cons, List.length_nil, Nat.reduceBEq, Nat.reduceLT, Nat.reduceLeDiff, Nat.zero_le, seqMax, List.length_map, Nat.reduceAdd, Nat.reduceEqDiff, Nat.reducePow, Int.reduceNe, Int.reduceEq, Int.reduceLT, Int.reduceLE, Int.reduceBEq, Int.reduceNeg, Int.natAbs_neg, ne_eq, not_true, not_false_eq_true, and_self, true_and, and_true, beq_self_eq_true, hy, dMod_i hm]
        rfl
      · refine ⟨m, x % m, ?_, ?_, rfl⟩
        · rw [Int.fmod_eq_emod_of_nonneg _ (by omega)]; rfl
        · rw [← hg, Nat.gcd_comm x m, Nat.gcd_rec m x, Nat.gcd_comm]
    · left
      have hm : m = 0 := by omega
      subst hm
      unfold lt_law_common_1
      refine' ⟨_, ?_, ?_⟩
      rotate_left
      · simp only [kR_s, eC_ap, eN_ap, kN_s, pN_ap, kP_s, kpE_ok, kpE_ex, pE_ap, kU2_s, kU_ok, kU_ex, eU_ap, kB3_s, kB2_ok, kB2_ex, kB1_ok, kB1_ex, eB_ap, kF2_s, kF_ok, kF_ex, eF_ap, aNil_ap, lNil_ap, kA2_ok, kA2_ex, kA1_ok, kA1_ex, aCons_ap, kL2_ok, kL2_ex, kL1_ok, kL1_ex, lCons_ap, kSz_t, kTp_ok, kTp_ex, kLs_ok, kLs_ex, eTup_ap, nLst_ap, kIf_t, kIf_f, kIf_ex, tC_ap, eAnd_ap, eOr_ap, eNot_ap, eIf_ap, sIf_ap, kE2_b, kE_ok, kE_ex, tE_ap, kT3_s, kT2_s, kT_ok, kT_ex, tTru_ap, tru_int, tru_bl, tru_lst, tru_tup, tru_non, tYs_ap, eCB_ap, eAndV_ap, eOrV_ap, eNotV_ap, kCh4_s, kCh3_ok, kCh3_ex, kCh2_t, kCh2_f, kCh1_s, kCh0_ok, kCh0_ex, kCh_ok, kCh_ex, eChain_ap, callF_ap, kCp_s, kC_ok, kC_ex, kCd_ok, kCd_ex, kFr2_r, kFr_ok, kFr_ex, kC1_ok, kC1_ex, eCall_ap, kC2_ok, kC2_ex, nCall_ap, dfz, dfr, prep0, pK_s, prep_d, prep_t, pKt_s, prep_f, pKf_s, mkF_ap, kMk_ok, kMk_ex, kFl_ok, kFl_ex, eFld_ap, fld_s, kO2_s, kO1_ok, kO1_ex, kO0_ok, kO0_ex, eOwn2_ap, kOC3_s, kOC2_ok, kOC2_ex, kOC1_s, kOC0_ok, kOC0_ex, eOwnC_ap, kM2_ok, kM2_ex, kM1_s, kM0_ok, kM0_ex, eMeth_ap, eJs_nil, kJz_t, kJ2_s, kJ_ok, kJ_ex, eJs_cons, kSl4_s, kSl3_s, kSl2_s, kSl1_s, eSl_ap, oP_n, kOp2_s, kOp_s, oP_s, kLc2_s, kLc1_t, kLc_ok, eLc_ap, kIs2_s, kIs_ok, iSeq_ap, it_l, it_t, kIn_s, iN_ap, kRg_ok, iRg1_ap, kRh2_ok, kRh1_ok, iRg2_ap, sNext_ap, sBrk_ap, sCnt_ap, sRetN_ap, kS_nx, kS_rt, kS_bk, kS_ct, kS_ex, sSeq_ap, kSet_ok, kSet_ex, sSet_ap, kOwn_ok, kOwn_ex, sOwn_ap, kDrp_ok, kDrp_ex, sDrop_ap, kRet_ok, kRet_ex, sRet_ap, kReO_ok, kReO_ex, sRetO_ap, sRetX_ap, kRx_o, kRx_v, kAp3_t, kAp2_o, kAp1_ok, kAp0_s, sApp_ap, kPi4_s, kPi3_s, kPi2_ok, kPi1_s, kPi0_ok, sPutI_ap, kPr2_ok, kPr1_ok, sPar_ap, kAs2_s, kAs_ok, sAsg_ap, gN_ap, gT_t, gT_l, gs_nil, kGs_s, gs_cons, kFor_ok, sFor_ap, sWhl_ap, kFd_ok, sFld_ap, kRs_ok, sRaise_ap, kSu_ok, kTr3_t, kTr2_t, kTr2_f, kTr_ok, kTr_ex, sTry_ap, kIE2_s, kIE_s, eIsE_ap, kXf_s, eXf_ap, fin_nx, fin_rt, fin_ex, finI_ex, kFi_s, finI_nx, app_nil, app_cons, ins0_nil, ins0_cons, inSl_f, inSl_l, inSl_i, inSl_b, inSl_s, inSl_n, inSl_t, inSl_c, inSl_o, pad_0, pad_1, get_0, get_1, put_0, put_1, look_v, look_o, look_b, frz_v, frz_o, stay_v, stay_o, stay_b, rd_d, rd_n, rds_nil, kRd_s, rds_cons, wipe_nil, wipe_cons, rest_nil, rest_cons, all_nil, all_cons, stb_e, stb_v, stb_b, noX_nil, noX_e, noX_v, noX_o, noX_b, true_and', tbl_ap, putFd_nil, putFd_cons, dAdd_i, dSub_i, dNeg_i, dLt_i, dLe_i, dGt_i, dGe_i, dEq_i, dNe_i, dEq_b, dNe_b, dEq_s, dNe_s, o1_ap, dAbs_i, dInt_i, dInt_b, dBool_i, dLen_l, dLen_t, dLen_c, dIx_l, dIx_t, dIx_c, at_0, at_1, at_2, at_3, isT_ii, isT_bi, isT_bb, isT_ss, isT_ll, isT_tt, isB2_i, map_s, dRev_l, dTup_l, dTup_t, dLst_l, dLst_t, dCut_l, dCutL_l, dGcd_i, isB_b, isS_s, mul_r, mul_l, dDiv_r, dMod_i, kGb_s, kGe_s,
  decide_true, decide_false, Bool.not_true, Bool.not_false, Bool.and_true, Bool.and_false, Bool.false_and, if_true, if_false, ite_true, ite_false, Bool.false_eq_true, List.lookup_cons, List.lookup_nil, List.length_cons, List.length_nil, Nat.reduceBEq, Nat.reduceLT, Nat.reduceLeDiff, Nat.zero_le, seqMax, List.length_map, Nat.reduceAdd, Nat.reduceEqDiff, Nat.reducePow, Int.reduceNe, Int.reduceEq, Int.reduceLT, Int.reduceLE, Int.reduceBEq, Int.reduceNeg, Int.natAbs_neg, ne_eq, not_true, not_false_eq_true, and_self, true_and, and_true, beq_self_eq_true, hy]
        rfl
      · rw [Nat.gcd_zero_right] at hg
        rw [hg]; exact ⟨_, rfl⟩)
  have ab : ∀ z : Int, (if z < 0 then -z else z) = (z.natAbs : Int) := fun z => by split <;> omega
  obtain ⟨Γ', e, j, rfl⟩ := run fu b.natAbs [.val (.int (a.natAbs : Int)), .val (.int (b.natAbs : Int))] h ⟨_, _, rfl, rfl, rfl⟩
  unfold F_law_common sv_law_common
  rw [runF_ap rfl]
  simp only [kR_s, eC_ap, eN_ap, kN_s, pN_ap, kP_s, kpE_ok, kpE_ex, pE_ap, kU2_s, kU_ok, kU_ex, eU_ap, kB3_s, kB2_ok, kB2_ex, kB1_ok, kB1_ex, eB_ap, kF2_s, kF_ok, kF_ex, eF_ap, aNil_ap, lNil_ap, kA2_ok, kA2_ex, kA1_ok, kA1_ex, aCons_ap, kL2_ok, kL2_ex, kL1_ok, kL1_ex, lCons_ap, kSz_t, kTp_ok, kTp_ex, kLs_ok, kLs_ex, eTup_ap, nLst_ap, kIf_t, kIf_f, kIf_ex, tC_ap, eAnd_ap, eOr_ap, eNot_ap, eIf_ap, sIf_ap, kE2_b, kE_ok, kE_ex, tE_ap, kT3_s, kT2_s, kT_ok, kT_ex, tTru_ap, tru_int, tru_bl, tru_lst, tru_tup, tru_non, tYs_ap, eCB_ap, eAndV_ap, eOrV_ap, eNotV_ap, kCh4_s, kCh3_ok, kCh3_ex, kCh2_t, kCh2_f, kCh1_s, kCh0_ok, kCh0_ex, kCh_ok, kCh_ex, eChain_ap, callF_ap, kCp_s, kC_ok, kC_ex, kCd_ok, kCd_ex, kFr2_r, kFr_ok, kFr_ex, kC1_ok, kC1_ex, eCall_ap, kC2_ok, kC2_ex, nCall_ap, dfz, dfr, prep0, pK_s, prep_d, prep_t, pKt_s, prep_f, pKf_s, mkF_ap, kMk_ok, kMk_ex, kFl_ok, kFl_ex, eFld_ap, fld_s, kO2_s, kO1_ok, kO1_ex, kO0_ok, kO0_ex, eOwn2_ap, kOC3_s, kOC2_ok, kOC2_ex, kOC1_s, kOC0_ok, kOC0_ex, eOwnC_ap, kM2_ok, kM2_ex, kM1_s, kM0_ok, kM0_ex, eMeth_ap, eJs_nil, kJz_t, kJ2_s, kJ_ok, kJ_ex, eJs_cons, kSl4_s, kSl3_s, kSl2_s, kSl1_s, eSl_ap, oP_n, kOp2_s, kOp_s, oP_s, kLc2_s, kLc1_t, kLc_ok, eLc_ap, kIs2_s, kIs_ok, iSeq_ap, it_l, it_t, kIn_s, iN_ap, kRg_ok, iRg1_ap, kRh2_ok, kRh1_ok, iRg2_ap, sNext_ap, sBrk_ap, sCnt_ap, sRetN_ap, kS_nx, kS_rt, kS_bk, kS_ct, kS_ex, sSeq_ap, kSet_ok, kSet_ex, sSet_ap, kOwn_ok, kOwn_ex, sOwn_ap, kDrp_ok, kDrp_ex, sDrop_ap, kRet_ok, kRet_ex, sRet_ap, kReO_ok, kReO_ex, sRetO_ap, sRetX_ap, kRx_o, kRx_v, kAp3_t, kAp2_o, kAp1_ok, kAp0_s, sApp_ap, kPi4_s, kPi3_s, kPi2_ok, kPi1_s, kPi0_ok, sPutI_ap, kPr2_ok, kPr1_ok, sPar_ap, kAs2_s, kAs_ok, sAsg_ap, gN_ap, gT_t, gT_l, gs_nil, kGs_s, gs_cons, kFor_ok, sFor_ap, sWhl_ap, kFd_ok, sFld_ap, kRs_ok, sRaise_ap, kSu_ok, kTr3_t, kTr2_t, kTr2_f, kTr_ok, kTr_ex, sTry_ap, kIE2_s, kIE_s, eIsE_ap, kXf_s, eXf_ap, fin_nx, fin_rt, fin_ex, finI_ex, kFi_s, finI_nx, app_nil, app_cons, ins0_nil, ins0_cons, inSl_f, inSl_l, inSl_i, inSl_b, inSl_s, inSl_n, inSl_t, inSl_c, inSl_o, pad_0, pad_1, get_0, get_1, put_0, put_1, look_v, look_o, look_b, frz_v, frz_o, stay_v, stay_o, stay_b, rd_d, rd_n, rds_nil, kRd_s, rds_cons, wipe_nil, wipe_cons, rest_nil, rest_cons, all_nil, all_cons, stb_e, stb_v, stb_b, noX_nil, noX_e, noX_v, noX_o, noX_b, true_and', tbl_ap, putFd_nil, putFd_cons, dAdd_i, dSub_i, dNeg_i, dLt_i, dLe_i, dGt_i, dGe_i, dEq_i, dNe_i, dEq_b, dNe_b, dEq_s, dNe_s, o1_ap, dAbs_i, dInt_i, dInt_b, dBool_i, dLen_l, dLen_t, dLen_c, dIx_l, dIx_t, dIx_c, at_0, at_1, at_2, at_3, isT_ii, isT_bi, isT_bb, isT_ss, isT_ll, isT_tt, isB2_i, map_s, dRev_l, dTup_l, dTup_t, dLst_l, dLst_t, dCut_l, dCutL_l, dGcd_i, isB_b, isS_s, mul_r, mul_l, dDiv_r, dMod_i, kGb_s, kGe_s,
  decide_true, decide_false, Bool.not_true, Bool.not_false, Bool.and_true, Bool.and_false, Bool.false_and, if_true, if_false, ite_true, ite_false, Bool.false_eq_true, List.lookup_cons, List.lookup_nil, List.length_cons, List.length_nil, Nat.reduceBEq, Nat.reduceLT, Nat.reduceLeDiff, Nat.zero_le, seqMax, List.length_map, Nat.reduceAdd, Nat.reduceEqDiff, Nat.reducePow, Int.reduceNe, Int.reduceEq, Int.reduceLT, Int.reduceLE, Int.reduceBEq, Int.reduceNeg, Int.natAbs_neg, ne_eq, not_true, not_false_eq_true, and_self, true_and, and_true, beq_self_eq_true, ab, e]
end K01

set_option autoImplicit true
set_option Elab.async false
set_option linter.all false
set_option maxRecDepth 100000
set_option exponentiation.threshold 10000
set_option maxHeartbeats 4000000
namespace K01
open PySem Ed
open Pf (nn nd cg)
abbrev tS (i : Int) : Str := Str.ofString (toString i)
theorem tS_len {i : Int} (h : i.natAbs < 2 ^ 1900) : (tS i).length ≤ 1920 := by
  have : i.natAbs.log2 < 1910 := by
    by_cases h0 : i.natAbs = 0
    · rw [h0]; decide
    · exact Nat.lt_trans ((Nat.log2_lt h0).mpr h) (by decide)
  have e := int_text_length_le (k := 1910) (by decide) this
  show (Str.ofString (toString i)).length ≤ 1920
  rw [ofString_length]; omega
theorem app_len (a b : Str) : (a ++ b).length = a.length + b.length := by
  show (a.cps ++ b.cps).size = _
  rw [Array.size_append]; rfl
theorem emp_app (a : Str) : Str.empty ++ a = a := by
  obtain ⟨c⟩ := a
  show (⟨#[] ++ c⟩ : Str) = ⟨c⟩
  rw [Array.empty_append]
def txt (n d : Int) : Str := if nd n d = 1 then tS (nn n d) else tS (nn n d) ++ "/" ++ tS (nd n d)
theorem slash : ("/" : Str).length = 1 := by decide
theorem str_ok (fu : Nat) {n d : Int} (h : d ≠ 0) (h1 : n.natAbs < 2 ^ 1900) (h2 : d.natAbs < 2 ^ 1900) : F_ShareD_strD fu [sh n d] = .ok (.fz (.str (txt n d))) := by
  have b1 : (nn n d).natAbs < 2 ^ 1900 := Nat.lt_of_le_of_lt (nn_le h) h1
  have b2 : (nd n d).natAbs < 2 ^ 1900 := Nat.lt_of_le_of_lt (nd_le h) h2
  have l1 := tS_len b1
  have l2 := tS_len b2
  unfold F_ShareD_strD sv_ShareD_strD sh
  rw [runF_ap rfl]
  by_cases hd : nd n d = 1
  · simp only [kR_s, eC_ap, eN_ap, kN_s, pN_ap, kP_s, kpE_ok, kpE_ex, pE_ap, kU2_s, kU_ok, kU_ex, eU_ap, kB3_s, kB2_ok, kB2_ex, kB1_ok, kB1_ex, eB_ap, kF2_s, kF_ok, kF_ex, eF_ap, aNil_ap, lNil_ap, kA2_ok, kA2_ex, kA1_ok, kA1_ex, aCons_ap, kL2_ok, kL2_ex, kL1_ok, kL1_ex, lCons_ap, kSz_t, kTp_ok, kTp_ex, kLs_ok, kLs_ex, eTup_ap, nLst_ap, kIf_t, kIf_f, kIf_ex, tC_ap, eAnd_ap, eOr_ap, eNot_ap, eIf_ap, sIf_ap, kE2_b, kE_ok, kE_ex, tE_ap, kT3_s, kT2_s, kT_ok, kT_ex, tTru_ap, tru_int, tru_bl, tru_lst, tru_tup, tru_non, tYs_ap, eCB_ap, eAndV_ap, eOrV_ap, eNotV_ap, kCh4_s, kCh3_ok, kCh3_ex, kCh2_t, kCh2_f, kCh1_s, kCh0_ok, kCh0_ex, kCh_ok, kCh_ex, eChain_ap, callF_ap, kCp_s, kC_ok, kC_ex, kCd_ok, kCd_ex, kFr2_r, kFr_ok, kFr_ex, kC1_ok, kC1_ex, eCall_ap, kC2_ok, kC2_ex, nCall_ap, dfz, dfr, prep0, pK_s, prep_d, prep_t, pKt_s, prep_f, pKf_s, mkF_ap, kMk_ok, kMk_ex, kFl_ok, kFl_ex, eFld_ap, fld_s, kO2_s, kO1_ok, kO1_ex, kO0_ok, kO0_ex, eOwn2_ap, kOC3_s, kOC2_ok, kOC2_ex, kOC1_s, kOC0_ok, kOC0_ex, eOwnC_ap, kM2_ok, kM2_ex, kM1_s, kM0_ok, kM0_ex, eMeth_ap, eJs_nil, kJz_t, kJ2_s, kJ_ok, kJ_ex, eJs_cons, kSl4_s, kSl3_s, kSl2_s, kSl1_s, eSl_ap, oP_n, kOp2_s, kOp_s, oP_s, kLc2_s, kLc1_t, kLc_ok, eLc_ap, kIs2_s, kIs_ok, iSeq_ap, it_l, it_t, kIn_s, iN_ap, kRg_ok, iRg1_ap, kRh2_ok, kRh1_ok, iRg2_ap, sNext_ap, sBrk_ap, sCnt_ap, sRetN_ap, kS_nx, kS_rt, kS_bk, kS_ct, kS_ex, sSeq_ap, kSet_ok, kSet_ex, sSet_ap, kOwn_ok, kOwn_ex, sOwn_ap, kDrp_ok, kDrp_ex, sDrop_ap, kRet_ok, kRet_ex, sRet_ap, kReO_ok, kReO_ex, sRetO_ap, sRetX_ap, kRx_o, kRx_v, kAp3_t, kAp2_o, kAp1_ok, kAp0_s, sApp_ap, kPi4_s, kPi3_s, kPi2_ok, kPi1_s, kPi0_ok, sPutI_ap, kPr2_ok, kPr1_ok, sPar_ap, kAs2_s, kAs_ok, sAsg_ap, gN_ap, gT_t, gT_l, gs_nil, kGs_s, gs_cons, kFor_ok, sFor_ap, sWhl_ap, kFd_ok, sFld_ap, kRs_ok, sRaise_ap, kSu_ok, kTr3_t, kTr2_t, kTr2_f, kTr_ok, kTr_ex, sTry_ap, kIE2_s, kIE_s, eIsE_ap, kXf_s, eXf_ap, fin_nx, fin_rt, fin_ex, finI_ex, kFi_s, finI_nx, app_nil, app_cons, ins0_nil, ins0_cons, inSl_f, inSl_l, inSl_i, inSl_b, inSl_s, inSl_n, inSl_t, inSl_c, inSl_o, pad_0, pad_1, get_0, get_1, put_0, put_1, look_v, look_o, look_b, frz_v, frz_o, stay_v, stay_o, stay_b, rd_d, rd_n, rds_nil, kRd_s, rds_cons, wipe_nil, wipe_cons, rest_nil, rest_cons, all_nil, all_cons, stb_e, stb_v, stb_b, noX_nil, noX_e, noX_v, noX_o, noX_b, true_and', tbl_ap, putFd_nil, putFd_cons, dAdd_i, dSub_i, dNeg_i, dLt_i, dLe_i, dGt_i, dGe_i, dEq_i, dNe_i, dEq_b, dNe_b, dEq_s, dNe_s, o1_ap, dAbs_i, dInt_i, dInt_b, dBool_i, dLen_l, dLen_t, dLen_c, dIx_l, dIx_t, dIx_c, at_0, at_1, at_2, at_3, isT_ii, isT_bi, isT_bb, isT_ss, isT_ll, isT_tt, isB2_i, map_s, dRev_l, dTup_l, dTup_t, dLst_l, dLst_t, dCut_l, dCutL_l, dGcd_i, isB_b, isS_s, mul_r, mul_l, dDiv_r, dMod_i, kGb_s, kGe_s,
  decide_true, decide_false, Bool.not_true, Bool.not_false, Bool.and_true, Bool.and_false, Bool.false_and, if_true, if_false, ite_true, ite_false, Bool.false_eq_true, List.lookup_cons, List.lookup_nil, List.length_cons, List.length_nil, Nat.reduceBEq, Nat.reduceLT, Nat.reduceLeDiff, Nat.zero_le, seqMax, List.length_map, Nat.reduceAdd, Nat.reduceEqDiff, Nat.reducePow, Int.reduceNe, Int.reduceEq, Int.reduceLT, Int.reduceLE, Int.reduceBEq, Int.reduceNeg, Int.natAbs_neg, ne_eq, not_true, not_false_eq_true, and_self, true_and, and_true, beq_self_eq_true, beq_tt hd, dStrI_i b1]
    unfold txt; rw [if_pos hd]
  · have z1 : (tS (nn n d)).length ≤ 16777216 := by omega
    have z2 : (tS (nn n d) ++ "/").length ≤ 16777216 := by rw [app_len, slash]; omega
    have z3 : (tS (nn n d) ++ "/" ++ tS (nd n d)).length ≤ 16777216 := by rw [app_len, app_len, slash]; omega
    simp only [kR_s, eC_ap, eN_ap, kN_s, pN_ap, kP_s, kpE_ok, kpE_ex, pE_ap, kU2_s, kU_ok, kU_ex, eU_ap, kB3_s, kB2_ok, kB2_ex, kB1_ok, kB1_ex, eB_ap, kF2_s, kF_ok, kF_ex, eF_ap, aNil_ap, lNil_ap, kA2_ok, kA2_ex, kA1_ok, kA1_ex, aCons_ap, kL2_ok, kL2_ex, kL1_ok, kL1_ex, lCons_ap, kSz_t, kTp_ok, kTp_ex, kLs_ok, kLs_ex, eTup_ap, nLst_ap, kIf_t, kIf_f, kIf_ex, tC_ap, eAnd_ap, eOr_ap, eNot_ap, eIf_ap, sIf_ap, kE2_b, kE_ok, kE_ex, tE_ap, kT3_s, kT2_s, kT_ok, kT_ex, tTru_ap, tru_int, tru_bl, tru_lst, tru_tup, tru_non, tYs_ap, eCB_ap, eAndV_ap, eOrV_ap, eNotV_ap, kCh4_s, kCh3_ok, kCh3_ex, kCh2_t, kCh2_f, kCh1_s, kCh0_ok, kCh0_ex, kCh_ok, kCh_ex, eChain_ap, callF_ap, kCp_s, kC_ok, kC_ex, kCd_ok, kCd_ex, kFr2_r, kFr_ok, kFr_ex, kC1_ok, kC1_ex, eCall_ap, kC2_ok, kC2_ex, nCall_ap, dfz, dfr, prep0, pK_s, prep_d, prep_t, pKt_s, prep_f, pKf_s, mkF_ap, kMk_ok, kMk_ex, kFl_ok, kFl_ex, eFld_ap, fld_s, kO2_s, kO1_ok, kO1_ex, kO0_ok, kO0_ex, eOwn2_ap, kOC3_s, kOC2_ok, kOC2_ex, kOC1_s, kOC0_ok, kOC0_ex, eOwnC_ap, kM2_ok, kM2_ex, kM1_s, kM0_ok, kM0_ex, eMeth_ap, eJs_nil, kJz_t, kJ2_s, kJ_ok, kJ_ex, eJs_cons, kSl4_s, kSl3_s, kSl2_s, kSl1_s, eSl_ap, oP_n, kOp2_s, kOp_s, oP_s, kLc2_s, kLc1_t, kLc_ok, eLc_ap, kIs2_s, kIs_ok, iSeq_ap, it_l, it_t, kIn_s, iN_ap, kRg_ok, iRg1_ap, kRh2_ok, kRh1_ok, iRg2_ap, sNext_ap, sBrk_ap, sCnt_ap, sRetN_ap, kS_nx, kS_rt, kS_bk, kS_ct, kS_ex, sSeq_ap, kSet_ok, kSet_ex, sSet_ap, kOwn_ok, kOwn_ex, sOwn_ap, kDrp_ok, kDrp_ex, sDrop_ap, kRet_ok, kRet_ex, sRet_ap, kReO_ok, kReO_ex, sRetO_ap, sRetX_ap, kRx_o, kRx_v, kAp3_t, kAp2_o, kAp1_ok, kAp0_s, sApp_ap, kPi4_s, kPi3_s, kPi2_ok, kPi1_s, kPi0_ok, sPutI_ap, kPr2_ok, kPr1_ok, sPar_ap, kAs2_s, kAs_ok, sAsg_ap, gN_ap, gT_t, gT_l, gs_nil, kGs_s, gs_cons, kFor_ok, sFor_ap, sWhl_ap, kFd_ok, sFld_ap, kRs_ok, sRaise_ap, kSu_ok, kTr3_t, kTr2_t, kTr2_f, kTr_ok, kTr_ex, sTry_ap, kIE2_s, kIE_s, eIsE_ap, kXf_s, eXf_ap, fin_nx, fin_rt, fin_ex, finI_ex, kFi_s, finI_nx, app_nil, app_cons, ins0_nil, ins0_cons, inSl_f, inSl_l, inSl_i, inSl_b, inSl_s, inSl_n, inSl_t, inSl_c, inSl_o, pad_0, pad_1, get_0, get_1, put_0, put_1, look_v, look_o, look_b, frz_v, frz_o, stay_v, stay_o, stay_b, rd_d, rd_n, rds_nil, kRd_s, rds_cons, wipe_nil, wipe_cons, rest_nil, rest_cons, all_nil, all_cons, stb_e, stb_v, stb_b, noX_nil, noX_e, noX_v, noX_o, noX_b, true_and', tbl_ap, putFd_nil, putFd_cons, dAdd_i, dSub_i, dNeg_i, dLt_i, dLe_i, dGt_i, dGe_i, dEq_i, dNe_i, dEq_b, dNe_b, dEq_s, dNe_s, o1_ap, dAbs_i, dInt_i, dInt_b, dBool_i, dLen_l, dLen_t, dLen_c, dIx_l, dIx_t, dIx_c, at_0, at_1, at_2, at_3, isT_ii, isT_bi, isT_bb, isT_ss, isT_ll, isT_tt, isB2_i, map_s, dRev_l, dTup_l, dTup_t, dLst_l, dLst_t, dCut_l, dCutL_l, dGcd_i, isB_b, isS_s, mul_r, mul_l, dDiv_r, dMod_i, kGb_s, kGe_s,
  decide_true, decide_false, Bool.not_true, Bool.not_false, Bool.and_true, Bool.and_false, Bool.false_and, if_true, if_false, ite_true, ite_false, Bool.false_eq_true, List.lookup_cons, List.lookup_nil, List.length_cons, List.length_nil, Nat.reduceBEq, Nat.reduceLT, Nat.reduceLeDiff, Nat.zero_le, seqMax, List.length_map, Nat.reduceAdd, Nat.reduceEqDiff, Nat.reducePow, Int.reduceNe, Int.reduceEq, Int.reduceLT, Int.reduceLE, Int.reduceBEq, Int.reduceNeg, Int.natAbs_neg, ne_eq, not_true, not_false_eq_true, and_self, true_and, and_true, beq_self_eq_true, beq_ff hd, dTxt_i b1, dTxt_i b2, emp_app, z1, z2, z3]
    unfold txt; rw [if_neg hd]
theorem cg_nd {n d : Int} (h : d ≠ 0) : d = cg n d ↔ nd n d = 1 := by
  have e := Pf.nd_mul n d
  have hc := Pf.cg_ne (n := n) h
  constructor
  · intro q
    have : nd n d * cg n d = 1 * cg n d := by rw [e, Int.one_mul]; exact q
    exact Int.eq_of_mul_eq_mul_right hc this
  · intro q
    rw [q, Int.one_mul] at e; exact e.symm
theorem text_ok (fu : Nat) {p : Int × Int} (h : p.2 ≠ 0) (h1 : p.1.natAbs < 2 ^ 1900) (h2 : p.2.natAbs < 2 ^ 1900) (hf : 2 ^ 2000 ≤ fu) : F_law_text fu [prt p] = .ok (.fz (.str (txt p.1 p.2))) := by
  obtain ⟨n, d⟩ := p
  dsimp only at h h1 h2 ⊢
  have b1 : (nn n d).natAbs < 2 ^ 1900 := Nat.lt_of_le_of_lt (nn_le h) h1
  have b2 : (nd n d).natAbs < 2 ^ 1900 := Nat.lt_of_le_of_lt (nd_le h) h2
  have l1 := tS_len b1
  have l2 := tS_len b2
  have hg := gcd_le (n := n) h
  have hg0 : 0 < Nat.gcd n.natAbs d.natAbs := Nat.gcd_pos_of_pos_right _ (by omega)
  have hp : (2:Nat) ^ 1900 ≤ 2 ^ 2000 := Nat.pow_le_pow_right (by decide) (by decide)
  have hp2 : (2:Nat) ^ 1900 ≤ 2 ^ 8000 := Nat.pow_le_pow_right (by decide) (by decide)
  have hc := common_ok fu n d (by omega)
  have z1 : (tS (nn n d)).length + ("/" : Str).length ≤ seqMax := by rw [slash]; unfold seqMax; omega
  have z2 : (tS (nn n d) ++ "/").length + (tS (nd n d)).length ≤ seqMax := by rw [app_len, slash]; unfold seqMax; omega
  unfold F_law_text sv_law_text prt
  rw [runF_ap rfl]
  have en : n.fdiv (cg n d) = nn n d := rfl
  have ed : d.fdiv (cg n d) = nd n d := rfl
  by_cases hd : d < 0
  · have e : cg n d = -((Nat.gcd n.natAbs d.natAbs : Nat) : Int) := if_pos hd
    have hk : cg n d ≠ 0 ∧ (cg n d).natAbs < 2 ^ 8000 := by rw [e]; exact ⟨by omega, by omega⟩
    by_cases h3 : d = cg n d
    · simp only [kR_s, eC_ap, eN_ap, kN_s, pN_ap, kP_s, kpE_ok, kpE_ex, pE_ap, kU2_s, kU_ok, kU_ex, eU_ap, kB3_s, kB2_ok, kB2_ex, kB1_ok, kB1_ex, eB_ap, kF2_s, kF_ok, kF_ex, eF_ap, aNil_ap, lNil_ap, kA2_ok, kA2_ex, kA1_ok, kA1_ex, aCons_ap, kL2_ok, kL2_ex, kL1_ok, kL1_ex, lCons_ap, kSz_t, kTp_ok, kTp_ex, kLs_ok, kLs_ex, eTup_ap, nLst_ap, kIf_t, kIf_f, kIf_ex, tC_ap, eAnd_ap, eOr_ap, eNot_ap, eIf_ap, sIf_ap, kE2_b, kE_ok, kE_ex, tE_ap, kT3_s, kT2_s, kT_ok, kT_ex, tTru_ap, tru_int, tru_bl, tru_lst, tru_tup, tru_non, tYs_ap, eCB_ap, eAndV_ap, eOrV_ap, eNotV_ap, kCh4_s, kCh3_ok, kCh3_ex, kCh2_t, kCh2_f, kCh1_s, kCh0_ok, kCh0_ex, kCh_ok, kCh_ex, eChain_ap, callF_ap, kCp_s, kC_ok, kC_ex, kCd_ok, kCd_ex, kFr2_r, kFr_ok, kFr_ex, kC1_ok, kC1_ex, eCall_ap, kC2_ok, kC2_ex, nCall_ap, dfz, dfr, prep0, pK_s, prep_d, prep_t, pKt_s, prep_f, pKf_s, mkF_ap, kMk_ok, kMk_ex, kFl_ok, kFl_ex, eFld_ap, fld_s, kO2_s, kO1_ok, kO1_ex, kO0_ok, kO0_ex, eOwn2_ap, kOC3_s, kOC2_ok, kOC2_ex, kOC1_s, kOC0_ok, kOC0_ex, eOwnC_ap, kM2_ok, kM2_ex, kM1_s, kM0_ok, kM0_ex, eMeth_ap, eJs_nil, kJz_t, kJ2_s, kJ_ok, kJ_ex, eJs_cons, kSl4_s, kSl3_s, kSl2_s, kSl1_s, eSl_ap, oP_n, kOp2_s, kOp_s, oP_s, kLc2_s, kLc1_t, kLc_ok, eLc_ap, kIs2_s, kIs_ok, iSeq_ap, it_l, it_t, kIn_s, iN_ap, kRg_ok, iRg1_ap, kRh2_ok, kRh1_ok, iRg2_ap, sNext_ap, sBrk_ap, sCnt_ap, sRetN_ap, kS_nx, kS_rt, kS_bk, kS_ct, kS_ex, sSeq_ap, kSet_ok, kSet_ex, sSet_ap, kOwn_ok, kOwn_ex, sOwn_ap, kDrp_ok, kDrp_ex, sDrop_ap, kRet_ok, kRet_ex, sRet_ap, kReO_ok, kReO_ex, sRetO_ap, sRetX_ap, kRx_o, kRx_v, kAp3_t, kAp2_o, kAp1_ok, kAp0_s, sApp_ap, kPi4_s, kPi3_s, kPi2_ok, kPi1_s, kPi0_ok, sPutI_ap, kPr2_ok, kPr1_ok, sPar_ap, kAs2_s, kAs_ok, sAsg_ap, gN_ap, gT_t, gT_l, gs_nil, kGs_s, gs_cons, kFor_ok, sFor_ap, sWhl_ap, kFd_ok, sFld_ap, kRs_ok, sRaise_ap, kSu_ok, kTr3_t, kTr2_t, kTr2_f, kTr_ok, kTr_ex, sTry_ap, kIE2_s, kIE_s, eIsE_ap, kXf_s, eXf_ap, fin_nx, fin_rt, fin_ex, finI_ex, kFi_s, finI_nx, app_nil, app_cons, ins0_nil, ins0_cons, inSl_f, inSl_l, inSl_i, inSl_b, inSl_s, inSl_n, inSl_t, inSl_c, inSl_o, pad_0, pad_1, get_0, get_1, put_0, put_1, look_v, look_o, look_b, frz_v, frz_o, stay_v, stay_o, stay_b, rd_d, rd_n, rds_nil, kRd_s, rds_cons, wipe_nil, wipe_cons, rest_nil, rest_cons, all_nil, all_cons, stb_e, stb_v, stb_b, noX_nil, noX_e, noX_v, noX_o, noX_b, true_and', tbl_ap, putFd_nil, putFd_cons, dAdd_i, dSub_i, dNeg_i, dLt_i, dLe_i, dGt_i, dGe_i, dEq_i, dNe_i, dEq_b, dNe_b, dEq_s, dNe_s, o1_ap, dAbs_i, dInt_i, dInt_b, dBool_i, dLen_l, dLen_t, dLen_c, dIx_l, dIx_t, dIx_c, at_0, at_1, at_2, at_3, isT_ii, isT_bi, isT_bb, isT_ss, isT_ll, isT_tt, isB2_i, map_s, dRev_l, dTup_l, dTup_t, dLst_l, dLst_t, dCut_l, dCutL_l, dGcd_i, isB_b, isS_s, mul_r, mul_l, dDiv_r, dMod_i, kGb_s, kGe_s,
  decide_true, decide_false, Bool.not_true, Bool.not_false, Bool.and_true, Bool.and_false, Bool.false_and, if_true, if_false, ite_true, ite_false, Bool.false_eq_true, List.lookup_cons, List.lookup_nil, List.length_cons, List.length_nil, Nat.reduceBEq, Nat.reduceLT, Nat.reduceLeDiff, Nat.zero_le, seqMax, List.length_map, Nat.reduceAdd, Nat.reduceEqDiff, Nat.reducePow, Int.reduceNe, Int.reduceEq, Int.reduceLT, Int.reduceLE, Int.reduceBEq, Int.reduceNeg, Int.natAbs_neg, ne_eq, not_true, not_false_eq_true, and_self, true_and, and_true, beq_self_eq_true, hc, hd, ← e, beq_tt h3, dDiv_i hk, en, dStrI_i b1]
      unfold txt; rw [if_pos ((cg_nd h).mp h3)]
    · simp only [kR_s, eC_ap, eN_ap, kN_s, pN_ap, kP_s, kpE_ok, kpE_ex, pE_ap, kU2_s, kU_ok, kU_ex, eU_ap, kB3_s, kB2_ok, kB2_ex, kB1_ok, kB1_ex, eB_ap, kF2_s, kF_ok, kF_ex, eF_ap, aNil_ap, lNil_ap, kA2_ok, kA2_ex, kA1_ok, kA1_ex, aCons_ap, kL2_ok, kL2_ex, kL1_ok, kL1_ex, lCons_ap, kSz_t, kTp_ok, kTp_ex, kLs_ok, kLs_ex, eTup_ap, nLst_ap, kIf_t, kIf_f, kIf_ex, tC_ap, eAnd_ap, eOr_ap, eNot_ap, eIf_ap, sIf_ap, kE2_b, kE_ok, kE_ex, tE_ap, kT3_s, kT2_s, kT_ok, kT_ex, tTru_ap, tru_int, tru_bl, tru_lst, tru_tup, tru_non, tYs_ap, eCB_ap, eAndV_ap, eOrV_ap, eNotV_ap, kCh4_s, kCh3_ok, kCh3_ex, kCh2_t, kCh2_f, kCh1_s, kCh0_ok, kCh0_ex, kCh_ok, kCh_ex, eChain_ap, callF_ap, kCp_s, kC_ok, kC_ex, kCd_ok, kCd_ex, kFr2_r, kFr_ok, kFr_ex, kC1_ok, kC1_ex, eCall_ap, kC2_ok, kC2_ex, nCall_ap, dfz, dfr, prep0, pK_s, prep_d, prep_t, pKt_s, prep_f, pKf_s, mkF_ap, kMk_ok, kMk_ex, kFl_ok, kFl_ex, eFld_ap, fld_s, kO2_s, kO1_ok, kO1_ex, kO0_ok, kO0_ex, eOwn2_ap, kOC3_s, kOC2_ok, kOC2_ex, kOC1_s, kOC0_ok, kOC0_ex, eOwnC_ap, kM2_ok, kM2_ex, kM1_s, kM0_ok, kM0_ex, eMeth_ap, eJs_nil, kJz_t, kJ2_s, kJ_ok, kJ_ex, eJs_cons, kSl4_s, kSl3_s, kSl2_s, kSl1_s, eSl_ap, oP_n, kOp2_s, kOp_s, oP_s, kLc2_s, kLc1_t, kLc_ok, eLc_ap, kIs2_s, kIs_ok, iSeq_ap, it_l, it_t, kIn_s, iN_ap, kRg_ok, iRg1_ap, kRh2_ok, kRh1_ok, iRg2_ap, sNext_ap, sBrk_ap, sCnt_ap, sRetN_ap, kS_nx, kS_rt, kS_bk, kS_ct, kS_ex, sSeq_ap, kSet_ok, kSet_ex, sSet_ap, kOwn_ok, kOwn_ex, sOwn_ap, kDrp_ok, kDrp_ex, sDrop_ap, kRet_ok, kRet_ex, sRet_ap, kReO_ok, kReO_ex, sRetO_ap, sRetX_ap, kRx_o, kRx_v, kAp3_t, kAp2_o, kAp1_ok, kAp0_s, sApp_ap, kPi4_s, kPi3_s, kPi2_ok, kPi1_s, kPi0_ok, sPutI_ap, kPr2_ok, kPr1_ok, sPar_ap, kAs2_s, kAs_ok, sAsg_ap, gN_ap, gT_t, gT_l, gs_nil, kGs_s, gs_cons, kFor_ok, sFor_ap, sWhl_ap, kFd_ok, sFld_ap, kRs_ok, sRaise_ap, kSu_ok, kTr3_t, kTr2_t, kTr2_f, kTr_ok, kTr_ex, sTry_ap, kIE2_s, kIE_s, eIsE_ap, kXf_s, eXf_ap, fin_nx, fin_rt, fin_ex, finI_ex, kFi_s, finI_nx, app_nil, app_cons, ins0_nil, ins0_cons, inSl_f, inSl_l, inSl_i, inSl_b, inSl_s, inSl_n, inSl_t, inSl_c, inSl_o, pad_0, pad_1, get_0, get_1, put_0, put_1, look_v, look_o, look_b, frz_v, frz_o, stay_v, stay_o, stay_b, rd_d, rd_n, rds_nil, kRd_s, rds_cons, wipe_nil, wipe_cons, rest_nil, rest_cons, all_nil, all_cons, stb_e, stb_v, stb_b, noX_nil, noX_e, noX_v, noX_o, noX_b, true_and', tbl_ap, putFd_nil, putFd_cons, dAdd_i, dSub_i, dNeg_i, dLt_i, dLe_i, dGt_i, dGe_i, dEq_i, dNe_i, dEq_b, dNe_b, dEq_s, dNe_s, o1_ap, dAbs_i, dInt_i, dInt_b, dBool_i, dLen_l, dLen_t, dLen_c, dIx_l, dIx_t, dIx_c, at_0, at_1, at_2, at_3, isT_ii, isT_bi, isT_bb, isT_ss, isT_ll, isT_tt, isB2_i, map_s, dRev_l, dTup_l, dTup_t, dLst_l, dLst_t, dCut_l, dCutL_l, dGcd_i, isB_b, isS_s, mul_r, mul_l, dDiv_r, dMod_i, kGb_s, kGe_s,
  decide_true, decide_false, Bool.not_true, Bool.not_false, Bool.and_true, Bool.and_false, Bool.false_and, if_true, if_false, ite_true, ite_false, Bool.false_eq_true, List.lookup_cons, List.lookup_nil, List.length_cons, List.length_nil, Nat.reduceBEq, Nat.reduceLT, Nat.reduceLeDiff, Nat.zero_le, seqMax, List.length_map, Nat.reduceAdd, Nat.reduceEqDiff, Nat.reducePow, Int.reduceNe, Int.reduceEq, Int.reduceLT, Int.reduceLE, Int.reduceBEq, Int.reduceNeg, Int.natAbs_neg, ne_eq, not_true, not_false_eq_true, and_self, true_and, and_true, beq_self_eq_true, hc, hd, ← e, beq_ff h3, dDiv_i hk, en, ed, dStrI_i b1, dStrI_i b2, dAdd_s z1, dAdd_s z2]
      unfold txt; rw [if_neg (fun q => h3 ((cg_nd h).mpr q))]
  · have e : cg n d = ((Nat.gcd n.natAbs d.natAbs : Nat) : Int) := if_neg hd
    have hk : cg n d ≠ 0 ∧ (cg n d).natAbs < 2 ^ 8000 := by rw [e]; exact ⟨by omega, by omega⟩
    by_cases h3 : d = cg n d
    · simp only [kR_s, eC_ap, eN_ap, kN_s, pN_ap, kP_s, kpE_ok, kpE_ex, pE_ap, kU2_s, kU_ok, kU_ex, eU_ap, kB3_s, kB2_ok, kB2_ex, kB1_ok, kB1_ex, eB_ap, kF2_s, kF_ok, kF_ex, eF_ap, aNil_ap, lNil_ap, kA2_ok, kA2_ex, kA1_ok, kA1_ex, aCons_ap, kL2_ok, kL2_ex, kL1_ok, kL1_ex, lCons_ap, kSz_t, kTp_ok, kTp_ex, kLs_ok, kLs_ex, eTup_ap, nLst_ap, kIf_t, kIf_f, kIf_ex, tC_ap, eAnd_ap, eOr_ap, eNot_ap, eIf_ap, sIf_ap, kE2_b, kE_ok, kE_ex, tE_ap, kT3_s, kT2_s, kT_ok, kT_ex, tTru_ap, tru_int, tru_bl, tru_lst, tru_tup, tru_non, tYs_ap, eCB_ap, eAndV_ap, eOrV_ap, eNotV_ap, kCh4_s, kCh3_ok, kCh3_ex, kCh2_t, kCh2_f, kCh1_s, kCh0_ok, kCh0_ex, kCh_ok, kCh_ex, eChain_ap, callF_ap, kCp_s, kC_ok, kC_ex, kCd_ok, kCd_ex, kFr2_r, kFr_ok, kFr_ex, kC1_ok, kC1_ex, eCall_ap, kC2_ok, kC2_ex, nCall_ap, dfz, dfr, prep0, pK_s, prep_d, prep_t, pKt_s, prep_f, pKf_s, mkF_ap, kMk_ok, kMk_ex, kFl_ok, kFl_ex, eFld_ap, fld_s, kO2_s, kO1_ok, kO1_ex, kO0_ok, kO0_ex, eOwn2_ap, kOC3_s, kOC2_ok, kOC2_ex, kOC1_s, kOC0_ok, kOC0_ex, eOwnC_ap, kM2_ok, kM2_ex, kM1_s, kM0_ok, kM0_ex, eMeth_ap, eJs_nil, kJz_t, kJ2_s, kJ_ok, kJ_ex, eJs_cons, kSl4_s, kSl3_s, kSl2_s, kSl1_s, eSl_ap, oP_n, kOp2_s, kOp_s, oP_s, kLc2_s, kLc1_t, kLc_ok, eLc_ap, kIs2_s, kIs_ok, iSeq_ap, it_l, it_t, kIn_s, iN_ap, kRg_ok, iRg1_ap, kRh2_ok, kRh1_ok, iRg2_ap, sNext_ap, sBrk_ap, sCnt_ap, sRetN_ap, kS_nx, kS_rt, kS_bk, kS_ct, kS_ex, sSeq_ap, kSet_ok, kSet_ex, sSet_ap, kOwn_ok, kOwn_ex, sOwn_ap, kDrp_ok, kDrp_ex, sDrop_ap, kRet_ok, kRet_ex, sRet_ap, kReO_ok, kReO_ex, sRetO_ap, sRetX_ap, kRx_o, kRx_v, kAp3_t, kAp2_o, kAp1_ok, kAp0_s, sApp_ap, kPi4_s, kPi3_s, kPi2_ok, kPi1_s, kPi0_ok, sPutI_ap, kPr2_ok, kPr1_ok, sPar_ap, kAs2_s, kAs_ok, sAsg_ap, gN_ap, gT_t, gT_l, gs_nil, kGs_s, gs_cons, kFor_ok, sFor_ap, sWhl_ap, kFd_ok, sFld_ap, kRs_ok, sRaise_ap, kSu_ok, kTr3_t, kTr2_t, kTr2_f, kTr_ok, kTr_ex, sTry_ap, kIE2_s, kIE_s, eIsE_ap, kXf_s, eXf_ap, fin_nx, fin_rt, fin_ex, finI_ex, kFi_s, finI_nx, app_nil, app_cons, ins0_nil, ins0_cons, inSl_f, inSl_l, inSl_i, inSl_b, inSl_s, inSl_n, inSl_t, inSl_c, inSl_o, pad_0, pad_1, get_0, get_1, put_0, put_1, look_v, look_o, look_b, frz_v, frz_o, stay_v, stay_o, stay_b, rd_d, rd_n, rds_nil, kRd_s, rds_cons, wipe_nil, wipe_cons, rest_nil, rest_cons, all_nil, all_cons, stb_e, stb_v, stb_b, noX_nil, noX_e, noX_v, noX_o, noX_b, true_and', tbl_ap, putFd_nil, putFd_cons, dAdd_i, dSub_i, dNeg_i, dLt_i, dLe_i, dGt_i, dGe_i, dEq_i, dNe_i, dEq_b, dNe_b, dEq_s, dNe_s, o1_ap, dAbs_i, dInt_i, dInt_b, dBool_i, dLen_l, dLen_t, dLen_c, dIx_l, dIx_t, dIx_c, at_0, at_1, at_2, at_3, isT_ii, isT_bi, isT_bb, isT_ss, isT_ll, isT_tt, isB2_i, map_s, dRev_l, dTup_l, dTup_t, dLst_l, dLst_t, dCut_l, dCutL_l, dGcd_i, isB_b, isS_s, mul_r, mul_l, dDiv_r, dMod_i, kGb_s, kGe_s,
  decide_true, decide_false, Bool.not_true, Bool.not_false, Bool.and_true, Bool.and_false, Bool.false_and, if_true, if_false, ite_true, ite_false, Bool.false_eq_true, List.lookup_cons, List.lookup_nil, List.length_cons, List.length_nil, Nat.reduceBEq, Nat.reduceLT, Nat.reduceLeDiff, Nat.zero_le, seqMax, List.length_map, Nat.reduceAdd, Nat.reduceEqDiff, Nat.reducePow, Int.reduceNe, Int.reduceEq, Int.reduceLT, Int.reduceLE, Int.reduceBEq, Int.reduceNeg, Int.natAbs_neg, ne_eq, not_true, not_false_eq_true, and_self, true_and, and_true, beq_self_eq_true, hc, hd, ← e, beq_tt h3, dDiv_i hk, en, dStrI_i b1]
      unfold txt; rw [if_pos ((cg_nd h).mp h3)]
    · simp only [kR_s, eC_ap, eN_ap, kN_s, pN_ap, kP_s, kpE_ok, kpE_ex, pE_ap, kU2_s, kU_ok, kU_ex, eU_ap, kB3_s, kB2_ok, kB2_ex, kB1_ok, kB1_ex, eB_ap, kF2_s, kF_ok, kF_ex, eF_ap, aNil_ap, lNil_ap, kA2_ok, kA2_ex, kA1_ok, kA1_ex, aCons_ap, kL2_ok, kL2_ex, kL1_ok, kL1_ex, lCons_ap, kSz_t, kTp_ok, kTp_ex, kLs_ok, kLs_ex, eTup_ap, nLst_ap, kIf_t, kIf_f, kIf_ex, tC_ap, eAnd_ap, eOr_ap, eNot_ap, eIf_ap, sIf_ap, kE2_b, kE_ok, kE_ex, tE_ap, kT3_s, kT2_s, kT_ok, kT_ex, tTru_ap, tru_int, tru_bl, tru_lst, tru_tup, tru_non, tYs_ap, eCB_ap, eAndV_ap, eOrV_ap, eNotV_ap, kCh4_s, kCh3_ok, kCh3_ex, kCh2_t, kCh2_f, kCh1_s, kCh0_ok, kCh0_ex, kCh_ok, kCh_ex, eChain_ap, callF_ap, kCp_s, kC_ok, kC_ex, kCd_ok, kCd_ex, kFr2_r, kFr_ok, kFr_ex, kC1_ok, kC1_ex, eCall_ap, kC2_ok, kC2_ex, nCall_ap, dfz, dfr, prep0, pK_s, prep_d, prep_t, pKt_s, prep_f, pKf_s, mkF_ap, kMk_ok, kMk_ex, kFl_ok, kFl_ex, eFld_ap, fld_s, kO2_s, kO1_ok, kO1_ex, kO0_ok, kO0_ex, eOwn2_ap, kOC3_s, kOC2_ok, kOC2_ex, kOC1_s, kOC0_ok, kOC0_ex, eOwnC_ap, kM2_ok, kM2_ex, kM1_s, kM0_ok, kM0_ex, eMeth_ap, eJs_nil, kJz_t, kJ2_s, kJ_ok, kJ_ex, eJs_cons, kSl4_s, kSl3_s, kSl2_s, kSl1_s, eSl_ap, oP_n, kOp2_s, kOp_s, oP_s, kLc2_s, kLc1_t, kLc_ok, eLc_ap, kIs2_s, kIs_ok, iSeq_ap, it_l, it_t, kIn_s, iN_ap, kRg_ok, iRg1_ap, kRh2_ok, kRh1_ok, iRg2_ap, sNext_ap, sBrk_ap, sCnt_ap, sRetN_ap, kS_nx, kS_rt, kS_bk, kS_ct, kS_ex, sSeq_ap, kSet_ok, kSet_ex, sSet_ap, kOwn_ok, kOwn_ex, sOwn_ap, kDrp_ok, kDrp_ex, sDrop_ap, kRet_ok, kRet_ex, sRet_ap, kReO_ok, kReO_ex, sRetO_ap, sRetX_ap, kRx_o, kRx_v, kAp3_t, kAp2_o, kAp1_ok, kAp0_s, sApp_ap, kPi4_s, kPi3_s, kPi2_ok, kPi1_s, kPi0_ok, sPutI_ap, kPr2_ok, kPr1_ok, sPar_ap, kAs2_s, kAs_ok, sAsg_ap, gN_ap, gT_t, gT_l, gs_nil, kGs_s, gs_cons, kFor_ok, sFor_ap, sWhl_ap, kFd_ok, sFld_ap, kRs_ok, sRaise_ap, kSu_ok, kTr3_t, kTr2_t, kTr2_f, kTr_ok, kTr_ex, sTry_ap, kIE2_s, kIE_s, eIsE_ap, kXf_s, eXf_ap, fin_nx, fin_rt, fin_ex, finI_ex, kFi_s, finI_nx, app_nil, app_cons, ins0_nil, ins0_cons, inSl_f, inSl_l, inSl_i, inSl_b, inSl_s, inSl_n, inSl_t, inSl_c, inSl_o, pad_0, pad_1, get_0, get_1, put_0, put_1, look_v, look_o, look_b, frz_v, frz_o, stay_v, stay_o, stay_b, rd_d, rd_n, rds_nil, kRd_s, rds_cons, wipe_nil, wipe_cons, rest_nil, rest_cons, all_nil, all_cons, stb_e, stb_v, stb_b, noX_nil, noX_e, noX_v, noX_o, noX_b, true_and', tbl_ap, putFd_nil, putFd_cons, dAdd_i, dSub_i, dNeg_i, dLt_i, dLe_i, dGt_i, dGe_i, dEq_i, dNe_i, dEq_b, dNe_b, dEq_s, dNe_s, o1_ap, dAbs_i, dInt_i, dInt_b, dBool_i, dLen_l, dLen_t, dLen_c, dIx_l, dIx_t, dIx_c, at_0, at_1, at_2, at_3, isT_ii, isT_bi, isT_bb, isT_ss, isT_ll, isT_tt, isB2_i, map_s, dRev_l, dTup_l, dTup_t, dLst_l, dLst_t, dCut_l, dCutL_l, dGcd_i, isB_b, isS_s, mul_r, mul_l, dDiv_r, dMod_i, kGb_s, kGe_s,
  decide_true, decide_false, Bool.not_true, Bool.not_false, Bool.and_true, Bool.and_false, Bool.false_and, if_true, if_false, ite_true, ite_false, Bool.false_eq_true, List.lookup_cons, List.lookup_nil, List.length_cons, List.length_nil, Nat.reduceBEq, Nat.reduceLT, Nat.reduceLeDiff, Nat.zero_le, seqMax, List.length_map, Nat.reduceAdd, Nat.reduceEqDiff, Nat.reducePow, Int.reduceNe, Int.reduceEq, Int.reduceLT, Int.reduceLE, Int.reduceBEq, Int.reduceNeg, Int.natAbs_neg, ne_eq, not_true, not_false_eq_true, and_self, true_and, and_true, beq_self_eq_true, hc, hd, ← e, beq_ff h3, dDiv_i hk, en, ed, dStrI_i b1, dStrI_i b2, dAdd_s z1, dAdd_s z2]
      unfold txt; rw [if_neg (fun q => h3 ((cg_nd h).mpr q))]
theorem is_ok (fu : Nat) {p : Int × Int} (h : p.2 ≠ 0) (h1 : p.1.natAbs < 2 ^ 3000) (h2 : p.2.natAbs < 2 ^ 3000) (hf : 2 ^ 3000 ≤ fu) : F_law_is fu [sh p.1 p.2, prt p] = .ok (.fz (.bl true)) := by
  obtain ⟨n, d⟩ := p
  dsimp only at h h1 h2 ⊢
  have b1 : (nn n d).natAbs < 2 ^ 3000 := Nat.lt_of_le_of_lt (nn_le h) h1
  have b2 : (nd n d).natAbs < 2 ^ 3000 := Nat.lt_of_le_of_lt (nd_le h) h2
  have hg := gcd_le (n := n) h
  have hp2 : (2:Nat) ^ 3000 ≤ 2 ^ 8000 := Nat.pow_le_pow_right (by decide) (by decide)
  have hc := common_ok fu n d (by omega)
  have h0 : ¬ nd n d < 1 := by have := Pf.nd_pos (n := n) h; omega
  have m1 := dMul_i (u := nn n d) (v := ((Nat.gcd n.natAbs d.natAbs : Nat) : Int)) (mulOk_b (by omega) (by omega))
  have m2 := dMul_i (u := nd n d) (v := ((Nat.gcd n.natAbs d.natAbs : Nat) : Int)) (mulOk_b (by omega) (by omega))
  have e1 := Pf.nn_mul n d
  have e2 := Pf.nd_mul n d
  unfold F_law_is sv_law_is sg_law_is_0 sh prt
  rw [runF_ap rfl]
  by_cases hd : d < 0
  · have e : cg n d = -((Nat.gcd n.natAbs d.natAbs : Nat) : Int) := if_pos hd
    rw [e, Int.mul_neg] at e1 e2
    have q1 : nn n d * ((Nat.gcd n.natAbs d.natAbs : Nat) : Int) = n * -1 := by omega
    have q2 : nd n d * ((Nat.gcd n.natAbs d.natAbs : Nat) : Int) = d * -1 := by omega
    simp only [kR_s, eC_ap, eN_ap, kN_s, pN_ap, kP_s, kpE_ok, kpE_ex, pE_ap, kU2_s, kU_ok, kU_ex, eU_ap, kB3_s, kB2_ok, kB2_ex, kB1_ok, kB1_ex, eB_ap, kF2_s, kF_ok, kF_ex, eF_ap, aNil_ap, lNil_ap, kA2_ok, kA2_ex, kA1_ok, kA1_ex, aCons_ap, kL2_ok, kL2_ex, kL1_ok, kL1_ex, lCons_ap, kSz_t, kTp_ok, kTp_ex, kLs_ok, kLs_ex, eTup_ap, nLst_ap, kIf_t, kIf_f, kIf_ex, tC_ap, eAnd_ap, eOr_ap, eNot_ap, eIf_ap, sIf_ap, kE2_b, kE_ok, kE_ex, tE_ap, kT3_s, kT2_s, kT_ok, kT_ex, tTru_ap, tru_int, tru_bl, tru_lst, tru_tup, tru_non, tYs_ap, eCB_ap, eAndV_ap, eOrV_ap, eNotV_ap, kCh4_s, kCh3_ok, kCh3_ex, kCh2_t, kCh2_f, kCh1_s, kCh0_ok, kCh0_ex, kCh_ok, kCh_ex, eChain_ap, callF_ap, kCp_s, kC_ok, kC_ex, kCd_ok, kCd_ex, kFr2_r, kFr_ok, kFr_ex, kC1_ok, kC1_ex, eCall_ap, kC2_ok, kC2_ex, nCall_ap, dfz, dfr, prep0, pK_s, prep_d, prep_t, pKt_s, prep_f, pKf_s, mkF_ap, kMk_ok, kMk_ex, kFl_ok, kFl_ex, eFld_ap, fld_s, kO2_s, kO1_ok, kO1_ex, kO0_ok, kO0_ex, eOwn2_ap, kOC3_s, kOC2_ok, kOC2_ex, kOC1_s, kOC0_ok, kOC0_ex, eOwnC_ap, kM2_ok, kM2_ex, kM1_s, kM0_ok, kM0_ex, eMeth_ap, eJs_nil, kJz_t, kJ2_s, kJ_ok, kJ_ex, eJs_cons, kSl4_s, kSl3_s, kSl2_s, kSl1_s, eSl_ap, oP_n, kOp2_s, kOp_s, oP_s, kLc2_s, kLc1_t, kLc_ok, eLc_ap, kIs2_s, kIs_ok, iSeq_ap, it_l, it_t, kIn_s, iN_ap, kRg_ok, iRg1_ap, kRh2_ok, kRh1_ok, iRg2_ap, sNext_ap, sBrk_ap, sCnt_ap, sRetN_ap, kS_nx, kS_rt, kS_bk, kS_ct, kS_ex, sSeq_ap, kSet_ok, kSet_ex, sSet_ap, kOwn_ok, kOwn_ex, sOwn_ap, kDrp_ok, kDrp_ex, sDrop_ap, kRet_ok, kRet_ex, sRet_ap, kReO_ok, kReO_ex, sRetO_ap, sRetX_ap, kRx_o, kRx_v, kAp3_t, kAp2_o, kAp1_ok, kAp0_s, sApp_ap, kPi4_s, kPi3_s, kPi2_ok, kPi1_s, kPi0_ok, sPutI_ap, kPr2_ok, kPr1_ok, sPar_ap, kAs2_s, kAs_ok, sAsg_ap, gN_ap, gT_t, gT_l, gs_nil, kGs_s, gs_cons, kFor_ok, sFor_ap, sWhl_ap, kFd_ok, sFld_ap, kRs_ok, sRaise_ap, kSu_ok, kTr3_t, kTr2_t, kTr2_f, kTr_ok, kTr_ex, sTry_ap, kIE2_s, kIE_s, eIsE_ap, kXf_s, eXf_ap, fin_nx, fin_rt, fin_ex, finI_ex, kFi_s, finI_nx, app_nil, app_cons, ins0_nil, ins0_cons, inSl_f, inSl_l, inSl_i, inSl_b, inSl_s, inSl_n, inSl_t, inSl_c, inSl_o, pad_0, pad_1, get_0, get_1, put_0, put_1, look_v, look_o, look_b, frz_v, frz_o, stay_v, stay_o, stay_b, rd_d, rd_n, rds_nil, kRd_s, rds_cons, wipe_nil, wipe_cons, rest_nil, rest_cons, all_nil, all_cons, stb_e, stb_v, stb_b, noX_nil, noX_e, noX_v, noX_o, noX_b, true_and', tbl_ap, putFd_nil, putFd_cons, dAdd_i, dSub_i, dNeg_i, dLt_i, dLe_i, dGt_i, dGe_i, dEq_i, dNe_i, dEq_b, dNe_b, dEq_s, dNe_s, o1_ap, dAbs_i, dInt_i, dInt_b, dBool_i, dLen_l, dLen_t, dLen_c, dIx_l, dIx_t, dIx_c, at_0, at_1, at_2, at_3, isT_ii, isT_bi, isT_bb, isT_ss, isT_ll, isT_tt, isB2_i, map_s, dRev_l, dTup_l, dTup_t, dLst_l, dLst_t, dCut_l, dCutL_l, dGcd_i, isB_b, isS_s, mul_r, mul_l, dDiv_r, dMod_i, kGb_s, kGe_s,
  decide_true, decide_false, Bool.not_true, Bool.not_false, Bool.and_true, Bool.and_false, Bool.false_and, if_true, if_false, ite_true, ite_false, Bool.false_eq_true, List.lookup_cons, List.lookup_nil, List.length_cons, List.length_nil, Nat.reduceBEq, Nat.reduceLT, Nat.reduceLeDiff, Nat.zero_le, seqMax, List.length_map, Nat.reduceAdd, Nat.reduceEqDiff, Nat.reducePow, Int.reduceNe, Int.reduceEq, Int.reduceLT, Int.reduceLE, Int.reduceBEq, Int.reduceNeg, Int.natAbs_neg, ne_eq, not_true, not_false_eq_true, and_self, true_and, and_true, beq_self_eq_true, hc, hd, h0, m1, m2, beq_tt q1, beq_tt q2]
  · have e : cg n d = ((Nat.gcd n.natAbs d.natAbs : Nat) : Int) := if_neg hd
    rw [e] at e1 e2
    have q1 : nn n d * ((Nat.gcd n.natAbs d.natAbs : Nat) : Int) = n * 1 := by omega
    have q2 : nd n d * ((Nat.gcd n.natAbs d.natAbs : Nat) : Int) = d * 1 := by omega
    simp only [kR_s, eC_ap, eN_ap, kN_s, pN_ap, kP_s, kpE_ok, kpE_ex, pE_ap, kU2_s, kU_ok, kU_ex, eU_ap, kB3_s, kB2_ok, kB2_ex, kB1_ok, kB1_ex, eB_ap, kF2_s, kF_ok, kF_ex, eF_ap, aNil_ap, lNil_ap, kA2_ok, kA2_ex, kA1_ok, kA1_ex, aCons_ap, kL2_ok, kL2_ex, kL1_ok, kL1_ex, lCons_ap, kSz_t, kTp_ok, kTp_ex, kLs_ok, kLs_ex, eTup_ap, nLst_ap, kIf_t, kIf_f, kIf_ex, tC_ap, eAnd_ap, eOr_ap, eNot_ap, eIf_ap, sIf_ap, kE2_b, kE_ok, kE_ex, tE_ap, kT3_s, kT2_s, kT_ok, kT_ex, tTru_ap, tru_int, tru_bl, tru_lst, tru_tup, tru_non, tYs_ap, eCB_ap, eAndV_ap, eOrV_ap, eNotV_ap, kCh4_s, kCh3_ok, kCh3_ex, kCh2_t, kCh2_f, kCh1_s, kCh0_ok, kCh0_ex, kCh_ok, kCh_ex, eChain_ap, callF_ap, kCp_s, kC_ok, kC_ex, kCd_ok, kCd_ex, kFr2_r, kFr_ok, kFr_ex, kC1_ok, kC1_ex, eCall_ap, kC2_ok, kC2_ex, nCall_ap, dfz, dfr, prep0, pK_s, prep_d, prep_t, pKt_s, prep_f, pKf_s, mkF_ap, kMk_ok, kMk_ex, kFl_ok, kFl_ex, eFld_ap, fld_s, kO2_s, kO1_ok, kO1_ex, kO0_ok, kO0_ex, eOwn2_ap, kOC3_s, kOC2_ok, kOC2_ex, kOC1_s, kOC0_ok, kOC0_ex, eOwnC_ap, kM2_ok, kM2_ex, kM1_s, kM0_ok, kM0_ex, eMeth_ap, eJs_nil, kJz_t, kJ2_s, kJ_ok, kJ_ex, eJs_cons, kSl4_s, kSl3_s, kSl2_s, kSl1_s, eSl_ap, oP_n, kOp2_s, kOp_s, oP_s, kLc2_s, kLc1_t, kLc_ok, eLc_ap, kIs2_s, kIs_ok, iSeq_ap, it_l, it_t, kIn_s, iN_ap, kRg_ok, iRg1_ap, kRh2_ok, kRh1_ok, iRg2_ap, sNext_ap, sBrk_ap, sCnt_ap, sRetN_ap, kS_nx, kS_rt, kS_bk, kS_ct, kS_ex, sSeq_ap, kSet_ok, kSet_ex, sSet_ap, kOwn_ok, kOwn_ex, sOwn_ap, kDrp_ok, kDrp_ex, sDrop_ap, kRet_ok, kRet_ex, sRet_ap, kReO_ok, kReO_ex, sRetO_ap, sRetX_ap, kRx_o, kRx_v, kAp3_t, kAp2_o, kAp1_ok, kAp0_s, sApp_ap, kPi4_s, kPi3_s, kPi2_ok, kPi1_s, kPi0_ok, sPutI_ap, kPr2_ok, kPr1_ok, sPar_ap, kAs2_s, kAs_ok, sAsg_ap, gN_ap, gT_t, gT_l, gs_nil, kGs_s, gs_cons, kFor_ok, sFor_ap, sWhl_ap, kFd_ok, sFld_ap, kRs_ok, sRaise_ap, kSu_ok, kTr3_t, kTr2_t, kTr2_f, kTr_ok, kTr_ex, sTry_ap, kIE2_s, kIE_s, eIsE_ap, kXf_s, eXf_ap, fin_nx, fin_rt, fin_ex, finI_ex, kFi_s, finI_nx, app_nil, app_cons, ins0_nil, ins0_cons, inSl_f, inSl_l, inSl_i, inSl_b, inSl_s, inSl_n, inSl_t, inSl_c, inSl_o, pad_0, pad_1, get_0, get_1, put_0, put_1, look_v, look_o, look_b, frz_v, frz_o, stay_v, stay_o, stay_b, rd_d, rd_n, rds_nil, kRd_s, rds_cons, wipe_nil, wipe_cons, rest_nil, rest_cons, all_nil, all_cons, stb_e, stb_v, stb_b, noX_nil, noX_e, noX_v, noX_o, noX_b, true_and', tbl_ap, putFd_nil, putFd_cons, dAdd_i, dSub_i, dNeg_i, dLt_i, dLe_i, dGt_i, dGe_i, dEq_i, dNe_i, dEq_b, dNe_b, dEq_s, dNe_s, o1_ap, dAbs_i, dInt_i, dInt_b, dBool_i, dLen_l, dLen_t, dLen_c, dIx_l, dIx_t, dIx_c, at_0, at_1, at_2, at_3, isT_ii, isT_bi, isT_bb, isT_ss, isT_ll, isT_tt, isB2_i, map_s, dRev_l, dTup_l, dTup_t, dLst_l, dLst_t, dCut_l, dCutL_l, dGcd_i, isB_b, isS_s, mul_r, mul_l, dDiv_r, dMod_i, kGb_s, kGe_s,
  decide_true, decide_false, Bool.not_true, Bool.not_false, Bool.and_true, Bool.and_false, Bool.false_and, if_true, if_false, ite_true, ite_false, Bool.false_eq_true, List.lookup_cons, List.lookup_nil, List.length_cons, List.length_nil, Nat.reduceBEq, Nat.reduceLT, Nat.reduceLeDiff, Nat.zero_le, seqMax, List.length_map, Nat.reduceAdd, Nat.reduceEqDiff, Nat.reducePow, Int.reduceNe, Int.reduceEq, Int.reduceLT, Int.reduceLE, Int.reduceBEq, Int.reduceNeg, Int.natAbs_neg, ne_eq, not_true, not_false_eq_true, and_self, true_and, and_true, beq_self_eq_true, hc, hd, h0, m1, m2, beq_tt q1, beq_tt q2]
end K01

set_option autoImplicit true
set_option Elab.async false
set_option linter.all false
set_option maxRecDepth 100000
set_option exponentiation.threshold 10000
set_option maxHeartbeats 4000000
namespace K01
open PySem Ed
open Pf (nn nd cg)
def shp (p : Int × Int) : D := sh p.1 p.2
def TotI (x : Sl) (l : List (Int × Int)) (i : Nat) (Γ : Ed.Env) : Prop := ∃ j, Γ = [x, .val (shp (addP (l.take i))), j]
theorem total_step (fu : Nat) (x : Sl) {l : List (Int × Int)} (h : ∀ p ∈ l, Ok1 p) (hl : l.length ≤ 8) : ∀ (i : Nat) (Γ : Ed.Env) (d : D), (l.map shp)[i]? = some d → TotI x l i Γ → ∃ Γ2, kGb (lb_Share_total_0 fu) (gN 2 d Γ) = .ok (.nx, Γ2) ∧ TotI x l (i + 1) Γ2 := by
  intro i Γ d hd hP
  obtain ⟨j3, rfl⟩ := hP
  obtain ⟨p, hp, rfl⟩ := map_get hd
  have hi : i < l.length := (List.getElem?_eq_some_iff.mp hp).1
  obtain ⟨q1, q2, q3⟩ := (St_take h i hi).lt (k := 3000) (by omega)
  obtain ⟨r1, r2, r3⟩ := (h p (get_mem hp)).lt (k := 3000) (by decide)
  have ha := add_ok fu (a := (addP (l.take i)).1) (b := (addP (l.take i)).2) (c := p.1) (d := p.2) q1 r1 q2 q3 r2 r3
  unfold lb_Share_total_0 shp
  unfold sh at ha ⊢
  refine' ⟨_, ?_, ?_⟩
  rotate_left
  · simp only [kR_s, eC_ap, eN_ap, kN_s, pN_ap, kP_s, kpE_ok, kpE_ex, pE_ap, kU2_s, kU_ok, kU_ex, eU_ap, kB3_s, kB2_ok, kB2_ex, kB1_ok, kB1_ex, eB_ap, kF2_s, kF_ok, kF_ex, eF_ap, aNil_ap, lNil_ap, kA2_ok, kA2_ex, kA1_ok, kA1_ex, aCons_ap, kL2_ok, kL2_ex, kL1_ok, kL1_ex, lCons_ap, kSz_t, kTp_ok, kTp_ex, kLs_ok, kLs_ex, eTup_ap, nLst_ap, kIf_t, kIf_f, kIf_ex, tC_ap, eAnd_ap, eOr_ap, eNot_ap, eIf_ap, sIf_ap, kE2_b, kE_ok, kE_ex, tE_ap, kT3_s, kT2_s, kT_ok, kT_ex, tTru_ap, tru_int, tru_bl, tru_lst, tru_tup, tru_non, tYs_ap, eCB_ap, eAndV_ap, eOrV_ap, eNotV_ap, kCh4_s, kCh3_ok, kCh3_ex, kCh2_t, kCh2_f, kCh1_s, kCh0_ok, kCh0_ex, kCh_ok, kCh_ex, eChain_ap, callF_ap, kCp_s, kC_ok, kC_ex, kCd_ok, kCd_ex, kFr2_r, kFr_ok, kFr_ex, kC1_ok, kC1_ex, eCall_ap, kC2_ok, kC2_ex, nCall_ap, dfz, dfr, prep0, pK_s, prep_d, prep_t, pKt_s, prep_f, pKf_s, mkF_ap, kMk_ok, kMk_ex, kFl_ok, kFl_ex, eFld_ap, fld_s, kO2_s, kO1_ok, kO1_ex, kO0_ok, kO0_ex, eOwn2_ap, kOC3_s, kOC2_ok, kOC2_ex, kOC1_s, kOC0_ok, kOC0_ex, eOwnC_ap, kM2_ok, kM2_ex, kM1_s, kM0_ok, kM0_ex, eMeth_ap, eJs_nil, kJz_t, kJ2_s, kJ_ok, kJ_ex, eJs_cons, kSl4_s, kSl3_s, kSl2_s, kSl1_s, eSl_ap, oP_n, kOp2_s, kOp_s, oP_s, kLc2_s, kLc1_t, kLc_ok, eLc_ap, kIs2_s, kIs_ok, iSeq_ap, it_l, it_t, kIn_s, iN_ap, kRg_ok, iRg1_ap, kRh2_ok, kRh1_ok, iRg2_ap, sNext_ap, sBrk_ap, sCnt_ap, sRetN_ap, kS_nx, kS_rt, kS_bk, kS_ct, kS_ex, sSeq_ap, kSet_ok, kSet_ex, sSet_ap, kOwn_ok, kOwn_ex, sOwn_ap, kDrp_ok, kDrp_ex, sDrop_ap, kRet_ok, kRet_ex, sRet_ap, kReO_ok, kReO_ex, sRetO_ap, sRetX_ap, kRx_o, kRx_v, kAp3_t, kAp2_o, kAp1_ok, kAp0_s, sApp_ap, kPi4_s, kPi3_s, kPi2_ok, kPi1_s, kPi0_ok, sPutI_ap, kPr2_ok, kPr1_ok, sPar_ap, kAs2_s, kAs_ok, sAsg_ap, gN_ap, gT_t, gT_l, gs_nil, kGs_s, gs_cons, kFor_ok, sFor_ap, sWhl_ap, kFd_ok, sFld_ap, kRs_ok, sRaise_ap, kSu_ok, kTr3_t, kTr2_t, kTr2_f, kTr_ok, kTr_ex, sTry_ap, kIE2_s, kIE_s, eIsE_ap, kXf_s, eXf_ap, fin_nx, fin_rt, fin_ex, finI_ex, kFi_s, finI_nx, app_nil, app_cons, ins0_nil, ins0_cons, inSl_f, inSl_l, inSl_i, inSl_b, inSl_s, inSl_n, inSl_t, inSl_c, inSl_o, pad_0, pad_1, get_0, get_1, put_0, put_1, look_v, look_o, look_b, frz_v, frz_o, stay_v, stay_o, stay_b, rd_d, rd_n, rds_nil, kRd_s, rds_cons, wipe_nil, wipe_cons, rest_nil, rest_cons, all_nil, all_cons, stb_e, stb_v, stb_b, noX_nil, noX_e, noX_v, noX_o, noX_b, true_and', tbl_ap, putFd_nil, putFd_cons, dAdd_i, dSub_i, dNeg_i, dLt_i, dLe_i, dGt_i, dGe_i, dEq_i, dNe_i, dEq_b, dNe_b, dEq_s, dNe_s, o1_ap, dAbs_i, dInt_i, dInt_b, dBool_i, dLen_l, dLen_t, dLen_c, dIx_l, dIx_t, dIx_c, at_0, at_1, at_2, at_3, isT_ii, isT_bi, isT_bb, isT_ss, isT_ll, isT_tt, isB2_i, map_s, dRev_l, dTup_l, dTup_t, dLst_l, dLst_t, dCut_l, dCutL_l, dGcd_i, isB_b, isS_s, mul_r, mul_l, dDiv_r, dMod_i, kGb_s, kGe_s,
  decide_true, decide_false, Bool.not_true, Bool.not_false, Bool.and_true, Bool.and_false, Bool.false_and, if_true, if_false, ite_true, ite_false, Bool.false_eq_true, List.lookup_cons, List.lookup_nil, List.length_cons, List.length_nil, Nat.reduceBEq, Nat.reduceLT, Nat.reduceLeDiff, Nat.zero_le, seqMax, List.length_map, Nat.reduceAdd, Nat.reduceEqDiff, Nat.reducePow, Int.reduceNe, Int.reduceEq, Int.reduceLT, Int.reduceLE, Int.reduceBEq, Int.reduceNeg, Int.natAbs_neg, ne_eq, not_true, not_false_eq_true, and_self, true_and, and_true, beq_self_eq_true, ha]
    rfl
  · unfold TotI
    rw [addP_take hp]
    exact ⟨_, rfl⟩
theorem total_l (fu : Nat) {l : List (Int × Int)} (h : ∀ p ∈ l, Ok1 p) (hl : l.length ≤ 8) : F_Share_total fu [.lst (l.map shp)] = .ok (.fz (shp (addP l))) := by
  have h0 : TotI (.bor (.lst (l.map shp))) l 0 [.bor (.lst (l.map shp)), .val (shp (0, 1)), .emp] := ⟨_, rfl⟩
  obtain ⟨Γ', e, j3, rfl⟩ := forL_run (g := gN 2) (s := lb_Share_total_0 fu) (ds := l.map shp) h0 (total_step fu _ h hl)
  have hi := init_ok fu (n := 0) (d := 1) (by decide) (by decide +kernel)
  have e' : forL (gN 2) (lb_Share_total_0 fu) (l.map shp) [.bor (.lst (l.map shp)), .val (.ins 1 [(0, .int (nn 0 1)), (1, .int (nd 0 1))]), .emp] = _ := e
  unfold F_Share_total sv_Share_total
  rw [runF_ap rfl]
  simp only [kR_s, eC_ap, eN_ap, kN_s, pN_ap, kP_s, kpE_ok, kpE_ex, pE_ap, kU2_s, kU_ok, kU_ex, eU_ap, kB3_s, kB2_ok, kB2_ex, kB1_ok, kB1_ex, eB_ap, kF2_s, kF_ok, kF_ex, eF_ap, aNil_ap, lNil_ap, kA2_ok, kA2_ex, kA1_ok, kA1_ex, aCons_ap, kL2_ok, kL2_ex, kL1_ok, kL1_ex, lCons_ap, kSz_t, kTp_ok, kTp_ex, kLs_ok, kLs_ex, eTup_ap, nLst_ap, kIf_t, kIf_f, kIf_ex, tC_ap, eAnd_ap, eOr_ap, eNot_ap, eIf_ap, sIf_ap, kE2_b, kE_ok, kE_ex, tE_ap, kT3_s, kT2_s, kT_ok, kT_ex, tTru_ap, tru_int, tru_bl, tru_lst, tru_tup, tru_non, tYs_ap, eCB_ap, eAndV_ap, eOrV_ap, eNotV_ap, kCh4_s, kCh3_ok, kCh3_ex, kCh2_t, kCh2_f, kCh1_s, kCh0_ok, kCh0_ex, kCh_ok, kCh_ex, eChain_ap, callF_ap, kCp_s, kC_ok, kC_ex, kCd_ok, kCd_ex, kFr2_r, kFr_ok, kFr_ex, kC1_ok, kC1_ex, eCall_ap, kC2_ok, kC2_ex, nCall_ap, dfz, dfr, prep0, pK_s, prep_d, prep_t, pKt_s, prep_f, pKf_s, mkF_ap, kMk_ok, kMk_ex, kFl_ok, kFl_ex, eFld_ap, fld_s, kO2_s, kO1_ok, kO1_ex, kO0_ok, kO0_ex, eOwn2_ap, kOC3_s, kOC2_ok, kOC2_ex, kOC1_s, kOC0_ok, kOC0_ex, eOwnC_ap, kM2_ok, kM2_ex, kM1_s, kM0_ok, kM0_ex, eMeth_ap, eJs_nil, kJz_t, kJ2_s, kJ_ok, kJ_ex, eJs_cons, kSl4_s, kSl3_s, kSl2_s, kSl1_s, eSl_ap, oP_n, kOp2_s, kOp_s, oP_s, kLc2_s, kLc1_t, kLc_ok, eLc_ap, kIs2_s, kIs_ok, iSeq_ap, it_l, it_t, kIn_s, iN_ap, kRg_ok, iRg1_ap, kRh2_ok, kRh1_ok, iRg2_ap, sNext_ap, sBrk_ap, sCnt_ap, sRetN_ap, kS_nx, kS_rt, kS_bk, kS_ct, kS_ex, sSeq_ap, kSet_ok, kSet_ex, sSet_ap, kOwn_ok, kOwn_ex, sOwn_ap, kDrp_ok, kDrp_ex, sDrop_ap, kRet_ok, kRet_ex, sRet_ap, kReO_ok, kReO_ex, sRetO_ap, sRetX_ap, kRx_o, kRx_v, kAp3_t, kAp2_o, kAp1_ok, kAp0_s, sApp_ap, kPi4_s, kPi3_s, kPi2_ok, kPi1_s, kPi0_ok, sPutI_ap, kPr2_ok, kPr1_ok, sPar_ap, kAs2_s, kAs_ok, sAsg_ap, gN_ap, gT_t, gT_l, gs_nil, kGs_s, gs_cons, kFor_ok, sFor_ap, sWhl_ap, kFd_ok, sFld_ap, kRs_ok, sRaise_ap, kSu_ok, kTr3_t, kTr2_t, kTr2_f, kTr_ok, kTr_ex, sTry_ap, kIE2_s, kIE_s, eIsE_ap, kXf_s, eXf_ap, fin_nx, fin_rt, fin_ex, finI_ex, kFi_s, finI_nx, app_nil, app_cons, ins0_nil, ins0_cons, inSl_f, inSl_l, inSl_i, inSl_b, inSl_s, inSl_n, inSl_t, inSl_c, inSl_o, pad_0, pad_1, get_0, get_1, put_0, put_1, look_v, look_o, look_b, frz_v, frz_o, stay_v, stay_o, stay_b, rd_d, rd_n, rds_nil, kRd_s, rds_cons, wipe_nil, wipe_cons, rest_nil, rest_cons, all_nil, all_cons, stb_e, stb_v, stb_b, noX_nil, noX_e, noX_v, noX_o, noX_b, true_and', tbl_ap, putFd_nil, putFd_cons, dAdd_i, dSub_i, dNeg_i, dLt_i, dLe_i, dGt_i, dGe_i, dEq_i, dNe_i, dEq_b, dNe_b, dEq_s, dNe_s, o1_ap, dAbs_i, dInt_i, dInt_b, dBool_i, dLen_l, dLen_t, dLen_c, dIx_l, dIx_t, dIx_c, at_0, at_1, at_2, at_3, isT_ii, isT_bi, isT_bb, isT_ss, isT_ll, isT_tt, isB2_i, map_s, dRev_l, dTup_l, dTup_t, dLst_l, dLst_t, dCut_l, dCutL_l, dGcd_i, isB_b, isS_s, mul_r, mul_l, dDiv_r, dMod_i, kGb_s, kGe_s,
  decide_true, decide_false, Bool.not_true, Bool.not_false, Bool.and_true, Bool.and_false, Bool.false_and, if_true, if_false, ite_true, ite_false, Bool.false_eq_true, List.lookup_cons, List.lookup_nil, List.length_cons, List.length_nil, Nat.reduceBEq, Nat.reduceLT, Nat.reduceLeDiff, Nat.zero_le, seqMax, List.length_map, Nat.reduceAdd, Nat.reduceEqDiff, Nat.reducePow, Int.reduceNe, Int.reduceEq, Int.reduceLT, Int.reduceLE, Int.reduceBEq, Int.reduceNeg, Int.natAbs_neg, ne_eq, not_true, not_false_eq_true, and_self, true_and, and_true, beq_self_eq_true, hi, e']
  rw [List.take_length]
theorem total_t (fu : Nat) {l : List (Int × Int)} (h : ∀ p ∈ l, Ok1 p) (hl : l.length ≤ 8) : F_Share_total fu [.tup (l.map shp)] = .ok (.fz (shp (addP l))) := by
  have h0 : TotI (.val (.tup (l.map shp))) l 0 [.val (.tup (l.map shp)), .val (shp (0, 1)), .emp] := ⟨_, rfl⟩
  obtain ⟨Γ', e, j3, rfl⟩ := forL_run (g := gN 2) (s := lb_Share_total_0 fu) (ds := l.map shp) h0 (total_step fu _ h hl)
  have hi := init_ok fu (n := 0) (d := 1) (by decide) (by decide +kernel)
  have e' : forL (gN 2) (lb_Share_total_0 fu) (l.map shp) [.val (.tup (l.map shp)), .val (.ins 1 [(0, .int (nn 0 1)), (1, .int (nd 0 1))]), .emp] = _ := e
  unfold F_Share_total sv_Share_total
  rw [runF_ap rfl]
  simp only [kR_s, eC_ap, eN_ap, kN_s, pN_ap, kP_s, kpE_ok, kpE_ex, pE_ap, kU2_s, kU_ok, kU_ex, eU_ap, kB3_s, kB2_ok, kB2_ex, kB1_ok, kB1_ex, eB_ap, kF2_s, kF_ok, kF_ex, eF_ap, aNil_ap, lNil_ap, kA2_ok, kA2_ex, kA1_ok, kA1_ex, aCons_ap, kL2_ok, kL2_ex, kL1_ok, kL1_ex, lCons_ap, kSz_t, kTp_ok, kTp_ex, kLs_ok, kLs_ex, eTup_ap, nLst_ap, kIf_t, kIf_f, kIf_ex, tC_ap, eAnd_ap, eOr_ap, eNot_ap, eIf_ap, sIf_ap, kE2_b, kE_ok, kE_ex, tE_ap, kT3_s, kT2_s, kT_ok, kT_ex, tTru_ap, tru_int, tru_bl, tru_lst, tru_tup, tru_non, tYs_ap, eCB_ap, eAndV_ap, eOrV_ap, eNotV_ap, kCh4_s, kCh3_ok, kCh3_ex, kCh2_t, kCh2_f, kCh1_s, kCh0_ok, kCh0_ex, kCh_ok, kCh_ex, eChain_ap, callF_ap, kCp_s, kC_ok, kC_ex, kCd_ok, kCd_ex, kFr2_r, kFr_ok, kFr_ex, kC1_ok, kC1_ex, eCall_ap, kC2_ok, kC2_ex, nCall_ap, dfz, dfr, prep0, pK_s, prep_d, prep_t, pKt_s, prep_f, pKf_s, mkF_ap, kMk_ok, kMk_ex, kFl_ok, kFl_ex, eFld_ap, fld_s, kO2_s, kO1_ok, kO1_ex, kO0_ok, kO0_ex, eOwn2_ap, kOC3_s, kOC2_ok, kOC2_ex, kOC1_s, kOC0_ok, kOC0_ex, eOwnC_ap, kM2_ok, kM2_ex, kM1_s, kM0_ok, kM0_ex, eMeth_ap, eJs_nil, kJz_t, kJ2_s, kJ_ok, kJ_ex, eJs_cons, kSl4_s, kSl3_s, kSl2_s, kSl1_s, eSl_ap, oP_n, kOp2_s, kOp_s, oP_s, kLc2_s, kLc1_t, kLc_ok, eLc_ap, kIs2_s, kIs_ok, iSeq_ap, it_l, it_t, kIn_s, iN_ap, kRg_ok, iRg1_ap, kRh2_ok, kRh1_ok, iRg2_ap, sNext_ap, sBrk_ap, sCnt_ap, sRetN_ap, kS_nx, kS_rt, kS_bk, kS_ct, kS_ex, sSeq_ap, kSet_ok, kSet_ex, sSet_ap, kOwn_ok, kOwn_ex, sOwn_ap, kDrp_ok, kDrp_ex, sDrop_ap, kRet_ok, kRet_ex, sRet_ap, kReO_ok, kReO_ex, sRetO_ap, sRetX_ap, kRx_o, kRx_v, kAp3_t, kAp2_o, kAp1_ok, kAp0_s, sApp_ap, kPi4_s, kPi3_s, kPi2_ok, kPi1_s, kPi0_ok, sPutI_ap, kPr2_ok, kPr1_ok, sPar_ap, kAs2_s, kAs_ok, sAsg_ap, gN_ap, gT_t, gT_l, gs_nil, kGs_s, gs_cons, kFor_ok, sFor_ap, sWhl_ap, kFd_ok, sFld_ap, kRs_ok, sRaise_ap, kSu_ok, kTr3_t, kTr2_t, kTr2_f, kTr_ok, kTr_ex, sTry_ap, kIE2_s, kIE_s, eIsE_ap, kXf_s, eXf_ap, fin_nx, fin_rt, fin_ex, finI_ex, kFi_s, finI_nx, app_nil, app_cons, ins0_nil, ins0_cons, inSl_f, inSl_l, inSl_i, inSl_b, inSl_s, inSl_n, inSl_t, inSl_c, inSl_o, pad_0, pad_1, get_0, get_1, put_0, put_1, look_v, look_o, look_b, frz_v, frz_o, stay_v, stay_o, stay_b, rd_d, rd_n, rds_nil, kRd_s, rds_cons, wipe_nil, wipe_cons, rest_nil, rest_cons, all_nil, all_cons, stb_e, stb_v, stb_b, noX_nil, noX_e, noX_v, noX_o, noX_b, true_and', tbl_ap, putFd_nil, putFd_cons, dAdd_i, dSub_i, dNeg_i, dLt_i, dLe_i, dGt_i, dGe_i, dEq_i, dNe_i, dEq_b, dNe_b, dEq_s, dNe_s, o1_ap, dAbs_i, dInt_i, dInt_b, dBool_i, dLen_l, dLen_t, dLen_c, dIx_l, dIx_t, dIx_c, at_0, at_1, at_2, at_3, isT_ii, isT_bi, isT_bb, isT_ss, isT_ll, isT_tt, isB2_i, map_s, dRev_l, dTup_l, dTup_t, dLst_l, dLst_t, dCut_l, dCutL_l, dGcd_i, isB_b, isS_s, mul_r, mul_l, dDiv_r, dMod_i, kGb_s, kGe_s,
  decide_true, decide_false, Bool.not_true, Bool.not_false, Bool.and_true, Bool.and_false, Bool.false_and, if_true, if_false, ite_true, ite_false, Bool.false_eq_true, List.lookup_cons, List.lookup_nil, List.length_cons, List.length_nil, Nat.reduceBEq, Nat.reduceLT, Nat.reduceLeDiff, Nat.zero_le, seqMax, List.length_map, Nat.reduceAdd, Nat.reduceEqDiff, Nat.reducePow, Int.reduceNe, Int.reduceEq, Int.reduceLT, Int.reduceLE, Int.reduceBEq, Int.reduceNeg, Int.natAbs_neg, ne_eq, not_true, not_false_eq_true, and_self, true_and, and_true, beq_self_eq_true, hi, e']
  rw [List.take_length]
theorem addP_rev (l : List (Int × Int)) : addP l.reverse = addP l := by
  unfold addP
  refine (List.reverse_perm l).foldl_eq' (fun x _ y _ z => ?_) _
  obtain ⟨a, b⟩ := x
  obtain ⟨c, d⟩ := y
  obtain ⟨e, f⟩ := z
  simp only [Prod.mk.injEq]
  constructor <;> grind
theorem kinds_eq : dEq (.lst [.bl true, .bl true, .bl false, .bl false, .bl false]) (.lst [.bl true, .bl true, .bl false, .bl false, .bl false]) = some (.bl true) := by rfl
theorem kinds_add : dAdd (.lst [.bl true, .bl true, .bl false]) (.lst [.bl false, .bl false]) = some (.lst [.bl true, .bl true, .bl false, .bl false, .bl false]) := rfl
theorem refused_ok (fu : Nat) (n : Int) (hn : n.natAbs < 2 ^ 3000) (hf : 2 ^ 3000 ≤ fu) : F_law_refused fu [.int n] = .ok (.fz (.bl true)) := by
  have h1 := init_ok fu (n := n) (d := 1) (by decide) (by decide +kernel)
  have h2 := is_ok fu (p := (n, 1)) (show (1:Int) ≠ 0 by decide) hn (show (1:Int).natAbs < 2 ^ 3000 by decide +kernel) hf
  unfold prt sh at h2
  dsimp only at h2
  unfold F_law_refused sv_law_refused
  rw [runF_ap rfl]
  simp only [kR_s, eC_ap, eN_ap, kN_s, pN_ap, kP_s, kpE_ok, kpE_ex, pE_ap, kU2_s, kU_ok, kU_ex, eU_ap, kB3_s, kB2_ok, kB2_ex, kB1_ok, kB1_ex, eB_ap, kF2_s, kF_ok, kF_ex, eF_ap, aNil_ap, lNil_ap, kA2_ok, kA2_ex, kA1_ok, kA1_ex, aCons_ap, kL2_ok, kL2_ex, kL1_ok, kL1_ex, lCons_ap, kSz_t, kTp_ok, kTp_ex, kLs_ok, kLs_ex, eTup_ap, nLst_ap, kIf_t, kIf_f, kIf_ex, tC_ap, eAnd_ap, eOr_ap, eNot_ap, eIf_ap, sIf_ap, kE2_b, kE_ok, kE_ex, tE_ap, kT3_s, kT2_s, kT_ok, kT_ex, tTru_ap, tru_int, tru_bl, tru_lst, tru_tup, tru_non, tYs_ap, eCB_ap, eAndV_ap, eOrV_ap, eNotV_ap, kCh4_s, kCh3_ok, kCh3_ex, kCh2_t, kCh2_f, kCh1_s, kCh0_ok, kCh0_ex, kCh_ok, kCh_ex, eChain_ap, callF_ap, kCp_s, kC_ok, kC_ex, kCd_ok, kCd_ex, kFr2_r, kFr_ok, kFr_ex, kC1_ok, kC1_ex, eCall_ap, kC2_ok, kC2_ex, nCall_ap, dfz, dfr, prep0, pK_s, prep_d, prep_t, pKt_s, prep_f, pKf_s, mkF_ap, kMk_ok, kMk_ex, kFl_ok, kFl_ex, eFld_ap, fld_s, kO2_s, kO1_ok, kO1_ex, kO0_ok, kO0_ex, eOwn2_ap, kOC3_s, kOC2_ok, kOC2_ex, kOC1_s, kOC0_ok, kOC0_ex, eOwnC_ap, kM2_ok, kM2_ex, kM1_s, kM0_ok, kM0_ex, eMeth_ap, eJs_nil, kJz_t, kJ2_s, kJ_ok, kJ_ex, eJs_cons, kSl4_s, kSl3_s, kSl2_s, kSl1_s, eSl_ap, oP_n, kOp2_s, kOp_s, oP_s, kLc2_s, kLc1_t, kLc_ok, eLc_ap, kIs2_s, kIs_ok, iSeq_ap, it_l, it_t, kIn_s, iN_ap, kRg_ok, iRg1_ap, kRh2_ok, kRh1_ok, iRg2_ap, sNext_ap, sBrk_ap, sCnt_ap, sRetN_ap, kS_nx, kS_rt, kS_bk, kS_ct, kS_ex, sSeq_ap, kSet_ok, kSet_ex, sSet_ap, kOwn_ok, kOwn_ex, sOwn_ap, kDrp_ok, kDrp_ex, sDrop_ap, kRet_ok, kRet_ex, sRet_ap, kReO_ok, kReO_ex, sRetO_ap, sRetX_ap, kRx_o, kRx_v, kAp3_t, kAp2_o, kAp1_ok, kAp0_s, sApp_ap, kPi4_s, kPi3_s, kPi2_ok, kPi1_s, kPi0_ok, sPutI_ap, kPr2_ok, kPr1_ok, sPar_ap, kAs2_s, kAs_ok, sAsg_ap, gN_ap, gT_t, gT_l, gs_nil, kGs_s, gs_cons, kFor_ok, sFor_ap, sWhl_ap, kFd_ok, sFld_ap, kRs_ok, sRaise_ap, kSu_ok, kTr3_t, kTr2_t, kTr2_f, kTr_ok, kTr_ex, sTry_ap, kIE2_s, kIE_s, eIsE_ap, kXf_s, eXf_ap, fin_nx, fin_rt, fin_ex, finI_ex, kFi_s, finI_nx, app_nil, app_cons, ins0_nil, ins0_cons, inSl_f, inSl_l, inSl_i, inSl_b, inSl_s, inSl_n, inSl_t, inSl_c, inSl_o, pad_0, pad_1, get_0, get_1, put_0, put_1, look_v, look_o, look_b, frz_v, frz_o, stay_v, stay_o, stay_b, rd_d, rd_n, rds_nil, kRd_s, rds_cons, wipe_nil, wipe_cons, rest_nil, rest_cons, all_nil, all_cons, stb_e, stb_v, stb_b, noX_nil, noX_e, noX_v, noX_o, noX_b, true_and', tbl_ap, putFd_nil, putFd_cons, dAdd_i, dSub_i, dNeg_i, dLt_i, dLe_i, dGt_i, dGe_i, dEq_i, dNe_i, dEq_b, dNe_b, dEq_s, dNe_s, o1_ap, dAbs_i, dInt_i, dInt_b, dBool_i, dLen_l, dLen_t, dLen_c, dIx_l, dIx_t, dIx_c, at_0, at_1, at_2, at_3, isT_ii, isT_bi, isT_bb, isT_ss, isT_ll, isT_tt, isB2_i, map_s, dRev_l, dTup_l, dTup_t, dLst_l, dLst_t, dCut_l, dCutL_l, dGcd_i, isB_b, isS_s, mul_r, mul_l, dDiv_r, dMod_i, kGb_s, kGe_s,
  decide_true, decide_false, Bool.not_true, Bool.not_false, Bool.and_true, Bool.and_false, Bool.false_and, if_true, if_false, ite_true, ite_false, Bool.false_eq_true, List.lookup_cons, List.lookup_nil, List.length_cons, List.length_nil, Nat.reduceBEq, Nat.reduceLT, Nat.reduceLeDiff, Nat.zero_le, seqMax, List.length_map, Nat.reduceAdd, Nat.reduceEqDiff, Nat.reducePow, Int.reduceNe, Int.reduceEq, Int.reduceLT, Int.reduceLE, Int.reduceBEq, Int.reduceNeg, Int.natAbs_neg, ne_eq, not_true, not_false_eq_true, and_self, true_and, and_true, beq_self_eq_true, init_ex, h1, h2, kinds_eq, kinds_add]
/-! the pool's parts -/
theorem at_map {xs : List Int} {k : Int} (h : 0 ≤ k) (h2 : k < xs.length) : at1 (xs.map D.int) k = some (.int (xs.getD k.toNat 0)) := by
  rw [at_getD (d := .int 0) h (by simpa using h2)]
  congr 1
  rw [List.getD_eq_getElem?_getD, List.getD_eq_getElem?_getD, List.getElem?_map, List.getElem?_eq_getElem (by omega)]
  rfl
theorem fmod4 (a : Int) {m : Int} (h : m = 3 ∨ m = 4) : a.fmod m = 0 ∨ a.fmod m = 1 ∨ a.fmod m = 2 ∨ a.fmod m = 3 := by
  have := fm_lt a (m := m) (by omega)
  omega
theorem pow15 : dPow (.int 10) (.int 15) = some (.int 1000000000000000) := rfl
theorem at4_0 {a b c d : D} : at1 [a, b, c, d] 0 = some a := rfl
theorem at4_1 {a b c d : D} : at1 [a, b, c, d] 1 = some b := rfl
theorem at4_2 {a b c d : D} : at1 [a, b, c, d] 2 = some c := rfl
theorem at4_3 {a b c d : D} : at1 [a, b, c, d] 3 = some d := rfl
theorem span_b (a m : Int) (h : 0 < m) (h2 : m ≤ 4000000000000000) : (a.fmod m - m.fdiv 2).natAbs < 2 ^ 52 := by
  have := fm_lt a h
  have pw : (2:Nat) ^ 52 = 4503599627370496 := by decide +kernel
  rw [Int.fdiv_eq_ediv_of_nonneg _ (by decide), pw]
  omega
theorem part_ok (fu : Nat) {xs : List Int} {at_ kd : Int} (h0 : 0 ≤ at_) (h1 : at_ + 4 < xs.length) (hk : kd = 3 ∨ kd = 4) : ∃ v : Int, F_law_part fu [.lst (xs.map D.int), .int at_, .int kd] = .ok (.fz (.int v)) ∧ v.natAbs < 2 ^ 52 := by
  have hk0 : kd ≠ 0 := by omega
  have a0 := at_map (xs := xs) (k := at_) h0 (by omega)
  have a1 := at_map (xs := xs) (k := at_ + 1) (by omega) (by omega)
  have a2 := at_map (xs := xs) (k := at_ + 2) (by omega) (by omega)
  have a3 := at_map (xs := xs) (k := at_ + 3) (by omega) (by omega)
  have a4 := at_map (xs := xs) (k := at_ + 4) (by omega) (by omega)
  unfold F_law_part sv_law_part
  rw [runF_ap rfl]
  have n7 : (7:Int) ≠ 0 := by decide
  have n4 : (41:Int) ≠ 0 := by decide
  have n2 : (2001:Int) ≠ 0 := by decide
  have nb : (2 * 1000000000000000 - 1 : Int) ≠ 0 := by decide
  rcases fmod4 (xs.getD at_.toNat 0) hk with h | h | h | h
  all_goals (refine' ⟨_, ?_, ?_⟩; rotate_left)
  · simp only [kR_s, eC_ap, eN_ap, kN_s, pN_ap, kP_s, kpE_ok, kpE_ex, pE_ap, kU2_s, kU_ok, kU_ex, eU_ap, kB3_s, kB2_ok, kB2_ex, kB1_ok, kB1_ex, eB_ap, kF2_s, kF_ok, kF_ex, eF_ap, aNil_ap, lNil_ap, kA2_ok, kA2_ex, kA1_ok, kA1_ex, aCons_ap, kL2_ok, kL2_ex, kL1_ok, kL1_ex, lCons_ap, kSz_t, kTp_ok, kTp_ex, kLs_ok, kLs_ex, eTup_ap, nLst_ap, kIf_t, kIf_f, kIf_ex, tC_ap, eAnd_ap, eOr_ap, eNot_ap, eIf_ap, sIf_ap, kE2_b, kE_ok, kE_ex, tE_ap, kT3_s, kT2_s, kT_ok, kT_ex, tTru_ap, tru_int, tru_bl, tru_lst, tru_tup, tru_non, tYs_ap, eCB_ap, eAndV_ap, eOrV_ap, eNotV_ap, kCh4_s, kCh3_ok, kCh3_ex, kCh2_t, kCh2_f, kCh1_s, kCh0_ok, kCh0_ex, kCh_ok, kCh_ex, eChain_ap, callF_ap, kCp_s, kC_ok, kC_ex, kCd_ok, kCd_ex, kFr2_r, kFr_ok, kFr_ex, kC1_ok, kC1_ex, eCall_ap, kC2_ok, kC2_ex, nCall_ap, dfz, dfr, prep0, pK_s, prep_d, prep_t, pKt_s, prep_f, pKf_s, mkF_ap, kMk_ok, kMk_ex, kFl_ok, kFl_ex, eFld_ap, fld_s, kO2_s, kO1_ok, kO1_ex, kO0_ok, kO0_ex, eOwn2_ap, kOC3_s, kOC2_ok, kOC2_ex, kOC1_s, kOC0_ok, kOC0_ex, eOwnC_ap, kM2_ok, kM2_ex, kM1_s, kM0_ok, kM0_ex, eMeth_ap, eJs_nil, kJz_t, kJ2_s, kJ_ok, kJ_ex, eJs_cons, kSl4_s, kSl3_s, kSl2_s, kSl1_s, eSl_ap, oP_n, kOp2_s, kOp_s, oP_s, kLc2_s, kLc1_t, kLc_ok, eLc_ap, kIs2_s, kIs_ok, iSeq_ap, it_l, it_t, kIn_s, iN_ap, kRg_ok, iRg1_ap, kRh2_ok, kRh1_ok, iRg2_ap, sNext_ap, sBrk_ap, sCnt_ap, sRetN_ap, kS_nx, kS_rt, kS_bk, kS_ct, kS_ex, sSeq_ap, kSet_ok, kSet_ex, sSet_ap, kOwn_ok, kOwn_ex, sOwn_ap, kDrp_ok, kDrp_ex, sDrop_ap, kRet_ok, kRet_ex, sRet_ap, kReO_ok, kReO_ex, sRetO_ap, sRetX_ap, kRx_o, kRx_v, kAp3_t, kAp2_o, kAp1_ok, kAp0_s, sApp_ap, kPi4_s, kPi3_s, kPi2_ok, kPi1_s, kPi0_ok, sPutI_ap, kPr2_ok, kPr1_ok, sPar_ap, kAs2_s, kAs_ok, sAsg_ap, gN_ap, gT_t, gT_l, gs_nil, kGs_s, gs_cons, kFor_ok, sFor_ap, sWhl_ap, kFd_ok, sFld_ap, kRs_ok, sRaise_ap, kSu_ok, kTr3_t, kTr2_t, kTr2_f, kTr_ok, kTr_ex, sTry_ap, kIE2_s, kIE_s, eIsE_ap, kXf_s, eXf_ap, fin_nx, fin_rt, fin_ex, finI_ex, kFi_s, finI_nx, app_nil, app_cons, ins0_nil, ins0_cons, inSl_f, inSl_l, inSl_i, inSl_b, inSl_s, inSl_n, inSl_t, inSl_c, inSl_o, pad_0, pad_1, get_0, get_1, put_0, put_1, look_v, look_o, look_b, frz_v, frz_o, stay_v, stay_o, stay_b, rd_d, rd_n, rds_nil, kRd_s, rds_cons, wipe_nil, wipe_cons, rest_nil, rest_cons, all_nil, all_cons, stb_e, stb_v, stb_b, noX_nil, noX_e, noX_v, noX_o, noX_b, true_and', tbl_ap, putFd_nil, putFd_cons, dAdd_i, dSub_i, dNeg_i, dLt_i, dLe_i, dGt_i, dGe_i, dEq_i, dNe_i, dEq_b, dNe_b, dEq_s, dNe_s, o1_ap, dAbs_i, dInt_i, dInt_b, dBool_i, dLen_l, dLen_t, dLen_c, dIx_l, dIx_t, dIx_c, at_0, at_1, at_2, at_3, isT_ii, isT_bi, isT_bb, isT_ss, isT_ll, isT_tt, isB2_i, map_s, dRev_l, dTup_l, dTup_t, dLst_l, dLst_t, dCut_l, dCutL_l, dGcd_i, isB_b, isS_s, mul_r, mul_l, dDiv_r, dMod_i, kGb_s, kGe_s,
  decide_true, decide_false, Bool.not_true, Bool.not_false, Bool.and_true, Bool.and_false, Bool.false_and, if_true, if_false, ite_true, ite_false, Bool.false_eq_true, List.lookup_cons, List.lookup_nil, List.length_cons, List.length_nil, Nat.reduceBEq, Nat.reduceLT, Nat.reduceLeDiff, Nat.zero_le, seqMax, List.length_map, Nat.reduceAdd, Nat.reduceEqDiff, Nat.reducePow, Int.reduceNe, Int.reduceEq, Int.reduceLT, Int.reduceLE, Int.reduceBEq, Int.reduceNeg, Int.natAbs_neg, ne_eq, not_true, not_false_eq_true, and_self, true_and, and_true, beq_self_eq_true, a0, a1, a2, a3, a4, dMod_i hk0, h, pow15, at4_0]
    rfl
  · exact span_b _ _ (by decide) (by decide)
  · simp only [kR_s, eC_ap, eN_ap, kN_s, pN_ap, kP_s, kpE_ok, kpE_ex, pE_ap, kU2_s, kU_ok, kU_ex, eU_ap, kB3_s, kB2_ok, kB2_ex, kB1_ok, kB1_ex, eB_ap, kF2_s, kF_ok, kF_ex, eF_ap, aNil_ap, lNil_ap, kA2_ok, kA2_ex, kA1_ok, kA1_ex, aCons_ap, kL2_ok, kL2_ex, kL1_ok, kL1_ex, lCons_ap, kSz_t, kTp_ok, kTp_ex, kLs_ok, kLs_ex, eTup_ap, nLst_ap, kIf_t, kIf_f, kIf_ex, tC_ap, eAnd_ap, eOr_ap, eNot_ap, eIf_ap, sIf_ap, kE2_b, kE_ok, kE_ex, tE_ap, kT3_s, kT2_s, kT_ok, kT_ex, tTru_ap, tru_int, tru_bl, tru_lst, tru_tup, tru_non, tYs_ap, eCB_ap, eAndV_ap, eOrV_ap, eNotV_ap, kCh4_s, kCh3_ok, kCh3_ex, kCh2_t, kCh2_f, kCh1_s, kCh0_ok, kCh0_ex, kCh_ok, kCh_ex, eChain_ap, callF_ap, kCp_s, kC_ok, kC_ex, kCd_ok, kCd_ex, kFr2_r, kFr_ok, kFr_ex, kC1_ok, kC1_ex, eCall_ap, kC2_ok, kC2_ex, nCall_ap, dfz, dfr, prep0, pK_s, prep_d, prep_t, pKt_s, prep_f, pKf_s, mkF_ap, kMk_ok, kMk_ex, kFl_ok, kFl_ex, eFld_ap, fld_s, kO2_s, kO1_ok, kO1_ex, kO0_ok, kO0_ex, eOwn2_ap, kOC3_s, kOC2_ok, kOC2_ex, kOC1_s, kOC0_ok, kOC0_ex, eOwnC_ap, kM2_ok, kM2_ex, kM1_s, kM0_ok, kM0_ex, eMeth_ap, eJs_nil, kJz_t, kJ2_s, kJ_ok, kJ_ex, eJs_cons, kSl4_s, kSl3_s, kSl2_s, kSl1_s, eSl_ap, oP_n, kOp2_s, kOp_s, oP_s, kLc2_s, kLc1_t, kLc_ok, eLc_ap, kIs2_s, kIs_ok, iSeq_ap, it_l, it_t, kIn_s, iN_ap, kRg_ok, iRg1_ap, kRh2_ok, kRh1_ok, iRg2_ap, sNext_ap, sBrk_ap, sCnt_ap, sRetN_ap, kS_nx, kS_rt, kS_bk, kS_ct, kS_ex, sSeq_ap, kSet_ok, kSet_ex, sSet_ap, kOwn_ok, kOwn_ex, sOwn_ap, kDrp_ok, kDrp_ex, sDrop_ap, kRet_ok, kRet_ex, sRet_ap, kReO_ok, kReO_ex, sRetO_ap, sRetX_ap, kRx_o, kRx_v, kAp3_t, kAp2_o, kAp1_ok, kAp0_s, sApp_ap, kPi4_s, kPi3_s, kPi2_ok, kPi1_s, kPi0_ok, sPutI_ap, kPr2_ok, kPr1_ok, sPar_ap, kAs2_s, kAs_ok, sAsg_ap, gN_ap, gT_t, gT_l, gs_nil, kGs_s, gs_cons, kFor_ok, sFor_ap, sWhl_ap, kFd_ok, sFld_ap, kRs_ok, sRaise_ap, kSu_ok, kTr3_t, kTr2_t, kTr2_f, kTr_ok, kTr_ex, sTry_ap, kIE2_s, kIE_s, eIsE_ap, kXf_s, eXf_ap, fin_nx, fin_rt, fin_ex, finI_ex, kFi_s, finI_nx, app_nil, app_cons, ins0_nil, ins0_cons, inSl_f, inSl_l, inSl_i, inSl_b, inSl_s, inSl_n, inSl_t, inSl_c, inSl_o, pad_0, pad_1, get_0, get_1, put_0, put_1, look_v, look_o, look_b, frz_v, frz_o, stay_v, stay_o, stay_b, rd_d, rd_n, rds_nil, kRd_s, rds_cons, wipe_nil, wipe_cons, rest_nil, rest_cons, all_nil, all_cons, stb_e, stb_v, stb_b, noX_nil, noX_e, noX_v, noX_o, noX_b, true_and', tbl_ap, putFd_nil, putFd_cons, dAdd_i, dSub_i, dNeg_i, dLt_i, dLe_i, dGt_i, dGe_i, dEq_i, dNe_i, dEq_b, dNe_b, dEq_s, dNe_s, o1_ap, dAbs_i, dInt_i, dInt_b, dBool_i, dLen_l, dLen_t, dLen_c, dIx_l, dIx_t, dIx_c, at_0, at_1, at_2, at_3, isT_ii, isT_bi, isT_bb, isT_ss, isT_ll, isT_tt, isB2_i, map_s, dRev_l, dTup_l, dTup_t, dLst_l, dLst_t, dCut_l, dCutL_l, dGcd_i, isB_b, isS_s, mul_r, mul_l, dDiv_r, dMod_i, kGb_s, kGe_s,
  decide_true, decide_false, Bool.not_true, Bool.not_false, Bool.and_true, Bool.and_false, Bool.false_and, if_true, if_false, ite_true, ite_false, Bool.false_eq_true, List.lookup_cons, List.lookup_nil, List.length_cons, List.length_nil, Nat.reduceBEq, Nat.reduceLT, Nat.reduceLeDiff, Nat.zero_le, seqMax, List.length_map, Nat.reduceAdd, Nat.reduceEqDiff, Nat.reducePow, Int.reduceNe, Int.reduceEq, Int.reduceLT, Int.reduceLE, Int.reduceBEq, Int.reduceNeg, Int.natAbs_neg, ne_eq, not_true, not_false_eq_true, and_self, true_and, and_true, beq_self_eq_true, a0, a1, a2, a3, a4, dMod_i hk0, h, pow15, at4_1]
    rfl
  · exact span_b _ _ (by decide) (by decide)
  · simp only [kR_s, eC_ap, eN_ap, kN_s, pN_ap, kP_s, kpE_ok, kpE_ex, pE_ap, kU2_s, kU_ok, kU_ex, eU_ap, kB3_s, kB2_ok, kB2_ex, kB1_ok, kB1_ex, eB_ap, kF2_s, kF_ok, kF_ex, eF_ap, aNil_ap, lNil_ap, kA2_ok, kA2_ex, kA1_ok, kA1_ex, aCons_ap, kL2_ok, kL2_ex, kL1_ok, kL1_ex, lCons_ap, kSz_t, kTp_ok, kTp_ex, kLs_ok, kLs_ex, eTup_ap, nLst_ap, kIf_t, kIf_f, kIf_ex, tC_ap, eAnd_ap, eOr_ap, eNot_ap, eIf_ap, sIf_ap, kE2_b, kE_ok, kE_ex, tE_ap, kT3_s, kT2_s, kT_ok, kT_ex, tTru_ap, tru_int, tru_bl, tru_lst, tru_tup, tru_non, tYs_ap, eCB_ap, eAndV_ap, eOrV_ap, eNotV_ap, kCh4_s, kCh3_ok, kCh3_ex, kCh2_t, kCh2_f, kCh1_s, kCh0_ok, kCh0_ex, kCh_ok, kCh_ex, eChain_ap, callF_ap, kCp_s, kC_ok, kC_ex, kCd_ok, kCd_ex, kFr2_r, kFr_ok, kFr_ex, kC1_ok, kC1_ex, eCall_ap, kC2_ok, kC2_ex, nCall_ap, dfz, dfr, prep0, pK_s, prep_d, prep_t, pKt_s, prep_f, pKf_s, mkF_ap, kMk_ok, kMk_ex, kFl_ok, kFl_ex, eFld_ap, fld_s, kO2_s, kO1_ok, kO1_ex, kO0_ok, kO0_ex, eOwn2_ap, kOC3_s, kOC2_ok, kOC2_ex, kOC1_s, kOC0_ok, kOC0_ex, eOwnC_ap, kM2_ok, kM2_ex, kM1_s, kM0_ok, kM0_ex, eMeth_ap, eJs_nil, kJz_t, kJ2_s, kJ_ok, kJ_ex, eJs_cons, kSl4_s, kSl3_s, kSl2_s, kSl1_s, eSl_ap, oP_n, kOp2_s, kOp_s, oP_s, kLc2_s, kLc1_t, kLc_ok, eLc_ap, kIs2_s, kIs_ok, iSeq_ap, it_l, it_t, kIn_s, iN_ap, kRg_ok, iRg1_ap, kRh2_ok, kRh1_ok, iRg2_ap, sNext_ap, sBrk_ap, sCnt_ap, sRetN_ap, kS_nx, kS_rt, kS_bk, kS_ct, kS_ex, sSeq_ap, kSet_ok, kSet_ex, sSet_ap, kOwn_ok, kOwn_ex, sOwn_ap, kDrp_ok, kDrp_ex, sDrop_ap, kRet_ok, kRet_ex, sRet_ap, kReO_ok, kReO_ex, sRetO_ap, sRetX_ap, kRx_o, kRx_v, kAp3_t, kAp2_o, kAp1_ok, kAp0_s, sApp_ap, kPi4_s, kPi3_s, kPi2_ok, kPi1_s, kPi0_ok, sPutI_ap, kPr2_ok, kPr1_ok, sPar_ap, kAs2_s, kAs_ok, sAsg_ap, gN_ap, gT_t, gT_l, gs_nil, kGs_s, gs_cons, kFor_ok, sFor_ap, sWhl_ap, kFd_ok, sFld_ap, kRs_ok, sRaise_ap, kSu_ok, kTr3_t, kTr2_t, kTr2_f, kTr_ok, kTr_ex, sTry_ap, kIE2_s, kIE_s, eIsE_ap, kXf_s, eXf_ap, fin_nx, fin_rt, fin_ex, finI_ex, kFi_s, finI_nx, app_nil, app_cons, ins0_nil, ins0_cons, inSl_f, inSl_l, inSl_i, inSl_b, inSl_s, inSl_n, inSl_t, inSl_c, inSl_o, pad_0, pad_1, get_0, get_1, put_0, put_1, look_v, look_o, look_b, frz_v, frz_o, stay_v, stay_o, stay_b, rd_d, rd_n, rds_nil, kRd_s, rds_cons, wipe_nil, wipe_cons, rest_nil, rest_cons, all_nil, all_cons, stb_e, stb_v, stb_b, noX_nil, noX_e, noX_v, noX_o, noX_b, true_and', tbl_ap, putFd_nil, putFd_cons, dAdd_i, dSub_i, dNeg_i, dLt_i, dLe_i, dGt_i, dGe_i, dEq_i, dNe_i, dEq_b, dNe_b, dEq_s, dNe_s, o1_ap, dAbs_i, dInt_i, dInt_b, dBool_i, dLen_l, dLen_t, dLen_c, dIx_l, dIx_t, dIx_c, at_0, at_1, at_2, at_3, isT_ii, isT_bi, isT_bb, isT_ss, isT_ll, isT_tt, isB2_i, map_s, dRev_l, dTup_l, dTup_t, dLst_l, dLst_t, dCut_l, dCutL_l, dGcd_i, isB_b, isS_s, mul_r, mul_l, dDiv_r, dMod_i, kGb_s, kGe_s,
  decide_true, decide_false, Bool.not_true, Bool.not_false, Bool.and_true, Bool.and_false, Bool.false_and, if_true, if_false, ite_true, ite_false, Bool.false_eq_true, List.lookup_cons, List.lookup_nil, List.length_cons, List.length_nil, Nat.reduceBEq, Nat.reduceLT, Nat.reduceLeDiff, Nat.zero_le, seqMax, List.length_map, Nat.reduceAdd, Nat.reduceEqDiff, Nat.reducePow, Int.reduceNe, Int.reduceEq, Int.reduceLT, Int.reduceLE, Int.reduceBEq, Int.reduceNeg, Int.natAbs_neg, ne_eq, not_true, not_false_eq_true, and_self, true_and, and_true, beq_self_eq_true, a0, a1, a2, a3, a4, dMod_i hk0, h, pow15, at4_2]
    rfl
  · exact span_b _ _ (by decide) (by decide)
  · simp only [kR_s, eC_ap, eN_ap, kN_s, pN_ap, kP_s, kpE_ok, kpE_ex, pE_ap, kU2_s, kU_ok, kU_ex, eU_ap, kB3_s, kB2_ok, kB2_ex, kB1_ok, kB1_ex, eB_ap, kF2_s, kF_ok, kF_ex, eF_ap, aNil_ap, lNil_ap, kA2_ok, kA2_ex, kA1_ok, kA1_ex, aCons_ap, kL2_ok, kL2_ex, kL1_ok, kL1_ex, lCons_ap, kSz_t, kTp_ok, kTp_ex, kLs_ok, kLs_ex, eTup_ap, nLst_ap, kIf_t, kIf_f, kIf_ex, tC_ap, eAnd_ap, eOr_ap, eNot_ap, eIf_ap, sIf_ap, kE2_b, kE_ok, kE_ex, tE_ap, kT3_s, kT2_s, kT_ok, kT_ex, tTru_ap, tru_int, tru_bl, tru_lst, tru_tup, tru_non, tYs_ap, eCB_ap, eAndV_ap, eOrV_ap, eNotV_ap, kCh4_s, kCh3_ok, kCh3_ex, kCh2_t, kCh2_f, kCh1_s, kCh0_ok, kCh0_ex, kCh_ok, kCh_ex, eChain_ap, callF_ap, kCp_s, kC_ok, kC_ex, kCd_ok, kCd_ex, kFr2_r, kFr_ok, kFr_ex, kC1_ok, kC1_ex, eCall_ap, kC2_ok, kC2_ex, nCall_ap, dfz, dfr, prep0, pK_s, prep_d, prep_t, pKt_s, prep_f, pKf_s, mkF_ap, kMk_ok, kMk_ex, kFl_ok, kFl_ex, eFld_ap, fld_s, kO2_s, kO1_ok, kO1_ex, kO0_ok, kO0_ex, eOwn2_ap, kOC3_s, kOC2_ok, kOC2_ex, kOC1_s, kOC0_ok, kOC0_ex, eOwnC_ap, kM2_ok, kM2_ex, kM1_s, kM0_ok, kM0_ex, eMeth_ap, eJs_nil, kJz_t, kJ2_s, kJ_ok, kJ_ex, eJs_cons, kSl4_s, kSl3_s, kSl2_s, kSl1_s, eSl_ap, oP_n, kOp2_s, kOp_s, oP_s, kLc2_s, kLc1_t, kLc_ok, eLc_ap, kIs2_s, kIs_ok, iSeq_ap, it_l, it_t, kIn_s, iN_ap, kRg_ok, iRg1_ap, kRh2_ok, kRh1_ok, iRg2_ap, sNext_ap, sBrk_ap, sCnt_ap, sRetN_ap, kS_nx, kS_rt, kS_bk, kS_ct, kS_ex, sSeq_ap, kSet_ok, kSet_ex, sSet_ap, kOwn_ok, kOwn_ex, sOwn_ap, kDrp_ok, kDrp_ex, sDrop_ap, kRet_ok, kRet_ex, sRet_ap, kReO_ok, kReO_ex, sRetO_ap, sRetX_ap, kRx_o, kRx_v, kAp3_t, kAp2_o, kAp1_ok, kAp0_s, sApp_ap, kPi4_s, kPi3_s, kPi2_ok, kPi1_s, kPi0_ok, sPutI_ap, kPr2_ok, kPr1_ok, sPar_ap, kAs2_s, kAs_ok, sAsg_ap, gN_ap, gT_t, gT_l, gs_nil, kGs_s, gs_cons, kFor_ok, sFor_ap, sWhl_ap, kFd_ok, sFld_ap, kRs_ok, sRaise_ap, kSu_ok, kTr3_t, kTr2_t, kTr2_f, kTr_ok, kTr_ex, sTry_ap, kIE2_s, kIE_s, eIsE_ap, kXf_s, eXf_ap, fin_nx, fin_rt, fin_ex, finI_ex, kFi_s, finI_nx, app_nil, app_cons, ins0_nil, ins0_cons, inSl_f, inSl_l, inSl_i, inSl_b, inSl_s, inSl_n, inSl_t, inSl_c, inSl_o, pad_0, pad_1, get_0, get_1, put_0, put_1, look_v, look_o, look_b, frz_v, frz_o, stay_v, stay_o, stay_b, rd_d, rd_n, rds_nil, kRd_s, rds_cons, wipe_nil, wipe_cons, rest_nil, rest_cons, all_nil, all_cons, stb_e, stb_v, stb_b, noX_nil, noX_e, noX_v, noX_o, noX_b, true_and', tbl_ap, putFd_nil, putFd_cons, dAdd_i, dSub_i, dNeg_i, dLt_i, dLe_i, dGt_i, dGe_i, dEq_i, dNe_i, dEq_b, dNe_b, dEq_s, dNe_s, o1_ap, dAbs_i, dInt_i, dInt_b, dBool_i, dLen_l, dLen_t, dLen_c, dIx_l, dIx_t, dIx_c, at_0, at_1, at_2, at_3, isT_ii, isT_bi, isT_bb, isT_ss, isT_ll, isT_tt, isB2_i, map_s, dRev_l, dTup_l, dTup_t, dLst_l, dLst_t, dCut_l, dCutL_l, dGcd_i, isB_b, isS_s, mul_r, mul_l, dDiv_r, dMod_i, kGb_s, kGe_s,
  decide_true, decide_false, Bool.not_true, Bool.not_false, Bool.and_true, Bool.and_false, Bool.false_and, if_true, if_false, ite_true, ite_false, Bool.false_eq_true, List.lookup_cons, List.lookup_nil, List.length_cons, List.length_nil, Nat.reduceBEq, Nat.reduceLT, Nat.reduceLeDiff, Nat.zero_le, seqMax, List.length_map, Nat.reduceAdd, Nat.reduceEqDiff, Nat.reducePow, Int.reduceNe, Int.reduceEq, Int.reduceLT, Int.reduceLE, Int.reduceBEq, Int.reduceNeg, Int.natAbs_neg, ne_eq, not_true, not_false_eq_true, and_self, true_and, and_true, beq_self_eq_true, a0, a1, a2, a3, a4, dMod_i hk0, h, pow15, at4_3, dMod_i nb]
    rfl
  · exact span_b _ _ (by decide) (by decide)
end K01

set_option autoImplicit true
set_option Elab.async false
set_option linter.all false
set_option maxRecDepth 100000
set_option exponentiation.threshold 10000
set_option maxHeartbeats 4000000
namespace K01
open PySem Ed
open Pf (nn nd cg)
def PartI (a1 a2 a3 : D) (ns : List Int) (kd : Int) (i : Nat) (Γ : Ed.Env) : Prop := ∃ (l : List (Int × Int)) (j6 j7 j8 : Sl), Γ = [.val (.scr ns), .val a1, .val a2, .val a3, .val (.int kd), .own (.lst (l.map prt)), j6, j7, j8, .emp, .emp] ∧ l.length = i ∧ ∀ p ∈ l, OkB 52 p
theorem app_prt (l : List (Int × Int)) (a b : Int) : l.map prt ++ [D.tup [.int a, .int b]] = (l ++ [(a, b)]).map prt := by rw [List.map_append]; rfl
theorem mem_prt {l : List (Int × Int)} {q : Int × Int} {b : Nat} (h : ∀ p ∈ l, OkB b p) (hq : OkB b q) : ∀ p ∈ l ++ [q], OkB b p := fun p hp => by
  rcases List.mem_append.mp hp with h1 | h1
  · exact h p h1
  · rw [List.mem_singleton.mp h1]; exact hq
theorem part_step (fu : Nat) {ns xs ys : List Int} {a3 : D} {kd : Int} (hx : xs.length = 60) (hy : ys.length = 60) (hk : kd = 3 ∨ kd = 4) {n : Nat} (hn : n ≤ 6) : ∀ (i : Nat) (Γ : Ed.Env) (d : D), (rngL 0 n)[i]? = some d → PartI (.lst (xs.map D.int)) (.lst (ys.map D.int)) a3 ns kd i Γ → ∃ Γ2, kGb (lb_law_parts_0 fu) (gN 6 d Γ) = .ok (.nx, Γ2) ∧ PartI (.lst (xs.map D.int)) (.lst (ys.map D.int)) a3 ns kd (i + 1) Γ2 := by
  intro i Γ d hd hP
  obtain ⟨l, j6, j7, j8, rfl, hl, hb⟩ := hP
  obtain ⟨rfl, hi⟩ := rng_get hd
  obtain ⟨v1, e1, b1⟩ := part_ok fu (xs := xs) (at_ := 1 + 5 * (0 + (i : Int))) (kd := kd) (by omega) (by omega) hk
  obtain ⟨v2, e2, b2⟩ := part_ok fu (xs := ys) (at_ := 5 * (0 + (i : Int))) (kd := kd) (by omega) (by omega) hk
  have hz : l.length < 16777216 := by omega
  unfold lb_law_parts_0
  by_cases h0 : v2 = 0
  · refine' ⟨_, ?_, ?_⟩
    rotate_left
    · simp only [kR_s, eC_ap, eN_ap, kN_s, pN_ap, kP_s, kpE_ok, kpE_ex, pE_ap, kU2_s, kU_ok, kU_ex, eU_ap, kB3_s, kB2_ok, kB2_ex, kB1_ok, kB1_ex, eB_ap, kF2_s, kF_ok, kF_ex, eF_ap, aNil_ap, lNil_ap, kA2_ok, kA2_ex, kA1_ok, kA1_ex, aCons_ap, kL2_ok, kL2_ex, kL1_ok, kL1_ex, lCons_ap, kSz_t, kTp_ok, kTp_ex, kLs_ok, kLs_ex, eTup_ap, nLst_ap, kIf_t, kIf_f, kIf_ex, tC_ap, eAnd_ap, eOr_ap, eNot_ap, eIf_ap, sIf_ap, kE2_b, kE_ok, kE_ex, tE_ap, kT3_s, kT2_s, kT_ok, kT_ex, tTru_ap, tru_int, tru_bl, tru_lst, tru_tup, tru_non, tYs_ap, eCB_ap, eAndV_ap, eOrV_ap, eNotV_ap, kCh4_s, kCh3_ok, kCh3_ex, kCh2_t, kCh2_f, kCh1_s, kCh0_ok, kCh0_ex, kCh_ok, kCh_ex, eChain_ap, callF_ap, kCp_s, kC_ok, kC_ex, kCd_ok, kCd_ex, kFr2_r, kFr_ok, kFr_ex, kC1_ok, kC1_ex, eCall_ap, kC2_ok, kC2_ex, nCall_ap, dfz, dfr, prep0, pK_s, prep_d, prep_t, pKt_s, prep_f, pKf_s, mkF_ap, kMk_ok, kMk_ex, kFl_ok, kFl_ex, eFld_ap, fld_s, kO2_s, kO1_ok, kO1_ex, kO0_ok, kO0_ex, eOwn2_ap, kOC3_s, kOC2_ok, kOC2_ex, kOC1_s, kOC0_ok, kOC0_ex, eOwnC_ap, kM2_ok, kM2_ex, kM1_s, kM0_ok, kM0_ex, eMeth_ap, eJs_nil, kJz_t, kJ2_s, kJ_ok, kJ_ex, eJs_cons, kSl4_s, kSl3_s, kSl2_s, kSl1_s, eSl_ap, oP_n, kOp2_s, kOp_s, oP_s, kLc2_s, kLc1_t, kLc_ok, eLc_ap, kIs2_s, kIs_ok, iSeq_ap, it_l, it_t, kIn_s, iN_ap, kRg_ok, iRg1_ap, kRh2_ok, kRh1_ok, iRg2_ap, sNext_ap, sBrk_ap, sCnt_ap, sRetN_ap, kS_nx, kS_rt, kS_bk, kS_ct, kS_ex, sSeq_ap, kSet_ok, kSet_ex, sSet_ap, kOwn_ok, kOwn_ex, sOwn_ap, kDrp_ok, kDrp_ex, sDrop_ap, kRet_ok, kRet_ex, sRet_ap, kReO_ok, kReO_ex, sRetO_ap, sRetX_ap, kRx_o, kRx_v, kAp3_t, kAp2_o, kAp1_ok, kAp0_s, sApp_ap, kPi4_s, kPi3_s, kPi2_ok, kPi1_s, kPi0_ok, sPutI_ap, kPr2_ok, kPr1_ok, sPar_ap, kAs2_s, kAs_ok, sAsg_ap, gN_ap, gT_t, gT_l, gs_nil, kGs_s, gs_cons, kFor_ok, sFor_ap, sWhl_ap, kFd_ok, sFld_ap, kRs_ok, sRaise_ap, kSu_ok, kTr3_t, kTr2_t, kTr2_f, kTr_ok, kTr_ex, sTry_ap, kIE2_s, kIE_s, eIsE_ap, kXf_s, eXf_ap, fin_nx, fin_rt, fin_ex, finI_ex, kFi_s, finI_nx, app_nil, app_cons, ins0_nil, ins0_cons, inSl_f, inSl_l, inSl_i, inSl_b, inSl_s, inSl_n, inSl_t, inSl_c, inSl_o, pad_0, pad_1, get_0, get_1, put_0, put_1, look_v, look_o, look_b, frz_v, frz_o, stay_v, stay_o, stay_b, rd_d, rd_n, rds_nil, kRd_s, rds_cons, wipe_nil, wipe_cons, rest_nil, rest_cons, all_nil, all_cons, stb_e, stb_v, stb_b, noX_nil, noX_e, noX_v, noX_o, noX_b, true_and', tbl_ap, putFd_nil, putFd_cons, dAdd_i, dSub_i, dNeg_i, dLt_i, dLe_i, dGt_i, dGe_i, dEq_i, dNe_i, dEq_b, dNe_b, dEq_s, dNe_s, o1_ap, dAbs_i, dInt_i, dInt_b, dBool_i, dLen_l, dLen_t, dLen_c, dIx_l, dIx_t, dIx_c, at_0, at_1, at_2, at_3, isT_ii, isT_bi, isT_bb, isT_ss, isT_ll, isT_tt, isB2_i, map_s, dRev_l, dTup_l, dTup_t, dLst_l, dLst_t, dCut_l, dCutL_l, dGcd_i, isB_b, isS_s, mul_r, mul_l, dDiv_r, dMod_i, kGb_s, kGe_s,
  decide_true, decide_false, Bool.not_true, Bool.not_false, Bool.and_true, Bool.and_false, Bool.false_and, if_true, if_false, ite_true, ite_false, Bool.false_eq_true, List.lookup_cons, List.lookup_nil, List.length_cons, List.length_nil, Nat.reduceBEq, Nat.reduceLT, Nat.reduceLeDiff, Nat.zero_le, seqMax, List.length_map, Nat.reduceAdd, Nat.reduceEqDiff, Nat.reducePow, Int.reduceNe, Int.reduceEq, Int.reduceLT, Int.reduceLE, Int.reduceBEq, Int.reduceNeg, Int.natAbs_neg, ne_eq, not_true, not_false_eq_true, and_self, true_and, and_true, beq_self_eq_true, e1, e2, beq_tt h0, hz, app_prt]
      rfl
    · exact ⟨_, _, _, _, rfl, by simp [hl], mem_prt hb ⟨show (1:Int) ≠ 0 by decide, b1, show (1:Int).natAbs < 2 ^ 52 by decide +kernel⟩⟩
  · refine' ⟨_, ?_, ?_⟩
    rotate_left
    · simp only [kR_s, eC_ap, eN_ap, kN_s, pN_ap, kP_s, kpE_ok, kpE_ex, pE_ap, kU2_s, kU_ok, kU_ex, eU_ap, kB3_s, kB2_ok, kB2_ex, kB1_ok, kB1_ex, eB_ap, kF2_s, kF_ok, kF_ex, eF_ap, aNil_ap, lNil_ap, kA2_ok, kA2_ex, kA1_ok, kA1_ex, aCons_ap, kL2_ok, kL2_ex, kL1_ok, kL1_ex, lCons_ap, kSz_t, kTp_ok, kTp_ex, kLs_ok, kLs_ex, eTup_ap, nLst_ap, kIf_t, kIf_f, kIf_ex, tC_ap, eAnd_ap, eOr_ap, eNot_ap, eIf_ap, sIf_ap, kE2_b, kE_ok, kE_ex, tE_ap, kT3_s, kT2_s, kT_ok, kT_ex, tTru_ap, tru_int, tru_bl, tru_lst, tru_tup, tru_non, tYs_ap, eCB_ap, eAndV_ap, eOrV_ap, eNotV_ap, kCh4_s, kCh3_ok, kCh3_ex, kCh2_t, kCh2_f, kCh1_s, kCh0_ok, kCh0_ex, kCh_ok, kCh_ex, eChain_ap, callF_ap, kCp_s, kC_ok, kC_ex, kCd_ok, kCd_ex, kFr2_r, kFr_ok, kFr_ex, kC1_ok, kC1_ex, eCall_ap, kC2_ok, kC2_ex, nCall_ap, dfz, dfr, prep0, pK_s, prep_d, prep_t, pKt_s, prep_f, pKf_s, mkF_ap, kMk_ok, kMk_ex, kFl_ok, kFl_ex, eFld_ap, fld_s, kO2_s, kO1_ok, kO1_ex, kO0_ok, kO0_ex, eOwn2_ap, kOC3_s, kOC2_ok, kOC2_ex, kOC1_s, kOC0_ok, kOC0_ex, eOwnC_ap, kM2_ok, kM2_ex, kM1_s, kM0_ok, kM0_ex, eMeth_ap, eJs_nil, kJz_t, kJ2_s, kJ_ok, kJ_ex, eJs_cons, kSl4_s, kSl3_s, kSl2_s, kSl1_s, eSl_ap, oP_n, kOp2_s, kOp_s, oP_s, kLc2_s, kLc1_t, kLc_ok, eLc_ap, kIs2_s, kIs_ok, iSeq_ap, it_l, it_t, kIn_s, iN_ap, kRg_ok, iRg1_ap, kRh2_ok, kRh1_ok, iRg2_ap, sNext_ap, sBrk_ap, sCnt_ap, sRetN_ap, kS_nx, kS_rt, kS_bk, kS_ct, kS_ex, sSeq_ap, kSet_ok, kSet_ex, sSet_ap, kOwn_ok, kOwn_ex, sOwn_ap, kDrp_ok, kDrp_ex, sDrop_ap, kRet_ok, kRet_ex, sRet_ap, kReO_ok, kReO_ex, sRetO_ap, sRetX_ap, kRx_o, kRx_v, kAp3_t, kAp2_o, kAp1_ok, kAp0_s, sApp_ap, kPi4_s, kPi3_s, kPi2_ok, kPi1_s, kPi0_ok, sPutI_ap, kPr2_ok, kPr1_ok, sPar_ap, kAs2_s, kAs_ok, sAsg_ap, gN_ap, gT_t, gT_l, gs_nil, kGs_s, gs_cons, kFor_ok, sFor_ap, sWhl_ap, kFd_ok, sFld_ap, kRs_ok, sRaise_ap, kSu_ok, kTr3_t, kTr2_t, kTr2_f, kTr_ok, kTr_ex, sTry_ap, kIE2_s, kIE_s, eIsE_ap, kXf_s, eXf_ap, fin_nx, fin_rt, fin_ex, finI_ex, kFi_s, finI_nx, app_nil, app_cons, ins0_nil, ins0_cons, inSl_f, inSl_l, inSl_i, inSl_b, inSl_s, inSl_n, inSl_t, inSl_c, inSl_o, pad_0, pad_1, get_0, get_1, put_0, put_1, look_v, look_o, look_b, frz_v, frz_o, stay_v, stay_o, stay_b, rd_d, rd_n, rds_nil, kRd_s, rds_cons, wipe_nil, wipe_cons, rest_nil, rest_cons, all_nil, all_cons, stb_e, stb_v, stb_b, noX_nil, noX_e, noX_v, noX_o, noX_b, true_and', tbl_ap, putFd_nil, putFd_cons, dAdd_i, dSub_i, dNeg_i, dLt_i, dLe_i, dGt_i, dGe_i, dEq_i, dNe_i, dEq_b, dNe_b, dEq_s, dNe_s, o1_ap, dAbs_i, dInt_i, dInt_b, dBool_i, dLen_l, dLen_t, dLen_c, dIx_l, dIx_t, dIx_c, at_0, at_1, at_2, at_3, isT_ii, isT_bi, isT_bb, isT_ss, isT_ll, isT_tt, isB2_i, map_s, dRev_l, dTup_l, dTup_t, dLst_l, dLst_t, dCut_l, dCutL_l, dGcd_i, isB_b, isS_s, mul_r, mul_l, dDiv_r, dMod_i, kGb_s, kGe_s,
  decide_true, decide_false, Bool.not_true, Bool.not_false, Bool.and_true, Bool.and_false, Bool.false_and, if_true, if_false, ite_true, ite_false, Bool.false_eq_true, List.lookup_cons, List.lookup_nil, List.length_cons, List.length_nil, Nat.reduceBEq, Nat.reduceLT, Nat.reduceLeDiff, Nat.zero_le, seqMax, List.length_map, Nat.reduceAdd, Nat.reduceEqDiff, Nat.reducePow, Int.reduceNe, Int.reduceEq, Int.reduceLT, Int.reduceLE, Int.reduceBEq, Int.reduceNeg, Int.natAbs_neg, ne_eq, not_true, not_false_eq_true, and_self, true_and, and_true, beq_self_eq_true, e1, e2, beq_ff h0, hz, app_prt]
      rfl
    · exact ⟨_, _, _, _, rfl, by simp [hl], mem_prt hb ⟨h0, b1, b2⟩⟩
theorem cut_last (l : List (Int × Int)) (h : 0 < l.length) : cut (l.map prt) none (some (-1)) = l.dropLast.map prt := by
  unfold cut slI
  simp only [List.length_map, show ((-1 : Int) < 0) = True by simp, if_true, List.drop_zero]
  rw [List.dropLast_eq_take, List.map_take]
  congr 1
  omega
theorem ixN_last {n : Nat} (h : 0 < n) : ixN n (-1) = some (n - 1) := by
  unfold ixN
  rw [if_neg (by decide), if_pos (by omega)]
  congr 1
  omega
theorem set_last (l : List (Int × Int)) (h : 0 < l.length) (a b : Int) : (l.map prt).set (l.length - 1) (.tup [.int a, .int b]) = (l.dropLast ++ [(a, b)]).map prt := by
  obtain ⟨l', q, rfl⟩ : ∃ l' q, l = l' ++ [q] := ⟨l.dropLast, l.getLast (by intro z; subst z; simp at h), (List.dropLast_concat_getLast _).symm⟩
  rw [List.dropLast_concat, List.map_append, List.map_append, List.length_append]
  simp [List.set_append, prt]
theorem seven (a : Int) : rngB (a.fmod 7) = true ∧ (a.fmod 7).toNat ≤ 6 := by
  have := fm_lt a (m := 7) (by decide)
  exact ⟨rngB_of this.1 (by omega), by omega⟩
theorem parts_ok (fu : Nat) (ns : List Int) : ∃ l : List (Int × Int), F_law_parts fu [.scr ns] = .ok (.fr (.lst (l.map prt))) ∧ l.length ≤ 6 ∧ ∀ p ∈ l, Ok1 p := by
  obtain ⟨xs, ex, lx, bx⟩ := pool_ok fu ns (k := 0) (n := 60) (by decide) (by decide) (by decide)
  obtain ⟨ys, ey, ly, by_⟩ := pool_ok fu ns (k := 1) (n := 60) (by decide) (by decide) (by decide)
  have lx : xs.length = 60 := lx
  have ly : ys.length = 60 := ly
  have a31 := at_map (xs := xs) (k := 31) (by decide) (by omega)
  have a32 := at_map (xs := xs) (k := 32) (by decide) (by omega)
  have a00 := at_map (xs := xs) (k := 0) (by decide) (by omega)
  obtain ⟨hr, hn⟩ := seven (xs.getD (0 : Int).toNat 0)
  have up : ∀ {l : List (Int × Int)}, (∀ p ∈ l, OkB 52 p) → ∀ p ∈ l, Ok1 p := fun h p hp => (h p hp).lt (by decide)
  unfold F_law_parts sv_law_parts sg_law_parts_1
  rw [runF_ap rfl]
  have h3 : (3 : Int) ≠ 0 := by decide
  have h7 : (7 : Int) ≠ 0 := by decide
  cases hc : ((xs.getD (31 : Int).toNat 0).fmod 3 == 0) with
  | false =>
    have h0 : PartI (.lst (xs.map D.int)) (.lst (ys.map D.int)) (.bl false) ns (4 - 0) 0 [.val (.scr ns), .val (.lst (xs.map D.int)), .val (.lst (ys.map D.int)), .val (.bl false), .val (.int (4 - 0)), .own (.lst []), .emp, .emp, .emp, .emp, .emp] := ⟨[], _, _, _, rfl, rfl, fun p hp => by cases hp⟩
    obtain ⟨Γ', e, l, _, _, _, rfl, hl, hb⟩ := forL_run (g := gN 6) (s := lb_law_parts_0 fu) (ds := rngL 0 ((xs.getD (0 : Int).toNat 0).fmod 7).toNat) h0 (part_step fu lx ly (by decide) hn)
    rw [rng_len] at hl
    refine' ⟨l, ?_, by omega, up hb⟩
    simp only [kR_s, eC_ap, eN_ap, kN_s, pN_ap, kP_s, kpE_ok, kpE_ex, pE_ap, kU2_s, kU_ok, kU_ex, eU_ap, kB3_s, kB2_ok, kB2_ex, kB1_ok, kB1_ex, eB_ap, kF2_s, kF_ok, kF_ex, eF_ap, aNil_ap, lNil_ap, kA2_ok, kA2_ex, kA1_ok, kA1_ex, aCons_ap, kL2_ok, kL2_ex, kL1_ok, kL1_ex, lCons_ap, kSz_t, kTp_ok, kTp_ex, kLs_ok, kLs_ex, eTup_ap, nLst_ap, kIf_t, kIf_f, kIf_ex, tC_ap, eAnd_ap, eOr_ap, eNot_ap, eIf_ap, sIf_ap, kE2_b, kE_ok, kE_ex, tE_ap, kT3_s, kT2_s, kT_ok, kT_ex, tTru_ap, tru_int, tru_bl, tru_lst, tru_tup, tru_non, tYs_ap, eCB_ap, eAndV_ap, eOrV_ap, eNotV_ap, kCh4_s, kCh3_ok, kCh3_ex, kCh2_t, kCh2_f, kCh1_s, kCh0_ok, kCh0_ex, kCh_ok, kCh_ex, eChain_ap, callF_ap, kCp_s, kC_ok, kC_ex, kCd_ok, kCd_ex, kFr2_r, kFr_ok, kFr_ex, kC1_ok, kC1_ex, eCall_ap, kC2_ok, kC2_ex, nCall_ap, dfz, dfr, prep0, pK_s, prep_d, prep_t, pKt_s, prep_f, pKf_s, mkF_ap, kMk_ok, kMk_ex, kFl_ok, kFl_ex, eFld_ap, fld_s, kO2_s, kO1_ok, kO1_ex, kO0_ok, kO0_ex, eOwn2_ap, kOC3_s, kOC2_ok, kOC2_ex, kOC1_s, kOC0_ok, kOC0_ex, eOwnC_ap, kM2_ok, kM2_ex, kM1_s, kM0_ok, kM0_ex, eMeth_ap, eJs_nil, kJz_t, kJ2_s, kJ_ok, kJ_ex, eJs_cons, kSl4_s, kSl3_s, kSl2_s, kSl1_s, eSl_ap, oP_n, kOp2_s, kOp_s, oP_s, kLc2_s, kLc1_t, kLc_ok, eLc_ap, kIs2_s, kIs_ok, iSeq_ap, it_l, it_t, kIn_s, iN_ap, kRg_ok, iRg1_ap, kRh2_ok, kRh1_ok, iRg2_ap, sNext_ap, sBrk_ap, sCnt_ap, sRetN_ap, kS_nx, kS_rt, kS_bk, kS_ct, kS_ex, sSeq_ap, kSet_ok, kSet_ex, sSet_ap, kOwn_ok, kOwn_ex, sOwn_ap, kDrp_ok, kDrp_ex, sDrop_ap, kRet_ok, kRet_ex, sRet_ap, kReO_ok, kReO_ex, sRetO_ap, sRetX_ap, kRx_o, kRx_v, kAp3_t, kAp2_o, kAp1_ok, kAp0_s, sApp_ap, kPi4_s, kPi3_s, kPi2_ok, kPi1_s, kPi0_ok, sPutI_ap, kPr2_ok, kPr1_ok, sPar_ap, kAs2_s, kAs_ok, sAsg_ap, gN_ap, gT_t, gT_l, gs_nil, kGs_s, gs_cons, kFor_ok, sFor_ap, sWhl_ap, kFd_ok, sFld_ap, kRs_ok, sRaise_ap, kSu_ok, kTr3_t, kTr2_t, kTr2_f, kTr_ok, kTr_ex, sTry_ap, kIE2_s, kIE_s, eIsE_ap, kXf_s, eXf_ap, fin_nx, fin_rt, fin_ex, finI_ex, kFi_s, finI_nx, app_nil, app_cons, ins0_nil, ins0_cons, inSl_f, inSl_l, inSl_i, inSl_b, inSl_s, inSl_n, inSl_t, inSl_c, inSl_o, pad_0, pad_1, get_0, get_1, put_0, put_1, look_v, look_o, look_b, frz_v, frz_o, stay_v, stay_o, stay_b, rd_d, rd_n, rds_nil, kRd_s, rds_cons, wipe_nil, wipe_cons, rest_nil, rest_cons, all_nil, all_cons, stb_e, stb_v, stb_b, noX_nil, noX_e, noX_v, noX_o, noX_b, true_and', tbl_ap, putFd_nil, putFd_cons, dAdd_i, dSub_i, dNeg_i, dLt_i, dLe_i, dGt_i, dGe_i, dEq_i, dNe_i, dEq_b, dNe_b, dEq_s, dNe_s, o1_ap, dAbs_i, dInt_i, dInt_b, dBool_i, dLen_l, dLen_t, dLen_c, dIx_l, dIx_t, dIx_c, at_0, at_1, at_2, at_3, isT_ii, isT_bi, isT_bb, isT_ss, isT_ll, isT_tt, isB2_i, map_s, dRev_l, dTup_l, dTup_t, dLst_l, dLst_t, dCut_l, dCutL_l, dGcd_i, isB_b, isS_s, mul_r, mul_l, dDiv_r, dMod_i, kGb_s, kGe_s,
  decide_true, decide_false, Bool.not_true, Bool.not_false, Bool.and_true, Bool.and_false, Bool.false_and, if_true, if_false, ite_true, ite_false, Bool.false_eq_true, List.lookup_cons, List.lookup_nil, List.length_cons, List.length_nil, Nat.reduceBEq, Nat.reduceLT, Nat.reduceLeDiff, Nat.zero_le, seqMax, List.length_map, Nat.reduceAdd, Nat.reduceEqDiff, Nat.reducePow, Int.reduceNe, Int.reduceEq, Int.reduceLT, Int.reduceLE, Int.reduceBEq, Int.reduceNeg, Int.natAbs_neg, ne_eq, not_true, not_false_eq_true, and_self, true_and, and_true, beq_self_eq_true, ex, ey, a31, a00, hc, kRg2_s hr, e]
  | true =>
    have h0 : PartI (.lst (xs.map D.int)) (.lst (ys.map D.int)) (.bl true) ns (4 - 1) 0 [.val (.scr ns), .val (.lst (xs.map D.int)), .val (.lst (ys.map D.int)), .val (.bl true), .val (.int (4 - 1)), .own (.lst []), .emp, .emp, .emp, .emp, .emp] := ⟨[], _, _, _, rfl, rfl, fun p hp => by cases hp⟩
    obtain ⟨Γ', e, l, _, _, _, rfl, hl, hb⟩ := forL_run (g := gN 6) (s := lb_law_parts_0 fu) (ds := rngL 0 ((xs.getD (0 : Int).toNat 0).fmod 7).toNat) h0 (part_step fu lx ly (by decide) hn)
    rw [rng_len] at hl
    by_cases hpos : (0 : Int) < l.length
    · have hpn : 0 < l.length := by omega
      have hd : ∀ p ∈ l.dropLast, OkB 52 p := fun p hp => hb p (by rw [List.dropLast_eq_take] at hp; exact List.mem_of_mem_take hp)
      have ha := added_ok fu (l := l.dropLast) (up hd) (by rw [List.length_dropLast]; omega)
      have hs := St_addP l.dropLast hd
      obtain ⟨s1, s2, s3⟩ := hs.lt (k := 266) (by rw [List.length_dropLast]; omega)
      have hw := fm_lt (xs.getD (32 : Int).toNat 0) (m := 7) (by decide)
      have hm : mulOk ((xs.getD (32 : Int).toNat 0).fmod 7 - 3) (addP l.dropLast).2 = true := mulOk_l (by omega)
      refine' ⟨l.dropLast ++ [(((xs.getD (32 : Int).toNat 0).fmod 7 - 3) * (addP l.dropLast).2 - (addP l.dropLast).1, (addP l.dropLast).2)], ?_, ?_, ?_⟩
      · have ha' : F_law_added fu [.lst (l.dropLast.map prt)] = .ok (.fz (.tup [.int (addP l.dropLast).1, .int (addP l.dropLast).2])) := ha
        simp only [kR_s, eC_ap, eN_ap, kN_s, pN_ap, kP_s, kpE_ok, kpE_ex, pE_ap, kU2_s, kU_ok, kU_ex, eU_ap, kB3_s, kB2_ok, kB2_ex, kB1_ok, kB1_ex, eB_ap, kF2_s, kF_ok, kF_ex, eF_ap, aNil_ap, lNil_ap, kA2_ok, kA2_ex, kA1_ok, kA1_ex, aCons_ap, kL2_ok, kL2_ex, kL1_ok, kL1_ex, lCons_ap, kSz_t, kTp_ok, kTp_ex, kLs_ok, kLs_ex, eTup_ap, nLst_ap, kIf_t, kIf_f, kIf_ex, tC_ap, eAnd_ap, eOr_ap, eNot_ap, eIf_ap, sIf_ap, kE2_b, kE_ok, kE_ex, tE_ap, kT3_s, kT2_s, kT_ok, kT_ex, tTru_ap, tru_int, tru_bl, tru_lst, tru_tup, tru_non, tYs_ap, eCB_ap, eAndV_ap, eOrV_ap, eNotV_ap, kCh4_s, kCh3_ok, kCh3_ex, kCh2_t, kCh2_f, kCh1_s, kCh0_ok, kCh0_ex, kCh_ok, kCh_ex, eChain_ap, callF_ap, kCp_s, kC_ok, kC_ex, kCd_ok, kCd_ex, kFr2_r, kFr_ok, kFr_ex, kC1_ok, kC1_ex, eCall_ap, kC2_ok, kC2_ex, nCall_ap, dfz, dfr, prep0, pK_s, prep_d, prep_t, pKt_s, prep_f, pKf_s, mkF_ap, kMk_ok, kMk_ex, kFl_ok, kFl_ex, eFld_ap, fld_s, kO2_s, kO1_ok, kO1_ex, kO0_ok, kO0_ex, eOwn2_ap, kOC3_s, kOC2_ok, kOC2_ex, kOC1_s, kOC0_ok, kOC0_ex, eOwnC_ap, kM2_ok, kM2_ex, kM1_s, kM0_ok, kM0_ex, eMeth_ap, eJs_nil, kJz_t, kJ2_s, kJ_ok, kJ_ex, eJs_cons, kSl4_s, kSl3_s, kSl2_s, kSl1_s, eSl_ap, oP_n, kOp2_s, kOp_s, oP_s, kLc2_s, kLc1_t, kLc_ok, eLc_ap, kIs2_s, kIs_ok, iSeq_ap, it_l, it_t, kIn_s, iN_ap, kRg_ok, iRg1_ap, kRh2_ok, kRh1_ok, iRg2_ap, sNext_ap, sBrk_ap, sCnt_ap, sRetN_ap, kS_nx, kS_rt, kS_bk, kS_ct, kS_ex, sSeq_ap, kSet_ok, kSet_ex, sSet_ap, kOwn_ok, kOwn_ex, sOwn_ap, kDrp_ok, kDrp_ex, sDrop_ap, kRet_ok, kRet_ex, sRet_ap, kReO_ok, kReO_ex, sRetO_ap, sRetX_ap, kRx_o, kRx_v, kAp3_t, kAp2_o, kAp1_ok, kAp0_s, sApp_ap, kPi4_s, kPi3_s, kPi2_ok, kPi1_s, kPi0_ok, sPutI_ap, kPr2_ok, kPr1_ok, sPar_ap, kAs2_s, kAs_ok, sAsg_ap, gN_ap, gT_t, gT_l, gs_nil, kGs_s, gs_cons, kFor_ok, sFor_ap, sWhl_ap, kFd_ok, sFld_ap, kRs_ok, sRaise_ap, kSu_ok, kTr3_t, kTr2_t, kTr2_f, kTr_ok, kTr_ex, sTry_ap, kIE2_s, kIE_s, eIsE_ap, kXf_s, eXf_ap, fin_nx, fin_rt, fin_ex, finI_ex, kFi_s, finI_nx, app_nil, app_cons, ins0_nil, ins0_cons, inSl_f, inSl_l, inSl_i, inSl_b, inSl_s, inSl_n, inSl_t, inSl_c, inSl_o, pad_0, pad_1, get_0, get_1, put_0, put_1, look_v, look_o, look_b, frz_v, frz_o, stay_v, stay_o, stay_b, rd_d, rd_n, rds_nil, kRd_s, rds_cons, wipe_nil, wipe_cons, rest_nil, rest_cons, all_nil, all_cons, stb_e, stb_v, stb_b, noX_nil, noX_e, noX_v, noX_o, noX_b, true_and', tbl_ap, putFd_nil, putFd_cons, dAdd_i, dSub_i, dNeg_i, dLt_i, dLe_i, dGt_i, dGe_i, dEq_i, dNe_i, dEq_b, dNe_b, dEq_s, dNe_s, o1_ap, dAbs_i, dInt_i, dInt_b, dBool_i, dLen_l, dLen_t, dLen_c, dIx_l, dIx_t, dIx_c, at_0, at_1, at_2, at_3, isT_ii, isT_bi, isT_bb, isT_ss, isT_ll, isT_tt, isB2_i, map_s, dRev_l, dTup_l, dTup_t, dLst_l, dLst_t, dCut_l, dCutL_l, dGcd_i, isB_b, isS_s, mul_r, mul_l, dDiv_r, dMod_i, kGb_s, kGe_s,
  decide_true, decide_false, Bool.not_true, Bool.not_false, Bool.and_true, Bool.and_false, Bool.false_and, if_true, if_false, ite_true, ite_false, Bool.false_eq_true, List.lookup_cons, List.lookup_nil, List.length_cons, List.length_nil, Nat.reduceBEq, Nat.reduceLT, Nat.reduceLeDiff, Nat.zero_le, seqMax, List.length_map, Nat.reduceAdd, Nat.reduceEqDiff, Nat.reducePow, Int.reduceNe, Int.reduceEq, Int.reduceLT, Int.reduceLE, Int.reduceBEq, Int.reduceNeg, Int.natAbs_neg, ne_eq, not_true, not_false_eq_true, and_self, true_and, and_true, beq_self_eq_true, ex, ey, a31, a00, a32, hc, kRg2_s hr, e, hpos, cut_last l hpn, ha', dMul_i hm, ixN_last hpn, set_last l hpn]
      · rw [List.length_append, List.length_dropLast]; simp; omega
      · have p4 : (2:Nat) ^ 270 = 16 * 2 ^ 266 := by rw [show 270 = 4 + 266 from rfl, Nat.pow_add]
        refine mem_prt (up hd) ⟨s1, ?_, by omega⟩
        have hq : (((xs.getD (32 : Int).toNat 0).fmod 7 - 3) * (addP l.dropLast).2).natAbs ≤ 3 * (addP l.dropLast).2.natAbs := by rw [Int.natAbs_mul]; exact Nat.mul_le_mul_right _ (by omega)
        show (((xs.getD (32 : Int).toNat 0).fmod 7 - 3) * (addP l.dropLast).2 - (addP l.dropLast).1).natAbs < _
        rw [p4]
        omega
    · refine' ⟨l, ?_, by omega, up hb⟩
      simp only [kR_s, eC_ap, eN_ap, kN_s, pN_ap, kP_s, kpE_ok, kpE_ex, pE_ap, kU2_s, kU_ok, kU_ex, eU_ap, kB3_s, kB2_ok, kB2_ex, kB1_ok, kB1_ex, eB_ap, kF2_s, kF_ok, kF_ex, eF_ap, aNil_ap, lNil_ap, kA2_ok, kA2_ex, kA1_ok, kA1_ex, aCons_ap, kL2_ok, kL2_ex, kL1_ok, kL1_ex, lCons_ap, kSz_t, kTp_ok, kTp_ex, kLs_ok, kLs_ex, eTup_ap, nLst_ap, kIf_t, kIf_f, kIf_ex, tC_ap, eAnd_ap, eOr_ap, eNot_ap, eIf_ap, sIf_ap, kE2_b, kE_ok, kE_ex, tE_ap, kT3_s, kT2_s, kT_ok, kT_ex, tTru_ap, tru_int, tru_bl, tru_lst, tru_tup, tru_non, tYs_ap, eCB_ap, eAndV_ap, eOrV_ap, eNotV_ap, kCh4_s, kCh3_ok, kCh3_ex, kCh2_t, kCh2_f, kCh1_s, kCh0_ok, kCh0_ex, kCh_ok, kCh_ex, eChain_ap, callF_ap, kCp_s, kC_ok, kC_ex, kCd_ok, kCd_ex, kFr2_r, kFr_ok, kFr_ex, kC1_ok, kC1_ex, eCall_ap, kC2_ok, kC2_ex, nCall_ap, dfz, dfr, prep0, pK_s, prep_d, prep_t, pKt_s, prep_f, pKf_s, mkF_ap, kMk_ok, kMk_ex, kFl_ok, kFl_ex, eFld_ap, fld_s, kO2_s, kO1_ok, kO1_ex, kO0_ok, kO0_ex, eOwn2_ap, kOC3_s, kOC2_ok, kOC2_ex, kOC1_s, kOC0_ok, kOC0_ex, eOwnC_ap, kM2_ok, kM2_ex, kM1_s, kM0_ok, kM0_ex, eMeth_ap, eJs_nil, kJz_t, kJ2_s, kJ_ok, kJ_ex, eJs_cons, kSl4_s, kSl3_s, kSl2_s, kSl1_s, eSl_ap, oP_n, kOp2_s, kOp_s, oP_s, kLc2_s, kLc1_t, kLc_ok, eLc_ap, kIs2_s, kIs_ok, iSeq_ap, it_l, it_t, kIn_s, iN_ap, kRg_ok, iRg1_ap, kRh2_ok, kRh1_ok, iRg2_ap, sNext_ap, sBrk_ap, sCnt_ap, sRetN_ap, kS_nx, kS_rt, kS_bk, kS_ct, kS_ex, sSeq_ap, kSet_ok, kSet_ex, sSet_ap, kOwn_ok, kOwn_ex, sOwn_ap, kDrp_ok, kDrp_ex, sDrop_ap, kRet_ok, kRet_ex, sRet_ap, kReO_ok, kReO_ex, sRetO_ap, sRetX_ap, kRx_o, kRx_v, kAp3_t, kAp2_o, kAp1_ok, kAp0_s, sApp_ap, kPi4_s, kPi3_s, kPi2_ok, kPi1_s, kPi0_ok, sPutI_ap, kPr2_ok, kPr1_ok, sPar_ap, kAs2_s, kAs_ok, sAsg_ap, gN_ap, gT_t, gT_l, gs_nil, kGs_s, gs_cons, kFor_ok, sFor_ap, sWhl_ap, kFd_ok, sFld_ap, kRs_ok, sRaise_ap, kSu_ok, kTr3_t, kTr2_t, kTr2_f, kTr_ok, kTr_ex, sTry_ap, kIE2_s, kIE_s, eIsE_ap, kXf_s, eXf_ap, fin_nx, fin_rt, fin_ex, finI_ex, kFi_s, finI_nx, app_nil, app_cons, ins0_nil, ins0_cons, inSl_f, inSl_l, inSl_i, inSl_b, inSl_s, inSl_n, inSl_t, inSl_c, inSl_o, pad_0, pad_1, get_0, get_1, put_0, put_1, look_v, look_o, look_b, frz_v, frz_o, stay_v, stay_o, stay_b, rd_d, rd_n, rds_nil, kRd_s, rds_cons, wipe_nil, wipe_cons, rest_nil, rest_cons, all_nil, all_cons, stb_e, stb_v, stb_b, noX_nil, noX_e, noX_v, noX_o, noX_b, true_and', tbl_ap, putFd_nil, putFd_cons, dAdd_i, dSub_i, dNeg_i, dLt_i, dLe_i, dGt_i, dGe_i, dEq_i, dNe_i, dEq_b, dNe_b, dEq_s, dNe_s, o1_ap, dAbs_i, dInt_i, dInt_b, dBool_i, dLen_l, dLen_t, dLen_c, dIx_l, dIx_t, dIx_c, at_0, at_1, at_2, at_3, isT_ii, isT_bi, isT_bb, isT_ss, isT_ll, isT_tt, isB2_i, map_s, dRev_l, dTup_l, dTup_t, dLst_l, dLst_t, dCut_l, dCutL_l, dGcd_i, isB_b, isS_s, mul_r, mul_l, dDiv_r, dMod_i, kGb_s, kGe_s,
  decide_true, decide_false, Bool.not_true, Bool.not_false, Bool.and_true, Bool.and_false, Bool.false_and, if_true, if_false, ite_true, ite_false, Bool.false_eq_true, List.lookup_cons, List.lookup_nil, List.length_cons, List.length_nil, Nat.reduceBEq, Nat.reduceLT, Nat.reduceLeDiff, Nat.zero_le, seqMax, List.length_map, Nat.reduceAdd, Nat.reduceEqDiff, Nat.reducePow, Int.reduceNe, Int.reduceEq, Int.reduceLT, Int.reduceLE, Int.reduceBEq, Int.reduceNeg, Int.natAbs_neg, ne_eq, not_true, not_false_eq_true, and_self, true_and, and_true, beq_self_eq_true, ex, ey, a31, a00, hc, kRg2_s hr, e, hpos]
end K01

set_option autoImplicit true
set_option Elab.async false
set_option linter.all false
set_option maxRecDepth 100000
set_option exponentiation.threshold 10000
set_option maxHeartbeats 4000000
namespace K01
open PySem Ed
open Pf (nn nd cg)
theorem fold_sh {a b : Int} : D.ins 1 [(0, .int (nn a b)), (1, .int (nd a b))] = sh a b := rfl
theorem kOC1_sh {kk : D → Bool} {F : FV} {Γ : Ed.Env} {a b : Int} : kOC1 1 kk F Γ (sh a b) = kOC2 kk (callF F [false] [.pd (sh a b)] Γ) := rfl
theorem addP_one (p : Int × Int) : addP [p] = p := by
  obtain ⟨a, b⟩ := p
  unfold addP
  simp
theorem nn_zero {n d : Int} (h : d ≠ 0) : (nn n d != 0) = !(n == 0) := by
  have e := Pf.nn_mul n d
  have hc := Pf.cg_ne (n := n) h
  by_cases hn : n = 0
  · have : nn n d = 0 := by
      rw [hn] at e ⊢
      rcases Int.mul_eq_zero.mp e with q | q
      · exact q
      · rw [hn] at hc; exact absurd q hc
    rw [this, hn]; rfl
  · have : nn n d ≠ 0 := fun q => by rw [q, Int.zero_mul] at e; exact hn e.symm
    rw [bne_iff_ne.mpr this, beq_ff hn]; rfl
def uSh : D → D
  | .tup [.int a, .int b] => sh a b
  | _ => .non
theorem uSh_map (l : List (Int × Int)) : (l.map prt).map uSh = l.map shp := by rw [List.map_map]; rfl
theorem getN {α : Type} {l : List α} {i : Nat} {p : α} (h : l[i]? = some p) : at1 l (0 + (i : Int)) = some p := by rw [Int.zero_add, at_nat, h]
theorem FU (k : Nat) (hk : k ≤ 3000) {fu : Nat} (hf : 2 ^ 3000 ≤ fu) : 2 ^ k ≤ fu := Nat.le_trans (Nat.pow_le_pow_right (by decide) hk) hf
def LawI (a0 a1 a2 a3 a5 : Sl) (Γ : Ed.Env) : Prop := ∃ j, Γ = [a0, a1, a2, a3, .emp, a5, j, .emp]
theorem law_step (fu : Nat) (hf : 2 ^ 3000 ≤ fu) {l : List (Int × Int)} (h : ∀ p ∈ l, Ok1 p) (hl : l.length ≤ 6) {a0 a2 a5 : Sl} : ∀ (i : Nat) (Γ : Ed.Env) (d : D), (rngL 0 l.length)[i]? = some d → LawI a0 (.val (.lst (l.map prt))) a2 (.own (.lst (l.map shp))) a5 Γ → ∃ Γ2, kGb (lb_law_1 fu) (gN 6 d Γ) = .ok (.nx, Γ2) ∧ LawI a0 (.val (.lst (l.map prt))) a2 (.own (.lst (l.map shp))) a5 Γ2 := by
  intro i Γ d hd hP
  obtain ⟨j, rfl⟩ := hP
  obtain ⟨rfl, hi⟩ := rng_get hd
  obtain ⟨p, hp⟩ : ∃ p, l[i]? = some p := ⟨l[i], by simp [hi]⟩
  have ok := h p (get_mem hp)
  obtain ⟨o1, o2, o3⟩ := ok.lt (k := 1900) (by decide)
  obtain ⟨u1, u2, u3⟩ := ok.lt (k := 3000) (by decide)
  have g1 : at1 (l.map prt) (0 + (i : Int)) = some (prt p) := getN (by rw [List.getElem?_map, hp]; rfl)
  have g2 : at1 (l.map shp) (0 + (i : Int)) = some (sh p.1 p.2) := getN (by rw [List.getElem?_map, hp]; rfl)
  have is1 := is_ok fu (p := p) u1 u2 u3 hf
  have st := str_ok fu (n := p.1) (d := p.2) o1 o2 o3
  have tx := text_ok fu (p := p) o1 o2 o3 (FU 2000 (by decide) hf)
  have tt : F_Share_total fu [.lst [sh p.1 p.2]] = .ok (.fz (sh p.1 p.2)) := by
    have := total_l fu (l := [p]) (fun q hq => by rw [List.mem_singleton.mp hq]; exact ok) (by simp)
    rw [addP_one] at this
    exact this
  unfold lb_law_1
  refine' ⟨_, ?_, ?_⟩
  rotate_left
  · simp only [kR_s, eC_ap, eN_ap, kN_s, pN_ap, kP_s, kpE_ok, kpE_ex, pE_ap, kU2_s, kU_ok, kU_ex, eU_ap, kB3_s, kB2_ok, kB2_ex, kB1_ok, kB1_ex, eB_ap, kF2_s, kF_ok, kF_ex, eF_ap, aNil_ap, lNil_ap, kA2_ok, kA2_ex, kA1_ok, kA1_ex, aCons_ap, kL2_ok, kL2_ex, kL1_ok, kL1_ex, lCons_ap, kSz_t, kTp_ok, kTp_ex, kLs_ok, kLs_ex, eTup_ap, nLst_ap, kIf_t, kIf_f, kIf_ex, tC_ap, eAnd_ap, eOr_ap, eNot_ap, eIf_ap, sIf_ap, kE2_b, kE_ok, kE_ex, tE_ap, kT3_s, kT2_s, kT_ok, kT_ex, tTru_ap, tru_int, tru_bl, tru_lst, tru_tup, tru_non, tYs_ap, eCB_ap, eAndV_ap, eOrV_ap, eNotV_ap, kCh4_s, kCh3_ok, kCh3_ex, kCh2_t, kCh2_f, kCh1_s, kCh0_ok, kCh0_ex, kCh_ok, kCh_ex, eChain_ap, callF_ap, kCp_s, kC_ok, kC_ex, kCd_ok, kCd_ex, kFr2_r, kFr_ok, kFr_ex, kC1_ok, kC1_ex, eCall_ap, kC2_ok, kC2_ex, nCall_ap, dfz, dfr, prep0, pK_s, prep_d, prep_t, pKt_s, prep_f, pKf_s, mkF_ap, kMk_ok, kMk_ex, kFl_ok, kFl_ex, eFld_ap, fld_s, kO2_s, kO1_ok, kO1_ex, kO0_ok, kO0_ex, eOwn2_ap, kOC3_s, kOC2_ok, kOC2_ex, kOC1_s, kOC0_ok, kOC0_ex, eOwnC_ap, kM2_ok, kM2_ex, kM1_s, kM0_ok, kM0_ex, eMeth_ap, eJs_nil, kJz_t, kJ2_s, kJ_ok, kJ_ex, eJs_cons, kSl4_s, kSl3_s, kSl2_s, kSl1_s, eSl_ap, oP_n, kOp2_s, kOp_s, oP_s, kLc2_s, kLc1_t, kLc_ok, eLc_ap, kIs2_s, kIs_ok, iSeq_ap, it_l, it_t, kIn_s, iN_ap, kRg_ok, iRg1_ap, kRh2_ok, kRh1_ok, iRg2_ap, sNext_ap, sBrk_ap, sCnt_ap, sRetN_ap, kS_nx, kS_rt, kS_bk, kS_ct, kS_ex, sSeq_ap, kSet_ok, kSet_ex, sSet_ap, kOwn_ok, kOwn_ex, sOwn_ap, kDrp_ok, kDrp_ex, sDrop_ap, kRet_ok, kRet_ex, sRet_ap, kReO_ok, kReO_ex, sRetO_ap, sRetX_ap, kRx_o, kRx_v, kAp3_t, kAp2_o, kAp1_ok, kAp0_s, sApp_ap, kPi4_s, kPi3_s, kPi2_ok, kPi1_s, kPi0_ok, sPutI_ap, kPr2_ok, kPr1_ok, sPar_ap, kAs2_s, kAs_ok, sAsg_ap, gN_ap, gT_t, gT_l, gs_nil, kGs_s, gs_cons, kFor_ok, sFor_ap, sWhl_ap, kFd_ok, sFld_ap, kRs_ok, sRaise_ap, kSu_ok, kTr3_t, kTr2_t, kTr2_f, kTr_ok, kTr_ex, sTry_ap, kIE2_s, kIE_s, eIsE_ap, kXf_s, eXf_ap, fin_nx, fin_rt, fin_ex, finI_ex, kFi_s, finI_nx, app_nil, app_cons, ins0_nil, ins0_cons, inSl_f, inSl_l, inSl_i, inSl_b, inSl_s, inSl_n, inSl_t, inSl_c, inSl_o, pad_0, pad_1, get_0, get_1, put_0, put_1, look_v, look_o, look_b, frz_v, frz_o, stay_v, stay_o, stay_b, rd_d, rd_n, rds_nil, kRd_s, rds_cons, wipe_nil, wipe_cons, rest_nil, rest_cons, all_nil, all_cons, stb_e, stb_v, stb_b, noX_nil, noX_e, noX_v, noX_o, noX_b, true_and', tbl_ap, putFd_nil, putFd_cons, dAdd_i, dSub_i, dNeg_i, dLt_i, dLe_i, dGt_i, dGe_i, dEq_i, dNe_i, dEq_b, dNe_b, dEq_s, dNe_s, o1_ap, dAbs_i, dInt_i, dInt_b, dBool_i, dLen_l, dLen_t, dLen_c, dIx_l, dIx_t, dIx_c, at_0, at_1, at_2, at_3, isT_ii, isT_bi, isT_bb, isT_ss, isT_ll, isT_tt, isB2_i, map_s, dRev_l, dTup_l, dTup_t, dLst_l, dLst_t, dCut_l, dCutL_l, dGcd_i, isB_b, isS_s, mul_r, mul_l, dDiv_r, dMod_i, kGb_s, kGe_s,
  decide_true, decide_false, Bool.not_true, Bool.not_false, Bool.and_true, Bool.and_false, Bool.false_and, if_true, if_false, ite_true, ite_false, Bool.false_eq_true, List.lookup_cons, List.lookup_nil, List.length_cons, List.length_nil, Nat.reduceBEq, Nat.reduceLT, Nat.reduceLeDiff, Nat.zero_le, seqMax, List.length_map, Nat.reduceAdd, Nat.reduceEqDiff, Nat.reducePow, Int.reduceNe, Int.reduceEq, Int.reduceLT, Int.reduceLE, Int.reduceBEq, Int.reduceNeg, Int.natAbs_neg, ne_eq, not_true, not_false_eq_true, and_self, true_and, and_true, beq_self_eq_true, g1, g2, is1, st, tx, tt, kOC1_sh]
    rfl
  · exact ⟨_, rfl⟩
end K01

set_option autoImplicit true
set_option Elab.async false
set_option linter.all false
set_option maxRecDepth 100000
set_option exponentiation.threshold 10000
set_option maxHeartbeats 4000000
namespace K01
open PySem Ed
open Pf (nn nd cg)
theorem comp_ok (fu : Nat) {l : List (Int × Int)} (h : ∀ p ∈ l, Ok1 p) (hl : l.length ≤ 6) {a0 a1 a2 : Sl} : ∃ Γ', lcL (gN 4) tYs (el_law_0 fu) [4] (l.map prt) [a0, a1, a2, .emp, .emp, .emp, .emp, .emp] 0 = some (l.map shp, Γ') ∧ Γ' = [a0, a1, a2, .emp, .emp, .emp, .emp, .emp] := by
  have := lcL_map (g := gN 4) (e := el_law_0 fu) (vs := [4]) (ds := l.map prt) (P := fun Γ => Γ = [a0, a1, a2, .emp, .emp, .emp, .emp, .emp]) uSh (Γ := [a0, a1, a2, .emp, .emp, .emp, .emp, .emp]) (fun d Γ hd hP => by
    subst hP
    obtain ⟨p, hp, rfl⟩ := List.mem_map.mp hd
    obtain ⟨u1, u2, u3⟩ := (h p hp).lt (k := 7000) (by decide)
    have hi := init_ok fu (n := p.1) (d := p.2) u1 u3
    unfold el_law_0 prt
    refine' ⟨_, ?_, ?_⟩
    rotate_left
    · simp only [kR_s, eC_ap, eN_ap, kN_s, pN_ap, kP_s, kpE_ok, kpE_ex, pE_ap, kU2_s, kU_ok, kU_ex, eU_ap, kB3_s, kB2_ok, kB2_ex, kB1_ok, kB1_ex, eB_ap, kF2_s, kF_ok, kF_ex, eF_ap, aNil_ap, lNil_ap, kA2_ok, kA2_ex, kA1_ok, kA1_ex, aCons_ap, kL2_ok, kL2_ex, kL1_ok, kL1_ex, lCons_ap, kSz_t, kTp_ok, kTp_ex, kLs_ok, kLs_ex, eTup_ap, nLst_ap, kIf_t, kIf_f, kIf_ex, tC_ap, eAnd_ap, eOr_ap, eNot_ap, eIf_ap, sIf_ap, kE2_b, kE_ok, kE_ex, tE_ap, kT3_s, kT2_s, kT_ok, kT_ex, tTru_ap, tru_int, tru_bl, tru_lst, tru_tup, tru_non, tYs_ap, eCB_ap, eAndV_ap, eOrV_ap, eNotV_ap, kCh4_s, kCh3_ok, kCh3_ex, kCh2_t, kCh2_f, kCh1_s, kCh0_ok, kCh0_ex, kCh_ok, kCh_ex, eChain_ap, callF_ap, kCp_s, kC_ok, kC_ex, kCd_ok, kCd_ex, kFr2_r, kFr_ok, kFr_ex, kC1_ok, kC1_ex, eCall_ap, kC2_ok, kC2_ex, nCall_ap, dfz, dfr, prep0, pK_s, prep_d, prep_t, pKt_s, prep_f, pKf_s, mkF_ap, kMk_ok, kMk_ex, kFl_ok, kFl_ex, eFld_ap, fld_s, kO2_s, kO1_ok, kO1_ex, kO0_ok, kO0_ex, eOwn2_ap, kOC3_s, kOC2_ok, kOC2_ex, kOC1_s, kOC0_ok, kOC0_ex, eOwnC_ap, kM2_ok, kM2_ex, kM1_s, kM0_ok, kM0_ex, eMeth_ap, eJs_nil, kJz_t, kJ2_s, kJ_ok, kJ_ex, eJs_cons, kSl4_s, kSl3_s, kSl2_s, kSl1_s, eSl_ap, oP_n, kOp2_s, kOp_s, oP_s, kLc2_s, kLc1_t, kLc_ok, eLc_ap, kIs2_s, kIs_ok, iSeq_ap, it_l, it_t, kIn_s, iN_ap, kRg_ok, iRg1_ap, kRh2_ok, kRh1_ok, iRg2_ap, sNext_ap, sBrk_ap, sCnt_ap, sRetN_ap, kS_nx, kS_rt, kS_bk, kS_ct, kS_ex, sSeq_ap, kSet_ok, kSet_ex, sSet_ap, kOwn_ok, kOwn_ex, sOwn_ap, kDrp_ok, kDrp_ex, sDrop_ap, kRet_ok, kRet_ex, sRet_ap, kReO_ok, kReO_ex, sRetO_ap, sRetX_ap, kRx_o, kRx_v, kAp3_t, kAp2_o, kAp1_ok, kAp0_s, sApp_ap, kPi4_s, kPi3_s, kPi2_ok, kPi1_s, kPi0_ok, sPutI_ap, kPr2_ok, kPr1_ok, sPar_ap, kAs2_s, kAs_ok, sAsg_ap, gN_ap, gT_t, gT_l, gs_nil, kGs_s, gs_cons, kFor_ok, sFor_ap, sWhl_ap, kFd_ok, sFld_ap, kRs_ok, sRaise_ap, kSu_ok, kTr3_t, kTr2_t, kTr2_f, kTr_ok, kTr_ex, sTry_ap, kIE2_s, kIE_s, eIsE_ap, kXf_s, eXf_ap, fin_nx, fin_rt, fin_ex, finI_ex, kFi_s, finI_nx, app_nil, app_cons, ins0_nil, ins0_cons, inSl_f, inSl_l, inSl_i, inSl_b, inSl_s, inSl_n, inSl_t, inSl_c, inSl_o, pad_0, pad_1, get_0, get_1, put_0, put_1, look_v, look_o, look_b, frz_v, frz_o, stay_v, stay_o, stay_b, rd_d, rd_n, rds_nil, kRd_s, rds_cons, wipe_nil, wipe_cons, rest_nil, rest_cons, all_nil, all_cons, stb_e, stb_v, stb_b, noX_nil, noX_e, noX_v, noX_o, noX_b, true_and', tbl_ap, putFd_nil, putFd_cons, dAdd_i, dSub_i, dNeg_i, dLt_i, dLe_i, dGt_i, dGe_i, dEq_i, dNe_i, dEq_b, dNe_b, dEq_s, dNe_s, o1_ap, dAbs_i, dInt_i, dInt_b, dBool_i, dLen_l, dLen_t, dLen_c, dIx_l, dIx_t, dIx_c, at_0, at_1, at_2, at_3, isT_ii, isT_bi, isT_bb, isT_ss, isT_ll, isT_tt, isB2_i, map_s, dRev_l, dTup_l, dTup_t, dLst_l, dLst_t, dCut_l, dCutL_l, dGcd_i, isB_b, isS_s, mul_r, mul_l, dDiv_r, dMod_i, kGb_s, kGe_s,
  decide_true, decide_false, Bool.not_true, Bool.not_false, Bool.and_true, Bool.and_false, Bool.false_and, if_true, if_false, ite_true, ite_false, Bool.false_eq_true, List.lookup_cons, List.lookup_nil, List.length_cons, List.length_nil, Nat.reduceBEq, Nat.reduceLT, Nat.reduceLeDiff, Nat.zero_le, seqMax, List.length_map, Nat.reduceAdd, Nat.reduceEqDiff, Nat.reducePow, Int.reduceNe, Int.reduceEq, Int.reduceLT, Int.reduceLE, Int.reduceBEq, Int.reduceNeg, Int.natAbs_neg, ne_eq, not_true, not_false_eq_true, and_self, true_and, and_true, beq_self_eq_true, hi]
      rfl
    · rfl) rfl (n := 0) (by rw [List.length_map]; unfold seqMax; omega)
  rwa [uSh_map] at this
theorem app_shp (l : List (Int × Int)) (p : Int × Int) : l.map shp ++ [sh p.1 p.2] = (l ++ [p]).map shp := by rw [List.map_append]; rfl
theorem app_prt1 (l : List (Int × Int)) (p : Int × Int) : l.map prt ++ [D.tup [.int p.1, .int p.2]] = (l ++ [p]).map prt := by rw [List.map_append]; rfl
theorem txt01 : (txt 0 1 == ("0" : Str)) = true := by decide +kernel
theorem nn01 : (nn 0 1 != 0) = false := by decide +kernel
theorem ix_prt0 {p : Int × Int} : dIx (prt p) (.int 0) = some (.int p.1) := rfl
theorem ix_prt1 {p : Int × Int} : dIx (prt p) (.int 1) = some (.int p.2) := rfl
theorem seg2 (fu : Nat) {ns : List Int} {l : List (Int × Int)} {s q : Int × Int} {j : Sl}
    (et0 : F_Share_total fu [.lst []] = .ok (.fz (sh 0 1))) (is0 : F_law_is fu [sh 0 1, .tup [.int 0, .int 1]] = .ok (.fz (.bl true)))
    (st0 : F_ShareD_strD fu [sh 0 1] = .ok (.fz (.str (txt 0 1)))) (ei0 : F_ShareD_initD fu [.int 0, .int 1] = .ok [(0, .int (nn 0 1)), (1, .int (nd 0 1))]) (bo0 : F_ShareD_boolD fu [sh 0 1] = .ok (.fz (.bl false)))
    (r1 : F_law_refused fu [.int s.1] = .ok (.fz (.bl true))) (r2 : F_law_refused fu [.int 0] = .ok (.fz (.bl true))) (r3 : F_law_refused fu [.int q.1] = .ok (.fz (.bl true))) :
    ∃ Γ', sg_law_2 fu [.val (.scr ns), .val (.lst (l.map prt)), .val (prt s), .own (.lst ((l ++ [q]).map shp)), .emp, .val (sh s.1 s.2), j, .val (prt q)] = .ok (.ret (.fz (.bl true)), Γ') := by
  unfold sg_law_2
  refine' ⟨_, ?_⟩
  rotate_left
  simp only [kR_s, eC_ap, eN_ap, kN_s, pN_ap, kP_s, kpE_ok, kpE_ex, pE_ap, kU2_s, kU_ok, kU_ex, eU_ap, kB3_s, kB2_ok, kB2_ex, kB1_ok, kB1_ex, eB_ap, kF2_s, kF_ok, kF_ex, eF_ap, aNil_ap, lNil_ap, kA2_ok, kA2_ex, kA1_ok, kA1_ex, aCons_ap, kL2_ok, kL2_ex, kL1_ok, kL1_ex, lCons_ap, kSz_t, kTp_ok, kTp_ex, kLs_ok, kLs_ex, eTup_ap, nLst_ap, kIf_t, kIf_f, kIf_ex, tC_ap, eAnd_ap, eOr_ap, eNot_ap, eIf_ap, sIf_ap, kE2_b, kE_ok, kE_ex, tE_ap, kT3_s, kT2_s, kT_ok, kT_ex, tTru_ap, tru_int, tru_bl, tru_lst, tru_tup, tru_non, tYs_ap, eCB_ap, eAndV_ap, eOrV_ap, eNotV_ap, kCh4_s, kCh3_ok, kCh3_ex, kCh2_t, kCh2_f, kCh1_s, kCh0_ok, kCh0_ex, kCh_ok, kCh_ex, eChain_ap, callF_ap, kCp_s, kC_ok, kC_ex, kCd_ok, kCd_ex, kFr2_r, kFr_ok, kFr_ex, kC1_ok, kC1_ex, eCall_ap, kC2_ok, kC2_ex, nCall_ap, dfz, dfr, prep0, pK_s, prep_d, prep_t, pKt_s, prep_f, pKf_s, mkF_ap, kMk_ok, kMk_ex, kFl_ok, kFl_ex, eFld_ap, fld_s, kO2_s, kO1_ok, kO1_ex, kO0_ok, kO0_ex, eOwn2_ap, kOC3_s, kOC2_ok, kOC2_ex, kOC1_s, kOC0_ok, kOC0_ex, eOwnC_ap, kM2_ok, kM2_ex, kM1_s, kM0_ok, kM0_ex, eMeth_ap, eJs_nil, kJz_t, kJ2_s, kJ_ok, kJ_ex, eJs_cons, kSl4_s, kSl3_s, kSl2_s, kSl1_s, eSl_ap, oP_n, kOp2_s, kOp_s, oP_s, kLc2_s, kLc1_t, kLc_ok, eLc_ap, kIs2_s, kIs_ok, iSeq_ap, it_l, it_t, kIn_s, iN_ap, kRg_ok, iRg1_ap, kRh2_ok, kRh1_ok, iRg2_ap, sNext_ap, sBrk_ap, sCnt_ap, sRetN_ap, kS_nx, kS_rt, kS_bk, kS_ct, kS_ex, sSeq_ap, kSet_ok, kSet_ex, sSet_ap, kOwn_ok, kOwn_ex, sOwn_ap, kDrp_ok, kDrp_ex, sDrop_ap, kRet_ok, kRet_ex, sRet_ap, kReO_ok, kReO_ex, sRetO_ap, sRetX_ap, kRx_o, kRx_v, kAp3_t, kAp2_o, kAp1_ok, kAp0_s, sApp_ap, kPi4_s, kPi3_s, kPi2_ok, kPi1_s, kPi0_ok, sPutI_ap, kPr2_ok, kPr1_ok, sPar_ap, kAs2_s, kAs_ok, sAsg_ap, gN_ap, gT_t, gT_l, gs_nil, kGs_s, gs_cons, kFor_ok, sFor_ap, sWhl_ap, kFd_ok, sFld_ap, kRs_ok, sRaise_ap, kSu_ok, kTr3_t, kTr2_t, kTr2_f, kTr_ok, kTr_ex, sTry_ap, kIE2_s, kIE_s, eIsE_ap, kXf_s, eXf_ap, fin_nx, fin_rt, fin_ex, finI_ex, kFi_s, finI_nx, app_nil, app_cons, ins0_nil, ins0_cons, inSl_f, inSl_l, inSl_i, inSl_b, inSl_s, inSl_n, inSl_t, inSl_c, inSl_o, pad_0, pad_1, get_0, get_1, put_0, put_1, look_v, look_o, look_b, frz_v, frz_o, stay_v, stay_o, stay_b, rd_d, rd_n, rds_nil, kRd_s, rds_cons, wipe_nil, wipe_cons, rest_nil, rest_cons, all_nil, all_cons, stb_e, stb_v, stb_b, noX_nil, noX_e, noX_v, noX_o, noX_b, true_and', tbl_ap, putFd_nil, putFd_cons, dAdd_i, dSub_i, dNeg_i, dLt_i, dLe_i, dGt_i, dGe_i, dEq_i, dNe_i, dEq_b, dNe_b, dEq_s, dNe_s, o1_ap, dAbs_i, dInt_i, dInt_b, dBool_i, dLen_l, dLen_t, dLen_c, dIx_l, dIx_t, dIx_c, at_0, at_1, at_2, at_3, isT_ii, isT_bi, isT_bb, isT_ss, isT_ll, isT_tt, isB2_i, map_s, dRev_l, dTup_l, dTup_t, dLst_l, dLst_t, dCut_l, dCutL_l, dGcd_i, isB_b, isS_s, mul_r, mul_l, dDiv_r, dMod_i, kGb_s, kGe_s,
  decide_true, decide_false, Bool.not_true, Bool.not_false, Bool.and_true, Bool.and_false, Bool.false_and, if_true, if_false, ite_true, ite_false, Bool.false_eq_true, List.lookup_cons, List.lookup_nil, List.length_cons, List.length_nil, Nat.reduceBEq, Nat.reduceLT, Nat.reduceLeDiff, Nat.zero_le, seqMax, List.length_map, Nat.reduceAdd, Nat.reduceEqDiff, Nat.reducePow, Int.reduceNe, Int.reduceEq, Int.reduceLT, Int.reduceLE, Int.reduceBEq, Int.reduceNeg, Int.natAbs_neg, ne_eq, not_true, not_false_eq_true, and_self, true_and, and_true, beq_self_eq_true, ix_prt0, fold_sh, et0, is0, st0, kOC1_sh, dNe_s, txt01, ei0, bo0, r1, r2, r3]
  rfl
theorem seg3 (fu : Nat) {ns : List Int} {l : List (Int × Int)} {s q : Int × Int} {j : Sl} (hl : l.length ≤ 6)
    (ei : F_ShareD_initD fu [.int q.1, .int q.2] = .ok [(0, .int (nn q.1 q.2)), (1, .int (nd q.1 q.2))])
    (is1 : F_law_is fu [sh s.1 s.2, prt s] = .ok (.fz (.bl true)))
    {s2 : Int × Int} (et2 : F_Share_total fu [.lst ((l ++ [q]).map shp)] = .ok (.fz (sh s2.1 s2.2))) (ea2 : F_law_added fu [.lst ((l ++ [q]).map prt)] = .ok (.fz (prt s2)))
    (is2 : F_law_is fu [sh s2.1 s2.2, prt s2] = .ok (.fz (.bl true)))
    (nx : ∃ Γ', sg_law_2 fu [.val (.scr ns), .val (.lst (l.map prt)), .val (prt s), .own (.lst ((l ++ [q]).map shp)), .emp, .val (sh s.1 s.2), j, .val (prt q)] = .ok (.ret (.fz (.bl true)), Γ')) :
    ∃ Γ', sg_law_3 fu [.val (.scr ns), .val (.lst (l.map prt)), .val (prt s), .own (.lst (l.map shp)), .emp, .val (sh s.1 s.2), j, .val (prt q)] = .ok (.ret (.fz (.bl true)), Γ') := by
  have lz : l.length < 16777216 := by omega
  have lz1 := dAdd_l (ds := l.map prt) (es := [prt q]) (by rw [List.length_map]; unfold seqMax; simp; omega)
  have am : l.map prt ++ [prt q] = (l ++ [q]).map prt := by rw [List.map_append]; rfl
  rw [am] at lz1
  obtain ⟨Γ', e⟩ := nx
  unfold sg_law_3
  refine' ⟨Γ', ?_⟩
  simp only [kR_s, eC_ap, eN_ap, kN_s, pN_ap, kP_s, kpE_ok, kpE_ex, pE_ap, kU2_s, kU_ok, kU_ex, eU_ap, kB3_s, kB2_ok, kB2_ex, kB1_ok, kB1_ex, eB_ap, kF2_s, kF_ok, kF_ex, eF_ap, aNil_ap, lNil_ap, kA2_ok, kA2_ex, kA1_ok, kA1_ex, aCons_ap, kL2_ok, kL2_ex, kL1_ok, kL1_ex, lCons_ap, kSz_t, kTp_ok, kTp_ex, kLs_ok, kLs_ex, eTup_ap, nLst_ap, kIf_t, kIf_f, kIf_ex, tC_ap, eAnd_ap, eOr_ap, eNot_ap, eIf_ap, sIf_ap, kE2_b, kE_ok, kE_ex, tE_ap, kT3_s, kT2_s, kT_ok, kT_ex, tTru_ap, tru_int, tru_bl, tru_lst, tru_tup, tru_non, tYs_ap, eCB_ap, eAndV_ap, eOrV_ap, eNotV_ap, kCh4_s, kCh3_ok, kCh3_ex, kCh2_t, kCh2_f, kCh1_s, kCh0_ok, kCh0_ex, kCh_ok, kCh_ex, eChain_ap, callF_ap, kCp_s, kC_ok, kC_ex, kCd_ok, kCd_ex, kFr2_r, kFr_ok, kFr_ex, kC1_ok, kC1_ex, eCall_ap, kC2_ok, kC2_ex, nCall_ap, dfz, dfr, prep0, pK_s, prep_d, prep_t, pKt_s, prep_f, pKf_s, mkF_ap, kMk_ok, kMk_ex, kFl_ok, kFl_ex, eFld_ap, fld_s, kO2_s, kO1_ok, kO1_ex, kO0_ok, kO0_ex, eOwn2_ap, kOC3_s, kOC2_ok, kOC2_ex, kOC1_s, kOC0_ok, kOC0_ex, eOwnC_ap, kM2_ok, kM2_ex, kM1_s, kM0_ok, kM0_ex, eMeth_ap, eJs_nil, kJz_t, kJ2_s, kJ_ok, kJ_ex, eJs_cons, kSl4_s, kSl3_s, kSl2_s, kSl1_s, eSl_ap, oP_n, kOp2_s, kOp_s, oP_s, kLc2_s, kLc1_t, kLc_ok, eLc_ap, kIs2_s, kIs_ok, iSeq_ap, it_l, it_t, kIn_s, iN_ap, kRg_ok, iRg1_ap, kRh2_ok, kRh1_ok, iRg2_ap, sNext_ap, sBrk_ap, sCnt_ap, sRetN_ap, kS_nx, kS_rt, kS_bk, kS_ct, kS_ex, sSeq_ap, kSet_ok, kSet_ex, sSet_ap, kOwn_ok, kOwn_ex, sOwn_ap, kDrp_ok, kDrp_ex, sDrop_ap, kRet_ok, kRet_ex, sRet_ap, kReO_ok, kReO_ex, sRetO_ap, sRetX_ap, kRx_o, kRx_v, kAp3_t, kAp2_o, kAp1_ok, kAp0_s, sApp_ap, kPi4_s, kPi3_s, kPi2_ok, kPi1_s, kPi0_ok, sPutI_ap, kPr2_ok, kPr1_ok, sPar_ap, kAs2_s, kAs_ok, sAsg_ap, gN_ap, gT_t, gT_l, gs_nil, kGs_s, gs_cons, kFor_ok, sFor_ap, sWhl_ap, kFd_ok, sFld_ap, kRs_ok, sRaise_ap, kSu_ok, kTr3_t, kTr2_t, kTr2_f, kTr_ok, kTr_ex, sTry_ap, kIE2_s, kIE_s, eIsE_ap, kXf_s, eXf_ap, fin_nx, fin_rt, fin_ex, finI_ex, kFi_s, finI_nx, app_nil, app_cons, ins0_nil, ins0_cons, inSl_f, inSl_l, inSl_i, inSl_b, inSl_s, inSl_n, inSl_t, inSl_c, inSl_o, pad_0, pad_1, get_0, get_1, put_0, put_1, look_v, look_o, look_b, frz_v, frz_o, stay_v, stay_o, stay_b, rd_d, rd_n, rds_nil, kRd_s, rds_cons, wipe_nil, wipe_cons, rest_nil, rest_cons, all_nil, all_cons, stb_e, stb_v, stb_b, noX_nil, noX_e, noX_v, noX_o, noX_b, true_and', tbl_ap, putFd_nil, putFd_cons, dAdd_i, dSub_i, dNeg_i, dLt_i, dLe_i, dGt_i, dGe_i, dEq_i, dNe_i, dEq_b, dNe_b, dEq_s, dNe_s, o1_ap, dAbs_i, dInt_i, dInt_b, dBool_i, dLen_l, dLen_t, dLen_c, dIx_l, dIx_t, dIx_c, at_0, at_1, at_2, at_3, isT_ii, isT_bi, isT_bb, isT_ss, isT_ll, isT_tt, isB2_i, map_s, dRev_l, dTup_l, dTup_t, dLst_l, dLst_t, dCut_l, dCutL_l, dGcd_i, isB_b, isS_s, mul_r, mul_l, dDiv_r, dMod_i, kGb_s, kGe_s,
  decide_true, decide_false, Bool.not_true, Bool.not_false, Bool.and_true, Bool.and_false, Bool.false_and, if_true, if_false, ite_true, ite_false, Bool.false_eq_true, List.lookup_cons, List.lookup_nil, List.length_cons, List.length_nil, Nat.reduceBEq, Nat.reduceLT, Nat.reduceLeDiff, Nat.zero_le, seqMax, List.length_map, Nat.reduceAdd, Nat.reduceEqDiff, Nat.reducePow, Int.reduceNe, Int.reduceEq, Int.reduceLT, Int.reduceLE, Int.reduceBEq, Int.reduceNeg, Int.natAbs_neg, ne_eq, not_true, not_false_eq_true, and_self, true_and, and_true, beq_self_eq_true, ei, ix_prt0, ix_prt1, fold_sh, lz, app_shp, is1, et2, lz1, ea2, is2, e]
theorem y3 (fu : Nat) (ns : List Int) (l : List (Int × Int)) (s : Int × Int) (j : Sl) (is1 : F_law_is fu [sh s.1 s.2, prt s] = .ok (.fz (.bl true))) (ett : F_Share_total fu [.tup (l.map shp)] = .ok (.fz (sh s.1 s.2))) (er : F_Share_total fu [.lst (l.map shp).reverse] = .ok (.fz (sh s.1 s.2))) : (sIf (eOr (eNot (tE (eCall (F_law_is fu) [true, true] (aCons (pE (eCall (F_Share_total fu) [true] (aCons (pE (eF (o1 dTup) (aCons (pN 3) aNil))) aNil))) (aCons (pN 2) aNil))))) (eNot (tE (eCall (F_law_is fu) [true, true] (aCons (pE (eCall (F_Share_total fu) [true] (aCons (pE (eU dRev (pN 3))) aNil))) (aCons (pN 2) aNil))))))
    (sRet (eC (.bl false)))
    sNext) [.val (.scr ns), .val (.lst (l.map prt)), .val (prt s), .own (.lst (l.map shp)), .emp, .val (sh s.1 s.2), j, .emp] = .ok (.nx, [.val (.scr ns), .val (.lst (l.map prt)), .val (prt s), .own (.lst (l.map shp)), .emp, .val (sh s.1 s.2), j, .emp]) := by
  simp only [kR_s, eC_ap, eN_ap, kN_s, pN_ap, kP_s, kpE_ok, kpE_ex, pE_ap, kU2_s, kU_ok, kU_ex, eU_ap, kB3_s, kB2_ok, kB2_ex, kB1_ok, kB1_ex, eB_ap, kF2_s, kF_ok, kF_ex, eF_ap, aNil_ap, lNil_ap, kA2_ok, kA2_ex, kA1_ok, kA1_ex, aCons_ap, kL2_ok, kL2_ex, kL1_ok, kL1_ex, lCons_ap, kSz_t, kTp_ok, kTp_ex, kLs_ok, kLs_ex, eTup_ap, nLst_ap, kIf_t, kIf_f, kIf_ex, tC_ap, eAnd_ap, eOr_ap, eNot_ap, eIf_ap, sIf_ap, kE2_b, kE_ok, kE_ex, tE_ap, kT3_s, kT2_s, kT_ok, kT_ex, tTru_ap, tru_int, tru_bl, tru_lst, tru_tup, tru_non, tYs_ap, eCB_ap, eAndV_ap, eOrV_ap, eNotV_ap, kCh4_s, kCh3_ok, kCh3_ex, kCh2_t, kCh2_f, kCh1_s, kCh0_ok, kCh0_ex, kCh_ok, kCh_ex, eChain_ap, callF_ap, kCp_s, kC_ok, kC_ex, kCd_ok, kCd_ex, kFr2_r, kFr_ok, kFr_ex, kC1_ok, kC1_ex, eCall_ap, kC2_ok, kC2_ex, nCall_ap, dfz, dfr, prep0, pK_s, prep_d, prep_t, pKt_s, prep_f, pKf_s, mkF_ap, kMk_ok, kMk_ex, kFl_ok, kFl_ex, eFld_ap, fld_s, kO2_s, kO1_ok, kO1_ex, kO0_ok, kO0_ex, eOwn2_ap, kOC3_s, kOC2_ok, kOC2_ex, kOC1_s, kOC0_ok, kOC0_ex, eOwnC_ap, kM2_ok, kM2_ex, kM1_s, kM0_ok, kM0_ex, eMeth_ap, eJs_nil, kJz_t, kJ2_s, kJ_ok, kJ_ex, eJs_cons, kSl4_s, kSl3_s, kSl2_s, kSl1_s, eSl_ap, oP_n, kOp2_s, kOp_s, oP_s, kLc2_s, kLc1_t, kLc_ok, eLc_ap, kIs2_s, kIs_ok, iSeq_ap, it_l, it_t, kIn_s, iN_ap, kRg_ok, iRg1_ap, kRh2_ok, kRh1_ok, iRg2_ap, sNext_ap, sBrk_ap, sCnt_ap, sRetN_ap, kS_nx, kS_rt, kS_bk, kS_ct, kS_ex, sSeq_ap, kSet_ok, kSet_ex, sSet_ap, kOwn_ok, kOwn_ex, sOwn_ap, kDrp_ok, kDrp_ex, sDrop_ap, kRet_ok, kRet_ex, sRet_ap, kReO_ok, kReO_ex, sRetO_ap, sRetX_ap, kRx_o, kRx_v, kAp3_t, kAp2_o, kAp1_ok, kAp0_s, sApp_ap, kPi4_s, kPi3_s, kPi2_ok, kPi1_s, kPi0_ok, sPutI_ap, kPr2_ok, kPr1_ok, sPar_ap, kAs2_s, kAs_ok, sAsg_ap, gN_ap, gT_t, gT_l, gs_nil, kGs_s, gs_cons, kFor_ok, sFor_ap, sWhl_ap, kFd_ok, sFld_ap, kRs_ok, sRaise_ap, kSu_ok, kTr3_t, kTr2_t, kTr2_f, kTr_ok, kTr_ex, sTry_ap, kIE2_s, kIE_s, eIsE_ap, kXf_s, eXf_ap, fin_nx, fin_rt, fin_ex, finI_ex, kFi_s, finI_nx, app_nil, app_cons, ins0_nil, ins0_cons, inSl_f, inSl_l, inSl_i, inSl_b, inSl_s, inSl_n, inSl_t, inSl_c, inSl_o, pad_0, pad_1, get_0, get_1, put_0, put_1, look_v, look_o, look_b, frz_v, frz_o, stay_v, stay_o, stay_b, rd_d, rd_n, rds_nil, kRd_s, rds_cons, wipe_nil, wipe_cons, rest_nil, rest_cons, all_nil, all_cons, stb_e, stb_v, stb_b, noX_nil, noX_e, noX_v, noX_o, noX_b, true_and', tbl_ap, putFd_nil, putFd_cons, dAdd_i, dSub_i, dNeg_i, dLt_i, dLe_i, dGt_i, dGe_i, dEq_i, dNe_i, dEq_b, dNe_b, dEq_s, dNe_s, o1_ap, dAbs_i, dInt_i, dInt_b, dBool_i, dLen_l, dLen_t, dLen_c, dIx_l, dIx_t, dIx_c, at_0, at_1, at_2, at_3, isT_ii, isT_bi, isT_bb, isT_ss, isT_ll, isT_tt, isB2_i, map_s, dRev_l, dTup_l, dTup_t, dLst_l, dLst_t, dCut_l, dCutL_l, dGcd_i, isB_b, isS_s, mul_r, mul_l, dDiv_r, dMod_i, kGb_s, kGe_s,
  decide_true, decide_false, Bool.not_true, Bool.not_false, Bool.and_true, Bool.and_false, Bool.false_and, if_true, if_false, ite_true, ite_false, Bool.false_eq_true, List.lookup_cons, List.lookup_nil, List.length_cons, List.length_nil, Nat.reduceBEq, Nat.reduceLT, Nat.reduceLeDiff, Nat.zero_le, seqMax, List.length_map, Nat.reduceAdd, Nat.reduceEqDiff, Nat.reducePow, Int.reduceNe, Int.reduceEq, Int.reduceLT, Int.reduceLE, Int.reduceBEq, Int.reduceNeg, Int.natAbs_neg, ne_eq, not_true, not_false_eq_true, and_self, true_and, and_true, beq_self_eq_true, is1, ett, er]
theorem y4 (fu : Nat) (ns : List Int) (l : List (Int × Int)) (s q : Int × Int) (j : Sl) {x2 x3 : Int} (c2 : F_law_cell fu [.scr ns, .int 2] = .ok (.fz (.int x2))) (c3 : F_law_cell fu [.scr ns, .int 3] = .ok (.fz (.int x3))) (q1 : x2.fmod 41 - 20 = q.1) (q2 : 1 + x3.fmod 9 = q.2) : (sSet 7 (eTup (lCons (eB dSub (pE (eB dMod (pE (eF (o1 dInt) (aCons (pE (eCall (F_law_cell fu) [true, true] (aCons (pN 0) (aCons (pE (eC (.int 2))) aNil)))) aNil))) (pE (eC (.int 41))))) (pE (eC (.int 20)))) (lCons (eB dAdd (pE (eC (.int 1))) (pE (eB dMod (pE (eF (o1 dInt) (aCons (pE (eCall (F_law_cell fu) [true, true] (aCons (pN 0) (aCons (pE (eC (.int 3))) aNil)))) aNil))) (pE (eC (.int 9)))))) lNil)))) [.val (.scr ns), .val (.lst (l.map prt)), .val (prt s), .own (.lst (l.map shp)), .emp, .val (sh s.1 s.2), j, .emp] = .ok (.nx, [.val (.scr ns), .val (.lst (l.map prt)), .val (prt s), .own (.lst (l.map shp)), .emp, .val (sh s.1 s.2), j, .val (prt q)]) := by
  have pf : D.tup [.int q.1, .int q.2] = prt q := rfl
  simp only [kR_s, eC_ap, eN_ap, kN_s, pN_ap, kP_s, kpE_ok, kpE_ex, pE_ap, kU2_s, kU_ok, kU_ex, eU_ap, kB3_s, kB2_ok, kB2_ex, kB1_ok, kB1_ex, eB_ap, kF2_s, kF_ok, kF_ex, eF_ap, aNil_ap, lNil_ap, kA2_ok, kA2_ex, kA1_ok, kA1_ex, aCons_ap, kL2_ok, kL2_ex, kL1_ok, kL1_ex, lCons_ap, kSz_t, kTp_ok, kTp_ex, kLs_ok, kLs_ex, eTup_ap, nLst_ap, kIf_t, kIf_f, kIf_ex, tC_ap, eAnd_ap, eOr_ap, eNot_ap, eIf_ap, sIf_ap, kE2_b, kE_ok, kE_ex, tE_ap, kT3_s, kT2_s, kT_ok, kT_ex, tTru_ap, tru_int, tru_bl, tru_lst, tru_tup, tru_non, tYs_ap, eCB_ap, eAndV_ap, eOrV_ap, eNotV_ap, kCh4_s, kCh3_ok, kCh3_ex, kCh2_t, kCh2_f, kCh1_s, kCh0_ok, kCh0_ex, kCh_ok, kCh_ex, eChain_ap, callF_ap, kCp_s, kC_ok, kC_ex, kCd_ok, kCd_ex, kFr2_r, kFr_ok, kFr_ex, kC1_ok, kC1_ex, eCall_ap, kC2_ok, kC2_ex, nCall_ap, dfz, dfr, prep0, pK_s, prep_d, prep_t, pKt_s, prep_f, pKf_s, mkF_ap, kMk_ok, kMk_ex, kFl_ok, kFl_ex, eFld_ap, fld_s, kO2_s, kO1_ok, kO1_ex, kO0_ok, kO0_ex, eOwn2_ap, kOC3_s, kOC2_ok, kOC2_ex, kOC1_s, kOC0_ok, kOC0_ex, eOwnC_ap, kM2_ok, kM2_ex, kM1_s, kM0_ok, kM0_ex, eMeth_ap, eJs_nil, kJz_t, kJ2_s, kJ_ok, kJ_ex, eJs_cons, kSl4_s, kSl3_s, kSl2_s, kSl1_s, eSl_ap, oP_n, kOp2_s, kOp_s, oP_s, kLc2_s, kLc1_t, kLc_ok, eLc_ap, kIs2_s, kIs_ok, iSeq_ap, it_l, it_t, kIn_s, iN_ap, kRg_ok, iRg1_ap, kRh2_ok, kRh1_ok, iRg2_ap, sNext_ap, sBrk_ap, sCnt_ap, sRetN_ap, kS_nx, kS_rt, kS_bk, kS_ct, kS_ex, sSeq_ap, kSet_ok, kSet_ex, sSet_ap, kOwn_ok, kOwn_ex, sOwn_ap, kDrp_ok, kDrp_ex, sDrop_ap, kRet_ok, kRet_ex, sRet_ap, kReO_ok, kReO_ex, sRetO_ap, sRetX_ap, kRx_o, kRx_v, kAp3_t, kAp2_o, kAp1_ok, kAp0_s, sApp_ap, kPi4_s, kPi3_s, kPi2_ok, kPi1_s, kPi0_ok, sPutI_ap, kPr2_ok, kPr1_ok, sPar_ap, kAs2_s, kAs_ok, sAsg_ap, gN_ap, gT_t, gT_l, gs_nil, kGs_s, gs_cons, kFor_ok, sFor_ap, sWhl_ap, kFd_ok, sFld_ap, kRs_ok, sRaise_ap, kSu_ok, kTr3_t, kTr2_t, kTr2_f, kTr_ok, kTr_ex, sTry_ap, kIE2_s, kIE_s, eIsE_ap, kXf_s, eXf_ap, fin_nx, fin_rt, fin_ex, finI_ex, kFi_s, finI_nx, app_nil, app_cons, ins0_nil, ins0_cons, inSl_f, inSl_l, inSl_i, inSl_b, inSl_s, inSl_n, inSl_t, inSl_c, inSl_o, pad_0, pad_1, get_0, get_1, put_0, put_1, look_v, look_o, look_b, frz_v, frz_o, stay_v, stay_o, stay_b, rd_d, rd_n, rds_nil, kRd_s, rds_cons, wipe_nil, wipe_cons, rest_nil, rest_cons, all_nil, all_cons, stb_e, stb_v, stb_b, noX_nil, noX_e, noX_v, noX_o, noX_b, true_and', tbl_ap, putFd_nil, putFd_cons, dAdd_i, dSub_i, dNeg_i, dLt_i, dLe_i, dGt_i, dGe_i, dEq_i, dNe_i, dEq_b, dNe_b, dEq_s, dNe_s, o1_ap, dAbs_i, dInt_i, dInt_b, dBool_i, dLen_l, dLen_t, dLen_c, dIx_l, dIx_t, dIx_c, at_0, at_1, at_2, at_3, isT_ii, isT_bi, isT_bb, isT_ss, isT_ll, isT_tt, isB2_i, map_s, dRev_l, dTup_l, dTup_t, dLst_l, dLst_t, dCut_l, dCutL_l, dGcd_i, isB_b, isS_s, mul_r, mul_l, dDiv_r, dMod_i, kGb_s, kGe_s,
  decide_true, decide_false, Bool.not_true, Bool.not_false, Bool.and_true, Bool.and_false, Bool.false_and, if_true, if_false, ite_true, ite_false, Bool.false_eq_true, List.lookup_cons, List.lookup_nil, List.length_cons, List.length_nil, Nat.reduceBEq, Nat.reduceLT, Nat.reduceLeDiff, Nat.zero_le, seqMax, List.length_map, Nat.reduceAdd, Nat.reduceEqDiff, Nat.reducePow, Int.reduceNe, Int.reduceEq, Int.reduceLT, Int.reduceLE, Int.reduceBEq, Int.reduceNeg, Int.natAbs_neg, ne_eq, not_true, not_false_eq_true, and_self, true_and, and_true, beq_self_eq_true, c2, c3, q1, q2, pf]
theorem seg4 (fu : Nat) {ns : List Int} {l : List (Int × Int)} {s q : Int × Int} {x2 x3 : Int} {j : Sl}
    (ett : F_Share_total fu [.tup (l.map shp)] = .ok (.fz (sh s.1 s.2))) (er : F_Share_total fu [.lst (l.map shp).reverse] = .ok (.fz (sh s.1 s.2)))
    (is1 : F_law_is fu [sh s.1 s.2, prt s] = .ok (.fz (.bl true)))
    (c2 : F_law_cell fu [.scr ns, .int 2] = .ok (.fz (.int x2))) (c3 : F_law_cell fu [.scr ns, .int 3] = .ok (.fz (.int x3))) (q1 : x2.fmod 41 - 20 = q.1) (q2 : 1 + x3.fmod 9 = q.2)
    (nx : ∃ Γ', sg_law_3 fu [.val (.scr ns), .val (.lst (l.map prt)), .val (prt s), .own (.lst (l.map shp)), .emp, .val (sh s.1 s.2), j, .val (prt q)] = .ok (.ret (.fz (.bl true)), Γ')) :
    ∃ Γ', sg_law_4 fu [.val (.scr ns), .val (.lst (l.map prt)), .val (prt s), .own (.lst (l.map shp)), .emp, .val (sh s.1 s.2), j, .emp] = .ok (.ret (.fz (.bl true)), Γ') := by
  obtain ⟨Γ', e⟩ := nx
  unfold sg_law_4
  refine' ⟨Γ', ?_⟩
  rw [sSeq_ap, y3 fu ns l s j is1 ett er, kS_nx, sSeq_ap, y4 fu ns l s q j c2 c3 q1 q2, kS_nx, e]
theorem y1 (ns : List Int) (l : List (Int × Int)) (s : Int × Int) : (sIf (tE (eB dNe (pE (eF (o1 dLen) (aCons (pN 3) aNil))) (pE (eF (o1 dLen) (aCons (pN 1) aNil)))))
    (sRet (eC (.bl false)))
    sNext) [.val (.scr ns), .val (.lst (l.map prt)), .val (prt s), .own (.lst (l.map shp)), .emp, .val (sh s.1 s.2), .emp, .emp] = .ok (.nx, [.val (.scr ns), .val (.lst (l.map prt)), .val (prt s), .own (.lst (l.map shp)), .emp, .val (sh s.1 s.2), .emp, .emp]) := by
  simp only [kR_s, eC_ap, eN_ap, kN_s, pN_ap, kP_s, kpE_ok, kpE_ex, pE_ap, kU2_s, kU_ok, kU_ex, eU_ap, kB3_s, kB2_ok, kB2_ex, kB1_ok, kB1_ex, eB_ap, kF2_s, kF_ok, kF_ex, eF_ap, aNil_ap, lNil_ap, kA2_ok, kA2_ex, kA1_ok, kA1_ex, aCons_ap, kL2_ok, kL2_ex, kL1_ok, kL1_ex, lCons_ap, kSz_t, kTp_ok, kTp_ex, kLs_ok, kLs_ex, eTup_ap, nLst_ap, kIf_t, kIf_f, kIf_ex, tC_ap, eAnd_ap, eOr_ap, eNot_ap, eIf_ap, sIf_ap, kE2_b, kE_ok, kE_ex, tE_ap, kT3_s, kT2_s, kT_ok, kT_ex, tTru_ap, tru_int, tru_bl, tru_lst, tru_tup, tru_non, tYs_ap, eCB_ap, eAndV_ap, eOrV_ap, eNotV_ap, kCh4_s, kCh3_ok, kCh3_ex, kCh2_t, kCh2_f, kCh1_s, kCh0_ok, kCh0_ex, kCh_ok, kCh_ex, eChain_ap, callF_ap, kCp_s, kC_ok, kC_ex, kCd_ok, kCd_ex, kFr2_r, kFr_ok, kFr_ex, kC1_ok, kC1_ex, eCall_ap, kC2_ok, kC2_ex, nCall_ap, dfz, dfr, prep0, pK_s, prep_d, prep_t, pKt_s, prep_f, pKf_s, mkF_ap, kMk_ok, kMk_ex, kFl_ok, kFl_ex, eFld_ap, fld_s, kO2_s, kO1_ok, kO1_ex, kO0_ok, kO0_ex, eOwn2_ap, kOC3_s, kOC2_ok, kOC2_ex, kOC1_s, kOC0_ok, kOC0_ex, eOwnC_ap, kM2_ok, kM2_ex, kM1_s, kM0_ok, kM0_ex, eMeth_ap, eJs_nil, kJz_t, kJ2_s, kJ_ok, kJ_ex, eJs_cons, kSl4_s, kSl3_s, kSl2_s, kSl1_s, eSl_ap, oP_n, kOp2_s, kOp_s, oP_s, kLc2_s, kLc1_t, kLc_ok, eLc_ap, kIs2_s, kIs_ok, iSeq_ap, it_l, it_t, kIn_s, iN_ap, kRg_ok, iRg1_ap, kRh2_ok, kRh1_ok, iRg2_ap, sNext_ap, sBrk_ap, sCnt_ap, sRetN_ap, kS_nx, kS_rt, kS_bk, kS_ct, kS_ex, sSeq_ap, kSet_ok, kSet_ex, sSet_ap, kOwn_ok, kOwn_ex, sOwn_ap, kDrp_ok, kDrp_ex, sDrop_ap, kRet_ok, kRet_ex, sRet_ap, kReO_ok, kReO_ex, sRetO_ap, sRetX_ap, kRx_o, kRx_v, kAp3_t, kAp2_o, kAp1_ok, kAp0_s, sApp_ap, kPi4_s, kPi3_s, kPi2_ok, kPi1_s, kPi0_ok, sPutI_ap, kPr2_ok, kPr1_ok, sPar_ap, kAs2_s, kAs_ok, sAsg_ap, gN_ap, gT_t, gT_l, gs_nil, kGs_s, gs_cons, kFor_ok, sFor_ap, sWhl_ap, kFd_ok, sFld_ap, kRs_ok, sRaise_ap, kSu_ok, kTr3_t, kTr2_t, kTr2_f, kTr_ok, kTr_ex, sTry_ap, kIE2_s, kIE_s, eIsE_ap, kXf_s, eXf_ap, fin_nx, fin_rt, fin_ex, finI_ex, kFi_s, finI_nx, app_nil, app_cons, ins0_nil, ins0_cons, inSl_f, inSl_l, inSl_i, inSl_b, inSl_s, inSl_n, inSl_t, inSl_c, inSl_o, pad_0, pad_1, get_0, get_1, put_0, put_1, look_v, look_o, look_b, frz_v, frz_o, stay_v, stay_o, stay_b, rd_d, rd_n, rds_nil, kRd_s, rds_cons, wipe_nil, wipe_cons, rest_nil, rest_cons, all_nil, all_cons, stb_e, stb_v, stb_b, noX_nil, noX_e, noX_v, noX_o, noX_b, true_and', tbl_ap, putFd_nil, putFd_cons, dAdd_i, dSub_i, dNeg_i, dLt_i, dLe_i, dGt_i, dGe_i, dEq_i, dNe_i, dEq_b, dNe_b, dEq_s, dNe_s, o1_ap, dAbs_i, dInt_i, dInt_b, dBool_i, dLen_l, dLen_t, dLen_c, dIx_l, dIx_t, dIx_c, at_0, at_1, at_2, at_3, isT_ii, isT_bi, isT_bb, isT_ss, isT_ll, isT_tt, isB2_i, map_s, dRev_l, dTup_l, dTup_t, dLst_l, dLst_t, dCut_l, dCutL_l, dGcd_i, isB_b, isS_s, mul_r, mul_l, dDiv_r, dMod_i, kGb_s, kGe_s,
  decide_true, decide_false, Bool.not_true, Bool.not_false, Bool.and_true, Bool.and_false, Bool.false_and, if_true, if_false, ite_true, ite_false, Bool.false_eq_true, List.lookup_cons, List.lookup_nil, List.length_cons, List.length_nil, Nat.reduceBEq, Nat.reduceLT, Nat.reduceLeDiff, Nat.zero_le, seqMax, List.length_map, Nat.reduceAdd, Nat.reduceEqDiff, Nat.reducePow, Int.reduceNe, Int.reduceEq, Int.reduceLT, Int.reduceLE, Int.reduceBEq, Int.reduceNeg, Int.natAbs_neg, ne_eq, not_true, not_false_eq_true, and_self, true_and, and_true, beq_self_eq_true]
theorem y2 (ns : List Int) (l : List (Int × Int)) (s : Int × Int) (hr : rngB ((l.length : Nat) : Int) = true) : (iRg1 (pE (eF (o1 dLen) (aCons (pN 1) aNil)))) [.val (.scr ns), .val (.lst (l.map prt)), .val (prt s), .own (.lst (l.map shp)), .emp, .val (sh s.1 s.2), .emp, .emp] = .ok (rngL 0 l.length, [.val (.scr ns), .val (.lst (l.map prt)), .val (prt s), .own (.lst (l.map shp)), .emp, .val (sh s.1 s.2), .emp, .emp]) := by
  simp only [kR_s, eC_ap, eN_ap, kN_s, pN_ap, kP_s, kpE_ok, kpE_ex, pE_ap, kU2_s, kU_ok, kU_ex, eU_ap, kB3_s, kB2_ok, kB2_ex, kB1_ok, kB1_ex, eB_ap, kF2_s, kF_ok, kF_ex, eF_ap, aNil_ap, lNil_ap, kA2_ok, kA2_ex, kA1_ok, kA1_ex, aCons_ap, kL2_ok, kL2_ex, kL1_ok, kL1_ex, lCons_ap, kSz_t, kTp_ok, kTp_ex, kLs_ok, kLs_ex, eTup_ap, nLst_ap, kIf_t, kIf_f, kIf_ex, tC_ap, eAnd_ap, eOr_ap, eNot_ap, eIf_ap, sIf_ap, kE2_b, kE_ok, kE_ex, tE_ap, kT3_s, kT2_s, kT_ok, kT_ex, tTru_ap, tru_int, tru_bl, tru_lst, tru_tup, tru_non, tYs_ap, eCB_ap, eAndV_ap, eOrV_ap, eNotV_ap, kCh4_s, kCh3_ok, kCh3_ex, kCh2_t, kCh2_f, kCh1_s, kCh0_ok, kCh0_ex, kCh_ok, kCh_ex, eChain_ap, callF_ap, kCp_s, kC_ok, kC_ex, kCd_ok, kCd_ex, kFr2_r, kFr_ok, kFr_ex, kC1_ok, kC1_ex, eCall_ap, kC2_ok, kC2_ex, nCall_ap, dfz, dfr, prep0, pK_s, prep_d, prep_t, pKt_s, prep_f, pKf_s, mkF_ap, kMk_ok, kMk_ex, kFl_ok, kFl_ex, eFld_ap, fld_s, kO2_s, kO1_ok, kO1_ex, kO0_ok, kO0_ex, eOwn2_ap, kOC3_s, kOC2_ok, kOC2_ex, kOC1_s, kOC0_ok, kOC0_ex, eOwnC_ap, kM2_ok, kM2_ex, kM1_s, kM0_ok, kM0_ex, eMeth_ap, eJs_nil, kJz_t, kJ2_s, kJ_ok, kJ_ex, eJs_cons, kSl4_s, kSl3_s, kSl2_s, kSl1_s, eSl_ap, oP_n, kOp2_s, kOp_s, oP_s, kLc2_s, kLc1_t, kLc_ok, eLc_ap, kIs2_s, kIs_ok, iSeq_ap, it_l, it_t, kIn_s, iN_ap, kRg_ok, iRg1_ap, kRh2_ok, kRh1_ok, iRg2_ap, sNext_ap, sBrk_ap, sCnt_ap, sRetN_ap, kS_nx, kS_rt, kS_bk, kS_ct, kS_ex, sSeq_ap, kSet_ok, kSet_ex, sSet_ap, kOwn_ok, kOwn_ex, sOwn_ap, kDrp_ok, kDrp_ex, sDrop_ap, kRet_ok, kRet_ex, sRet_ap, kReO_ok, kReO_ex, sRetO_ap, sRetX_ap, kRx_o, kRx_v, kAp3_t, kAp2_o, kAp1_ok, kAp0_s, sApp_ap, kPi4_s, kPi3_s, kPi2_ok, kPi1_s, kPi0_ok, sPutI_ap, kPr2_ok, kPr1_ok, sPar_ap, kAs2_s, kAs_ok, sAsg_ap, gN_ap, gT_t, gT_l, gs_nil, kGs_s, gs_cons, kFor_ok, sFor_ap, sWhl_ap, kFd_ok, sFld_ap, kRs_ok, sRaise_ap, kSu_ok, kTr3_t, kTr2_t, kTr2_f, kTr_ok, kTr_ex, sTry_ap, kIE2_s, kIE_s, eIsE_ap, kXf_s, eXf_ap, fin_nx, fin_rt, fin_ex, finI_ex, kFi_s, finI_nx, app_nil, app_cons, ins0_nil, ins0_cons, inSl_f, inSl_l, inSl_i, inSl_b, inSl_s, inSl_n, inSl_t, inSl_c, inSl_o, pad_0, pad_1, get_0, get_1, put_0, put_1, look_v, look_o, look_b, frz_v, frz_o, stay_v, stay_o, stay_b, rd_d, rd_n, rds_nil, kRd_s, rds_cons, wipe_nil, wipe_cons, rest_nil, rest_cons, all_nil, all_cons, stb_e, stb_v, stb_b, noX_nil, noX_e, noX_v, noX_o, noX_b, true_and', tbl_ap, putFd_nil, putFd_cons, dAdd_i, dSub_i, dNeg_i, dLt_i, dLe_i, dGt_i, dGe_i, dEq_i, dNe_i, dEq_b, dNe_b, dEq_s, dNe_s, o1_ap, dAbs_i, dInt_i, dInt_b, dBool_i, dLen_l, dLen_t, dLen_c, dIx_l, dIx_t, dIx_c, at_0, at_1, at_2, at_3, isT_ii, isT_bi, isT_bb, isT_ss, isT_ll, isT_tt, isB2_i, map_s, dRev_l, dTup_l, dTup_t, dLst_l, dLst_t, dCut_l, dCutL_l, dGcd_i, isB_b, isS_s, mul_r, mul_l, dDiv_r, dMod_i, kGb_s, kGe_s,
  decide_true, decide_false, Bool.not_true, Bool.not_false, Bool.and_true, Bool.and_false, Bool.false_and, if_true, if_false, ite_true, ite_false, Bool.false_eq_true, List.lookup_cons, List.lookup_nil, List.length_cons, List.length_nil, Nat.reduceBEq, Nat.reduceLT, Nat.reduceLeDiff, Nat.zero_le, seqMax, List.length_map, Nat.reduceAdd, Nat.reduceEqDiff, Nat.reducePow, Int.reduceNe, Int.reduceEq, Int.reduceLT, Int.reduceLE, Int.reduceBEq, Int.reduceNeg, Int.natAbs_neg, ne_eq, not_true, not_false_eq_true, and_self, true_and, and_true, beq_self_eq_true, kRg2_s hr, Int.toNat_natCast]
theorem rng6 {n : Nat} (h : n ≤ 6) : rngB (n : Int) = true := rngB_of (by omega) (by omega)
theorem seg5 (fu : Nat) {ns : List Int} {l : List (Int × Int)} {s : Int × Int} (hl : l.length ≤ 6)
    (ef : ∃ j, forL (gN 6) (lb_law_1 fu) (rngL 0 l.length) [.val (.scr ns), .val (.lst (l.map prt)), .val (prt s), .own (.lst (l.map shp)), .emp, .val (sh s.1 s.2), .emp, .emp] = .ok (.nx, [.val (.scr ns), .val (.lst (l.map prt)), .val (prt s), .own (.lst (l.map shp)), .emp, .val (sh s.1 s.2), j, .emp]))
    (nx : ∀ j, ∃ Γ', sg_law_4 fu [.val (.scr ns), .val (.lst (l.map prt)), .val (prt s), .own (.lst (l.map shp)), .emp, .val (sh s.1 s.2), j, .emp] = .ok (.ret (.fz (.bl true)), Γ')) :
    ∃ Γ', sg_law_5 fu [.val (.scr ns), .val (.lst (l.map prt)), .val (prt s), .own (.lst (l.map shp)), .emp, .val (sh s.1 s.2), .emp, .emp] = .ok (.ret (.fz (.bl true)), Γ') := by
  have hr := rng6 hl
  obtain ⟨j, ef⟩ := ef
  obtain ⟨Γ', e⟩ := nx j
  unfold sg_law_5
  refine' ⟨Γ', ?_⟩
  rw [sSeq_ap, y1, kS_nx, sSeq_ap, sFor_ap, y2 ns l s hr, kFor_ok, ef, kS_nx, e]
theorem seg6 (fu : Nat) {ns : List Int} {l : List (Int × Int)} {s : Int × Int} {t : Str}
    (et : F_Share_total fu [.lst (l.map shp)] = .ok (.fz (sh s.1 s.2)))
    (is1 : F_law_is fu [sh s.1 s.2, prt s] = .ok (.fz (.bl true)))
    (st : F_ShareD_strD fu [sh s.1 s.2] = .ok (.fz (.str t))) (tx : F_law_text fu [prt s] = .ok (.fz (.str t))) (bo : F_ShareD_boolD fu [sh s.1 s.2] = .ok (.fz (.bl (!(s.1 == 0)))))
    (nx : ∃ Γ', sg_law_5 fu [.val (.scr ns), .val (.lst (l.map prt)), .val (prt s), .own (.lst (l.map shp)), .emp, .val (sh s.1 s.2), .emp, .emp] = .ok (.ret (.fz (.bl true)), Γ')) :
    ∃ Γ', sg_law_6 fu [.val (.scr ns), .val (.lst (l.map prt)), .val (prt s), .own (.lst (l.map shp)), .emp, .emp, .emp, .emp] = .ok (.ret (.fz (.bl true)), Γ') := by
  obtain ⟨Γ', e⟩ := nx
  unfold sg_law_6
  refine' ⟨Γ', ?_⟩
  simp only [kR_s, eC_ap, eN_ap, kN_s, pN_ap, kP_s, kpE_ok, kpE_ex, pE_ap, kU2_s, kU_ok, kU_ex, eU_ap, kB3_s, kB2_ok, kB2_ex, kB1_ok, kB1_ex, eB_ap, kF2_s, kF_ok, kF_ex, eF_ap, aNil_ap, lNil_ap, kA2_ok, kA2_ex, kA1_ok, kA1_ex, aCons_ap, kL2_ok, kL2_ex, kL1_ok, kL1_ex, lCons_ap, kSz_t, kTp_ok, kTp_ex, kLs_ok, kLs_ex, eTup_ap, nLst_ap, kIf_t, kIf_f, kIf_ex, tC_ap, eAnd_ap, eOr_ap, eNot_ap, eIf_ap, sIf_ap, kE2_b, kE_ok, kE_ex, tE_ap, kT3_s, kT2_s, kT_ok, kT_ex, tTru_ap, tru_int, tru_bl, tru_lst, tru_tup, tru_non, tYs_ap, eCB_ap, eAndV_ap, eOrV_ap, eNotV_ap, kCh4_s, kCh3_ok, kCh3_ex, kCh2_t, kCh2_f, kCh1_s, kCh0_ok, kCh0_ex, kCh_ok, kCh_ex, eChain_ap, callF_ap, kCp_s, kC_ok, kC_ex, kCd_ok, kCd_ex, kFr2_r, kFr_ok, kFr_ex, kC1_ok, kC1_ex, eCall_ap, kC2_ok, kC2_ex, nCall_ap, dfz, dfr, prep0, pK_s, prep_d, prep_t, pKt_s, prep_f, pKf_s, mkF_ap, kMk_ok, kMk_ex, kFl_ok, kFl_ex, eFld_ap, fld_s, kO2_s, kO1_ok, kO1_ex, kO0_ok, kO0_ex, eOwn2_ap, kOC3_s, kOC2_ok, kOC2_ex, kOC1_s, kOC0_ok, kOC0_ex, eOwnC_ap, kM2_ok, kM2_ex, kM1_s, kM0_ok, kM0_ex, eMeth_ap, eJs_nil, kJz_t, kJ2_s, kJ_ok, kJ_ex, eJs_cons, kSl4_s, kSl3_s, kSl2_s, kSl1_s, eSl_ap, oP_n, kOp2_s, kOp_s, oP_s, kLc2_s, kLc1_t, kLc_ok, eLc_ap, kIs2_s, kIs_ok, iSeq_ap, it_l, it_t, kIn_s, iN_ap, kRg_ok, iRg1_ap, kRh2_ok, kRh1_ok, iRg2_ap, sNext_ap, sBrk_ap, sCnt_ap, sRetN_ap, kS_nx, kS_rt, kS_bk, kS_ct, kS_ex, sSeq_ap, kSet_ok, kSet_ex, sSet_ap, kOwn_ok, kOwn_ex, sOwn_ap, kDrp_ok, kDrp_ex, sDrop_ap, kRet_ok, kRet_ex, sRet_ap, kReO_ok, kReO_ex, sRetO_ap, sRetX_ap, kRx_o, kRx_v, kAp3_t, kAp2_o, kAp1_ok, kAp0_s, sApp_ap, kPi4_s, kPi3_s, kPi2_ok, kPi1_s, kPi0_ok, sPutI_ap, kPr2_ok, kPr1_ok, sPar_ap, kAs2_s, kAs_ok, sAsg_ap, gN_ap, gT_t, gT_l, gs_nil, kGs_s, gs_cons, kFor_ok, sFor_ap, sWhl_ap, kFd_ok, sFld_ap, kRs_ok, sRaise_ap, kSu_ok, kTr3_t, kTr2_t, kTr2_f, kTr_ok, kTr_ex, sTry_ap, kIE2_s, kIE_s, eIsE_ap, kXf_s, eXf_ap, fin_nx, fin_rt, fin_ex, finI_ex, kFi_s, finI_nx, app_nil, app_cons, ins0_nil, ins0_cons, inSl_f, inSl_l, inSl_i, inSl_b, inSl_s, inSl_n, inSl_t, inSl_c, inSl_o, pad_0, pad_1, get_0, get_1, put_0, put_1, look_v, look_o, look_b, frz_v, frz_o, stay_v, stay_o, stay_b, rd_d, rd_n, rds_nil, kRd_s, rds_cons, wipe_nil, wipe_cons, rest_nil, rest_cons, all_nil, all_cons, stb_e, stb_v, stb_b, noX_nil, noX_e, noX_v, noX_o, noX_b, true_and', tbl_ap, putFd_nil, putFd_cons, dAdd_i, dSub_i, dNeg_i, dLt_i, dLe_i, dGt_i, dGe_i, dEq_i, dNe_i, dEq_b, dNe_b, dEq_s, dNe_s, o1_ap, dAbs_i, dInt_i, dInt_b, dBool_i, dLen_l, dLen_t, dLen_c, dIx_l, dIx_t, dIx_c, at_0, at_1, at_2, at_3, isT_ii, isT_bi, isT_bb, isT_ss, isT_ll, isT_tt, isB2_i, map_s, dRev_l, dTup_l, dTup_t, dLst_l, dLst_t, dCut_l, dCutL_l, dGcd_i, isB_b, isS_s, mul_r, mul_l, dDiv_r, dMod_i, kGb_s, kGe_s,
  decide_true, decide_false, Bool.not_true, Bool.not_false, Bool.and_true, Bool.and_false, Bool.false_and, if_true, if_false, ite_true, ite_false, Bool.false_eq_true, List.lookup_cons, List.lookup_nil, List.length_cons, List.length_nil, Nat.reduceBEq, Nat.reduceLT, Nat.reduceLeDiff, Nat.zero_le, seqMax, List.length_map, Nat.reduceAdd, Nat.reduceEqDiff, Nat.reducePow, Int.reduceNe, Int.reduceEq, Int.reduceLT, Int.reduceLE, Int.reduceBEq, Int.reduceNeg, Int.natAbs_neg, ne_eq, not_true, not_false_eq_true, and_self, true_and, and_true, beq_self_eq_true, et, is1, st, tx, bo, kOC1_sh, ix_prt0, e]
theorem seg7 (fu : Nat) {ns : List Int} {l : List (Int × Int)} {s : Int × Int}
    (ea : F_law_added fu [.lst (l.map prt)] = .ok (.fz (prt s)))
    (ec : lcL (gN 4) tYs (el_law_0 fu) [4] (l.map prt) [.val (.scr ns), .val (.lst (l.map prt)), .val (prt s), .emp, .emp, .emp, .emp, .emp] 0 = some (l.map shp, [.val (.scr ns), .val (.lst (l.map prt)), .val (prt s), .emp, .emp, .emp, .emp, .emp]))
    (nx : ∃ Γ', sg_law_6 fu [.val (.scr ns), .val (.lst (l.map prt)), .val (prt s), .own (.lst (l.map shp)), .emp, .emp, .emp, .emp] = .ok (.ret (.fz (.bl true)), Γ')) :
    ∃ Γ', sg_law_7 fu [.val (.scr ns), .val (.lst (l.map prt)), .emp, .emp, .emp, .emp, .emp, .emp] = .ok (.ret (.fz (.bl true)), Γ') := by
  obtain ⟨Γ', e⟩ := nx
  unfold sg_law_7
  refine' ⟨Γ', ?_⟩
  simp only [kR_s, eC_ap, eN_ap, kN_s, pN_ap, kP_s, kpE_ok, kpE_ex, pE_ap, kU2_s, kU_ok, kU_ex, eU_ap, kB3_s, kB2_ok, kB2_ex, kB1_ok, kB1_ex, eB_ap, kF2_s, kF_ok, kF_ex, eF_ap, aNil_ap, lNil_ap, kA2_ok, kA2_ex, kA1_ok, kA1_ex, aCons_ap, kL2_ok, kL2_ex, kL1_ok, kL1_ex, lCons_ap, kSz_t, kTp_ok, kTp_ex, kLs_ok, kLs_ex, eTup_ap, nLst_ap, kIf_t, kIf_f, kIf_ex, tC_ap, eAnd_ap, eOr_ap, eNot_ap, eIf_ap, sIf_ap, kE2_b, kE_ok, kE_ex, tE_ap, kT3_s, kT2_s, kT_ok, kT_ex, tTru_ap, tru_int, tru_bl, tru_lst, tru_tup, tru_non, tYs_ap, eCB_ap, eAndV_ap, eOrV_ap, eNotV_ap, kCh4_s, kCh3_ok, kCh3_ex, kCh2_t, kCh2_f, kCh1_s, kCh0_ok, kCh0_ex, kCh_ok, kCh_ex, eChain_ap, callF_ap, kCp_s, kC_ok, kC_ex, kCd_ok, kCd_ex, kFr2_r, kFr_ok, kFr_ex, kC1_ok, kC1_ex, eCall_ap, kC2_ok, kC2_ex, nCall_ap, dfz, dfr, prep0, pK_s, prep_d, prep_t, pKt_s, prep_f, pKf_s, mkF_ap, kMk_ok, kMk_ex, kFl_ok, kFl_ex, eFld_ap, fld_s, kO2_s, kO1_ok, kO1_ex, kO0_ok, kO0_ex, eOwn2_ap, kOC3_s, kOC2_ok, kOC2_ex, kOC1_s, kOC0_ok, kOC0_ex, eOwnC_ap, kM2_ok, kM2_ex, kM1_s, kM0_ok, kM0_ex, eMeth_ap, eJs_nil, kJz_t, kJ2_s, kJ_ok, kJ_ex, eJs_cons, kSl4_s, kSl3_s, kSl2_s, kSl1_s, eSl_ap, oP_n, kOp2_s, kOp_s, oP_s, kLc2_s, kLc1_t, kLc_ok, eLc_ap, kIs2_s, kIs_ok, iSeq_ap, it_l, it_t, kIn_s, iN_ap, kRg_ok, iRg1_ap, kRh2_ok, kRh1_ok, iRg2_ap, sNext_ap, sBrk_ap, sCnt_ap, sRetN_ap, kS_nx, kS_rt, kS_bk, kS_ct, kS_ex, sSeq_ap, kSet_ok, kSet_ex, sSet_ap, kOwn_ok, kOwn_ex, sOwn_ap, kDrp_ok, kDrp_ex, sDrop_ap, kRet_ok, kRet_ex, sRet_ap, kReO_ok, kReO_ex, sRetO_ap, sRetX_ap, kRx_o, kRx_v, kAp3_t, kAp2_o, kAp1_ok, kAp0_s, sApp_ap, kPi4_s, kPi3_s, kPi2_ok, kPi1_s, kPi0_ok, sPutI_ap, kPr2_ok, kPr1_ok, sPar_ap, kAs2_s, kAs_ok, sAsg_ap, gN_ap, gT_t, gT_l, gs_nil, kGs_s, gs_cons, kFor_ok, sFor_ap, sWhl_ap, kFd_ok, sFld_ap, kRs_ok, sRaise_ap, kSu_ok, kTr3_t, kTr2_t, kTr2_f, kTr_ok, kTr_ex, sTry_ap, kIE2_s, kIE_s, eIsE_ap, kXf_s, eXf_ap, fin_nx, fin_rt, fin_ex, finI_ex, kFi_s, finI_nx, app_nil, app_cons, ins0_nil, ins0_cons, inSl_f, inSl_l, inSl_i, inSl_b, inSl_s, inSl_n, inSl_t, inSl_c, inSl_o, pad_0, pad_1, get_0, get_1, put_0, put_1, look_v, look_o, look_b, frz_v, frz_o, stay_v, stay_o, stay_b, rd_d, rd_n, rds_nil, kRd_s, rds_cons, wipe_nil, wipe_cons, rest_nil, rest_cons, all_nil, all_cons, stb_e, stb_v, stb_b, noX_nil, noX_e, noX_v, noX_o, noX_b, true_and', tbl_ap, putFd_nil, putFd_cons, dAdd_i, dSub_i, dNeg_i, dLt_i, dLe_i, dGt_i, dGe_i, dEq_i, dNe_i, dEq_b, dNe_b, dEq_s, dNe_s, o1_ap, dAbs_i, dInt_i, dInt_b, dBool_i, dLen_l, dLen_t, dLen_c, dIx_l, dIx_t, dIx_c, at_0, at_1, at_2, at_3, isT_ii, isT_bi, isT_bb, isT_ss, isT_ll, isT_tt, isB2_i, map_s, dRev_l, dTup_l, dTup_t, dLst_l, dLst_t, dCut_l, dCutL_l, dGcd_i, isB_b, isS_s, mul_r, mul_l, dDiv_r, dMod_i, kGb_s, kGe_s,
  decide_true, decide_false, Bool.not_true, Bool.not_false, Bool.and_true, Bool.and_false, Bool.false_and, if_true, if_false, ite_true, ite_false, Bool.false_eq_true, List.lookup_cons, List.lookup_nil, List.length_cons, List.length_nil, Nat.reduceBEq, Nat.reduceLT, Nat.reduceLeDiff, Nat.zero_le, seqMax, List.length_map, Nat.reduceAdd, Nat.reduceEqDiff, Nat.reducePow, Int.reduceNe, Int.reduceEq, Int.reduceLT, Int.reduceLE, Int.reduceBEq, Int.reduceNeg, Int.natAbs_neg, ne_eq, not_true, not_false_eq_true, and_self, true_and, and_true, beq_self_eq_true, ea, ec, e]
theorem law_ok (fu : Nat) (hf : 2 ^ 3000 ≤ fu) (ns : List Int) : F_law fu [.scr ns] = .ok (.fz (.bl true)) := by
  obtain ⟨l, ep, hl, h⟩ := parts_ok fu ns
  have hS := St_addP l h
  obtain ⟨o1, o2, o3⟩ := hS.lt (k := 1900) (by omega)
  obtain ⟨u1, u2, u3⟩ := hS.lt (k := 3000) (by omega)
  have er := total_l fu (l := l.reverse) (fun p hp => h p (List.mem_reverse.mp hp)) (by rw [List.length_reverse]; omega)
  rw [addP_rev, List.map_reverse] at er
  obtain ⟨Γc, ec, rfl⟩ := comp_ok fu h hl (a0 := .val (.scr ns)) (a1 := .val (.lst (l.map prt))) (a2 := .val (prt (addP l)))
  have is1 := is_ok fu (p := addP l) u1 u2 u3 hf
  have bo := bool_ok fu (n := (addP l).1) (d := (addP l).2)
  rw [nn_zero o1] at bo
  obtain ⟨Γf, ef, j, rfl⟩ := forL_run (g := gN 6) (s := lb_law_1 fu) (ds := rngL 0 l.length) (P := fun _ => LawI (.val (.scr ns)) (.val (.lst (l.map prt))) (.val (prt (addP l))) (.own (.lst (l.map shp))) (.val (sh (addP l).1 (addP l).2))) ⟨.emp, rfl⟩ (law_step fu hf h hl)
  have c2 := cell_ok fu ns (k := 2) (by decide)
  have c3 := cell_ok fu ns (k := 3) (by decide)
  have f2 := fm_lt (ns.getD (2 : Int).toNat 0) (m := 41) (by decide)
  have f3 := fm_lt (ns.getD (3 : Int).toNat 0) (m := 9) (by decide)
  have hq : OkB 52 ((ns.getD (2 : Int).toNat 0).fmod 41 - 20, 1 + (ns.getD (3 : Int).toNat 0).fmod 9) := by
    have pw : (2:Nat) ^ 52 = 4503599627370496 := by decide +kernel
    exact ⟨show (1 + (ns.getD (3 : Int).toNat 0).fmod 9) ≠ 0 by omega, by show ((ns.getD (2 : Int).toNat 0).fmod 41 - 20).natAbs < _; omega, by show (1 + (ns.getD (3 : Int).toNat 0).fmod 9).natAbs < _; omega⟩
  obtain ⟨q, hqq⟩ : ∃ q : Int × Int, q = ((ns.getD (2 : Int).toNat 0).fmod 41 - 20, 1 + (ns.getD (3 : Int).toNat 0).fmod 9) := ⟨_, rfl⟩
  rw [← hqq] at hq
  have q1 : (ns.getD (2 : Int).toNat 0).fmod 41 - 20 = q.1 := by rw [hqq]
  have q2 : 1 + (ns.getD (3 : Int).toNat 0).fmod 9 = q.2 := by rw [hqq]
  have qo := hq.lt (k := 270) (by decide)
  obtain ⟨v1, v2, v3⟩ := hq.lt (k := 7000) (by decide)
  obtain ⟨w1, w2, w3⟩ := hq.lt (k := 3000) (by decide)
  have h2 := mem_prt h qo
  have l7 : (l ++ [q]).length ≤ 7 := by rw [List.length_append]; simp; omega
  have hS2 := St_addP (l ++ [q]) h2
  obtain ⟨y1, y2, y3⟩ := hS2.lt (k := 3000) (by omega)
  have z0 : (0:Int).natAbs < 2 ^ 3000 := Nat.pos_of_ne_zero (by simp)
  have z1 : (1:Int).natAbs < 2 ^ 3000 := Nat.lt_of_lt_of_le (show (1:Int).natAbs < 2 ^ 1 by decide) (Nat.pow_le_pow_right (by decide) (by decide))
  have z2 : (1:Int).natAbs < 2 ^ 7000 := Nat.lt_of_lt_of_le (show (1:Int).natAbs < 2 ^ 1 by decide) (Nat.pow_le_pow_right (by decide) (by decide))
  have z3 : (1:Int).natAbs < 2 ^ 1900 := Nat.lt_of_lt_of_le (show (1:Int).natAbs < 2 ^ 1 by decide) (Nat.pow_le_pow_right (by decide) (by decide))
  have z4 : (0:Int).natAbs < 2 ^ 1900 := Nat.pos_of_ne_zero (by simp)
  have bo0 := bool_ok fu (n := 0) (d := 1)
  rw [nn01] at bo0
  have e := seg7 fu (ns := ns) (added_ok fu h (by omega)) ec (seg6 fu (total_l fu h (by omega)) is1 (str_ok fu o1 o2 o3) (text_ok fu o1 o2 o3 (FU 2000 (by decide) hf)) bo
    (seg5 fu hl ⟨j, ef⟩ fun j => seg4 fu (q := q) (total_t fu h (by omega)) er is1 c2 c3 q1 q2
      (seg3 fu hl (init_ok fu v1 v3) is1 (s2 := addP (l ++ [q])) (total_l fu h2 (by omega)) (added_ok fu h2 (by omega)) (is_ok fu y1 y2 y3 hf)
        (seg2 fu (total_l fu (l := []) (fun p hp => by cases hp) (by decide)) (is_ok fu (p := (0, 1)) (show (1:Int) ≠ 0 by decide) z0 z1 hf) (str_ok fu (by decide) z4 z3) (init_ok fu (by decide) z2) bo0
          (refused_ok fu _ u2 hf) (refused_ok fu 0 z0 hf) (refused_ok fu _ w2 hf)))))
  obtain ⟨Γ', e⟩ := e
  unfold F_law sv_law
  rw [runF_ap rfl]
  simp only [kR_s, eC_ap, eN_ap, kN_s, pN_ap, kP_s, kpE_ok, kpE_ex, pE_ap, kU2_s, kU_ok, kU_ex, eU_ap, kB3_s, kB2_ok, kB2_ex, kB1_ok, kB1_ex, eB_ap, kF2_s, kF_ok, kF_ex, eF_ap, aNil_ap, lNil_ap, kA2_ok, kA2_ex, kA1_ok, kA1_ex, aCons_ap, kL2_ok, kL2_ex, kL1_ok, kL1_ex, lCons_ap, kSz_t, kTp_ok, kTp_ex, kLs_ok, kLs_ex, eTup_ap, nLst_ap, kIf_t, kIf_f, kIf_ex, tC_ap, eAnd_ap, eOr_ap, eNot_ap, eIf_ap, sIf_ap, kE2_b, kE_ok, kE_ex, tE_ap, kT3_s, kT2_s, kT_ok, kT_ex, tTru_ap, tru_int, tru_bl, tru_lst, tru_tup, tru_non, tYs_ap, eCB_ap, eAndV_ap, eOrV_ap, eNotV_ap, kCh4_s, kCh3_ok, kCh3_ex, kCh2_t, kCh2_f, kCh1_s, kCh0_ok, kCh0_ex, kCh_ok, kCh_ex, eChain_ap, callF_ap, kCp_s, kC_ok, kC_ex, kCd_ok, kCd_ex, kFr2_r, kFr_ok, kFr_ex, kC1_ok, kC1_ex, eCall_ap, kC2_ok, kC2_ex, nCall_ap, dfz, dfr, prep0, pK_s, prep_d, prep_t, pKt_s, prep_f, pKf_s, mkF_ap, kMk_ok, kMk_ex, kFl_ok, kFl_ex, eFld_ap, fld_s, kO2_s, kO1_ok, kO1_ex, kO0_ok, kO0_ex, eOwn2_ap, kOC3_s, kOC2_ok, kOC2_ex, kOC1_s, kOC0_ok, kOC0_ex, eOwnC_ap, kM2_ok, kM2_ex, kM1_s, kM0_ok, kM0_ex, eMeth_ap, eJs_nil, kJz_t, kJ2_s, kJ_ok, kJ_ex, eJs_cons, kSl4_s, kSl3_s, kSl2_s, kSl1_s, eSl_ap, oP_n, kOp2_s, kOp_s, oP_s, kLc2_s, kLc1_t, kLc_ok, eLc_ap, kIs2_s, kIs_ok, iSeq_ap, it_l, it_t, kIn_s, iN_ap, kRg_ok, iRg1_ap, kRh2_ok, kRh1_ok, iRg2_ap, sNext_ap, sBrk_ap, sCnt_ap, sRetN_ap, kS_nx, kS_rt, kS_bk, kS_ct, kS_ex, sSeq_ap, kSet_ok, kSet_ex, sSet_ap, kOwn_ok, kOwn_ex, sOwn_ap, kDrp_ok, kDrp_ex, sDrop_ap, kRet_ok, kRet_ex, sRet_ap, kReO_ok, kReO_ex, sRetO_ap, sRetX_ap, kRx_o, kRx_v, kAp3_t, kAp2_o, kAp1_ok, kAp0_s, sApp_ap, kPi4_s, kPi3_s, kPi2_ok, kPi1_s, kPi0_ok, sPutI_ap, kPr2_ok, kPr1_ok, sPar_ap, kAs2_s, kAs_ok, sAsg_ap, gN_ap, gT_t, gT_l, gs_nil, kGs_s, gs_cons, kFor_ok, sFor_ap, sWhl_ap, kFd_ok, sFld_ap, kRs_ok, sRaise_ap, kSu_ok, kTr3_t, kTr2_t, kTr2_f, kTr_ok, kTr_ex, sTry_ap, kIE2_s, kIE_s, eIsE_ap, kXf_s, eXf_ap, fin_nx, fin_rt, fin_ex, finI_ex, kFi_s, finI_nx, app_nil, app_cons, ins0_nil, ins0_cons, inSl_f, inSl_l, inSl_i, inSl_b, inSl_s, inSl_n, inSl_t, inSl_c, inSl_o, pad_0, pad_1, get_0, get_1, put_0, put_1, look_v, look_o, look_b, frz_v, frz_o, stay_v, stay_o, stay_b, rd_d, rd_n, rds_nil, kRd_s, rds_cons, wipe_nil, wipe_cons, rest_nil, rest_cons, all_nil, all_cons, stb_e, stb_v, stb_b, noX_nil, noX_e, noX_v, noX_o, noX_b, true_and', tbl_ap, putFd_nil, putFd_cons, dAdd_i, dSub_i, dNeg_i, dLt_i, dLe_i, dGt_i, dGe_i, dEq_i, dNe_i, dEq_b, dNe_b, dEq_s, dNe_s, o1_ap, dAbs_i, dInt_i, dInt_b, dBool_i, dLen_l, dLen_t, dLen_c, dIx_l, dIx_t, dIx_c, at_0, at_1, at_2, at_3, isT_ii, isT_bi, isT_bb, isT_ss, isT_ll, isT_tt, isB2_i, map_s, dRev_l, dTup_l, dTup_t, dLst_l, dLst_t, dCut_l, dCutL_l, dGcd_i, isB_b, isS_s, mul_r, mul_l, dDiv_r, dMod_i, kGb_s, kGe_s,
  decide_true, decide_false, Bool.not_true, Bool.not_false, Bool.and_true, Bool.and_false, Bool.false_and, if_true, if_false, ite_true, ite_false, Bool.false_eq_true, List.lookup_cons, List.lookup_nil, List.length_cons, List.length_nil, Nat.reduceBEq, Nat.reduceLT, Nat.reduceLeDiff, Nat.zero_le, seqMax, List.length_map, Nat.reduceAdd, Nat.reduceEqDiff, Nat.reducePow, Int.reduceNe, Int.reduceEq, Int.reduceLT, Int.reduceLE, Int.reduceBEq, Int.reduceNeg, Int.natAbs_neg, ne_eq, not_true, not_false_eq_true, and_self, true_and, and_true, beq_self_eq_true, ep, e]
end K01

set_option autoImplicit true
set_option linter.all false
set_option exponentiation.threshold 10000
namespace K01
open PySem Ed
def FUEL : Nat := 2 ^ 3000
theorem law_true : ∀ ns : List Int, ns.length ≤ 63 → F_law FUEL [.scr ns] = .ok (.fz (.bl true)) := fun ns _ => law_ok FUEL (Nat.le_refl _) ns
end K01

set_option autoImplicit true
set_option Elab.async false
set_option linter.all false
set_option maxRecDepth 100000
set_option exponentiation.threshold 10000
set_option maxHeartbeats 4000000
namespace K01
open PySem L2 Ed
def top (i : Nat) : Stmt := PySem.Challenge.pw_unbrokenrows_k01_share_totals_and_texts.main.body.getD i (.Pass ⟨0, 0, 0, 0⟩)
abbrev s_ShareD_initD : Stmt := inClass (top 9) 0
abbrev N_ShareD_initD : List Str := ["self", "num", "den", "common"]
theorem sc_ShareD_initD : FnScope N_ShareD_initD ["self", "num", "den"] (defScope s_ShareD_initD) := ⟨rfl, rfl, rfl, by decide +kernel, rfl, by decide +kernel, by decide +kernel⟩
abbrev s_ShareD_addD : Stmt := inClass (top 9) 3
abbrev N_ShareD_addD : List Str := ["self", "other"]
theorem sc_ShareD_addD : FnScope N_ShareD_addD ["self", "other"] (defScope s_ShareD_addD) := ⟨rfl, rfl, rfl, by decide +kernel, rfl, by decide +kernel, by decide +kernel⟩
abbrev s_Share_total : Stmt := inClass (top 9) 1
abbrev N_Share_total : List Str := ["shares", "result", "share"]
theorem sc_Share_total : FnScope N_Share_total ["shares"] (defScope s_Share_total) := ⟨rfl, rfl, rfl, by decide +kernel, rfl, by decide +kernel, by decide +kernel⟩
abbrev s_ShareD_boolD : Stmt := inClass (top 9) 9
abbrev N_ShareD_boolD : List Str := ["self"]
theorem sc_ShareD_boolD : FnScope N_ShareD_boolD ["self"] (defScope s_ShareD_boolD) := ⟨rfl, rfl, rfl, by decide +kernel, rfl, by decide +kernel, by decide +kernel⟩
abbrev s_ShareD_strD : Stmt := inClass (top 9) 11
abbrev N_ShareD_strD : List Str := ["self"]
theorem sc_ShareD_strD : FnScope N_ShareD_strD ["self"] (defScope s_ShareD_strD) := ⟨rfl, rfl, rfl, by decide +kernel, rfl, by decide +kernel, by decide +kernel⟩
abbrev s_law_cell : Stmt := top 11
abbrev N_law_cell : List Str := ["script", "k"]
theorem sc_law_cell : FnScope N_law_cell ["script", "k"] (defScope s_law_cell) := ⟨rfl, rfl, rfl, by decide +kernel, rfl, by decide +kernel, by decide +kernel⟩
abbrev s_law_pool : Stmt := top 12
abbrev N_law_pool : List Str := ["script", "k", "count", "value", "pool", "i", "first", "second", "third"]
theorem sc_law_pool : FnScope N_law_pool ["script", "k", "count"] (defScope s_law_pool) := ⟨rfl, rfl, rfl, by decide +kernel, rfl, by decide +kernel, by decide +kernel⟩
abbrev s_law_part : Stmt := top 13
abbrev N_law_part : List Str := ["pool", "at", "kinds", "span", "draw"]
theorem sc_law_part : FnScope N_law_part ["pool", "at", "kinds"] (defScope s_law_part) := ⟨rfl, rfl, rfl, by decide +kernel, rfl, by decide +kernel, by decide +kernel⟩
abbrev s_law_common : Stmt := top 14
abbrev N_law_common : List Str := ["one", "other"]
theorem sc_law_common : FnScope N_law_common ["one", "other"] (defScope s_law_common) := ⟨rfl, rfl, rfl, by decide +kernel, rfl, by decide +kernel, by decide +kernel⟩
abbrev s_law_added : Stmt := top 15
abbrev N_law_added : List Str := ["parts", "num", "den", "part"]
theorem sc_law_added : FnScope N_law_added ["parts"] (defScope s_law_added) := ⟨rfl, rfl, rfl, by decide +kernel, rfl, by decide +kernel, by decide +kernel⟩
abbrev s_law_text : Stmt := top 16
abbrev N_law_text : List Str := ["part", "common"]
theorem sc_law_text : FnScope N_law_text ["part"] (defScope s_law_text) := ⟨rfl, rfl, rfl, by decide +kernel, rfl, by decide +kernel, by decide +kernel⟩
abbrev s_law_is : Stmt := top 17
abbrev N_law_is : List Str := ["found", "part", "common", "sign"]
theorem sc_law_is : FnScope N_law_is ["found", "part"] (defScope s_law_is) := ⟨rfl, rfl, rfl, by decide +kernel, rfl, by decide +kernel, by decide +kernel⟩
abbrev s_law_refused : Stmt := top 18
abbrev N_law_refused : List Str := ["num", "kinds", "e"]
theorem sc_law_refused : FnScope N_law_refused ["num"] (defScope s_law_refused) := ⟨rfl, rfl, rfl, by decide +kernel, rfl, by decide +kernel, by decide +kernel⟩
abbrev s_law_parts : Stmt := top 19
abbrev N_law_parts : List Str := ["script", "tops", "lows", "closing", "kinds", "parts", "i", "num", "den", "others", "whole"]
theorem sc_law_parts : FnScope N_law_parts ["script"] (defScope s_law_parts) := ⟨rfl, rfl, rfl, by decide +kernel, rfl, by decide +kernel, by decide +kernel⟩
abbrev s_law : Stmt := top 20
abbrev N_law : List Str := ["script", "parts", "due", "shares", "part", "total", "i", "extra"]
theorem sc_law : FnScope N_law ["script"] (defScope s_law) := ⟨rfl, rfl, rfl, by decide +kernel, rfl, by decide +kernel, by decide +kernel⟩
structure Txt (K : PySem.W.Frag) (mg : Str → Option Value) where
  f_ShareD_initD : Addr
  fd_ShareD_initD : FuncData
  F_ShareD_initD : FunD K "__init__" "Share.__init__" (defArgs s_ShareD_initD) (defBody s_ShareD_initD) (defScope s_ShareD_initD) [V.int 1] [] f_ShareD_initD fd_ShareD_initD
  ds1_ShareD_initD : List Value
  dv1_ShareD_initD : Vals [V.int 1] ds1_ShareD_initD
  bd1_ShareD_initD : Binds K fd_ShareD_initD ["self", "num", "den"] ds1_ShareD_initD
  bd_ShareD_initD : Binds K fd_ShareD_initD ["self", "num", "den"] []
  k_ShareD_initD : PySem.W.keepIn K (.ref f_ShareD_initD) = true
  f_ShareD_addD : Addr
  fd_ShareD_addD : FuncData
  F_ShareD_addD : Fun K "__add__" "Share.__add__" s_ShareD_addD f_ShareD_addD fd_ShareD_addD
  bd_ShareD_addD : Binds K fd_ShareD_addD ["self", "other"] []
  k_ShareD_addD : PySem.W.keepIn K (.ref f_ShareD_addD) = true
  f_Share_total : Addr
  fd_Share_total : FuncData
  F_Share_total : Fun K "total" "Share.total" s_Share_total f_Share_total fd_Share_total
  bd_Share_total : Binds K fd_Share_total ["shares"] []
  k_Share_total : PySem.W.keepIn K (.ref f_Share_total) = true
  f_ShareD_boolD : Addr
  fd_ShareD_boolD : FuncData
  F_ShareD_boolD : Fun K "__bool__" "Share.__bool__" s_ShareD_boolD f_ShareD_boolD fd_ShareD_boolD
  bd_ShareD_boolD : Binds K fd_ShareD_boolD ["self"] []
  k_ShareD_boolD : PySem.W.keepIn K (.ref f_ShareD_boolD) = true
  f_ShareD_strD : Addr
  fd_ShareD_strD : FuncData
  F_ShareD_strD : Fun K "__str__" "Share.__str__" s_ShareD_strD f_ShareD_strD fd_ShareD_strD
  bd_ShareD_strD : Binds K fd_ShareD_strD ["self"] []
  k_ShareD_strD : PySem.W.keepIn K (.ref f_ShareD_strD) = true
  f_law_cell : Addr
  fd_law_cell : FuncData
  F_law_cell : Fun K "_law_cell" "_law_cell" s_law_cell f_law_cell fd_law_cell
  bd_law_cell : Binds K fd_law_cell ["script", "k"] []
  k_law_cell : PySem.W.keepIn K (.ref f_law_cell) = true
  f_law_pool : Addr
  fd_law_pool : FuncData
  F_law_pool : Fun K "_law_pool" "_law_pool" s_law_pool f_law_pool fd_law_pool
  bd_law_pool : Binds K fd_law_pool ["script", "k", "count"] []
  k_law_pool : PySem.W.keepIn K (.ref f_law_pool) = true
  f_law_part : Addr
  fd_law_part : FuncData
  F_law_part : Fun K "_law_part" "_law_part" s_law_part f_law_part fd_law_part
  bd_law_part : Binds K fd_law_part ["pool", "at", "kinds"] []
  k_law_part : PySem.W.keepIn K (.ref f_law_part) = true
  f_law_common : Addr
  fd_law_common : FuncData
  F_law_common : Fun K "_law_common" "_law_common" s_law_common f_law_common fd_law_common
  bd_law_common : Binds K fd_law_common ["one", "other"] []
  k_law_common : PySem.W.keepIn K (.ref f_law_common) = true
  f_law_added : Addr
  fd_law_added : FuncData
  F_law_added : Fun K "_law_added" "_law_added" s_law_added f_law_added fd_law_added
  bd_law_added : Binds K fd_law_added ["parts"] []
  k_law_added : PySem.W.keepIn K (.ref f_law_added) = true
  f_law_text : Addr
  fd_law_text : FuncData
  F_law_text : Fun K "_law_text" "_law_text" s_law_text f_law_text fd_law_text
  bd_law_text : Binds K fd_law_text ["part"] []
  k_law_text : PySem.W.keepIn K (.ref f_law_text) = true
  f_law_is : Addr
  fd_law_is : FuncData
  F_law_is : Fun K "_law_is" "_law_is" s_law_is f_law_is fd_law_is
  bd_law_is : Binds K fd_law_is ["found", "part"] []
  k_law_is : PySem.W.keepIn K (.ref f_law_is) = true
  f_law_refused : Addr
  fd_law_refused : FuncData
  F_law_refused : Fun K "_law_refused" "_law_refused" s_law_refused f_law_refused fd_law_refused
  bd_law_refused : Binds K fd_law_refused ["num"] []
  k_law_refused : PySem.W.keepIn K (.ref f_law_refused) = true
  f_law_parts : Addr
  fd_law_parts : FuncData
  F_law_parts : Fun K "_law_parts" "_law_parts" s_law_parts f_law_parts fd_law_parts
  bd_law_parts : Binds K fd_law_parts ["script"] []
  k_law_parts : PySem.W.keepIn K (.ref f_law_parts) = true
  f_law : Addr
  fd_law : FuncData
  F_law : Fun K "law" "law" s_law f_law fd_law
  bd_law : Binds K fd_law ["script"] []
  k_law : PySem.W.keepIn K (.ref f_law) = true
  C_BadShare : Addr
  C_Share : Addr
  C_Unknown : Addr
  C_RowsError : Addr
  C_BadNumber : Addr
  C_Impossible : Addr
  q_Share_total : Addr
  rest_Share_total : List Value
  g_BadShare : mg "BadShare" = some (.ref C_BadShare)
  xi_BadShare : PySem.W.excIn K C_BadShare [.type "ValueError", .type "Exception", .type "BaseException", .type "object"] "ValueError.__new__" = true
  kc_BadShare : PySem.W.keepIn K (.ref C_BadShare) = true
  bx_BadShare : PySem.W.subIn K (.ref C_BadShare) (.type "BaseException") = some true
  ty_BadShare : PySem.W.typeIn K (.ref C_BadShare) = some (.type "type")
  b_gcd : mg "gcd" = some (.builtin "math.gcd")
  g_Share : mg "Share" = some (.ref C_Share)
  pg_Share : PySem.W.plainGet K C_Share Str.empty = true
  hd_Share : PySem.W.hasDictIn K C_Share = true
  po_Share : PySem.W.plainOver K C_Share = true
  sa_Share : PySem.W.findIn K (.ref C_Share) "__setattr__" = some (some (.builtin "object.__setattr__"))
  na_Share_num : PySem.W.findIn K (.ref C_Share) "num" = some none
  na_Share_den : PySem.W.findIn K (.ref C_Share) "den" = some none
  mkc_Share : PySem.W.makesIn K C_Share = true
  kc_Share : PySem.W.keepIn K (.ref C_Share) = true
  a_ShareD_initD : PySem.W.findIn K (.ref C_Share) "__init__" = some (some (.ref f_ShareD_initD))
  i_ShareD_initD : PySem.W.isFn K (.ref f_ShareD_initD) = true
  sf_Share : PySem.W.selfFirst K C_Share = true
  a_ShareD_addD : PySem.W.findIn K (.ref C_Share) "__add__" = some (some (.ref f_ShareD_addD))
  i_ShareD_addD : PySem.W.isFn K (.ref f_ShareD_addD) = true
  b_isinstance : mg "isinstance" = none
  ic_Share : PySem.W.isClsIn K C_Share = true
  ty_Share : PySem.W.typeIn K (.ref C_Share) = some (.type "type")
  su_Share_NoneType : PySem.W.subIn K (.type "NoneType") (.ref C_Share) = some false
  su_Share_bool : PySem.W.subIn K (.type "bool") (.ref C_Share) = some false
  su_Share_int : PySem.W.subIn K (.type "int") (.ref C_Share) = some false
  su_Share_str : PySem.W.subIn K (.type "str") (.ref C_Share) = some false
  su_Share_list : PySem.W.subIn K (.type "list") (.ref C_Share) = some false
  su_Share_tuple : PySem.W.subIn K (.type "tuple") (.ref C_Share) = some false
  ha_Share : PySem.W.findIn K (.ref C_Share) "__class__" = some (some (.builtin "object.__class__"))
  hm_Share : PySem.W.mroIn K C_Share (.type "object") = some true
  hn_get : PySem.W.specialIn K (.builtin "object.__class__") "__get__" = some (some (.builtin "getset_descriptor.__get__"))
  ht_get : PySem.W.takesIn K (.builtin "object.__class__") = some true
  b_bool : mg "bool" = none
  b_str : mg "str" = none
  b_len : mg "len" = none
  g_law_cell : mg "_law_cell" = some (.ref f_law_cell)
  b_abs : mg "abs" = none
  b_range : mg "range" = none
  b_int : mg "int" = none
  g_law_common : mg "_law_common" = some (.ref f_law_common)
  g_Unknown : mg "Unknown" = some (.ref C_Unknown)
  eg_BadShare : PySem.W.findIn K (.ref C_BadShare) "__getattribute__" = some (some (.builtin "BaseException.__getattribute__"))
  ek_BadShare : PySem.W.findIn K (.ref C_BadShare) "__getattr__" = some none
  hd_BadShare : PySem.W.hasDictIn K C_BadShare = true
  ha_BadShare : PySem.W.findIn K (.ref C_BadShare) "__class__" = some (some (.builtin "object.__class__"))
  hm_BadShare : PySem.W.mroIn K C_BadShare (.type "object") = some true
  ic_Unknown : PySem.W.isClsIn K C_Unknown = true
  ty_Unknown : PySem.W.typeIn K (.ref C_Unknown) = some (.type "type")
  su_Unknown_of_BadShare : PySem.W.subIn K (.ref C_BadShare) (.ref C_Unknown) = some false
  su_Unknown_of_Unknown : PySem.W.subIn K (.ref C_Unknown) (.ref C_Unknown) = some true
  b_ValueError : mg "ValueError" = none
  kt_BadShare_ValueError : PySem.W.subIn K (.ref C_BadShare) (.type "ValueError") = some true
  g_RowsError : mg "RowsError" = some (.ref C_RowsError)
  ic_RowsError : PySem.W.isClsIn K C_RowsError = true
  ty_RowsError : PySem.W.typeIn K (.ref C_RowsError) = some (.type "type")
  su_RowsError_of_BadShare : PySem.W.subIn K (.ref C_BadShare) (.ref C_RowsError) = some true
  g_BadNumber : mg "BadNumber" = some (.ref C_BadNumber)
  ic_BadNumber : PySem.W.isClsIn K C_BadNumber = true
  ty_BadNumber : PySem.W.typeIn K (.ref C_BadNumber) = some (.type "type")
  su_BadNumber_of_BadShare : PySem.W.subIn K (.ref C_BadShare) (.ref C_BadNumber) = some false
  su_BadNumber_of_BadNumber : PySem.W.subIn K (.ref C_BadNumber) (.ref C_BadNumber) = some true
  g_Impossible : mg "Impossible" = some (.ref C_Impossible)
  ic_Impossible : PySem.W.isClsIn K C_Impossible = true
  ty_Impossible : PySem.W.typeIn K (.ref C_Impossible) = some (.type "type")
  su_Impossible_of_BadShare : PySem.W.subIn K (.ref C_BadShare) (.ref C_Impossible) = some false
  su_Impossible_of_Impossible : PySem.W.subIn K (.ref C_Impossible) (.ref C_Impossible) = some true
  su_BadShare_of_BadShare : PySem.W.subIn K (.ref C_BadShare) (.ref C_BadShare) = some true
  g_law_is : mg "_law_is" = some (.ref f_law_is)
  g_law_pool : mg "_law_pool" = some (.ref f_law_pool)
  g_law_part : mg "_law_part" = some (.ref f_law_part)
  g_law_added : mg "_law_added" = some (.ref f_law_added)
  g_law_parts : mg "_law_parts" = some (.ref f_law_parts)
  rd_Share : PySem.W.readsIn K C_Share (.type "type") = true
  sga_Share : PySem.W.specialIn K (.ref C_Share) "__getattribute__" = some (some (.builtin "type.__getattribute__"))
  fc_Share_total : PySem.W.findCls K (.ref C_Share) (.type "type") "total" = some (.get (.builtin "staticmethod.__get__") (.ref q_Share_total) .none (.ref C_Share))
  rc_Share_total : PySem.W.recIn K q_Share_total "staticmethod" = some (.ref f_Share_total :: rest_Share_total)
  a_ShareD_strD : PySem.W.findIn K (.ref C_Share) "__str__" = some (some (.ref f_ShareD_strD))
  i_ShareD_strD : PySem.W.isFn K (.ref f_ShareD_strD) = true
  g_law_text : mg "_law_text" = some (.ref f_law_text)
  a_ShareD_boolD : PySem.W.findIn K (.ref C_Share) "__bool__" = some (some (.ref f_ShareD_boolD))
  i_ShareD_boolD : PySem.W.isFn K (.ref f_ShareD_boolD) = true
  b_tuple : mg "tuple" = none
  g_law_refused : mg "_law_refused" = some (.ref f_law_refused)
  g_law : mg "law" = some (.ref f_law)
section
variable {P : Program} {w : World} {K : PySem.W.Frag} {mg : Str → Option Value} {base : Heap}
def cnT (T : Txt K mg) : Cn := ⟨fun c => match c with | 0 => T.C_BadShare | 1 => T.C_Share | 2 => T.C_Unknown | 3 => T.C_RowsError | 4 => T.C_BadNumber | 5 => T.C_Impossible | _ => T.C_BadShare, fun f => match f with | 0 => "num" | 1 => "den" | _ => "?", none⟩
theorem fa_inj_0 (T : Txt K mg) : ∀ g, (cnT T).fa g = (cnT T).fa 0 → g = 0
  | 0, _ => rfl
  | 1, h => absurd (show ("den" : Str) = "num" from h) (by decide)
  | _ + 2, h => absurd (show ("?" : Str) = "num" from h) (by decide)
theorem fa_inj_1 (T : Txt K mg) : ∀ g, (cnT T).fa g = (cnT T).fa 1 → g = 1
  | 0, h => absurd (show ("num" : Str) = "den" from h) (by decide)
  | 1, _ => rfl
  | _ + 2, h => absurd (show ("?" : Str) = "den" from h) (by decide)
theorem ok_ShareD_initD (fu : Nat) (T : Txt K mg) : FnOk P w K mg base (L2.CX P w) 1 T.f_ShareD_initD T.fd_ShareD_initD ["self", "num", "den"] (spI K (cnT T) 1 [true, true] (F_ShareD_initD fu)) :=
  okID (n := 1) (c := 1) T.F_ShareD_initD sc_ShareD_initD rfl rfl (fun _ => rfl) fun cdv A outer s H E hr =>
  have tk : Takes (cxOf (L2.CX P w) P w K mg base N_ShareD_initD "Share.__init__" (defScope s_ShareD_initD) T.f_ShareD_initD cdv A outer s H E) (fun cls d _ H => E cls d H) := takes_of rfl rfl rfl rfl
  have hp : PassesOwn (model P w) (cxOf (L2.CX P w) P w K mg base N_ShareD_initD "Share.__init__" (defScope s_ShareD_initD) T.f_ShareD_initD cdv A outer s H E).A (cxOf (L2.CX P w) P w K mg base N_ShareD_initD "Share.__init__" (defScope s_ShareD_initD) T.f_ShareD_initD cdv A outer s H E).env (cxOf (L2.CX P w) P w K mg base N_ShareD_initD "Share.__init__" (defScope s_ShareD_initD) T.f_ShareD_initD cdv A outer s H E).xe := passes_of rfl
  (jss_cons (js_if (jt_cmp (op_eqDD hr.units) r_eq (jq_n 2) (jq_e je_int) (nomark _))
    (jss_one (js_raise0 (c := 0) rfl tk rfl PySem.F.excBase_ValueError T.xi_BadShare T.g_BadShare T.kc_BadShare (raises_own T.bx_BadShare T.ty_BadShare) (by rfl)))
    jss_nil)
  (jss_cons (js_set (i := 3) sc_ShareD_initD.nd rfl (by first | exact Or.inl rfl | exact Or.inr rfl) (je_gcd (by rfl) T.b_gcd (ja_cons (jq_n 1) (ja_cons (jq_n 2) ja_nil))))
  (jss_cons (js_if (jt_cmp op_lt r_lt (jq_n 2) (jq_e je_int) (nomark _))
    (jss_one (js_set (i := 3) sc_ShareD_initD.nd rfl (by first | exact Or.inl rfl | exact Or.inr rfl) (je_un un_neg r_neg (jq_n 3))))
    jss_nil)
  (jss_cons (js_fld (c := 1) (f := 0) (je_op op_divD r_div (jq_n 1) (jq_n 3)) rfl (fa_inj_0 T) ⟨T.pg_Share, T.hd_Share, T.po_Share, T.sa_Share⟩ T.na_Share_num)
  (jss_one (js_fld (c := 1) (f := 1) (je_op op_divD r_div (jq_n 2) (jq_n 3)) rfl (fa_inj_1 T) ⟨T.pg_Share, T.hd_Share, T.po_Share, T.sa_Share⟩ T.na_Share_den))))))
theorem ok_ShareD_addD (fu : Nat) (T : Txt K mg) : FnOk P w K mg base (L2.CX P w) 3 T.f_ShareD_addD T.fd_ShareD_addD ["self", "other"] (spD K (cnT T) [false, false] (F_ShareD_addD fu)) :=
  okD (n := 0) T.F_ShareD_addD sc_ShareD_addD rfl rfl (fun _ => rfl) fun cdv A outer s H E hr =>
  have tk : Takes (cxOf (L2.CX P w) P w K mg base N_ShareD_addD "Share.__add__" (defScope s_ShareD_addD) T.f_ShareD_addD cdv A outer s H E) (fun cls d _ H => E cls d H) := takes_of rfl rfl rfl rfl
  have hp : PassesOwn (model P w) (cxOf (L2.CX P w) P w K mg base N_ShareD_addD "Share.__add__" (defScope s_ShareD_addD) T.f_ShareD_addD cdv A outer s H E).A (cxOf (L2.CX P w) P w K mg base N_ShareD_addD "Share.__add__" (defScope s_ShareD_addD) T.f_ShareD_addD cdv A outer s H E).env (cxOf (L2.CX P w) P w K mg base N_ShareD_addD "Share.__add__" (defScope s_ShareD_addD) T.f_ShareD_addD cdv A outer s H E).xe := passes_of rfl
  (jss_cons (js_if (jt_not (jt_e (je_isi (by rfl) T.b_isinstance (jq_n 1) (jc_own (by rfl) T.g_Share) (ty_own ⟨kit_other T.ic_Share T.ty_Share T.su_Share_NoneType, kit_other T.ic_Share T.ty_Share T.su_Share_bool, kit_other T.ic_Share T.ty_Share T.su_Share_int, kit_other T.ic_Share T.ty_Share T.su_Share_str, kit_other T.ic_Share T.ty_Share T.su_Share_list, kit_other T.ic_Share T.ty_Share T.su_Share_tuple⟩ (tab_cons ⟨(kit_self _ _), ⟨T.pg_Share, T.hd_Share, T.po_Share, T.sa_Share⟩, T.ha_Share, T.hm_Share⟩ tab_nil) T.hn_get T.ht_get))))
    (jss_one js_never)
    jss_nil)
  (jss_one (js_ret (je_make (c := 1) ⟨T.mkc_Share, T.a_ShareD_initD, T.i_ShareD_initD, T.kc_Share⟩ (ok_ShareD_initD fu T) (hr.mono (by decide)) (by rfl) T.g_Share T.bd_ShareD_initD tk (ja_cons (jq_e (je_op op_addD r_add (jq_e (je_op op_mulD r_mul (jq_e (je_fld (c := 1) (f := 0) (je_n 0) rfl (fa_inj_0 T) ⟨T.pg_Share, T.hd_Share, T.po_Share, T.sa_Share⟩ T.na_Share_num)) (jq_e (je_fld (c := 1) (f := 1) (je_n 1) rfl (fa_inj_1 T) ⟨T.pg_Share, T.hd_Share, T.po_Share, T.sa_Share⟩ T.na_Share_den)))) (jq_e (je_op op_mulD r_mul (jq_e (je_fld (c := 1) (f := 0) (je_n 1) rfl (fa_inj_0 T) ⟨T.pg_Share, T.hd_Share, T.po_Share, T.sa_Share⟩ T.na_Share_num)) (jq_e (je_fld (c := 1) (f := 1) (je_n 0) rfl (fa_inj_1 T) ⟨T.pg_Share, T.hd_Share, T.po_Share, T.sa_Share⟩ T.na_Share_den)))))) (ja_cons (jq_e (je_op op_mulD r_mul (jq_e (je_fld (c := 1) (f := 1) (je_n 0) rfl (fa_inj_1 T) ⟨T.pg_Share, T.hd_Share, T.po_Share, T.sa_Share⟩ T.na_Share_den)) (jq_e (je_fld (c := 1) (f := 1) (je_n 1) rfl (fa_inj_1 T) ⟨T.pg_Share, T.hd_Share, T.po_Share, T.sa_Share⟩ T.na_Share_den)))) ja_nil))))))
theorem ok_Share_total (fu : Nat) (T : Txt K mg) : FnOk P w K mg base (L2.CX P w) 4 T.f_Share_total T.fd_Share_total ["shares"] (spD K (cnT T) [true] (F_Share_total fu)) :=
  okD (n := 2) T.F_Share_total sc_Share_total rfl rfl (fun _ => rfl) fun cdv A outer s H E hr =>
  have tk : Takes (cxOf (L2.CX P w) P w K mg base N_Share_total "Share.total" (defScope s_Share_total) T.f_Share_total cdv A outer s H E) (fun cls d _ H => E cls d H) := takes_of rfl rfl rfl rfl
  have hp : PassesOwn (model P w) (cxOf (L2.CX P w) P w K mg base N_Share_total "Share.total" (defScope s_Share_total) T.f_Share_total cdv A outer s H E).A (cxOf (L2.CX P w) P w K mg base N_Share_total "Share.total" (defScope s_Share_total) T.f_Share_total cdv A outer s H E).env (cxOf (L2.CX P w) P w K mg base N_Share_total "Share.total" (defScope s_Share_total) T.f_Share_total cdv A outer s H E).xe := passes_of rfl
  (jss_cons (js_set (i := 1) sc_Share_total.nd rfl (by first | exact Or.inl rfl | exact Or.inr rfl) (je_makeD (c := 1) (ms := [true]) (ms1 := [true]) (dd := [(.int 1)]) ⟨T.mkc_Share, T.a_ShareD_initD, T.i_ShareD_initD, T.kc_Share⟩ (ok_ShareD_initD fu T) (hr.mono (by decide)) (by rfl) T.g_Share T.bd1_ShareD_initD T.dv1_ShareD_initD (dfl_int dfl_nil) tk (ja_cons (jq_e je_int) ja_nil)))
  (jss_cons (js_for hp rfl (ji_n 0) (jg_n 2 sc_Share_total.nd)
    (jss_one (js_set (i := 1) sc_Share_total.nd rfl (by first | exact Or.inl rfl | exact Or.inr rfl) (je_own2 (c := 1) T.sf_Share ⟨T.a_ShareD_addD, T.i_ShareD_addD, T.k_ShareD_addD⟩ (ok_ShareD_addD fu T) (hr.mono (by decide)) T.bd_ShareD_addD tk (je_n 1) (je_n 2)))))
  (jss_one (js_ret (je_n 1)))))
theorem ok_ShareD_boolD (fu : Nat) (T : Txt K mg) : FnOk P w K mg base (L2.CX P w) 1 T.f_ShareD_boolD T.fd_ShareD_boolD ["self"] (spD K (cnT T) [false] (F_ShareD_boolD fu)) :=
  okD (n := 0) T.F_ShareD_boolD sc_ShareD_boolD rfl rfl (fun _ => rfl) fun cdv A outer s H E hr =>
  have tk : Takes (cxOf (L2.CX P w) P w K mg base N_ShareD_boolD "Share.__bool__" (defScope s_ShareD_boolD) T.f_ShareD_boolD cdv A outer s H E) (fun cls d _ H => E cls d H) := takes_of rfl rfl rfl rfl
  have hp : PassesOwn (model P w) (cxOf (L2.CX P w) P w K mg base N_ShareD_boolD "Share.__bool__" (defScope s_ShareD_boolD) T.f_ShareD_boolD cdv A outer s H E).A (cxOf (L2.CX P w) P w K mg base N_ShareD_boolD "Share.__bool__" (defScope s_ShareD_boolD) T.f_ShareD_boolD cdv A outer s H E).env (cxOf (L2.CX P w) P w K mg base N_ShareD_boolD "Share.__bool__" (defScope s_ShareD_boolD) T.f_ShareD_boolD cdv A outer s H E).xe := passes_of rfl
  (jss_one (js_ret (je_ty call_bool1 r_bool (by rfl) T.b_bool (by decide +kernel) (ja_cons (jq_e (je_fld (c := 1) (f := 0) (je_n 0) rfl (fa_inj_0 T) ⟨T.pg_Share, T.hd_Share, T.po_Share, T.sa_Share⟩ T.na_Share_num)) ja_nil))))
theorem ok_ShareD_strD (fu : Nat) (T : Txt K mg) : FnOk P w K mg base (L2.CX P w) 1 T.f_ShareD_strD T.fd_ShareD_strD ["self"] (spD K (cnT T) [false] (F_ShareD_strD fu)) :=
  okD (n := 0) T.F_ShareD_strD sc_ShareD_strD rfl rfl (fun _ => rfl) fun cdv A outer s H E hr =>
  have tk : Takes (cxOf (L2.CX P w) P w K mg base N_ShareD_strD "Share.__str__" (defScope s_ShareD_strD) T.f_ShareD_strD cdv A outer s H E) (fun cls d _ H => E cls d H) := takes_of rfl rfl rfl rfl
  have hp : PassesOwn (model P w) (cxOf (L2.CX P w) P w K mg base N_ShareD_strD "Share.__str__" (defScope s_ShareD_strD) T.f_ShareD_strD cdv A outer s H E).A (cxOf (L2.CX P w) P w K mg base N_ShareD_strD "Share.__str__" (defScope s_ShareD_strD) T.f_ShareD_strD cdv A outer s H E).env (cxOf (L2.CX P w) P w K mg base N_ShareD_strD "Share.__str__" (defScope s_ShareD_strD) T.f_ShareD_strD cdv A outer s H E).xe := passes_of rfl
  (jss_cons (js_if (jt_cmp (op_eqDD hr.units) r_eq (jq_e (je_fld (c := 1) (f := 1) (je_n 0) rfl (fa_inj_1 T) ⟨T.pg_Share, T.hd_Share, T.po_Share, T.sa_Share⟩ T.na_Share_den)) (jq_e je_int) (nomark _))
    (jss_one (js_ret (je_ty call_str_int r_strI (by rfl) T.b_str (by decide +kernel) (ja_cons (jq_e (je_fld (c := 1) (f := 0) (je_n 0) rfl (fa_inj_0 T) ⟨T.pg_Share, T.hd_Share, T.po_Share, T.sa_Share⟩ T.na_Share_num)) ja_nil))))
    jss_nil)
  (jss_one (js_ret (je_joined (jf_cons (je_fmt (jq_e (je_fld (c := 1) (f := 0) (je_n 0) rfl (fa_inj_0 T) ⟨T.pg_Share, T.hd_Share, T.po_Share, T.sa_Share⟩ T.na_Share_num))) (jf_cons je_str (jf_cons (je_fmt (jq_e (je_fld (c := 1) (f := 1) (je_n 0) rfl (fa_inj_1 T) ⟨T.pg_Share, T.hd_Share, T.po_Share, T.sa_Share⟩ T.na_Share_den))) jf_nil)))))))
theorem ok_law_cell (fu : Nat) (T : Txt K mg) : FnOk P w K mg base (L2.CX P w) 1 T.f_law_cell T.fd_law_cell ["script", "k"] (spD K (cnT T) [true, true] (F_law_cell fu)) :=
  okD (n := 0) T.F_law_cell sc_law_cell rfl rfl (fun _ => rfl) fun cdv A outer s H E hr =>
  have tk : Takes (cxOf (L2.CX P w) P w K mg base N_law_cell "_law_cell" (defScope s_law_cell) T.f_law_cell cdv A outer s H E) (fun cls d _ H => E cls d H) := takes_of rfl rfl rfl rfl
  have hp : PassesOwn (model P w) (cxOf (L2.CX P w) P w K mg base N_law_cell "_law_cell" (defScope s_law_cell) T.f_law_cell cdv A outer s H E).A (cxOf (L2.CX P w) P w K mg base N_law_cell "_law_cell" (defScope s_law_cell) T.f_law_cell cdv A outer s H E).env (cxOf (L2.CX P w) P w K mg base N_law_cell "_law_cell" (defScope s_law_cell) T.f_law_cell cdv A outer s H E).xe := passes_of rfl
  (jss_cons (js_if (jt_cmp op_lt r_lt (jq_n 1) (jq_e (je_bi call_lenA r_len (by rfl) T.b_len (by decide +kernel) (ja_cons (jq_n 0) ja_nil))) (nomark _))
    (jss_one (js_ret (je_ix (jq_n 0) (jq_n 1))))
    jss_nil)
  (jss_one (js_ret je_int)))
theorem ok_law_pool (fu : Nat) (T : Txt K mg) : FnOk P w K mg base (L2.CX P w) 2 T.f_law_pool T.fd_law_pool ["script", "k", "count"] (spD K (cnT T) [true, true, true] (F_law_pool fu)) :=
  okD (n := 6) T.F_law_pool sc_law_pool rfl rfl (fun _ => rfl) fun cdv A outer s H E hr =>
  have tk : Takes (cxOf (L2.CX P w) P w K mg base N_law_pool "_law_pool" (defScope s_law_pool) T.f_law_pool cdv A outer s H E) (fun cls d _ H => E cls d H) := takes_of rfl rfl rfl rfl
  have hp : PassesOwn (model P w) (cxOf (L2.CX P w) P w K mg base N_law_pool "_law_pool" (defScope s_law_pool) T.f_law_pool cdv A outer s H E).A (cxOf (L2.CX P w) P w K mg base N_law_pool "_law_pool" (defScope s_law_pool) T.f_law_pool cdv A outer s H E).env (cxOf (L2.CX P w) P w K mg base N_law_pool "_law_pool" (defScope s_law_pool) T.f_law_pool cdv A outer s H E).xe := passes_of rfl
  (jss_cons (js_set (i := 3) sc_law_pool.nd rfl (by first | exact Or.inl rfl | exact Or.inr rfl) (je_bi call_abs r_abs (by rfl) T.b_abs (by decide +kernel) (ja_cons (jq_e (je_call (ok_law_cell fu T) (hr.mono (by decide)) (by rfl) T.g_law_cell T.k_law_cell T.bd_law_cell tk (ja_cons (jq_n 0) (ja_cons (jq_n 1) ja_nil)))) ja_nil)))
  (jss_cons (js_own (i := 4) sc_law_pool.nd rfl (by first | exact Or.inl rfl | exact Or.inr rfl) (jn_lst jl_nil))
  (jss_cons (js_if (jt_cmp op_ge r_ge (jq_n 3) (jq_e (je_op op_pow r_pow (jq_e je_int) (jq_e je_int))) (nomark _))
    (jss_cons (js_set (i := 3) sc_law_pool.nd rfl (by first | exact Or.inl rfl | exact Or.inr rfl) (je_op op_sub r_sub (jq_n 3) (jq_e (je_op op_pow r_pow (jq_e je_int) (jq_e je_int)))))
  (jss_cons (js_for hp rfl (ji_rg1 (by rfl) T.b_range (jq_n 2)) (jg_n 5 sc_law_pool.nd)
    (jss_cons (js_app 4 (je_op op_modN r_mod (jq_e (je_ty call_int1 r_int (by rfl) T.b_int (by decide +kernel) (ja_cons (jq_n 3) ja_nil))) (jq_e je_int)) (pe := fun t h => pe_bm PySem.F.plainAttrs_list PySem.F.slot_list_append PySem.F.type_list_append mt_append (pe_var (i := 4) rfl (by first | exact Or.inl rfl | exact Or.inr (Or.inl rfl) | exact Or.inr (Or.inr rfl))) (pa_cons h pa_nil)))
  (jss_one (js_set (i := 3) sc_law_pool.nd rfl (by first | exact Or.inl rfl | exact Or.inr rfl) (je_op op_divD r_div (jq_n 3) (jq_e je_int))))))
  (jss_one (js_retX 4))))
    jss_nil)
  (jss_cons (js_for hp rfl (ji_rg1 (by rfl) T.b_range (jq_n 2)) (jg_n 5 sc_law_pool.nd)
    (jss_cons (js_set (i := 6) sc_law_pool.nd rfl (by first | exact Or.inl rfl | exact Or.inr rfl) (je_op op_modN r_mod (jq_e (je_ty call_int1 r_int (by rfl) T.b_int (by decide +kernel) (ja_cons (jq_e (je_op op_addD r_add (jq_e (je_op op_addD r_add (jq_e (je_op op_addD r_add (jq_e (je_op op_mulD r_mul (jq_n 3) (jq_e je_int))) (jq_e (je_op op_mulD r_mul (jq_e (je_op op_addD r_add (jq_n 5) (jq_e je_int))) (jq_e je_int))))) (jq_e (je_op op_mulD r_mul (jq_n 1) (jq_e je_int))))) (jq_e je_int))) ja_nil))) (jq_e je_int)))
  (jss_cons (js_set (i := 7) sc_law_pool.nd rfl (by first | exact Or.inl rfl | exact Or.inr rfl) (je_op op_modN r_mod (jq_e (je_ty call_int1 r_int (by rfl) T.b_int (by decide +kernel) (ja_cons (jq_e (je_op op_addD r_add (jq_e (je_op op_addD r_add (jq_e (je_op op_mulD r_mul (jq_n 6) (jq_n 6))) (jq_e (je_op op_mulD r_mul (jq_n 3) (jq_e je_int))))) (jq_n 5))) ja_nil))) (jq_e je_int)))
  (jss_cons (js_set (i := 8) sc_law_pool.nd rfl (by first | exact Or.inl rfl | exact Or.inr rfl) (je_op op_modN r_mod (jq_e (je_ty call_int1 r_int (by rfl) T.b_int (by decide +kernel) (ja_cons (jq_e (je_op op_addD r_add (jq_e (je_op op_mulD r_mul (jq_n 7) (jq_n 7))) (jq_n 6))) ja_nil))) (jq_e je_int)))
  (jss_one (js_app 4 (je_op op_modN r_mod (jq_e (je_ty call_int1 r_int (by rfl) T.b_int (by decide +kernel) (ja_cons (jq_e (je_op op_divD r_div (jq_n 8) (jq_e je_int))) ja_nil))) (jq_e je_int)) (pe := fun t h => pe_bm PySem.F.plainAttrs_list PySem.F.slot_list_append PySem.F.type_list_append mt_append (pe_var (i := 4) rfl (by first | exact Or.inl rfl | exact Or.inr (Or.inl rfl) | exact Or.inr (Or.inr rfl))) (pa_cons h pa_nil))))))))
  (jss_one (js_retX 4))))))
theorem ok_law_part (fu : Nat) (T : Txt K mg) : FnOk P w K mg base (L2.CX P w) 1 T.f_law_part T.fd_law_part ["pool", "at", "kinds"] (spD K (cnT T) [true, true, true] (F_law_part fu)) :=
  okD (n := 2) T.F_law_part sc_law_part rfl rfl (fun _ => rfl) fun cdv A outer s H E hr =>
  have tk : Takes (cxOf (L2.CX P w) P w K mg base N_law_part "_law_part" (defScope s_law_part) T.f_law_part cdv A outer s H E) (fun cls d _ H => E cls d H) := takes_of rfl rfl rfl rfl
  have hp : PassesOwn (model P w) (cxOf (L2.CX P w) P w K mg base N_law_part "_law_part" (defScope s_law_part) T.f_law_part cdv A outer s H E).A (cxOf (L2.CX P w) P w K mg base N_law_part "_law_part" (defScope s_law_part) T.f_law_part cdv A outer s H E).env (cxOf (L2.CX P w) P w K mg base N_law_part "_law_part" (defScope s_law_part) T.f_law_part cdv A outer s H E).xe := passes_of rfl
  (jss_cons (js_set (i := 3) sc_law_part.nd rfl (by first | exact Or.inl rfl | exact Or.inr rfl) (je_ix (jq_e (je_of_jn (jn_lst (jl_cons je_int (jl_cons je_int (jl_cons je_int (jl_cons (je_op op_sub r_sub (jq_e (je_op op_mulD r_mul (jq_e je_int) (jq_e (je_op op_pow r_pow (jq_e je_int) (jq_e je_int))))) (jq_e je_int)) jl_nil))))))) (jq_e (je_op op_modN r_mod (jq_e (je_ty call_int1 r_int (by rfl) T.b_int (by decide +kernel) (ja_cons (jq_e (je_ix (jq_n 0) (jq_n 1))) ja_nil))) (jq_n 2)))))
  (jss_cons (js_set (i := 4) sc_law_part.nd rfl (by first | exact Or.inl rfl | exact Or.inr rfl) (je_op op_addD r_add (jq_e (je_op op_mulD r_mul (jq_e (je_op op_addD r_add (jq_e (je_op op_mulD r_mul (jq_e (je_op op_addD r_add (jq_e (je_op op_mulD r_mul (jq_e (je_ix (jq_n 0) (jq_e (je_op op_addD r_add (jq_n 1) (jq_e je_int))))) (jq_e je_int))) (jq_e (je_ix (jq_n 0) (jq_e (je_op op_addD r_add (jq_n 1) (jq_e je_int))))))) (jq_e je_int))) (jq_e (je_ix (jq_n 0) (jq_e (je_op op_addD r_add (jq_n 1) (jq_e je_int))))))) (jq_e je_int))) (jq_e (je_ix (jq_n 0) (jq_e (je_op op_addD r_add (jq_n 1) (jq_e je_int)))))))
  (jss_one (js_ret (je_op op_sub r_sub (jq_e (je_op op_modN r_mod (jq_e (je_ty call_int1 r_int (by rfl) T.b_int (by decide +kernel) (ja_cons (jq_n 4) ja_nil))) (jq_n 3))) (jq_e (je_op op_divD r_div (jq_n 3) (jq_e je_int))))))))
theorem ok_law_common (fu : Nat) (T : Txt K mg) : FnOk P w K mg base (L2.CX P w) 1 T.f_law_common T.fd_law_common ["one", "other"] (spD K (cnT T) [false, false] (F_law_common fu)) :=
  okD (n := 0) T.F_law_common sc_law_common rfl rfl (fun _ => rfl) fun cdv A outer s H E hr =>
  have tk : Takes (cxOf (L2.CX P w) P w K mg base N_law_common "_law_common" (defScope s_law_common) T.f_law_common cdv A outer s H E) (fun cls d _ H => E cls d H) := takes_of rfl rfl rfl rfl
  have hp : PassesOwn (model P w) (cxOf (L2.CX P w) P w K mg base N_law_common "_law_common" (defScope s_law_common) T.f_law_common cdv A outer s H E).A (cxOf (L2.CX P w) P w K mg base N_law_common "_law_common" (defScope s_law_common) T.f_law_common cdv A outer s H E).env (cxOf (L2.CX P w) P w K mg base N_law_common "_law_common" (defScope s_law_common) T.f_law_common cdv A outer s H E).xe := passes_of rfl
  (jss_cons (js_set (i := 0) sc_law_common.nd rfl (by first | exact Or.inl rfl | exact Or.inr rfl) (je_bi call_abs r_abs (by rfl) T.b_abs (by decide +kernel) (ja_cons (jq_n 0) ja_nil)))
  (jss_cons (js_set (i := 1) sc_law_common.nd rfl (by first | exact Or.inl rfl | exact Or.inr rfl) (je_bi call_abs r_abs (by rfl) T.b_abs (by decide +kernel) (ja_cons (jq_n 1) ja_nil)))
  (jss_cons (js_while hp (jt_cmp op_gt r_gt (jq_n 1) (jq_e je_int) (nomark _))
    (jss_one (js_par (i := 0) (j := 1) rfl sc_law_common.nd rfl rfl (by decide) rfl rfl (je_n 1) (je_op op_modN r_mod (jq_e (je_ty call_int1 r_int (by rfl) T.b_int (by decide +kernel) (ja_cons (jq_n 0) ja_nil))) (jq_n 1)) (by rfl))))
  (jss_one (js_ret (je_n 0))))))
theorem ok_law_added (fu : Nat) (T : Txt K mg) : FnOk P w K mg base (L2.CX P w) 1 T.f_law_added T.fd_law_added ["parts"] (spD K (cnT T) [true] (F_law_added fu)) :=
  okD (n := 3) T.F_law_added sc_law_added rfl rfl (fun _ => rfl) fun cdv A outer s H E hr =>
  have tk : Takes (cxOf (L2.CX P w) P w K mg base N_law_added "_law_added" (defScope s_law_added) T.f_law_added cdv A outer s H E) (fun cls d _ H => E cls d H) := takes_of rfl rfl rfl rfl
  have hp : PassesOwn (model P w) (cxOf (L2.CX P w) P w K mg base N_law_added "_law_added" (defScope s_law_added) T.f_law_added cdv A outer s H E).A (cxOf (L2.CX P w) P w K mg base N_law_added "_law_added" (defScope s_law_added) T.f_law_added cdv A outer s H E).env (cxOf (L2.CX P w) P w K mg base N_law_added "_law_added" (defScope s_law_added) T.f_law_added cdv A outer s H E).xe := passes_of rfl
  (jss_cons (js_set (i := 1) sc_law_added.nd rfl (by first | exact Or.inl rfl | exact Or.inr rfl) je_int)
  (jss_cons (js_set (i := 2) sc_law_added.nd rfl (by first | exact Or.inl rfl | exact Or.inr rfl) je_int)
  (jss_cons (js_for hp rfl (ji_n 0) (jg_n 3 sc_law_added.nd)
    (jss_cons (js_set (i := 1) sc_law_added.nd rfl (by first | exact Or.inl rfl | exact Or.inr rfl) (je_op op_addD r_add (jq_e (je_op op_mulD r_mul (jq_n 1) (jq_e (je_ix (jq_n 3) (jq_e je_int))))) (jq_e (je_op op_mulD r_mul (jq_e (je_ix (jq_n 3) (jq_e je_int))) (jq_n 2)))))
  (jss_one (js_set (i := 2) sc_law_added.nd rfl (by first | exact Or.inl rfl | exact Or.inr rfl) (je_op op_mulD r_mul (jq_n 2) (jq_e (je_ix (jq_n 3) (jq_e je_int))))))))
  (jss_one (js_ret (je_tup (jl_cons (je_n 1) (jl_cons (je_n 2) jl_nil))))))))
theorem ok_law_text (fu : Nat) (T : Txt K mg) : FnOk P w K mg base (L2.CX P w) 2 T.f_law_text T.fd_law_text ["part"] (spD K (cnT T) [true] (F_law_text fu)) :=
  okD (n := 1) T.F_law_text sc_law_text rfl rfl (fun _ => rfl) fun cdv A outer s H E hr =>
  have tk : Takes (cxOf (L2.CX P w) P w K mg base N_law_text "_law_text" (defScope s_law_text) T.f_law_text cdv A outer s H E) (fun cls d _ H => E cls d H) := takes_of rfl rfl rfl rfl
  have hp : PassesOwn (model P w) (cxOf (L2.CX P w) P w K mg base N_law_text "_law_text" (defScope s_law_text) T.f_law_text cdv A outer s H E).A (cxOf (L2.CX P w) P w K mg base N_law_text "_law_text" (defScope s_law_text) T.f_law_text cdv A outer s H E).env (cxOf (L2.CX P w) P w K mg base N_law_text "_law_text" (defScope s_law_text) T.f_law_text cdv A outer s H E).xe := passes_of rfl
  (jss_cons (js_set (i := 1) sc_law_text.nd rfl (by first | exact Or.inl rfl | exact Or.inr rfl) (je_call (ok_law_common fu T) (hr.mono (by decide)) (by rfl) T.g_law_common T.k_law_common T.bd_law_common tk (ja_cons (jq_e (je_ix (jq_n 0) (jq_e je_int))) (ja_cons (jq_e (je_ix (jq_n 0) (jq_e je_int))) ja_nil))))
  (jss_cons (js_if (jt_cmp op_lt r_lt (jq_e (je_ix (jq_n 0) (jq_e je_int))) (jq_e je_int) (nomark _))
    (jss_one (js_set (i := 1) sc_law_text.nd rfl (by first | exact Or.inl rfl | exact Or.inr rfl) (je_un un_neg r_neg (jq_n 1))))
    jss_nil)
  (jss_cons (js_if (jt_cmp (op_eqDD hr.units) r_eq (jq_e (je_ix (jq_n 0) (jq_e je_int))) (jq_n 1) (nomark _))
    (jss_one (js_ret (je_ty call_str_int r_strI (by rfl) T.b_str (by decide +kernel) (ja_cons (jq_e (je_op op_divD r_div (jq_e (je_ix (jq_n 0) (jq_e je_int))) (jq_n 1))) ja_nil))))
    jss_nil)
  (jss_one (js_ret (je_op op_addD r_add (jq_e (je_op op_addD r_add (jq_e (je_ty call_str_int r_strI (by rfl) T.b_str (by decide +kernel) (ja_cons (jq_e (je_op op_divD r_div (jq_e (je_ix (jq_n 0) (jq_e je_int))) (jq_n 1))) ja_nil))) (jq_e je_str))) (jq_e (je_ty call_str_int r_strI (by rfl) T.b_str (by decide +kernel) (ja_cons (jq_e (je_op op_divD r_div (jq_e (je_ix (jq_n 0) (jq_e je_int))) (jq_n 1))) ja_nil)))))))))
theorem ok_law_is (fu : Nat) (T : Txt K mg) : FnOk P w K mg base (L2.CX P w) 2 T.f_law_is T.fd_law_is ["found", "part"] (spD K (cnT T) [true, true] (F_law_is fu)) :=
  okD (n := 2) T.F_law_is sc_law_is rfl rfl (fun _ => rfl) fun cdv A outer s H E hr =>
  have tk : Takes (cxOf (L2.CX P w) P w K mg base N_law_is "_law_is" (defScope s_law_is) T.f_law_is cdv A outer s H E) (fun cls d _ H => E cls d H) := takes_of rfl rfl rfl rfl
  have hp : PassesOwn (model P w) (cxOf (L2.CX P w) P w K mg base N_law_is "_law_is" (defScope s_law_is) T.f_law_is cdv A outer s H E).A (cxOf (L2.CX P w) P w K mg base N_law_is "_law_is" (defScope s_law_is) T.f_law_is cdv A outer s H E).env (cxOf (L2.CX P w) P w K mg base N_law_is "_law_is" (defScope s_law_is) T.f_law_is cdv A outer s H E).xe := passes_of rfl
  (jss_cons (js_if (jt_not (jt_e (je_isi (by rfl) T.b_isinstance (jq_n 0) (jc_own (by rfl) T.g_Share) (ty_own ⟨kit_other T.ic_Share T.ty_Share T.su_Share_NoneType, kit_other T.ic_Share T.ty_Share T.su_Share_bool, kit_other T.ic_Share T.ty_Share T.su_Share_int, kit_other T.ic_Share T.ty_Share T.su_Share_str, kit_other T.ic_Share T.ty_Share T.su_Share_list, kit_other T.ic_Share T.ty_Share T.su_Share_tuple⟩ (tab_cons ⟨(kit_self _ _), ⟨T.pg_Share, T.hd_Share, T.po_Share, T.sa_Share⟩, T.ha_Share, T.hm_Share⟩ tab_nil) T.hn_get T.ht_get))))
    (jss_one (js_ret je_bl))
    jss_nil)
  (jss_cons (js_if (jt_w (jw_or (jt_not (jt_e (je_isi (by rfl) T.b_isinstance (jq_e (je_fld (c := 1) (f := 0) (je_n 0) rfl (fa_inj_0 T) ⟨T.pg_Share, T.hd_Share, T.po_Share, T.sa_Share⟩ T.na_Share_num)) (jc_ty (by rfl) T.b_int (by decide +kernel)) ty2_int))) (jw_or1 (jt_e (je_isi (by rfl) T.b_isinstance (jq_e (je_fld (c := 1) (f := 0) (je_n 0) rfl (fa_inj_0 T) ⟨T.pg_Share, T.hd_Share, T.po_Share, T.sa_Share⟩ T.na_Share_num)) (jc_ty (by rfl) T.b_bool (by decide +kernel)) ty2_bool)))))
    (jss_one (js_ret je_bl))
    jss_nil)
  (jss_cons (js_if (jt_w (jw_or (jt_not (jt_e (je_isi (by rfl) T.b_isinstance (jq_e (je_fld (c := 1) (f := 1) (je_n 0) rfl (fa_inj_1 T) ⟨T.pg_Share, T.hd_Share, T.po_Share, T.sa_Share⟩ T.na_Share_den)) (jc_ty (by rfl) T.b_int (by decide +kernel)) ty2_int))) (jw_or (jt_e (je_isi (by rfl) T.b_isinstance (jq_e (je_fld (c := 1) (f := 1) (je_n 0) rfl (fa_inj_1 T) ⟨T.pg_Share, T.hd_Share, T.po_Share, T.sa_Share⟩ T.na_Share_den)) (jc_ty (by rfl) T.b_bool (by decide +kernel)) ty2_bool)) (jw_or1 (jt_cmp op_lt r_lt (jq_e (je_fld (c := 1) (f := 1) (je_n 0) rfl (fa_inj_1 T) ⟨T.pg_Share, T.hd_Share, T.po_Share, T.sa_Share⟩ T.na_Share_den)) (jq_e je_int) (nomark _))))))
    (jss_one (js_ret je_bl))
    jss_nil)
  (jss_cons (js_set (i := 2) sc_law_is.nd rfl (by first | exact Or.inl rfl | exact Or.inr rfl) (je_call (ok_law_common fu T) (hr.mono (by decide)) (by rfl) T.g_law_common T.k_law_common T.bd_law_common tk (ja_cons (jq_e (je_ix (jq_n 1) (jq_e je_int))) (ja_cons (jq_e (je_ix (jq_n 1) (jq_e je_int))) ja_nil))))
  (jss_cons (js_set (i := 3) sc_law_is.nd rfl (by first | exact Or.inl rfl | exact Or.inr rfl) je_int)
  (jss_cons (js_if (jt_cmp op_lt r_lt (jq_e (je_ix (jq_n 1) (jq_e je_int))) (jq_e je_int) (nomark _))
    (jss_one (js_set (i := 3) sc_law_is.nd rfl (by first | exact Or.inl rfl | exact Or.inr rfl) (je_un un_neg r_neg (jq_e je_int))))
    jss_nil)
  (jss_one (js_ret (je_and (je_cmp (op_eqDD hr.units) r_eq (jq_e (je_op op_mulD r_mul (jq_e (je_fld (c := 1) (f := 0) (je_n 0) rfl (fa_inj_0 T) ⟨T.pg_Share, T.hd_Share, T.po_Share, T.sa_Share⟩ T.na_Share_num)) (jq_n 2))) (jq_e (je_op op_mulD r_mul (jq_e (je_ix (jq_n 1) (jq_e je_int))) (jq_n 3))) (nomark _)) (je_one (je_cmp (op_eqDD hr.units) r_eq (jq_e (je_op op_mulD r_mul (jq_e (je_fld (c := 1) (f := 1) (je_n 0) rfl (fa_inj_1 T) ⟨T.pg_Share, T.hd_Share, T.po_Share, T.sa_Share⟩ T.na_Share_den)) (jq_n 2))) (jq_e (je_op op_mulD r_mul (jq_e (je_ix (jq_n 1) (jq_e je_int))) (jq_n 3))) (nomark _))))))))))))
theorem ok_law_refused (fu : Nat) (T : Txt K mg) : FnOk P w K mg base (L2.CX P w) 3 T.f_law_refused T.fd_law_refused ["num"] (spD K (cnT T) [false] (F_law_refused fu)) :=
  okD (n := 2) T.F_law_refused sc_law_refused rfl rfl (fun _ => rfl) fun cdv A outer s H E hr =>
  have tk : Takes (cxOf (L2.CX P w) P w K mg base N_law_refused "_law_refused" (defScope s_law_refused) T.f_law_refused cdv A outer s H E) (fun cls d _ H => E cls d H) := takes_of rfl rfl rfl rfl
  have hp : PassesOwn (model P w) (cxOf (L2.CX P w) P w K mg base N_law_refused "_law_refused" (defScope s_law_refused) T.f_law_refused cdv A outer s H E).A (cxOf (L2.CX P w) P w K mg base N_law_refused "_law_refused" (defScope s_law_refused) T.f_law_refused cdv A outer s H E).env (cxOf (L2.CX P w) P w K mg base N_law_refused "_law_refused" (defScope s_law_refused) T.f_law_refused cdv A outer s H E).xe := passes_of rfl
  (jss_cons (js_set (i := 1) sc_law_refused.nd rfl (by first | exact Or.inl rfl | exact Or.inr rfl) (je_of_jn (jn_lst jl_nil)))
  (jss_cons (js_try (i := 2) (ex := (tbl [(0, true)])) rfl rfl rfl sc_law_refused.nd rfl rfl ⟨by rfl, by decide, .inl T.g_BadShare⟩ (tab_cons (PySem.W.exm_ref T.bx_BadShare T.hd_BadShare T.ty_BadShare T.su_BadShare_of_BadShare) tab_nil) tk
    (fun W pn xe tk hp => (jss_one (js_drop (je_make (c := 1) ⟨T.mkc_Share, T.a_ShareD_initD, T.i_ShareD_initD, T.kc_Share⟩ (ok_ShareD_initD fu T) (hr.mono (by decide)) (by rfl) T.g_Share T.bd_ShareD_initD tk (ja_cons (jq_n 0) (ja_cons (jq_e je_int) ja_nil))))))
    (fun a oe cls d pn hz hv => (jss_cons (js_set (i := 1) sc_law_refused.nd rfl (by first | exact Or.inl rfl | exact Or.inr rfl) (je_of_jn (jn_lst (jl_cons (je_isE (i := 2) (is := (tbl [(0, true)])) rfl hz hv (by rfl) T.b_isinstance (jc_own (by rfl) T.g_RowsError) (tab_cons ⟨⟨T.eg_BadShare, T.ek_BadShare, T.bx_BadShare, T.hd_BadShare, T.ha_BadShare, T.hn_get, T.ht_get, T.hm_BadShare⟩, (kit_ownT T.ic_RowsError T.ty_RowsError T.su_RowsError_of_BadShare)⟩ tab_nil)) (jl_cons (je_isE (i := 2) (is := (tbl [(0, true)])) rfl hz hv (by rfl) T.b_isinstance (jc_ty (by rfl) T.b_ValueError (by decide +kernel)) (tab_cons ⟨⟨T.eg_BadShare, T.ek_BadShare, T.bx_BadShare, T.hd_BadShare, T.ha_BadShare, T.hn_get, T.ht_get, T.hm_BadShare⟩, (kit_refTy T.kt_BadShare_ValueError)⟩ tab_nil)) (jl_cons (je_isE (i := 2) (is := (tbl [(0, false)])) rfl hz hv (by rfl) T.b_isinstance (jc_own (by rfl) T.g_Unknown) (tab_cons ⟨⟨T.eg_BadShare, T.ek_BadShare, T.bx_BadShare, T.hd_BadShare, T.ha_BadShare, T.hn_get, T.ht_get, T.hm_BadShare⟩, (kit_ownF T.ic_Unknown T.ty_Unknown T.su_Unknown_of_BadShare T.su_Unknown_of_Unknown)⟩ tab_nil)) jl_nil))))))
  (jss_one (js_set (i := 1) sc_law_refused.nd rfl (by first | exact Or.inl rfl | exact Or.inr rfl) (je_op op_addD r_add (jq_n 1) (jq_e (je_of_jn (jn_lst (jl_cons (je_isE (i := 2) (is := (tbl [(0, false)])) rfl hz hv (by rfl) T.b_isinstance (jc_own (by rfl) T.g_Impossible) (tab_cons ⟨⟨T.eg_BadShare, T.ek_BadShare, T.bx_BadShare, T.hd_BadShare, T.ha_BadShare, T.hn_get, T.ht_get, T.hm_BadShare⟩, (kit_ownF T.ic_Impossible T.ty_Impossible T.su_Impossible_of_BadShare T.su_Impossible_of_Impossible)⟩ tab_nil)) (jl_cons (je_isE (i := 2) (is := (tbl [(0, false)])) rfl hz hv (by rfl) T.b_isinstance (jc_own (by rfl) T.g_BadNumber) (tab_cons ⟨⟨T.eg_BadShare, T.ek_BadShare, T.bx_BadShare, T.hd_BadShare, T.ha_BadShare, T.hn_get, T.ht_get, T.hm_BadShare⟩, (kit_ownF T.ic_BadNumber T.ty_BadNumber T.su_BadNumber_of_BadShare T.su_BadNumber_of_BadNumber)⟩ tab_nil)) jl_nil)))))))))))
  (jss_one (js_ret (je_and (je_cmp (op_eqDD hr.units) r_eq (jq_n 1) (jq_e (je_of_jn (jn_lst (jl_cons je_bl (jl_cons je_bl (jl_cons je_bl (jl_cons je_bl (jl_cons je_bl jl_nil)))))))) (nomark _)) (je_one (je_call (ok_law_is fu T) (hr.mono (by decide)) (by rfl) T.g_law_is T.k_law_is T.bd_law_is tk (ja_cons (jq_e (je_make (c := 1) ⟨T.mkc_Share, T.a_ShareD_initD, T.i_ShareD_initD, T.kc_Share⟩ (ok_ShareD_initD fu T) (hr.mono (by decide)) (by rfl) T.g_Share T.bd_ShareD_initD tk (ja_cons (jq_n 0) (ja_cons (jq_e je_int) ja_nil)))) (ja_cons (jq_e (je_tup (jl_cons (je_n 0) (jl_cons je_int jl_nil)))) ja_nil)))))))))
theorem ok_law_parts (fu : Nat) (T : Txt K mg) : FnOk P w K mg base (L2.CX P w) 3 T.f_law_parts T.fd_law_parts ["script"] (spD K (cnT T) [true] (F_law_parts fu)) :=
  okD (n := 10) T.F_law_parts sc_law_parts rfl rfl (fun _ => rfl) fun cdv A outer s H E hr =>
  have tk : Takes (cxOf (L2.CX P w) P w K mg base N_law_parts "_law_parts" (defScope s_law_parts) T.f_law_parts cdv A outer s H E) (fun cls d _ H => E cls d H) := takes_of rfl rfl rfl rfl
  have hp : PassesOwn (model P w) (cxOf (L2.CX P w) P w K mg base N_law_parts "_law_parts" (defScope s_law_parts) T.f_law_parts cdv A outer s H E).A (cxOf (L2.CX P w) P w K mg base N_law_parts "_law_parts" (defScope s_law_parts) T.f_law_parts cdv A outer s H E).env (cxOf (L2.CX P w) P w K mg base N_law_parts "_law_parts" (defScope s_law_parts) T.f_law_parts cdv A outer s H E).xe := passes_of rfl
  (jss_cons (js_set (i := 1) sc_law_parts.nd rfl (by first | exact Or.inl rfl | exact Or.inr rfl) (je_call (ok_law_pool fu T) (hr.mono (by decide)) (by rfl) T.g_law_pool T.k_law_pool T.bd_law_pool tk (ja_cons (jq_n 0) (ja_cons (jq_e je_int) (ja_cons (jq_e je_int) ja_nil)))))
  (jss_cons (js_set (i := 2) sc_law_parts.nd rfl (by first | exact Or.inl rfl | exact Or.inr rfl) (je_call (ok_law_pool fu T) (hr.mono (by decide)) (by rfl) T.g_law_pool T.k_law_pool T.bd_law_pool tk (ja_cons (jq_n 0) (ja_cons (jq_e je_int) (ja_cons (jq_e je_int) ja_nil)))))
  (jss_cons (js_set (i := 3) sc_law_parts.nd rfl (by first | exact Or.inl rfl | exact Or.inr rfl) (je_cmp (op_eqDD hr.units) r_eq (jq_e (je_op op_modN r_mod (jq_e (je_ty call_int1 r_int (by rfl) T.b_int (by decide +kernel) (ja_cons (jq_e (je_ix (jq_n 1) (jq_e je_int))) ja_nil))) (jq_e je_int))) (jq_e je_int) (nomark _)))
  (jss_cons (js_set (i := 4) sc_law_parts.nd rfl (by first | exact Or.inl rfl | exact Or.inr rfl) (je_op op_sub r_sub (jq_e je_int) (jq_e (je_ty call_int1 r_int (by rfl) T.b_int (by decide +kernel) (ja_cons (jq_n 3) ja_nil)))))
  (jss_cons (js_own (i := 5) sc_law_parts.nd rfl (by first | exact Or.inl rfl | exact Or.inr rfl) (jn_lst jl_nil))
  (jss_cons (js_for hp rfl (ji_rg1 (by rfl) T.b_range (jq_e (je_op op_modN r_mod (jq_e (je_ty call_int1 r_int (by rfl) T.b_int (by decide +kernel) (ja_cons (jq_e (je_ix (jq_n 1) (jq_e je_int))) ja_nil))) (jq_e je_int)))) (jg_n 6 sc_law_parts.nd)
    (jss_cons (js_set (i := 7) sc_law_parts.nd rfl (by first | exact Or.inl rfl | exact Or.inr rfl) (je_call (ok_law_part fu T) (hr.mono (by decide)) (by rfl) T.g_law_part T.k_law_part T.bd_law_part tk (ja_cons (jq_n 1) (ja_cons (jq_e (je_op op_addD r_add (jq_e je_int) (jq_e (je_op op_mulD r_mul (jq_e je_int) (jq_n 6))))) (ja_cons (jq_n 4) ja_nil)))))
  (jss_cons (js_set (i := 8) sc_law_parts.nd rfl (by first | exact Or.inl rfl | exact Or.inr rfl) (je_call (ok_law_part fu T) (hr.mono (by decide)) (by rfl) T.g_law_part T.k_law_part T.bd_law_part tk (ja_cons (jq_n 2) (ja_cons (jq_e (je_op op_mulD r_mul (jq_e je_int) (jq_n 6))) (ja_cons (jq_n 4) ja_nil)))))
  (jss_cons (js_if (jt_cmp (op_eqDD hr.units) r_eq (jq_n 8) (jq_e je_int) (nomark _))
    (jss_one (js_set (i := 8) sc_law_parts.nd rfl (by first | exact Or.inl rfl | exact Or.inr rfl) je_int))
    jss_nil)
  (jss_one (js_app 5 (je_tup (jl_cons (je_n 7) (jl_cons (je_n 8) jl_nil))) (pe := fun t h => pe_bm PySem.F.plainAttrs_list PySem.F.slot_list_append PySem.F.type_list_append mt_append (pe_var (i := 5) rfl (by first | exact Or.inl rfl | exact Or.inr (Or.inl rfl) | exact Or.inr (Or.inr rfl))) (pa_cons h pa_nil))))))))
  (jss_cons (js_if (jt_w (jw_and (jt_e (je_n 3)) (jw_and1 (jt_cmp op_gt r_gt (jq_e (je_bi call_lenA r_len (by rfl) T.b_len (by decide +kernel) (ja_cons (jq_n 5) ja_nil))) (jq_e je_int) (nomark _)))))
    (jss_cons (js_set (i := 9) sc_law_parts.nd rfl (by first | exact Or.inl rfl | exact Or.inr rfl) (je_call (ok_law_added fu T) (hr.mono (by decide)) (by rfl) T.g_law_added T.k_law_added T.bd_law_added tk (ja_cons (jq_e (je_sl (jq_n 5) jp_none (jp_some (jq_e (je_un un_neg r_neg (jq_e je_int)))))) ja_nil)))
  (jss_cons (js_set (i := 10) sc_law_parts.nd rfl (by first | exact Or.inl rfl | exact Or.inr rfl) (je_op op_sub r_sub (jq_e (je_op op_modN r_mod (jq_e (je_ty call_int1 r_int (by rfl) T.b_int (by decide +kernel) (ja_cons (jq_e (je_ix (jq_n 1) (jq_e je_int))) ja_nil))) (jq_e je_int))) (jq_e je_int)))
  (jss_one (js_puti 5 (je_tup (jl_cons (je_op op_sub r_sub (jq_e (je_op op_mulD r_mul (jq_n 10) (jq_e (je_ix (jq_n 9) (jq_e je_int))))) (jq_e (je_ix (jq_n 9) (jq_e je_int)))) (jl_cons (je_ix (jq_n 9) (jq_e je_int)) jl_nil))) (jq_e (je_un un_neg r_neg (jq_e je_int)))))))
    jss_nil)
  (jss_one (js_retX 5)))))))))
theorem ok_law (fu : Nat) (T : Txt K mg) : FnOk P w K mg base (L2.CX P w) 5 T.f_law T.fd_law ["script"] (spD K (cnT T) [true] (F_law fu)) :=
  okD (n := 7) T.F_law sc_law rfl rfl (fun _ => rfl) fun cdv A outer s H E hr =>
  have tk : Takes (cxOf (L2.CX P w) P w K mg base N_law "law" (defScope s_law) T.f_law cdv A outer s H E) (fun cls d _ H => E cls d H) := takes_of rfl rfl rfl rfl
  have hp : PassesOwn (model P w) (cxOf (L2.CX P w) P w K mg base N_law "law" (defScope s_law) T.f_law cdv A outer s H E).A (cxOf (L2.CX P w) P w K mg base N_law "law" (defScope s_law) T.f_law cdv A outer s H E).env (cxOf (L2.CX P w) P w K mg base N_law "law" (defScope s_law) T.f_law cdv A outer s H E).xe := passes_of rfl
  (jss_cons (js_set (i := 1) sc_law.nd rfl (by first | exact Or.inl rfl | exact Or.inr rfl) (je_call (ok_law_parts fu T) (hr.mono (by decide)) (by rfl) T.g_law_parts T.k_law_parts T.bd_law_parts tk (ja_cons (jq_n 0) ja_nil)))
  (jss_cons (js_set (i := 2) sc_law.nd rfl (by first | exact Or.inl rfl | exact Or.inr rfl) (je_call (ok_law_added fu T) (hr.mono (by decide)) (by rfl) T.g_law_added T.k_law_added T.bd_law_added tk (ja_cons (jq_n 1) ja_nil)))
  (jss_cons (js_setLc (i := 3) (own := [("part", 4)]) rfl rfl sc_law.nd rfl rfl (sw_true rfl rfl rfl (by decide +kernel)) (ji_n 1) (blkOk_by (own := [("part", 4)]) (N := N_law) (sc := defScope s_law) (by decide +kernel)) (fun _ _ _ _ _ => (jgc_n (i := 4) sc_law.nd rfl (by first | exact Or.inl rfl | exact Or.inr rfl) (by decide) (by first | exact .inl rfl | exact .inr rfl))) (fun _ _ _ _ _ => jts_nil) (fun _ _ _ _ _ => (je_make (c := 1) ⟨T.mkc_Share, T.a_ShareD_initD, T.i_ShareD_initD, T.kc_Share⟩ (ok_ShareD_initD fu T) (hr.mono (by decide)) (by rfl) T.g_Share T.bd_ShareD_initD takesW (ja_cons (jq_e (je_ix (jq_n 4) (jq_e je_int))) (ja_cons (jq_e (je_ix (jq_n 4) (jq_e je_int))) ja_nil)))))
  (jss_cons (js_set (i := 5) sc_law.nd rfl (by first | exact Or.inl rfl | exact Or.inr rfl) (je_sm (c := 1) (by rfl) T.g_Share ⟨T.rd_Share, T.sga_Share, T.fc_Share_total, ⟨_, T.rc_Share_total⟩, T.k_Share_total⟩ (ok_Share_total fu T) (hr.mono (by decide)) T.bd_Share_total tk (ja_cons (jq_n 3) ja_nil)))
  (jss_cons (js_if (jt_w (jw_or (jt_not (jt_e (je_call (ok_law_is fu T) (hr.mono (by decide)) (by rfl) T.g_law_is T.k_law_is T.bd_law_is tk (ja_cons (jq_n 5) (ja_cons (jq_n 2) ja_nil))))) (jw_or (jt_cmp (op_neDD hr.units) r_ne (jq_e (je_ownStr (c := 1) ⟨T.a_ShareD_strD, T.i_ShareD_strD, T.k_ShareD_strD⟩ (ok_ShareD_strD fu T) (hr.mono (by decide)) T.bd_ShareD_strD tk (by rfl) T.b_str (je_n 5))) (jq_e (je_call (ok_law_text fu T) (hr.mono (by decide)) (by rfl) T.g_law_text T.k_law_text T.bd_law_text tk (ja_cons (jq_n 2) ja_nil))) (nomark _)) (jw_or1 (jt_cmp (op_neDD hr.units) r_ne (jq_e (je_ownBool (c := 1) ⟨T.a_ShareD_boolD, T.i_ShareD_boolD, T.k_ShareD_boolD⟩ (ok_ShareD_boolD fu T) (hr.mono (by decide)) T.bd_ShareD_boolD tk (by rfl) T.b_bool (je_n 5))) (jq_e (je_cmp (op_neDD hr.units) r_ne (jq_e (je_ix (jq_n 2) (jq_e je_int))) (jq_e je_int) (nomark _))) (nomark _))))))
    (jss_one (js_ret je_bl))
    jss_nil)
  (jss_cons (js_if (jt_cmp (op_neDD hr.units) r_ne (jq_e (je_bi call_lenA r_len (by rfl) T.b_len (by decide +kernel) (ja_cons (jq_n 3) ja_nil))) (jq_e (je_bi call_lenA r_len (by rfl) T.b_len (by decide +kernel) (ja_cons (jq_n 1) ja_nil))) (nomark _))
    (jss_one (js_ret je_bl))
    jss_nil)
  (jss_cons (js_for hp rfl (ji_rg1 (by rfl) T.b_range (jq_e (je_bi call_lenA r_len (by rfl) T.b_len (by decide +kernel) (ja_cons (jq_n 1) ja_nil)))) (jg_n 6 sc_law.nd)
    (jss_cons (js_if (jt_w (jw_or (jt_not (jt_e (je_call (ok_law_is fu T) (hr.mono (by decide)) (by rfl) T.g_law_is T.k_law_is T.bd_law_is tk (ja_cons (jq_e (je_ix (jq_n 3) (jq_n 6))) (ja_cons (jq_e (je_ix (jq_n 1) (jq_n 6))) ja_nil))))) (jw_or1 (jt_cmp (op_neDD hr.units) r_ne (jq_e (je_ownStr (c := 1) ⟨T.a_ShareD_strD, T.i_ShareD_strD, T.k_ShareD_strD⟩ (ok_ShareD_strD fu T) (hr.mono (by decide)) T.bd_ShareD_strD tk (by rfl) T.b_str (je_ix (jq_n 3) (jq_n 6)))) (jq_e (je_call (ok_law_text fu T) (hr.mono (by decide)) (by rfl) T.g_law_text T.k_law_text T.bd_law_text tk (ja_cons (jq_e (je_ix (jq_n 1) (jq_n 6))) ja_nil))) (nomark _)))))
    (jss_one (js_ret je_bl))
    jss_nil)
  (jss_one (js_if (jt_not (jt_e (je_call (ok_law_is fu T) (hr.mono (by decide)) (by rfl) T.g_law_is T.k_law_is T.bd_law_is tk (ja_cons (jq_e (je_sm (c := 1) (by rfl) T.g_Share ⟨T.rd_Share, T.sga_Share, T.fc_Share_total, ⟨_, T.rc_Share_total⟩, T.k_Share_total⟩ (ok_Share_total fu T) (hr.mono (by decide)) T.bd_Share_total tk (ja_cons (jq_e (je_of_jn (jn_lst (jl_cons (je_ix (jq_n 3) (jq_n 6)) jl_nil)))) ja_nil))) (ja_cons (jq_e (je_ix (jq_n 1) (jq_n 6))) ja_nil)))))
    (jss_one (js_ret je_bl))
    jss_nil))))
  (jss_cons (js_if (jt_w (jw_or (jt_not (jt_e (je_call (ok_law_is fu T) (hr.mono (by decide)) (by rfl) T.g_law_is T.k_law_is T.bd_law_is tk (ja_cons (jq_e (je_sm (c := 1) (by rfl) T.g_Share ⟨T.rd_Share, T.sga_Share, T.fc_Share_total, ⟨_, T.rc_Share_total⟩, T.k_Share_total⟩ (ok_Share_total fu T) (hr.mono (by decide)) T.bd_Share_total tk (ja_cons (jq_e (je_ty call_tuple_of r_tupleof (by rfl) T.b_tuple (by decide +kernel) (ja_cons (jq_n 3) ja_nil))) ja_nil))) (ja_cons (jq_n 2) ja_nil))))) (jw_or1 (jt_not (jt_e (je_call (ok_law_is fu T) (hr.mono (by decide)) (by rfl) T.g_law_is T.k_law_is T.bd_law_is tk (ja_cons (jq_e (je_sm (c := 1) (by rfl) T.g_Share ⟨T.rd_Share, T.sga_Share, T.fc_Share_total, ⟨_, T.rc_Share_total⟩, T.k_Share_total⟩ (ok_Share_total fu T) (hr.mono (by decide)) T.bd_Share_total tk (ja_cons (jq_e (je_rev (jq_n 3))) ja_nil))) (ja_cons (jq_n 2) ja_nil))))))))
    (jss_one (js_ret je_bl))
    jss_nil)
  (jss_cons (js_set (i := 7) sc_law.nd rfl (by first | exact Or.inl rfl | exact Or.inr rfl) (je_tup (jl_cons (je_op op_sub r_sub (jq_e (je_op op_modN r_mod (jq_e (je_ty call_int1 r_int (by rfl) T.b_int (by decide +kernel) (ja_cons (jq_e (je_call (ok_law_cell fu T) (hr.mono (by decide)) (by rfl) T.g_law_cell T.k_law_cell T.bd_law_cell tk (ja_cons (jq_n 0) (ja_cons (jq_e je_int) ja_nil)))) ja_nil))) (jq_e je_int))) (jq_e je_int)) (jl_cons (je_op op_addD r_add (jq_e je_int) (jq_e (je_op op_modN r_mod (jq_e (je_ty call_int1 r_int (by rfl) T.b_int (by decide +kernel) (ja_cons (jq_e (je_call (ok_law_cell fu T) (hr.mono (by decide)) (by rfl) T.g_law_cell T.k_law_cell T.bd_law_cell tk (ja_cons (jq_n 0) (ja_cons (jq_e je_int) ja_nil)))) ja_nil))) (jq_e je_int)))) jl_nil))))
  (jss_cons (js_app 3 (je_make (c := 1) ⟨T.mkc_Share, T.a_ShareD_initD, T.i_ShareD_initD, T.kc_Share⟩ (ok_ShareD_initD fu T) (hr.mono (by decide)) (by rfl) T.g_Share T.bd_ShareD_initD tk (ja_cons (jq_e (je_ix (jq_n 7) (jq_e je_int))) (ja_cons (jq_e (je_ix (jq_n 7) (jq_e je_int))) ja_nil))) (pe := fun t h => pe_bm PySem.F.plainAttrs_list PySem.F.slot_list_append PySem.F.type_list_append mt_append (pe_var (i := 3) rfl (by first | exact Or.inl rfl | exact Or.inr (Or.inl rfl) | exact Or.inr (Or.inr rfl))) (pa_cons h pa_nil)))
  (jss_cons (js_if (jt_w (jw_or (jt_not (jt_e (je_call (ok_law_is fu T) (hr.mono (by decide)) (by rfl) T.g_law_is T.k_law_is T.bd_law_is tk (ja_cons (jq_n 5) (ja_cons (jq_n 2) ja_nil))))) (jw_or1 (jt_not (jt_e (je_call (ok_law_is fu T) (hr.mono (by decide)) (by rfl) T.g_law_is T.k_law_is T.bd_law_is tk (ja_cons (jq_e (je_sm (c := 1) (by rfl) T.g_Share ⟨T.rd_Share, T.sga_Share, T.fc_Share_total, ⟨_, T.rc_Share_total⟩, T.k_Share_total⟩ (ok_Share_total fu T) (hr.mono (by decide)) T.bd_Share_total tk (ja_cons (jq_n 3) ja_nil))) (ja_cons (jq_e (je_call (ok_law_added fu T) (hr.mono (by decide)) (by rfl) T.g_law_added T.k_law_added T.bd_law_added tk (ja_cons (jq_e (je_op op_addD r_add (jq_n 1) (jq_e (je_of_jn (jn_lst (jl_cons (je_n 7) jl_nil)))))) ja_nil))) ja_nil))))))))
    (jss_one (js_ret je_bl))
    jss_nil)
  (jss_cons (js_if (jt_w (jw_or (jt_not (jt_e (je_call (ok_law_is fu T) (hr.mono (by decide)) (by rfl) T.g_law_is T.k_law_is T.bd_law_is tk (ja_cons (jq_e (je_sm (c := 1) (by rfl) T.g_Share ⟨T.rd_Share, T.sga_Share, T.fc_Share_total, ⟨_, T.rc_Share_total⟩, T.k_Share_total⟩ (ok_Share_total fu T) (hr.mono (by decide)) T.bd_Share_total tk (ja_cons (jq_e (je_of_jn (jn_lst jl_nil))) ja_nil))) (ja_cons (jq_e (je_tup (jl_cons je_int (jl_cons je_int jl_nil)))) ja_nil))))) (jw_or (jt_cmp (op_neDD hr.units) r_ne (jq_e (je_ownStr (c := 1) ⟨T.a_ShareD_strD, T.i_ShareD_strD, T.k_ShareD_strD⟩ (ok_ShareD_strD fu T) (hr.mono (by decide)) T.bd_ShareD_strD tk (by rfl) T.b_str (je_sm (c := 1) (by rfl) T.g_Share ⟨T.rd_Share, T.sga_Share, T.fc_Share_total, ⟨_, T.rc_Share_total⟩, T.k_Share_total⟩ (ok_Share_total fu T) (hr.mono (by decide)) T.bd_Share_total tk (ja_cons (jq_e (je_of_jn (jn_lst jl_nil))) ja_nil)))) (jq_e je_str) (nomark _)) (jw_or1 (jt_e (je_ownBool (c := 1) ⟨T.a_ShareD_boolD, T.i_ShareD_boolD, T.k_ShareD_boolD⟩ (ok_ShareD_boolD fu T) (hr.mono (by decide)) T.bd_ShareD_boolD tk (by rfl) T.b_bool (je_makeD (c := 1) (ms := [true]) (ms1 := [true]) (dd := [(.int 1)]) ⟨T.mkc_Share, T.a_ShareD_initD, T.i_ShareD_initD, T.kc_Share⟩ (ok_ShareD_initD fu T) (hr.mono (by decide)) (by rfl) T.g_Share T.bd1_ShareD_initD T.dv1_ShareD_initD (dfl_int dfl_nil) tk (ja_cons (jq_e je_int) ja_nil))))))))
    (jss_one (js_ret je_bl))
    jss_nil)
  (jss_one (js_ret (je_and (je_call (ok_law_refused fu T) (hr.mono (by decide)) (by rfl) T.g_law_refused T.k_law_refused T.bd_law_refused tk (ja_cons (jq_e (je_ix (jq_n 2) (jq_e je_int))) ja_nil)) (je_and (je_call (ok_law_refused fu T) (hr.mono (by decide)) (by rfl) T.g_law_refused T.k_law_refused T.bd_law_refused tk (ja_cons (jq_e je_int) ja_nil)) (je_one (je_call (ok_law_refused fu T) (hr.mono (by decide)) (by rfl) T.g_law_refused T.k_law_refused T.bd_law_refused tk (ja_cons (jq_e (je_ix (jq_n 7) (jq_e je_int))) ja_nil)))))))))))))))))))
end
end K01

set_option autoImplicit true
set_option Elab.async false
set_option linter.all false
set_option maxRecDepth 100000
set_option exponentiation.threshold 10000
set_option maxHeartbeats 4000000
namespace K01
open PySem L2 Ed
theorem all_mk {l : PySem.W.OpenLaw} {w : World} {K : PySem.W.Frag} {h : Heap} {mg : Str → Option Value} {fa : Addr} (pw : ∀ ns : List Int, ns.length ≤ 63 → F_law FUEL [.scr ns] = .ok (.fz (.bl true))) (X : K.In h) (G : h.Ns mainGlobals mg) (hfa : mg "law" = some (.ref fa))
    {f_ShareD_initD : Addr} {od_ShareD_initD an_ShareD_initD : Option Addr} {sl_ShareD_initD : Array (Option Value)} {oc_ShareD_initD kV_ShareD_initD dc_ShareD_initD pm_ShareD_initD cd_ShareD_initD ct_ShareD_initD : Value}
    {t_ShareD_initD : Addr} {to_ShareD_initD : Obj} {ti_ShareD_initD : List Value} {tn_ShareD_initD : Nat}
    {f_ShareD_addD : Addr} {od_ShareD_addD an_ShareD_addD : Option Addr} {sl_ShareD_addD : Array (Option Value)} {oc_ShareD_addD kV_ShareD_addD dc_ShareD_addD pm_ShareD_addD cd_ShareD_addD ct_ShareD_addD : Value}
    {f_Share_total : Addr} {od_Share_total an_Share_total : Option Addr} {sl_Share_total : Array (Option Value)} {oc_Share_total kV_Share_total dc_Share_total pm_Share_total cd_Share_total ct_Share_total : Value}
    {f_ShareD_boolD : Addr} {od_ShareD_boolD an_ShareD_boolD : Option Addr} {sl_ShareD_boolD : Array (Option Value)} {oc_ShareD_boolD kV_ShareD_boolD dc_ShareD_boolD pm_ShareD_boolD cd_ShareD_boolD ct_ShareD_boolD : Value}
    {f_ShareD_strD : Addr} {od_ShareD_strD an_ShareD_strD : Option Addr} {sl_ShareD_strD : Array (Option Value)} {oc_ShareD_strD kV_ShareD_strD dc_ShareD_strD pm_ShareD_strD cd_ShareD_strD ct_ShareD_strD : Value}
    {f_law_cell : Addr} {od_law_cell an_law_cell : Option Addr} {sl_law_cell : Array (Option Value)} {oc_law_cell kV_law_cell dc_law_cell pm_law_cell cd_law_cell ct_law_cell : Value}
    {f_law_pool : Addr} {od_law_pool an_law_pool : Option Addr} {sl_law_pool : Array (Option Value)} {oc_law_pool kV_law_pool dc_law_pool pm_law_pool cd_law_pool ct_law_pool : Value}
    {f_law_part : Addr} {od_law_part an_law_part : Option Addr} {sl_law_part : Array (Option Value)} {oc_law_part kV_law_part dc_law_part pm_law_part cd_law_part ct_law_part : Value}
    {f_law_common : Addr} {od_law_common an_law_common : Option Addr} {sl_law_common : Array (Option Value)} {oc_law_common kV_law_common dc_law_common pm_law_common cd_law_common ct_law_common : Value}
    {f_law_added : Addr} {od_law_added an_law_added : Option Addr} {sl_law_added : Array (Option Value)} {oc_law_added kV_law_added dc_law_added pm_law_added cd_law_added ct_law_added : Value}
    {f_law_text : Addr} {od_law_text an_law_text : Option Addr} {sl_law_text : Array (Option Value)} {oc_law_text kV_law_text dc_law_text pm_law_text cd_law_text ct_law_text : Value}
    {f_law_is : Addr} {od_law_is an_law_is : Option Addr} {sl_law_is : Array (Option Value)} {oc_law_is kV_law_is dc_law_is pm_law_is cd_law_is ct_law_is : Value}
    {f_law_refused : Addr} {od_law_refused an_law_refused : Option Addr} {sl_law_refused : Array (Option Value)} {oc_law_refused kV_law_refused dc_law_refused pm_law_refused cd_law_refused ct_law_refused : Value}
    {f_law_parts : Addr} {od_law_parts an_law_parts : Option Addr} {sl_law_parts : Array (Option Value)} {oc_law_parts kV_law_parts dc_law_parts pm_law_parts cd_law_parts ct_law_parts : Value}
    {f_law : Addr} {od_law an_law : Option Addr} {sl_law : Array (Option Value)} {oc_law kV_law dc_law pm_law cd_law ct_law : Value}
    {C_BadShare : Addr}
    {C_Share : Addr}
    {C_Unknown : Addr}
    {C_RowsError : Addr}
    {C_BadNumber : Addr}
    {C_Impossible : Addr}
    {q_Share_total : Addr}
    {rest_Share_total : List Value}
    (g_BadShare : PySem.W.nsIn K mainGlobals "BadShare" = some (some (.ref C_BadShare)))
    (g_Share : PySem.W.nsIn K mainGlobals "Share" = some (some (.ref C_Share)))
    (g_law_cell : PySem.W.nsIn K mainGlobals "_law_cell" = some (some (.ref f_law_cell)))
    (g_law_common : PySem.W.nsIn K mainGlobals "_law_common" = some (some (.ref f_law_common)))
    (g_Unknown : PySem.W.nsIn K mainGlobals "Unknown" = some (some (.ref C_Unknown)))
    (g_RowsError : PySem.W.nsIn K mainGlobals "RowsError" = some (some (.ref C_RowsError)))
    (g_BadNumber : PySem.W.nsIn K mainGlobals "BadNumber" = some (some (.ref C_BadNumber)))
    (g_Impossible : PySem.W.nsIn K mainGlobals "Impossible" = some (some (.ref C_Impossible)))
    (g_law_is : PySem.W.nsIn K mainGlobals "_law_is" = some (some (.ref f_law_is)))
    (g_law_pool : PySem.W.nsIn K mainGlobals "_law_pool" = some (some (.ref f_law_pool)))
    (g_law_part : PySem.W.nsIn K mainGlobals "_law_part" = some (some (.ref f_law_part)))
    (g_law_added : PySem.W.nsIn K mainGlobals "_law_added" = some (some (.ref f_law_added)))
    (g_law_parts : PySem.W.nsIn K mainGlobals "_law_parts" = some (some (.ref f_law_parts)))
    (g_law_text : PySem.W.nsIn K mainGlobals "_law_text" = some (some (.ref f_law_text)))
    (g_law_refused : PySem.W.nsIn K mainGlobals "_law_refused" = some (some (.ref f_law_refused)))
    (g_law : PySem.W.nsIn K mainGlobals "law" = some (some (.ref f_law)))
    (a_ShareD_initD : PySem.W.findIn K (.ref C_Share) "__init__" = some (some (.ref f_ShareD_initD)))
    (a_ShareD_addD : PySem.W.findIn K (.ref C_Share) "__add__" = some (some (.ref f_ShareD_addD)))
    (fc_Share_total : PySem.W.findCls K (.ref C_Share) (.type "type") "total" = some (.get (.builtin "staticmethod.__get__") (.ref q_Share_total) .none (.ref C_Share)))
    (a_ShareD_strD : PySem.W.findIn K (.ref C_Share) "__str__" = some (some (.ref f_ShareD_strD)))
    (a_ShareD_boolD : PySem.W.findIn K (.ref C_Share) "__bool__" = some (some (.ref f_ShareD_boolD)))
    (rc_Share_total : PySem.W.recIn K q_Share_total "staticmethod" = some (.ref f_Share_total :: rest_Share_total))
    (l_ShareD_initD : K.lookup f_ShareD_initD = some ⟨oc_ShareD_initD, od_ShareD_initD, .func (PySem.W.fnOf "__init__" "Share.__init__" (defArgs s_ShareD_initD) (defBody s_ShareD_initD) (defScope s_ShareD_initD) (.ref t_ShareD_initD) kV_ShareD_initD dc_ShareD_initD pm_ShareD_initD an_ShareD_initD cd_ShareD_initD ct_ShareD_initD), sl_ShareD_initD⟩)
    (c_ShareD_initD : PySem.W.codeIn K cd_ShareD_initD "Share.__init__" = true)
    (k_ShareD_initD : PySem.W.keepIn K (.ref f_ShareD_initD) = true)
    (t1_ShareD_initD : K.lookup t_ShareD_initD = some to_ShareD_initD)
    (t2_ShareD_initD : to_ShareD_initD.data = .seq ti_ShareD_initD.toArray tn_ShareD_initD)
    (t3_ShareD_initD : Vals [V.int 1] ti_ShareD_initD)
    (l_ShareD_addD : K.lookup f_ShareD_addD = some ⟨oc_ShareD_addD, od_ShareD_addD, .func (PySem.W.fnOf "__add__" "Share.__add__" (defArgs s_ShareD_addD) (defBody s_ShareD_addD) (defScope s_ShareD_addD) .none kV_ShareD_addD dc_ShareD_addD pm_ShareD_addD an_ShareD_addD cd_ShareD_addD ct_ShareD_addD), sl_ShareD_addD⟩)
    (c_ShareD_addD : PySem.W.codeIn K cd_ShareD_addD "Share.__add__" = true)
    (k_ShareD_addD : PySem.W.keepIn K (.ref f_ShareD_addD) = true)
    (l_Share_total : K.lookup f_Share_total = some ⟨oc_Share_total, od_Share_total, .func (PySem.W.fnOf "total" "Share.total" (defArgs s_Share_total) (defBody s_Share_total) (defScope s_Share_total) .none kV_Share_total dc_Share_total pm_Share_total an_Share_total cd_Share_total ct_Share_total), sl_Share_total⟩)
    (c_Share_total : PySem.W.codeIn K cd_Share_total "Share.total" = true)
    (k_Share_total : PySem.W.keepIn K (.ref f_Share_total) = true)
    (l_ShareD_boolD : K.lookup f_ShareD_boolD = some ⟨oc_ShareD_boolD, od_ShareD_boolD, .func (PySem.W.fnOf "__bool__" "Share.__bool__" (defArgs s_ShareD_boolD) (defBody s_ShareD_boolD) (defScope s_ShareD_boolD) .none kV_ShareD_boolD dc_ShareD_boolD pm_ShareD_boolD an_ShareD_boolD cd_ShareD_boolD ct_ShareD_boolD), sl_ShareD_boolD⟩)
    (c_ShareD_boolD : PySem.W.codeIn K cd_ShareD_boolD "Share.__bool__" = true)
    (k_ShareD_boolD : PySem.W.keepIn K (.ref f_ShareD_boolD) = true)
    (l_ShareD_strD : K.lookup f_ShareD_strD = some ⟨oc_ShareD_strD, od_ShareD_strD, .func (PySem.W.fnOf "__str__" "Share.__str__" (defArgs s_ShareD_strD) (defBody s_ShareD_strD) (defScope s_ShareD_strD) .none kV_ShareD_strD dc_ShareD_strD pm_ShareD_strD an_ShareD_strD cd_ShareD_strD ct_ShareD_strD), sl_ShareD_strD⟩)
    (c_ShareD_strD : PySem.W.codeIn K cd_ShareD_strD "Share.__str__" = true)
    (k_ShareD_strD : PySem.W.keepIn K (.ref f_ShareD_strD) = true)
    (l_law_cell : K.lookup f_law_cell = some ⟨oc_law_cell, od_law_cell, .func (PySem.W.fnOf "_law_cell" "_law_cell" (defArgs s_law_cell) (defBody s_law_cell) (defScope s_law_cell) .none kV_law_cell dc_law_cell pm_law_cell an_law_cell cd_law_cell ct_law_cell), sl_law_cell⟩)
    (c_law_cell : PySem.W.codeIn K cd_law_cell "_law_cell" = true)
    (k_law_cell : PySem.W.keepIn K (.ref f_law_cell) = true)
    (l_law_pool : K.lookup f_law_pool = some ⟨oc_law_pool, od_law_pool, .func (PySem.W.fnOf "_law_pool" "_law_pool" (defArgs s_law_pool) (defBody s_law_pool) (defScope s_law_pool) .none kV_law_pool dc_law_pool pm_law_pool an_law_pool cd_law_pool ct_law_pool), sl_law_pool⟩)
    (c_law_pool : PySem.W.codeIn K cd_law_pool "_law_pool" = true)
    (k_law_pool : PySem.W.keepIn K (.ref f_law_pool) = true)
    (l_law_part : K.lookup f_law_part = some ⟨oc_law_part, od_law_part, .func (PySem.W.fnOf "_law_part" "_law_part" (defArgs s_law_part) (defBody s_law_part) (defScope s_law_part) .none kV_law_part dc_law_part pm_law_part an_law_part cd_law_part ct_law_part), sl_law_part⟩)
    (c_law_part : PySem.W.codeIn K cd_law_part "_law_part" = true)
    (k_law_part : PySem.W.keepIn K (.ref f_law_part) = true)
    (l_law_common : K.lookup f_law_common = some ⟨oc_law_common, od_law_common, .func (PySem.W.fnOf "_law_common" "_law_common" (defArgs s_law_common) (defBody s_law_common) (defScope s_law_common) .none kV_law_common dc_law_common pm_law_common an_law_common cd_law_common ct_law_common), sl_law_common⟩)
    (c_law_common : PySem.W.codeIn K cd_law_common "_law_common" = true)
    (k_law_common : PySem.W.keepIn K (.ref f_law_common) = true)
    (l_law_added : K.lookup f_law_added = some ⟨oc_law_added, od_law_added, .func (PySem.W.fnOf "_law_added" "_law_added" (defArgs s_law_added) (defBody s_law_added) (defScope s_law_added) .none kV_law_added dc_law_added pm_law_added an_law_added cd_law_added ct_law_added), sl_law_added⟩)
    (c_law_added : PySem.W.codeIn K cd_law_added "_law_added" = true)
    (k_law_added : PySem.W.keepIn K (.ref f_law_added) = true)
    (l_law_text : K.lookup f_law_text = some ⟨oc_law_text, od_law_text, .func (PySem.W.fnOf "_law_text" "_law_text" (defArgs s_law_text) (defBody s_law_text) (defScope s_law_text) .none kV_law_text dc_law_text pm_law_text an_law_text cd_law_text ct_law_text), sl_law_text⟩)
    (c_law_text : PySem.W.codeIn K cd_law_text "_law_text" = true)
    (k_law_text : PySem.W.keepIn K (.ref f_law_text) = true)
    (l_law_is : K.lookup f_law_is = some ⟨oc_law_is, od_law_is, .func (PySem.W.fnOf "_law_is" "_law_is" (defArgs s_law_is) (defBody s_law_is) (defScope s_law_is) .none kV_law_is dc_law_is pm_law_is an_law_is cd_law_is ct_law_is), sl_law_is⟩)
    (c_law_is : PySem.W.codeIn K cd_law_is "_law_is" = true)
    (k_law_is : PySem.W.keepIn K (.ref f_law_is) = true)
    (l_law_refused : K.lookup f_law_refused = some ⟨oc_law_refused, od_law_refused, .func (PySem.W.fnOf "_law_refused" "_law_refused" (defArgs s_law_refused) (defBody s_law_refused) (defScope s_law_refused) .none kV_law_refused dc_law_refused pm_law_refused an_law_refused cd_law_refused ct_law_refused), sl_law_refused⟩)
    (c_law_refused : PySem.W.codeIn K cd_law_refused "_law_refused" = true)
    (k_law_refused : PySem.W.keepIn K (.ref f_law_refused) = true)
    (l_law_parts : K.lookup f_law_parts = some ⟨oc_law_parts, od_law_parts, .func (PySem.W.fnOf "_law_parts" "_law_parts" (defArgs s_law_parts) (defBody s_law_parts) (defScope s_law_parts) .none kV_law_parts dc_law_parts pm_law_parts an_law_parts cd_law_parts ct_law_parts), sl_law_parts⟩)
    (c_law_parts : PySem.W.codeIn K cd_law_parts "_law_parts" = true)
    (k_law_parts : PySem.W.keepIn K (.ref f_law_parts) = true)
    (l_law : K.lookup f_law = some ⟨oc_law, od_law, .func (PySem.W.fnOf "law" "law" (defArgs s_law) (defBody s_law) (defScope s_law) .none kV_law dc_law pm_law an_law cd_law ct_law), sl_law⟩)
    (c_law : PySem.W.codeIn K cd_law "law" = true)
    (k_law : PySem.W.keepIn K (.ref f_law) = true)
    (xi_BadShare : PySem.W.excIn K C_BadShare [.type "ValueError", .type "Exception", .type "BaseException", .type "object"] "ValueError.__new__" = true)
    (kc_BadShare : PySem.W.keepIn K (.ref C_BadShare) = true)
    (bx_BadShare : PySem.W.subIn K (.ref C_BadShare) (.type "BaseException") = some true)
    (ty_BadShare : PySem.W.typeIn K (.ref C_BadShare) = some (.type "type"))
    (b_gcd : PySem.W.nsIn K mainGlobals "gcd" = some (some (.builtin "math.gcd")))
    (pg_Share : PySem.W.plainGet K C_Share Str.empty = true)
    (hd_Share : PySem.W.hasDictIn K C_Share = true)
    (po_Share : PySem.W.plainOver K C_Share = true)
    (sa_Share : PySem.W.findIn K (.ref C_Share) "__setattr__" = some (some (.builtin "object.__setattr__")))
    (na_Share_num : PySem.W.findIn K (.ref C_Share) "num" = some none)
    (na_Share_den : PySem.W.findIn K (.ref C_Share) "den" = some none)
    (mkc_Share : PySem.W.makesIn K C_Share = true)
    (kc_Share : PySem.W.keepIn K (.ref C_Share) = true)
    (i_ShareD_initD : PySem.W.isFn K (.ref f_ShareD_initD) = true)
    (sf_Share : PySem.W.selfFirst K C_Share = true)
    (i_ShareD_addD : PySem.W.isFn K (.ref f_ShareD_addD) = true)
    (b_isinstance : PySem.W.nsIn K mainGlobals "isinstance" = some none)
    (ic_Share : PySem.W.isClsIn K C_Share = true)
    (ty_Share : PySem.W.typeIn K (.ref C_Share) = some (.type "type"))
    (su_Share_NoneType : PySem.W.subIn K (.type "NoneType") (.ref C_Share) = some false)
    (su_Share_bool : PySem.W.subIn K (.type "bool") (.ref C_Share) = some false)
    (su_Share_int : PySem.W.subIn K (.type "int") (.ref C_Share) = some false)
    (su_Share_str : PySem.W.subIn K (.type "str") (.ref C_Share) = some false)
    (su_Share_list : PySem.W.subIn K (.type "list") (.ref C_Share) = some false)
    (su_Share_tuple : PySem.W.subIn K (.type "tuple") (.ref C_Share) = some false)
    (ha_Share : PySem.W.findIn K (.ref C_Share) "__class__" = some (some (.builtin "object.__class__")))
    (hm_Share : PySem.W.mroIn K C_Share (.type "object") = some true)
    (hn_get : PySem.W.specialIn K (.builtin "object.__class__") "__get__" = some (some (.builtin "getset_descriptor.__get__")))
    (ht_get : PySem.W.takesIn K (.builtin "object.__class__") = some true)
    (b_bool : PySem.W.nsIn K mainGlobals "bool" = some none)
    (b_str : PySem.W.nsIn K mainGlobals "str" = some none)
    (b_len : PySem.W.nsIn K mainGlobals "len" = some none)
    (b_abs : PySem.W.nsIn K mainGlobals "abs" = some none)
    (b_range : PySem.W.nsIn K mainGlobals "range" = some none)
    (b_int : PySem.W.nsIn K mainGlobals "int" = some none)
    (eg_BadShare : PySem.W.findIn K (.ref C_BadShare) "__getattribute__" = some (some (.builtin "BaseException.__getattribute__")))
    (ek_BadShare : PySem.W.findIn K (.ref C_BadShare) "__getattr__" = some none)
    (hd_BadShare : PySem.W.hasDictIn K C_BadShare = true)
    (ha_BadShare : PySem.W.findIn K (.ref C_BadShare) "__class__" = some (some (.builtin "object.__class__")))
    (hm_BadShare : PySem.W.mroIn K C_BadShare (.type "object") = some true)
    (ic_Unknown : PySem.W.isClsIn K C_Unknown = true)
    (ty_Unknown : PySem.W.typeIn K (.ref C_Unknown) = some (.type "type"))
    (su_Unknown_of_BadShare : PySem.W.subIn K (.ref C_BadShare) (.ref C_Unknown) = some false)
    (su_Unknown_of_Unknown : PySem.W.subIn K (.ref C_Unknown) (.ref C_Unknown) = some true)
    (b_ValueError : PySem.W.nsIn K mainGlobals "ValueError" = some none)
    (kt_BadShare_ValueError : PySem.W.subIn K (.ref C_BadShare) (.type "ValueError") = some true)
    (ic_RowsError : PySem.W.isClsIn K C_RowsError = true)
    (ty_RowsError : PySem.W.typeIn K (.ref C_RowsError) = some (.type "type"))
    (su_RowsError_of_BadShare : PySem.W.subIn K (.ref C_BadShare) (.ref C_RowsError) = some true)
    (ic_BadNumber : PySem.W.isClsIn K C_BadNumber = true)
    (ty_BadNumber : PySem.W.typeIn K (.ref C_BadNumber) = some (.type "type"))
    (su_BadNumber_of_BadShare : PySem.W.subIn K (.ref C_BadShare) (.ref C_BadNumber) = some false)
    (su_BadNumber_of_BadNumber : PySem.W.subIn K (.ref C_BadNumber) (.ref C_BadNumber) = some true)
    (ic_Impossible : PySem.W.isClsIn K C_Impossible = true)
    (ty_Impossible : PySem.W.typeIn K (.ref C_Impossible) = some (.type "type"))
    (su_Impossible_of_BadShare : PySem.W.subIn K (.ref C_BadShare) (.ref C_Impossible) = some false)
    (su_Impossible_of_Impossible : PySem.W.subIn K (.ref C_Impossible) (.ref C_Impossible) = some true)
    (su_BadShare_of_BadShare : PySem.W.subIn K (.ref C_BadShare) (.ref C_BadShare) = some true)
    (rd_Share : PySem.W.readsIn K C_Share (.type "type") = true)
    (sga_Share : PySem.W.specialIn K (.ref C_Share) "__getattribute__" = some (some (.builtin "type.__getattribute__")))
    (i_ShareD_strD : PySem.W.isFn K (.ref f_ShareD_strD) = true)
    (i_ShareD_boolD : PySem.W.isFn K (.ref f_ShareD_boolD) = true)
    (b_tuple : PySem.W.nsIn K mainGlobals "tuple" = some none)
    : ∃ fd : FuncData, (∀ (s : Shared) (v : Value), BindsTo s fd ⟨[v], []⟩ [("script", v)]) ∧ ∀ base : Heap, K.In base → base.Ns mainGlobals mg → FnOk l.prog w K mg base (L2.CX l.prog w) 5 fa fd ["script"] (spLaw K) := by
  have e := hfa.symm.trans (PySem.W.mg_of X G g_law)
  cases e
  have F_ShareD_initD : FunD K "__init__" "Share.__init__" (defArgs s_ShareD_initD) (defBody s_ShareD_initD) (defScope s_ShareD_initD) [V.int 1] [] f_ShareD_initD _ := ⟨⟨oc_ShareD_initD, od_ShareD_initD, .ref t_ShareD_initD, kV_ShareD_initD, dc_ShareD_initD, pm_ShareD_initD, an_ShareD_initD, cd_ShareD_initD, ct_ShareD_initD, sl_ShareD_initD, rfl, l_ShareD_initD, c_ShareD_initD, .inr ⟨by simp, t_ShareD_initD, to_ShareD_initD, ti_ShareD_initD, tn_ShareD_initD, rfl, t1_ShareD_initD, t2_ShareD_initD, t3_ShareD_initD⟩, .inl rfl⟩, k_ShareD_initD⟩
  have B_ShareD_initD := F_ShareD_initD.binds1 (ps := ["self", "num", "den"]) 3 1 (by simp) rfl fun _ _ _ _ _ _ _ us its hl hd => match us, its, hl, hd with | [_, _, _], [_], _, _ => ⟨_, rfl, rfl⟩
  have B1_ShareD_initD := F_ShareD_initD.binds1 (ps := ["self", "num", "den"]) 2 0 (by simp) rfl fun _ _ _ _ _ _ _ us its hl hd => match us, its, hl, hd with | [_, _], [_], _, _ => ⟨_, rfl, rfl⟩
  have F_ShareD_addD := fun_mk (st := s_ShareD_addD) l_ShareD_addD c_ShareD_addD k_ShareD_addD
  have B_ShareD_addD := F_ShareD_addD.binds (ps := ["self", "other"]) fun _ _ _ _ _ _ us hl => match us, hl with | [_, _], _ => rfl
  have F_Share_total := fun_mk (st := s_Share_total) l_Share_total c_Share_total k_Share_total
  have B_Share_total := F_Share_total.binds (ps := ["shares"]) fun _ _ _ _ _ _ us hl => match us, hl with | [_], _ => rfl
  have F_ShareD_boolD := fun_mk (st := s_ShareD_boolD) l_ShareD_boolD c_ShareD_boolD k_ShareD_boolD
  have B_ShareD_boolD := F_ShareD_boolD.binds (ps := ["self"]) fun _ _ _ _ _ _ us hl => match us, hl with | [_], _ => rfl
  have F_ShareD_strD := fun_mk (st := s_ShareD_strD) l_ShareD_strD c_ShareD_strD k_ShareD_strD
  have B_ShareD_strD := F_ShareD_strD.binds (ps := ["self"]) fun _ _ _ _ _ _ us hl => match us, hl with | [_], _ => rfl
  have F_law_cell := fun_mk (st := s_law_cell) l_law_cell c_law_cell k_law_cell
  have B_law_cell := F_law_cell.binds (ps := ["script", "k"]) fun _ _ _ _ _ _ us hl => match us, hl with | [_, _], _ => rfl
  have F_law_pool := fun_mk (st := s_law_pool) l_law_pool c_law_pool k_law_pool
  have B_law_pool := F_law_pool.binds (ps := ["script", "k", "count"]) fun _ _ _ _ _ _ us hl => match us, hl with | [_, _, _], _ => rfl
  have F_law_part := fun_mk (st := s_law_part) l_law_part c_law_part k_law_part
  have B_law_part := F_law_part.binds (ps := ["pool", "at", "kinds"]) fun _ _ _ _ _ _ us hl => match us, hl with | [_, _, _], _ => rfl
  have F_law_common := fun_mk (st := s_law_common) l_law_common c_law_common k_law_common
  have B_law_common := F_law_common.binds (ps := ["one", "other"]) fun _ _ _ _ _ _ us hl => match us, hl with | [_, _], _ => rfl
  have F_law_added := fun_mk (st := s_law_added) l_law_added c_law_added k_law_added
  have B_law_added := F_law_added.binds (ps := ["parts"]) fun _ _ _ _ _ _ us hl => match us, hl with | [_], _ => rfl
  have F_law_text := fun_mk (st := s_law_text) l_law_text c_law_text k_law_text
  have B_law_text := F_law_text.binds (ps := ["part"]) fun _ _ _ _ _ _ us hl => match us, hl with | [_], _ => rfl
  have F_law_is := fun_mk (st := s_law_is) l_law_is c_law_is k_law_is
  have B_law_is := F_law_is.binds (ps := ["found", "part"]) fun _ _ _ _ _ _ us hl => match us, hl with | [_, _], _ => rfl
  have F_law_refused := fun_mk (st := s_law_refused) l_law_refused c_law_refused k_law_refused
  have B_law_refused := F_law_refused.binds (ps := ["num"]) fun _ _ _ _ _ _ us hl => match us, hl with | [_], _ => rfl
  have F_law_parts := fun_mk (st := s_law_parts) l_law_parts c_law_parts k_law_parts
  have B_law_parts := F_law_parts.binds (ps := ["script"]) fun _ _ _ _ _ _ us hl => match us, hl with | [_], _ => rfl
  have F_law := fun_mk (st := s_law) l_law c_law k_law
  have B_law := F_law.binds (ps := ["script"]) fun _ _ _ _ _ _ us hl => match us, hl with | [_], _ => rfl
  let T : Txt K mg := {
    k_ShareD_initD := k_ShareD_initD,
    f_ShareD_initD := f_ShareD_initD, fd_ShareD_initD := _, F_ShareD_initD := F_ShareD_initD, bd_ShareD_initD := binds0 B_ShareD_initD,
    ds1_ShareD_initD := B1_ShareD_initD.choose, dv1_ShareD_initD := B1_ShareD_initD.choose_spec.1, bd1_ShareD_initD := B1_ShareD_initD.choose_spec.2,
    k_ShareD_addD := k_ShareD_addD,
    f_ShareD_addD := f_ShareD_addD, fd_ShareD_addD := _, F_ShareD_addD := F_ShareD_addD, bd_ShareD_addD := B_ShareD_addD,
    k_Share_total := k_Share_total,
    f_Share_total := f_Share_total, fd_Share_total := _, F_Share_total := F_Share_total, bd_Share_total := B_Share_total,
    k_ShareD_boolD := k_ShareD_boolD,
    f_ShareD_boolD := f_ShareD_boolD, fd_ShareD_boolD := _, F_ShareD_boolD := F_ShareD_boolD, bd_ShareD_boolD := B_ShareD_boolD,
    k_ShareD_strD := k_ShareD_strD,
    f_ShareD_strD := f_ShareD_strD, fd_ShareD_strD := _, F_ShareD_strD := F_ShareD_strD, bd_ShareD_strD := B_ShareD_strD,
    k_law_cell := k_law_cell,
    f_law_cell := f_law_cell, fd_law_cell := _, F_law_cell := F_law_cell, bd_law_cell := B_law_cell,
    k_law_pool := k_law_pool,
    f_law_pool := f_law_pool, fd_law_pool := _, F_law_pool := F_law_pool, bd_law_pool := B_law_pool,
    k_law_part := k_law_part,
    f_law_part := f_law_part, fd_law_part := _, F_law_part := F_law_part, bd_law_part := B_law_part,
    k_law_common := k_law_common,
    f_law_common := f_law_common, fd_law_common := _, F_law_common := F_law_common, bd_law_common := B_law_common,
    k_law_added := k_law_added,
    f_law_added := f_law_added, fd_law_added := _, F_law_added := F_law_added, bd_law_added := B_law_added,
    k_law_text := k_law_text,
    f_law_text := f_law_text, fd_law_text := _, F_law_text := F_law_text, bd_law_text := B_law_text,
    k_law_is := k_law_is,
    f_law_is := f_law_is, fd_law_is := _, F_law_is := F_law_is, bd_law_is := B_law_is,
    k_law_refused := k_law_refused,
    f_law_refused := f_law_refused, fd_law_refused := _, F_law_refused := F_law_refused, bd_law_refused := B_law_refused,
    k_law_parts := k_law_parts,
    f_law_parts := f_law_parts, fd_law_parts := _, F_law_parts := F_law_parts, bd_law_parts := B_law_parts,
    k_law := k_law,
    f_law := fa, fd_law := _, F_law := F_law, bd_law := B_law,
    C_BadShare := C_BadShare,
    C_Share := C_Share,
    C_Unknown := C_Unknown,
    C_RowsError := C_RowsError,
    C_BadNumber := C_BadNumber,
    C_Impossible := C_Impossible,
    q_Share_total := q_Share_total,
    rest_Share_total := rest_Share_total,
    g_BadShare := PySem.W.mg_of X G g_BadShare,
    xi_BadShare := xi_BadShare,
    kc_BadShare := kc_BadShare,
    bx_BadShare := bx_BadShare,
    ty_BadShare := ty_BadShare,
    b_gcd := PySem.W.mg_of X G b_gcd,
    g_Share := PySem.W.mg_of X G g_Share,
    pg_Share := pg_Share,
    hd_Share := hd_Share,
    po_Share := po_Share,
    sa_Share := sa_Share,
    na_Share_num := na_Share_num,
    na_Share_den := na_Share_den,
    mkc_Share := mkc_Share,
    kc_Share := kc_Share,
    a_ShareD_initD := a_ShareD_initD,
    i_ShareD_initD := i_ShareD_initD,
    sf_Share := sf_Share,
    a_ShareD_addD := a_ShareD_addD,
    i_ShareD_addD := i_ShareD_addD,
    b_isinstance := PySem.W.mg_none_of X G b_isinstance,
    ic_Share := ic_Share,
    ty_Share := ty_Share,
    su_Share_NoneType := su_Share_NoneType,
    su_Share_bool := su_Share_bool,
    su_Share_int := su_Share_int,
    su_Share_str := su_Share_str,
    su_Share_list := su_Share_list,
    su_Share_tuple := su_Share_tuple,
    ha_Share := ha_Share,
    hm_Share := hm_Share,
    hn_get := hn_get,
    ht_get := ht_get,
    b_bool := PySem.W.mg_none_of X G b_bool,
    b_str := PySem.W.mg_none_of X G b_str,
    b_len := PySem.W.mg_none_of X G b_len,
    g_law_cell := PySem.W.mg_of X G g_law_cell,
    b_abs := PySem.W.mg_none_of X G b_abs,
    b_range := PySem.W.mg_none_of X G b_range,
    b_int := PySem.W.mg_none_of X G b_int,
    g_law_common := PySem.W.mg_of X G g_law_common,
    g_Unknown := PySem.W.mg_of X G g_Unknown,
    eg_BadShare := eg_BadShare,
    ek_BadShare := ek_BadShare,
    hd_BadShare := hd_BadShare,
    ha_BadShare := ha_BadShare,
    hm_BadShare := hm_BadShare,
    ic_Unknown := ic_Unknown,
    ty_Unknown := ty_Unknown,
    su_Unknown_of_BadShare := su_Unknown_of_BadShare,
    su_Unknown_of_Unknown := su_Unknown_of_Unknown,
    b_ValueError := PySem.W.mg_none_of X G b_ValueError,
    kt_BadShare_ValueError := kt_BadShare_ValueError,
    g_RowsError := PySem.W.mg_of X G g_RowsError,
    ic_RowsError := ic_RowsError,
    ty_RowsError := ty_RowsError,
    su_RowsError_of_BadShare := su_RowsError_of_BadShare,
    g_BadNumber := PySem.W.mg_of X G g_BadNumber,
    ic_BadNumber := ic_BadNumber,
    ty_BadNumber := ty_BadNumber,
    su_BadNumber_of_BadShare := su_BadNumber_of_BadShare,
    su_BadNumber_of_BadNumber := su_BadNumber_of_BadNumber,
    g_Impossible := PySem.W.mg_of X G g_Impossible,
    ic_Impossible := ic_Impossible,
    ty_Impossible := ty_Impossible,
    su_Impossible_of_BadShare := su_Impossible_of_BadShare,
    su_Impossible_of_Impossible := su_Impossible_of_Impossible,
    su_BadShare_of_BadShare := su_BadShare_of_BadShare,
    g_law_is := PySem.W.mg_of X G g_law_is,
    g_law_pool := PySem.W.mg_of X G g_law_pool,
    g_law_part := PySem.W.mg_of X G g_law_part,
    g_law_added := PySem.W.mg_of X G g_law_added,
    g_law_parts := PySem.W.mg_of X G g_law_parts,
    rd_Share := rd_Share,
    sga_Share := sga_Share,
    fc_Share_total := fc_Share_total,
    rc_Share_total := rc_Share_total,
    a_ShareD_strD := a_ShareD_strD,
    i_ShareD_strD := i_ShareD_strD,
    g_law_text := PySem.W.mg_of X G g_law_text,
    a_ShareD_boolD := a_ShareD_boolD,
    i_ShareD_boolD := i_ShareD_boolD,
    b_tuple := PySem.W.mg_none_of X G b_tuple,
    g_law_refused := PySem.W.mg_of X G g_law_refused,
    g_law := PySem.W.mg_of X G g_law }
  exact ⟨PySem.W.fnOf "law" "law" (defArgs s_law) (defBody s_law) (defScope s_law) .none kV_law dc_law pm_law an_law cd_law ct_law, fun s v => .of_eq rfl, fun base _ _ => law_sp (ok_law (base := base) FUEL T) pw⟩
theorem walk {l : PySem.W.OpenLaw} {q : Program} {loose : List Str} {XP : (Str → Option Value) → Heap → Prop} {YP : World → Heap → Prop} {d : DefRec} {K : Params → PySem.W.Frag} (hn : l.most = some 63) (hdf : d.params.defaults = [])
    (hY : ∀ (w : World) (h : Heap), YP w h → (K w.params).In h)
    (F : ∀ (w : World) (mg : Str → Option Value) (fa : Addr) (h : Heap), (K w.params).In h → h.Ns mainGlobals mg → mg d.name = some (.ref fa) →
      ∃ fd : FuncData, (∀ (s : Shared) (u : Value), BindsTo s fd ⟨[u], []⟩ [("script", u)]) ∧ ∀ base : Heap, (K w.params).In base → base.Ns mainGlobals mg → FnOk l.prog w (K w.params) mg base (L2.CX l.prog w) 5 fa fd ["script"] (spLaw (K w.params))) :
    PySem.W.WalkO q loose XP YP l.row.toRowW d [] (fun f vs => PySem.call f vs) :=
  L2.walk_of (n := 63) (k := 5) (x := "script") (CX := fun w => L2.CX l.prog w) (sp := fun w => spLaw (K w.params)) hn (by decide) hdf ⟨rfl, by decide, by decide⟩ hY F (fun _ _ a ns hl _ hS => ⟨a, ns, rfl, hS, hl, fun _ => rfl⟩) fun _ _ _ _ _ z => CX_false z
end K01
open PySem PySem.W PyProof.Rows
set_option maxRecDepth 100000 in
set_option maxHeartbeats 0 in
theorem PySem.Challenge.cw_unbrokenrows_k01_share_totals_and_texts_holds : PySem.Challenge.rw_unbrokenrows_k01_share_totals_and_texts.Holds := by
  w_on; o_law; k_head; (case hw => w_witness2)
  k_fill
  refine K01.walk (l := PySem.Challenge.rw_unbrokenrows_k01_share_totals_and_texts) rfl rfl (fun w h Y => PySem.W.kIn_of Y) ?F
  case F =>
    intro w mg fa h KX G hmg
    refine' K01.all_mk K01.law_true KX G hmg ?g_BadShare ?g_Share ?g_law_cell ?g_law_common ?g_Unknown ?g_RowsError ?g_BadNumber ?g_Impossible ?g_law_is ?g_law_pool ?g_law_part ?g_law_added ?g_law_parts ?g_law_text ?g_law_refused ?g_law ?a_ShareD_initD ?a_ShareD_addD ?fc_Share_total ?a_ShareD_strD ?a_ShareD_boolD ?rc_Share_total ?l_ShareD_initD ?c_ShareD_initD ?k_ShareD_initD ?t1_ShareD_initD ?t2_ShareD_initD ?t3_ShareD_initD ?l_ShareD_addD ?c_ShareD_addD ?k_ShareD_addD ?l_Share_total ?c_Share_total ?k_Share_total ?l_ShareD_boolD ?c_ShareD_boolD ?k_ShareD_boolD ?l_ShareD_strD ?c_ShareD_strD ?k_ShareD_strD ?l_law_cell ?c_law_cell ?k_law_cell ?l_law_pool ?c_law_pool ?k_law_pool ?l_law_part ?c_law_part ?k_law_part ?l_law_common ?c_law_common ?k_law_common ?l_law_added ?c_law_added ?k_law_added ?l_law_text ?c_law_text ?k_law_text ?l_law_is ?c_law_is ?k_law_is ?l_law_refused ?c_law_refused ?k_law_refused ?l_law_parts ?c_law_parts ?k_law_parts ?l_law ?c_law ?k_law ?xi_BadShare ?kc_BadShare ?bx_BadShare ?ty_BadShare ?b_gcd ?pg_Share ?hd_Share ?po_Share ?sa_Share ?na_Share_num ?na_Share_den ?mkc_Share ?kc_Share ?i_ShareD_initD ?sf_Share ?i_ShareD_addD ?b_isinstance ?ic_Share ?ty_Share ?su_Share_NoneType ?su_Share_bool ?su_Share_int ?su_Share_str ?su_Share_list ?su_Share_tuple ?ha_Share ?hm_Share ?hn_get ?ht_get ?b_bool ?b_str ?b_len ?b_abs ?b_range ?b_int ?eg_BadShare ?ek_BadShare ?hd_BadShare ?ha_BadShare ?hm_BadShare ?ic_Unknown ?ty_Unknown ?su_Unknown_of_BadShare ?su_Unknown_of_Unknown ?b_ValueError ?kt_BadShare_ValueError ?ic_RowsError ?ty_RowsError ?su_RowsError_of_BadShare ?ic_BadNumber ?ty_BadNumber ?su_BadNumber_of_BadShare ?su_BadNumber_of_BadNumber ?ic_Impossible ?ty_Impossible ?su_Impossible_of_BadShare ?su_Impossible_of_Impossible ?su_BadShare_of_BadShare ?rd_Share ?sga_Share ?i_ShareD_strD ?i_ShareD_boolD ?b_tuple
    (case g_BadShare => k_is)
    (case g_Share => k_is)
    (case g_law_cell => k_is)
    (case g_law_common => k_is)
    (case g_Unknown => k_is)
    (case g_RowsError => k_is)
    (case g_BadNumber => k_is)
    (case g_Impossible => k_is)
    (case g_law_is => k_is)
    (case g_law_pool => k_is)
    (case g_law_part => k_is)
    (case g_law_added => k_is)
    (case g_law_parts => k_is)
    (case g_law_text => k_is)
    (case g_law_refused => k_is)
    (case g_law => k_is)
    (case a_ShareD_initD => k_is)
    (case a_ShareD_addD => k_is)
    (case fc_Share_total => k_is)
    (case a_ShareD_strD => k_is)
    (case a_ShareD_boolD => k_is)
    (case rc_Share_total => k_is)
    (case l_ShareD_initD => k_is)
    (case c_ShareD_initD => k_is)
    (case k_ShareD_initD => k_is)
    (case t1_ShareD_initD => k_is)
    (case t2_ShareD_initD => rfl)
    (case t3_ShareD_initD => exact .cons ⟨_, rfl⟩ (.nil))
    (case l_ShareD_addD => k_is)
    (case c_ShareD_addD => k_is)
    (case k_ShareD_addD => k_is)
    (case l_Share_total => k_is)
    (case c_Share_total => k_is)
    (case k_Share_total => k_is)
    (case l_ShareD_boolD => k_is)
    (case c_ShareD_boolD => k_is)
    (case k_ShareD_boolD => k_is)
    (case l_ShareD_strD => k_is)
    (case c_ShareD_strD => k_is)
    (case k_ShareD_strD => k_is)
    (case l_law_cell => k_is)
    (case c_law_cell => k_is)
    (case k_law_cell => k_is)
    (case l_law_pool => k_is)
    (case c_law_pool => k_is)
    (case k_law_pool => k_is)
    (case l_law_part => k_is)
    (case c_law_part => k_is)
    (case k_law_part => k_is)
    (case l_law_common => k_is)
    (case c_law_common => k_is)
    (case k_law_common => k_is)
    (case l_law_added => k_is)
    (case c_law_added => k_is)
    (case k_law_added => k_is)
    (case l_law_text => k_is)
    (case c_law_text => k_is)
    (case k_law_text => k_is)
    (case l_law_is => k_is)
    (case c_law_is => k_is)
    (case k_law_is => k_is)
    (case l_law_refused => k_is)
    (case c_law_refused => k_is)
    (case k_law_refused => k_is)
    (case l_law_parts => k_is)
    (case c_law_parts => k_is)
    (case k_law_parts => k_is)
    (case l_law => k_is)
    (case c_law => k_is)
    (case k_law => k_is)
    (case xi_BadShare => k_exc)
    (case kc_BadShare => k_is)
    (case bx_BadShare => k_is)
    (case ty_BadShare => k_is)
    (case b_gcd => k_is)
    (case pg_Share => k_is)
    (case hd_Share => k_is)
    (case po_Share => k_is)
    (case sa_Share => k_is)
    (case na_Share_num => k_is)
    (case na_Share_den => k_is)
    (case mkc_Share => k_is)
    (case kc_Share => k_is)
    (case i_ShareD_initD => k_is)
    (case sf_Share => k_is)
    (case i_ShareD_addD => k_is)
    (case b_isinstance => k_is)
    (case ic_Share => k_is)
    (case ty_Share => k_is)
    (case su_Share_NoneType => k_is)
    (case su_Share_bool => k_is)
    (case su_Share_int => k_is)
    (case su_Share_str => k_is)
    (case su_Share_list => k_is)
    (case su_Share_tuple => k_is)
    (case ha_Share => k_is)
    (case hm_Share => k_is)
    (case hn_get => k_is)
    (case ht_get => k_is)
    (case b_bool => k_is)
    (case b_str => k_is)
    (case b_len => k_is)
    (case b_abs => k_is)
    (case b_range => k_is)
    (case b_int => k_is)
    (case eg_BadShare => k_is)
    (case ek_BadShare => k_is)
    (case hd_BadShare => k_is)
    (case ha_BadShare => k_is)
    (case hm_BadShare => k_is)
    (case ic_Unknown => k_is)
    (case ty_Unknown => k_is)
    (case su_Unknown_of_BadShare => k_is)
    (case su_Unknown_of_Unknown => k_is)
    (case b_ValueError => k_is)
    (case kt_BadShare_ValueError => k_is)
    (case ic_RowsError => k_is)
    (case ty_RowsError => k_is)
    (case su_RowsError_of_BadShare => k_is)
    (case ic_BadNumber => k_is)
    (case ty_BadNumber => k_is)
    (case su_BadNumber_of_BadShare => k_is)
    (case su_BadNumber_of_BadNumber => k_is)
    (case ic_Impossible => k_is)
    (case ty_Impossible => k_is)
    (case su_Impossible_of_BadShare => k_is)
    (case su_Impossible_of_Impossible => k_is)
    (case su_BadShare_of_BadShare => k_is)
    (case rd_Share => k_is)
    (case sga_Share => k_is)
    (case i_ShareD_strD => k_is)
    (case i_ShareD_boolD => k_is)
    (case b_tuple => k_is)

