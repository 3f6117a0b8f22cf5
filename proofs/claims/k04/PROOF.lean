import PyProof.Rows.All
import PySem.Str
import PySem.Builtin.Str.Common
import PySem.Builtin.Int.W1All
import Wide.All
import OpenK.AllK
import Wide.FinOn
import HandS.ForMost
import HandS.ForExc
import HandS.ClsMeth
import HandS.ExcIs
import HandS.ExcField
import HandS.Small
import KE.KCallOwn
import HandS.TupAny
import HandS.IsInst
import HandS.Gcd
import HandS.Wide
import HandS.Style
import HandS.FStr
import HandS.Deep
import HandS.WordsDict
import HandS.Comp
import HandS.CallSlots
import HandS.Defaults
import HandS.TryOnly
import HandS.Ends
import HandS.ExcInit
import HandS.Text
import HandS.Replace
import HandS.StrMore
import HandS.TupLe
import HandS.IterVal
import HandS.OwnIter
import KE.SortData
import HandS.SortKw
import KE.DatumOrd
import KE.KxField
import PyProof.FString3
import HandS.Star
import HandS.More
import PyProof.Rows.CountFlat
import Wide.Txt
import PySem.Challenge.RW_unbrokenrows_k04_table_texts
set_option autoImplicit true
set_option linter.all false
/-! a data evaluator: Python's constructs over plain data, with owned lists -/
namespace Ed
open PySem

abbrev Key := Sum Int Str

inductive D where
  | non
  | bl (b : Bool)
  | int (i : Int)
  | str (s : Str)
  | lst (xs : List D)
  | tup (xs : List D)
  | dct (kvs : List (Key × D))
  | ins (c : Nat) (fs : List (Nat × D))
  | scr (ns : List Int)

/-- an exception: its class, its fields -/
structure Xc where
  c : Nat
  fs : List (Nat × D)

inductive Sl where
  | emp
  | val (d : D)
  | own (d : D)
  | bor (d : D)
  | slf (c : Nat) (fs : List (Nat × D))
  | exn (x : Xc)

abbrev Env := List Sl

inductive R (α : Type) where
  | ok (a : α)
  | exc (x : Xc) (Γ : Env)
  | bad

def R.bind {α β : Type} : R α → (α → R β) → R β
  | .ok a, f => f a
  | .exc x Γ, _ => .exc x Γ
  | .bad, _ => .bad
def R.of {α : Type} : Option α → R α
  | some a => .ok a
  | none => .bad

inductive DV where
  | fz (d : D)
  | fr (d : D)
def DV.d : DV → D
  | .fz d => d
  | .fr d => d
inductive Ctl where
  | nx
  | brk
  | cnt
  | ret (o : DV)
inductive PV where
  | pn (i : Nat)
  | pd (d : D)

abbrev EV := Env → R (D × Env)
abbrev TV := Env → R (Bool × Env)
abbrev QV := Env → R (PV × Env)
abbrev AV := Env → R (List PV × Env)
abbrev LV := Env → R (List D × Env)
abbrev SV := Env → R (Ctl × Env)
abbrev FV := List D → R DV

def get : Env → Nat → Sl
  | [], _ => .emp
  | s :: _, 0 => s
  | _ :: r, n + 1 => get r n
def put : Env → Nat → Sl → Env
  | [], _, _ => []
  | _ :: r, 0, t => t :: r
  | s :: r, n + 1, t => s :: put r n t
def look : Sl → Option D
  | .val d => some d
  | .own d => some d
  | .bor d => some d
  | _ => none
def rd (Γ : Env) : PV → Option D
  | .pd d => some d
  | .pn i => look (get Γ i)
/-- a slot's value made frozen -/
def frzS : Sl → Option (D × Sl)
  | .val d => some (d, .val d)
  | .own d => some (d, .val d)
  | _ => none

/-! expressions -/
def eC (d : D) : EV := fun Γ => .ok (d, Γ)
def eN (i : Nat) : EV := fun Γ => match frzS (get Γ i) with
  | some (d, s) => .ok (d, put Γ i s)
  | none => .bad
def pN (i : Nat) : QV := fun Γ => match look (get Γ i) with
  | some _ => .ok (.pn i, Γ)
  | none => .bad
def pE (e : EV) : QV := fun Γ => (e Γ).bind fun (d, Γ') => .ok (.pd d, Γ')
def eU (f : D → Option D) (a : QV) : EV := fun Γ => (a Γ).bind fun (p, Γ') => match rd Γ' p with
  | some d => (R.of (f d)).bind fun z => .ok (z, Γ')
  | none => .bad
def eB (f : D → D → Option D) (a b : QV) : EV := fun Γ => (a Γ).bind fun (p, Γ1) => (b Γ1).bind fun (q, Γ2) => match rd Γ2 p, rd Γ2 q with
  | some d, some e => (R.of (f d e)).bind fun z => .ok (z, Γ2)
  | _, _ => .bad
def aNil : AV := fun Γ => .ok ([], Γ)
def aCons (a : QV) (r : AV) : AV := fun Γ => (a Γ).bind fun (p, Γ1) => (r Γ1).bind fun (ps, Γ2) => .ok (p :: ps, Γ2)
def rds (Γ : Env) : List PV → Option (List D)
  | [] => some []
  | p :: ps => match rd Γ p, rds Γ ps with
    | some d, some ds => some (d :: ds)
    | _, _ => none
/-- a built-in of several arguments -/
def eF (f : List D → Option D) (a : AV) : EV := fun Γ => (a Γ).bind fun (ps, Γ') => match rds Γ' ps with
  | some ds => (R.of (f ds)).bind fun z => .ok (z, Γ')
  | none => .bad
def lNil : LV := fun Γ => .ok ([], Γ)
def lCons (a : EV) (r : LV) : LV := fun Γ => (a Γ).bind fun (d, Γ1) => (r Γ1).bind fun (ds, Γ2) => .ok (d :: ds, Γ2)
def seqMax : Nat := 16777216
def eTup (r : LV) : EV := fun Γ => (r Γ).bind fun (ds, Γ') => if ds.length ≤ seqMax then .ok (.tup ds, Γ') else .bad
/-- a new list (or dict): as it comes, owned -/
def nLst (r : LV) : EV := fun Γ => (r Γ).bind fun (ds, Γ') => if ds.length ≤ seqMax then .ok (.lst ds, Γ') else .bad
def eAnd (a b : TV) : TV := fun Γ => (a Γ).bind fun (c, Γ1) => if c then b Γ1 else .ok (false, Γ1)
def eOr (a b : TV) : TV := fun Γ => (a Γ).bind fun (c, Γ1) => if c then .ok (true, Γ1) else b Γ1
def eNot (a : TV) : TV := fun Γ => (a Γ).bind fun (c, Γ1) => .ok (!c, Γ1)
def eIf (t : TV) (a b : EV) : EV := fun Γ => (t Γ).bind fun (c, Γ1) => if c then a Γ1 else b Γ1
/-- a bool as a value -/
def eT (t : TV) : EV := fun Γ => (t Γ).bind fun (c, Γ1) => .ok (.bl c, Γ1)
/-- a test of an expression that gives a bool -/
def tE (e : EV) : TV := fun Γ => (e Γ).bind fun (d, Γ1) => match d with
  | .bl b => .ok (b, Γ1)
  | _ => .bad
def truth : D → Option Bool
  | .non => some false
  | .bl b => some b
  | .int i => some (i != 0)
  | .str s => if s.length ≤ seqMax then some ((s.length : Int) != 0) else none
  | .lst xs => some (!xs.isEmpty)
  | .tup xs => some (!xs.isEmpty)
  | _ => none
def tTru (a : QV) : TV := fun Γ => (a Γ).bind fun (p, Γ') => match rd Γ' p with
  | some d => (R.of (truth d)).bind fun z => .ok (z, Γ')
  | none => .bad

/-! calls: modes, true: lent -/
def prep (Γ : Env) : List Bool → List PV → Option (List D × Env)
  | [], [] => some ([], Γ)
  | m :: ms, p :: ps => match p with
    | .pd d => match prep Γ ms ps with
      | some (ds, Γ') => some (d :: ds, Γ')
      | none => none
    | .pn i => if m then (match look (get Γ i), prep Γ ms ps with
        | some d, some (ds, Γ') => some (d :: ds, Γ')
        | _, _ => none)
      else (match frzS (get Γ i) with
        | some (d, s) => (match prep (put Γ i s) ms ps with
          | some (ds, Γ') => some (d :: ds, Γ')
          | none => none)
        | none => none)
  | _, _ => none
def callF (F : FV) (ms : List Bool) (ps : List PV) (Γ : Env) : R (DV × Env) := match prep Γ ms ps with
  | some (ds, Γ') => (match F ds with
    | .ok o => .ok (o, Γ')
    | .exc x _ => .exc x Γ'
    | .bad => .bad)
  | none => .bad
def eCall (F : FV) (ms : List Bool) (a : AV) : EV := fun Γ => (a Γ).bind fun (ps, Γ1) => (callF F ms ps Γ1).bind fun (o, Γ2) => .ok (o.d, Γ2)
/-- a call whose new list is kept as owned -/
def nCall (F : FV) (ms : List Bool) (a : AV) : EV := fun Γ => (a Γ).bind fun (ps, Γ1) => (callF F ms ps Γ1).bind fun (o, Γ2) => match o with
  | .fr d => .ok (d, Γ2)
  | .fz _ => .bad
/-- except X as n (slot i): ex says of each class whether it is an X -/
def noX (Γ : Env) : Bool := Γ.all fun s => match s with
  | .exn _ => false
  | _ => true
def sTry (i : Nat) (ex : Nat → Option Bool) (b : Env → R (Ctl × Env)) (s : Env → R (Ctl × Env)) : Env → R (Ctl × Env) := fun Γ => match b Γ with
  | .exc x Γ' => (match ex x.c with
    | some true => if (i < Γ'.length) ∧ noX Γ' = true then (match s (put Γ' i (.exn x)) with
      | .ok (c, Γ2) => .ok (c, put Γ2 i .emp)
      | _ => .bad) else .bad
    | some false => .exc x Γ'
    | none => .bad)
  | r => r
/-- except X: -/
def sTry0 (ex : Nat → Option Bool) (b : Env → R (Ctl × Env)) (s : Env → R (Ctl × Env)) : Env → R (Ctl × Env) := fun Γ => match b Γ with
  | .exc x Γ' => (match ex x.c with
    | some true => (match s Γ' with
      | .ok r => .ok r
      | _ => .bad)
    | some false => .exc x Γ'
    | none => .bad)
  | r => r
/-- isinstance of a caught error; its field -/
def eIsE (i : Nat) (is : Nat → Option Bool) : EV := fun Γ => match get Γ i with
  | .exn x => (match if x.fs.isEmpty then is x.c else none with
    | some b => .ok (.bl b, Γ)
    | none => .bad)
  | _ => .bad
def eXf (cs : List Nat) (i f : Nat) : EV := fun Γ => match get Γ i with
  | .exn x => (match if cs.contains x.c then x.fs.lookup f else none with
    | some d => .ok (d, Γ)
    | none => .bad)
  | _ => .bad
/-- o.m(..): F takes the object first -/
def eMeth (c : Nat) (F : FV) (ms : List Bool) (o : EV) (a : AV) : EV := fun Γ => (o Γ).bind fun (d, Γ0) => match d with
  | .ins c' _ => if c' = c then (a Γ0).bind fun (ps, Γ1) => (callF F (false :: ms) (.pd d :: ps) Γ1).bind fun (o, Γ2) => .ok (o.d, Γ2) else .bad
  | _ => .bad
def nMeth (c : Nat) (F : FV) (ms : List Bool) (o : EV) (a : AV) : EV := fun Γ => (o Γ).bind fun (d, Γ0) => match d with
  | .ins c' _ => if c' = c then (a Γ0).bind fun (ps, Γ1) => (callF F (false :: ms) (.pd d :: ps) Γ1).bind fun (o, Γ2) => (match o with
    | .fr d => .ok (d, Γ2)
    | .fz _ => .bad) else .bad
  | _ => .bad
def fld (c f : Nat) : D → Option D
  | .ins c' fs => if c' = c then fs.lookup f else none
  | _ => none
def eFld (c f : Nat) (o : EV) : EV := fun Γ => (o Γ).bind fun (d, Γ') => (R.of (fld c f d)).bind fun z => .ok (z, Γ')

/-- o1 op o2, both of the class c -/
def eOwn2 (c : Nat) (F : FV) (a b : EV) : EV := fun Γ => (a Γ).bind fun (x, Γ1) => (b Γ1).bind fun (y, Γ2) => match x, y with
  | .ins c1 _, .ins c2 _ => if c1 = c ∧ c2 = c then (callF F [false, false] [.pd x, .pd y] Γ2).bind fun (o, Γ3) => .ok (o.d, Γ3) else .bad
  | _, _ => .bad
def eOwn1 (c : Nat) (F : FV) (a : EV) : EV := fun Γ => (a Γ).bind fun (x, Γ1) => match x with
  | .ins c1 _ => if c1 = c then (callF F [false] [.pd x] Γ1).bind fun (o, Γ3) => .ok (o.d, Γ3) else .bad
  | _ => .bad
def isB : D → Bool
  | .bl _ => true
  | _ => false
def isS : D → Bool
  | .str _ => true
  | _ => false
def isL : D → Bool
  | .int n => decide (0 ≤ n) && decide (n < 2 ^ 62)
  | _ => false
/-- bool(o), str(o), len(o): what comes back is of the kind k -/
def eOwnC (c : Nat) (k : D → Bool) (F : FV) (a : EV) : EV := fun Γ => (a Γ).bind fun (x, Γ1) => match x with
  | .ins c1 _ => if c1 = c then (callF F [false] [.pd x] Γ1).bind fun (o, Γ3) => (match o with
    | .fz d => if k d then .ok (d, Γ3) else .bad
    | .fr _ => .bad) else .bad
  | _ => .bad
/-- o[i] -/
def eOwnIx (c : Nat) (F : FV) (a : EV) (b : QV) : EV := fun Γ => (a Γ).bind fun (x, Γ1) => (b Γ1).bind fun (q, Γ2) => match x with
  | .ins c1 _ => if c1 = c then (callF F [false, true] [.pd x, q] Γ2).bind fun (o, Γ3) => .ok (o.d, Γ3) else .bad
  | _ => .bad
/-- x in o -/
def eOwnIn (c : Nat) (F : FV) (a : QV) (b : EV) : EV := fun Γ => (a Γ).bind fun (q, Γ1) => (b Γ1).bind fun (x, Γ2) => match x with
  | .ins c1 _ => if c1 = c then (callF F [false, true] [.pd x, q] Γ2).bind fun (o, Γ3) => (match o with
    | .fz d => if isB d then .ok (d, Γ3) else .bad
    | .fr _ => .bad) else .bad
  | _ => .bad

/-! statements -/
def sNext : SV := fun Γ => .ok (.nx, Γ)
def sBrk : SV := fun Γ => .ok (.brk, Γ)
def sCnt : SV := fun Γ => .ok (.cnt, Γ)
def sSeq (a b : SV) : SV := fun Γ => (a Γ).bind fun (c, Γ') => match c with
  | .nx => b Γ'
  | c => .ok (c, Γ')
def sSet (i : Nat) (e : EV) : SV := fun Γ => (e Γ).bind fun (d, Γ') => .ok (.nx, put Γ' i (.val d))
def sOwn (i : Nat) (e : EV) : SV := fun Γ => (e Γ).bind fun (d, Γ') => .ok (.nx, put Γ' i (.own d))
def sDrop (e : EV) : SV := fun Γ => (e Γ).bind fun (_, Γ') => .ok (.nx, Γ')
def sRet (e : EV) : SV := fun Γ => (e Γ).bind fun (d, Γ') => .ok (.ret (.fz d), Γ')
def sRetN : SV := fun Γ => .ok (.ret (.fz .non), Γ)
def sRetO (e : EV) : SV := fun Γ => (e Γ).bind fun (d, Γ') => .ok (.ret (.fr d), Γ')
/-- return x, x an owned list -/
def sRetX (i : Nat) : SV := fun Γ => match get Γ i with
  | .own d => .ok (.ret (.fr d), Γ)
  | .val d => .ok (.ret (.fz d), Γ)
  | _ => .bad
def sIf (t : TV) (a b : SV) : SV := fun Γ => (t Γ).bind fun (c, Γ') => if c then a Γ' else b Γ'
/-- x.append(e), x owned -/
def sApp (i : Nat) (e : EV) : SV := fun Γ => match look (get Γ i) with
  | some (.lst _) => (e Γ).bind fun (d, Γ') => (match get Γ' i with
    | .own (.lst xs) => if xs.length < seqMax then .ok (.nx, put Γ' i (.own (.lst (xs ++ [d])))) else .bad
    | _ => .bad)
  | _ => .bad
/-- x[j] = e -/
def ixN (n : Nat) (j : Int) : Option Nat := if 0 ≤ j then (if j < n then some j.toNat else none) else if -(n : Int) ≤ j then some (n + j).toNat else none
def sPutI (i : Nat) (j : QV) (e : EV) : SV := fun Γ => (e Γ).bind fun (d, Γ1) => match look (get Γ1 i) with
  | some _ => (j Γ1).bind fun (p, Γ2) => (match rd Γ2 p, get Γ2 i with
    | some (.int k), .own (.lst xs) => (match ixN xs.length k with
      | some m => .ok (.nx, put Γ2 i (.own (.lst (xs.set m d))))
      | none => .bad)
    | _, _ => .bad)
  | none => .bad
def sAug (i : Nat) (f : D → D → Option D) (e : QV) : SV := fun Γ => match look (get Γ i) with
  | some x => (e Γ).bind fun (p, Γ') => (match rd Γ' p with
    | some y => (R.of (f x y)).bind fun z => .ok (.nx, put Γ' i (.val z))
    | none => .bad)
  | none => .bad
/-- targets of a loop or an assignment -/
abbrev GV := D → Env → Option Env
def gN (i : Nat) : GV := fun d Γ => some (put Γ i (.val d))
def gs : List GV → List D → Env → Option Env
  | [], [], Γ => some Γ
  | g :: r, d :: ds, Γ => match g d Γ with
    | some Γ' => gs r ds Γ'
    | none => none
  | _, _, _ => none
def gT (l : List GV) : GV := fun d Γ => match d with
  | .tup ds => gs l ds Γ
  | .lst ds => gs l ds Γ
  | _ => none
def sAsg (g : GV) (e : EV) : SV := fun Γ => (e Γ).bind fun (d, Γ') => match g d Γ' with
  | some Γ2 => .ok (.nx, Γ2)
  | none => .bad
def forL (g : GV) (b : SV) : List D → Env → R (Ctl × Env)
  | [], Γ => .ok (.nx, Γ)
  | d :: ds, Γ => match g d Γ with
    | none => .bad
    | some Γ1 => match b Γ1 with
      | .ok (.nx, Γ2) => forL g b ds Γ2
      | .ok (.cnt, Γ2) => forL g b ds Γ2
      | .ok (.brk, Γ2) => .ok (.nx, Γ2)
      | .ok (.ret o, Γ2) => .ok (.ret o, Γ2)
      | .exc x Γ2 => .exc x Γ2
      | .bad => .bad
def items : D → Option (List D)
  | .lst xs => some xs
  | .tup xs => some xs
  | _ => none
/-- what is walked: a value's items -/
def iSeq (e : EV) : LV := fun Γ => (e Γ).bind fun (d, Γ') => (R.of (items d)).bind fun ds => .ok (ds, Γ')
/-- a name's items: what is lent stays lent -/
def stay : Sl → Option (D × Sl)
  | .val d => some (d, .val d)
  | .own d => some (d, .val d)
  | .bor d => some (d, .bor d)
  | _ => none
def iN (i : Nat) : LV := fun Γ => match stay (get Γ i) with
  | some (d, s) => (R.of (items d)).bind fun ds => .ok (ds, put Γ i s)
  | none => .bad
def rngL (lo : Int) (n : Nat) : List D := (List.range n).map fun (k : Nat) => .int (lo + k)
def rngB (i : Int) : Bool := decide (-(2 ^ 62) ≤ i) && decide (i < 2 ^ 62)
def iRg1 (a : QV) : LV := fun Γ => (a Γ).bind fun (p, Γ') => match rd Γ' p with
  | some (.int n) => if rngB n then .ok (rngL 0 n.toNat, Γ') else .bad
  | _ => .bad
def iRg2 (a b : QV) : LV := fun Γ => (a Γ).bind fun (p, Γ1) => (b Γ1).bind fun (q, Γ2) => match rd Γ2 p, rd Γ2 q with
  | some (.int m), some (.int n) => if rngB m && rngB n then .ok (rngL m (n - m).toNat, Γ2) else .bad
  | _, _ => .bad
def sFor (g : GV) (it : LV) (b : SV) : SV := fun Γ => (it Γ).bind fun (ds, Γ') => forL g b ds Γ'
/-- while, at most n turns -/
def whl (t : TV) (b : SV) : Nat → Env → R (Ctl × Env)
  | 0, _ => .bad
  | n + 1, Γ => (t Γ).bind fun (c, Γ1) => if c then (match b Γ1 with
      | .ok (.nx, Γ2) => whl t b n Γ2
      | .ok (.cnt, Γ2) => whl t b n Γ2
      | .ok (.brk, Γ2) => .ok (.nx, Γ2)
      | .ok (.ret o, Γ2) => .ok (.ret o, Γ2)
      | .exc x Γ2 => .exc x Γ2
      | .bad => .bad) else .ok (.nx, Γ1)
def sWhl (n : Nat) (t : TV) (b : SV) : SV := fun Γ => whl t b n Γ
def sPar (i j : Nat) (a b : EV) : SV := fun Γ => (a Γ).bind fun (x, Γ1) => (b Γ1).bind fun (y, Γ2) => .ok (.nx, put (put Γ2 i (.val x)) j (.val y))
/-- self.f = e, self in the making at slot 0 -/
def putFd (f : Nat) (v : D) : List (Nat × D) → List (Nat × D)
  | [] => [(f, v)]
  | (g, x) :: r => if g = f then (g, v) :: r else (g, x) :: putFd f v r
def sFld (c f : Nat) (e : EV) : SV := fun Γ => (e Γ).bind fun (d, Γ') => match get Γ' 0 with
  | .slf c' fs => if c' = c ∧ fs.length < 900 then .ok (.nx, put Γ' 0 (.slf c' (putFd f d fs))) else .bad
  | _ => .bad
/-- raise X(..) -/
def sRaise (c : Nat) (fs : List Nat) (r : LV) : SV := fun Γ => (r Γ).bind fun (ds, Γ') => .exc ⟨c, fs.zip ds⟩ Γ'

/-! a def -/
def inSl : Bool → D → Sl
  | true, .lst xs => .bor (.lst xs)
  | true, .dct xs => .bor (.dct xs)
  | _, d => .val d
def ins0 : List Bool → List D → Env
  | m :: ms, d :: ds => inSl m d :: ins0 ms ds
  | _, _ => []
def pad : Nat → Env
  | 0 => []
  | n + 1 => .emp :: pad n
def fin : R (Ctl × Env) → R DV
  | .ok (.nx, _) => .ok (.fz .non)
  | .ok (.ret o, _) => .ok o
  | .ok (.brk, _) => .bad
  | .ok (.cnt, _) => .bad
  | .exc x _ => .exc x []
  | .bad => .bad
/-- n: how many further locals -/
def runF (ms : List Bool) (n : Nat) (b : SV) : FV := fun ds => if ds.length = ms.length then fin (b (ins0 ms ds ++ pad n)) else .bad
/-- an __init__: the object's fields -/
def finI (c : Nat) : R (Ctl × Env) → R (List (Nat × D))
  | .ok (.nx, Γ) => match get Γ 0 with
    | .slf c' fs => if c' = c then .ok fs else .bad
    | _ => .bad
  | .ok (.ret _, _) => .bad
  | .ok (.brk, _) => .bad
  | .ok (.cnt, _) => .bad
  | .exc x _ => .exc x []
  | .bad => .bad
def runI (c : Nat) (ms : List Bool) (n : Nat) (b : SV) : List D → R (List (Nat × D)) := fun ds => if ds.length = ms.length then finI c (b (.slf c [] :: (ins0 ms ds ++ pad n))) else .bad
/-- C(..) -/
def mkF (c : Nat) (F : List D → R (List (Nat × D))) : FV := fun ds => match F ds with
  | .ok fs => .ok (.fz (.ins c fs))
  | .exc x _ => .exc x []
  | .bad => .bad
end Ed

set_option autoImplicit true
set_option linter.all false
/-! Python's operations over data -/
namespace Ed
open PySem

def nLt (a : Int) (b : Nat) : Bool := decide (a.natAbs < 2 ^ b)
def mulOk (a b : Int) : Bool := nLt a 64 || nLt b 64 || (nLt a 8000 && nLt b 8000)
def dAdd : D → D → Option D
  | .int a, .int b => some (.int (a + b))
  | .str a, .str b => if a.length + b.length ≤ seqMax then some (.str (a ++ b)) else none
  | .lst a, .lst b => if a.length + b.length ≤ seqMax then some (.lst (a ++ b)) else none
  | .tup a, .tup b => if a.length + b.length ≤ seqMax then some (.tup (a ++ b)) else none
  | _, _ => none
def dCat : D → D → Option D
  | .lst a, .lst b => if a.length + b.length ≤ seqMax then some (.lst (a ++ b)) else none
  | _, _ => none
def dSub : D → D → Option D
  | .int a, .int b => some (.int (a - b))
  | _, _ => none
def dMul : D → D → Option D
  | .int a, .int b => if mulOk a b then some (.int (a * b)) else none
  | _, _ => none
def dDiv : D → D → Option D
  | .int a, .int b => if b ≠ 0 ∧ b.natAbs < 2 ^ 8000 then some (.int (a.fdiv b)) else none
  | _, _ => none
def dMod : D → D → Option D
  | .int a, .int b => if b ≠ 0 then some (.int (a.fmod b)) else none
  | _, _ => none
def dPow : D → D → Option D
  | .int a, .int b => if 0 ≤ b ∧ b ≤ 1000000 ∧ a.natAbs < 2 ^ 64 then some (.int (a ^ b.toNat)) else none
  | _, _ => none
def dNeg : D → Option D
  | .int a => some (.int (-a))
  | _ => none
def dAbs : D → Option D
  | .int i => some (.int (if i < 0 then -i else i))
  | _ => none
def dInt : D → Option D
  | .int i => some (.int i)
  | .bl b => some (.int (if b then 1 else 0))
  | _ => none
def dBool : D → Option D
  | .int i => some (.bl (i != 0))
  | .bl b => some (.bl b)
  | _ => none
def dStr : D → Option D
  | .int i => if i.natAbs < 2 ^ 1900 then some (.str (toString i)) else none
  | .str s => some (.str s)
  | _ => none
def dLen : D → Option D
  | .str s => if s.length ≤ seqMax then some (.int s.length) else none
  | .lst xs => some (.int xs.length)
  | .tup xs => some (.int xs.length)
  | .scr xs => some (.int xs.length)
  | .dct xs => some (.int xs.length)
  | _ => none
def dLt : D → D → Option D
  | .int a, .int b => some (.bl (decide (a < b)))
  | _, _ => none
def dLe : D → D → Option D
  | .int a, .int b => some (.bl (decide (a ≤ b)))
  | _, _ => none
def dGt : D → D → Option D
  | .int a, .int b => some (.bl (decide (b < a)))
  | _, _ => none
def dGe : D → D → Option D
  | .int a, .int b => some (.bl (decide (b ≤ a)))
  | _, _ => none
mutual
def deq : D → D → Bool
  | .non, .non => true
  | .bl a, .bl b => a == b
  | .bl a, .int j => (if a then 1 else 0) == j
  | .int i, .bl b => i == (if b then 1 else 0)
  | .int i, .int j => i == j
  | .str x, .str y => x == y
  | .lst xs, .lst ys => deqs xs ys
  | .tup xs, .tup ys => deqs xs ys
  | _, _ => false
def deqs : List D → List D → Bool
  | [], [] => true
  | x :: xs, y :: ys => deq x y && deqs xs ys
  | _, _ => false
end
/-- plain data, at most n deep -/
def okDat : Nat → D → Bool
  | _, .non => true
  | _, .bl _ => true
  | _, .int _ => true
  | _, .str s => s.cps.all (· < 0x110000)
  | n + 1, .lst xs => xs.all (okDat n)
  | n + 1, .tup xs => xs.all (okDat n)
  | _, _ => false
def sca : D → D → Bool
  | .non, .non => true | .non, .int _ => true | .int _, .non => true | .non, .bl _ => true | .bl _, .non => true | .non, .str _ => true | .str _, .non => true
  | .int _, .int _ => true | .bl _, .bl _ => true | .str _, .str _ => true
  | .int _, .str _ => true | .str _, .int _ => true | .bl _, .str _ => true | .str _, .bl _ => true
  | _, _ => false
def dEq (a b : D) : Option D := if sca a b || (okDat 60 a && okDat 60 b) then some (.bl (deq a b)) else none
def dNe (a b : D) : Option D := if sca a b || (okDat 60 a && okDat 60 b) then some (.bl (!deq a b)) else none
def flat : D → Bool
  | .non => true | .bl _ => true | .int _ => true | .str _ => true
  | _ => false
/-- among flat items; one sign in a text; a key in a dict -/
def isIn (x : D) : D → Option Bool
  | .lst ys => if flat x && ys.all flat then some (ys.any fun y => deq y x) else if okDat 60 x && okDat 60 (.lst ys) then some (ys.any fun y => deq y x) else none
  | .tup ys => if flat x && ys.all flat then some (ys.any fun y => deq y x) else none
  | .str z => match x with
    | .str c => if c.length = 1 then some (decide (c.cps.getD 0 0 ∈ z.cps.toList)) else none
    | _ => none
  | _ => none
def dIn (x y : D) : Option D := (isIn x y).map .bl
def dNin (x y : D) : Option D := (isIn x y).map fun b => .bl (!b)
def dIsN (x y : D) : Option D := match y with
  | .non => match x with
    | .non => some (.bl true)
    | _ => some (.bl false)
  | _ => none
def dNotN (x y : D) : Option D := match y with
  | .non => match x with
    | .non => some (.bl false)
    | _ => some (.bl true)
  | _ => none
def at1 {α : Type} (xs : List α) (i : Int) : Option α := (ixN xs.length i).bind fun j => xs[j]?
def dIx : D → D → Option D
  | .lst xs, .int i => at1 xs i
  | .tup xs, .int i => at1 xs i
  | .scr xs, .int i => (at1 xs i).map .int
  | .str z, .int i => if z.length ≤ seqMax then (at1 z.cps.toList i).map fun c => .str ⟨#[c]⟩ else none
  | _, _ => none
def slI (n d : Nat) : Option Int → Nat
  | none => d
  | some v => if v < 0 then (v + (n : Int)).toNat else min v.toNat n
def cut {α : Type} (xs : List α) (lo hi : Option Int) : List α := (xs.drop (slI xs.length 0 lo)).take (slI xs.length xs.length hi - slI xs.length 0 lo)
/-- a slice's list -/
def dCutL : D → Option Int → Option Int → Option D
  | .lst xs, lo, hi => some (.lst (cut xs lo hi))
  | .scr xs, lo, hi => some (.lst ((cut xs lo hi).map .int))
  | _, _, _ => none
def dCut : D → Option Int → Option Int → Option D
  | .tup xs, lo, hi => some (.tup (cut xs lo hi))
  | .str z, lo, hi => if z.length ≤ seqMax then some (.str ⟨(cut z.cps.toList lo hi).toArray⟩) else none
  | .lst xs, lo, hi => some (.lst (cut xs lo hi))
  | .scr xs, lo, hi => some (.lst ((cut xs lo hi).map .int))
  | _, _, _ => none
def oPart : Option QV → Env → R (Option Int × Env)
  | none, Γ => .ok (none, Γ)
  | some q, Γ => (q Γ).bind fun (p, Γ') => match rd Γ' p with
    | some (.int i) => .ok (some i, Γ')
    | _ => .bad
def eSl (f : D → Option Int → Option Int → Option D) (a : QV) (lo hi : Option QV) : EV := fun Γ => (a Γ).bind fun (p, Γ1) => (oPart lo Γ1).bind fun (l, Γ2) => (oPart hi Γ2).bind fun (h, Γ3) =>
  match rd Γ3 p with
  | some d => (R.of (f d l h)).bind fun z => .ok (z, Γ3)
  | none => .bad
def dRev : D → Option D
  | .lst xs => some (.lst xs.reverse)
  | _ => none
def dGcd : List D → Option D
  | [.int a, .int b] => some (.int ((Nat.gcd a.natAbs b.natAbs : Nat) : Int))
  | _ => none
def o1 (f : D → Option D) : List D → Option D
  | [d] => f d
  | _ => none
def dStrI : D → Option D
  | .int i => if i.natAbs < 2 ^ 1900 then some (.str (toString i)) else none
  | _ => none
inductive Ty where
  | tInt | tBool | tStr | tList | tTuple
def dIsT : Ty → D → Option D
  | .tInt, .int _ => some (.bl true)
  | .tInt, .bl _ => some (.bl true)
  | .tBool, .bl _ => some (.bl true)
  | .tStr, .str _ => some (.bl true)
  | .tList, .lst _ => some (.bl true)
  | .tTuple, .tup _ => some (.bl true)
  | _, .ins _ _ => none
  | _, .scr _ => none
  | _, .dct _ => none
  | _, _ => some (.bl false)
/-- isinstance of an own class: tb says it of the classes -/
def dIsC (tb : Nat → Option Bool) : D → Option D
  | .ins c _ => (tb c).map .bl
  | .scr _ => none
  | .dct _ => none
  | _ => some (.bl false)
/-- tuple(x), list(x) -/
def dTup : D → Option D
  | .lst xs => some (.tup xs)
  | .tup xs => some (.tup xs)
  | _ => none
def dLst : D → Option D
  | .lst xs => some (.lst xs)
  | .tup xs => some (.lst xs)
  | _ => none
def intsL : List D → Option (List Int)
  | [] => some []
  | .int i :: r => (intsL r).map (i :: ·)
  | _ :: _ => none
def boolsL : List D → Option (List Bool)
  | [] => some []
  | .bl i :: r => (boolsL r).map (i :: ·)
  | _ :: _ => none
def dSum : D → Option D
  | .lst xs => (intsL xs).map fun ns => .int ns.sum
  | _ => none
def dAll : D → Option D
  | .lst xs => (boolsL xs).map fun ns => .bl (ns.all id)
  | _ => none
def dAny : D → Option D
  | .lst xs => (boolsL xs).map fun ns => .bl (ns.any id)
  | _ => none
def dMax2 : List D → Option D
  | [.int i, .int j] => some (.int (if j > i then j else i))
  | _ => none
def dMin2 : List D → Option D
  | [.int i, .int j] => some (.int (if j < i then j else i))
  | _ => none
/-- a part of an f-string -/
def dTxt : D → Option D
  | .str s => if s.length ≤ seqMax then some (.str s) else none
  | .int i => if i.natAbs < 2 ^ 1900 then some (.str (toString i)) else none
  | _ => none
def eJs : List EV → Str → EV
  | [], acc, Γ => .ok (.str acc, Γ)
  | e :: es, acc, Γ => (e Γ).bind fun (d, Γ') => match d with
    | .str y => if (acc ++ y).length ≤ seqMax then eJs es (acc ++ y) Γ' else .bad
    | _ => .bad
end Ed

set_option autoImplicit true
set_option linter.all false
/-! comprehensions, over data -/
namespace Ed
open PySem
def stb : Sl → Bool
  | .emp => true
  | .val _ => true
  | .bor _ => true
  | .exn _ => true
  | _ => false
def wipeG (Γ : Env) : List Nat → Env
  | [] => Γ
  | v :: vs => put (wipeG Γ vs) v .emp
def restG (Γ0 Γ : Env) : List Nat → Env
  | [] => Γ
  | v :: vs => put (restG Γ0 Γ vs) v (get Γ0 v)
/-- the turns of a comprehension; the items there are so far -/
def lcL (g : GV) (t : TV) (e : EV) (vs : List Nat) : List D → Env → Nat → Option (List D × Env)
  | [], Γ, _ => some ([], Γ)
  | d :: ds, Γ, n => match g d Γ with
    | none => none
    | some Γ1 => match t Γ1 with
      | .ok (true, Γ2) => (match e Γ2 with
        | .ok (x, Γ3) => if n < seqMax then (match lcL g t e vs ds (wipeG Γ3 vs) (n + 1) with
          | some (l, Γ4) => some (x :: l, Γ4)
          | none => none) else none
        | _ => none)
      | .ok (false, Γ2) => lcL g t e vs ds (wipeG Γ2 vs) n
      | _ => none
def tYs : TV := fun Γ => .ok (true, Γ)
/-- [e for g in it if t] -/
def eLc (vs : List Nat) (it : LV) (g : GV) (t : TV) (e : EV) : EV := fun Γ => (it Γ).bind fun (ds, Γ1) => if vs.all (fun i => stb (get Γ1 i)) = true then (match lcL g t e vs ds (wipeG Γ1 vs) 0 with
  | some (l, Γ2) => .ok (.lst l, restG Γ1 Γ2 vs)
  | none => .bad) else .bad
def isT2 : Ty → D → Option Bool
  | .tInt, .int _ => some true
  | .tInt, .bl _ => some true
  | .tBool, .bl _ => some true
  | .tStr, .str _ => some true
  | .tList, .lst _ => some true
  | .tTuple, .tup _ => some true
  | _, .ins _ _ => none
  | _, .scr _ => none
  | _, .dct _ => none
  | _, _ => some false
/-- what a table says of the own classes -/
def tbl (l : List (Nat × Bool)) (c : Nat) : Option Bool := l.lookup c
def isB2 (tb : Nat → Option Bool) : D → Option Bool
  | .ins c _ => tb c
  | .scr _ => none
  | .dct _ => none
  | _ => some false
def eIsED (i : Nat) (is : Nat → Option Bool) : EV := fun Γ => match get Γ i with
  | .exn x => (match is x.c with
    | some b => .ok (.bl b, Γ)
    | none => .bad)
  | _ => .bad
/-- o.m(..), o of the kind kd -/
def eBMT (kd : D → Bool) (f : D → List D → Option D) (a : QV) (l : AV) : EV := fun Γ => (a Γ).bind fun (p, Γ1) => match rd Γ1 p with
  | some x0 => if kd x0 = true then (l Γ1).bind fun (ps, Γ2) => (match rd Γ2 p, rds Γ2 ps with
    | some x, some ys => (R.of (f x ys)).bind fun d => .ok (d, Γ2)
    | _, _ => .bad) else .bad
  | none => .bad
/-- x[y] by an own __getitem__ -/
def eOwnX (c : Nat) (F : FV) (a b : EV) : EV := fun Γ => (a Γ).bind fun (x, Γ1) => (b Γ1).bind fun (y, Γ2) => match x with
  | .ins c1 _ => if c1 = c then (callF F [false, false] [.pd x, .pd y] Γ2).bind fun (o, Γ3) => .ok (o.d, Γ3) else .bad
  | _ => .bad
/-- x is y, of bools -/
def dIsB (x y : D) : Option D := match x, y with
  | .bl a, .bl b => some (.bl (decide (a = b)))
  | _, _ => none
def dNotB (x y : D) : Option D := match x, y with
  | .bl a, .bl b => some (.bl (!decide (a = b)))
  | _, _ => none
/-- where y stands first -/
def idxD (y : D) : List D → Option Nat
  | [] => none
  | x :: xs => if deq x y = true then some 0 else (idxD y xs).map (· + 1)
/-- xs.index(y), s.index(t) -/
def dLIdx (x : D) (ys : List D) : Option D := match x, ys with
  | .lst xs, [y] => if flat y && xs.all flat then (idxD y xs).map fun n => .int n else none
  | _, _ => none
def dSIdx (x : D) (ys : List D) : Option D := match x, ys with
  | .str a, [.str b] => (Builtin.Str.occurrences a b 0 a.length 1).head?.map fun n => .int n
  | _, _ => none
def sBad : SV := fun _ => .bad
def eAndV (a b : EV) : EV := fun Γ => (a Γ).bind fun (x, Γ1) => match x with
  | .bl true => b Γ1
  | .bl false => .ok (.bl false, Γ1)
  | _ => .bad
def eOrV (a b : EV) : EV := fun Γ => (a Γ).bind fun (x, Γ1) => match x with
  | .bl true => .ok (.bl true, Γ1)
  | .bl false => b Γ1
  | _ => .bad
def eNotV (a : EV) : EV := fun Γ => (a Γ).bind fun (x, Γ1) => match x with
  | .bl k => .ok (.bl (!k), Γ1)
  | _ => .bad
/-- a op b op' c -/
def eChain (f f' : D → D → Option D) (a b c : QV) : EV := fun Γ => (a Γ).bind fun (p, Γ1) => (b Γ1).bind fun (q, Γ2) => match rd Γ2 p, rd Γ2 q with
  | some x, some y => (match f x y with
    | some (.bl true) => (c Γ2).bind fun (r, Γ3) => (match rd Γ3 q, rd Γ3 r with
      | some y', some z => (R.of (f' y' z)).bind fun d => .ok (d, Γ3)
      | _, _ => .bad)
    | some (.bl false) => .ok (.bl false, Γ2)
    | _ => .bad)
  | _, _ => .bad
def maxL : List Int → Option Int
  | [] => none
  | n :: ns => some (ns.foldl max n)
def minL : List Int → Option Int
  | [] => none
  | n :: ns => some (ns.foldl min n)
def dMaxL : D → Option D
  | .lst xs => (intsL xs).bind fun ns => (maxL ns).map .int
  | _ => none
def dMinL : D → Option D
  | .lst xs => (intsL xs).bind fun ns => (minL ns).map .int
  | _ => none
/-- o.m(..) of a text or a list -/
def eBM (f : D → List D → Option D) (a : QV) (l : AV) : EV := fun Γ => (a Γ).bind fun (p, Γ1) => (l Γ1).bind fun (ps, Γ2) => match rd Γ2 p, rds Γ2 ps with
  | some x, some ys => if (rd Γ1 p).isSome then (R.of (f x ys)).bind fun d => .ok (d, Γ2) else .bad
  | _, _ => .bad
end Ed

set_option autoImplicit true
set_option linter.all false
/-! more operations over data -/
namespace Ed
open PySem
def dBAnd (x y : D) : Option D := match x, y with
  | .int a, .int b => some (.int (Builtin.bitAnd a b))
  | _, _ => none
def dBOr (x y : D) : Option D := match x, y with
  | .int a, .int b => some (.int (Builtin.bitOr a b))
  | _, _ => none
def strRep (x : Str) (n : Nat) : Str := ⟨(List.replicate n x.cps).foldl (· ++ ·) #[]⟩
def dSumT : D → Option D
  | .tup xs => (intsL xs).map fun ns => .int ns.sum
  | _ => none
/-- for x in o: o's __iter__ hands back iter(self.f), f a tuple -/
def iOwnT (c f : Nat) (ea : EV) : LV := fun Γ => (ea Γ).bind fun (d, Γ1) => match fld c f d with
  | some (.tup ds) => .ok (ds, Γ1)
  | _ => .bad
/-- list(o): o's __iter__ hands back iter(self.f), f a tuple; its __len__ is asked -/
def eListOwn (c f : Nat) (Fl : FV) (ea : EV) : EV := fun Γ => (ea Γ).bind fun (d, Γ1) => match fld c f d, Fl [d] with
  | some (.tup ds), .ok (.fz (.int n)) => if 0 ≤ n ∧ n ≤ 16777216 ∧ ds.length ≤ 16777216 then .ok (.lst ds, Γ1) else .bad
  | _, _ => .bad
/-- the signs of a text -/
def sgn (s : Str) : List D := s.cps.toList.map fun c => D.str ⟨#[c]⟩
def iSgn (q : QV) : LV := fun Γ => (q Γ).bind fun (p, Γ') => match rd Γ' p with
  | some (.str s) => .ok (sgn s, Γ')
  | _ => .bad
/-- a text n times -/
def dRepS (x y : D) : Option D := match x, y with
  | .str a, .int n => if -1000 ≤ n ∧ n ≤ 1000 ∧ a.length ≤ 1000 then some (.str (strRep a n.toNat)) else none
  | _, _ => none
/-! sorted -/
mutual
/-- x < y, for data that are alike -/
def dlt : D → D → Bool
  | .bl a, .bl b => !a && b
  | .int a, .int b => decide (a < b)
  | .str a, .str b => decide (a.cps.toList < b.cps.toList)
  | .lst xs, .lst ys => dltL xs ys
  | .tup xs, .tup ys => dltL xs ys
  | _, _ => false
def dltL : List D → List D → Bool
  | [], [] => false
  | [], _ :: _ => true
  | _ :: _, [] => false
  | x :: xs, y :: ys => if deq x y then dltL xs ys else dlt x y
end
mutual
/-- the two can be compared -/
def dal : D → D → Bool
  | .bl _, .bl _ => true
  | .int _, .int _ => true
  | .str _, .str _ => true
  | .lst xs, .lst ys => dalL xs ys
  | .tup xs, .tup ys => dalL xs ys
  | _, _ => false
def dalL : List D → List D → Bool
  | x :: xs, y :: ys => dal x y && dalL xs ys
  | _, _ => true
end
def isTp : D → Bool
  | .tup _ => true
  | _ => false
/-- can be sorted -/
def sOk (xs : List D) : Bool := xs.all (okDat 60) && xs.all (fun x => xs.all (dal x)) && (xs.all isTp || xs.all fun x => !isTp x) && decide (xs.length ≤ seqMax)
def dSort : D → Option D
  | .lst xs => if sOk xs then some (.lst (xs.mergeSort fun x y => !dlt y x)) else none
  | _ => none
/-- which receiver the type's name stands for -/
def kindD (T : String) : D → Bool
  | .str _ => T == "str"
  | .lst _ => T == "list"
  | _ => false
end Ed

set_option autoImplicit true
set_option linter.all false
/-! operations over texts -/
namespace Ed
open PySem
def strsL : List D → Option (List Str)
  | [] => some []
  | .str s :: r => (strsL r).map (s :: ·)
  | _ => none
def joinZ (a : Str) (ys : List Str) : Option D := if (ys.map (·.length)).sum + ys.length * a.length ≤ 16777216 then some (.str (Str.join a ys)) else none
def dJoin (x : D) (ys : List D) : Option D := match x, ys with
  | .str a, [.lst xs] => (strsL xs).bind (joinZ a)
  | .str a, [.tup xs] => (strsL xs).bind (joinZ a)
  | _, _ => none
def ljustS (a : Str) (n : Nat) : Str := ⟨a.cps ++ Array.replicate (n - a.length) 32⟩
def dLjust (x : D) (ys : List D) : Option D := match x, ys with
  | .str a, [.int i] => if 0 ≤ i ∧ i ≤ 1000 then some (.str (ljustS a i.toNat)) else none
  | _, _ => none
/-- f"{x:>4}", x a small number -/
def pad4 (a : Nat) : Str := if a < 10 then ⟨#[32, 32, 32, 48 + a]⟩ else ⟨#[32, 32, 49, 38 + a]⟩
def dFmt4 : D → Option D
  | .int a => if 0 ≤ a ∧ a ≤ 12 then some (.str (pad4 a.toNat)) else none
  | _ => none
/-- max(xs, default=k) -/
def dMaxI (k : Int) : D → Option D
  | .lst xs => (intsL xs).map fun ns => .int ((maxL ns).getD k)
  | _ => none
def consH (x : Nat) : List (List Nat) → List (List Nat)
  | h :: t => (x :: h) :: t
  | [] => [[x]]
/-- a row of signs cut at each sign c -/
def splL (c : Nat) : List Nat → List (List Nat)
  | [] => [[]]
  | x :: r => if x = c then [] :: splL c r else consH x (splL c r)
def splS (a : Str) (c : Nat) : List Str := (splL c a.cps.toList).map fun l => ⟨l.toArray⟩
/-- a.split(b), b one sign -/
def dSplit (x : D) (ys : List D) : Option D := match x, ys with
  | .str a, [.str b] => if b.length = 1 ∧ b.cps.getD 0 0 < 256 ∧ a.length ≤ 16700000 then some (.lst ((splS a (b.cps.getD 0 0)).map .str)) else none
  | _, _ => none
/-- [*x, ..] -/
def lStar (a : EV) (r : LV) : LV := fun Γ => (a Γ).bind fun (d, Γ1) => match items d with
  | some ds => (r Γ1).bind fun (es, Γ2) => .ok (ds ++ es, Γ2)
  | none => .bad
/-- x.insert(k, y) -/
def sIns (i : Nat) (ea eb : EV) : SV := fun Γ => match look (get Γ i) with
  | some (.lst _) => (ea Γ).bind fun (d, Γ1) => (eb Γ1).bind fun (y, Γ2) => (match d, get Γ2 i with
    | .int k, .own (.lst xs) => if 0 ≤ k ∧ k < 1000000 ∧ xs.length < seqMax then .ok (.nx, put Γ2 i (.own (.lst (xs.take k.toNat ++ [y] ++ xs.drop k.toNat)))) else .bad
    | _, _ => .bad)
  | _ => .bad
/-- a.strip(b) -/
def stripLo (p : Nat → Bool) (l : List Nat) : Nat := (l.takeWhile p).length
def stripHi (p : Nat → Bool) (l : List Nat) : Nat := l.length - ((l.drop (stripLo p l)).reverse.takeWhile p).length
def stripS (a b : Str) : Str := ⟨((a.cps.toList.drop (stripLo b.cps.contains a.cps.toList)).take (stripHi b.cps.contains a.cps.toList - stripLo b.cps.contains a.cps.toList)).toArray⟩
def dStrip (x : D) (ys : List D) : Option D := match x, ys with
  | .str a, [.str b] => if a.length ≤ 16700000 then some (.str (stripS a b)) else none
  | _, _ => none
/-- xs.count(t), xs texts -/
def dLCount (x : D) (ys : List D) : Option D := match x, ys with
  | .lst xs, [.str t] => (strsL xs).map fun l => .int (l.count t : Nat)
  | _, _ => none
end Ed

set_option autoImplicit true
set_option Elab.async false
set_option linter.all false
set_option maxRecDepth 100000
/-! what data stands at a value; the state of a def over the data -/
namespace Ed
open PySem L2

/-- where the classes stand, what the fields are called -/
structure Cn where
  ca : Nat → Addr
  fa : Nat → Str
  /-- the caught error of a suite: where it stands, its class, its dict -/
  ex : Option (Addr × Value × Option Addr) := none
section
variable (K : PySem.W.Frag) (cn : Cn)
inductive Rep (F : Hp) : V → D → Prop
  | non : Rep F .non .non
  | bl (b : Bool) : Rep F (.bl b) (.bl b)
  | int (i : Int) : Rep F (.int i) (.int i)
  | str (s : Str) : Rep F (.str s) (.str s)
  | lst {a : Addr} {vs : List V} {ds : List D} (h : F a = some (.lst vs)) (hl : vs.length = ds.length) (r : ∀ (i : Nat) v d, vs[i]? = some v → ds[i]? = some d → Rep F v d) : Rep F (.ref a) (.lst ds)
  | tup {a : Addr} {vs : List V} {ds : List D} (h : SqT K F a vs) (hl : vs.length = ds.length) (r : ∀ (i : Nat) v d, vs[i]? = some v → ds[i]? = some d → Rep F v d) : Rep F (.ref a) (.tup ds)
  | dct {a : Addr} {kvs : List (L2.Key × V)} {kds : List (L2.Key × D)} (h : F a = some (.dK kvs)) (hk : kvs.map (·.1) = kds.map (fun p => id p.1)) (r : ∀ (i : Nat) v d, kvs[i]? = some v → kds[i]? = some d → Rep F v.2 d.2) : Rep F (.ref a) (.dct kds)
  | ins {a dx : Addr} {fvs : List (Str × V)} {fds : List (Nat × D)} {c : Nat} (h : F a = some (.ins (cn.ca c) dx fvs)) (hk : fvs.map (·.1) = fds.map (fun p => cn.fa p.1)) (r : ∀ (i : Nat) v d, fvs[i]? = some v → fds[i]? = some d → Rep F v.2 d.2) : Rep F (.ref a) (.ins c fds)
  | scr {a : Addr} {ns : List Int} (h : SqL K F a (ns.map V.int)) : Rep F (.ref a) (.scr ns)
def Reps (F : Hp) (vs : List V) (ds : List D) : Prop := vs.length = ds.length ∧ ∀ (i : Nat) v d, vs[i]? = some v → ds[i]? = some d → Rep K cn F v d
def RepP {κ κ' : Type} (g : κ' → κ) (F : Hp) (vs : List (κ × V)) (ds : List (κ' × D)) : Prop := vs.map (·.1) = ds.map (fun p => g p.1) ∧ ∀ (i : Nat) v d, vs[i]? = some v → ds[i]? = some d → Rep K cn F v.2 d.2
end

section
variable {K : PySem.W.Frag} {cn : Cn} {F F' H H' : Hp} {v w : V} {d : D} {vs ws : List V} {ds es : List D}
theorem same_seqT {a : Addr} {xs : List V} (e : L2.Same H H') (h : SqT K H a xs) : SqT K H' a xs := by
  rcases h with (h | ⟨o, h⟩) | h
  · exact .inl (.inl (e _ _ h))
  · exact .inl (.inr ⟨o, e _ _ h⟩)
  · exact .inr h
theorem Rep.mono (s : Same F F') (h : Rep K cn F v d) : Rep K cn F' v d := by
  induction h with
  | non => exact .non
  | bl b => exact .bl b
  | int i => exact .int i
  | str z => exact .str z
  | lst h hl _ ih => exact .lst (s _ _ h) hl ih
  | tup h hl _ ih => exact .tup (same_seqT s h) hl ih
  | dct h hk _ ih => exact .dct (s _ _ h) hk ih
  | ins h hk _ ih => exact .ins (s _ _ h) hk ih
  | scr h => exact .scr (s.seq h)
theorem Reps.mono (s : Same F F') (h : Reps K cn F vs ds) : Reps K cn F' vs ds := ⟨h.1, fun i v d a b => (h.2 i v d a b).mono s⟩
theorem RepP.mono {κ κ' : Type} {g : κ' → κ} {vs : List (κ × V)} {ds : List (κ' × D)} (s : Same F F') (h : RepP K cn g F vs ds) : RepP K cn g F' vs ds := ⟨h.1, fun i v d a b => (h.2 i v d a b).mono s⟩
theorem Reps.nil : Reps K cn F [] [] := ⟨rfl, fun i v d a _ => by simp at a⟩
theorem Reps.cons (h : Rep K cn F v d) (r : Reps K cn F vs ds) : Reps K cn F (v :: vs) (d :: ds) := ⟨by simp [r.1], fun i x y a b => by
  cases i with
  | zero => simp at a b; subst a b; exact h
  | succ i => exact r.2 i x y (by simpa using a) (by simpa using b)⟩
theorem Reps.uncons (r : Reps K cn F (v :: vs) (d :: ds)) : Rep K cn F v d ∧ Reps K cn F vs ds :=
  ⟨r.2 0 v d rfl rfl, by have := r.1; simpa using this, fun i x y a b => r.2 (i + 1) x y (by simpa using a) (by simpa using b)⟩
theorem Reps.inv : Reps K cn F vs (d :: ds) → ∃ v vs', vs = v :: vs' ∧ Rep K cn F v d ∧ Reps K cn F vs' ds := fun r => by
  cases vs with
  | nil => have := r.1; simp at this
  | cons v vs => exact ⟨v, vs, rfl, r.uncons⟩
theorem Reps.inv0 : Reps K cn F vs [] → vs = [] := fun r => List.length_eq_zero_iff.mp r.1
theorem Reps.app (r : Reps K cn F vs ds) (q : Reps K cn F ws es) : Reps K cn F (vs ++ ws) (ds ++ es) := ⟨by simp [r.1, q.1], fun i x y a b => by
  by_cases h : i < vs.length
  · rw [List.getElem?_append_left h] at a
    rw [List.getElem?_append_left (r.1 ▸ h)] at b
    exact r.2 i x y a b
  · rw [List.getElem?_append_right (by omega)] at a
    rw [List.getElem?_append_right (by have := r.1; omega), ← r.1] at b
    exact q.2 _ x y a b⟩
theorem Reps.get (r : Reps K cn F vs ds) {i : Nat} {d : D} (h : ds[i]? = some d) : ∃ v, vs[i]? = some v ∧ Rep K cn F v d := by
  obtain ⟨hi, _⟩ := List.getElem?_eq_some_iff.mp h
  have hv : i < vs.length := by rw [r.1]; exact hi
  exact ⟨vs[i], by simp [hv], r.2 i _ _ (by simp [hv]) h⟩
theorem Reps.getV (r : Reps K cn F vs ds) {i : Nat} {v : V} (h : vs[i]? = some v) : ∃ d, ds[i]? = some d ∧ Rep K cn F v d := by
  obtain ⟨hi, _⟩ := List.getElem?_eq_some_iff.mp h
  have hv : i < ds.length := by rw [← r.1]; exact hi
  exact ⟨ds[i], by simp [hv], r.2 i _ _ h (by simp [hv])⟩
theorem Reps.set (r : Reps K cn F vs ds) {i : Nat} (h : Rep K cn F v d) : Reps K cn F (vs.set i v) (ds.set i d) := ⟨by simp [r.1], fun j x y a b => by
  by_cases e : i = j
  · subst e
    by_cases hi : i < vs.length
    · rw [List.getElem?_set_self hi] at a
      rw [List.getElem?_set_self (r.1 ▸ hi)] at b
      cases a; cases b; exact h
    · rw [List.getElem?_eq_none (by simpa using hi)] at a; cases a
  · rw [List.getElem?_set_ne e] at a b
    exact r.2 j x y a b⟩
theorem Reps.take (r : Reps K cn F vs ds) (n : Nat) : Reps K cn F (vs.take n) (ds.take n) := ⟨by simp [r.1], fun j x y a b => by
  rw [List.getElem?_take] at a b
  split at a
  · rw [if_pos (by assumption)] at b; exact r.2 j x y a b
  · cases a⟩
theorem Reps.drop (r : Reps K cn F vs ds) (n : Nat) : Reps K cn F (vs.drop n) (ds.drop n) := ⟨by simp [r.1], fun j x y a b => by
  rw [List.getElem?_drop] at a b
  exact r.2 _ x y a b⟩
theorem Reps.rev (r : Reps K cn F vs ds) : Reps K cn F vs.reverse ds.reverse := ⟨by simp [r.1], fun j x y a b => by
  obtain ⟨hj, _⟩ := List.getElem?_eq_some_iff.mp a
  rw [List.length_reverse] at hj
  rw [List.getElem?_reverse hj] at a
  rw [List.getElem?_reverse (by rw [← r.1]; exact hj), ← r.1] at b
  exact r.2 _ x y a b⟩

/-- a value as it can be read now: a list may stand outside the frozen heap -/
def Shal (K : PySem.W.Frag) (cn : Cn) (F H : Hp) (v : V) : D → Prop
  | .lst ds => ∃ a vs, v = .ref a ∧ H a = some (.lst vs) ∧ Reps K cn F vs ds
  | .dct ds => ∃ a kvs, v = .ref a ∧ H a = some (.dK kvs) ∧ RepP K cn id F kvs ds
  | d => Rep K cn F v d
theorem Rep.shal (s : Same F H) (h : Rep K cn F v d) : Shal K cn F H v d := by
  cases h with
  | lst h hl r => exact ⟨_, _, rfl, s _ _ h, hl, r⟩
  | dct h hk r => exact ⟨_, _, rfl, s _ _ h, hk, r⟩
  | non => exact .non
  | bl b => exact .bl b
  | int i => exact .int i
  | str z => exact .str z
  | tup h hl r => exact .tup h hl r
  | ins h hk r => exact .ins h hk r
  | scr h => exact .scr h
theorem Shal.mono (s : Same F F') (s2 : Same H H') (h : Shal K cn F H v d) : Shal K cn F' H' v d := by
  cases d with
  | lst ds => obtain ⟨a, vs, e, h, r⟩ := h; exact ⟨a, vs, e, s2 _ _ h, r.mono s⟩
  | dct ds => obtain ⟨a, vs, e, h, r⟩ := h; exact ⟨a, vs, e, s2 _ _ h, r.mono s⟩
  | non => exact Rep.mono s h
  | bl b => exact Rep.mono s h
  | int i => exact Rep.mono s h
  | str z => exact Rep.mono s h
  | tup h1 => exact Rep.mono s h
  | ins c h1 => exact Rep.mono s h
  | scr h1 => exact Rep.mono s h
theorem Shal.int {i : Int} (h : Shal K cn F H v (.int i)) : v = .int i := by cases (show Rep K cn F v (.int i) from h); rfl
theorem Shal.bl {i : Bool} (h : Shal K cn F H v (.bl i)) : v = .bl i := by cases (show Rep K cn F v (.bl i) from h); rfl
theorem Shal.str {i : Str} (h : Shal K cn F H v (.str i)) : v = .str i := by cases (show Rep K cn F v (.str i) from h); rfl
theorem Shal.non (h : Shal K cn F H v .non) : v = .non := by cases (show Rep K cn F v .non from h); rfl
theorem Rep.tupE (s : Same F H) (h : Rep K cn F v (.tup ds)) : ∃ a vs, v = .ref a ∧ SqT K H a vs ∧ Reps K cn F vs ds := by
  cases h with
  | tup h1 hl r => exact ⟨_, _, rfl, same_seqT s h1, hl, r⟩
theorem Shal.tup (s : Same F H) (h : Shal K cn F H v (.tup ds)) : ∃ a vs, v = .ref a ∧ SqT K H a vs ∧ Reps K cn F vs ds := Rep.tupE s h

/-- from a point to a later one: nothing that stood is changed, what is frozen grows by new objects -/
structure Ext (F H F' H' : Hp) : Prop where
  f : Same F F'
  h : Same H H'
  fh : Same F' H'
  nw : ∀ b, F b = none → H b ≠ none → F' b = none
theorem Ext.refl (s : Same F H) : Ext F H F H := ⟨Same.refl _, Same.refl _, s, fun _ h _ => h⟩
theorem Ext.trans {F2 H2 : Hp} (a : Ext F H F' H') (b : Ext F' H' F2 H2) : Ext F H F2 H2 := ⟨a.f.trans b.f, a.h.trans b.h, b.fh, fun x h1 h2 => b.nw x (a.nw x h1 h2) (by
  cases e : H x with
  | none => exact absurd e h2
  | some o => rw [a.h x o e]; simp)⟩
theorem same_new {p : Addr} {o : HO} (h : H p = none) : Same H (upd H p o) := fun a u e => by
  rw [upd_ne (ne_of_none e h)]
  exact e
theorem same_upd {p : Addr} {o : HO} (s : Same F H) : Same (upd F p o) (upd H p o) := fun a u e => by
  by_cases ha : a = p
  · subst ha; rw [upd_same] at e ⊢; exact e
  · rw [upd_ne ha] at e ⊢; exact s _ _ e
theorem same_out {p : Addr} {o : HO} (s : Same F H) (h : F p = none) : Same F (upd H p o) := fun a u e => by
  rw [upd_ne (ne_of_none e h)]; exact s _ _ e
/-- a new object, frozen at once -/
theorem Ext.new {p : Addr} {o : HO} (s : Same F H) (h : H p = none) : Ext F H (upd F p o) (upd H p o) := by
  have hf : F p = none := s.free h
  refine ⟨same_new hf, same_new h, same_upd s, fun b h1 h2 => ?_⟩
  by_cases hb : b = p
  · subst hb; exact absurd h h2
  · rw [upd_ne hb]; exact h1
/-- a new object, not frozen -/
theorem Ext.new0 {p : Addr} {o : HO} (s : Same F H) (h : H p = none) : Ext F H F (upd H p o) := ⟨Same.refl _, same_new h, same_out s (s.free h), fun _ h1 _ => h1⟩
end

/-- what is fixed through a def: the heaps at its entry, its object in the making -/
structure Ct where
  /-- what is lent stands there -/
  B0 : Hp
  H0 : Hp
  F0 : Hp
  slf : Option Addr

section
variable (K : PySem.W.Frag) (cn : Cn) (C : Ct)
def RepX (F : Hp) (cls : Value) (od : Option Addr) (x : Xc) : Prop := cls = .ref (cn.ca x.c) ∧ ((x.fs = [] ∧ od = none) ∨ ∃ d fvs, od = some d ∧ F d = some (.xd fvs) ∧ x.fs ≠ [] ∧ ∀ f z, x.fs.lookup f = some z → ∃ v, fvs.lookup (cn.fa f) = some v ∧ Rep K cn F v z)
theorem RepX.mono {K : PySem.W.Frag} {cn : Cn} {F F' : Hp} {cls : Value} {od : Option Addr} {x : Xc} (s : Same F F') (h : RepX K cn F cls od x) : RepX K cn F' cls od x := by
  obtain ⟨h1, h2⟩ := h
  refine ⟨h1, ?_⟩
  rcases h2 with h2 | ⟨d, fvs, h3, h4, h6, h5⟩
  · exact .inl h2
  · exact .inr ⟨d, fvs, h3, s _ _ h4, h6, fun f z q => (h5 f z q).imp fun v w => ⟨w.1, w.2.mono s⟩⟩
def OwnR (F H : Hp) (a : Addr) : D → Prop
  | .lst ds => ∃ vs, H a = some (.lst vs) ∧ Reps K cn F vs ds
  | .dct ds => ∃ kvs, H a = some (.dK kvs) ∧ RepP K cn id F kvs ds
  | _ => False
def SlR (F H : Hp) (o : Option V) : Sl → Prop
  | .emp => True
  | .val d => ∃ v, o = some v ∧ Rep K cn F v d
  | .own d => ∃ a, o = some (.ref a) ∧ F a = none ∧ C.H0 a = none ∧ OwnR K cn F H a d
  | .bor d => ∃ v, o = some v ∧ Shal K cn F C.B0 v d
  | .slf c fs => ∃ a dx fvs, o = some (.ref a) ∧ C.slf = some a ∧ F a = none ∧ H a = some (.ins (cn.ca c) dx fvs) ∧ RepP K cn cn.fa F fvs fs
  | .exn x => ∃ a, o = some (.ref a) ∧ ∀ a' cls od, cn.ex = some (a', cls, od) → a = a' ∧ RepX K cn F cls od x
structure Bas (F H : Hp) : Prop where
  fh : Same F H
  f0 : Same C.F0 F
  h0 : ∀ b o, C.H0 b = some o → C.slf ≠ some b → H b = some o
  nw : ∀ b, C.F0 b = none → C.H0 b ≠ none → F b = none
  si : ∀ a, C.slf = some a → (∃ c dx fs, C.H0 a = some (.ins c dx fs)) ∧ ∃ o, H a = some o
  b0 : ∀ b o, C.B0 b = some o → C.H0 b = some o
structure RelS (Γ : Env) (σ : St) (F H : Hp) : Prop where
  bs : Bas C F H
  len : Γ.length = σ.length
  sl : ∀ (i : Nat) s, Γ[i]? = some s → SlR K cn C F H ((σ[i]?).join) s
  ow : ∀ (i j : Nat) d d' a, Γ[i]? = some (.own d) → Γ[j]? = some (.own d') → σ[i]? = some (some (V.ref a)) → σ[j]? = some (some (V.ref a)) → i = j
  s0 : ∀ (i : Nat) c fs, Γ[i]? = some (.slf c fs) → i = 0
end

section
variable {K : PySem.W.Frag} {cn : Cn} {C : Ct} {Γ Γ' : Env} {σ : St} {F F' H H' : Hp} {v : V} {d : D} {i : Nat}
theorem get_eq : ∀ (Γ : Env) (i : Nat), get Γ i = (Γ[i]?).getD .emp
  | [], _ => by simp [get]
  | s :: r, 0 => by simp [get]
  | s :: r, n + 1 => by simp [get, get_eq r n]
theorem put_eq : ∀ (Γ : Env) (i : Nat) (s : Sl), put Γ i s = Γ.set i s
  | [], _, _ => by simp [put]
  | s :: r, 0, _ => by simp [put]
  | s :: r, n + 1, _ => by simp [put, put_eq r n]
theorem get_some {s : Sl} (h : get Γ i = s) (n : s ≠ .emp) : Γ[i]? = some s := by
  rw [get_eq] at h
  cases e : Γ[i]? with
  | none => rw [e] at h; exact absurd h.symm n
  | some t => rw [e] at h; exact congrArg some h
theorem Ext.ne {a : Addr} {o : HO} (e : Ext F H F' H') (h1 : F a = none) (h2 : H a = some o) : F' a = none := e.nw a h1 (by rw [h2]; simp)
theorem OwnR.some {a : Addr} (h : OwnR K cn F H a d) : ∃ o, H a = some o := by
  cases d with
  | lst ds => obtain ⟨vs, h, _⟩ := h; exact ⟨_, h⟩
  | dct ds => obtain ⟨vs, h, _⟩ := h; exact ⟨_, h⟩
  | _ => exact h.elim
theorem OwnR.mono {a : Addr} (s : Same F F') (s2 : Same H H') (h : OwnR K cn F H a d) : OwnR K cn F' H' a d := by
  cases d with
  | lst ds => obtain ⟨vs, h, r⟩ := h; exact ⟨vs, s2 _ _ h, r.mono s⟩
  | dct ds => obtain ⟨vs, h, r⟩ := h; exact ⟨vs, s2 _ _ h, r.mono s⟩
  | _ => exact h.elim
theorem SlR.mono {o : Option V} {s : Sl} (e : Ext F H F' H') (h : SlR K cn C F H o s) : SlR K cn C F' H' o s := by
  cases s with
  | emp => trivial
  | val d => obtain ⟨v, a, r⟩ := h; exact ⟨v, a, r.mono e.f⟩
  | own d =>
    obtain ⟨a, e1, n, n0, r⟩ := h
    obtain ⟨o, ho⟩ := r.some
    exact ⟨a, e1, e.ne n ho, n0, r.mono e.f e.h⟩
  | bor d => obtain ⟨v, a, r⟩ := h; exact ⟨v, a, r.mono e.f (Same.refl _)⟩
  | slf c fs => obtain ⟨a, dx, fvs, e1, e2, n, h, r⟩ := h; exact ⟨a, dx, fvs, e1, e2, e.ne n h, e.h _ _ h, r.mono e.f⟩
  | exn x => obtain ⟨a1, e1, q1⟩ := h; exact ⟨a1, e1, fun a' cls od z => ⟨(q1 a' cls od z).1, (q1 a' cls od z).2.mono e.f⟩⟩
theorem Bas.ext (b : Bas C F H) (e : Ext F H F' H') : Bas C F' H' := by
  refine ⟨e.fh, b.f0.trans e.f, fun x o h1 h2 => e.h _ _ (b.h0 x o h1 h2), fun x h1 h2 => ?_, fun a h => ⟨(b.si a h).1, let ⟨o, q⟩ := (b.si a h).2; ⟨o, e.h _ _ q⟩⟩, b.b0⟩
  cases q : H x with
  | some o => exact e.ne (b.nw x h1 h2) q
  | none =>
    -- not tracked now though tracked at the entry: only the object in the making
    cases q0 : C.H0 x with
    | none => exact absurd q0 h2
    | some o =>
      by_cases hs : C.slf = some x
      · obtain ⟨o2, q2⟩ := (b.si x hs).2
        rw [q] at q2; cases q2
      · rw [b.h0 x o q0 hs] at q; cases q
theorem RelS.ext (r : RelS K cn C Γ σ F H) (e : Ext F H F' H') : RelS K cn C Γ σ F' H' := ⟨r.bs.ext e, r.len, fun i s h => (r.sl i s h).mono e, r.ow, r.s0⟩
theorem RelS.at (r : RelS K cn C Γ σ F H) {s : Sl} (h : get Γ i = s) (n : s ≠ .emp) : SlR K cn C F H ((σ[i]?).join) s := r.sl i s (get_some h n)
theorem join_some {o : Option (Option V)} (h : o.join = some v) : o = some (some v) := by
  cases o with
  | none => cases h
  | some x => exact congrArg some h
/-- what a name holds can be read -/
theorem RelS.read (r : RelS K cn C Γ σ F H) (h : look (get Γ i) = some d) : ∃ v, σ[i]? = some (some v) ∧ Shal K cn F H v d := by
  cases e : get Γ i with
  | val x =>
    rw [e] at h; cases h
    obtain ⟨v, q, p⟩ := r.at e (fun z => by cases z)
    exact ⟨v, join_some q, p.shal r.bs.fh⟩
  | own x =>
    rw [e] at h; cases h
    obtain ⟨a, q, n, n0, p⟩ := r.at e (fun z => by cases z)
    refine ⟨_, join_some q, ?_⟩
    cases d with
    | lst ds => obtain ⟨vs, h, p⟩ := p; exact ⟨a, vs, rfl, h, p⟩
    | dct ds => obtain ⟨vs, h, p⟩ := p; exact ⟨a, vs, rfl, h, p⟩
    | _ => exact p.elim
  | bor x =>
    rw [e] at h; cases h
    obtain ⟨v, q, p⟩ := r.at e (fun z => by cases z)
    refine ⟨v, join_some q, ?_⟩
    have ne : ∀ a, (∃ o, C.H0 a = some o ∧ ∀ c dx fs, o ≠ .ins c dx fs) → C.slf ≠ some a := fun a ⟨o, h1, h2⟩ z => by
      obtain ⟨c, dx, fs, q⟩ := (r.bs.si a z).1
      rw [h1] at q; cases q; exact h2 _ _ _ rfl
    cases d with
    | lst ds =>
      obtain ⟨a, vs, e, h, p⟩ := p
      have h := r.bs.b0 _ _ h
      exact ⟨a, vs, e, r.bs.h0 _ _ h (ne a ⟨_, h, fun _ _ _ z => by cases z⟩), p⟩
    | dct ds =>
      obtain ⟨a, vs, e, h, p⟩ := p
      have h := r.bs.b0 _ _ h
      exact ⟨a, vs, e, r.bs.h0 _ _ h (ne a ⟨_, h, fun _ _ _ z => by cases z⟩), p⟩
    | non => exact p
    | bl b => exact p
    | int i => exact p
    | str z => exact p
    | tup h1 => exact p
    | ins c h1 => exact p
    | scr h1 => exact p
  | emp => rw [e] at h; cases h
  | slf c fs => rw [e] at h; cases h
  | exn x => rw [e] at h; cases h
def PVR (K : PySem.W.Frag) (cn : Cn) (σ : St) (F : Hp) (v : V) : PV → Prop
  | .pn i => σ[i]? = some (some v)
  | .pd d => Rep K cn F v d
theorem PVR.mono {p : PV} (s : Same F F') (h : PVR K cn σ F v p) : PVR K cn σ F' v p := by
  cases p with
  | pn i => exact h
  | pd d => exact Rep.mono s h
theorem RelS.rd (r : RelS K cn C Γ σ F H) {p : PV} (h : rd Γ p = some d) (q : PVR K cn σ F v p) : Shal K cn F H v d := by
  cases p with
  | pd x => cases h; exact Rep.shal r.bs.fh q
  | pn i =>
    obtain ⟨w, e, s⟩ := r.read (i := i) h
    rw [show σ[i]? = some (some v) from q] at e
    cases e
    exact s
theorem s0_put {Γ : Env} {i : Nat} {s : Sl} (h : ∀ (i : Nat) c fs, Γ[i]? = some (.slf c fs) → i = 0) (n : i = 0 ∨ ∀ c fs, s ≠ .slf c fs) : ∀ (j : Nat) c fs, (put Γ i s)[j]? = some (.slf c fs) → j = 0 := fun j c fs q => by
  rw [put_eq] at q
  by_cases e : i = j
  · subst e
    rcases n with n | n
    · exact n
    · by_cases hi : i < Γ.length
      · rw [List.getElem?_set_self hi] at q; cases q; exact absurd rfl (n c fs)
      · rw [List.getElem?_eq_none (by simpa using hi)] at q; cases q
  · rw [List.getElem?_set_ne e] at q; exact h j c fs q
theorem getSet {Γ : Env} {i j : Nat} {s t : Sl} (h : (Γ.set i s)[j]? = some t) : (i = j ∧ t = s) ∨ (i ≠ j ∧ Γ[j]? = some t) := by
  by_cases e : i = j
  · subst e
    by_cases hi : i < Γ.length
    · rw [List.getElem?_set_self hi] at h; cases h; exact .inl ⟨rfl, rfl⟩
    · rw [List.getElem?_eq_none (by simpa using hi)] at h; cases h
  · rw [List.getElem?_set_ne e] at h; exact .inr ⟨e, h⟩
/-- an owned thing is made frozen -/
theorem RelS.frz (r : RelS K cn C Γ σ F H) {s : Sl} (h : frzS (get Γ i) = some (d, s)) : ∃ v F', σ[i]? = some (some v) ∧ Same F F' ∧ Rep K cn F' v d ∧ RelS K cn C (put Γ i s) σ F' H := by
  cases e : get Γ i with
  | val x =>
    rw [e] at h; cases h
    obtain ⟨v, q, p⟩ := r.at e (fun z => by cases z)
    refine ⟨v, F, join_some q, Same.refl _, p, ?_⟩
    have : put Γ i (.val d) = Γ := by
      rw [put_eq]
      apply List.ext_getElem?
      intro j
      by_cases z : i = j
      · subst z
        have q := get_some e (fun z => by cases z)
        obtain ⟨hi, _⟩ := List.getElem?_eq_some_iff.mp q
        rw [List.getElem?_set_self hi, q]
      · rw [List.getElem?_set_ne z]
    rw [this]; exact r
  | own x =>
    rw [e] at h; cases h
    have hx := get_some e (fun z => by cases z)
    obtain ⟨a, q, n, n0, p⟩ := r.at e (fun z => by cases z)
    have qσ := join_some q
    obtain ⟨o, ho, hr⟩ : ∃ o, H a = some o ∧ (∀ F', Same F F' → F' a = some o → Rep K cn F' (.ref a) d) := by
      cases d with
      | lst ds => obtain ⟨vs, h, p⟩ := p; exact ⟨_, h, fun F' s q => .lst q p.1 (p.mono s).2⟩
      | dct ds => obtain ⟨vs, h, p⟩ := p; exact ⟨_, h, fun F' s q => .dct q p.1 (p.mono s).2⟩
      | _ => exact p.elim
    have sf : Same F (upd F a o) := same_new n
    refine ⟨.ref a, upd F a o, qσ, sf, hr _ sf upd_same, ⟨⟨?_, r.bs.f0.trans sf, r.bs.h0, fun b h1 h2 => ?_, r.bs.si, r.bs.b0⟩, by rw [put_eq, List.length_set]; exact r.len, fun j t h => ?_, fun j k x y b h1 h2 h3 h4 => ?_, s0_put r.s0 (.inr fun _ _ z => by cases z)⟩⟩
    · intro b u hb
      by_cases z : b = a
      · subst z; rw [upd_same] at hb; cases hb; exact ho
      · rw [upd_ne z] at hb; exact r.bs.fh _ _ hb
    · have z : b ≠ a := fun z => by subst z; exact h2 n0
      rw [upd_ne z]; exact r.bs.nw b h1 h2
    · rw [put_eq] at h
      rcases getSet h with ⟨rfl, rfl⟩ | ⟨z, h⟩
      · exact ⟨.ref a, q, hr _ sf upd_same⟩
      · have w := r.sl j t h
        cases t with
        | emp => trivial
        | val x => obtain ⟨v, a1, r1⟩ := w; exact ⟨v, a1, r1.mono sf⟩
        | own x =>
          obtain ⟨b, e1, m, m0, r1⟩ := w
          have hb : b ≠ a := fun e2 => z (r.ow i j _ _ a hx h qσ (by rw [← e2]; exact join_some e1))
          exact ⟨b, e1, by rw [upd_ne hb]; exact m, m0, r1.mono sf (Same.refl _)⟩
        | bor x => obtain ⟨v, a1, r1⟩ := w; exact ⟨v, a1, r1.mono sf (Same.refl _)⟩
        | slf c fs =>
          obtain ⟨b, dx, fvs, e1, e2, m, h5, r1⟩ := w
          have hb : b ≠ a := fun e3 => by
            subst e3
            obtain ⟨c', dx', fs', q0⟩ := (r.bs.si _ e2).1
            rw [n0] at q0; cases q0
          exact ⟨b, dx, fvs, e1, e2, by rw [upd_ne hb]; exact m, h5, r1.mono sf⟩
        | exn x => obtain ⟨a1, e1, q1⟩ := w; exact ⟨a1, e1, fun a' cls od z => ⟨(q1 a' cls od z).1, (q1 a' cls od z).2.mono sf⟩⟩
    · rw [put_eq] at h1 h2
      rcases getSet h1 with ⟨_, z⟩ | ⟨_, g1⟩
      · cases z
      · rcases getSet h2 with ⟨_, z⟩ | ⟨_, g2⟩
        · cases z
        · exact r.ow j k x y b g1 g2 h3 h4
  | emp => rw [e] at h; cases h
  | bor x => rw [e] at h; cases h
  | slf c fs => rw [e] at h; cases h
  | exn x => rw [e] at h; cases h
end
end Ed

set_option autoImplicit true
set_option Elab.async false
set_option linter.all false
set_option maxRecDepth 100000
/-! the judgements: a piece of syntax runs as its data function says -/
namespace Ed
open PySem L2

def Post {α : Type} (r : R α) (P : α → Prop) (W : Xc → Env → Prop) : Prop := match r with
  | .ok a => P a
  | .exc x Γ => W x Γ
  | .bad => False
theorem Post.bind {α β : Type} {r : R α} {f : α → R β} {P : β → Prop} {W : Xc → Env → Prop} (h : Post (r.bind f) P W) : Post r (fun a => Post (f a) P W) W := by
  cases r with
  | ok a => exact h
  | exc x Γ => exact h
  | bad => exact h
theorem Post.mono {α : Type} {r : R α} {P P' : α → Prop} {W W' : Xc → Env → Prop} (h : Post r P W) (k : ∀ a, P a → P' a) (k2 : ∀ x Γ, W x Γ → W' x Γ) : Post r P' W' := by
  cases r with
  | ok a => exact k a h
  | exc x Γ => exact k2 x Γ h
  | bad => exact h
theorem Post.of {α : Type} {o : Option α} {P : α → Prop} {W : Xc → Env → Prop} (h : Post (R.of o) P W) : ∃ a, o = some a ∧ P a := by
  cases o with
  | none => exact h.elim
  | some a => exact ⟨a, rfl, h⟩

section
variable (K : PySem.W.Frag) (cn : Cn)
abbrev XW (C : Ct) (F : Hp) (W : WX) : Xc → Env → Prop := fun x Γ' => ∀ cls od σ' F' H', Same F F' → RelS K cn C Γ' σ' F' H' → RepX K cn F' cls od x → W cls od σ' H'
def PVRs (σ : St) (F : Hp) : List V → List PV → Prop
  | [], [] => True
  | v :: vs, p :: ps => PVR K cn σ F v p ∧ PVRs σ F vs ps
  | _, _ => False
/-- a new thing, owned by none -/
def NewR (C : Ct) (Γ : Env) (σ : St) (F H : Hp) (v : V) (d : D) : Prop := ∃ a, v = .ref a ∧ F a = none ∧ C.H0 a = none ∧ OwnR K cn F H a d ∧ ∀ (i : Nat) d', Γ[i]? = some (.own d') → σ[i]? ≠ some (some (V.ref a))
end
section
variable {K : PySem.W.Frag} {cn : Cn} {C : Ct} {Γ Γ' : Env} {σ : St} {F F' H H' : Hp} {v : V} {d : D} {i : Nat}
theorem PVRs.mono (s : Same F F') : ∀ {vs : List V} {ps : List PV}, PVRs K cn σ F vs ps → PVRs K cn σ F' vs ps
  | [], [], _ => True.intro
  | _ :: _, _ :: _, h => ⟨h.1.mono s, PVRs.mono s h.2⟩
  | [], _ :: _, h => h.elim
  | _ :: _, [], h => h.elim
theorem NewR.frz (r : RelS K cn C Γ σ F H) (h : NewR K cn C Γ σ F H v d) : ∃ F', Same F F' ∧ Rep K cn F' v d ∧ RelS K cn C Γ σ F' H := by
  obtain ⟨a, rfl, n, n0, p, nown⟩ := h
  obtain ⟨o, ho, hr⟩ : ∃ o, H a = some o ∧ (∀ F', Same F F' → F' a = some o → Rep K cn F' (.ref a) d) := by
    cases d with
    | lst ds => obtain ⟨vs, h, p⟩ := p; exact ⟨_, h, fun F' s q => .lst q p.1 (p.mono s).2⟩
    | dct ds => obtain ⟨vs, h, p⟩ := p; exact ⟨_, h, fun F' s q => .dct q p.1 (p.mono s).2⟩
    | _ => exact p.elim
  have sf : Same F (upd F a o) := same_new n
  refine ⟨upd F a o, sf, hr _ sf upd_same, ⟨⟨?_, r.bs.f0.trans sf, r.bs.h0, fun b h1 h2 => ?_, r.bs.si, r.bs.b0⟩, r.len, fun j t h => ?_, r.ow, r.s0⟩⟩
  · intro b u hb
    by_cases z : b = a
    · subst z; rw [upd_same] at hb; cases hb; exact ho
    · rw [upd_ne z] at hb; exact r.bs.fh _ _ hb
  · have z : b ≠ a := fun z => by subst z; exact h2 n0
    rw [upd_ne z]; exact r.bs.nw b h1 h2
  · have w := r.sl j t h
    cases t with
    | emp => trivial
    | val x => obtain ⟨v, a1, r1⟩ := w; exact ⟨v, a1, r1.mono sf⟩
    | own x =>
      obtain ⟨b, e1, m, m0, r1⟩ := w
      have hb : b ≠ a := fun e2 => nown j x h (by rw [← e2]; exact join_some e1)
      exact ⟨b, e1, by rw [upd_ne hb]; exact m, m0, r1.mono sf (Same.refl _)⟩
    | bor x => obtain ⟨v, a1, r1⟩ := w; exact ⟨v, a1, r1.mono sf (Same.refl _)⟩
    | slf c fs =>
      obtain ⟨b, dx, fvs, e1, e2, m, h5, r1⟩ := w
      have hb : b ≠ a := fun e3 => by
        subst e3
        obtain ⟨c', dx', fs', q0⟩ := (r.bs.si _ e2).1
        rw [n0] at q0; cases q0
      exact ⟨b, dx, fvs, e1, e2, by rw [upd_ne hb]; exact m, h5, r1.mono sf⟩
    | exn x => obtain ⟨a1, e1, q1⟩ := w; exact ⟨a1, e1, fun a' cls od z => ⟨(q1 a' cls od z).1, (q1 a' cls od z).2.mono sf⟩⟩
/-- an owned address is tracked -/
theorem RelS.ownH (r : RelS K cn C Γ σ F H) {a : Addr} (h : Γ[i]? = some (.own d)) (e : σ[i]? = some (some (V.ref a))) : ∃ o, H a = some o := by
  obtain ⟨b, e1, m, m0, r1⟩ := r.sl i _ h
  rw [join_some e1] at e
  cases e
  exact r1.some
/-- a newly laid list -/
theorem NewR.laid (r : RelS K cn C Γ σ F H) {vs : List V} {ds : List D} (q : Reps K cn F vs ds) {p : Addr} (hp : H p = none) :
    RelS K cn C Γ σ F (upd H p (.lst vs)) ∧ NewR K cn C Γ σ F (upd H p (.lst vs)) (.ref p) (.lst ds) := by
  have e := Ext.new0 (o := HO.lst vs) r.bs.fh hp
  refine ⟨r.ext e, p, rfl, r.bs.fh.free hp, ?_, ⟨vs, upd_same, q⟩, fun i d' h z => ?_⟩
  · cases q0 : C.H0 p with
    | none => rfl
    | some o =>
      by_cases hs : C.slf = some p
      · obtain ⟨o2, q2⟩ := (r.bs.si p hs).2
        rw [hp] at q2; cases q2
      · rw [r.bs.h0 p o q0 hs] at hp; cases hp
  · obtain ⟨o, ho⟩ := r.ownH h z
    rw [hp] at ho; cases ho
theorem RelS.setV (r : RelS K cn C Γ σ F H) (h : Rep K cn F v d) : RelS K cn C (put Γ i (.val d)) (σ.set i (some v)) F H := by
  refine ⟨r.bs, by rw [put_eq, List.length_set, List.length_set]; exact r.len, fun j t g => ?_, fun j k x y b h1 h2 h3 h4 => ?_, s0_put r.s0 (.inr fun _ _ z => by cases z)⟩
  · rw [put_eq] at g
    rcases getSet g with ⟨rfl, rfl⟩ | ⟨z, g⟩
    · have hi : i < σ.length := by
        obtain ⟨hi, _⟩ := List.getElem?_eq_some_iff.mp g
        rw [List.length_set, r.len] at hi; exact hi
      rw [List.getElem?_set_self hi]
      exact ⟨v, rfl, h⟩
    · rw [List.getElem?_set_ne z]; exact r.sl j t g
  · rw [put_eq] at h1 h2
    rcases getSet h1 with ⟨_, z⟩ | ⟨z1, g1⟩
    · cases z
    · rcases getSet h2 with ⟨_, z⟩ | ⟨z2, g2⟩
      · cases z
      · rw [List.getElem?_set_ne z1] at h3
        rw [List.getElem?_set_ne z2] at h4
        exact r.ow j k x y b g1 g2 h3 h4
theorem RelS.setX (r : RelS K cn C Γ σ F H) {x : Xc} {a : Addr} (hx : ∀ a' cls od, cn.ex = some (a', cls, od) → a = a' ∧ RepX K cn F cls od x) : RelS K cn C (put Γ i (.exn x)) (σ.set i (some (V.ref a))) F H := by
  refine ⟨r.bs, by rw [put_eq, List.length_set, List.length_set]; exact r.len, fun j t g => ?_, fun j k x y b h1 h2 h3 h4 => ?_, s0_put r.s0 (.inr fun _ _ z => by cases z)⟩
  · rw [put_eq] at g
    rcases getSet g with ⟨rfl, rfl⟩ | ⟨z, g⟩
    · have hi : i < σ.length := by
        obtain ⟨hi, _⟩ := List.getElem?_eq_some_iff.mp g
        rw [List.length_set, r.len] at hi; exact hi
      rw [List.getElem?_set_self hi]
      exact ⟨a, rfl, hx⟩
    · rw [List.getElem?_set_ne z]; exact r.sl j t g
  · rw [put_eq] at h1 h2
    rcases getSet h1 with ⟨_, z⟩ | ⟨z1, g1⟩
    · cases z
    · rcases getSet h2 with ⟨_, z⟩ | ⟨z2, g2⟩
      · cases z
      · rw [List.getElem?_set_ne z1] at h3
        rw [List.getElem?_set_ne z2] at h4
        exact r.ow j k x y b g1 g2 h3 h4
theorem RelS.setE (r : RelS K cn C Γ σ F H) {o : Option V} : RelS K cn C (put Γ i .emp) (σ.set i o) F H := by
  refine ⟨r.bs, by rw [put_eq, List.length_set, List.length_set]; exact r.len, fun j t g => ?_, fun j k x y b h1 h2 h3 h4 => ?_, s0_put r.s0 (.inr fun _ _ z => by cases z)⟩
  · rw [put_eq] at g
    rcases getSet g with ⟨rfl, rfl⟩ | ⟨z, g⟩
    · trivial
    · rw [List.getElem?_set_ne z]; exact r.sl j t g
  · rw [put_eq] at h1 h2
    rcases getSet h1 with ⟨_, z⟩ | ⟨z1, g1⟩
    · cases z
    · rcases getSet h2 with ⟨_, z⟩ | ⟨z2, g2⟩
      · cases z
      · rw [List.getElem?_set_ne z1] at h3
        rw [List.getElem?_set_ne z2] at h4
        exact r.ow j k x y b g1 g2 h3 h4
theorem RelS.setO (r : RelS K cn C Γ σ F H) (h : NewR K cn C Γ σ F H v d) : RelS K cn C (put Γ i (.own d)) (σ.set i (some v)) F H := by
  obtain ⟨a, rfl, n, n0, p, nown⟩ := h
  refine ⟨r.bs, by rw [put_eq, List.length_set, List.length_set]; exact r.len, fun j t g => ?_, fun j k x y b h1 h2 h3 h4 => ?_, s0_put r.s0 (.inr fun _ _ z => by cases z)⟩
  · rw [put_eq] at g
    rcases getSet g with ⟨rfl, rfl⟩ | ⟨z, g⟩
    · have hi : i < σ.length := by
        obtain ⟨hi, _⟩ := List.getElem?_eq_some_iff.mp g
        rw [List.length_set, r.len] at hi; exact hi
      rw [List.getElem?_set_self hi]
      exact ⟨a, rfl, n, n0, p⟩
    · rw [List.getElem?_set_ne z]; exact r.sl j t g
  · rw [put_eq] at h1 h2
    have hs : ∀ {j : Nat} {x : D} {b : Addr}, i ≠ j → (σ.set i (some (V.ref a)))[j]? = some (some (V.ref b)) → Γ[j]? = some (.own x) → b ≠ a := fun {j x b} z h g e => by
      rw [List.getElem?_set_ne z, e] at h
      exact nown j x g h
    have self : ∀ {b : Addr}, (Γ.set i (.own d))[i]? = some (.own d) → (σ.set i (some (V.ref a)))[i]? = some (some (V.ref b)) → b = a := fun {b} g h => by
      have hi : i < σ.length := by
        obtain ⟨hi, _⟩ := List.getElem?_eq_some_iff.mp g
        rw [List.length_set, r.len] at hi; exact hi
      rw [List.getElem?_set_self hi] at h
      cases h; rfl
    rcases getSet h1 with ⟨rfl, z⟩ | ⟨z1, g1⟩
    · rcases getSet h2 with ⟨e, _⟩ | ⟨z2, g2⟩
      · exact e
      · cases z
        exact absurd (self h1 h3) (hs z2 h4 g2)
    · rcases getSet h2 with ⟨rfl, z⟩ | ⟨z2, g2⟩
      · cases z
        exact absurd (self h2 h4) (hs z1 h3 g1)
      · rw [List.getElem?_set_ne z1] at h3
        rw [List.getElem?_set_ne z2] at h4
        exact r.ow j k x y b g1 g2 h3 h4
end

theorem XW.up {K : PySem.W.Frag} {cn : Cn} {C : Ct} {F F' : Hp} {W : WX} {x : Xc} {Γ : Env} (s : Same F F') (h : XW K cn C F W x Γ) : XW K cn C F' W x Γ := fun cls od σ' F2 H' s2 r q => h cls od σ' F2 H' (s.trans s2) r q
/-! ### judgements -/
section
variable (X : Cx) (cn : Cn) (W : WX)
abbrev EEnd (K : PySem.W.Frag) (cn : Cn) (C : Ct) (σ : St) (F : Hp) (Q : VK) : D × Env → Prop := fun p => ∀ v F' H', Same F F' → RelS K cn C p.2 σ F' H' → Rep K cn F' v p.1 → Q v H'
abbrev NEnd (K : PySem.W.Frag) (cn : Cn) (C : Ct) (σ : St) (F : Hp) (Q : VK) : D × Env → Prop := fun p => ∀ v F' H', Same F F' → RelS K cn C p.2 σ F' H' → NewR K cn C p.2 σ F' H' v p.1 → Q v H'
abbrev QEnd (K : PySem.W.Frag) (cn : Cn) (C : Ct) (σ : St) (F : Hp) (Q : VK) : PV × Env → Prop := fun p => ∀ v F' H', Same F F' → RelS K cn C p.2 σ F' H' → PVR K cn σ F' v p.1 → Q v H'
abbrev TEnd (K : PySem.W.Frag) (cn : Cn) (C : Ct) (σ : St) (F : Hp) (Q : Bool → Hp → Prop) : Bool × Env → Prop := fun p => ∀ F' H', Same F F' → RelS K cn C p.2 σ F' H' → Q p.1 H'
abbrev AEnd (K : PySem.W.Frag) (cn : Cn) (C : Ct) (σ : St) (F : Hp) (Q : List V → Hp → Prop) : List PV × Env → Prop := fun p => ∀ vs F' H', Same F F' → RelS K cn C p.2 σ F' H' → PVRs K cn σ F' vs p.1 → Q vs H'
abbrev LEnd (K : PySem.W.Frag) (cn : Cn) (C : Ct) (σ : St) (F : Hp) (Q : List V → Hp → Prop) : List D × Env → Prop := fun p => ∀ vs F' H', Same F F' → RelS K cn C p.2 σ F' H' → Reps K cn F' vs p.1 → Q vs H'
def DE (K : PySem.W.Frag) (t : TE) (ev : EV) : Prop := ∀ C Γ σ F H Q, RelS K cn C Γ σ F H → Post (ev Γ) (EEnd K cn C σ F Q) (XW K cn C F W) → t σ H Q
def DN (K : PySem.W.Frag) (t : TE) (ev : EV) : Prop := ∀ C Γ σ F H Q, RelS K cn C Γ σ F H → Post (ev Γ) (NEnd K cn C σ F Q) (XW K cn C F W) → t σ H Q
def DQ (K : PySem.W.Frag) (t : TE) (ev : QV) : Prop := ∀ C Γ σ F H Q, RelS K cn C Γ σ F H → Post (ev Γ) (QEnd K cn C σ F Q) (XW K cn C F W) → t σ H Q
def DT (K : PySem.W.Frag) (t : TT) (ev : TV) : Prop := ∀ C Γ σ F H Q, RelS K cn C Γ σ F H → Post (ev Γ) (TEnd K cn C σ F Q) (XW K cn C F W) → t σ H Q
def DA (K : PySem.W.Frag) (t : TA) (ev : AV) : Prop := ∀ C Γ σ F H Q, RelS K cn C Γ σ F H → Post (ev Γ) (AEnd K cn C σ F Q) (XW K cn C F W) → t σ H Q
def DL (K : PySem.W.Frag) (t : TA) (ev : LV) : Prop := ∀ C Γ σ F H Q, RelS K cn C Γ σ F H → Post (ev Γ) (LEnd K cn C σ F Q) (XW K cn C F W) → t σ H Q
def JE (e : Expr) (ev : EV) : Prop := ∃ t, PE X e t ∧ DE cn W X.K t ev
def JN (e : Expr) (ev : EV) : Prop := ∃ t, PE X e t ∧ DN cn W X.K t ev
def JQ (e : Expr) (ev : QV) : Prop := ∃ t, PE X e t ∧ DQ cn W X.K t ev
def JT (e : Expr) (ev : TV) : Prop := ∃ t, PT X e t ∧ DT cn W X.K t ev
def JW (e : Expr) (ev : TV) : Prop := ∃ t, PW X e t ∧ DT cn W X.K t ev
def JA (es : List Expr) (ev : AV) : Prop := ∃ t, PA X es t ∧ DA cn W X.K t ev
def JL (es : List Expr) (ev : LV) : Prop := ∃ t, PA X es t ∧ DL cn W X.K t ev
end

section
variable {X : Cx} {cn : Cn} {W : WX} {a b c e : Expr} {es : List Expr} {pos : Pos} {ea eb : EV} {qa qb qc : QV} {ta tb : TV} {av : AV} {lv : LV}

theorem je_n (i : Nat) {x : Str} {pos : Pos} (hN : X.N[i]? = some x := by rfl) (hv : Vis X.env.scope x := by first | exact Or.inl rfl | exact Or.inr (Or.inl rfl) | exact Or.inr (Or.inr rfl)) (hd : (x == ("__debug__" : Str)) = false := by decide)
    (hcd : (x == ("__classdict__" : Str)) = false := by decide) : JE X cn W (.Name x pos) (eN i) := ⟨_, pe_var hN hv hd hcd, fun C Γ σ F H Q r h => by
  unfold eN at h
  cases q : frzS (get Γ i) with
  | none => rw [q] at h; exact h.elim
  | some p =>
    obtain ⟨d, s⟩ := p
    rw [q] at h
    obtain ⟨v, F', e1, sf, rv, r'⟩ := r.frz q
    exact ⟨v, e1, h v F' H sf r' rv⟩⟩
theorem jq_n (i : Nat) {x : Str} {pos : Pos} (hN : X.N[i]? = some x := by rfl) (hv : Vis X.env.scope x := by first | exact Or.inl rfl | exact Or.inr (Or.inl rfl) | exact Or.inr (Or.inr rfl)) (hd : (x == ("__debug__" : Str)) = false := by decide)
    (hcd : (x == ("__classdict__" : Str)) = false := by decide) : JQ X cn W (.Name x pos) (pN i) := ⟨_, pe_var hN hv hd hcd, fun C Γ σ F H Q r h => by
  unfold pN at h
  cases q : look (get Γ i) with
  | none => rw [q] at h; exact h.elim
  | some d =>
    rw [q] at h
    obtain ⟨v, e1, _⟩ := r.read q
    exact ⟨v, e1, h v F H (Same.refl _) r e1⟩⟩
theorem jq_e (h : JE X cn W e ea) : JQ X cn W e (pE ea) := by
  obtain ⟨t, p, q⟩ := h
  refine ⟨t, p, fun C Γ σ F H Q r h => q C Γ σ F H Q r (h.bind.mono (fun a h v F' H' s r' hv => h v F' H' s r' hv) fun _ _ h => h)⟩
theorem je_c {v : V} {d : D} {t : TE} (p : PE X e (tC v)) (h : ∀ F, Rep X.K cn F v d) : JE X cn W e (eC d) := ⟨_, p, fun C Γ σ F H Q r k => k v F H (Same.refl _) r (h F)⟩
theorem je_int {i : Int} {j pos} : JE X cn W (.Constant (.int i) j pos) (eC (.int i)) := ⟨_, pe_int, fun C Γ σ F H Q r k => k _ F H (Same.refl _) r (.int i)⟩
theorem je_bl {i : Bool} {j pos} : JE X cn W (.Constant (.bool i) j pos) (eC (.bl i)) := ⟨_, pe_bl, fun C Γ σ F H Q r k => k _ F H (Same.refl _) r (.bl i)⟩
theorem je_non {j pos} : JE X cn W (.Constant .none j pos) (eC .non) := ⟨_, pe_non, fun C Γ σ F H Q r k => k _ F H (Same.refl _) r .non⟩
theorem je_str {i : Str} {j pos} : JE X cn W (.Constant (.str i) j pos) (eC (.str i)) := ⟨_, pe_str, fun C Γ σ F H Q r k => k _ F H (Same.refl _) r (.str i)⟩
theorem je_of_jn (h : JN X cn W e ea) : JE X cn W e ea := by
  obtain ⟨t, p, q⟩ := h
  refine ⟨t, p, fun C Γ σ F H Q r h => q C Γ σ F H Q r (h.mono (fun a h v F' H' s0 r' hv => ?_) fun _ _ h => h)⟩
  obtain ⟨F2, s, rv, r2⟩ := hv.frz r'
  exact h v F2 H' (s0.trans s) r2 rv

/-! operations by values -/
/-- what an operation's reading asks is had from the data -/
def R1D (K : PySem.W.Frag) (cn : Cn) (r : V → Hp → VK → Prop) (f : D → Option D) : Prop := ∀ F H x dx d Q, Same F H → Shal K cn F H x dx → f dx = some d → (∀ z F' H', Ext F H F' H' → Rep K cn F' z d → Q z H') → r x H Q
def R2D (K : PySem.W.Frag) (cn : Cn) (r : R2) (f : D → D → Option D) : Prop := ∀ F H x y dx dy d Q, Same F H → Shal K cn F H x dx → Shal K cn F H y dy → f dx dy = some d → (∀ z F' H', Ext F H F' H' → Rep K cn F' z d → Q z H') → r x y H Q
def R2N (K : PySem.W.Frag) (cn : Cn) (r : R2) (f : D → D → Option D) : Prop := ∀ F H x y dx dy d Q, Same F H → Shal K cn F H x dx → Shal K cn F H y dy → f dx dy = some d → (∀ p vs ds, d = .lst ds → H p = none → Reps K cn F vs ds → Q (.ref p) (upd H p (.lst vs))) → r x y H Q
def R1N (K : PySem.W.Frag) (cn : Cn) (r : V → Hp → VK → Prop) (f : D → Option D) : Prop := ∀ F H x dx d Q, Same F H → Shal K cn F H x dx → f dx = some d → (∀ p vs ds, d = .lst ds → H p = none → Reps K cn F vs ds → Q (.ref p) (upd H p (.lst vs))) → r x H Q
theorem de_B {t1 t2 : TE} {r : R2} {f : D → D → Option D} (h : R2D X.K cn r f) (h1 : DQ cn W X.K t1 qa) (h2 : DQ cn W X.K t2 qb) : DE cn W X.K (tOp r t1 t2) (eB f qa qb) := fun C Γ σ F H Q R k => by
  refine h1 C Γ σ F H _ R (k.bind.mono (fun p k v F' H' s1 R1 hv => ?_) fun _ _ z => z)
  refine h2 C p.2 σ F' H' _ R1 (k.bind.mono (fun q k w F2 H2 s2 R2 hw => ?_) fun _ _ z => XW.up s1 z)
  cases e1 : rd q.2 p.1 with
  | none => simp only [e1] at k; exact k.elim
  | some d1 =>
    cases e2 : rd q.2 q.1 with
    | none => simp only [e1, e2] at k; exact k.elim
    | some d2 =>
      simp only [e1, e2] at k
      obtain ⟨z, e3, k⟩ := k.bind.of
      exact h F2 H2 v w d1 d2 z Q R2.bs.fh (R2.rd e1 (hv.mono s2)) (R2.rd e2 hw) e3 fun zv F3 H3 ex rz => k zv F3 H3 ((s1.trans s2).trans ex.f) (R2.ext ex) rz
theorem dn_B {t1 t2 : TE} {r : R2} {f : D → D → Option D} (h : R2N X.K cn r f) (hf : ∀ x y z, f x y = some z → ∃ l, z = .lst l) (h1 : DQ cn W X.K t1 qa) (h2 : DQ cn W X.K t2 qb) : DN cn W X.K (tOp r t1 t2) (eB f qa qb) := fun C Γ σ F H Q R k => by
  refine h1 C Γ σ F H _ R (k.bind.mono (fun p k v F' H' s1 R1 hv => ?_) fun _ _ z => z)
  refine h2 C p.2 σ F' H' _ R1 (k.bind.mono (fun q k w F2 H2 s2 R2 hw => ?_) fun _ _ z => XW.up s1 z)
  cases e1 : rd q.2 p.1 with
  | none => simp only [e1] at k; exact k.elim
  | some d1 =>
    cases e2 : rd q.2 q.1 with
    | none => simp only [e1, e2] at k; exact k.elim
    | some d2 =>
      simp only [e1, e2] at k
      obtain ⟨z, e3, k⟩ := k.bind.of
      refine h F2 H2 v w d1 d2 z Q R2.bs.fh (R2.rd e1 (hv.mono s2)) (R2.rd e2 hw) e3 fun a vs ds ez ha hr => ?_
      subst ez
      obtain ⟨r3, nw⟩ := NewR.laid R2 hr ha
      exact k (.ref a) F2 _ (s1.trans s2) r3 nw
theorem de_U {t1 : TE} {r : V → Hp → VK → Prop} {f : D → Option D} (h : R1D X.K cn r f) (h1 : DQ cn W X.K t1 qa) : DE cn W X.K (fun σ H Q => t1 σ H fun x H1 => r x H1 Q) (eU f qa) := fun C Γ σ F H Q R k => by
  refine h1 C Γ σ F H _ R (k.bind.mono (fun p k v F' H' s1 R1 hv => ?_) fun _ _ z => z)
  cases e1 : rd p.2 p.1 with
  | none => simp only [e1] at k; exact k.elim
  | some d1 =>
    simp only [e1] at k
    obtain ⟨z, e3, k⟩ := k.bind.of
    exact h F' H' v d1 z Q R1.bs.fh (R1.rd e1 hv) e3 fun zv F3 H3 ex rz => k zv F3 H3 (s1.trans ex.f) (R1.ext ex) rz
theorem dn_U {t1 : TE} {r : V → Hp → VK → Prop} {f : D → Option D} (h : R1N X.K cn r f) (h1 : DQ cn W X.K t1 qa) : DN cn W X.K (fun σ H Q => t1 σ H fun x H1 => r x H1 Q) (eU f qa) := fun C Γ σ F H Q R k => by
  refine h1 C Γ σ F H _ R (k.bind.mono (fun p k v F' H' s1 R1 hv => ?_) fun _ _ z => z)
  cases e1 : rd p.2 p.1 with
  | none => simp only [e1] at k; exact k.elim
  | some d1 =>
    simp only [e1] at k
    obtain ⟨z, e3, k⟩ := k.bind.of
    refine h F' H' v d1 z Q R1.bs.fh (R1.rd e1 hv) e3 fun a vs ds ez ha hr => ?_
    subst ez
    obtain ⟨r3, nw⟩ := NewR.laid R1 hr ha
    exact k (.ref a) F' _ s1 r3 nw
/-! arguments -/
theorem ja_nil : JA X cn W [] aNil := ⟨_, pa_nil, fun C Γ σ F H Q r k => k [] F H (Same.refl _) r True.intro⟩
theorem ja_cons (h1 : JQ X cn W e qa) (h2 : JA X cn W es av) (hs : starEach (e :: es) X.env = (false, eval e X.env) :: starEach es X.env := by rfl) : JA X cn W (e :: es) (aCons qa av) := by
  obtain ⟨t1, p1, d1⟩ := h1
  obtain ⟨t2, p2, d2⟩ := h2
  refine ⟨_, pa_cons p1 p2 hs, fun C Γ σ F H Q R k => ?_⟩
  refine d1 C Γ σ F H _ R (k.bind.mono (fun p k v F' H' s1 R1 hv => ?_) fun _ _ z => z)
  exact d2 C p.2 σ F' H' _ R1 (k.bind.mono (fun q k vs F2 H2 s2 R2 hw => k (v :: vs) F2 H2 (s1.trans s2) R2 ⟨hv.mono s2, hw⟩) fun _ _ z => XW.up s1 z)
theorem jl_nil : JL X cn W [] lNil := ⟨_, pa_nil, fun C Γ σ F H Q r k => k [] F H (Same.refl _) r .nil⟩
theorem jl_cons (h1 : JE X cn W e ea) (h2 : JL X cn W es lv) (hs : starEach (e :: es) X.env = (false, eval e X.env) :: starEach es X.env := by rfl) : JL X cn W (e :: es) (lCons ea lv) := by
  obtain ⟨t1, p1, d1⟩ := h1
  obtain ⟨t2, p2, d2⟩ := h2
  refine ⟨_, pa_cons p1 p2 hs, fun C Γ σ F H Q R k => ?_⟩
  refine d1 C Γ σ F H _ R (k.bind.mono (fun p k v F' H' s1 R1 hv => ?_) fun _ _ z => z)
  exact d2 C p.2 σ F' H' _ R1 (k.bind.mono (fun q k vs F2 H2 s2 R2 hw => k (v :: vs) F2 H2 (s1.trans s2) R2 (.cons (hv.mono s2) hw)) fun _ _ z => XW.up s1 z)
theorem rds_ok {C : Ct} {Γ : Env} {σ : St} {F H : Hp} (R : RelS X.K cn C Γ σ F H) : ∀ {ps : List PV} {vs : List V} {ds : List D}, rds Γ ps = some ds → PVRs X.K cn σ F vs ps → Paired (fun v d => Shal X.K cn F H v d) vs ds
  | [], [], ds, h, _ => by cases h; exact .nil
  | [], _ :: _, _, _, q => q.elim
  | _ :: _, [], _, _, q => q.elim
  | p :: ps, v :: vs, ds, h, q => by
    unfold rds at h
    cases e1 : rd Γ p with
    | none => simp only [e1] at h; cases h
    | some d =>
      cases e2 : rds Γ ps with
      | none => simp only [e1, e2] at h; cases h
      | some ds' =>
        simp only [e1, e2] at h
        cases h
        exact .cons (R.rd e1 q.1) (rds_ok R e2 q.2)
def RCD (K : PySem.W.Frag) (cn : Cn) (r : List V → Hp → VK → Prop) (f : List D → Option D) : Prop := ∀ F H vs ds d Q, Same F H → Paired (fun v d => Shal K cn F H v d) vs ds → f ds = some d → (∀ z F' H', Ext F H F' H' → Rep K cn F' z d → Q z H') → r vs H Q
def RCN (K : PySem.W.Frag) (cn : Cn) (r : List V → Hp → VK → Prop) (f : List D → Option D) : Prop := ∀ F H vs ds d Q, Same F H → Paired (fun v d => Shal K cn F H v d) vs ds → f ds = some d → (∀ p vs ds, d = .lst ds → H p = none → Reps K cn F vs ds → Q (.ref p) (upd H p (.lst vs))) → r vs H Q
theorem de_F {t : TA} {r : List V → Hp → VK → Prop} {f : List D → Option D} (h : RCD X.K cn r f) (h1 : DA cn W X.K t av) : DE cn W X.K (fun σ H Q => t σ H fun vs H1 => r vs H1 Q) (eF f av) := fun C Γ σ F H Q R k => by
  refine h1 C Γ σ F H _ R (k.bind.mono (fun p k v F' H' s1 R1 hv => ?_) fun _ _ z => z)
  cases e1 : rds p.2 p.1 with
  | none => simp only [e1] at k; exact k.elim
  | some d1 =>
    simp only [e1] at k
    obtain ⟨z, e3, k⟩ := k.bind.of
    exact h F' H' v d1 z Q R1.bs.fh (rds_ok R1 e1 hv) e3 fun zv F3 H3 ex rz => k zv F3 H3 (s1.trans ex.f) (R1.ext ex) rz
theorem dn_F {t : TA} {r : List V → Hp → VK → Prop} {f : List D → Option D} (h : RCN X.K cn r f) (h1 : DA cn W X.K t av) : DN cn W X.K (fun σ H Q => t σ H fun vs H1 => r vs H1 Q) (eF f av) := fun C Γ σ F H Q R k => by
  refine h1 C Γ σ F H _ R (k.bind.mono (fun p k v F' H' s1 R1 hv => ?_) fun _ _ z => z)
  cases e1 : rds p.2 p.1 with
  | none => simp only [e1] at k; exact k.elim
  | some d1 =>
    simp only [e1] at k
    obtain ⟨z, e3, k⟩ := k.bind.of
    refine h F' H' v d1 z Q R1.bs.fh (rds_ok R1 e1 hv) e3 fun a vs ds ez ha hr => ?_
    subst ez
    obtain ⟨r3, nw⟩ := NewR.laid R1 hr ha
    exact k (.ref a) F' _ s1 r3 nw
/-! the forms with syntax -/
theorem je_op {op : Operator} {r : R2} {f : D → D → Option D} (ho : OpR X (binaryOp op) r) (h : R2D X.K cn r f) (ha : JQ X cn W a qa) (hb : JQ X cn W b qb) : JE X cn W (.BinOp a op b pos) (eB f qa qb) := by
  obtain ⟨t1, p1, d1⟩ := ha
  obtain ⟨t2, p2, d2⟩ := hb
  exact ⟨_, pe_op ho p1 p2, de_B h d1 d2⟩
theorem jn_op {op : Operator} {r : R2} {f : D → D → Option D} (ho : OpR X (binaryOp op) r) (h : R2N X.K cn r f) (hf : ∀ x y z, f x y = some z → ∃ l, z = .lst l) (ha : JQ X cn W a qa) (hb : JQ X cn W b qb) : JN X cn W (.BinOp a op b pos) (eB f qa qb) := by
  obtain ⟨t1, p1, d1⟩ := ha
  obtain ⟨t2, p2, d2⟩ := hb
  exact ⟨_, pe_op ho p1 p2, dn_B h hf d1 d2⟩
theorem je_un {op : UnaryOp} {r : V → Hp → VK → Prop} {f : D → Option D} (ho : UnR X (unaryOp op) r) (h : R1D X.K cn r f) (ha : JQ X cn W a qa) : JE X cn W (.UnaryOp op a pos) (eU f qa) := by
  obtain ⟨t1, p1, d1⟩ := ha
  exact ⟨_, pe_un ho p1, de_U (r := r) h d1⟩
theorem je_cmp {op : CmpOp} {r : R2} {f : D → D → Option D} (ho : OpR X (compareOp op) r) (h : R2D X.K cn r f) (ha : JQ X cn W a qa) (hb : JQ X cn W b qb) (hm : behindInMarks op b = false) : JE X cn W (.Compare a [op] [b] pos) (eB f qa qb) := by
  obtain ⟨t1, p1, d1⟩ := ha
  obtain ⟨t2, p2, d2⟩ := hb
  exact ⟨_, pe_cmpR ho p1 p2 hm, de_B h d1 d2⟩
/-- an expression that gives a bool, as a test -/
theorem dt_of {t : TE} (h : DE cn W X.K t ea) : DT cn W X.K (fun σ H Q => t σ H fun x H' => ∃ k, x = .bl k ∧ Q k H') (tE ea) := fun C Γ σ F H Q R k => by
  refine h C Γ σ F H _ R (k.bind.mono (fun p k v F' H' s1 R1 hv => ?_) fun _ _ z => z)
  obtain ⟨d, Γ'⟩ := p
  cases d with
  | bl b => cases hv; exact ⟨b, rfl, k F' H' s1 R1⟩
  | _ => exact k.elim
theorem jt_cmp {op : CmpOp} {r : R2} {f : D → D → Option D} (ho : OpR X (compareOp op) r) (h : R2D X.K cn r f) (ha : JQ X cn W a qa) (hb : JQ X cn W b qb) (hm : behindInMarks op b = false) : JT X cn W (.Compare a [op] [b] pos) (tE (eB f qa qb)) := by
  obtain ⟨t1, p1, d1⟩ := ha
  obtain ⟨t2, p2, d2⟩ := hb
  exact ⟨_, pt_cmpR ho p1 p2 hm, dt_of (de_B h d1 d2)⟩
theorem jt_e (h : JE X cn W e ea) (he : ∀ whole, isTrue e X.env whole = (do let v ← whole; standAt e.pos; holding [v] (truthy v)) := by intro _; rfl) : JT X cn W e (tE ea) := by
  obtain ⟨t, p, d⟩ := h
  exact ⟨_, pt_val p he, dt_of d⟩
theorem truth_ok {F H : Hp} {v : V} {d : D} {k : Bool} (s : Same F H) (h : Shal X.K cn F H v d) (e : truth d = some k) : TruV X.K v H k := by
  cases d with
  | non => cases h.non; cases e; rfl
  | bl b => cases h.bl; cases e; rfl
  | int i => cases h.int; cases e; rfl
  | str z =>
    cases h.str
    have e : (if z.length ≤ seqMax then some ((z.length : Int) != 0) else none) = some k := e
    split at e
    · rename_i hz; cases e; exact ⟨by rw [sizeLine_eq]; exact hz, rfl⟩
    · cases e
  | lst ds =>
    obtain ⟨a, vs, rfl, q, r⟩ := h
    cases e
    refine .inl ⟨vs, SqL.of q, ?_⟩
    have := r.1
    cases vs <;> cases ds <;> first | rfl | (simp at this)
  | tup ds =>
    obtain ⟨a, vs, rfl, q, r⟩ := h.tup s
    cases e
    refine .inr (.inl ⟨vs, q, ?_⟩)
    have := r.1
    cases vs <;> cases ds <;> first | rfl | (simp at this)
  | dct ds => cases e
  | ins c fs => cases e
  | scr ns => cases e
theorem jt_tru (h : JQ X cn W e qa) (he : ∀ whole, isTrue e X.env whole = (do let v ← whole; standAt e.pos; holding [v] (truthy v)) := by intro _; rfl) : JT X cn W e (tTru qa) := by
  obtain ⟨t, p, d⟩ := h
  refine ⟨_, pt_truth p he, fun C Γ σ F H Q R k => ?_⟩
  refine d C Γ σ F H _ R (k.bind.mono (fun p k v F' H' s1 R1 hv => ?_) fun _ _ z => z)
  cases e1 : rd p.2 p.1 with
  | none => simp only [e1] at k; exact k.elim
  | some d1 =>
    simp only [e1] at k
    obtain ⟨z, e3, k⟩ := k.bind.of
    exact ⟨z, truth_ok R1.bs.fh (R1.rd e1 hv) e3, k F' H' s1 R1⟩
theorem jt_w (h : JW X cn W e ta) : JT X cn W e ta := by
  obtain ⟨t, p, d⟩ := h
  exact ⟨t, p.pt, d⟩
variable {rest : List Expr}
theorem jw_and1 (h : JT X cn W a ta) : JW X cn W (.BoolOp .And [a] pos) ta := by
  obtain ⟨t, p, d⟩ := h
  exact ⟨t, pw_and1 p, d⟩
theorem jw_or1 (h : JT X cn W a ta) : JW X cn W (.BoolOp .Or [a] pos) ta := by
  obtain ⟨t, p, d⟩ := h
  exact ⟨t, pw_or1 p, d⟩
theorem jw_and (h : JT X cn W a ta) (h2 : JW X cn W (.BoolOp .And (b :: rest) pos) tb) : JW X cn W (.BoolOp .And (a :: b :: rest) pos) (eAnd ta tb) := by
  obtain ⟨t, p, d⟩ := h
  obtain ⟨t2, p2, d2⟩ := h2
  refine ⟨_, pw_and p p2, fun C Γ σ F H Q R k => ?_⟩
  refine d C Γ σ F H _ R (k.bind.mono (fun p k F' H' s1 R1 => ?_) fun _ _ z => z)
  obtain ⟨c, Γ1⟩ := p
  cases c with
  | true =>
    rw [if_pos rfl]
    exact d2 C Γ1 σ F' H' _ R1 (Post.mono (P := TEnd X.K cn C σ F Q) (W := XW X.K cn C F W) (by simpa using k) (fun p k F2 H2 s2 R2 => k F2 H2 (s1.trans s2) R2) fun _ _ z => XW.up s1 z)
  | false =>
    rw [if_neg Bool.false_ne_true]
    exact (show ∀ F' H', Same F F' → RelS X.K cn C Γ1 σ F' H' → Q false H' from k) F' H' s1 R1
theorem jw_or (h : JT X cn W a ta) (h2 : JW X cn W (.BoolOp .Or (b :: rest) pos) tb) : JW X cn W (.BoolOp .Or (a :: b :: rest) pos) (eOr ta tb) := by
  obtain ⟨t, p, d⟩ := h
  obtain ⟨t2, p2, d2⟩ := h2
  refine ⟨_, pw_or p p2, fun C Γ σ F H Q R k => ?_⟩
  refine d C Γ σ F H _ R (k.bind.mono (fun p k F' H' s1 R1 => ?_) fun _ _ z => z)
  obtain ⟨c, Γ1⟩ := p
  cases c with
  | false =>
    rw [if_neg Bool.false_ne_true]
    exact d2 C Γ1 σ F' H' _ R1 (Post.mono (P := TEnd X.K cn C σ F Q) (W := XW X.K cn C F W) (by simpa using k) (fun p k F2 H2 s2 R2 => k F2 H2 (s1.trans s2) R2) fun _ _ z => XW.up s1 z)
  | true =>
    rw [if_pos rfl]
    exact (show ∀ F' H', Same F F' → RelS X.K cn C Γ1 σ F' H' → Q true H' from k) F' H' s1 R1
theorem jt_not (h : JT X cn W a ta) : JT X cn W (.UnaryOp .Not a pos) (eNot ta) := by
  obtain ⟨t, p, d⟩ := h
  refine ⟨_, pt_not p, fun C Γ σ F H Q R k => ?_⟩
  exact d C Γ σ F H _ R (k.bind.mono (fun p k F' H' s1 R1 => k F' H' s1 R1) fun _ _ z => z)
/-! displays -/
theorem je_tup {x1} (h : JL X cn W es lv) : JE X cn W (.Tuple es x1 pos) (eTup lv) := by
  obtain ⟨t, p, d⟩ := h
  refine ⟨_, pe_tup p, fun C Γ σ F H Q R k => ?_⟩
  refine d C Γ σ F H _ R (k.bind.mono (fun p k vs F' H' s1 R1 hv => ?_) fun _ _ z => z)
  obtain ⟨ds, Γ1⟩ := p
  dsimp only at k
  split at k
  · rename_i hz
    refine ⟨by rw [hv.1, sizeLine_eq]; exact hz, fun p hp => ?_⟩
    have ex := Ext.new (o := HO.tup vs) R1.bs.fh hp
    exact k _ _ _ (s1.trans ex.f) (R1.ext ex) (.tup (SqT.of upd_same) hv.1 (hv.mono ex.f).2)
  · exact k.elim
theorem jn_lst (h : JL X cn W es lv) : JN X cn W (.List es pos) (nLst lv) := by
  obtain ⟨t, p, d⟩ := h
  refine ⟨_, pe_lst p, fun C Γ σ F H Q R k => ?_⟩
  refine d C Γ σ F H _ R (k.bind.mono (fun p k vs F' H' s1 R1 hv => ?_) fun _ _ z => z)
  obtain ⟨ds, Γ1⟩ := p
  dsimp only at k
  split at k
  · rename_i hz
    refine ⟨by rw [hv.1, sizeLine_eq]; exact hz, fun p hp => ?_⟩
    obtain ⟨r3, nw⟩ := NewR.laid R1 hv hp
    exact k _ _ _ s1 r3 nw
  · exact k.elim
theorem je_if {t : Expr} (ht : JT X cn W t ta) (ha : JE X cn W a ea) (hb : JE X cn W b eb) : JE X cn W (.IfExp t a b pos) (eIf ta ea eb) := by
  obtain ⟨t0, p0, d0⟩ := ht
  obtain ⟨t1, p1, d1⟩ := ha
  obtain ⟨t2, p2, d2⟩ := hb
  refine ⟨_, pe_ifExp p0 p1 p2, fun C Γ σ F H Q R k => ?_⟩
  refine d0 C Γ σ F H _ R (k.bind.mono (fun p k F' H' s1 R1 => ?_) fun _ _ z => z)
  obtain ⟨c, Γ1⟩ := p
  cases c with
  | true =>
    rw [if_pos rfl]
    refine d1 C Γ1 σ F' H' _ R1 (Post.mono (P := EEnd X.K cn C σ F Q) (W := XW X.K cn C F W) (by simpa using k) (fun p k v F2 H2 s2 R2 hv => k v F2 H2 (s1.trans s2) R2 hv) fun _ _ z => XW.up s1 z)
  | false =>
    rw [if_neg Bool.false_ne_true]
    refine d2 C Γ1 σ F' H' _ R1 (Post.mono (P := EEnd X.K cn C σ F Q) (W := XW X.K cn C F W) (by simpa using k) (fun p k v F2 H2 s2 R2 hv => k v F2 H2 (s1.trans s2) R2 hv) fun _ _ z => XW.up s1 z)
theorem lookP {F : Hp} {f : Nat} {z : D} (hi : ∀ g, cn.fa g = cn.fa f → g = f) : ∀ {fvs : List (Str × V)} {fs : List (Nat × D)}, fvs.map (·.1) = fs.map (fun p => cn.fa p.1) → (∀ (i : Nat) v d, fvs[i]? = some v → fs[i]? = some d → Rep X.K cn F v.2 d.2) → fs.lookup f = some z → ∃ v, fvs.lookup (cn.fa f) = some v ∧ Rep X.K cn F v z
  | [], [], _, _, e => by cases e
  | [], _ :: _, hk, _, _ => by simp at hk
  | _ :: _, [], hk, _, _ => by simp at hk
  | (g', x) :: xs, (g, y) :: ys, hk, r, e => by
    simp only [List.map_cons, List.cons.injEq] at hk
    obtain ⟨hk1, hk2⟩ := hk
    have hk1 : g' = cn.fa g := hk1
    subst hk1
    simp only [List.lookup] at e ⊢
    by_cases q : f = g
    · subst q
      simp only [beq_self_eq_true] at e ⊢
      cases e
      exact ⟨x, rfl, r 0 _ _ rfl rfl⟩
    · have q1 : (f == g) = false := beq_eq_false_iff_ne.mpr q
      have q2 : (cn.fa f == cn.fa g) = false := beq_eq_false_iff_ne.mpr fun z => q (hi g z.symm).symm
      simp only [q1] at e
      simp only [q2]
      exact lookP hi hk2 (fun i v d a b => r (i + 1) v d (by simpa using a) (by simpa using b)) e
theorem je_fld {c f : Nat} {fs : Str} (h : JE X cn W e ea) (hn : cn.fa f = fs) (hi : ∀ g, cn.fa g = cn.fa f → g = f) (hc : Cls X.K (cn.ca c)) (hna : NoAttr X.K (cn.ca c) fs) (hb : attributeBase e fs X.env (eval e X.env) = eval e X.env := by rfl) : JE X cn W (.Attribute e fs pos) (eFld c f ea) := by
  obtain ⟨t, p, d⟩ := h
  refine ⟨_, pe_fld p hb, fun C Γ σ F H Q R k => ?_⟩
  refine d C Γ σ F H _ R (k.bind.mono (fun p k v F' H' s1 R1 hv => ?_) fun _ _ z => z)
  obtain ⟨d, Γ1⟩ := p
  dsimp only at k
  obtain ⟨z, e3, kk⟩ := k.bind.of
  cases d with
  | ins c2 fs =>
    have e4 : (if c2 = c then fs.lookup f else none) = some z := e3
    by_cases ec : c2 = c
    · rw [if_pos ec] at e4
      subst ec
      cases hv with
      | @ins a dx fvs _ _ h hk r =>
        obtain ⟨v, l, rv⟩ := lookP hi hk r e4
        rw [hn] at l
        exact ⟨a, _, dx, fvs, v, rfl, R1.bs.fh _ _ h, hc, hna, l, kk v F' H' s1 R1 rv⟩
    · rw [if_neg ec] at e4; cases e4
  | _ => cases e3
end
end Ed

set_option autoImplicit true
set_option Elab.async false
set_option linter.all false
set_option maxRecDepth 100000
/-! statements, loops -/
namespace Ed
open PySem L2

section
variable (K : PySem.W.Frag) (cn : Cn) (W : WX)
def DVR (C : Ct) (F H : Hp) (v : V) : DV → Prop
  | .fz d => Rep K cn F v d
  | .fr d => ∃ a, v = .ref a ∧ F a = none ∧ C.H0 a = none ∧ OwnR K cn F H a d
def SEnd (C : Ct) (F : Hp) (Dn : Ends) : Ctl × Env → Prop
  | (.nx, Γ) => ∀ σ' F' H', Same F F' → RelS K cn C Γ σ' F' H' → Dn.nx σ' H'
  | (.brk, Γ) => ∀ σ' F' H', Same F F' → RelS K cn C Γ σ' F' H' → Dn.bk σ' H'
  | (.cnt, Γ) => ∀ σ' F' H', Same F F' → RelS K cn C Γ σ' F' H' → Dn.ct σ' H'
  | (.ret o, Γ) => ∀ v F' H', Same F F' → Bas C F' H' →  DVR K cn C F' H' v o → Dn.rt v H'
def DS (t : TS) (sv : SV) : Prop := ∀ C Γ σ F H Dn, RelS K cn C Γ σ F H → Post (sv Γ) (SEnd K cn C F Dn) (XW K cn C F W) → t Dn σ H
def ItD (C : Ct) (F : Hp) (J : It) (ds : List D) : Prop := ∀ (i : Nat) F2 H2, Same F F2 → Bas C F2 H2 →
  (∀ d, ds[i]? = some d → J.go i H2 ∧ ∀ x H3, J.yld i H2 x H3 → ∃ F3, Ext F2 H2 F3 H3 ∧ Rep K cn F3 x d) ∧ (ds.length ≤ i → J.stop i H2)
def DI (wi : TI) (lv : LV) : Prop := ∀ C Γ σ F H (R : It → Hp → Prop), RelS K cn C Γ σ F H →
  Post (lv Γ) (fun p => ∀ J F' H', Same F F' → RelS K cn C p.2 σ F' H' → ItD K cn C F' J p.1 → R J H') (XW K cn C F W) → wi σ H R
def DG (g : TG) (gv : GV) : Prop := ∀ C Γ σ F H v d Γ' N, RelS K cn C Γ σ F H → Rep K cn F v d → gv d Γ = some Γ' → (∀ σ' F' H', Same F F' → RelS K cn C Γ' σ' F' H' → N σ' H') → g v σ H N
def DGs (g : TGs) (gv : List GV) : Prop := ∀ C Γ σ F H vs ds Γ' N, RelS K cn C Γ σ F H → Reps K cn F vs ds → gs gv ds Γ = some Γ' → (∀ σ' F' H', Same F F' → RelS K cn C Γ' σ' F' H' → N σ' H') → g vs σ H N
end
section
variable (X : Cx) (cn : Cn) (W : WX)
def JS (st : Stmt) (sv : SV) : Prop := ∃ t, PS X st t ∧ DS X.K cn W t sv
def JSs (st : List Stmt) (sv : SV) : Prop := ∃ t, PSs X st t ∧ DS X.K cn W t sv
def JI (tg it : Expr) (lv : LV) : Prop := ∃ wi, PI X tg it wi ∧ DI X.K cn W wi lv
def JG (tg : Expr) (gv : GV) : Prop := ∃ g, PG X tg g ∧ DG X.K cn g gv
def JGs (tgs : List Expr) (gv : List GV) : Prop := ∃ g, PGs X tgs g ∧ DGs X.K cn g gv
end

section
variable {X : Cx} {cn : Cn} {W : WX} {a b c e : Expr} {es : List Expr} {pos : Pos} {ea eb : EV} {qa qb qc : QV} {ta tb : TV} {av : AV} {lv : LV} {st : Stmt} {rest : List Stmt} {sa sb : SV}
theorem SEnd.mono {C : Ct} {F F2 : Hp} {Dn Dn' : Ends} (s : Same F F2) (h1 : ∀ σ H, Dn.nx σ H → Dn'.nx σ H) (h2 : ∀ v H, Dn.rt v H → Dn'.rt v H) (h3 : ∀ σ H, Dn.bk σ H → Dn'.bk σ H) (h4 : ∀ σ H, Dn.ct σ H → Dn'.ct σ H) :
    ∀ p, SEnd X.K cn C F Dn p → SEnd X.K cn C F2 Dn' p
  | (.nx, Γ), h => fun σ' F' H' s2 r => h1 _ _ (h σ' F' H' (s.trans s2) r)
  | (.brk, Γ), h => fun σ' F' H' s2 r => h3 _ _ (h σ' F' H' (s.trans s2) r)
  | (.cnt, Γ), h => fun σ' F' H' s2 r => h4 _ _ (h σ' F' H' (s.trans s2) r)
  | (.ret o, Γ), h => fun v F' H' s2 b r => h2 _ _ (h v F' H' (s.trans s2) b r)
theorem js_pass : JS X cn W (.Pass pos) sNext := ⟨_, ps_pass, fun C Γ σ F H Dn R k => k σ F H (Same.refl _) R⟩
theorem js_brk : JS X cn W (.Break pos) sBrk := ⟨_, ps_break, fun C Γ σ F H Dn R k => k σ F H (Same.refl _) R⟩
theorem js_cnt : JS X cn W (.Continue pos) sCnt := ⟨_, ps_continue, fun C Γ σ F H Dn R k => k σ F H (Same.refl _) R⟩
theorem js_doc {x j pos pos'} : JS X cn W (.Expr (.Constant (.str x) j pos) pos') sNext := ⟨_, ps_doc, fun C Γ σ F H Dn R k => k σ F H (Same.refl _) R⟩
theorem jss_nil : JSs X cn W [] sNext := ⟨_, pss_nil, fun C Γ σ F H Dn R k => k σ F H (Same.refl _) R⟩
theorem jss_one (h : JS X cn W st sa) : JSs X cn W [st] sa := by
  obtain ⟨t, p, d⟩ := h
  exact ⟨t, pss_one p, d⟩
theorem jss_cons (h : JS X cn W st sa) (h2 : JSs X cn W rest sb) : JSs X cn W (st :: rest) (sSeq sa sb) := by
  obtain ⟨t, p, d⟩ := h
  obtain ⟨t2, p2, d2⟩ := h2
  refine ⟨_, pss_cons p p2, fun C Γ σ F H Dn R k => ?_⟩
  refine d C Γ σ F H { Dn with nx := t2 Dn } R (k.bind.mono (fun p k => ?_) fun _ _ z => z)
  obtain ⟨c, Γ1⟩ := p
  cases c with
  | nx => exact fun σ' F' H' s r => d2 C Γ1 σ' F' H' Dn r (Post.mono (P := SEnd X.K cn C F Dn) (W := XW X.K cn C F W) k (SEnd.mono s (fun _ _ z => z) (fun _ _ z => z) (fun _ _ z => z) fun _ _ z => z) fun _ _ z => XW.up s z)
  | brk => exact k
  | cnt => exact k
  | ret o => exact k
theorem js_set {i : Nat} {x : Str} {pos' : Pos} (hN : X.N.Nodup) (hi : X.N[i]? = some x) (hx : Loc X.env.scope x) (he : JE X cn W e ea) (hs : swapsWith e (some (.Name x pos')) pos.line X.env = pure false := by rfl) (hf : X.fn x = true ∨ X.env.scope.names.lookup x = some .local := by first | exact .inl rfl | exact .inr rfl | assumption) :
    JS X cn W (.Assign [.Name x pos'] e pos) (sSet i ea) := by
  obtain ⟨t, p, d⟩ := he
  refine ⟨_, ps_set hN hi hx p hs hf, fun C Γ σ F H Dn R k => ?_⟩
  exact d C Γ σ F H _ R (k.bind.mono (fun p k v F' H' s r rv => k _ F' H' s (r.setV rv)) fun _ _ z => z)
theorem js_own {i : Nat} {x : Str} {pos' : Pos} (hN : X.N.Nodup) (hi : X.N[i]? = some x) (hx : Loc X.env.scope x) (he : JN X cn W e ea) (hs : swapsWith e (some (.Name x pos')) pos.line X.env = pure false := by rfl) (hf : X.fn x = true ∨ X.env.scope.names.lookup x = some .local := by first | exact .inl rfl | exact .inr rfl | assumption) :
    JS X cn W (.Assign [.Name x pos'] e pos) (sOwn i ea) := by
  obtain ⟨t, p, d⟩ := he
  refine ⟨_, ps_set hN hi hx p hs hf, fun C Γ σ F H Dn R k => ?_⟩
  exact d C Γ σ F H _ R (k.bind.mono (fun p k v F' H' s r rv => k _ F' H' s (r.setO rv)) fun _ _ z => z)
theorem js_drop (he : JE X cn W e ea) (hs : swapsWith e none pos.line X.env = pure false := by rfl) : JS X cn W (.Expr e pos) (sDrop ea) := by
  obtain ⟨t, p, d⟩ := he
  refine ⟨_, ps_expr p hs, fun C Γ σ F H Dn R k => ?_⟩
  exact d C Γ σ F H _ R (k.bind.mono (fun p k v F' H' s r rv => k _ F' H' s r) fun _ _ z => z)
theorem js_ret (he : JE X cn W e ea) : JS X cn W (.Return (some e) pos) (sRet ea) := by
  obtain ⟨t, p, d⟩ := he
  refine ⟨_, ps_ret p, fun C Γ σ F H Dn R k => ?_⟩
  exact d C Γ σ F H _ R (k.bind.mono (fun p k v F' H' s r rv => k v F' H' s r.bs rv) fun _ _ z => z)
theorem js_retN : JS X cn W (.Return none pos) sRetN := ⟨_, ps_retN, fun C Γ σ F H Dn R k => k .non F H (Same.refl _) R.bs .non⟩
theorem js_retO (he : JN X cn W e ea) : JS X cn W (.Return (some e) pos) (sRetO ea) := by
  obtain ⟨t, p, d⟩ := he
  refine ⟨_, ps_ret p, fun C Γ σ F H Dn R k => ?_⟩
  exact d C Γ σ F H _ R (k.bind.mono (fun p k v F' H' s r rv => k v F' H' s r.bs (let ⟨a, q1, q2, q3, q4, _⟩ := rv; ⟨a, q1, q2, q3, q4⟩)) fun _ _ z => z)
theorem js_retX (i : Nat) {x : Str} {px : Pos} (hN : X.N[i]? = some x := by rfl) (hv : Vis X.env.scope x := by first | exact Or.inl rfl | exact Or.inr (Or.inl rfl) | exact Or.inr (Or.inr rfl)) (hd : (x == ("__debug__" : Str)) = false := by decide)
    (hcd : (x == ("__classdict__" : Str)) = false := by decide) : JS X cn W (.Return (some (.Name x px)) pos) (sRetX i) := by
  refine ⟨_, ps_ret (pe_var hN hv hd hcd), fun C Γ σ F H Dn R k => ?_⟩
  unfold sRetX at k
  cases q : get Γ i with
  | own d =>
    rw [q] at k
    obtain ⟨a, e1, n, n0, r1⟩ := R.at q (fun z => by cases z)
    exact ⟨_, join_some e1, k _ F H (Same.refl _) R.bs ⟨a, rfl, n, n0, r1⟩⟩
  | val d =>
    rw [q] at k
    obtain ⟨v, e1, rv⟩ := R.at q (fun z => by cases z)
    exact ⟨_, join_some e1, k v F H (Same.refl _) R.bs rv⟩
  | _ => rw [q] at k; exact k.elim
theorem js_if {t : Expr} {s1 s2 : List Stmt} (ht : JT X cn W t ta) (ha : JSs X cn W s1 sa) (hb : JSs X cn W s2 sb) : JS X cn W (.If t s1 s2 pos) (sIf ta sa sb) := by
  obtain ⟨t0, p0, d0⟩ := ht
  obtain ⟨t1, p1, d1⟩ := ha
  obtain ⟨t2, p2, d2⟩ := hb
  refine ⟨_, ps_if p0 p1 p2, fun C Γ σ F H Dn R k => ?_⟩
  refine d0 C Γ σ F H _ R (k.bind.mono (fun p k F' H' s1 R1 => ?_) fun _ _ z => z)
  obtain ⟨c, Γ1⟩ := p
  cases c with
  | true =>
    rw [if_pos rfl]
    exact d1 C Γ1 σ F' H' _ R1 (Post.mono (P := SEnd X.K cn C F Dn) (W := XW X.K cn C F W) (by simpa using k) (SEnd.mono s1 (fun _ _ z => z) (fun _ _ z => z) (fun _ _ z => z) fun _ _ z => z) fun _ _ z => XW.up s1 z)
  | false =>
    rw [if_neg Bool.false_ne_true]
    exact d2 C Γ1 σ F' H' _ R1 (Post.mono (P := SEnd X.K cn C F Dn) (W := XW X.K cn C F W) (by simpa using k) (SEnd.mono s1 (fun _ _ z => z) (fun _ _ z => z) (fun _ _ z => z) fun _ _ z => z) fun _ _ z => XW.up s1 z)
/-! an owned list changed -/
theorem RelS.mut {C : Ct} {Γ : Env} {σ : St} {F H : Hp} (R : RelS X.K cn C Γ σ F H) {i : Nat} {d d' : D} {a : Addr} {o : HO} (g : get Γ i = .own d) (e : σ[i]? = some (some (V.ref a))) (ho : OwnR X.K cn F (upd H a o) a d') :
    RelS X.K cn C (put Γ i (.own d')) σ F (upd H a o) := by
  have gi := get_some g (fun z => by cases z)
  obtain ⟨b, e1, n, n0, r1⟩ := R.at g (fun z => by cases z)
  have e2 := join_some e1
  rw [e] at e2
  cases e2
  refine ⟨⟨same_out R.bs.fh n, R.bs.f0, fun b o' h1 h2 => ?_, R.bs.nw, fun b hb => ⟨(R.bs.si b hb).1, ?_⟩, R.bs.b0⟩, by rw [put_eq, List.length_set]; exact R.len, fun j t h => ?_, fun j k x y b h1 h2 h3 h4 => ?_, s0_put R.s0 (.inr fun _ _ z => by cases z)⟩
  · have hb : b ≠ a := fun z => by subst z; rw [n0] at h1; cases h1
    rw [upd_ne hb]; exact R.bs.h0 b o' h1 h2
  · obtain ⟨o2, h2⟩ := (R.bs.si b hb).2
    by_cases z : b = a
    · subst z; exact ⟨_, upd_same⟩
    · exact ⟨o2, by rw [upd_ne z]; exact h2⟩
  · rw [put_eq] at h
    rcases getSet h with ⟨rfl, rfl⟩ | ⟨z, h⟩
    · exact ⟨a, e1, n, n0, ho⟩
    · have w := R.sl j t h
      cases t with
      | emp => trivial
      | val x => exact w
      | own x =>
        obtain ⟨b, q1, m, m0, r2⟩ := w
        have hb : b ≠ a := fun e3 => z (R.ow i j _ _ a gi h e (by rw [← e3]; exact join_some q1))
        refine ⟨b, q1, m, m0, ?_⟩
        cases x with
        | lst ds => obtain ⟨vs, h, p⟩ := r2; exact ⟨vs, by rw [upd_ne hb]; exact h, p⟩
        | dct ds => obtain ⟨vs, h, p⟩ := r2; exact ⟨vs, by rw [upd_ne hb]; exact h, p⟩
        | _ => exact r2.elim
      | bor x => exact w
      | slf c fs =>
        obtain ⟨b, dx, fvs, q1, q2, m, h5, r2⟩ := w
        have hb : b ≠ a := fun e3 => by
          subst e3
          obtain ⟨c', dx', fs', q0⟩ := (R.bs.si _ q2).1
          rw [n0] at q0; cases q0
        exact ⟨b, dx, fvs, q1, q2, m, by rw [upd_ne hb]; exact h5, r2⟩
      | exn x => exact w
  · rw [put_eq] at h1 h2
    have up : ∀ {j : Nat} {x : D}, (Γ.set i (.own d'))[j]? = some (.own x) → ∃ x', Γ[j]? = some (.own x') := fun {j x} h => by
      rcases getSet h with ⟨rfl, _⟩ | ⟨_, h⟩
      · exact ⟨_, gi⟩
      · exact ⟨_, h⟩
    obtain ⟨x', g1⟩ := up h1
    obtain ⟨y', g2⟩ := up h2
    exact R.ow j k x' y' b g1 g2 h3 h4
theorem js_app (i : Nat) {x : Str} {px pa pos2 pos3 : Pos} (he : JE X cn W e ea) (hN : X.N[i]? = some x := by rfl) (hv : Vis X.env.scope x := by first | exact Or.inl rfl | exact Or.inr (Or.inl rfl) | exact Or.inr (Or.inr rfl)) (hd : (x == ("__debug__" : Str)) = false := by decide)
    (hcd : (x == ("__classdict__" : Str)) = false := by decide) (hst : starEach [e] X.env = [(false, eval e X.env)] := by rfl) (pe : ∀ t, PE X e t → PE X (.Call (.Attribute (.Name x px) "append" pa) [e] [] pos2) (tBM X.K "list" rAppend (tVar i) (tCons t tNil)))
    (hs : swapsWith (.Call (.Attribute (.Name x px) "append" pa) [e] [] pos2) none pos3.line X.env = pure false := by rfl) : JS X cn W (.Expr (.Call (.Attribute (.Name x px) "append" pa) [e] [] pos2) pos3) (sApp i ea) := by
  obtain ⟨t, p, d⟩ := he
  refine ⟨_, ps_expr (pe t p) hs, fun C Γ σ F H Dn R k => ?_⟩
  unfold sApp at k
  cases q : look (get Γ i) with
  | none => rw [q] at k; exact k.elim
  | some x0 =>
    rw [q] at k
    obtain ⟨v0, e0, s0⟩ := R.read q
    cases x0 with
    | lst xs0 =>
      obtain ⟨l, ws, rfl, hq, _⟩ := s0
      refine ⟨.ref l, e0, .inl ⟨rfl, _, SqL.of hq⟩, ?_⟩
      refine d C Γ σ F H _ R (k.bind.mono (fun p k v F' H' s r rv => ?_) fun _ _ z => z)
      obtain ⟨d1, Γ1⟩ := p
      dsimp only at k
      cases q1 : get Γ1 i with
      | own d2 =>
        cases d2 with
        | lst xs =>
          rw [q1] at k
          dsimp only at k
          split at k
          · rename_i hz
            obtain ⟨a, e1, n, n0, vs, hvs, rvs⟩ := r.at q1 (fun z => by cases z)
            have e2 := join_some e1
            rw [e0] at e2
            cases e2
            refine ⟨l, vs, v, rfl, rfl, hvs, by rw [rvs.1, sizeLine_eq]; exact hz, ?_⟩
            refine k σ F' _ s (r.mut q1 (join_some e1) ?_)
            exact ⟨_, upd_same, rvs.app (.cons rv .nil)⟩
          · exact k.elim
        | _ => rw [q1] at k; exact k.elim
      | _ => rw [q1] at k; exact k.elim
    | _ => exact k.elim
theorem js_while {t : Expr} {body : List Stmt} {n : Nat} (hp : PassesOwn (model X.prog X.w) X.A X.env X.xe) (ht : JT X cn W t ta) (hb : JSs X cn W body sb) : JS X cn W (.While t body [] pos) (sWhl n ta sb) := by
  obtain ⟨t0, p0, d0⟩ := ht
  obtain ⟨t1, p1, d1⟩ := hb
  refine ⟨_, ps_while hp p0 p1, fun C Γ σ F H Dn R k => ?_⟩
  refine ⟨fun m σ H => ∃ Γ1 F1, Same F F1 ∧ RelS X.K cn C Γ1 σ F1 H ∧ Post (whl ta sb m Γ1) (SEnd X.K cn C F Dn) (XW X.K cn C F W), ⟨n, Γ, F, Same.refl _, R, k⟩, ?_⟩
  rintro m σ1 H1 ⟨Γ1, F1, s1, R1, k1⟩
  cases m with
  | zero => exact k1.elim
  | succ m =>
    refine d0 C Γ1 σ1 F1 H1 _ R1 ((show Post ((ta Γ1).bind _) _ _ from k1).bind.mono (fun p k F' H' s2 R2 => ?_) fun _ _ z => XW.up s1 z)
    obtain ⟨c, Γ2⟩ := p
    cases c with
    | true =>
      rw [if_pos rfl]
      refine ⟨fun σ' H' => ∃ Γ3 F3, Same F F3 ∧ RelS X.K cn C Γ3 σ' F3 H' ∧ Post (whl ta sb m Γ3) (SEnd X.K cn C F Dn) (XW X.K cn C F W), fun σ' H' q => ⟨m, Nat.lt_succ_self _, q⟩, ?_⟩
      refine d1 C Γ2 σ1 F' H' _ R2 ?_
      simp only [if_true] at k
      cases eb : sb Γ2 with
      | ok p =>
        rw [eb] at k
        obtain ⟨c, Γ3⟩ := p
        cases c with
        | nx => exact fun σ' F3 H3 s3 R3 => ⟨Γ3, F3, (s1.trans s2).trans s3, R3, k⟩
        | cnt => exact fun σ' F3 H3 s3 R3 => ⟨Γ3, F3, (s1.trans s2).trans s3, R3, k⟩
        | brk => exact fun σ' F3 H3 s3 R3 => k σ' F3 H3 ((s1.trans s2).trans s3) R3
        | ret o => exact fun v F3 H3 s3 b r => k v F3 H3 ((s1.trans s2).trans s3) b r
      | exc x Γ3 => rw [eb] at k; exact XW.up (s1.trans s2) k
      | bad => rw [eb] at k; exact k
    | false =>
      rw [if_neg Bool.false_ne_true]
      simp only [Bool.false_eq_true, if_false] at k
      exact k σ1 F' H' (s1.trans s2) R2
/-! targets -/
theorem jg_n (i : Nat) {x : Str} (hN : X.N.Nodup) (hi : X.N[i]? = some x := by rfl) (hx : Loc X.env.scope x := by first | exact Or.inl rfl | exact Or.inr rfl) (hf : X.fn x = true ∨ X.env.scope.names.lookup x = some .local := by first | exact .inl rfl | exact .inr rfl | assumption) : JG X cn (.Name x pos) (gN i) :=
  ⟨_, pg_name hN hi hx hf, fun C Γ σ F H v d Γ' N R rv e k => by
    cases e
    exact k _ F H (Same.refl _) (R.setV rv)⟩
theorem jgs_nil : JGs X cn [] [] := ⟨_, pgs_nil, fun C Γ σ F H vs ds Γ' N R rv e k => by
  cases ds with
  | nil =>
    cases e
    exact ⟨rv.inv0, k _ F H (Same.refl _) R⟩
  | cons d ds => cases e⟩
theorem jgs_cons {g : GV} {gr : List GV} (h1 : JG X cn e g) (h2 : JGs X cn es gr) (hs : (assignEach (e :: es) X.env).map (·.2) = assign e X.env :: (assignEach es X.env).map (·.2) := by rfl) : JGs X cn (e :: es) (g :: gr) := by
  obtain ⟨t1, p1, d1⟩ := h1
  obtain ⟨t2, p2, d2⟩ := h2
  refine ⟨_, pgs_cons p1 p2 hs, fun C Γ σ F H vs ds Γ' N R rv e k => ?_⟩
  cases ds with
  | nil => cases e
  | cons d ds =>
    obtain ⟨v, vs', rfl, r1, r2⟩ := rv.inv
    unfold gs at e
    cases q : g d Γ with
    | none => rw [q] at e; cases e
    | some Γ1 =>
      rw [q] at e
      exact ⟨v, vs', rfl, d1 C Γ σ F H v d Γ1 _ R r1 q fun σ' F' H' s R1 => d2 C Γ1 σ' F' H' vs' ds Γ' N R1 (r2.mono s) e fun σ2 F2 H2 s2 R2 => k σ2 F2 H2 (s.trans s2) R2⟩
theorem jg_t {k : Nat} {gl : List GV} {n : Nat} (hc : X.calm = true) (h : JGs X cn es gl) (hg : gl.length = n := by rfl) (hn : (assignEach es X.env).length = n := by rfl) (hst : (assignEach es X.env).findIdx? (·.1) = none := by rfl) : JG X cn (.Tuple es k pos) (gT gl) := by
  obtain ⟨t, p, d⟩ := h
  have pp : PG X (.Tuple es k pos) (fun v σ H Q => gTup X.K n t v σ H Q ∨ gLst X.K n t v σ H Q) := ⟨fun pins s σ H v u Q I r q => q.elim (fun q => (pg_tup hc p hn hst).run pins s σ H v u Q I r q) fun q => (pg_lst hc p hn hst).run pins s σ H v u Q I r q⟩
  refine ⟨_, pp, fun C Γ σ F H v x Γ' N R rv e kk => ?_⟩
  have len : ∀ {ds : List D} {gl : List GV} {Γ Γ' : Env}, gs gl ds Γ = some Γ' → ds.length = gl.length := by
    intro ds
    induction ds with
    | nil => intro gl Γ Γ' e; cases gl with
      | nil => rfl
      | cons g r => cases e
    | cons d ds ih =>
      intro gl Γ Γ' e
      cases gl with
      | nil => cases e
      | cons g r =>
        unfold gs at e
        cases q : g d Γ with
        | none => rw [q] at e; cases e
        | some Γ1 => rw [q] at e; simp [ih e]
  cases x with
  | tup ds =>
    obtain ⟨a, vs, rfl, hq, r⟩ := Rep.tupE R.bs.fh rv
    exact .inl ⟨a, vs, rfl, hq, by rw [r.1, ← hg]; exact len e, d C Γ σ F H vs ds Γ' N R r e kk⟩
  | lst ds =>
    cases rv with
    | lst hq hl r => exact .inr ⟨_, _, rfl, SqL.of (R.bs.fh _ _ hq), by rw [hl, ← hg]; exact len e, d C Γ σ F H _ ds Γ' N R ⟨hl, r⟩ e kk⟩
  | _ => cases e
theorem js_asg {tg : Expr} {g : GV} (he : JE X cn W e ea) (hg : JG X cn tg g) (hs : swapsWithSole [tg] e pos.line X.env = pure false := by rfl) (hw : swappedStores [tg] e X.env = pure none := by rfl)
    (h1 : (assignEach [tg] X.env).map (·.2) = [assign tg X.env] := by rfl) : JS X cn W (.Assign [tg] e pos) (sAsg g ea) := by
  obtain ⟨t, p, d⟩ := he
  obtain ⟨t1, p1, d1⟩ := hg
  refine ⟨_, ps_asg p p1 hs hw h1, fun C Γ σ F H Dn R k => ?_⟩
  refine d C Γ σ F H _ R (k.bind.mono (fun p k v F' H' s r rv => ?_) fun _ _ z => z)
  cases q : g p.1 p.2 with
  | none => simp only [q] at k; exact k.elim
  | some Γ2 =>
    simp only [q] at k
    exact d1 C p.2 σ F' H' v p.1 Γ2 _ r rv q fun σ' F2 H2 s2 R2 => k σ' F2 H2 (s.trans s2) R2
/-! loops -/
theorem js_for {tg it : Expr} {body : List Stmt} {g : GV} {lv : LV} (hp : PassesOwn (model X.prog X.w) X.A X.env X.xe) (hc : X.calm = true) (hi : JI X cn W tg it lv) (hg : JG X cn tg g) (hb : JSs X cn W body sb)
    (hs : ∀ x, foldedSetIterable it X.env x = pure x := by intro _; rfl) : JS X cn W (.For tg it body [] pos) (sFor g lv sb) := by
  obtain ⟨wi, pi, di⟩ := hi
  obtain ⟨t1, p1, d1⟩ := hg
  obtain ⟨t2, p2, d2⟩ := hb
  refine ⟨_, ps_for hp hc pi p1 p2 hs, fun C Γ σ F H Dn R k => ?_⟩
  refine di C Γ σ F H _ R (k.bind.mono (fun p k J F' H' s R1 hJ => ?_) fun _ _ z => z)
  obtain ⟨ds, Γ0⟩ := p
  refine ⟨fun i m σ H => m = ds.length - i ∧ i ≤ ds.length ∧ ∃ Γ1 F1, Same F' F1 ∧ RelS X.K cn C Γ1 σ F1 H ∧ Post (forL g sb (ds.drop i) Γ1) (SEnd X.K cn C F Dn) (XW X.K cn C F W), ⟨ds.length, by simp, Nat.zero_le _, Γ0, F', Same.refl _, R1, k⟩, ?_⟩
  rintro i m σ1 H1 ⟨rfl, hi, Γ1, F1, s1, R2, k1⟩
  obtain ⟨go, stop⟩ := hJ i F1 H1 s1 R2.bs
  by_cases hlt : i < ds.length
  · have e : ds[i]? = some ds[i] := by simp [hlt]
    obtain ⟨g1, g2⟩ := go _ e
    rw [List.drop_eq_getElem_cons hlt] at k1
    refine .inr ⟨g1, fun σ' H' => i + 1 ≤ ds.length ∧ ∃ Γ1 F1, Same F' F1 ∧ RelS X.K cn C Γ1 σ' F1 H' ∧ Post (forL g sb (ds.drop (i + 1)) Γ1) (SEnd X.K cn C F Dn) (XW X.K cn C F W), fun σ' H' q => ⟨ds.length - (i + 1), by omega, rfl, q⟩, fun x H2 y => ?_⟩
    obtain ⟨F3, ex, rx⟩ := g2 x H2 y
    unfold forL at k1
    cases q : g ds[i] Γ1 with
    | none => rw [q] at k1; exact k1.elim
    | some Γ2 =>
      rw [q] at k1
      dsimp only at k1
      refine d1 C Γ1 σ1 F3 H2 x ds[i] Γ2 _ (R2.ext ex) rx q fun σ' F4 H4 s4 R4 => ?_
      refine d2 C Γ2 σ' F4 H4 _ R4 ?_
      have sa : Same F' F4 := (s1.trans ex.f).trans s4
      cases eb : sb Γ2 with
      | ok p =>
        rw [eb] at k1
        obtain ⟨c, Γ3⟩ := p
        cases c with
        | nx => exact fun σ' F5 H5 s5 R5 => ⟨hlt, Γ3, F5, sa.trans s5, R5, k1⟩
        | cnt => exact fun σ' F5 H5 s5 R5 => ⟨hlt, Γ3, F5, sa.trans s5, R5, k1⟩
        | brk => exact fun σ' F5 H5 s5 R5 => k1 σ' F5 H5 (s.trans (sa.trans s5)) R5
        | ret o => exact fun v F5 H5 s5 b r => k1 v F5 H5 (s.trans (sa.trans s5)) b r
      | exc x Γ3 => rw [eb] at k1; exact XW.up (s.trans sa) k1
      | bad => rw [eb] at k1; exact k1
  · have e : ds.drop i = [] := List.drop_eq_nil_of_le (by omega)
    rw [e] at k1
    exact .inl ⟨stop (by show ds.length ≤ i; omega), k1 σ1 F1 H1 (s.trans s1) R2⟩
theorem PI.or {tg it : Expr} {w1 w2 : TI} (h1 : PI X tg it w1) (h2 : PI X tg it w2) : PI X tg it (fun σ H R => w1 σ H R ∨ w2 σ H R) := ⟨fun pins s σ H R I q => q.elim (h1.run pins s σ H R I) (h2.run pins s σ H R I)⟩
/-- what can be read now and later -/
def Stable (K : PySem.W.Frag) (cn : Cn) (C : Ct) (F : Hp) (v : V) (d : D) : Prop := Rep K cn F v d ∨ Shal K cn F C.B0 v d
theorem itd_lst {C : Ct} {F : Hp} {v : V} {ds : List D} (h : Stable X.K cn C F v (.lst ds)) : ∃ a, v = .ref a ∧ ItD X.K cn C F (Itl X.K a) ds ∧ ∀ F2 H2, Same F F2 → Bas C F2 H2 → ∃ vs, SqL X.K H2 a vs := by
  obtain ⟨a, vs, e, rv, st⟩ : ∃ a vs, v = .ref a ∧ Reps X.K cn F vs ds ∧ ∀ F2 H2, Same F F2 → Bas C F2 H2 → SqL X.K H2 a vs := by
    rcases h with h | ⟨a, vs, e, h, r⟩
    · cases h with
      | lst h hl r => exact ⟨_, _, rfl, ⟨hl, r⟩, fun F2 H2 s b => SqL.of (b.fh _ _ (s _ _ h))⟩
    · refine ⟨a, vs, e, r, fun F2 H2 s b => ?_⟩
      have ne : ∀ a, (∃ o, C.H0 a = some o ∧ ∀ c dx fs, o ≠ .ins c dx fs) → C.slf ≠ some a := fun a ⟨o, h1, h2⟩ z => by
        obtain ⟨c, dx, fs, q⟩ := (b.si a z).1
        rw [h1] at q; cases q; exact h2 _ _ _ rfl
      have h := b.b0 _ _ h
      exact SqL.of (b.h0 _ _ h (ne a ⟨_, h, fun _ _ _ z => by cases z⟩))
  refine ⟨a, e, fun i F2 H2 s b => ⟨fun d hd => ?_, fun hi => ⟨vs, st F2 H2 s b, by rw [rv.1]; exact hi⟩⟩, fun F2 H2 s b => ⟨vs, st F2 H2 s b⟩⟩
  obtain ⟨v, hv, r1⟩ := rv.get hd
  exact ⟨⟨vs, v, st F2 H2 s b, hv⟩, fun x H3 ⟨e, y⟩ => by
    subst e
    have := y vs (st F2 _ s b)
    rw [hv] at this; cases this
    exact ⟨F2, Ext.refl b.fh, r1.mono s⟩⟩
theorem itd_tup {C : Ct} {F : Hp} {v : V} {ds : List D} (h : Rep X.K cn F v (.tup ds)) : ∃ a, v = .ref a ∧ ItD X.K cn C F (Itt X.K a) ds ∧ ∀ F2 H2, Same F F2 → Bas C F2 H2 → ∃ vs, SqT X.K H2 a vs := by
  cases h with
  | @tup a vs _ h hl r =>
    have rv : Reps X.K cn F vs ds := ⟨hl, r⟩
    have st : ∀ F2 H2, Same F F2 → Bas C F2 H2 → SqT X.K H2 a vs := fun F2 H2 s b => same_seqT b.fh (same_seqT s h)
    refine ⟨a, rfl, fun i F2 H2 s b => ⟨fun d hd => ?_, fun hi => ⟨vs, st F2 H2 s b, by rw [rv.1]; exact hi⟩⟩, fun F2 H2 s b => ⟨vs, st F2 H2 s b⟩⟩
    obtain ⟨v, hv, r1⟩ := rv.get hd
    exact ⟨⟨vs, v, st F2 H2 s b, hv⟩, fun x H3 ⟨e, y⟩ => by
      subst e
      have := y vs (st F2 _ s b)
      rw [hv] at this; cases this
      exact ⟨F2, Ext.refl b.fh, r1.mono s⟩⟩
theorem ji_e {tg : Expr} (h : JE X cn W e ea) : JI X cn W tg e (iSeq ea) := by
  obtain ⟨t, p, d⟩ := h
  refine ⟨_, PI.or (pi_list p) (pi_tup p), fun C Γ σ F H R RR k => ?_⟩
  have k' := k.bind
  cases eq : ea Γ with
  | bad => rw [eq] at k'; exact k'.elim
  | exc x Γ1 => rw [eq] at k'; exact .inl (d C Γ σ F H _ RR (by rw [eq]; exact k'))
  | ok p =>
    obtain ⟨d0, Γ1⟩ := p
    rw [eq] at k'
    obtain ⟨ds, e3, k2⟩ := (show Post ((Ed.R.of (items d0)).bind fun ds => Ed.R.ok (ds, Γ1)) _ _ from k').bind.of
    cases d0 with
    | lst xs =>
      cases e3
      refine .inl (d C Γ σ F H _ RR ?_)
      rw [eq]
      intro v F' H' s r rv
      obtain ⟨a, ev, it, sq⟩ := itd_lst (C := C) (.inl rv)
      exact ⟨a, ev, sq F' H' (Same.refl _) r.bs, k2 _ F' H' s r it⟩
    | tup xs =>
      cases e3
      refine .inr (d C Γ σ F H _ RR ?_)
      rw [eq]
      intro v F' H' s r rv
      obtain ⟨a, ev, it, sq⟩ := itd_tup (C := C) rv
      exact ⟨a, ev, sq F' H' (Same.refl _) r.bs, k2 _ F' H' s r it⟩
    | _ => cases e3
theorem ji_n {tg : Expr} (i : Nat) {x : Str} {pos : Pos} (hN : X.N[i]? = some x := by rfl) (hv : Vis X.env.scope x := by first | exact Or.inl rfl | exact Or.inr (Or.inl rfl) | exact Or.inr (Or.inr rfl)) (hd : (x == ("__debug__" : Str)) = false := by decide)
    (hcd : (x == ("__classdict__" : Str)) = false := by decide) : JI X cn W tg (.Name x pos) (iN i) := by
  refine ⟨_, PI.or (pi_list (pe_var hN hv hd hcd)) (pi_tup (pe_var hN hv hd hcd)), fun C Γ σ F H R RR k => ?_⟩
  unfold iN at k
  have fin : ∀ {d0 : D} {s : Sl} {v : V} {F' : Hp}, σ[i]? = some (some v) → Same F F' → RelS X.K cn C (put Γ i s) σ F' H → Stable X.K cn C F' v d0 → (∀ ds, d0 = .tup ds → Rep X.K cn F' v d0) →
      Post ((Ed.R.of (items d0)).bind fun ds => Ed.R.ok (ds, put Γ i s)) (fun p => ∀ J F' H', Same F F' → RelS X.K cn C p.2 σ F' H' → ItD X.K cn C F' J p.1 → R J H') (XW X.K cn C F W) →
      iList X.K (tVar i) σ H R ∨ iTup X.K (tVar i) σ H R := fun {d0 s v F'} ev sf r st tp k => by
    obtain ⟨ds, e3, k2⟩ := k.bind.of
    cases d0 with
    | lst xs =>
      cases e3
      obtain ⟨a, e, it, sq⟩ := itd_lst (C := C) st
      subst e
      exact .inl ⟨_, ev, a, rfl, sq F' H (Same.refl _) r.bs, k2 _ F' H sf r it⟩
    | tup xs =>
      cases e3
      obtain ⟨a, e, it, sq⟩ := itd_tup (C := C) (tp _ rfl)
      subst e
      exact .inr ⟨_, ev, a, rfl, sq F' H (Same.refl _) r.bs, k2 _ F' H sf r it⟩
    | _ => cases e3
  cases q : get Γ i with
  | val d0 =>
    rw [q] at k
    obtain ⟨v, F', e1, sf, rv, r'⟩ := RR.frz (i := i) (d := d0) (s := .val d0) (by rw [q]; rfl)
    exact fin e1 sf r' (.inl rv) (fun _ _ => rv) k
  | own d0 =>
    rw [q] at k
    obtain ⟨v, F', e1, sf, rv, r'⟩ := RR.frz (i := i) (d := d0) (s := .val d0) (by rw [q]; rfl)
    exact fin e1 sf r' (.inl rv) (fun _ _ => rv) k
  | bor d0 =>
    rw [q] at k
    obtain ⟨v, e1, sh⟩ := RR.at q (fun z => by cases z)
    have e2 : put Γ i (.bor d0) = Γ := by
      rw [put_eq]
      have gq := get_some q (fun z => by cases z)
      apply List.ext_getElem?
      intro j
      by_cases z : i = j
      · subst z
        obtain ⟨hi, _⟩ := List.getElem?_eq_some_iff.mp gq
        rw [List.getElem?_set_self hi, gq]
      · rw [List.getElem?_set_ne z]
    refine fin (join_some e1) (Same.refl _) (by rw [e2]; exact RR) (.inr sh) (fun ds e => ?_) k
    subst e
    exact sh
  | _ => rw [q] at k; exact k.elim
theorem itd_rng {C : Ct} {F : Hp} (lo : Int) (n : Nat) : ItD X.K cn C F (Itr lo n) (rngL lo n) := fun i F2 H2 s b => by
  refine ⟨fun d hd => ?_, fun hi => by
    show n ≤ i
    simpa [rngL] using hi⟩
  obtain ⟨hi, e⟩ := List.getElem?_eq_some_iff.mp hd
  have hi' : i < n := by simpa [rngL] using hi
  have e' : d = .int (lo + i) := by rw [← e]; simp [rngL]
  exact ⟨hi', fun x H3 ⟨e1, e2⟩ => by subst e1 e2; exact ⟨F2, Ext.refl b.fh, by rw [e']; exact .int _⟩⟩
theorem ji_rg1 {tg : Expr} {p : Pos} (hg : Gl X "range") (hm : X.mg "range" = none) (ha : JQ X cn W a qa) (hs : starEach [a] X.env = [(false, eval a X.env)] := by rfl) : JI X cn W tg (.Call (.Name "range" p) [a] [] pos) (iRg1 qa) := by
  obtain ⟨t, pe, d⟩ := ha
  refine ⟨_, pi_range1 hg hm (pa_cons pe pa_nil hs) hs, fun C Γ σ F H R RR k => ?_⟩
  refine d C Γ σ F H _ RR (k.bind.mono (fun p k v F' H' s1 R1 hv => ?_) fun _ _ z => z)
  obtain ⟨pv, Γ1⟩ := p
  dsimp only at k hv R1
  cases e1 : rd Γ1 pv with
  | none => simp only [e1] at k; exact k.elim
  | some d1 =>
    cases d1 with
    | int n =>
      simp only [e1] at k
      have sh := (R1.rd e1 hv).int
      subst sh
      split at k
      · rename_i hb
        simp only [rngB, Bool.and_eq_true, decide_eq_true_eq] at hb
        exact ⟨n, rfl, hb.1, hb.2, k _ F' H' s1 R1 (itd_rng 0 _)⟩
      · exact k.elim
    | _ => simp only [e1] at k; exact k.elim
theorem ji_rg2 {tg : Expr} {p : Pos} (hg : Gl X "range") (hm : X.mg "range" = none) (ha : JQ X cn W a qa) (hb : JQ X cn W b qb) (hs : starEach [a, b] X.env = [(false, eval a X.env), (false, eval b X.env)] := by rfl) (hs2 : starEach [b] X.env = [(false, eval b X.env)] := by rfl) :
    JI X cn W tg (.Call (.Name "range" p) [a, b] [] pos) (iRg2 qa qb) := by
  obtain ⟨t, pe, d⟩ := ha
  obtain ⟨t2, pe2, d2⟩ := hb
  refine ⟨_, pi_range2 hg hm (pa_cons pe (pa_cons pe2 pa_nil hs2) (by rw [hs, hs2])) hs hs2, fun C Γ σ F H R RR k => ?_⟩
  refine d C Γ σ F H _ RR (k.bind.mono (fun p k v F' H' s1 R1 hv => ?_) fun _ _ z => z)
  refine d2 C p.2 σ F' H' _ R1 (k.bind.mono (fun q k w F2 H2 s2 R2 hw => ?_) fun _ _ z => XW.up s1 z)
  obtain ⟨pw, Γ2⟩ := q
  dsimp only at k hw R2
  cases e1 : rd Γ2 p.1 with
  | none => simp only [e1] at k; exact k.elim
  | some d1 =>
    cases e2 : rd Γ2 pw with
    | none => simp only [e1, e2] at k; cases d1 <;> exact k.elim
    | some d2 =>
      cases d1 with
      | int m =>
        cases d2 with
        | int n =>
          simp only [e1, e2] at k
          have sh := (R2.rd e1 (hv.mono s2)).int
          have sh2 := (R2.rd e2 hw).int
          subst sh sh2
          split at k
          · rename_i hb
            simp only [rngB, Bool.and_eq_true, decide_eq_true_eq] at hb
            exact ⟨m, n, rfl, ⟨hb.1.1, hb.1.2, hb.2.1, hb.2.2⟩, k _ F2 H2 (s1.trans s2) R2 (itd_rng m _)⟩
          · exact k.elim
        | _ => simp only [e1, e2] at k; exact k.elim
      | _ => simp only [e1, e2] at k; exact k.elim
end
end Ed

set_option autoImplicit true
set_option Elab.async false
set_option linter.all false
set_option maxRecDepth 100000
/-! defs: what a def over data promises; calls -/
namespace Ed
open PySem L2

section
variable (K : PySem.W.Frag) (cn : Cn)
def ArgR (F H : Hp) : List Bool → List V → List D → Prop
  | [], [], [] => True
  | m :: ms, v :: vs, d :: ds => (if m = true then Shal K cn F H v d else Rep K cn F v d) ∧ ArgR F H ms vs ds
  | _, _, _ => False
def spD (ms : List Bool) (Ff : FV) : Sp := fun vs H Q E => vs.length = ms.length ∧ ∃ F ds, Same F H ∧ ArgR K cn F H ms vs ds ∧
  Post (Ff ds) (fun o => ∀ v F' H', Ext F H F' H' → DVR K cn ⟨H, H, F, none⟩ F' H' v o → Q v H') (fun x _ => ∀ cls od F' H', Ext F H F' H' → RepX K cn F' cls od x → E cls od H')
/-- an __init__: the object in the making at p -/
def spI (c : Nat) (ms : List Bool) (Ff : List D → R (List (Nat × D))) : Sp := fun vs H Q E => vs.length = ms.length + 1 ∧ ∃ p vs' dx F ds, vs = .ref p :: vs' ∧ H p = some (.ins (cn.ca c) dx []) ∧ F p = none ∧ Same F H ∧ ArgR K cn F H ms vs' ds ∧
  Post (Ff ds) (fun fs => ∀ F' H', Same F F' → Same F' H' → (∀ b o, H b = some o → b ≠ p → H' b = some o) → (∀ b, F b = none → H b ≠ none → F' b = none) →
      (∃ dx fvs, H' p = some (.ins (cn.ca c) dx fvs) ∧ RepP K cn cn.fa F' fvs fs) → Q .non H')
    (fun x _ => ∀ cls od F' H', Same F F' → Same F' H' → (∀ b o, H b = some o → b ≠ p → H' b = some o) → (∀ b, F b = none → H b ≠ none → F' b = none) → (∃ o, H' p = some o) → RepX K cn F' cls od x → E cls od H')
end
section
variable {P : Program} {w : World} {K : PySem.W.Frag} {mg : Str → Option Value} {base : Heap} {cn : Cn}
theorem ArgR.len {F H : Hp} : ∀ {ms : List Bool} {vs : List V} {ds : List D}, ArgR K cn F H ms vs ds → vs.length = ms.length ∧ ds.length = ms.length
  | [], [], [], _ => ⟨rfl, rfl⟩
  | _ :: _, _ :: _, _ :: _, h => by
    obtain ⟨a, b⟩ := ArgR.len h.2
    exact ⟨by simp [a], by simp [b]⟩
  | [], [], _ :: _, h => h.elim
  | [], _ :: _, _, h => h.elim
  | _ :: _, [], _, h => h.elim
  | _ :: _, _ :: _, [], h => h.elim
theorem pad_none : ∀ (n i : Nat) (s : Sl), (pad n)[i]? = some s → s = .emp
  | 0, i, s, h => by simp [pad] at h
  | n + 1, 0, s, h => by simp [pad] at h; exact h.symm
  | n + 1, i + 1, s, h => pad_none n i s (by simpa [pad] using h)
theorem pad_len : ∀ n, (pad n).length = n
  | 0 => rfl
  | n + 1 => by simp [pad, pad_len n]
theorem ins0_len {F H : Hp} : ∀ {ms : List Bool} {vs : List V} {ds : List D}, ArgR K cn F H ms vs ds → (ins0 ms ds).length = ms.length
  | [], [], [], _ => rfl
  | _ :: _, _ :: _, _ :: _, h => by simp [ins0, ins0_len h.2]
  | [], [], _ :: _, h => h.elim
  | [], _ :: _, _, h => h.elim
  | _ :: _, [], _, h => h.elim
  | _ :: _, _ :: _, [], h => h.elim
theorem inSl_ok {C : Ct} {F H : Hp} {m : Bool} {v : V} {d : D} (hs : Same F H) (e : C.B0 = H) (h : if m = true then Shal K cn F H v d else Rep K cn F v d) : SlR K cn C F H (some v) (inSl m d) := by
  subst e
  cases m with
  | false => cases d <;> exact ⟨v, rfl, h⟩
  | true =>
    have h : Shal K cn F C.B0 v d := h
    cases d <;> exact ⟨v, rfl, h⟩
theorem inSl_no {m : Bool} {d d' : D} : inSl m d ≠ .own d' := by
  cases m <;> cases d <;> (intro h; cases h)
theorem inSl_nos {m : Bool} {d : D} {c : Nat} {fs : List (Nat × D)} : inSl m d ≠ .slf c fs := by
  cases m <;> cases d <;> (intro h; cases h)
theorem ins0_at {C : Ct} {F H : Hp} (hs : Same F H) (e : C.B0 = H) {n : Nat} : ∀ {ms : List Bool} {vs : List V} {ds : List D}, ArgR K cn F H ms vs ds →
    ∀ (i : Nat) s, (ins0 ms ds ++ pad n)[i]? = some s → SlR K cn C F H (((vs.map some ++ List.replicate n none)[i]?).join) s ∧ (∀ d, s ≠ .own d) ∧ ∀ c fs, s ≠ .slf c fs
  | [], [], [], _, i, s, q => by
    have := pad_none n i s (by simpa [ins0] using q)
    subst this
    exact ⟨True.intro, (fun d z => by cases z), fun _ _ z => by cases z⟩
  | m :: ms, v :: vs, d :: ds, h, 0, s, q => by
    simp only [ins0, List.cons_append, List.getElem?_cons_zero, Option.some.injEq] at q
    subst q
    exact ⟨inSl_ok hs e h.1, (fun d' => inSl_no), fun _ _ => inSl_nos⟩
  | m :: ms, v :: vs, d :: ds, h, i + 1, s, q => ins0_at hs e h.2 i s (by simpa [ins0] using q)
  | [], [], _ :: _, h, _, _, _ => h.elim
  | [], _ :: _, _, h, _, _, _ => h.elim
  | _ :: _, [], _, h, _, _, _ => h.elim
  | _ :: _, _ :: _, [], h, _, _, _ => h.elim
theorem start_rel {F H : Hp} {ms : List Bool} {vs : List V} {ds : List D} {N : List Str} {n : Nat} (hs : Same F H) (h : ArgR K cn F H ms vs ds) (hN : N.length = ms.length + n) :
    RelS K cn ⟨H, H, F, none⟩ (ins0 ms ds ++ pad n) (L2.start N vs) F H := by
  obtain ⟨l1, l2⟩ := h.len
  have e : N.length - vs.length = n := by omega
  unfold L2.start
  rw [e]
  refine ⟨⟨hs, Same.refl _, fun b o q _ => q, fun b q _ => q, (fun a z => by cases z), fun _ _ z => z⟩, by simp [ins0_len h, pad_len, l1], fun i s q => (ins0_at hs rfl h i s q).1, fun i j d d' a q _ _ _ => ?_, fun i c fs q => absurd rfl ((ins0_at (C := ⟨H, H, F, none⟩) hs rfl h i _ q).2.2 c fs)⟩
  exact absurd rfl ((ins0_at (C := ⟨H, H, F, none⟩) hs rfl h i _ q).2.1 d)
theorem Bas.toExt {F H F' H' : Hp} (b : Bas ⟨H, H, F, none⟩ F' H') : Ext F H F' H' := ⟨b.f0, fun a o q => b.h0 a o q (fun z => by cases z), b.fh, b.nw⟩
theorem bodyD {X : Cx} {ms : List Bool} {n : Nat} {sv : SV} {Ff : FV} {vs : List V} {H : Hp} {Q : VK} {E : XK} {N : List Str} {st : List Stmt} (hN : N.length = ms.length + n) (hF : ∀ ds, Ff ds = runF ms n sv ds)
    (h : spD X.K cn ms Ff vs H Q E) (body : JSs X cn (fun cls d _ H => E cls d H) st sv) : ∃ t, PSs X st t ∧ t { nx := fun _ H' => Q .non H', rt := Q } (L2.start N vs) H := by
  obtain ⟨t, p, d⟩ := body
  obtain ⟨hl, F, ds, hs, ha, k⟩ := h
  refine ⟨t, p, d ⟨H, H, F, none⟩ (ins0 ms ds ++ pad n) (L2.start N vs) F H _ (start_rel hs ha hN) ?_⟩
  rw [hF] at k
  unfold runF at k
  rw [if_pos ha.len.2] at k
  cases e : sv (ins0 ms ds ++ pad n) with
  | bad => rw [e] at k; exact k.elim
  | exc x Γ => rw [e] at k; exact fun cls od σ' F' H' _ r q => k cls od F' H' r.bs.toExt q
  | ok p =>
    obtain ⟨c, Γ⟩ := p
    rw [e] at k
    cases c with
    | nx => exact fun σ' F' H' s r => k .non F' H' r.bs.toExt .non
    | ret o => exact fun v F' H' s b r => k v F' H' b.toExt r
    | brk => exact k.elim
    | cnt => exact k.elim
theorem okD {x qual : Str} {st : Stmt} {f : Addr} {fd : FuncData} {N ps : List Str} {k : Nat} {ms : List Bool} {n : Nat} {sv : SV} {Ff : FV} (F : Fun K x qual st f fd) (S : FnScope N ps (defScope st)) (hp : ms.length = ps.length) (hN : N.length = ms.length + n) (hF : ∀ ds, Ff ds = runF ms n sv ds)
    (hbody : ∀ (cdv : Value) (A : Around) (outer : List PySem.Env) (s : Shared) (H : Hp) (E : XK), Room k (A.deeper (PyProof.Rows.envOfC qual (defScope st) s.heap.objs.size f cdv)) →
      JSs (cxOf (L2.CX P w) P w K mg base N qual (defScope st) f cdv A outer s H E) cn (fun cls d _ H => E cls d H) (defBody st) sv) : FnOk P w K mg base (L2.CX P w) (k + 1) f fd ps (spD K cn ms Ff) :=
  F.okX S (fun vs H Q E h => by rw [h.1]; exact hp) fun cdv A outer s H vs Q E hr h => bodyD (X := cxOf (L2.CX P w) P w K mg base N qual (defScope st) f cdv A outer s H E) hN hF h (hbody cdv A outer s H E hr)
end

section
variable {X : Cx} {cn : Cn} {W : WX} {e o : Expr} {es : List Expr} {pos : Pos} {eo : EV} {av : AV}
theorem prep_ok {C : Ct} {σ : L2.St} {H : Hp} : ∀ {ms : List Bool} {ps : List PV} {vs : List V} {Γ Γ' : Env} {F : Hp} {ds : List D}, RelS X.K cn C Γ σ F H → PVRs X.K cn σ F vs ps → prep Γ ms ps = some (ds, Γ') →
    ∃ F', Same F F' ∧ RelS X.K cn C Γ' σ F' H ∧ ArgR X.K cn F' H ms vs ds
  | [], [], [], Γ, Γ', F, ds, R, q, e => by
    cases e
    exact ⟨F, Same.refl _, R, True.intro⟩
  | [], [], _ :: _, _, _, _, _, _, q, _ => q.elim
  | [], _ :: _, _, _, _, _, _, _, _, e => by cases e
  | _ :: _, [], _, _, _, _, _, _, _, e => by cases e
  | _ :: _, _ :: _, [], _, _, _, _, _, q, _ => q.elim
  | m :: ms, p :: ps, v :: vs, Γ, Γ', F, ds, R, q, e => by
    unfold prep at e
    cases p with
    | pd d =>
      dsimp only at e
      cases e1 : prep Γ ms ps with
      | none => rw [e1] at e; cases e
      | some r =>
        obtain ⟨ds', Γ2⟩ := r
        rw [e1] at e; cases e
        obtain ⟨F', s, R', ar⟩ := prep_ok R q.2 e1
        refine ⟨F', s, R', ?_, ar⟩
        have h1 : Rep X.K cn F' v d := Rep.mono s q.1
        cases m with
        | true => exact h1.shal R'.bs.fh
        | false => exact h1
    | pn i =>
      dsimp only at e
      cases m with
      | true =>
        simp only [if_true] at e
        cases e0 : look (get Γ i) with
        | none => rw [e0] at e; cases e
        | some d =>
          cases e1 : prep Γ ms ps with
          | none => rw [e0, e1] at e; cases e
          | some r =>
            obtain ⟨ds', Γ2⟩ := r
            rw [e0, e1] at e; cases e
            obtain ⟨F', s, R', ar⟩ := prep_ok R q.2 e1
            obtain ⟨w, ew, sh⟩ := R.read e0
            rw [show σ[i]? = some (some v) from q.1] at ew
            cases ew
            exact ⟨F', s, R', sh.mono s (Same.refl _), ar⟩
      | false =>
        simp only [Bool.false_eq_true, if_false] at e
        cases e0 : frzS (get Γ i) with
        | none => rw [e0] at e; cases e
        | some r =>
          obtain ⟨d, s0⟩ := r
          rw [e0] at e
          dsimp only at e
          obtain ⟨w, F1, ew, s1, rw1, R1⟩ := R.frz e0
          rw [show σ[i]? = some (some v) from q.1] at ew
          cases ew
          cases e1 : prep (put Γ i s0) ms ps with
          | none => rw [e1] at e; cases e
          | some r =>
            obtain ⟨ds', Γ2⟩ := r
            rw [e1] at e; cases e
            obtain ⟨F', s, R', ar⟩ := prep_ok R1 (PVRs.mono s1 q.2) e1
            exact ⟨F', s1.trans s, R', rw1.mono s, ar⟩
/-- what comes back -/
def DVN (K : PySem.W.Frag) (cn : Cn) (C : Ct) (Γ : Env) (σ : L2.St) (F H : Hp) (v : V) : DV → Prop
  | .fz d => Rep K cn F v d
  | .fr d => NewR K cn C Γ σ F H v d
theorem call_ok {C : Ct} {σ : L2.St} {Γ : Env} {F H : Hp} {ms : List Bool} {ps : List PV} {vs : List V} {Ff : FV} {P' : DV × Env → Prop} {Q : VK} (R : RelS X.K cn C Γ σ F H) (q : PVRs X.K cn σ F vs ps) (k : Post (callF Ff ms ps Γ) P' (XW X.K cn C F W))
    (hP : ∀ o Γ2 v F2 H2, P' (o, Γ2) → Same F F2 → RelS X.K cn C Γ2 σ F2 H2 → DVN X.K cn C Γ2 σ F2 H2 v o → Q v H2) : spD X.K cn ms Ff vs H Q (WE W σ) := by
  unfold callF at k
  cases e1 : prep Γ ms ps with
  | none => rw [e1] at k; exact k.elim
  | some r =>
    obtain ⟨ds, Γ2⟩ := r
    rw [e1] at k
    dsimp only at k
    obtain ⟨F1, s1, R1, ar⟩ := prep_ok R q e1
    refine ⟨ar.len.1, F1, ds, R1.bs.fh, ar, ?_⟩
    cases e2 : Ff ds with
    | bad => rw [e2] at k; exact k.elim
    | exc x Γ3 => rw [e2] at k; exact fun cls od F' H' ex rx => k cls od σ F' H' (s1.trans ex.f) (R1.ext ex) rx
    | ok o =>
      rw [e2] at k
      intro v F' H' ex dv
      refine hP o Γ2 v F' H' k (s1.trans ex.f) (R1.ext ex) ?_
      cases o with
      | fz d => exact dv
      | fr d =>
        obtain ⟨a, ev, n, n0, r⟩ := dv
        refine ⟨a, ev, n, ?_, r, fun i d' hi z => ?_⟩
        · have n1 : H a = none := n0
          cases q0 : C.H0 a with
          | none => rfl
          | some o =>
            by_cases hs : C.slf = some a
            · obtain ⟨o2, q2⟩ := (R1.bs.si a hs).2
              rw [n1] at q2; cases q2
            · have z := R1.bs.h0 a o q0 hs
              rw [n1] at z; cases z
        · obtain ⟨o, ho⟩ := R1.ownH hi z
          rw [show H a = none from n0] at ho; cases ho
theorem dvn_e {C : Ct} {Γ : Env} {σ : L2.St} {F H F0 : Hp} {v : V} {o : DV} {Q : VK} (s : Same F0 F) (R : RelS X.K cn C Γ σ F H) (h : DVN X.K cn C Γ σ F H v o) (k : EEnd X.K cn C σ F0 Q (o.d, Γ)) : Q v H := by
  cases o with
  | fz d => exact k v F H s R h
  | fr d =>
    obtain ⟨F2, s2, r2, R2⟩ := h.frz R
    exact k v F2 H (s.trans s2) R2 r2
section
variable {k : Nat} {f : Addr} {fd : FuncData} {ps : List Str} {ms : List Bool} {Ff : FV} {x : Str} {p : Pos}
theorem je_call (F : FnOk X.prog X.w X.K X.mg X.base (L2.CX X.prog X.w) k f fd ps (spD X.K cn ms Ff)) (hr : Room k X.A) (hg : Gl X x) (hm : X.mg x = some (.ref f)) (hk : PySem.W.keepIn X.K (.ref f) = true) (hb : Binds X.K fd ps []) (tk : Takes X W)
    (ha : JA X cn W (e :: es) av) (hdb : (x == ("__debug__" : Str)) = false := by decide) (he : starEach (e :: es) X.env = (false, eval e X.env) :: starEach es X.env := by rfl) (hpl : (backTo pos (starEach es X.env)).any (·.1) = false := by rfl) :
    JE X cn W (.Call (.Name x p) (e :: es) [] pos) (eCall Ff ms av) := by
  obtain ⟨t, pa, d⟩ := ha
  refine ⟨_, pe_callS F hr hg hm hk hb (fun σ => passAt tk σ) pa hdb he hpl, fun C Γ σ F H Q R k => ?_⟩
  refine d C Γ σ F H _ R (k.bind.mono (fun p k vs F' H' s1 R1 hv => ?_) fun _ _ z => z)
  exact call_ok R1 hv (k.bind.mono (fun _ z => z) fun _ _ z => XW.up s1 z) fun o Γ2 v F2 H2 hP s R2 dv => dvn_e (s1.trans s) R2 dv hP
theorem jn_call (F : FnOk X.prog X.w X.K X.mg X.base (L2.CX X.prog X.w) k f fd ps (spD X.K cn ms Ff)) (hr : Room k X.A) (hg : Gl X x) (hm : X.mg x = some (.ref f)) (hk : PySem.W.keepIn X.K (.ref f) = true) (hb : Binds X.K fd ps []) (tk : Takes X W)
    (ha : JA X cn W (e :: es) av) (hdb : (x == ("__debug__" : Str)) = false := by decide) (he : starEach (e :: es) X.env = (false, eval e X.env) :: starEach es X.env := by rfl) (hpl : (backTo pos (starEach es X.env)).any (·.1) = false := by rfl) :
    JN X cn W (.Call (.Name x p) (e :: es) [] pos) (nCall Ff ms av) := by
  obtain ⟨t, pa, d⟩ := ha
  refine ⟨_, pe_callS F hr hg hm hk hb (fun σ => passAt tk σ) pa hdb he hpl, fun C Γ σ F H Q R k => ?_⟩
  refine d C Γ σ F H _ R (k.bind.mono (fun p k vs F' H' s1 R1 hv => ?_) fun _ _ z => z)
  refine call_ok R1 hv (k.bind.mono (fun _ z => z) fun _ _ z => XW.up s1 z) fun o Γ2 v F2 H2 hP s R2 dv => ?_
  cases o with
  | fz d => exact hP.elim
  | fr d => exact hP v F2 H2 (s1.trans s) R2 dv
end
end
end Ed

set_option autoImplicit true
set_option Elab.async false
set_option linter.all false
set_option maxRecDepth 100000
/-! objects made, methods, errors -/
namespace Ed
open PySem L2

section
variable {P : Program} {w : World} {K : PySem.W.Frag} {mg : Str → Option Value} {base : Heap} {cn : Cn}
theorem start_relI {F H : Hp} {ms : List Bool} {vs : List V} {ds : List D} {N : List Str} {n c : Nat} {p dx : Addr} (hp : H p = some (.ins (cn.ca c) dx [])) (fp : F p = none) (hs : Same F H) (h : ArgR K cn F H ms vs ds) (hN : N.length = ms.length + 1 + n) :
    RelS K cn ⟨H, H, F, some p⟩ (.slf c [] :: (ins0 ms ds ++ pad n)) (L2.start N (.ref p :: vs)) F H := by
  obtain ⟨l1, l2⟩ := h.len
  have e : N.length - (V.ref p :: vs).length = n := by simp only [List.length_cons]; omega
  unfold L2.start
  rw [e]
  refine ⟨⟨hs, Same.refl _, fun b o q _ => q, fun b q _ => q, (fun a z => by cases z; exact ⟨⟨_, _, _, hp⟩, _, hp⟩), fun _ _ z => z⟩, by simp [ins0_len h, pad_len, l1], fun i s q => ?_, fun i j d d' a q _ _ _ => ?_, fun i c' fs q => ?_⟩
  · cases i with
    | zero =>
      simp only [List.getElem?_cons_zero, Option.some.injEq] at q
      subst q
      exact ⟨p, dx, [], rfl, rfl, fp, hp, rfl, fun i v d a _ => by simp at a⟩
    | succ i => exact (ins0_at (C := ⟨H, H, F, some p⟩) hs rfl h i s (by simpa using q)).1
  · cases i with
    | zero => simp only [List.getElem?_cons_zero, Option.some.injEq] at q; cases q
    | succ i => exact absurd rfl ((ins0_at (C := ⟨H, H, F, some p⟩) hs rfl h i _ (by simpa using q)).2.1 d)
  · cases i with
    | zero => rfl
    | succ i => exact absurd rfl ((ins0_at (C := ⟨H, H, F, some p⟩) hs rfl h i _ (by simpa using q)).2.2 c' fs)
theorem bodyI {X : Cx} {cn : Cn} {N : List Str} {c n : Nat} {ms : List Bool} {sv : SV} {Ff : List D → R (List (Nat × D))} {st : List Stmt} {vs : List V} {H : Hp} {Q : VK} {E : XK} (body : JSs X cn (fun cls d _ H => E cls d H) st sv) (hN : N.length = ms.length + 1 + n) (hF : ∀ ds, Ff ds = runI c ms n sv ds) (h : spI X.K cn c ms Ff vs H Q E) :
    ∃ t, PSs X st t ∧ t { nx := fun _ H' => Q .non H', rt := Q } (L2.start N vs) H := by
    obtain ⟨t, p, d⟩ := body
    obtain ⟨hl, a, vs', dx, F0, ds, rfl, ha, fa, hs, har, k⟩ := h
    refine ⟨t, p, d ⟨H, H, F0, some a⟩ (.slf c [] :: (ins0 ms ds ++ pad n)) (L2.start N (.ref a :: vs')) F0 H _ (start_relI ha fa hs har hN) ?_⟩
    rw [hF] at k
    unfold runI at k
    rw [if_pos har.len.2] at k
    cases e : sv (.slf c [] :: (ins0 ms ds ++ pad n)) with
    | bad => rw [e] at k; exact k.elim
    | exc x Γ => rw [e] at k; exact fun cls od σ' F' H' _ r q => k cls od F' H' r.bs.f0 r.bs.fh (fun b o h1 h2 => r.bs.h0 b o h1 (fun z => h2 (Option.some.inj z).symm)) r.bs.nw (r.bs.si a rfl).2 q
    | ok q =>
      obtain ⟨ct, Γ⟩ := q
      rw [e] at k
      cases ct with
      | nx =>
        intro σ' F' H' s r
        have k := (show Post (match get Γ 0 with
          | .slf c' fs => if c' = c then Ed.R.ok fs else .bad
          | _ => .bad) _ _ from k)
        cases g : get Γ 0 with
        | slf c' fs =>
          rw [g] at k
          dsimp only at k
          by_cases ec : c' = c
          · subst ec
            rw [if_pos rfl] at k
            obtain ⟨b, dx', fvs, e1, e2, n1, h5, r1⟩ := r.at g (fun z => by cases z)
            cases e2
            exact k F' H' r.bs.f0 r.bs.fh (fun b o h1 h2 => r.bs.h0 b o h1 (fun z => h2 (Option.some.inj z).symm)) r.bs.nw ⟨dx', fvs, h5, r1⟩
          · rw [if_neg ec] at k; exact k.elim
        | _ => rw [g] at k; exact k.elim
      | ret o => exact k.elim
      | brk => exact k.elim
      | cnt => exact k.elim
theorem okI {x qual : Str} {st : Stmt} {f : Addr} {fd : FuncData} {N ps : List Str} {k c : Nat} {ms : List Bool} {n : Nat} {sv : SV} {Ff : List D → R (List (Nat × D))} (F : Fun K x qual st f fd) (S : FnScope N ps (defScope st)) (hp : ms.length + 1 = ps.length) (hN : N.length = ms.length + 1 + n) (hF : ∀ ds, Ff ds = runI c ms n sv ds)
    (hbody : ∀ (cdv : Value) (A : Around) (outer : List PySem.Env) (s : Shared) (H : Hp) (E : XK), Room k (A.deeper (PyProof.Rows.envOfC qual (defScope st) s.heap.objs.size f cdv)) →
      JSs (cxOf (L2.CX P w) P w K mg base N qual (defScope st) f cdv A outer s H E) cn (fun cls d _ H => E cls d H) (defBody st) sv) : FnOk P w K mg base (L2.CX P w) (k + 1) f fd ps (spI K cn c ms Ff) :=
  F.okX S (fun vs H Q E h => by rw [h.1]; exact hp) fun cdv A outer s H vs Q E hr h => bodyI (X := cxOf (L2.CX P w) P w K mg base N qual (defScope st) f cdv A outer s H E) (hbody cdv A outer s H E hr) hN hF h
theorem ArgR.mono {F H F' H' : Hp} (s : Same F F') (s2 : Same H H') : ∀ {ms : List Bool} {vs : List V} {ds : List D}, ArgR K cn F H ms vs ds → ArgR K cn F' H' ms vs ds
  | [], [], [], _ => True.intro
  | m :: ms, _ :: _, _ :: _, h => ⟨by
      have h1 := h.1
      cases m with
      | true => exact Shal.mono s s2 h1
      | false => exact Rep.mono s h1, ArgR.mono s s2 h.2⟩
  | [], [], _ :: _, h => h.elim
  | [], _ :: _, _, h => h.elim
  | _ :: _, [], _, h => h.elim
  | _ :: _, _ :: _, [], h => h.elim
/-- C(..) by its __init__ -/
theorem spD_make {c : Nat} {ms : List Bool} {Ff : List D → R (List (Nat × D))} {vs : List V} {H : Hp} {Q : VK} {E : XK} (h : spD K cn ms (mkF c Ff) vs H Q E) : ∀ x dx, H x = none → H dx = none → dx ≠ x →
    spI K cn c ms Ff (.ref x :: vs) (upd (upd H dx (.own x)) x (.ins (cn.ca c) dx [])) (fun v H2 => v = .non ∧ Q (.ref x) H2) E := by
  intro x dx hx hdx ne
  obtain ⟨hl, F, ds, hs, har, k⟩ := h
  have s1 : Same H (upd (upd H dx (.own x)) x (.ins (cn.ca c) dx [])) := (same_new hdx).trans (same_new (by rw [upd_ne (Ne.symm ne)]; exact hx))
  have fx : F x = none := hs.free hx
  have up : ∀ {b : Addr}, H b ≠ none → (upd (upd H dx (.own x)) x (.ins (cn.ca c) dx []) : Hp) b ≠ none := fun {b} h => by
    cases q : H b with
    | none => exact absurd q h
    | some o => rw [s1 b o q]; simp
  have nx : ∀ {b : Addr} {o : HO}, H b = some o → b ≠ x := fun {b o} q z => by rw [z, hx] at q; cases q
  refine ⟨by simp [hl], x, vs, dx, F, ds, rfl, upd_same, fx, hs.trans s1, har.mono (Same.refl _) s1, ?_⟩
  unfold mkF at k
  cases e : Ff ds with
  | bad => rw [e] at k; exact k.elim
  | exc y Γ =>
    rw [e] at k
    intro cls od F' H' a1 a2 a3 a4 a5 rx
    refine k cls od F' H' ⟨a1, fun b o q => a3 b o (s1 b o q) (nx q), a2, fun b h1 h2 => a4 b h1 (up h2)⟩ rx
  | ok fs =>
    rw [e] at k
    intro F' H' a1 a2 a3 a4 a5
    obtain ⟨dx', fvs, h5, r⟩ := a5
    refine ⟨rfl, ?_⟩
    have fx' : F' x = none := a4 x fx (by rw [upd_same]; simp)
    have sf : Same F' (upd F' x (.ins (cn.ca c) dx' fvs)) := same_new fx'
    refine k (.ref x) (upd F' x (.ins (cn.ca c) dx' fvs)) H' ⟨a1.trans sf, fun b o q => a3 b o (s1 b o q) (nx q), ?_, fun b h1 h2 => ?_⟩ (.ins upd_same r.1 (r.mono sf).2)
    · intro b o q
      by_cases z : b = x
      · subst z; rw [upd_same] at q; cases q; exact h5
      · rw [upd_ne z] at q; exact a2 b o q
    · have z : b ≠ x := fun z => by subst z; exact h2 hx
      rw [upd_ne z]; exact a4 b h1 (up h2)
end

section
variable {X : Cx} {cn : Cn} {W : WX} {e o : Expr} {es : List Expr} {pos apos : Pos} {ea eo : EV} {av : AV} {lv : LV}
/-! self.f = e -/
theorem RepP.put {F : Hp} {f : Nat} {v : V} {d : D} (hi : ∀ g, cn.fa g = cn.fa f → g = f) (rv : Rep X.K cn F v d) : ∀ {fvs : List (Str × V)} {fs : List (Nat × D)}, RepP X.K cn cn.fa F fvs fs → RepP X.K cn cn.fa F (putF (cn.fa f) v fvs) (putFd f d fs)
  | [], [], _ => ⟨rfl, fun i x y a b => by
    cases i with
    | zero =>
      simp only [putF, putFd, List.getElem?_cons_zero, Option.some.injEq] at a b
      subst a b; exact rv
    | succ i => simp [putF] at a⟩
  | [], _ :: _, h => by have := h.1; simp at this
  | _ :: _, [], h => by have := h.1; simp at this
  | (g', x) :: xs, (g, y) :: ys, h => by
    obtain ⟨hk, r⟩ := h
    simp only [List.map_cons, List.cons.injEq] at hk
    obtain ⟨hk1, hk2⟩ := hk
    have hk1 : g' = cn.fa g := hk1
    subst hk1
    by_cases q : g = f
    · subst q
      have e1 : putF (cn.fa g) v ((cn.fa g, x) :: xs) = (cn.fa g, v) :: xs := by show (if cn.fa g = cn.fa g then _ else _) = _; rw [if_pos rfl]
      have e2 : putFd g d ((g, y) :: ys) = (g, d) :: ys := by show (if g = g then _ else _) = _; rw [if_pos rfl]
      rw [e1, e2]
      refine ⟨by simp [hk2], fun i a b h1 h2 => ?_⟩
      cases i with
      | zero => simp at h1 h2; subst h1 h2; exact rv
      | succ i => exact r (i + 1) a b (by simpa using h1) (by simpa using h2)
    · have q2 : ¬ cn.fa g = cn.fa f := fun z => q (hi g z)
      have e1 : putF (cn.fa f) v ((cn.fa g, x) :: xs) = (cn.fa g, x) :: putF (cn.fa f) v xs := by show (if cn.fa g = cn.fa f then _ else _) = _; rw [if_neg q2]
      have e2 : putFd f d ((g, y) :: ys) = (g, y) :: putFd f d ys := by show (if g = f then _ else _) = _; rw [if_neg q]
      have ih := RepP.put hi rv (fvs := xs) (fs := ys) ⟨hk2, fun i a b h1 h2 => r (i + 1) a b (by simpa using h1) (by simpa using h2)⟩
      rw [e1, e2]
      refine ⟨by simp [ih.1], fun i a b h1 h2 => ?_⟩
      cases i with
      | zero => exact r 0 a b (by simpa using h1) (by simpa using h2)
      | succ i => exact ih.2 i a b (by simpa using h1) (by simpa using h2)
theorem js_fld {c f : Nat} {x fn : Str} {px pos' : Pos} (he : JE X cn W e ea) (hn : cn.fa f = fn) (hi : ∀ g, cn.fa g = cn.fa f → g = f) (hc : Cls X.K (cn.ca c)) (hna : NoAttr X.K (cn.ca c) fn) (hN : X.N[0]? = some x := by rfl) (hv : Vis X.env.scope x := by first | exact Or.inl rfl | exact Or.inr (Or.inl rfl) | exact Or.inr (Or.inr rfl)) (hd : (x == ("__debug__" : Str)) = false := by decide)
    (hcd : (x == ("__classdict__" : Str)) = false := by decide) (hs : swapsWith e (some (.Attribute (.Name x px) fn pos')) pos.line X.env = pure false := by rfl) : JS X cn W (.Assign [.Attribute (.Name x px) fn pos'] e pos) (sFld c f ea) := by
  obtain ⟨t, p, d⟩ := he
  refine ⟨_, ps_fld (pe_var hN hv hd hcd) p hs, fun C Γ σ F H Dn R k => ?_⟩
  refine d C Γ σ F H _ R (k.bind.mono (fun p k v F' H' s r rv => ?_) fun _ _ z => z)
  obtain ⟨d1, Γ1⟩ := p
  dsimp only at k r rv
  cases g : get Γ1 0 with
  | slf c' fs =>
    rw [g] at k
    dsimp only at k
    by_cases ec : c' = c ∧ fs.length < 900
    · rw [if_pos ec] at k
      have kk := k
      obtain ⟨ec, hl⟩ := ec
      subst ec
      obtain ⟨a, dx, fvs, e1, e2, n, h5, rp⟩ := r.at g (fun z => by cases z)
      have hlen : fvs.length = fs.length := by have := congrArg List.length rp.1; simpa using this
      refine ⟨.ref a, join_some e1, a, _, dx, fvs, rfl, h5, hc, hna, by omega, ?_⟩
      have g0 := get_some g (fun z => by cases z)
      have H0a : ∃ o, C.H0 a = some o := by obtain ⟨⟨c0, dx0, fs0, q⟩, _⟩ := r.bs.si a e2; exact ⟨_, q⟩
      rw [← hn]
      refine kk σ F' _ s ⟨⟨same_out r.bs.fh n, r.bs.f0, fun b o h1 h2 => ?_, r.bs.nw, fun b hb => ⟨(r.bs.si b hb).1, ?_⟩, r.bs.b0⟩, by rw [put_eq, List.length_set]; exact r.len, fun j t h => ?_, fun j k2 x y b h1 h2 h3 h4 => ?_, s0_put r.s0 (.inl rfl)⟩
      · have hb : b ≠ a := fun z => by subst z; exact h2 e2
        rw [upd_ne hb]; exact r.bs.h0 b o h1 h2
      · rw [e2] at hb; cases hb; exact ⟨_, upd_same⟩
      · rw [put_eq] at h
        rcases getSet h with ⟨rfl, rfl⟩ | ⟨z, h⟩
        · exact ⟨a, dx, _, e1, e2, n, upd_same, rp.put hi rv⟩
        · have w := r.sl j t h
          cases t with
          | emp => trivial
          | val x => exact w
          | own x =>
            obtain ⟨b, q1, m, m0, r2⟩ := w
            have hb : b ≠ a := fun e3 => by subst e3; obtain ⟨o, q⟩ := H0a; rw [m0] at q; cases q
            refine ⟨b, q1, m, m0, ?_⟩
            cases x with
            | lst ds => obtain ⟨vs, h, p⟩ := r2; exact ⟨vs, by rw [upd_ne hb]; exact h, p⟩
            | dct ds => obtain ⟨vs, h, p⟩ := r2; exact ⟨vs, by rw [upd_ne hb]; exact h, p⟩
            | _ => exact r2.elim
          | bor x => exact w
          | slf c2 fs2 =>
            obtain ⟨b, dx2, fvs2, q1, q2, m, h6, r2⟩ := w
            rw [e2] at q2; cases q2
            exact absurd (r.s0 j _ _ h).symm z
          | exn x => exact w
      · rw [put_eq] at h1 h2
        rcases getSet h1 with ⟨_, z⟩ | ⟨_, g1⟩
        · cases z
        · rcases getSet h2 with ⟨_, z⟩ | ⟨_, g2⟩
          · cases z
          · exact r.ow j k2 x y b g1 g2 h3 h4
    · rw [if_neg ec] at k; exact k.elim
  | _ => rw [g] at k; exact k.elim
end
end Ed

set_option autoImplicit true
set_option Elab.async false
set_option linter.all false
set_option maxRecDepth 100000
set_option maxHeartbeats 4000000
/-! own methods and operators, wished at the caller's slots -/
namespace L2
open PySem PySem.Spec PyProof.Rows PySem.W
section
variable {X : Cx} {k : Nat} {f C : Addr} {fd : FuncData} {ps : List Str} {sp : Sp} {W : WX} {x m : Str} {p pos apos : Pos} {e o : Expr} {es : List Expr} {ta te : TE} {t : TA}
/-- the callee runs, in an around that is like ours -/
theorem runS {A : Around} {pins : List (Addr × Obj)} {σ : L2.St} {H : Hp} {s : Shared} {Q : VK} {us : List Value} {vs : List V} (F : FnOk X.prog X.w X.K X.mg X.base (L2.CX X.prog X.w) k f fd ps sp) (hr : Room k A) (he : Env0 X.prog X.w X.K X.mg X.base A X.stack s H) (hb : Binds X.K fd ps []) (tk : Takes X W)
    (I : Inv X pins σ H s) (r : Vals vs us) (h : sp vs H Q (WE W σ)) : wpAny (model X.prog X.w) A (call (.ref f) us) (EP X pins σ Q) X.xe s := by
  have hl : us.length = ps.length := by rw [← r.length]; exact F.len _ _ _ _ h
  have b := hb s us I.kIn (by rw [List.append_nil]; exact hl)
  rw [List.append_nil] at b
  refine wpAny_call (codeAny_mono (F.run A X.stack s H ⟨us, []⟩ us vs Q (WE W σ) hr he b r h) fun r s' hq => ?_)
  cases r with
  | error e => exact passAt tk σ pins H s e s' I hq
  | ok fl =>
    cases fl with
    | ret u => exact I.after hq
    | next => exact False.elim hq
    | brk => exact False.elim hq
    | cont => exact False.elim hq
/-- o.m(e, ..) -/
def tMethX (C : Addr) (m : Str) (sp : Sp) (W : WX) (ta : TE) (t : TA) : TE := fun σ H Q => ta σ H fun x H1 => ∃ a dx fs, x = .ref a ∧ H1 a = some (.ins C dx fs) ∧ fs.lookup m = none ∧ t σ H1 fun vs H2 => sp (x :: vs) H2 Q (WE W σ)
theorem pe_methX {pl : Sem Bool} (he : PE X o ta) (c : Cls X.K C) (hm : Meth X.K C m f) (F : FnOk X.prog X.w X.K X.mg X.base (L2.CX X.prog X.w) k f fd ps sp) (hr : Room k X.A) (hb : Binds X.K fd ps []) (tk : Takes X W) (ha : PA X (e :: es) t)
    (hst : starEach (e :: es) X.env = (false, eval e X.env) :: starEach es X.env := by rfl) (hpl : (backTo pos (starEach es X.env)).any (·.1) = false := by rfl)
    (ht : eval (.Call (.Attribute o m apos) (e :: es) [] pos) X.env = (do
      let ov ← eval o X.env
      standAt apos.atName
      let (f, first) ← holding [ov] (getMethod ov m pl)
      callWith pos f first (backTo pos (starEach (e :: es) X.env)) (backToKw pos (keywordEach [] X.env))) := by rfl) :
    PE X (.Call (.Attribute o m apos) (e :: es) [] pos) (tMethX C m sp W ta t) := by
  refine ⟨fun pins s σ H Q I h => ?_⟩
  refine PySem.W.methodCall_KW (pl := pl) (thn (he.run pins s σ H _ I h) fun u s1 ⟨x, H1, I1, rx, a, dx, fs, ex, ea, l, q⟩ => ?_) ht
  subst ex
  obtain rfl : u = Value.ref a := rx
  refine getmeth_ok I1 ea c hm l ?_
  refine PySem.W.callWith_K (first := [.ref a]) (h₀ := X.base) I.ok.mod.kin hm.kp (thn (ha.run pos pins s1 σ H1 _ I1 q) fun us s2 ⟨vs, H2, I2, r, q2⟩ => ⟨I2.kIn, ?_⟩) hst hpl
  exact runS (us := .ref a :: us) (vs := .ref a :: vs) F hr I2.env0 hb tk I2 (.cons rfl r) q2
theorem pe_methX0 {pl : Sem Bool} (he : PE X o ta) (c : Cls X.K C) (hm : Meth X.K C m f) (F : FnOk X.prog X.w X.K X.mg X.base (L2.CX X.prog X.w) k f fd ps sp) (hr : Room k X.A) (hb : Binds X.K fd ps []) (tk : Takes X W)
    (ht : eval (.Call (.Attribute o m apos) [] [] pos) X.env = (do
      let ov ← eval o X.env
      standAt apos.atName
      let (f, first) ← holding [ov] (getMethod ov m pl)
      callWith pos f first (backTo pos (starEach [] X.env)) (backToKw pos (keywordEach [] X.env))) := by rfl) :
    PE X (.Call (.Attribute o m apos) [] [] pos) (tMethX C m sp W ta tNil) := by
  refine ⟨fun pins s σ H Q I h => ?_⟩
  refine PySem.W.methodCall_KW (pl := pl) (thn (he.run pins s σ H _ I h) fun u s1 ⟨x, H1, I1, rx, a, dx, fs, ex, ea, l, q⟩ => ?_) ht
  subst ex
  obtain rfl : u = Value.ref a := rx
  refine getmeth_ok I1 ea c hm l ?_
  exact PySem.W.callWith_K0 (first := [.ref a]) I1.kIn hm.kp (runS (us := [.ref a]) (vs := [.ref a]) F hr I1.env0 hb tk I1 (.cons rfl .nil) q)
/-- C(e, ..) -/
def tMakeX (C : Addr) (sp : Sp) (W : WX) (t : TA) : TE := fun σ H Q => t σ H fun vs H1 => ∀ x dx, H1 x = none → H1 dx = none → dx ≠ x →
  sp (.ref x :: vs) (upd (upd H1 dx (.own x)) x (.ins C dx [])) (fun v H2 => v = .non ∧ Q (.ref x) H2) (WE W σ)
theorem runS_make {pins : List (Addr × Obj)} {σ : L2.St} {H : Hp} {s : Shared} {Q : VK} {us : List Value} {vs : List V} (M : Mk X.K C f) (F : FnOk X.prog X.w X.K X.mg X.base (L2.CX X.prog X.w) k f fd ps sp) (hr : Room (k + 1) X.A) (hb : Binds X.K fd ps [])
    (tk : Takes X W) (I : Inv X pins σ H s) (r : Vals vs us)
    (h : ∀ x dx, H x = none → H dx = none → dx ≠ x → sp (.ref x :: vs) (upd (upd H dx (.own x)) x (.ins C dx [])) (fun v H2 => v = .non ∧ Q (.ref x) H2) (WE W σ)) :
    wpAny (model X.prog X.w) X.A (call (.ref C) us) (EP X pins σ Q) X.xe s := by
  have hq := h (s.heap.objs.size + 1) s.heap.objs.size (I.hok.fresh (Nat.le_succ _)) (I.hok.fresh (Nat.le_refl _)) (Nat.ne_of_lt (Nat.lt_succ_self _))
  have I2 := Inv.made (C := C) I
  have r2 : Vals (V.ref (s.heap.objs.size + 1) :: vs) (Value.ref (s.heap.objs.size + 1) :: us) := .cons rfl r
  have hl : (Value.ref (s.heap.objs.size + 1) :: us).length = ps.length := by
    have e := r2.length
    rw [F.len _ _ _ _ hq] at e
    exact e.symm
  have b := hb _ (Value.ref (s.heap.objs.size + 1) :: us) I2.kIn (by rw [List.append_nil]; exact hl)
  rw [List.append_nil] at b
  refine wpAny_call (make_map (f := f) I.kIn M.makes M.init (beq_iff_eq.mp M.fn) (codeAny_mono (F.run _ X.stack _ _ ⟨Value.ref (s.heap.objs.size + 1) :: us, []⟩ (Value.ref (s.heap.objs.size + 1) :: us) _ _ (WE W σ) (hr.make C us [])
    (I2.env0.make C us []) b r2 hq) fun r s' hq' => ?_))
  cases r with
  | error e => exact passAt tk σ pins _ _ e s' I2 hq'
  | ok fl =>
    cases fl with
    | ret u =>
      obtain ⟨v, H', I3, rv, ev, q3⟩ := I2.after hq'
      subst ev
      exact ⟨rv, ⟨V.ref (s.heap.objs.size + 1), H', I3, rfl, q3⟩⟩
    | next => exact False.elim hq'
    | brk => exact False.elim hq'
    | cont => exact False.elim hq'
theorem pe_makeX (M : Mk X.K C f) (F : FnOk X.prog X.w X.K X.mg X.base (L2.CX X.prog X.w) k f fd ps sp) (hr : Room (k + 1) X.A) (hg : Gl X x) (hm : X.mg x = some (.ref C)) (hb : Binds X.K fd ps []) (tk : Takes X W)
    (ha : PA X (e :: es) t) (hdb : (x == ("__debug__" : Str)) = false := by decide) (he : starEach (e :: es) X.env = (false, eval e X.env) :: starEach es X.env := by rfl) (hpl : (backTo pos (starEach es X.env)).any (·.1) = false := by rfl) :
    PE X (.Call (.Name x p) (e :: es) [] pos) (tMakeX C sp W t) := by
  refine ⟨fun pins s σ H Q I h => ?_⟩
  refine wpAny_Call_Name_kw (ld_glob I hg hm ?_ hdb)
  refine PySem.W.callWith_K (h₀ := X.base) I.ok.mod.kin M.kp (thn (ha.run pos pins s σ H _ I h) fun us s1 ⟨vs, H1, I1, r, q⟩ => ⟨I1.kIn, ?_⟩) he hpl
  exact runS_make M F hr hb tk I1 r q
/-- C.m(e, ..), m a staticmethod: the def at f -/
structure SMeth (K : PySem.W.Frag) (C f : Addr) (m : Str) (mc : Value) (q : Addr) : Prop where
  rd : PySem.W.readsIn K C mc = true
  ga : PySem.W.specialIn K (.ref C) "__getattribute__" = some (some (.builtin "type.__getattribute__"))
  fc : PySem.W.findCls K (.ref C) mc m = some (.get (.builtin "staticmethod.__get__") (.ref q) .none (.ref C))
  rc : ∃ rest, PySem.W.recIn K q "staticmethod" = some (.ref f :: rest)
  kp : PySem.W.keepIn K (.ref f) = true
theorem pe_smX {pl : Sem Bool} {mc : Value} {q : Addr} {px : Pos} (hg : Gl X x) (hm : X.mg x = some (.ref C)) (S : SMeth X.K C f m mc q) (F : FnOk X.prog X.w X.K X.mg X.base (L2.CX X.prog X.w) k f fd ps sp) (hr : Room k X.A) (hb : Binds X.K fd ps []) (tk : Takes X W) (ha : PA X (e :: es) t)
    (hdb : (x == ("__debug__" : Str)) = false := by decide) (hst : starEach (e :: es) X.env = (false, eval e X.env) :: starEach es X.env := by rfl) (hpl : (backTo pos (starEach es X.env)).any (·.1) = false := by rfl)
    (ht : eval (.Call (.Attribute (.Name x px) m apos) (e :: es) [] pos) X.env = (do
      let ov ← eval (.Name x px) X.env
      standAt apos.atName
      let (f, first) ← holding [ov] (getMethod ov m pl)
      callWith pos f first (backTo pos (starEach (e :: es) X.env)) (backToKw pos (keywordEach [] X.env))) := by rfl) :
    PE X (.Call (.Attribute (.Name x px) m apos) (e :: es) [] pos) (tCallS sp (WE W) t) := by
  refine ⟨fun pins s σ H Q I h => ?_⟩
  refine PySem.W.methodCall_KW (pl := pl) (ld_glob I hg hm ?_ hdb) ht
  obtain ⟨rest, hp⟩ := S.rc
  refine PySem.W.method_cls I.kIn S.ga (PySem.W.cls_bind I.kIn S.rd S.fc (wpAny_call (PySem.W.sm_get (s := { s with toks := s.toks + 1 }) I.kIn hp (PySem.W.handed_on rfl ?_))))
  have I0 := I.tok (s.toks + 1)
  refine PySem.W.callWith_K (first := []) (h₀ := X.base) I.ok.mod.kin S.kp (thn (ha.run pos pins _ σ H _ I0 h) fun us s2 ⟨vs, H2, I2, r, q2⟩ => ⟨I2.kIn, ?_⟩) hst hpl
  exact runS (us := us) (vs := vs) F hr I2.env0 hb tk I2 r q2
theorem ins_atS {pins : List (Addr × Obj)} {s : Shared} {σ : L2.St} {H : Hp} {a C dx : Addr} {fs : List (Str × V)} (I : Inv X pins σ H s) (e : H a = some (.ins C dx fs)) :
    ∃ od, InstAt s.heap a (instObj C dx) C (some od) := by
  obtain ⟨mA, O, _⟩ := ins_get I.hok e
  obtain ⟨od, J, _⟩ := O.look
  exact ⟨od, J⟩
theorem val_casesS {v : V} {u : Value} (r : RelV v u) : u ≠ .notImplemented := by
  cases v with
  | non => cases (show u = Value.none from r); exact fun z => nomatch z
  | bl b => cases (show u = Value.bool b from r); exact fun z => nomatch z
  | int i => obtain ⟨t, e⟩ := (show ∃ t, u = Value.int i t from r); cases e; exact fun z => nomatch z
  | str x => obtain ⟨t, e⟩ := (show ∃ t, u = Value.str x t from r); cases e; exact fun z => nomatch z
  | byt b => obtain ⟨t, e⟩ := (show ∃ t, u = Value.bytes b t from r); cases e; exact fun z => nomatch z
  | flt b => obtain ⟨t, e⟩ := (show ∃ t, u = Value.float b t from r); cases e; exact fun z => nomatch z
  | ref a => cases (show u = Value.ref a from r); exact fun z => nomatch z
  | ty n => cases (show u = Value.type n from r); exact fun z => nomatch z
theorem cmpBack_S {Q' : Value → Shared → Prop} {v : V} {u : Value} {s' : Shared} (r : RelV v u) (h : Q' u s') : PySem.W.CmpBack Q' u s' := by
  have hn := val_casesS r
  cases u with
  | notImplemented => exact absurd rfl hn
  | _ => exact h
/-- a op b of two instances of one class -/
def tOwn2 (C : Addr) (sp : Sp) (W : WX) (ta tb : TE) : TE := fun σ H Q => ta σ H fun x H1 => tb σ H1 fun y H2 => ∃ a dx fs b dy gs, x = .ref a ∧ y = .ref b ∧ H2 a = some (.ins C dx fs) ∧ H2 b = some (.ins C dy gs) ∧ sp [x, y] H2 Q (WE W σ)
theorem pe_own2 {a b : Expr} {tb : TE} {op : Operator} (sf : selfFirst X.K C = true) (hm : Meth X.K C (PySem.dunder op.info.2) f) (F : FnOk X.prog X.w X.K X.mg X.base (L2.CX X.prog X.w) k f fd ps sp) (hr : Room k X.A) (hb : Binds X.K fd ps []) (tk : Takes X W) (ha : PE X a ta) (hb2 : PE X b tb) :
    PE X (.BinOp a op b pos) (tOwn2 C sp W ta tb) := by
  refine ⟨fun pins s σ H Q I h => ?_⟩
  refine wpAny_BinOp (binT ha hb2 I h fun v u s2 x y H2 I2 rx ry q => ?_)
  obtain ⟨a, dx, fs, b, dy, gs, rfl, rfl, ha, hb', q⟩ := q
  obtain rfl : v = Value.ref a := rx
  obtain rfl : u = Value.ref b := ry
  obtain ⟨m, F0⟩ := I2.fr
  obtain ⟨od, J⟩ := ins_atS I2 ha
  obtain ⟨od2, J2⟩ := ins_atS I2 hb'
  refine binop_K F0 I2.mod.kin J J2.type sf hm.at_ hm.fn (wpAny_mono (runS F hr I2.env0 hb tk I2 (us := [.ref a, .ref b]) (vs := [.ref a, .ref b]) (.cons rfl (.cons rfl .nil)) q) (fun z s' hz => ?_) fun _ _ e => e)
  obtain ⟨v', H', I', r', q'⟩ := hz
  exact cmpBack_S r' ⟨v', H', I', r', q'⟩
/-- a == b of two instances of one class -/
theorem pe_ownEq {a b : Expr} {tb : TE} (nf : notFirst X.K C (.ref C) = true) (hm : Meth X.K C "__eq__" f) (F : FnOk X.prog X.w X.K X.mg X.base (L2.CX X.prog X.w) k f fd ps sp) (hr : Room k X.A) (hb : Binds X.K fd ps []) (tk : Takes X W) (ha : PE X a ta) (hb2 : PE X b tb) :
    PE X (.Compare a [.Eq] [b] pos) (tOwn2 C sp W ta tb) := by
  refine ⟨fun pins s σ H Q I h => ?_⟩
  refine wpAny_Compare1 (binT ha hb2 I h fun v u s2 x y H2 I2 rx ry q => ?_) (nobehind _ (by decide) (by decide))
  obtain ⟨a, dx, fs, b, dy, gs, rfl, rfl, ha, hb', q⟩ := q
  obtain rfl : v = Value.ref a := rx
  obtain rfl : u = Value.ref b := ry
  obtain ⟨m, F0⟩ := I2.fr
  obtain ⟨od, J⟩ := ins_atS I2 ha
  obtain ⟨od2, J2⟩ := ins_atS I2 hb'
  show wpAny (model X.prog X.w) X.A (richCompare .Eq (.ref a) (.ref b)) (EP X pins σ Q) X.xe s2
  refine cmp_K (op := .Eq) (tb := .ref C) hr.units0 F0 I2.mod.kin J J2.type nf hm.at_ hm.fn (wpAny_mono (runS F hr I2.env0 hb tk I2 (us := [.ref a, .ref b]) (vs := [.ref a, .ref b]) (.cons rfl (.cons rfl .nil)) q) (fun z s' hz => ?_) fun _ _ e => e)
  obtain ⟨v', H', I', r', q'⟩ := hz
  exact cmpBack_S r' ⟨v', H', I', r', q'⟩
/-- -a, ~a -/
def tOwn1 (C : Addr) (sp : Sp) (W : WX) (ta : TE) : TE := fun σ H Q => ta σ H fun x H1 => ∃ a dx fs, x = .ref a ∧ H1 a = some (.ins C dx fs) ∧ sp [x] H1 Q (WE W σ)
theorem pe_ownInv {a : Expr} (hm : Meth X.K C "__invert__" f) (F : FnOk X.prog X.w X.K X.mg X.base (L2.CX X.prog X.w) k f fd ps sp) (hr : Room k X.A) (hb : Binds X.K fd ps []) (tk : Takes X W) (ha : PE X a ta) : PE X (.UnaryOp .Invert a pos) (tOwn1 C sp W ta) := by
  refine ⟨fun pins s σ H Q I h => ?_⟩
  refine PyProof.Rows.UnaryOp_ (thn (ha.run pins s σ H _ I h) fun v s1 ⟨x, H1, I1, r1, a, dx, fs, ex, ea, q⟩ => ?_)
  subst ex
  obtain rfl : v = Value.ref a := r1
  obtain ⟨m, F0⟩ := I1.fr
  obtain ⟨od, J⟩ := ins_atS I1 ea
  exact ksp_inv F0 I1.mod.kin J hm.at_ hm.fn (runS F hr I1.env0 hb tk I1 (us := [.ref a]) (vs := [.ref a]) (.cons rfl .nil) q)
/-- o[i] by an own __getitem__ -/
def tOwnIx (C : Addr) (sp : Sp) (W : WX) (ta tb : TE) : TE := fun σ H Q => ta σ H fun x H1 => tb σ H1 fun y H2 => ∃ a dx fs, x = .ref a ∧ H2 a = some (.ins C dx fs) ∧ sp [x, y] H2 Q (WE W σ)
/-- y in o by an own __contains__ -/
def tOwnIn (C : Addr) (sp : Sp) (W : WX) (ta tb : TE) : TE := fun σ H Q => ta σ H fun x H1 => tb σ H1 fun y H2 => ∃ a dx fs, y = .ref a ∧ H2 a = some (.ins C dx fs) ∧ sp [y, x] H2 (fun v H3 => ∃ b, v = .bl b ∧ Q (.bl b) H3) (WE W σ)
/-- bool(o), str(o), len(o), abs(o) -/
def tOwnB (C : Addr) (sp : Sp) (W : WX) (t : TA) : TE := fun σ H Q => t σ H fun xs H1 => ∃ a dx fs, xs = [.ref a] ∧ H1 a = some (.ins C dx fs) ∧ sp xs H1 (fun v H3 => ∃ b, v = .bl b ∧ Q (.bl b) H3) (WE W σ)
def tOwnS (C : Addr) (sp : Sp) (W : WX) (t : TA) : TE := fun σ H Q => t σ H fun xs H1 => ∃ a dx fs, xs = [.ref a] ∧ H1 a = some (.ins C dx fs) ∧ sp xs H1 (fun v H3 => ∃ b, v = .str b ∧ Q (.str b) H3) (WE W σ)
def tOwnL (C : Addr) (sp : Sp) (W : WX) (t : TA) : TE := fun σ H Q => t σ H fun xs H1 => ∃ a dx fs, xs = [.ref a] ∧ H1 a = some (.ins C dx fs) ∧ sp xs H1 (fun v H3 => ∃ n, v = .int n ∧ (0 ≤ n ∧ n < 2 ^ 63) ∧ Q (.int n) H3) (WE W σ)
theorem bool_hereS {prog : Program} {w : World} {A : Around} {E : Value → Shared → Prop} {s : Shared} {x : Value} {Q : Value → Shared → Prop}
    (h : wpAny (model prog w) A.in1.in1 (truthy x) (fun b s' => Q (.bool b) s') E s) : wpAny (model prog w) A (call (.type "bool") [x]) Q E s := by
  have ft := F.called_bool
  obtain ⟨c, tl, hmro⟩ := ft.mro
  have hmade := ft.made
  have hsub := ft.sub
  have f1 := F.conv_sub_bool
  have h1 := ft.notType
  have h2 := ft.canCreate
  have new : wpAny (model prog w) A.in1.in1 (Builtin.«bool.__new__» ⟨[.type "bool", x], []⟩) (fun fin s' => ∃ b, fin = .done (.ret (.bool b)) ∧ Q (.bool b) s') E s := by
    obtain ⟨hp, g, d, tk, os⟩ := s
    unfold Builtin.«bool.__new__»
    repeat (any_goals (first | assumption | wp_step))
    refine wpAny_mono h (fun b s' q => ?_) (fun _ _ e => e)
    exact wpAny_pure ⟨b, rfl, q⟩
  have hlook := ft.init.lookup
  refine wpAny_call (codeAny_of_tree ?_)
  show wpAny _ _ (callAny (.type "bool") _) _ _ _
  refine wpAny_pure ⟨Code.quiet_builtin _ (by decide +kernel), codeAny_builtin PySem.F.entry_type_call ?_⟩
  rw [Around.under_plain (weight_type_call_type "bool" [x] []) (units_type_call_type "bool" [x] [])]
  repeat (any_goals (first | assumption | wp_step))
  refine codeAny_mono (codeAny_call_builtin (R := fun r s' => match r with | .ok (.ret v) => (∃ b, v = .bool b) ∧ Q v s' | .ok _ => False | .error e => E e s') ft.plain F.entry_bool_new (wpAny_of_eq (F.newCall_bool_1 x) (wpAny_mono new (fun fin s' q => ?_) fun _ _ e => e))) fun r s1 hr => ?_
  · obtain ⟨b, rfl, q⟩ := q
    exact ⟨⟨b, rfl⟩, q⟩
  · cases r with
    | error e => exact hr
    | ok fl =>
      cases fl with
      | ret obj =>
        obtain ⟨⟨b, rfl⟩, q⟩ := hr
        have hT : s1.TypeIs (.bool b) "bool" := PySem.typeIs_bool _ _
        have hbi := ft.init.bind (.bool b)
        repeat (any_goals (first | assumption | wp_step))
        have im := object_init_meets (self := .bool b) (rest := [x]) ft.init.lookup ft.made F.newNe_bool prog w A.in1 (fun r s' => r = .ok (.ret .none) ∧ Q (.bool b) s') s1 ⟨hT, rfl, q⟩
        refine codeAny_mono (codeAny_call_builtin (R := fun r s' => r = .ok (.ret .none) ∧ Q (.bool b) s') ft.init.plain PySem.F.entry_object_init (ft.init.check _ _ _ _ _ _ _ _ hT (F.args_object_init_2 _ x) im)) fun r2 s2 hr2 => ?_
        obtain ⟨rfl, q2⟩ := hr2
        repeat (any_goals (first | assumption | wp_step))
      | _ => exact hr.elim
theorem pe_ownBool (hm : Meth X.K C "__bool__" f) (F : FnOk X.prog X.w X.K X.mg X.base (L2.CX X.prog X.w) k f fd ps sp) (hr : Room (k + 1 + 1) X.A) (hb : Binds X.K fd ps []) (tk : Takes X W) (hg : Gl X "bool") (hmn : X.mg "bool" = none) (ha : PA X (e :: es) t)
    (he : starEach (e :: es) X.env = (false, eval e X.env) :: starEach es X.env := by rfl) (hpl : (backTo pos (starEach es X.env)).any (·.1) = false := by rfl) : PE X (.Call (.Name "bool" p) (e :: es) [] pos) (tOwnB C sp W t) := by
  refine ⟨fun pins s σ H Q I h => ?_⟩
  refine wpAny_Call_Name_kw (ld_blt I hg hmn (u := Value.type "bool") (by decide +kernel) ?_ (by decide) (by decide))
  refine PyProof.Rows.callWith_type1 (thn (ha.run pos pins s σ H _ I h) fun us s1 ⟨vs, H1, I1, r1, a, dx, fs, ex, ea, q⟩ => ?_) he hpl
  subst ex
  obtain ⟨u, rfl, rx⟩ := vals1 r1
  obtain rfl : u = Value.ref a := rx
  obtain ⟨m, F0⟩ := I1.fr
  obtain ⟨od, J⟩ := ins_atS I1 ea
  refine bool_hereS (truthy_K F0 I1.mod.kin J hm.at_ hm.fn (wpAny_mono (runS F hr.in1.in1 I1.env0.in1.in1 hb tk I1 (us := [.ref a]) (vs := [.ref a]) (.cons rfl .nil) q) (fun z s' hz => ?_) fun _ _ e => e))
  obtain ⟨v', H', I', r', b, rfl, q'⟩ := hz
  cases (show z = Value.bool b from r')
  exact ⟨.bl b, H', I', rfl, q'⟩
theorem pe_ownStr (hm : Meth X.K C "__str__" f) (F : FnOk X.prog X.w X.K X.mg X.base (L2.CX X.prog X.w) k f fd ps sp) (hr : Room (k + 1 + 1) X.A) (hb : Binds X.K fd ps []) (tk : Takes X W) (hg : Gl X "str") (hmn : X.mg "str" = none) (ha : PA X (e :: es) t)
    (he : starEach (e :: es) X.env = (false, eval e X.env) :: starEach es X.env := by rfl) (hpl : (backTo pos (starEach es X.env)).any (·.1) = false := by rfl) : PE X (.Call (.Name "str" p) (e :: es) [] pos) (tOwnS C sp W t) := by
  refine ⟨fun pins s σ H Q I h => ?_⟩
  refine wpAny_Call_Name_kw (ld_blt I hg hmn (u := Value.type "str") (by decide +kernel) ?_ (by decide) (by decide))
  refine PyProof.Rows.callWith_type1 (thn (ha.run pos pins s σ H _ I h) fun us s1 ⟨vs, H1, I1, r1, a, dx, fs, ex, ea, q⟩ => ?_) he hpl
  subst ex
  obtain ⟨u, rfl, rx⟩ := vals1 r1
  obtain rfl : u = Value.ref a := rx
  obtain ⟨od, J⟩ := ins_atS I1 ea
  refine kso_call hr.in1.in1.units0 I1.kIn J hm.at_ hm.fn (wpAny_mono (runS F hr.in1.in1 I1.env0.in1.in1 hb tk I1 (us := [.ref a]) (vs := [.ref a]) (.cons rfl .nil) q) (fun z s' hz => ?_) fun _ _ e => e)
  obtain ⟨v', H', I', r', b, rfl, q'⟩ := hz
  obtain ⟨tk', rfl⟩ := (show ∃ t, z = Value.str b t from r')
  exact ⟨.str b, H', I', ⟨_, rfl⟩, q'⟩
theorem pe_ownLen (hm : Meth X.K C "__len__" f) (F : FnOk X.prog X.w X.K X.mg X.base (L2.CX X.prog X.w) k f fd ps sp) (hr : Room (k + 1) X.A) (hb : Binds X.K fd ps []) (tk : Takes X W) (hg : Gl X "len") (hmn : X.mg "len" = none) (ha : PA X (e :: es) t)
    (he : starEach (e :: es) X.env = (false, eval e X.env) :: starEach es X.env := by rfl) (hpl : (backTo pos (starEach es X.env)).any (·.1) = false := by rfl) : PE X (.Call (.Name "len" p) (e :: es) [] pos) (tOwnL C sp W t) := by
  refine ⟨fun pins s σ H Q I h => ?_⟩
  refine wpAny_Call_Name_kw (ld_blt I hg hmn (u := Value.builtin "len") (by decide +kernel) ?_ (by decide) (by decide))
  refine PyProof.Rows.callWith_builtin1 (thn (ha.run pos pins s σ H _ I h) fun us s1 ⟨vs, H1, I1, r1, a, dx, fs, ex, ea, q⟩ => ?_) he hpl
  subst ex
  obtain ⟨u, rfl, rx⟩ := vals1 r1
  obtain rfl : u = Value.ref a := rx
  obtain ⟨m, F0⟩ := I1.fr
  obtain ⟨od, J⟩ := ins_atS I1 ea
  refine len_K F0 I1.mod.kin J hm.at_ hm.fn (wpAny_mono (runS F hr.in1 I1.env0.in1 hb tk I1 (us := [.ref a]) (vs := [.ref a]) (.cons rfl .nil) q) (fun z s' hz => ?_) fun _ _ e => e)
  obtain ⟨v', H', I', r', n, rfl, hn, q'⟩ := hz
  obtain ⟨tk', rfl⟩ := (show ∃ t, z = Value.int n t from r')
  exact ⟨hn, .int n, H', I'.tok _, ⟨_, rfl⟩, q'⟩
theorem pe_ownIx {a b : Expr} {tb : TE} (hq : noSeq X.K C = true) (hm : Meth X.K C "__getitem__" f) (F : FnOk X.prog X.w X.K X.mg X.base (L2.CX X.prog X.w) k f fd ps sp) (hr : Room k X.A) (hb : Binds X.K fd ps []) (tk : Takes X W) (ha : PE X a ta) (hb2 : PE X b tb) (hs : PlainIx b)
    (htail : ∀ (pins : List (Addr × Obj)) (s : Shared) (σ : L2.St) (H : Hp) (x : Addr) (dx : Addr) (fs : List (Str × V)) (u : Value) (Q : Value → Shared → Prop), Inv X pins σ H s → H x = some (.ins C dx fs) → wpAny (model X.prog X.w) X.A (getItem (.ref x) u) Q X.xe s → wpAny (model X.prog X.w) X.A (subscriptTail a b (.ref x) u) Q X.xe s) :
    PE X (.Subscript a b pos) (tOwnIx C sp W ta tb) := by
  refine ⟨fun pins s σ H Q I h => ?_⟩
  refine PyProof.Rows.Subscript_ (binT ha hb2 I h fun v u s2 x y H2 I2 rx ry q => ?_)
  obtain ⟨a, dx, fs, rfl, ha, q⟩ := q
  obtain rfl : v = Value.ref a := rx
  obtain ⟨m, F0⟩ := I2.fr
  obtain ⟨od, J⟩ := ins_atS I2 ha
  refine htail pins s2 σ H2 a dx fs u _ I2 ha (getItem_K F0 I2.mod.kin J hq hm.at_ hm.fn ?_)
  exact runS F hr I2.env0 hb tk I2 (us := [.ref a, u]) (vs := [.ref a, y]) (.cons rfl (.cons ry .nil)) q
theorem pe_ownIn {a b : Expr} {tb : TE} (hm : Meth X.K C "__contains__" f) (F : FnOk X.prog X.w X.K X.mg X.base (L2.CX X.prog X.w) k f fd ps sp) (hr : Room k X.A) (hb : Binds X.K fd ps []) (tk : Takes X W) (ha : PE X a ta) (hb2 : PE X b tb) (hmk : behindInMarks .In b = false := by rfl) :
    PE X (.Compare a [.In] [b] pos) (tOwnIn C sp W ta tb) := by
  refine ⟨fun pins s σ H Q I h => ?_⟩
  refine wpAny_Compare1 (binT ha hb2 I h fun v u s2 x y H2 I2 rx ry q => ?_) hmk
  obtain ⟨a, dx, fs, rfl, ha, q⟩ := q
  obtain rfl : u = Value.ref a := ry
  obtain ⟨m, F0⟩ := I2.fr
  obtain ⟨od, J⟩ := ins_atS I2 ha
  refine in_K F0 I2.mod.kin J hm.at_ hm.fn (wpAny_mono (runS F hr I2.env0 hb tk I2 (us := [.ref a, v]) (vs := [.ref a, x]) (.cons rfl (.cons rx .nil)) q) (fun z s' hz => ?_) fun _ _ e => e)
  obtain ⟨v', H', I', r', b, rfl, q'⟩ := hz
  cases (show z = Value.bool b from r')
  exact wpAny_truthy_bool ⟨.bl b, H', I', rfl, q'⟩
end
end L2

set_option autoImplicit true
set_option Elab.async false
set_option linter.all false
set_option maxRecDepth 100000
set_option maxHeartbeats 4000000
/-! rules: methods, objects made, own operators, errors raised and caught -/
namespace Ed
open PySem L2

section
variable {X : Cx} {cn : Cn} {W : WX} {a b e o : Expr} {es : List Expr} {pos apos : Pos} {ea eb eo : EV} {qa qb : QV} {av : AV} {lv : LV} {sa sb : SV}
variable {k c : Nat} {f : Addr} {fd : FuncData} {ps : List Str} {ms : List Bool} {Ff : FV} {x m : Str} {p : Pos}
theorem insOf {F : Hp} {v : V} {c : Nat} {fs : List (Nat × D)} (h : Rep X.K cn F v (.ins c fs)) : ∃ a dx fvs, v = .ref a ∧ F a = some (.ins (cn.ca c) dx fvs) ∧ fvs.map (·.1) = fs.map (fun p => cn.fa p.1) := by
  cases h with
  | ins h hk r => exact ⟨_, _, _, rfl, h, hk⟩
theorem look_no {m : Str} {fa : Nat → Str} (hm : ∀ g, fa g ≠ m) : ∀ {fvs : List (Str × V)} {fs : List (Nat × D)}, fvs.map (·.1) = fs.map (fun p => fa p.1) → fvs.lookup m = none
  | [], _, _ => rfl
  | _ :: _, [], h => by simp at h
  | (g, y) :: r, (g2, z) :: r2, h => by
    simp only [List.map_cons, List.cons.injEq] at h
    obtain ⟨h1, h2⟩ := h
    have h1 : g = fa g2 := h1
    subst h1
    have q : (m == fa g2) = false := beq_eq_false_iff_ne.mpr fun z => hm g2 z.symm
    simp only [List.lookup, q]
    exact look_no hm h2
theorem dn_meth {t1 : TE} {t : TA} {C0 : Addr} {ms : List Bool} {Q : VK} {P' : D × Env → Prop} {C : Ct} {Γ : Env} {σ : L2.St} {F H : Hp} {fin : DV × Env → R (D × Env)} (hC : C0 = cn.ca c) (hm : ∀ g, cn.fa g ≠ m) (h1 : DE cn W X.K t1 eo) (h2 : DA cn W X.K t av) (R : RelS X.K cn C Γ σ F H)
    (k : Post ((eo Γ).bind fun (d, Γ0) => match d with
      | .ins c' _ => if c' = c then (av Γ0).bind fun (ps, Γ1) => (callF Ff (false :: ms) (.pd d :: ps) Γ1).bind fin else .bad
      | _ => .bad) P' (XW X.K cn C F W))
    (hP : ∀ o Γ2 v F2 H2, Post (fin (o, Γ2)) P' (XW X.K cn C F W) → Same F F2 → RelS X.K cn C Γ2 σ F2 H2 → DVN X.K cn C Γ2 σ F2 H2 v o → Q v H2) : tMethX C0 m (spD X.K cn (false :: ms) Ff) W t1 t σ H Q := by
  subst hC
  refine h1 C Γ σ F H _ R (k.bind.mono (fun p k v F' H' s1 R1 hv => ?_) fun _ _ z => z)
  obtain ⟨d, Γ0⟩ := p
  cases d with
  | ins c' fs =>
    dsimp only at k R1 hv
    by_cases ec : c' = c
    · subst ec
      rw [if_pos rfl] at k
      obtain ⟨a, dx, fvs, ev, ha, hk⟩ := insOf hv
      refine ⟨a, dx, fvs, ev, R1.bs.fh _ _ ha, look_no hm hk, ?_⟩
      refine h2 C Γ0 σ F' H' _ R1 (k.bind.mono (fun q k vs F2 H2 s2 R2 hw => ?_) fun _ _ z => XW.up s1 z)
      exact call_ok (ps := .pd (.ins c' fs) :: q.1) R2 ⟨hv.mono s2, hw⟩ (k.bind.mono (fun _ z => z) fun _ _ z => XW.up (s1.trans s2) z) fun o Γ2 v2 F3 H3 hp s3 R3 dv => hP o Γ2 v2 F3 H3 hp ((s1.trans s2).trans s3) R3 dv
    · rw [if_neg ec] at k; exact k.elim
  | _ => exact k.elim
theorem je_meth {pl : Sem Bool} (he : JE X cn W o eo) (hc : Cls X.K (cn.ca c)) (hm : Meth X.K (cn.ca c) m f) (hno : ∀ g, cn.fa g ≠ m) (F : FnOk X.prog X.w X.K X.mg X.base (L2.CX X.prog X.w) k f fd ps (spD X.K cn (false :: ms) Ff)) (hr : Room k X.A) (hb : Binds X.K fd ps []) (tk : Takes X W) (ha : JA X cn W (e :: es) av)
    (hst : starEach (e :: es) X.env = (false, eval e X.env) :: starEach es X.env := by rfl) (hpl : (backTo pos (starEach es X.env)).any (·.1) = false := by rfl)
    (ht : eval (.Call (.Attribute o m apos) (e :: es) [] pos) X.env = (do
      let ov ← eval o X.env
      standAt apos.atName
      let (f, first) ← holding [ov] (getMethod ov m pl)
      callWith pos f first (backTo pos (starEach (e :: es) X.env)) (backToKw pos (keywordEach [] X.env))) := by rfl) : JE X cn W (.Call (.Attribute o m apos) (e :: es) [] pos) (eMeth c Ff ms eo av) := by
  obtain ⟨t1, p1, d1⟩ := he
  obtain ⟨t2, p2, d2⟩ := ha
  exact ⟨_, pe_methX p1 hc hm F hr hb tk p2 hst hpl ht, fun C Γ σ F H Q R k => dn_meth rfl hno d1 d2 R k fun o Γ2 v F2 H2 hp s R2 dv => dvn_e s R2 dv hp⟩
theorem jn_meth {pl : Sem Bool} (he : JE X cn W o eo) (hc : Cls X.K (cn.ca c)) (hm : Meth X.K (cn.ca c) m f) (hno : ∀ g, cn.fa g ≠ m) (F : FnOk X.prog X.w X.K X.mg X.base (L2.CX X.prog X.w) k f fd ps (spD X.K cn (false :: ms) Ff)) (hr : Room k X.A) (hb : Binds X.K fd ps []) (tk : Takes X W) (ha : JA X cn W (e :: es) av)
    (hst : starEach (e :: es) X.env = (false, eval e X.env) :: starEach es X.env := by rfl) (hpl : (backTo pos (starEach es X.env)).any (·.1) = false := by rfl)
    (ht : eval (.Call (.Attribute o m apos) (e :: es) [] pos) X.env = (do
      let ov ← eval o X.env
      standAt apos.atName
      let (f, first) ← holding [ov] (getMethod ov m pl)
      callWith pos f first (backTo pos (starEach (e :: es) X.env)) (backToKw pos (keywordEach [] X.env))) := by rfl) : JN X cn W (.Call (.Attribute o m apos) (e :: es) [] pos) (nMeth c Ff ms eo av) := by
  obtain ⟨t1, p1, d1⟩ := he
  obtain ⟨t2, p2, d2⟩ := ha
  refine ⟨_, pe_methX p1 hc hm F hr hb tk p2 hst hpl ht, fun C Γ σ F H Q R k => dn_meth rfl hno d1 d2 R k fun o Γ2 v F2 H2 hp s R2 dv => ?_⟩
  cases o with
  | fz d => exact hp.elim
  | fr d => exact hp v F2 H2 s R2 dv
theorem da_nil : DA cn W X.K tNil aNil := fun C Γ σ F H Q r k => k [] F H (Same.refl _) r True.intro
theorem je_meth0 {pl : Sem Bool} (he : JE X cn W o eo) (hc : Cls X.K (cn.ca c)) (hm : Meth X.K (cn.ca c) m f) (hno : ∀ g, cn.fa g ≠ m) (F : FnOk X.prog X.w X.K X.mg X.base (L2.CX X.prog X.w) k f fd ps (spD X.K cn [false] Ff)) (hr : Room k X.A) (hb : Binds X.K fd ps []) (tk : Takes X W)
    (ht : eval (.Call (.Attribute o m apos) [] [] pos) X.env = (do
      let ov ← eval o X.env
      standAt apos.atName
      let (f, first) ← holding [ov] (getMethod ov m pl)
      callWith pos f first (backTo pos (starEach [] X.env)) (backToKw pos (keywordEach [] X.env))) := by rfl) : JE X cn W (.Call (.Attribute o m apos) [] [] pos) (eMeth c Ff [] eo aNil) := by
  obtain ⟨t1, p1, d1⟩ := he
  exact ⟨_, pe_methX0 p1 hc hm F hr hb tk ht, fun C Γ σ F H Q R k => dn_meth rfl hno d1 da_nil R k fun o Γ2 v F2 H2 hp s R2 dv => dvn_e s R2 dv hp⟩
theorem jn_meth0 {pl : Sem Bool} (he : JE X cn W o eo) (hc : Cls X.K (cn.ca c)) (hm : Meth X.K (cn.ca c) m f) (hno : ∀ g, cn.fa g ≠ m) (F : FnOk X.prog X.w X.K X.mg X.base (L2.CX X.prog X.w) k f fd ps (spD X.K cn [false] Ff)) (hr : Room k X.A) (hb : Binds X.K fd ps []) (tk : Takes X W)
    (ht : eval (.Call (.Attribute o m apos) [] [] pos) X.env = (do
      let ov ← eval o X.env
      standAt apos.atName
      let (f, first) ← holding [ov] (getMethod ov m pl)
      callWith pos f first (backTo pos (starEach [] X.env)) (backToKw pos (keywordEach [] X.env))) := by rfl) : JN X cn W (.Call (.Attribute o m apos) [] [] pos) (nMeth c Ff [] eo aNil) := by
  obtain ⟨t1, p1, d1⟩ := he
  refine ⟨_, pe_methX0 p1 hc hm F hr hb tk ht, fun C Γ σ F H Q R k => dn_meth rfl hno d1 da_nil R k fun o Γ2 v F2 H2 hp s R2 dv => ?_⟩
  cases o with
  | fz d => exact hp.elim
  | fr d => exact hp v F2 H2 s R2 dv
/-- C(e, ..) -/
theorem je_make {Fi : List D → R (List (Nat × D))} (M : Mk X.K (cn.ca c) f) (F : FnOk X.prog X.w X.K X.mg X.base (L2.CX X.prog X.w) k f fd ps (spI X.K cn c ms Fi)) (hr : Room (k + 1) X.A) (hg : Gl X x) (hm : X.mg x = some (.ref (cn.ca c))) (hb : Binds X.K fd ps []) (tk : Takes X W)
    (ha : JA X cn W (e :: es) av) (hdb : (x == ("__debug__" : Str)) = false := by decide) (he : starEach (e :: es) X.env = (false, eval e X.env) :: starEach es X.env := by rfl) (hpl : (backTo pos (starEach es X.env)).any (·.1) = false := by rfl) :
    JE X cn W (.Call (.Name x p) (e :: es) [] pos) (eCall (mkF c Fi) ms av) := by
  obtain ⟨t, pa, d⟩ := ha
  refine ⟨_, pe_makeX M F hr hg hm hb tk pa hdb he hpl, fun C Γ σ F0 H Q R k => ?_⟩
  refine d C Γ σ F0 H _ R (k.bind.mono (fun p k vs F' H' s1 R1 hv => ?_) fun _ _ z => z)
  exact spD_make (call_ok R1 hv (k.bind.mono (fun _ z => z) fun _ _ z => XW.up s1 z) fun o Γ2 v F2 H2 hP s R2 dv => dvn_e (s1.trans s) R2 dv hP)
/-- C.m(e, ..), a staticmethod -/
theorem je_sm {pl : Sem Bool} {mc : Value} {q : Addr} {px : Pos} (hg : Gl X x) (hm : X.mg x = some (.ref (cn.ca c))) (S : SMeth X.K (cn.ca c) f m mc q) (F : FnOk X.prog X.w X.K X.mg X.base (L2.CX X.prog X.w) k f fd ps (spD X.K cn ms Ff)) (hr : Room k X.A) (hb : Binds X.K fd ps []) (tk : Takes X W) (ha : JA X cn W (e :: es) av)
    (hdb : (x == ("__debug__" : Str)) = false := by decide) (hst : starEach (e :: es) X.env = (false, eval e X.env) :: starEach es X.env := by rfl) (hpl : (backTo pos (starEach es X.env)).any (·.1) = false := by rfl)
    (ht : eval (.Call (.Attribute (.Name x px) m apos) (e :: es) [] pos) X.env = (do
      let ov ← eval (.Name x px) X.env
      standAt apos.atName
      let (f, first) ← holding [ov] (getMethod ov m pl)
      callWith pos f first (backTo pos (starEach (e :: es) X.env)) (backToKw pos (keywordEach [] X.env))) := by rfl) :
    JE X cn W (.Call (.Attribute (.Name x px) m apos) (e :: es) [] pos) (eCall Ff ms av) := by
  obtain ⟨t, pa, d⟩ := ha
  refine ⟨_, pe_smX hg hm S F hr hb tk pa hdb hst hpl ht, fun C Γ σ F0 H Q R k => ?_⟩
  refine d C Γ σ F0 H _ R (k.bind.mono (fun p k vs F' H' s1 R1 hv => ?_) fun _ _ z => z)
  exact call_ok R1 hv (k.bind.mono (fun _ z => z) fun _ _ z => XW.up s1 z) fun o Γ2 v F2 H2 hP s R2 dv => dvn_e (s1.trans s) R2 dv hP
/-! own operators -/
theorem je_own2 {op : Operator} (sf : PySem.W.selfFirst X.K (cn.ca c) = true) (hm : Meth X.K (cn.ca c) (PySem.dunder op.info.2) f) (F : FnOk X.prog X.w X.K X.mg X.base (L2.CX X.prog X.w) k f fd ps (spD X.K cn [false, false] Ff)) (hr : Room k X.A) (hb : Binds X.K fd ps []) (tk : Takes X W) (ha : JE X cn W a ea) (hb2 : JE X cn W b eb) :
    JE X cn W (.BinOp a op b pos) (eOwn2 c Ff ea eb) := by
  obtain ⟨t1, p1, d1⟩ := ha
  obtain ⟨t2, p2, d2⟩ := hb2
  refine ⟨_, pe_own2 sf hm F hr hb tk p1 p2, fun C Γ σ F0 H Q R k => ?_⟩
  refine d1 C Γ σ F0 H _ R (k.bind.mono (fun p k v F' H' s1 R1 hv => ?_) fun _ _ z => z)
  refine d2 C p.2 σ F' H' _ R1 (k.bind.mono (fun q k w F2 H2 s2 R2 hw => ?_) fun _ _ z => XW.up s1 z)
  obtain ⟨x1, Γ1⟩ := p
  obtain ⟨x2, Γ2⟩ := q
  cases x1 with
  | ins c1 fs1 =>
    cases x2 with
    | ins c2 fs2 =>
      dsimp only at k hv hw R2
      by_cases ec : c1 = c ∧ c2 = c
      · rw [if_pos ec] at k
        obtain ⟨e1, e2⟩ := ec
        have kk := k
        subst e1 e2
        obtain ⟨a1, dx, fvs, ev, ha, _⟩ := insOf (hv.mono s2)
        obtain ⟨a2, dy, gvs, ew, ha2, _⟩ := insOf hw
        exact ⟨a1, dx, fvs, a2, dy, gvs, ev, ew, R2.bs.fh _ _ ha, R2.bs.fh _ _ ha2, call_ok (vs := [v, w]) (ps := [.pd (.ins _ fs1), .pd (.ins _ fs2)]) R2 ⟨hv.mono s2, hw, True.intro⟩ (kk.bind.mono (fun _ z => z) fun _ _ z => XW.up (s1.trans s2) z) fun o Γ3 v3 F3 H3 hP s3 R3 dv => dvn_e ((s1.trans s2).trans s3) R3 dv hP⟩
      · rw [if_neg ec] at k; exact k.elim
    | _ => exact k.elim
  | _ => exact k.elim
theorem je_ownEq (nf : PySem.W.notFirst X.K (cn.ca c) (.ref (cn.ca c)) = true) (hm : Meth X.K (cn.ca c) "__eq__" f) (F : FnOk X.prog X.w X.K X.mg X.base (L2.CX X.prog X.w) k f fd ps (spD X.K cn [false, false] Ff)) (hr : Room k X.A) (hb : Binds X.K fd ps []) (tk : Takes X W) (ha : JE X cn W a ea) (hb2 : JE X cn W b eb) :
    JE X cn W (.Compare a [.Eq] [b] pos) (eOwn2 c Ff ea eb) := by
  obtain ⟨t1, p1, d1⟩ := ha
  obtain ⟨t2, p2, d2⟩ := hb2
  refine ⟨_, pe_ownEq nf hm F hr hb tk p1 p2, fun C Γ σ F0 H Q R k => ?_⟩
  refine d1 C Γ σ F0 H _ R (k.bind.mono (fun p k v F' H' s1 R1 hv => ?_) fun _ _ z => z)
  refine d2 C p.2 σ F' H' _ R1 (k.bind.mono (fun q k w F2 H2 s2 R2 hw => ?_) fun _ _ z => XW.up s1 z)
  obtain ⟨x1, Γ1⟩ := p
  obtain ⟨x2, Γ2⟩ := q
  cases x1 with
  | ins c1 fs1 =>
    cases x2 with
    | ins c2 fs2 =>
      dsimp only at k hv hw R2
      by_cases ec : c1 = c ∧ c2 = c
      · rw [if_pos ec] at k
        obtain ⟨e1, e2⟩ := ec
        have kk := k
        subst e1 e2
        obtain ⟨a1, dx, fvs, ev, ha, _⟩ := insOf (hv.mono s2)
        obtain ⟨a2, dy, gvs, ew, ha2, _⟩ := insOf hw
        exact ⟨a1, dx, fvs, a2, dy, gvs, ev, ew, R2.bs.fh _ _ ha, R2.bs.fh _ _ ha2, call_ok (vs := [v, w]) (ps := [.pd (.ins _ fs1), .pd (.ins _ fs2)]) R2 ⟨hv.mono s2, hw, True.intro⟩ (kk.bind.mono (fun _ z => z) fun _ _ z => XW.up (s1.trans s2) z) fun o Γ3 v3 F3 H3 hP s3 R3 dv => dvn_e ((s1.trans s2).trans s3) R3 dv hP⟩
      · rw [if_neg ec] at k; exact k.elim
    | _ => exact k.elim
  | _ => exact k.elim
theorem je_ownInv (hm : Meth X.K (cn.ca c) "__invert__" f) (F : FnOk X.prog X.w X.K X.mg X.base (L2.CX X.prog X.w) k f fd ps (spD X.K cn [false] Ff)) (hr : Room k X.A) (hb : Binds X.K fd ps []) (tk : Takes X W) (ha : JE X cn W a ea) : JE X cn W (.UnaryOp .Invert a pos) (eOwn1 c Ff ea) := by
  obtain ⟨t1, p1, d1⟩ := ha
  refine ⟨_, pe_ownInv hm F hr hb tk p1, fun C Γ σ F0 H Q R k => ?_⟩
  refine d1 C Γ σ F0 H _ R (k.bind.mono (fun p k v F' H' s1 R1 hv => ?_) fun _ _ z => z)
  obtain ⟨x1, Γ1⟩ := p
  cases x1 with
  | ins c1 fs1 =>
    dsimp only at k hv R1
    by_cases ec : c1 = c
    · rw [if_pos ec] at k
      have kk := k
      subst ec
      obtain ⟨a1, dx, fvs, ev, ha, _⟩ := insOf hv
      exact ⟨a1, dx, fvs, ev, R1.bs.fh _ _ ha, call_ok (vs := [v]) (ps := [.pd (.ins _ fs1)]) R1 ⟨hv, True.intro⟩ (kk.bind.mono (fun _ z => z) fun _ _ z => XW.up s1 z) fun o Γ3 v3 F3 H3 hP s3 R3 dv => dvn_e (s1.trans s3) R3 dv hP⟩
    · rw [if_neg ec] at k; exact k.elim
  | _ => exact k.elim
theorem dc_own {t : TA} {kd : D → Bool} {C : Ct} {Γ : Env} {σ : L2.St} {F0 H : Hp} {Q : VK} {Q' : VK} (d1 : ∀ Q : List V → Hp → Prop, Post (ea Γ) (fun p => ∀ v F' H', Same F0 F' → RelS X.K cn C p.2 σ F' H' → Rep X.K cn F' v p.1 → Q [v] H') (XW X.K cn C F0 W) → t σ H Q)
    (hq : ∀ d v F2 H2 Γ2, kd d = true → Rep X.K cn F2 v d → EEnd X.K cn C σ F0 Q (d, Γ2) → Same F0 F2 → RelS X.K cn C Γ2 σ F2 H2 → Q' v H2)
    (k : Post (eOwnC c kd Ff ea Γ) (EEnd X.K cn C σ F0 Q) (XW X.K cn C F0 W)) : t σ H fun xs H1 => ∃ a dx fs, xs = [.ref a] ∧ H1 a = some (.ins (cn.ca c) dx fs) ∧ spD X.K cn [false] Ff xs H1 Q' (WE W σ) := by
  refine d1 _ (k.bind.mono (fun p k v F' H' s1 R1 hv => ?_) fun _ _ z => z)
  obtain ⟨x1, Γ1⟩ := p
  cases x1 with
  | ins c1 fs1 =>
    dsimp only at k hv R1
    by_cases ec : c1 = c
    · rw [if_pos ec] at k
      have kk := k
      subst ec
      obtain ⟨a1, dx, fvs, ev, ha, _⟩ := insOf hv
      refine ⟨a1, dx, fvs, by rw [ev], R1.bs.fh _ _ ha, call_ok (vs := [v]) (ps := [.pd (.ins _ fs1)]) R1 ⟨hv, True.intro⟩ (kk.bind.mono (fun _ z => z) fun _ _ z => XW.up s1 z) fun o Γ3 v3 F3 H3 hP s3 R3 dv => ?_⟩
      cases o with
      | fz d =>
        dsimp only at hP
        split at hP
        · rename_i hk
          exact hq d v3 F3 H3 Γ3 hk dv hP (s1.trans s3) R3
        · exact hP.elim
      | fr d => exact hP.elim
    · rw [if_neg ec] at k; exact k.elim
  | _ => exact k.elim
theorem ta_one {te : TE} (h : DE cn W X.K te ea) {C : Ct} {Γ : Env} {σ : L2.St} {F0 H : Hp} (R : RelS X.K cn C Γ σ F0 H) (Q : List V → Hp → Prop) (k : Post (ea Γ) (fun p => ∀ v F' H', Same F0 F' → RelS X.K cn C p.2 σ F' H' → Rep X.K cn F' v p.1 → Q [v] H') (XW X.K cn C F0 W)) : tCons te tNil σ H Q :=
  h C Γ σ F0 H _ R k
theorem je_ownBool (hm : Meth X.K (cn.ca c) "__bool__" f) (F : FnOk X.prog X.w X.K X.mg X.base (L2.CX X.prog X.w) k f fd ps (spD X.K cn [false] Ff)) (hr : Room (k + 1 + 1) X.A) (hb : Binds X.K fd ps []) (tk : Takes X W) (hg : Gl X "bool") (hmn : X.mg "bool" = none) (ha : JE X cn W e ea)
    (he : starEach [e] X.env = (false, eval e X.env) :: starEach [] X.env := by rfl) (hpl : (backTo pos (starEach [] X.env)).any (·.1) = false := by rfl) : JE X cn W (.Call (.Name "bool" p) [e] [] pos) (eOwnC c isB Ff ea) := by
  obtain ⟨t1, p1, d1⟩ := ha
  refine ⟨_, pe_ownBool hm F hr hb tk hg hmn (pa_cons p1 pa_nil he) he hpl, fun C Γ σ F H Q R k => ?_⟩
  refine dc_own (ta_one d1 R) (fun d v F2 H2 Γ2 hk rv hP s R2 => ?_) k
  cases d with
  | bl b => cases rv; exact ⟨b, rfl, hP _ F2 H2 s R2 (.bl b)⟩
  | _ => cases hk
theorem je_ownStr (hm : Meth X.K (cn.ca c) "__str__" f) (F : FnOk X.prog X.w X.K X.mg X.base (L2.CX X.prog X.w) k f fd ps (spD X.K cn [false] Ff)) (hr : Room (k + 1 + 1) X.A) (hb : Binds X.K fd ps []) (tk : Takes X W) (hg : Gl X "str") (hmn : X.mg "str" = none) (ha : JE X cn W e ea)
    (he : starEach [e] X.env = (false, eval e X.env) :: starEach [] X.env := by rfl) (hpl : (backTo pos (starEach [] X.env)).any (·.1) = false := by rfl) : JE X cn W (.Call (.Name "str" p) [e] [] pos) (eOwnC c isS Ff ea) := by
  obtain ⟨t1, p1, d1⟩ := ha
  refine ⟨_, pe_ownStr hm F hr hb tk hg hmn (pa_cons p1 pa_nil he) he hpl, fun C Γ σ F H Q R k => ?_⟩
  refine dc_own (ta_one d1 R) (fun d v F2 H2 Γ2 hk rv hP s R2 => ?_) k
  cases d with
  | str b => cases rv; exact ⟨b, rfl, hP _ F2 H2 s R2 (.str b)⟩
  | _ => cases hk
theorem je_ownLen (hm : Meth X.K (cn.ca c) "__len__" f) (F : FnOk X.prog X.w X.K X.mg X.base (L2.CX X.prog X.w) k f fd ps (spD X.K cn [false] Ff)) (hr : Room (k + 1) X.A) (hb : Binds X.K fd ps []) (tk : Takes X W) (hg : Gl X "len") (hmn : X.mg "len" = none) (ha : JE X cn W e ea)
    (he : starEach [e] X.env = (false, eval e X.env) :: starEach [] X.env := by rfl) (hpl : (backTo pos (starEach [] X.env)).any (·.1) = false := by rfl) : JE X cn W (.Call (.Name "len" p) [e] [] pos) (eOwnC c isL Ff ea) := by
  obtain ⟨t1, p1, d1⟩ := ha
  refine ⟨_, pe_ownLen hm F hr hb tk hg hmn (pa_cons p1 pa_nil he) he hpl, fun C Γ σ F H Q R k => ?_⟩
  refine dc_own (ta_one d1 R) (fun d v F2 H2 Γ2 hk rv hP s R2 => ?_) k
  cases d with
  | int b =>
    cases rv
    have hk := Bool.and_eq_true_iff.mp (show (decide (0 ≤ b) && decide (b < 2 ^ 62)) = true from hk)
    have h1 := of_decide_eq_true hk.1
    have h2 := of_decide_eq_true hk.2
    exact ⟨b, rfl, ⟨h1, Int.lt_trans h2 (by decide)⟩, hP _ F2 H2 s R2 (.int b)⟩
  | _ => cases hk
/-! errors -/
/-- X(), X an own exception class without own __init__ -/
theorem pmk_own0 {C : Addr} {bmB : List Value} {B newId initId : String} (F : ExcBaseFacts B newId initId bmB) (q : PySem.W.excIn X.K C bmB newId = true) (gC : X.mg x = some (.ref C))
    (kC : PySem.W.keepIn X.K (.ref C) = true) (r : Raises X (.ref C)) (hg : Gl X x) (hdb : (x == ("__debug__" : Str)) = false := by decide) : PMk X (.Call (.Name x p) [] [] pos) (fun _ H Q => Q (.ref C) none H) := by
  intro pins s σ H Q I h
  refine wpAny_Call_Name_kw (ld_glob I hg gC ?_ hdb)
  refine PySem.W.callWith_K0 I.kIn kC ?_
  show wpAny _ _ (call (.ref C) []) _ _ _
  obtain ⟨bm, N, nm, qn, bs, hdct, sn, sub, ab, col, dd, k0, k1, k2, k3, k5, mN, hC, hN, hni, T⟩ := exc_obj I.kIn q
  exact wpAny_call_exc_subT F T hC hN hni (fun h' e hm => mk_of I hm r h (I.hok.gone hm.new)) (Nat.zero_le _)
theorem js_raise0 {C : Addr} {bmB : List Value} {B newId initId : String} {pos2 : Pos} (hc : X.calm = true) (tk : Takes X W) (hC : C = cn.ca c) (F : ExcBaseFacts B newId initId bmB) (q : PySem.W.excIn X.K C bmB newId = true) (gC : X.mg x = some (.ref C))
    (kC : PySem.W.keepIn X.K (.ref C) = true) (r : Raises X (.ref C)) (hg : Gl X x) (hdb : (x == ("__debug__" : Str)) = false := by decide) : JS X cn W (.Raise (some (.Call (.Name x p) [] [] pos)) none pos2) (sRaise c [] lNil) := by
  subst hC
  refine ⟨_, ps_raise hc tk (pmk_own0 F q gC kC r hg hdb), fun C Γ σ F H Dn R k => ?_⟩
  exact k (.ref (cn.ca c)) none σ F H (Same.refl _) R ⟨rfl, .inl ⟨rfl, rfl⟩⟩
/-- the caught error does not matter to what data stands where -/
theorem Rep.cx {K : PySem.W.Frag} {ca : Nat → Addr} {fa : Nat → Str} {e e' : Option (Addr × Value × Option Addr)} {F : Hp} {v : V} {d : D} (h : Rep K ⟨ca, fa, e⟩ F v d) : Rep K ⟨ca, fa, e'⟩ F v d := by
  induction h with
  | non => exact .non
  | bl b => exact .bl b
  | int i => exact .int i
  | str z => exact .str z
  | lst h hl _ ih => exact .lst h hl ih
  | tup h hl _ ih => exact .tup h hl ih
  | dct h hk _ ih => exact .dct h hk ih
  | ins h hk _ ih => exact .ins h hk ih
  | scr h => exact .scr h
section
variable {K : PySem.W.Frag} {ca : Nat → Addr} {fa : Nat → Str} {e e' : Option (Addr × Value × Option Addr)} {F H : Hp} {v : V} {d : D} {C : Ct} {Γ : Env} {σ : St} {a : Addr}
theorem Reps.cx {vs : List V} {ds : List D} (h : Reps K ⟨ca, fa, e⟩ F vs ds) : Reps K ⟨ca, fa, e'⟩ F vs ds := ⟨h.1, fun i v d a b => (h.2 i v d a b).cx⟩
theorem RepP.cx {κ κ' : Type} {g : κ' → κ} {vs : List (κ × V)} {ds : List (κ' × D)} (h : RepP K ⟨ca, fa, e⟩ g F vs ds) : RepP K ⟨ca, fa, e'⟩ g F vs ds := ⟨h.1, fun i v d a b => (h.2 i v d a b).cx⟩
theorem OwnR.cx (h : OwnR K ⟨ca, fa, e⟩ F H a d) : OwnR K ⟨ca, fa, e'⟩ F H a d := by
  cases d with
  | lst ds => obtain ⟨vs, h, r⟩ := h; exact ⟨vs, h, r.cx⟩
  | dct ds => obtain ⟨vs, h, r⟩ := h; exact ⟨vs, h, r.cx⟩
  | _ => exact h.elim
theorem Shal.cx (h : Shal K ⟨ca, fa, e⟩ F H v d) : Shal K ⟨ca, fa, e'⟩ F H v d := by
  cases d with
  | lst ds => obtain ⟨a, vs, e1, h, r⟩ := h; exact ⟨a, vs, e1, h, r.cx⟩
  | dct ds => obtain ⟨a, vs, e1, h, r⟩ := h; exact ⟨a, vs, e1, h, r.cx⟩
  | _ => exact Rep.cx h
theorem RepX.cx {cls : Value} {od : Option Addr} {x : Xc} (h : RepX K ⟨ca, fa, e⟩ F cls od x) : RepX K ⟨ca, fa, e'⟩ F cls od x := by
  obtain ⟨h1, h2⟩ := h
  refine ⟨h1, ?_⟩
  rcases h2 with h2 | ⟨d, fvs, h3, h4, h6, h5⟩
  · exact .inl h2
  · exact .inr ⟨d, fvs, h3, h4, h6, fun f z q => (h5 f z q).imp fun v w => ⟨w.1, w.2.cx⟩⟩
theorem RelS.cx (r : RelS K ⟨ca, fa, e⟩ C Γ σ F H) (hx : (∀ (i : Nat) x, Γ[i]? ≠ some (.exn x)) ∨ e' = none) : RelS K ⟨ca, fa, e'⟩ C Γ σ F H := by
  refine ⟨r.bs, r.len, fun j t h => ?_, r.ow, r.s0⟩
  have w := r.sl j t h
  cases t with
  | emp => trivial
  | val x => obtain ⟨v, a1, r1⟩ := w; exact ⟨v, a1, r1.cx⟩
  | own x => obtain ⟨b, e1, m, m0, r1⟩ := w; exact ⟨b, e1, m, m0, r1.cx⟩
  | bor x => obtain ⟨v, a1, r1⟩ := w; exact ⟨v, a1, r1.cx⟩
  | slf c fs => obtain ⟨b, dx, fvs, e1, e2, m, h5, r1⟩ := w; exact ⟨b, dx, fvs, e1, e2, m, h5, r1.cx⟩
  | exn x =>
    rcases hx with hx | hx
    · exact absurd h (hx j x)
    · subst hx
      obtain ⟨a1, e1, _⟩ := w
      exact ⟨a1, e1, fun _ _ _ z => by cases z⟩
theorem noX_ok : ∀ {Γ : Env}, noX Γ = true → ∀ (i : Nat) x, Γ[i]? ≠ some (.exn x)
  | [], _, i, x => by simp
  | s :: Γ, h, i, x => by
    unfold noX at h
    rw [List.all_cons, Bool.and_eq_true] at h
    cases i with
    | zero =>
      intro q
      have : s = .exn x := by simpa using q
      subst this
      exact Bool.noConfusion (show false = true from h.1)
    | succ i => rw [List.getElem?_cons_succ]; exact noX_ok (Γ := Γ) h.2 i x
end
/-- the wish within a try -/
theorem js_try {i : Nat} {n : Str} {cv : Value} {ex : Nat → Option Bool} {body suite : List Stmt} {b₀ : Stmt} {np pos' : Pos} (hx0 : cn.ex = none) (hs : X.stack = X.env :: X.outer) (hf : X.env.frame = some X.env.locals) (hN : X.N.Nodup) (hi : X.N[i]? = some n) (hln : X.env.kindOf n = some .local) (hc : Names X x cv) (hex : ∀ c b, ex c = some b → PySem.W.exmOne X.K (.ref (cn.ca c)) cv = some b) (tk : Takes X W)
    (hb : ∀ (W : WX) (pn : List (Addr × Obj)) (xe : Value → Shared → Prop), Takes (X.tr pn xe) W → PassesOwn (model X.prog X.w) X.A X.env xe → JSs (X.tr pn xe) cn W body sa)
    (hsu : ∀ (a : Addr) (oe : Obj) (cls : Value) (d : Option Addr) (pn : List (Addr × Obj)), Zc cls d oe → (∃ vs, oe.data = .fields vs) → JSs (X.suite a ((a, oe) :: pn)) ⟨cn.ca, cn.fa, some (a, cls, d)⟩ (fun _ _ _ _ => False) (b₀ :: suite) sb) :
    JS X cn W (.Try body [.ExceptHandler (some (.Name x np)) (some n) (b₀ :: suite) pos'] [] [] pos) (sTry i ex sa sb) := by
  obtain ⟨ca, fa, ex0⟩ := cn
  cases hx0
  refine ⟨_, ps_try_as (ts := fun a cls d Dn σ H => ∃ C Γ F, RelS X.K ⟨ca, fa, some (a, cls, d)⟩ C Γ σ F H ∧ Post (sb Γ) (SEnd X.K ⟨ca, fa, some (a, cls, d)⟩ C F Dn) (fun _ _ => False))
    (tb := fun W Dn σ H => ∃ C Γ F, RelS X.K ⟨ca, fa, none⟩ C Γ σ F H ∧ Post (sa Γ) (SEnd X.K ⟨ca, fa, none⟩ C F Dn) (XW X.K ⟨ca, fa, none⟩ C F W)) hs hf hN hi hln hc tk (fun W pn xe t1 t2 => ?_) (fun a oe cls d pn hz hv => ?_), fun C Γ σ F H Dn R k => ?_⟩
  · obtain ⟨t, p, d⟩ := hb W pn xe t1 t2
    refine ⟨fun pins s σ H D I h => p.run pins s σ H D I ?_⟩
    obtain ⟨C, Γ, F, h1, h2⟩ := h
    exact d C Γ σ F H D h1 h2
  · obtain ⟨ts, p, dd⟩ := hsu a oe cls d pn hz hv
    refine ⟨fun pins s σ H D I h => p.run pins s σ H D I ?_⟩
    obtain ⟨C, Γ, F, h1, h5⟩ := h
    exact dd C Γ σ F H D h1 (Post.mono h5 (fun _ z => z) fun _ _ z => z.elim)
  · refine ⟨C, Γ, F, R, ?_⟩
    unfold sTry at k
    cases e : sa Γ with
    | bad => rw [e] at k; exact k.elim
    | ok p => rw [e] at k; exact k
    | exc y Γ1 =>
      rw [e] at k
      dsimp only at k
      intro cls od σ1 F1 H1 s1 R1 rx
      cases ee : ex y.c with
      | none => rw [ee] at k; exact k.elim
      | some bb =>
        rw [ee] at k
        refine ⟨bb, by rw [rx.1]; exact hex _ _ ee, fun hbb a na => ?_, fun hbb => ?_⟩
        · subst hbb
          dsimp only at k
          by_cases hi1 : i < Γ1.length ∧ noX Γ1 = true
          · rw [if_pos hi1] at k
            have R2 : RelS X.K ⟨ca, fa, some (a, cls, od)⟩ C Γ1 σ1 F1 H1 := R1.cx (.inl (noX_ok hi1.2))
            refine ⟨C, put Γ1 i (.exn y), F1, R2.setX (fun a' cls' od' z => by cases z; exact ⟨rfl, rx.cx⟩), ?_⟩
            cases es : sb (put Γ1 i (.exn y)) with
            | bad => rw [es] at k; exact k.elim
            | exc _ _ => rw [es] at k; exact k.elim
            | ok p =>
              obtain ⟨ct, Γ2⟩ := p
              rw [es] at k
              cases ct with
              | nx => exact fun σ2 F2 H2 s2 R2 => k _ F2 H2 (s1.trans s2) (R2.cx (.inr rfl)).setE
              | brk => exact fun σ2 F2 H2 s2 R2 => k _ F2 H2 (s1.trans s2) (R2.cx (.inr rfl)).setE
              | cnt => exact fun σ2 F2 H2 s2 R2 => k _ F2 H2 (s1.trans s2) (R2.cx (.inr rfl)).setE
              | ret o =>
                refine fun v F2 H2 s2 b r => k v F2 H2 (s1.trans s2) b ?_
                cases o with
                | fz d => exact Rep.cx r
                | fr d => obtain ⟨a1, e1, h1, h2, h3⟩ := r; exact ⟨a1, e1, h1, h2, h3.cx⟩
          · rw [if_neg hi1] at k; exact k.elim
        · subst hbb
          exact k cls od σ1 F1 H1 s1 R1 rx
end
end Ed

set_option autoImplicit true
set_option Elab.async false
set_option linter.all false
set_option maxRecDepth 100000
set_option maxHeartbeats 4000000
set_option exponentiation.threshold 10000
/-! Python's operations, over data -/
namespace Ed
open PySem L2

section
variable {X : Cx} {cn : Cn} {W : WX} {a b c e : Expr} {es : List Expr} {pos : Pos} {ea eb : EV} {qa qb : QV} {ta : TV} {av : AV} {lv : LV}
theorem ext0 {F H : Hp} (s : Same F H) : Ext F H F H := Ext.refl s
theorem log2_of {n k : Nat} (h : n < 2 ^ k) (hk : 0 < k) : n.log2 < k := by
  by_cases h0 : n = 0
  · subst h0; exact hk
  · exact (Nat.log2_lt h0).mpr h
/-- two rules for one operation -/
theorem R2D.or {K : PySem.W.Frag} {cn : Cn} {r r' : R2} {f : D → D → Option D} (h : ∀ F H x y dx dy d Q, Same F H → Shal K cn F H x dx → Shal K cn F H y dy → f dx dy = some d → (∀ z F' H', Ext F H F' H' → Rep K cn F' z d → Q z H') → r x y H Q ∨ r' x y H Q) : R2D K cn (fun x y H Q => r x y H Q ∨ r' x y H Q) f := h
/-! + -/
def rAddD (K : PySem.W.Frag) : R2 := fun x y H Q => rI0 (fun i j => .int (i + j)) x y H Q ∨ ((∃ i j, x = .str i ∧ y = .str j ∧ i.length + j.length ≤ sizeLine ∧ Q (.str (i ++ j)) H) ∨ (rCat x y H Q ∨ rCatA K x y H Q))
theorem op_addD : OpR X (binaryOp .Add) (rAddD X.K) := OpR.or op_add (OpR.or op_add_str (OpR.or op_cat op_catA))
theorem sm : (seqMax : Nat) = sizeLine := by rw [sizeLine_eq]; rfl
theorem r_add : R2D X.K cn (rAddD X.K) dAdd := fun F H x y dx dy d Q s hx hy e k => by
  cases dx with
  | int i =>
    cases dy with
    | int j => cases e; rw [hx.int, hy.int]; exact .inl ⟨i, j, rfl, rfl, k _ F H (ext0 s) (.int _)⟩
    | _ => cases e
  | str i =>
    cases dy with
    | str j =>
      have e : (if i.length + j.length ≤ seqMax then some (D.str (i ++ j)) else none) = some d := e
      split at e
      · rename_i hz; cases e; rw [hx.str, hy.str]; exact .inr (.inl ⟨i, j, rfl, rfl, by rw [← sm]; exact hz, k _ F H (ext0 s) (.str _)⟩)
      · cases e
    | _ => cases e
  | lst i =>
    cases dy with
    | lst j =>
      have e : (if i.length + j.length ≤ seqMax then some (D.lst (i ++ j)) else none) = some d := e
      split at e
      · rename_i hz
        cases e
        obtain ⟨a, vs, rfl, ha, ra⟩ := hx
        obtain ⟨b, ws, rfl, hb, rb⟩ := hy
        refine .inr (.inr (.inl ⟨a, b, vs, ws, rfl, rfl, ha, hb, by rw [← sm, ra.1, rb.1]; exact hz, fun p hp => ?_⟩))
        have ex := Ext.new (o := HO.lst (vs ++ ws)) s hp
        exact k _ _ _ ex (.lst upd_same ((ra.app rb).mono ex.f).1 ((ra.app rb).mono ex.f).2)
      · cases e
    | _ => cases e
  | tup i =>
    cases dy with
    | tup j =>
      have e : (if i.length + j.length ≤ seqMax then some (D.tup (i ++ j)) else none) = some d := e
      split at e
      · rename_i hz
        cases e
        obtain ⟨a, vs, ea, ha, ra⟩ := hx.tup s
        obtain ⟨b, ws, eb, hb, rb⟩ := hy.tup s
        have rx : Rep X.K cn F x (.tup i) := hx
        have ry : Rep X.K cn F y (.tup j) := hy
        refine .inr (.inr (.inr ⟨a, b, vs, ws, ea, eb, ha, hb, by rw [← sm, ra.1, rb.1]; exact hz, fun e => ?_, fun _ e => ?_, fun _ _ p hp => ?_⟩))
        · have : i = [] := by have := ra.1; rw [e] at this; exact List.length_eq_zero_iff.mp this.symm
          subst this
          rw [← eb]
          exact k _ F H (ext0 s) (by simpa using ry)
        · have : j = [] := by have := rb.1; rw [e] at this; exact List.length_eq_zero_iff.mp this.symm
          subst this
          rw [← ea]
          exact k _ F H (ext0 s) (by simpa using rx)
        · have ex := Ext.new (o := HO.tup (vs ++ ws)) s hp
          exact k _ _ _ ex (.tup (SqT.of upd_same) ((ra.app rb).mono ex.f).1 ((ra.app rb).mono ex.f).2)
      · cases e
    | _ => cases e
  | _ => cases e
theorem r_cat : R2N X.K cn rCat dCat := fun F H x y dx dy d Q s hx hy e k => by
  cases dx with
  | lst i =>
    cases dy with
    | lst j =>
      have e : (if i.length + j.length ≤ seqMax then some (D.lst (i ++ j)) else none) = some d := e
      split at e
      · rename_i hz
        cases e
        obtain ⟨a, vs, rfl, ha, ra⟩ := hx
        obtain ⟨b, ws, rfl, hb, rb⟩ := hy
        exact ⟨a, b, vs, ws, rfl, rfl, ha, hb, by rw [← sm, ra.1, rb.1]; exact hz, fun p hp => k p _ _ rfl hp (ra.app rb)⟩
      · cases e
    | _ => cases e
  | _ => cases e
theorem cat_l : ∀ x y z, dCat x y = some z → ∃ l, z = .lst l := fun x y z e => by
  cases x with
  | lst i =>
    cases y with
    | lst j =>
      have e : (if i.length + j.length ≤ seqMax then some (D.lst (i ++ j)) else none) = some z := e
      split at e
      · cases e; exact ⟨_, rfl⟩
      · cases e
    | _ => cases e
  | _ => cases e
/-! ints -/
theorem r2i {C : Int → Int → Prop} {g : Int → Int → V} {f : D → D → Option D} (h : ∀ dx dy d, f dx dy = some d → ∃ i j, dx = .int i ∧ dy = .int j ∧ C i j ∧ ∀ F, Rep X.K cn F (g i j) d) : R2D X.K cn (rI C g) f := fun F H x y dx dy d Q s hx hy e k => by
  obtain ⟨i, j, rfl, rfl, hc, hr⟩ := h dx dy d e
  rw [hx.int, hy.int]
  exact ⟨i, j, rfl, rfl, hc, k _ F H (ext0 s) (hr F)⟩
theorem r2i0 {g : Int → Int → V} {f : D → D → Option D} (h : ∀ dx dy d, f dx dy = some d → ∃ i j, dx = .int i ∧ dy = .int j ∧ ∀ F, Rep X.K cn F (g i j) d) : R2D X.K cn (rI0 g) f := fun F H x y dx dy d Q s hx hy e k => by
  obtain ⟨i, j, rfl, rfl, hr⟩ := h dx dy d e
  rw [hx.int, hy.int]
  exact ⟨i, j, rfl, rfl, k _ F H (ext0 s) (hr F)⟩
theorem r_sub : R2D X.K cn (rI0 fun i j => .int (i - j)) dSub := r2i0 fun dx dy d e => by
  cases dx <;> cases dy <;> first | (cases e; exact ⟨_, _, rfl, rfl, fun _ => .int _⟩) | cases e
theorem r_lt : R2D X.K cn (rI0 fun i j => .bl (decide (i < j))) dLt := r2i0 fun dx dy d e => by
  cases dx <;> cases dy <;> first | (cases e; exact ⟨_, _, rfl, rfl, fun _ => .bl _⟩) | cases e
theorem r_le : R2D X.K cn (rI0 fun i j => .bl (decide (i ≤ j))) dLe := r2i0 fun dx dy d e => by
  cases dx <;> cases dy <;> first | (cases e; exact ⟨_, _, rfl, rfl, fun _ => .bl _⟩) | cases e
theorem r_gt : R2D X.K cn (rI0 fun i j => .bl (decide (j < i))) dGt := r2i0 fun dx dy d e => by
  cases dx <;> cases dy <;> first | (cases e; exact ⟨_, _, rfl, rfl, fun _ => .bl _⟩) | cases e
theorem r_ge : R2D X.K cn (rI0 fun i j => .bl (decide (j ≤ i))) dGe := r2i0 fun dx dy d e => by
  cases dx <;> cases dy <;> first | (cases e; exact ⟨_, _, rfl, rfl, fun _ => .bl _⟩) | cases e
theorem mulOk_ok {i j : Int} (h : mulOk i j = true) : PySem.IntMulOk i j := by
  unfold mulOk nLt at h
  simp only [Bool.or_eq_true, Bool.and_eq_true, decide_eq_true_eq] at h
  rcases h with (h | h) | ⟨h, h2⟩
  · exact CMul.ok (.inl ⟨by omega, by omega⟩)
  · exact CMul.ok (.inr ⟨by omega, by omega⟩)
  · exact (wide_mul h h2 (by decide) (by decide) (by decide)).ok
theorem op_mulD : OpR X (binaryOp .Mult) (rI PySem.IntMulOk fun i j => .int (i * j)) := opI fun _ _ _ _ _ _ _ hc q => PyProof.Rows.mul_int q hc
theorem r_mul : R2D X.K cn (rI PySem.IntMulOk fun i j => .int (i * j)) dMul := r2i fun dx dy d e => by
  cases dx with
  | int i =>
    cases dy with
    | int j =>
      have e : (if mulOk i j then some (D.int (i * j)) else none) = some d := e
      split at e
      · rename_i h; cases e; exact ⟨i, j, rfl, rfl, mulOk_ok h, fun _ => .int _⟩
      · cases e
    | _ => cases e
  | _ => cases e
def CDivD (_ j : Int) : Prop := j ≠ 0 ∧ j.natAbs.log2 < 9000
theorem op_divD : OpR X (binaryOp .FloorDiv) (rI CDivD fun i j => .int (i.fdiv j)) := opI fun _ _ _ _ _ _ _ hc q => PyProof.Rows.floordiv_int hc.1 q (.inl (PyProof.noPylong_of_log2 hc.2))
theorem r_div : R2D X.K cn (rI CDivD fun i j => .int (i.fdiv j)) dDiv := r2i fun dx dy d e => by
  cases dx with
  | int i =>
    cases dy with
    | int j =>
      have e : (if j ≠ 0 ∧ j.natAbs < 2 ^ 8000 then some (D.int (i.fdiv j)) else none) = some d := e
      split at e
      · rename_i h; cases e; exact ⟨i, j, rfl, rfl, ⟨h.1, Nat.lt_of_lt_of_le (log2_of h.2 (by decide)) (by decide)⟩, fun _ => .int _⟩
      · cases e
    | _ => cases e
  | _ => cases e
theorem r_mod : R2D X.K cn (rI (fun _ j => j ≠ 0) fun i j => .int (i.fmod j)) dMod := r2i fun dx dy d e => by
  cases dx with
  | int i =>
    cases dy with
    | int j =>
      have e : (if j ≠ 0 then some (D.int (i.fmod j)) else none) = some d := e
      split at e
      · rename_i h; cases e; exact ⟨i, j, rfl, rfl, h, fun _ => .int _⟩
      · cases e
    | _ => cases e
  | _ => cases e
theorem r_pow : R2D X.K cn (rI CPow fun i j => .int (i ^ j.toNat)) dPow := r2i fun dx dy d e => by
  cases dx with
  | int i =>
    cases dy with
    | int j =>
      have e : (if 0 ≤ j ∧ j ≤ 1000000 ∧ i.natAbs < 2 ^ 64 then some (D.int (i ^ j.toNat)) else none) = some d := e
      split at e
      · rename_i h; cases e; exact ⟨i, j, rfl, rfl, h, fun _ => .int _⟩
      · cases e
    | _ => cases e
  | _ => cases e
theorem r_neg : R1D X.K cn (rU fun i => .int (-i)) dNeg := fun F H x dx d Q s hx e k => by
  cases dx with
  | int i => cases e; rw [hx.int]; exact ⟨i, rfl, k _ F H (ext0 s) (.int _)⟩
  | _ => cases e
/-! built-in calls -/
theorem je_bi {id : String} {r : List V → Hp → VK → Prop} {f : List D → Option D} {x : Str} {p : Pos} (hc : CallR X (.builtin id) r) (h : RCD X.K cn r f) (hg : Gl X x) (hm : X.mg x = none) (hv : bootBuiltins x = some (.builtin id)) (ha : JA X cn W (e :: es) av) (hn : x ≠ "__name__" := by decide) (hdb : (x == ("__debug__" : Str)) = false := by decide)
    (he : starEach (e :: es) X.env = (false, eval e X.env) :: starEach es X.env := by rfl) (hpl : (backTo pos (starEach es X.env)).any (·.1) = false := by rfl) : JE X cn W (.Call (.Name x p) (e :: es) [] pos) (eF f av) := by
  obtain ⟨t, pa, d⟩ := ha
  exact ⟨_, pe_callB hc hg hm hv pa hn hdb he hpl, de_F (r := r) h d⟩
theorem jn_bi {id : String} {r : List V → Hp → VK → Prop} {f : List D → Option D} {x : Str} {p : Pos} (hc : CallR X (.builtin id) r) (h : RCN X.K cn r f) (hg : Gl X x) (hm : X.mg x = none) (hv : bootBuiltins x = some (.builtin id)) (ha : JA X cn W (e :: es) av) (hn : x ≠ "__name__" := by decide) (hdb : (x == ("__debug__" : Str)) = false := by decide)
    (he : starEach (e :: es) X.env = (false, eval e X.env) :: starEach es X.env := by rfl) (hpl : (backTo pos (starEach es X.env)).any (·.1) = false := by rfl) : JN X cn W (.Call (.Name x p) (e :: es) [] pos) (eF f av) := by
  obtain ⟨t, pa, d⟩ := ha
  exact ⟨_, pe_callB hc hg hm hv pa hn hdb he hpl, dn_F (r := r) h d⟩
theorem je_ty {T : String} {r : List V → Hp → VK → Prop} {f : List D → Option D} {x : Str} {p : Pos} (hc : CallR X (.type T) r) (h : RCD X.K cn r f) (hg : Gl X x) (hm : X.mg x = none) (hv : bootBuiltins x = some (.type T)) (ha : JA X cn W (e :: es) av) (hn : x ≠ "__name__" := by decide) (hdb : (x == ("__debug__" : Str)) = false := by decide)
    (he : starEach (e :: es) X.env = (false, eval e X.env) :: starEach es X.env := by rfl) (hpl : (backTo pos (starEach es X.env)).any (·.1) = false := by rfl) : JE X cn W (.Call (.Name x p) (e :: es) [] pos) (eF f av) := by
  obtain ⟨t, pa, d⟩ := ha
  exact ⟨_, pe_callTy hc hg hm hv pa hn hdb he hpl, de_F (r := r) h d⟩
theorem jn_ty {T : String} {r : List V → Hp → VK → Prop} {f : List D → Option D} {x : Str} {p : Pos} (hc : CallR X (.type T) r) (h : RCN X.K cn r f) (hg : Gl X x) (hm : X.mg x = none) (hv : bootBuiltins x = some (.type T)) (ha : JA X cn W (e :: es) av) (hn : x ≠ "__name__" := by decide) (hdb : (x == ("__debug__" : Str)) = false := by decide)
    (he : starEach (e :: es) X.env = (false, eval e X.env) :: starEach es X.env := by rfl) (hpl : (backTo pos (starEach es X.env)).any (·.1) = false := by rfl) : JN X cn W (.Call (.Name x p) (e :: es) [] pos) (eF f av) := by
  obtain ⟨t, pa, d⟩ := ha
  exact ⟨_, pe_callTy hc hg hm hv pa hn hdb he hpl, dn_F (r := r) h d⟩
theorem rc1 {r : List V → Hp → VK → Prop} {f : D → Option D} (h : R1D X.K cn (fun x H Q => r [x] H Q) f) : RCD X.K cn r (o1 f) := fun F H vs ds d Q s p e k => by
  cases p with
  | nil => cases e
  | cons h1 t =>
    cases t with
    | nil => exact h F H _ _ d Q s h1 e k
    | cons _ _ => cases e
theorem rn1 {r : List V → Hp → VK → Prop} {f : D → Option D} (h : R1N X.K cn (fun x H Q => r [x] H Q) f) : RCN X.K cn r (o1 f) := fun F H vs ds d Q s p e k => by
  cases p with
  | nil => cases e
  | cons h1 t =>
    cases t with
    | nil => exact h F H _ _ d Q s h1 e k
    | cons _ _ => cases e
theorem r_abs : RCD X.K cn (fun xs H Q => ∃ i, xs = [.int i] ∧ Q (.int (if i < 0 then -i else i)) H) (o1 dAbs) := rc1 fun F H x dx d Q s hx e k => by
  cases dx with
  | int i => cases e; rw [hx.int]; exact ⟨i, rfl, k _ F H (ext0 s) (.int _)⟩
  | _ => cases e
theorem r_int : RCD X.K cn (fun xs H Q => (∃ i, xs = [.int i] ∧ Q (.int i) H) ∨ ∃ k, xs = [.bl k] ∧ Q (.int (if k then 1 else 0)) H) (o1 dInt) := rc1 fun F H x dx d Q s hx e k => by
  cases dx with
  | int i => cases e; rw [hx.int]; exact .inl ⟨i, rfl, k _ F H (ext0 s) (.int _)⟩
  | bl i => cases e; rw [hx.bl]; exact .inr ⟨i, rfl, k _ F H (ext0 s) (.int _)⟩
  | _ => cases e
theorem r_bool : RCD X.K cn (fun xs H Q => (∃ i, xs = [.int i] ∧ Q (.bl (i != 0)) H) ∨ ∃ k, xs = [.bl k] ∧ Q (.bl k) H) (o1 dBool) := rc1 fun F H x dx d Q s hx e k => by
  cases dx with
  | int i => cases e; rw [hx.int]; exact .inl ⟨i, rfl, k _ F H (ext0 s) (.bl _)⟩
  | bl i => cases e; rw [hx.bl]; exact .inr ⟨i, rfl, k _ F H (ext0 s) (.bl _)⟩
  | _ => cases e
theorem r_strI : RCD X.K cn (fun xs H Q => ∃ i, xs = [.int i] ∧ i.natAbs.log2 < 1920 ∧ Q (.str (toString i)) H) (o1 dStrI) := rc1 fun F H x dx d Q s hx e k => by
  cases dx with
  | int i =>
    have e : (if i.natAbs < 2 ^ 1900 then some (D.str (toString i)) else none) = some d := e
    split at e
    · rename_i h
      cases e; rw [hx.int]
      exact ⟨i, rfl, Nat.lt_of_lt_of_le (log2_of h (by decide)) (by decide), k _ F H (ext0 s) (.str _)⟩
    · cases e
  | _ => cases e
def rLenA (K : PySem.W.Frag) : List V → Hp → VK → Prop := fun xs H Q => (∃ x n, xs = [x] ∧ LenV K x H n ∧ Q (.int n) H) ∨ ∃ a kvs, xs = [V.ref a] ∧ H a = some (.dK kvs) ∧ Q (.int kvs.length) H
theorem call_lenA : CallR X (.builtin "len") (rLenA X.K) := CallR.or call_len call_lenD
theorem r_len : RCD X.K cn (rLenA X.K) (o1 dLen) := rc1 fun F H x dx d Q s hx e k => by
  cases dx with
  | str z =>
    have e : (if z.length ≤ seqMax then some (D.int z.length) else none) = some d := e
    split at e
    · rename_i h; cases e; rw [hx.str]; exact .inl ⟨_, _, rfl, ⟨by rw [← sm]; exact h, rfl⟩, k _ F H (ext0 s) (.int _)⟩
    · cases e
  | lst xs =>
    cases e
    obtain ⟨a, vs, rfl, h, r⟩ := hx
    exact .inl ⟨_, _, rfl, .inl ⟨vs, SqL.of h, r.1.symm⟩, k _ F H (ext0 s) (.int _)⟩
  | tup xs =>
    cases e
    obtain ⟨a, vs, rfl, h, r⟩ := hx.tup s
    exact .inl ⟨_, _, rfl, .inr ⟨vs, h, r.1.symm⟩, k _ F H (ext0 s) (.int _)⟩
  | scr ns =>
    cases e
    cases (show Rep X.K cn F x (.scr ns) from hx) with
    | scr h => exact .inl ⟨_, _, rfl, .inl ⟨_, s.seq h, by rw [List.length_map]⟩, k _ F H (ext0 s) (.int _)⟩
  | dct kvs =>
    cases e
    obtain ⟨a, vs, rfl, h, r⟩ := hx
    have hl : vs.length = kvs.length := by have := congrArg List.length r.1; simpa using this
    exact .inr ⟨_, _, rfl, h, by rw [hl]; exact k _ F H (ext0 s) (.int _)⟩
  | _ => cases e
end
end Ed

set_option autoImplicit true
set_option Elab.async false
set_option linter.all false
set_option maxRecDepth 100000
set_option maxHeartbeats 4000000
set_option autoImplicit false
/-! ==, in, is None, indices, slices -/
namespace Ed
open PySem L2

mutual
def toP : D → PyData
  | .non => .none
  | .bl b => .bool b
  | .int i => .int i
  | .str s => .str s
  | .lst xs => .list (toPs xs)
  | .tup xs => .tuple (toPs xs)
  | _ => .none
def toPs : List D → List PyData
  | [] => []
  | x :: xs => toP x :: toPs xs
end
theorem okDat_cases {n : Nat} {d : D} (h : okDat n d = true) : (∃ m xs, n = m + 1 ∧ (d = .lst xs ∨ d = .tup xs) ∧ ∀ x ∈ xs, okDat m x = true) ∨ d = .non ∨ (∃ b, d = .bl b) ∨ (∃ i, d = .int i) ∨ ∃ s, d = .str s ∧ PyData.strOk s = true := by
  cases d with
  | non => exact .inr (.inl rfl)
  | bl b => exact .inr (.inr (.inl ⟨_, rfl⟩))
  | int b => exact .inr (.inr (.inr (.inl ⟨_, rfl⟩)))
  | str b => exact .inr (.inr (.inr (.inr ⟨_, rfl, by simpa [okDat, PyData.strOk] using h⟩)))
  | lst xs =>
    cases n with
    | zero => simp [okDat] at h
    | succ m => exact .inl ⟨m, xs, rfl, .inl rfl, by simpa [okDat] using h⟩
  | tup xs =>
    cases n with
    | zero => simp [okDat] at h
    | succ m => exact .inl ⟨m, xs, rfl, .inr rfl, by simpa [okDat] using h⟩
  | _ => cases n <;> simp [okDat] at h
theorem toPs_ok {m : Nat} (ih : ∀ d, okDat m d = true → (toP d).canLay0 = true ∧ (toP d).depth ≤ m) : ∀ xs : List D, (∀ x ∈ xs, okDat m x = true) → PyData.canLayAll0 (toPs xs) = true ∧ PyData.depthAll (toPs xs) ≤ m
  | [], _ => ⟨by simp [toPs, PyData.canLayAll0], by simp [toPs, PyData.depthAll]⟩
  | x :: xs, h => by
    have h1 := ih x (h x (by simp))
    have h2 := toPs_ok ih xs fun y hy => h y (by simp [hy])
    refine ⟨by simp [toPs, PyData.canLayAll0, h1.1, h2.1], ?_⟩
    simp only [toPs, PyData.depthAll]
    exact Nat.max_le.mpr ⟨h1.2, h2.2⟩
theorem toP_ok : ∀ (n : Nat) (d : D), okDat n d = true → (toP d).canLay0 = true ∧ (toP d).depth ≤ n := by
  intro n
  induction n with
  | zero =>
    intro d h
    rcases okDat_cases h with ⟨m, xs, e, _⟩ | rfl | ⟨b, rfl⟩ | ⟨b, rfl⟩ | ⟨b, rfl, hs⟩
    · cases e
    all_goals first | exact ⟨rfl, Nat.zero_le _⟩ | exact ⟨hs, Nat.zero_le _⟩
  | succ n ih =>
    intro d h
    rcases okDat_cases h with ⟨m, xs, e, hd, hx⟩ | rfl | ⟨b, rfl⟩ | ⟨b, rfl⟩ | ⟨b, rfl, hs⟩
    · cases e
      have := toPs_ok ih xs hx
      rcases hd with rfl | rfl
      · exact ⟨by simpa [toP, PyData.canLay0] using this.1, by simpa [toP, PyData.depth] using this.2⟩
      · exact ⟨by simpa [toP, PyData.canLay0] using this.1, by simpa [toP, PyData.depth] using this.2⟩
    all_goals first | exact ⟨rfl, Nat.zero_le _⟩ | exact ⟨hs, Nat.zero_le _⟩
theorem toP_sh {d : D} (h : okDat 60 d = true) : SeqAt.shaped (toP d) = true := by
  have := toP_ok 60 d h
  unfold SeqAt.shaped
  simp [this.1]
  omega
theorem eqvs {m : Nat} (ih : ∀ d e k, okDat m d = true → okDat k e = true → PyData.eqv (toP d) (toP e) = deq d e) : ∀ (xs ys : List D) (k : Nat), (∀ x ∈ xs, okDat m x = true) → (∀ y ∈ ys, okDat k y = true) → PyData.eqvAll (toPs xs) (toPs ys) = deqs xs ys
  | [], [], _, _, _ => by simp [toPs, PyData.eqvAll, deqs]
  | [], _ :: _, _, _, _ => by simp [toPs, PyData.eqvAll, deqs]
  | _ :: _, [], _, _, _ => by simp [toPs, PyData.eqvAll, deqs]
  | x :: xs, y :: ys, k, h1, h2 => by
    simp only [toPs, PyData.eqvAll, deqs]
    rw [ih x y k (h1 x (by simp)) (h2 y (by simp)), eqvs ih xs ys k (fun z hz => h1 z (by simp [hz])) fun z hz => h2 z (by simp [hz])]
theorem eqv_deq : ∀ (n : Nat) (d e : D) (k : Nat), okDat n d = true → okDat k e = true → PyData.eqv (toP d) (toP e) = deq d e := by
  intro n
  induction n with
  | zero =>
    intro d e k hd he
    rcases okDat_cases hd with ⟨m, xs, z, _⟩ | rfl | ⟨b, rfl⟩ | ⟨b, rfl⟩ | ⟨b, rfl, _⟩
    · cases z
    all_goals (rcases okDat_cases he with ⟨m, ys, z, rfl | rfl, _⟩ | rfl | ⟨c, rfl⟩ | ⟨c, rfl⟩ | ⟨c, rfl, _⟩ <;> simp [toP, PyData.eqv, deq])
  | succ n ih =>
    intro d e k hd he
    rcases okDat_cases hd with ⟨m, xs, z, h1 | h1, hx⟩ | rfl | ⟨b, rfl⟩ | ⟨b, rfl⟩ | ⟨b, rfl, _⟩
    · cases z; subst h1
      rcases okDat_cases he with ⟨m, ys, z, rfl | rfl, hy⟩ | rfl | ⟨c, rfl⟩ | ⟨c, rfl⟩ | ⟨c, rfl, _⟩
      · simp only [toP, PyData.eqv, deq]; exact eqvs ih xs ys _ hx hy
      all_goals simp [toP, PyData.eqv, deq]
    · cases z; subst h1
      rcases okDat_cases he with ⟨m, ys, z, rfl | rfl, hy⟩ | rfl | ⟨c, rfl⟩ | ⟨c, rfl⟩ | ⟨c, rfl, _⟩
      · simp [toP, PyData.eqv, deq]
      · simp only [toP, PyData.eqv, deq]; exact eqvs ih xs ys _ hx hy
      all_goals simp [toP, PyData.eqv, deq]
    all_goals (rcases okDat_cases he with ⟨m, ys, z, rfl | rfl, _⟩ | rfl | ⟨c, rfl⟩ | ⟨c, rfl⟩ | ⟨c, rfl, _⟩ <;> simp [toP, PyData.eqv, deq])
section
variable {K : PySem.W.Frag} {cn : Cn} {F H : Hp} {v : V} {d : D}
theorem dps {m : Nat} (ih : ∀ v d, okDat m d = true → Rep K cn F v d → Dp K H v (toP d)) : ∀ (ds : List D) (vs : List V), (∀ x ∈ ds, okDat m x = true) → Reps K cn F vs ds → DpAll K H vs (toPs ds)
  | [], vs, _, r => by
    cases r.inv0
    exact .nil
  | d :: ds, vs, h, r => by
    obtain ⟨v, vs', rfl, r1, r2⟩ := r.inv
    exact .cons (ih v d (h d (by simp)) r1) (dps ih ds vs' (fun x hx => h x (by simp [hx])) r2)
theorem dp_rep (s : Same F H) : ∀ (n : Nat) (v : V) (d : D), okDat n d = true → Rep K cn F v d → Dp K H v (toP d) := by
  intro n
  induction n with
  | zero =>
    intro v d h r
    rcases okDat_cases h with ⟨m, xs, e, _⟩ | rfl | ⟨b, rfl⟩ | ⟨b, rfl⟩ | ⟨b, rfl, hs⟩
    · cases e
    all_goals (cases r; constructor)
  | succ n ih =>
    intro v d h r
    rcases okDat_cases h with ⟨m, xs, e, rfl | rfl, hx⟩ | rfl | ⟨b, rfl⟩ | ⟨b, rfl⟩ | ⟨b, rfl, hs⟩
    · cases e
      cases r with
      | lst h hl q => exact .lst (.inl (.inl (s _ _ h))) (dps ih _ _ hx ⟨hl, q⟩)
    · cases e
      obtain ⟨a, vs, rfl, ha, q⟩ := r.tupE s
      exact .tup ha (dps ih _ _ hx q)
    all_goals (cases r; constructor)
theorem dp_shal (s : Same F H) {n : Nat} (h : okDat n d = true) (r : Shal K cn F H v d) : Dp K H v (toP d) := by
  cases d with
  | lst ds =>
    rcases okDat_cases h with ⟨m, xs, e, h1 | h1, hx⟩ | h1 | ⟨b, h1⟩ | ⟨b, h1⟩ | ⟨b, h1, _⟩ <;> cases h1
    obtain ⟨a, vs, rfl, ha, q⟩ := r
    exact .lst (SqL.of ha) (dps (dp_rep s m) _ _ hx q)
  | dct ds => cases n <;> simp [okDat] at h
  | _ => exact dp_rep s n v _ h r
end
section
variable {X : Cx} {cn : Cn} {W : WX} {a b c e : Expr} {es : List Expr} {pos : Pos} {ea eb : EV} {qa qb : QV} {ta tb : TV} {av : AV} {lv : LV} {bq bl bh : QV}
/-! == -/
def rEqDD (K : PySem.W.Frag) : R2 := fun x y H Q => rEq x y H Q ∨ rEqD K x y H Q
theorem op_eqDD (hu : X.A.units + 64 < cLine) : OpR X (compareOp .Eq) (rEqDD X.K) := OpR.or op_eq (op_eqD hu)
def rNeDD (K : PySem.W.Frag) : R2 := fun x y H Q => rNe x y H Q ∨ rNeD K x y H Q
theorem op_neDD (hu : X.A.units + 64 < cLine) : OpR X (compareOp .NotEq) (rNeDD X.K) := OpR.or op_ne (op_neD hu)
theorem sca_ok {F H : Hp} {x y : V} {dx dy : D} (h : sca dx dy = true) (hx : Shal X.K cn F H x dx) (hy : Shal X.K cn F H y dy) : scal x y = true ∧ decide (x = y) = deq dx dy := by
  cases dx <;> cases dy <;> first
    | exact Bool.noConfusion (show false = true from h)
    | skip
  all_goals (cases (show Rep X.K cn F x _ from hx); cases (show Rep X.K cn F y _ from hy); refine ⟨rfl, ?_⟩; simp [deq])
  all_goals (rw [Bool.eq_iff_iff]; simp)
theorem r_eq : R2D X.K cn (rEqDD X.K) dEq := fun F H x y dx dy d Q s hx hy e k => by
  unfold dEq at e
  by_cases h : sca dx dy = true
  · rw [if_pos (by simp [h])] at e
    cases e
    obtain ⟨h1, h2⟩ := sca_ok h hx hy
    exact .inl ⟨h1, by rw [h2]; exact k _ F H (ext0 s) (.bl _)⟩
  · split at e
    · rename_i h2
      simp only [h, Bool.false_or, Bool.and_eq_true] at h2
      cases e
      exact .inr ⟨_, _, dp_shal s h2.1 hx, dp_shal s h2.2 hy, toP_sh h2.1, toP_sh h2.2, by rw [eqv_deq _ _ _ _ h2.1 h2.2]; exact k _ F H (ext0 s) (.bl _)⟩
    · cases e
theorem r_ne : R2D X.K cn (rNeDD X.K) dNe := fun F H x y dx dy d Q s hx hy e k => by
  unfold dNe at e
  by_cases h : sca dx dy = true
  · rw [if_pos (by simp [h])] at e
    cases e
    obtain ⟨h1, h2⟩ := sca_ok h hx hy
    exact .inl ⟨h1, by rw [h2]; exact k _ F H (ext0 s) (.bl _)⟩
  · split at e
    · rename_i h2
      simp only [h, Bool.false_or, Bool.and_eq_true] at h2
      cases e
      exact .inr ⟨_, _, dp_shal s h2.1 hx, dp_shal s h2.2 hy, toP_sh h2.1, toP_sh h2.2, by rw [eqv_deq _ _ _ _ h2.1 h2.2]; exact k _ F H (ext0 s) (.bl _)⟩
    · cases e
/-! in -/
def rInDD (K : PySem.W.Frag) : R2 := fun x y H Q => rIn K false x y H Q ∨ (rInD K x y H Q ∨ ∃ (c : Nat) (z : Str), x = .str ⟨#[c]⟩ ∧ y = .str z ∧ Q (.bl (decide (c ∈ z.cps.toList))) H)
theorem op_inDD (hu : X.A.units + 65 < cLine) : OpR X (compareOp .In) (rInDD X.K) := OpR.or op_in_seq (OpR.or (op_inD hu) op_in_sign)
def rNinDD (K : PySem.W.Frag) : R2 := fun x y H Q => rIn K true x y H Q ∨ (rNotInD K x y H Q ∨ ∃ (c : Nat) (z : Str), x = .str ⟨#[c]⟩ ∧ y = .str z ∧ Q (.bl (!decide (c ∈ z.cps.toList))) H)
theorem op_ninDD (hu : X.A.units + 65 < cLine) : OpR X (compareOp .NotIn) (rNinDD X.K) := OpR.or op_notIn_seq (OpR.or (op_notInD hu) op_notIn_sign)
theorem flat_v {F : Hp} {x : V} {dx : D} (h : flat dx = true) (r : Rep X.K cn F x dx) : flatV x = true := by
  cases dx <;> first | exact Bool.noConfusion (show false = true from h) | (cases r; rfl)
theorem flat_eqV {F : Hp} {x y : V} {dx dy : D} (h : flat dx = true) (h2 : flat dy = true) (r : Rep X.K cn F x dx) (q : Rep X.K cn F y dy) : eqV y x = deq dy dx := by
  cases dx <;> first | exact Bool.noConfusion (show false = true from h) | skip
  all_goals (cases dy <;> first | exact Bool.noConfusion (show false = true from h2) | (cases r; cases q; simp [eqV, deq]))
theorem flat_any {F : Hp} {x : V} {dx : D} (h : flat dx = true) (r : Rep X.K cn F x dx) : ∀ (ds : List D) (vs : List V), ds.all flat = true → Reps X.K cn F vs ds → vs.all flatV = true ∧ inV x vs = ds.any fun y => deq y dx
  | [], vs, _, q => by cases q.inv0; exact ⟨rfl, rfl⟩
  | d :: ds, vs, h2, q => by
    obtain ⟨v, vs', rfl, r1, r2⟩ := q.inv
    rw [List.all_cons, Bool.and_eq_true] at h2
    obtain ⟨i1, i2⟩ := flat_any h r ds vs' h2.2 r2
    refine ⟨by rw [List.all_cons, i1, flat_v h2.1 r1]; rfl, ?_⟩
    unfold inV at *
    rw [List.any_cons, List.any_cons, i2, flat_eqV h h2.1 r r1]
theorem flat_rep {F H : Hp} {x : V} {dx : D} (h : flat dx = true) (r : Shal X.K cn F H x dx) : Rep X.K cn F x dx := by
  cases dx <;> first | exact Bool.noConfusion (show false = true from h) | exact r
theorem toP_any {m k : Nat} {x : D} (hx : okDat m x = true) : ∀ ys : List D, (∀ y ∈ ys, okDat k y = true) → ((toPs ys).any fun z => PyData.eqv z (toP x)) = ys.any fun y => deq y x
  | [], _ => rfl
  | y :: ys, h => by
    simp only [toPs, List.any_cons]
    rw [toP_any hx ys fun z hz => h z (by simp [hz]), eqv_deq _ _ _ _ (h y (by simp)) hx]
theorem isIn_cases {F H : Hp} {x y : V} {dx dy : D} {b : Bool} (s : Same F H) (hx : Shal X.K cn F H x dx) (hy : Shal X.K cn F H y dy) (e : isIn dx dy = some b) :
    (∃ p xs, y = .ref p ∧ (SqL X.K H p xs ∨ SqT X.K H p xs) ∧ flatV x = true ∧ xs.all flatV = true ∧ inV x xs = b) ∨
    (∃ d ds, Dp X.K H x d ∧ Dp X.K H y (.list ds) ∧ SeqAt.shaped d = true ∧ SeqAt.shaped (.list ds) = true ∧ (ds.any fun z => PyData.eqv z d) = b) ∨
    (∃ (c : Nat) (z : Str), x = .str ⟨#[c]⟩ ∧ y = .str z ∧ decide (c ∈ z.cps.toList) = b) := by
  cases dy with
  | lst ys =>
    have e : (if flat dx && ys.all flat then some (ys.any fun y => deq y dx) else if okDat 60 dx && okDat 60 (.lst ys) then some (ys.any fun y => deq y dx) else none) = some b := e
    split at e
    · rename_i h
      rw [Bool.and_eq_true] at h
      cases e
      obtain ⟨a, vs, rfl, ha, q⟩ := hy
      have f := flat_any h.1 (flat_rep h.1 hx) ys vs h.2 q
      exact .inl ⟨a, vs, rfl, .inl (SqL.of ha), flat_v h.1 (flat_rep h.1 hx), f.1, f.2⟩
    · split at e
      · rename_i h
        rw [Bool.and_eq_true] at h
        cases e
        have hd := dp_shal s h.2 hy
        have hs := toP_sh h.2
        rw [toP] at hd hs
        refine .inr (.inl ⟨_, _, dp_shal s h.1 hx, hd, toP_sh h.1, hs, ?_⟩)
        rcases okDat_cases h.2 with ⟨m, xs, z, h1 | h1, hx2⟩ | h1 | ⟨b, h1⟩ | ⟨b, h1⟩ | ⟨b, h1, _⟩ <;> cases h1
        exact toP_any h.1 ys hx2
      · cases e
  | tup ys =>
    have e : (if flat dx && ys.all flat then some (ys.any fun y => deq y dx) else none) = some b := e
    split at e
    · rename_i h
      rw [Bool.and_eq_true] at h
      cases e
      obtain ⟨a, vs, rfl, ha, q⟩ := hy.tup s
      have f := flat_any h.1 (flat_rep h.1 hx) ys vs h.2 q
      exact .inl ⟨a, vs, rfl, .inr ha, flat_v h.1 (flat_rep h.1 hx), f.1, f.2⟩
    · cases e
  | str z =>
    cases dx with
    | str c =>
      have e : (if c.length = 1 then some (decide (c.cps.getD 0 0 ∈ z.cps.toList)) else none) = some b := e
      split at e
      · rename_i h
        cases e
        rw [hx.str, hy.str]
        refine .inr (.inr ⟨c.cps.getD 0 0, z, ?_, rfl, rfl⟩)
        obtain ⟨cs⟩ := c
        have : cs = #[cs.getD 0 0] := by
          apply Array.ext
          · exact h
          · intro i h1 h2
            have : i = 0 := by simp at h2; omega
            subst this
            simp [Array.getD, h1]
        rw [← this]
      · cases e
    | _ => cases e
  | _ => cases e
theorem r_in : R2D X.K cn (rInDD X.K) dIn := fun F H x y dx dy d Q s hx hy e k => by
  unfold dIn at e
  cases h : isIn dx dy with
  | none => rw [h] at e; cases e
  | some b =>
    rw [h] at e
    cases e
    have kk := k _ F H (ext0 s) (.bl b)
    rcases isIn_cases s hx hy h with ⟨p, xs, h1, h2, h3, h4, rfl⟩ | ⟨dd, ds, h1, h2, h3, h4, rfl⟩ | ⟨c, z, h1, h2, rfl⟩
    · exact .inl ⟨p, xs, h1, h2, h3, h4, kk⟩
    · exact .inr (.inl ⟨dd, ds, h1, h2, h3, h4, kk⟩)
    · exact .inr (.inr ⟨c, z, h1, h2, kk⟩)
theorem r_nin : R2D X.K cn (rNinDD X.K) dNin := fun F H x y dx dy d Q s hx hy e k => by
  unfold dNin at e
  cases h : isIn dx dy with
  | none => rw [h] at e; cases e
  | some b =>
    rw [h] at e
    cases e
    have kk := k _ F H (ext0 s) (.bl (!b))
    rcases isIn_cases s hx hy h with ⟨p, xs, h1, h2, h3, h4, rfl⟩ | ⟨dd, ds, h1, h2, h3, h4, rfl⟩ | ⟨c, z, h1, h2, rfl⟩
    · exact .inl ⟨p, xs, h1, h2, h3, h4, kk⟩
    · exact .inr (.inl ⟨dd, ds, h1, h2, h3, h4, kk⟩)
    · exact .inr (.inr ⟨c, z, h1, h2, kk⟩)
/-! is None -/
def rIsN1 : R2 := fun x y H Q => y = .non ∧ Q (.bl (decide (x = .non))) H
def rNotN1 : R2 := fun x y H Q => y = .non ∧ Q (.bl (!decide (x = .non))) H
theorem isnon {F H : Hp} {x : V} {dx : D} (h : Shal X.K cn F H x dx) : decide (x = .non) = (match dx with | .non => true | _ => false) := by
  cases dx with
  | lst ds => obtain ⟨a, vs, rfl, _⟩ := h; simp
  | dct ds => obtain ⟨a, vs, rfl, _⟩ := h; simp
  | _ => cases (show Rep X.K cn F x _ from h) <;> simp
theorem r_isN : R2D X.K cn rIsN1 dIsN := fun F H x y dx dy d Q s hx hy e k => by
  cases dy with
  | non =>
    refine ⟨hy.non, ?_⟩
    rw [isnon hx]
    cases dx <;> (cases (show some _ = some d from e); exact k _ F H (ext0 s) (.bl _))
  | _ => cases e
theorem r_notN : R2D X.K cn rNotN1 dNotN := fun F H x y dx dy d Q s hx hy e k => by
  cases dy with
  | non =>
    refine ⟨hy.non, ?_⟩
    rw [isnon hx]
    cases dx <;> (cases (show some _ = some d from e); exact k _ F H (ext0 s) (.bl _))
  | _ => cases e
/-! indices -/
theorem at1_eq {α : Type} (xs : List α) (i : Int) : at1 xs i = atI xs i := by
  unfold atI at1 Ed.ixN L2.ixN
  by_cases h : 0 ≤ i
  · rw [if_pos h, if_pos h]
  · rw [if_neg h, if_neg h, Int.add_comm]
theorem atI_map {α β : Type} (f : α → β) (xs : List α) (i : Int) : atI (xs.map f) i = (atI xs i).map f := by
  unfold atI
  rw [List.length_map]
  cases L2.ixN xs.length i <;> simp
theorem Reps.atI {F : Hp} {vs : List V} {ds : List D} {i : Int} {d : D} (r : Reps X.K cn F vs ds) (h : L2.atI ds i = some d) : ∃ v, L2.atI vs i = some v ∧ Rep X.K cn F v d := by
  unfold L2.atI at *
  rw [r.1]
  cases e : L2.ixN ds.length i with
  | none => rw [e] at h; cases h
  | some j =>
    rw [e] at h
    exact r.get h
theorem r_ix : R2D X.K cn (rIx X.K) dIx := fun F H x y dx dy d Q s hx hy e k => by
  cases dy with
  | int i =>
    rw [hy.int]
    cases dx with
    | lst ds =>
      have e : at1 ds i = some d := e
      rw [at1_eq] at e
      obtain ⟨a, vs, rfl, ha, q⟩ := hx
      obtain ⟨v, h1, h2⟩ := q.atI e
      exact .inl ⟨a, vs, i, v, rfl, rfl, SqL.of ha, h1, k v F H (ext0 s) h2⟩
    | tup ds =>
      have e : at1 ds i = some d := e
      rw [at1_eq] at e
      obtain ⟨a, vs, rfl, ha, q⟩ := hx.tup s
      obtain ⟨v, h1, h2⟩ := q.atI e
      exact .inr (.inl ⟨a, vs, i, v, rfl, rfl, ha, h1, k v F H (ext0 s) h2⟩)
    | scr ns =>
      have e : (at1 ns i).map D.int = some d := e
      rw [at1_eq] at e
      cases h : atI ns i with
      | none => rw [h] at e; cases e
      | some z =>
        rw [h] at e
        cases e
        cases (show Rep X.K cn F x (.scr ns) from hx) with
        | scr hq => exact .inl ⟨_, _, i, .int z, rfl, rfl, s.seq hq, by rw [atI_map, h]; rfl, k _ F H (ext0 s) (.int z)⟩
    | str z =>
      have e : (if z.length ≤ seqMax then (at1 z.cps.toList i).map fun c => D.str ⟨#[c]⟩ else none) = some d := e
      split at e
      · rename_i hz
        rw [at1_eq] at e
        rw [hx.str]
        cases h : atI z.cps.toList i with
        | none => rw [h] at e; cases e
        | some c =>
          rw [h] at e
          cases e
          exact .inr (.inr ⟨z, i, c, rfl, rfl, by rw [← sm]; exact hz, h, k _ F H (ext0 s) (.str _)⟩)
      · cases e
    | _ => cases e
  | _ => cases dx <;> cases e
theorem je_ix (h1 : JQ X cn W a qa) (h2 : JQ X cn W b qb) (hs : PlainIx b := by first | exact (fun _ _ => rfl) | (intro o i; rfl)) : JE X cn W (.Subscript a b pos) (eB dIx qa qb) := by
  obtain ⟨t1, p1, d1⟩ := h1
  obtain ⟨t2, p2, d2⟩ := h2
  exact ⟨_, pe_ix ix_seq p1 p2 hs, de_B r_ix d1 d2⟩
/-! slices -/
theorem slI_eq (n d : Nat) (o : Option Int) : slI n d o = HT.sIx n d o := by
  unfold slI HT.sIx
  cases o <;> rfl
theorem cut_eq (xs : List V) (lo hi : Option Int) : cut xs lo hi = cutV xs lo hi := by
  unfold cut cutV
  simp only [slI_eq]
theorem cut_map {α β : Type} (f : α → β) (xs : List α) (lo hi : Option Int) : cut (xs.map f) lo hi = (cut xs lo hi).map f := by
  unfold cut
  simp [List.length_map, List.map_take, List.map_drop]
theorem Reps.cut {F : Hp} {vs : List V} {ds : List D} (r : Reps X.K cn F vs ds) (lo hi : Option Int) : Reps X.K cn F (Ed.cut vs lo hi) (Ed.cut ds lo hi) := by
  unfold Ed.cut
  rw [r.1]
  exact (r.drop _).take _
/-- a part of a slice -/
def DP (cn : Cn) (W : WX) (K : PySem.W.Frag) (t : TO) (o : Option QV) : Prop := ∀ C Γ σ F H Q, RelS K cn C Γ σ F H → Post (oPart o Γ) (fun p : Option Int × Env => ∀ F' H', Same F F' → RelS K cn C p.2 σ F' H' → Q p.1 H') (XW K cn C F W) → t σ H Q
def JP (X : Cx) (cn : Cn) (W : WX) (e : Option Expr) (o : Option QV) : Prop := ∃ t, PO X e t ∧ DP cn W X.K t o
theorem jp_none : JP X cn W none none := ⟨_, po_none, fun C Γ σ F H Q R k => k F H (Same.refl _) R⟩
theorem jp_some (h : JQ X cn W e qa) : JP X cn W (some e) (some qa) := by
  obtain ⟨t, p, d⟩ := h
  refine ⟨_, po_some p, fun C Γ σ F H Q R k => d C Γ σ F H _ R (k.bind.mono (fun q k v F' H' s1 R1 hv => ?_) fun _ _ z => z)⟩
  cases e1 : rd q.2 q.1 with
  | none => simp only [e1] at k; exact k.elim
  | some dd =>
    cases dd with
    | int i =>
      simp only [e1] at k
      have hv' := R1.rd e1 hv
      exact ⟨i, hv'.int, k F' H' s1 R1⟩
    | _ => simp only [e1] at k; exact k.elim
def RSD (K : PySem.W.Frag) (cn : Cn) (r : V → Option Int → Option Int → Hp → VK → Prop) (f : D → Option Int → Option Int → Option D) : Prop := ∀ F H x dx l u d Q, Same F H → Shal K cn F H x dx → f dx l u = some d → (∀ z F' H', Ext F H F' H' → Rep K cn F' z d → Q z H') → r x l u H Q
def RSN (K : PySem.W.Frag) (cn : Cn) (r : V → Option Int → Option Int → Hp → VK → Prop) (f : D → Option Int → Option Int → Option D) : Prop := ∀ F H x dx l u d Q, Same F H → Shal K cn F H x dx → f dx l u = some d → (∀ p vs ds, d = .lst ds → H p = none → Reps K cn F vs ds → Q (.ref p) (upd H p (.lst vs))) → r x l u H Q
def rSlAll (K : PySem.W.Frag) : V → Option Int → Option Int → Hp → VK → Prop := fun x lo hi H Q => rSlL K x lo hi H Q ∨ (rSlA K x lo hi H Q ∨ rSlS x lo hi H Q)
theorem sl_all : L2.SlR X (rSlAll X.K) := L2.SlR.or sl_list (L2.SlR.or sl_tupA sl_str)
theorem sl_tupD {F : Hp} {H : Hp} {x : V} {xs : List D} {l u : Option Int} {Q : VK} (s : Same F H) (hx : Shal X.K cn F H x (.tup xs)) (k : ∀ z F' H', Ext F H F' H' → Rep X.K cn F' z (.tup (cut xs l u)) → Q z H') : rSlA X.K x l u H Q := by
  obtain ⟨a, vs, rfl, ha, q⟩ := hx.tup s
  have hx' : Rep X.K cn F (.ref a) (.tup xs) := hx
  refine ⟨a, vs, rfl, ha, fun hw => ?_, fun hw p hp => ?_⟩
  · refine k _ F H (ext0 s) ?_
    have : cut xs l u = xs := by
      unfold cut
      rw [slI_eq, slI_eq, ← q.1, hw.1, hw.2]
      simp [q.1]
    rw [this]; exact hx'
  · have ex := Ext.new (o := HO.tup (cutV vs l u)) s hp
    have qq := (q.cut l u).mono ex.f
    rw [cut_eq] at qq
    exact k _ _ _ ex (.tup (SqT.of upd_same) qq.1 qq.2)
theorem r_cut : RSD X.K cn (rSlAll X.K) dCut := fun F H x dx l u d Q s hx e k => by
  cases dx with
  | lst xs =>
    cases e
    obtain ⟨a, vs, rfl, ha, q⟩ := hx
    refine .inl ⟨a, vs, rfl, SqL.of ha, fun p hp => ?_⟩
    have ex := Ext.new (o := HO.lst (cutV vs l u)) s hp
    have qq := (q.cut l u).mono ex.f
    rw [cut_eq] at qq
    exact k _ _ _ ex (.lst upd_same qq.1 qq.2)
  | scr ns =>
    cases e
    cases (show Rep X.K cn F x (.scr ns) from hx) with
    | scr hq =>
      refine .inl ⟨_, _, rfl, s.seq hq, fun p hp => ?_⟩
      have ex := Ext.new (o := HO.lst (cutV (ns.map V.int) l u)) s hp
      refine k _ _ _ ex (.lst upd_same (by rw [← cut_eq, cut_map]; simp) fun i v d h1 h2 => ?_)
      rw [← cut_eq, cut_map, List.getElem?_map] at h1
      rw [List.getElem?_map] at h2
      cases h : (cut ns l u)[i]? with
      | none => rw [h] at h1; cases h1
      | some z => rw [h] at h1 h2; cases h1; cases h2; exact .int z
  | tup xs => cases e; exact .inr (.inl (sl_tupD s hx k))
  | str z =>
    have e : (if z.length ≤ seqMax then some (D.str ⟨(cut z.cps.toList l u).toArray⟩) else none) = some d := e
    split at e
    · rename_i hz
      cases e
      rw [hx.str]
      refine .inr (.inr ⟨z, rfl, by rw [← sm]; exact hz, ?_⟩)
      have : cutS z l u = ⟨(cut z.cps.toList l u).toArray⟩ := by
        unfold cutS cut
        simp only [slI_eq, Array.length_toList]
        rfl
      rw [this]
      exact k _ F H (ext0 s) (.str _)
    · cases e
  | _ => cases e
theorem ints_reps {F : Hp} (ns : List Int) : Reps X.K cn F (ns.map V.int) (ns.map D.int) := ⟨by simp, fun i v d h1 h2 => by
  rw [List.getElem?_map] at h1 h2
  cases h : ns[i]? with
  | none => rw [h] at h1; cases h1
  | some z => rw [h] at h1 h2; cases h1; cases h2; exact .int z⟩
theorem r_cutL : RSN X.K cn (rSlL X.K) dCutL := fun F H x dx l u d Q s hx e k => by
  cases dx with
  | lst xs =>
    cases e
    obtain ⟨a, vs, rfl, ha, q⟩ := hx
    exact ⟨a, vs, rfl, SqL.of ha, fun p hp => k p _ _ rfl hp (by have := q.cut l u; rwa [cut_eq] at this)⟩
  | scr ns =>
    cases e
    cases (show Rep X.K cn F x (.scr ns) from hx) with
    | scr hq => exact ⟨_, _, rfl, s.seq hq, fun p hp => k p _ _ rfl hp (by rw [← cut_eq, cut_map]; exact ints_reps _)⟩
  | _ => cases e
theorem je_sl {lo hi : Option Expr} {ol oh : Option QV} {p2 : Pos} (h1 : JQ X cn W a qa) (h2 : JP X cn W lo ol) (h3 : JP X cn W hi oh) : JE X cn W (.Subscript a (.Slice lo hi none p2) pos) (eSl dCut qa ol oh) := by
  obtain ⟨t1, p1, d1⟩ := h1
  obtain ⟨t2, q2, d2⟩ := h2
  obtain ⟨t3, q3, d3⟩ := h3
  refine ⟨_, pe_slice sl_all p1 q2 q3, fun C Γ σ F H Q R k => ?_⟩
  refine d1 C Γ σ F H _ R (k.bind.mono (fun p k v F' H' s1 R1 hv => ?_) fun _ _ z => z)
  refine d2 C p.2 σ F' H' _ R1 (k.bind.mono (fun q k F2 H2 s2 R2 => ?_) fun _ _ z => XW.up s1 z)
  refine d3 C q.2 σ F2 H2 _ R2 (k.bind.mono (fun r k F3 H3 s3 R3 => ?_) fun _ _ z => XW.up (s1.trans s2) z)
  cases e1 : rd r.2 p.1 with
  | none => simp only [e1] at k; exact k.elim
  | some dd =>
    simp only [e1] at k
    obtain ⟨z, e3, k⟩ := k.bind.of
    exact r_cut F3 H3 v dd q.1 r.1 z Q R3.bs.fh (R3.rd e1 (hv.mono (s2.trans s3))) e3 fun zv F4 H4 ex rz => k zv F4 H4 (((s1.trans s2).trans s3).trans ex.f) (R3.ext ex) rz
theorem jn_sl {lo hi : Option Expr} {ol oh : Option QV} {p2 : Pos} (h1 : JQ X cn W a qa) (h2 : JP X cn W lo ol) (h3 : JP X cn W hi oh) : JN X cn W (.Subscript a (.Slice lo hi none p2) pos) (eSl dCutL qa ol oh) := by
  obtain ⟨t1, p1, d1⟩ := h1
  obtain ⟨t2, q2, d2⟩ := h2
  obtain ⟨t3, q3, d3⟩ := h3
  refine ⟨_, pe_slice sl_list p1 q2 q3, fun C Γ σ F H Q R k => ?_⟩
  refine d1 C Γ σ F H _ R (k.bind.mono (fun p k v F' H' s1 R1 hv => ?_) fun _ _ z => z)
  refine d2 C p.2 σ F' H' _ R1 (k.bind.mono (fun q k F2 H2 s2 R2 => ?_) fun _ _ z => XW.up s1 z)
  refine d3 C q.2 σ F2 H2 _ R2 (k.bind.mono (fun r k F3 H3 s3 R3 => ?_) fun _ _ z => XW.up (s1.trans s2) z)
  cases e1 : rd r.2 p.1 with
  | none => simp only [e1] at k; exact k.elim
  | some dd =>
    simp only [e1] at k
    obtain ⟨z, e3, k⟩ := k.bind.of
    refine r_cutL F3 H3 v dd q.1 r.1 z Q R3.bs.fh (R3.rd e1 (hv.mono (s2.trans s3))) e3 fun a vs ds ez ha hr => ?_
    subst ez
    obtain ⟨r3, nw⟩ := NewR.laid R3 hr ha
    exact k (.ref a) F3 _ ((s1.trans s2).trans s3) r3 nw
theorem je_rev {k : Nat} {p1 p2 p3 : Pos} (h : JQ X cn W a qa) : JE X cn W (.Subscript a (.Slice none none (some (.UnaryOp .USub (.Constant (.int 1) k p1) p2)) p3) pos) (eU dRev qa) := by
  obtain ⟨t1, p1, d1⟩ := h
  refine ⟨_, pe_revL p1, de_U (r := fun x H Q => ∃ a xs, x = .ref a ∧ SqL X.K H a xs ∧ ∀ p, H p = none → Q (.ref p) (upd H p (.lst xs.reverse))) (fun F H x dx d Q s hx e k => ?_) d1⟩
  cases dx with
  | lst xs =>
    cases e
    obtain ⟨a, vs, rfl, ha, q⟩ := hx
    refine ⟨a, vs, rfl, SqL.of ha, fun p hp => ?_⟩
    have ex := Ext.new (o := HO.lst vs.reverse) s hp
    exact k _ _ _ ex (.lst upd_same (q.rev.mono ex.f).1 (q.rev.mono ex.f).2)
  | _ => cases e
theorem jn_rev {k : Nat} {p1 p2 p3 : Pos} (h : JQ X cn W a qa) : JN X cn W (.Subscript a (.Slice none none (some (.UnaryOp .USub (.Constant (.int 1) k p1) p2)) p3) pos) (eU dRev qa) := by
  obtain ⟨t1, p1, d1⟩ := h
  refine ⟨_, pe_revL p1, dn_U (r := fun x H Q => ∃ a xs, x = .ref a ∧ SqL X.K H a xs ∧ ∀ p, H p = none → Q (.ref p) (upd H p (.lst xs.reverse))) (fun F H x dx d Q s hx e k => ?_) d1⟩
  cases dx with
  | lst xs =>
    cases e
    obtain ⟨a, vs, rfl, ha, q⟩ := hx
    exact ⟨a, vs, rfl, SqL.of ha, fun p hp => k p _ _ rfl hp q.rev⟩
  | _ => cases e
end
end Ed

set_option autoImplicit true
set_option Elab.async false
set_option linter.all false
set_option maxRecDepth 100000
set_option maxHeartbeats 4000000
set_option autoImplicit false
/-! isinstance, gcd, list, tuple, sum, all, any, max, min, texts -/
namespace Ed
open PySem L2
section
variable {X : Cx} {cn : Cn} {W : WX} {a b c e : Expr} {es : List Expr} {pos : Pos} {ea eb : EV} {qa qb : QV} {ta tb : TV} {av : AV} {lv : LV}
/-! isinstance -/
/-- what the second place holds: a class, as a value -/
def JC (X : Cx) (e : Expr) (v : V) (u : Value) : Prop := PE X e (tC v) ∧ ClsV v u
theorem jc_own {x : Str} {p : Pos} {C : Addr} (hg : Gl X x) (hm : X.mg x = some (.ref C)) (hd : (x == ("__debug__" : Str)) = false := by decide) : JC X (.Name x p) (.ref C) (.ref C) := ⟨pe_glob hg hm rfl hd, .own C⟩
theorem jc_ty {x : Str} {p : Pos} {T : String} (hg : Gl X x) (hm : X.mg x = none) (hv : bootBuiltins x = some (.type T)) (hn : x ≠ "__name__" := by decide) (hd : (x == ("__debug__" : Str)) = false := by decide) : JC X (.Name x p) (.ty T) (.type T) := ⟨pe_bltn hg hm hv rfl hn hd, .ty T⟩
/-- what is asked of the data, whose class the other is -/
def TyD (K : PySem.W.Frag) (cn : Cn) (u : Value) : D → Bool → Prop
  | .non, b => PySem.W.kitOne K (.type "NoneType") u = some b
  | .bl _, b => PySem.W.kitOne K (.type "bool") u = some b
  | .int _, b => PySem.W.kitOne K (.type "int") u = some b
  | .str _, b => PySem.W.kitOne K (.type "str") u = some b
  | .lst _, b => PySem.W.kitOne K (.type "list") u = some b
  | .tup _, b => PySem.W.kitOne K (.type "tuple") u = some b
  | .dct _, b => PySem.W.kitOne K (.type "dict") u = some b
  | .ins c _, b => PySem.W.kitOne K (.ref (cn.ca c)) u = some b ∧ Cls K (cn.ca c) ∧ PySem.W.findIn K (.ref (cn.ca c)) "__class__" = some (some (.builtin "object.__class__")) ∧
      PySem.W.specialIn K (.builtin "object.__class__") "__get__" = some (some (.builtin "getset_descriptor.__get__")) ∧ PySem.W.takesIn K (.builtin "object.__class__") = some true ∧ PySem.W.mroIn K (cn.ca c) (.type "object") = some true
  | .scr _, _ => False
theorem tyx {F H : Hp} {x : V} {d : D} {u : Value} {b : Bool} (s : Same F H) (hx : Shal X.K cn F H x d) (h : TyD X.K cn u d b) : ∃ t, TyX X.K H x t ∧ PySem.W.kitOne X.K t u = some b := by
  cases d with
  | non => rw [hx.non]; exact ⟨_, .base .non, h⟩
  | bl z => rw [hx.bl]; exact ⟨_, .base (.bl z), h⟩
  | int z => rw [hx.int]; exact ⟨_, .base (.int z), h⟩
  | str z => rw [hx.str]; exact ⟨_, .base (.str z), h⟩
  | lst ds => obtain ⟨a, vs, rfl, ha, _⟩ := hx; exact ⟨_, .base (.lst ha), h⟩
  | dct ds => obtain ⟨a, vs, rfl, ha, _⟩ := hx; exact ⟨_, .base (.dK ha), h⟩
  | tup ds =>
    obtain ⟨a, vs, rfl, ha, _⟩ := hx.tup s
    rcases ha with (ha | ⟨o, ha⟩) | ⟨o, _, _, ho, hc, _⟩
    · exact ⟨_, .base (.tup ha), h⟩
    · exact ⟨_, .fTuple ha, h⟩
    · exact ⟨_, .kTuple ho hc, h⟩
  | ins c fs =>
    obtain ⟨h, h1, h2, h3, h4, h5⟩ := h
    cases (show Rep X.K cn F x (.ins c fs) from hx) with
    | ins he => exact ⟨_, .base (.ins (s _ _ he) h1 h2 h3 h4 h5), h⟩
  | scr ns => exact h.elim
theorem je_isi {p : Pos} {v : V} {u : Value} {f : D → Option Bool} (hg : Gl X "isinstance") (hm : X.mg "isinstance" = none) (h1 : JQ X cn W a qa) (h2 : JC X b v u) (hf : ∀ d k, f d = some k → TyD X.K cn u d k)
    (he : starEach [a, b] X.env = (false, eval a X.env) :: starEach [b] X.env := by rfl) (he2 : starEach [b] X.env = (false, eval b X.env) :: starEach [] X.env := by rfl) (hpl : (backTo pos (starEach [b] X.env)).any (·.1) = false := by rfl) :
    JE X cn W (.Call (.Name "isinstance" p) [a, b] [] pos) (eU (fun d => (f d).map .bl) qa) := by
  obtain ⟨t1, p1, d1⟩ := h1
  refine ⟨_, pe_callB call_isi hg hm rfl (pa_cons p1 (pa_cons h2.1 pa_nil he2) he) (by decide) (by decide) he hpl, fun C Γ σ F H Q R k => ?_⟩
  refine d1 C Γ σ F H _ R (k.bind.mono (fun q k w F' H' s1 R1 hv => ?_) fun _ _ z => z)
  cases e1 : rd q.2 q.1 with
  | none => simp only [e1] at k; exact k.elim
  | some dd =>
    simp only [e1] at k
    obtain ⟨z, e3, k⟩ := k.bind.of
    cases e4 : f dd with
    | none => rw [e4] at e3; cases e3
    | some bb =>
      rw [e4] at e3
      cases e3
      obtain ⟨t, ty, kk⟩ := tyx R1.bs.fh (R1.rd e1 hv) (hf dd bb e4)
      exact ⟨w, v, t, u, bb, rfl, h2.2, ty, kk, k (.bl bb) F' H' s1 R1 (.bl bb)⟩
/-! the built-in types -/
theorem ty_int (d : D) (k : Bool) (h : dIsT .tInt d = some (.bl k)) : TyD X.K cn (.type "int") d k := by
  cases d <;> first | (cases h; exact kit_ty (by decide +kernel)) | cases h
theorem ty_bool (d : D) (k : Bool) (h : dIsT .tBool d = some (.bl k)) : TyD X.K cn (.type "bool") d k := by
  cases d <;> first | (cases h; exact kit_ty (by decide +kernel)) | cases h
theorem ty_str (d : D) (k : Bool) (h : dIsT .tStr d = some (.bl k)) : TyD X.K cn (.type "str") d k := by
  cases d <;> first | (cases h; exact kit_ty (by decide +kernel)) | cases h
theorem ty_list (d : D) (k : Bool) (h : dIsT .tList d = some (.bl k)) : TyD X.K cn (.type "list") d k := by
  cases d <;> first | (cases h; exact kit_ty (by decide +kernel)) | cases h
theorem ty_tuple (d : D) (k : Bool) (h : dIsT .tTuple d = some (.bl k)) : TyD X.K cn (.type "tuple") d k := by
  cases d <;> first | (cases h; exact kit_ty (by decide +kernel)) | cases h
end
end Ed

set_option autoImplicit true
set_option Elab.async false
set_option linter.all false
set_option maxRecDepth 100000
set_option maxHeartbeats 4000000
set_option autoImplicit false
/-! comprehensions -/
namespace Ed
open PySem L2
section
variable {K : PySem.W.Frag} {cn : Cn} {C : Ct} {Γ Γ' Γ1 Γ2 : Env} {σ : St} {F F' F1 F2 H H' H1 H2 : Hp} {v : V} {d : D} {i : Nat} {D0 : Addr} {o o' : HO} {vs : List Nat}
/-- the heap at the entry with one thing more: what is being made is kept -/
def Ct.at (C : Ct) (a : Addr) (o : HO) : Ct := ⟨C.B0, upd C.H0 a o, C.F0, C.slf⟩
theorem RelS.toD (R : RelS K cn C Γ σ F H) (hD : H D0 = some o) (fD : F D0 = none) (nD : ∀ (j : Nat) d', Γ[j]? = some (.own d') → σ[j]? ≠ some (some (V.ref D0))) (h0 : C.H0 D0 = none) : RelS K cn (C.at D0 o) Γ σ F H := by
  refine ⟨⟨R.bs.fh, R.bs.f0, fun b o' h1 h2 => ?_, fun b h1 h2 => ?_, fun a h => ?_, fun b o' h => ?_⟩, R.len, fun j t h => ?_, R.ow, R.s0⟩
  · by_cases z : b = D0
    · subst z
      have : (upd C.H0 b o) b = some o' := h1
      rw [upd_same] at this
      cases this; exact hD
    · have : (upd C.H0 D0 o) b = some o' := h1
      rw [upd_ne z] at this
      exact R.bs.h0 b o' this h2
  · by_cases z : b = D0
    · subst z; exact fD
    · have : (upd C.H0 D0 o) b ≠ none := h2
      rw [upd_ne z] at this
      exact R.bs.nw b h1 this
  · obtain ⟨⟨c, dx, fs, q⟩, q2⟩ := R.bs.si a h
    refine ⟨⟨c, dx, fs, ?_⟩, q2⟩
    have z : a ≠ D0 := fun z => by subst z; rw [h0] at q; cases q
    show (upd C.H0 D0 o) a = _
    rw [upd_ne z]; exact q
  · have q := R.bs.b0 b o' h
    have z : b ≠ D0 := fun z => by subst z; rw [h0] at q; cases q
    show (upd C.H0 D0 o) b = _
    rw [upd_ne z]; exact q
  · have w := R.sl j t h
    cases t with
    | emp => trivial
    | val x => exact w
    | bor x => exact w
    | slf c fs => exact w
    | exn x => exact w
    | own x =>
      obtain ⟨a, e1, n, n0, r⟩ := w
      refine ⟨a, e1, n, ?_, r⟩
      have z : a ≠ D0 := fun z => nD j x h (by rw [← z]; exact join_some e1)
      show (upd C.H0 D0 o) a = none
      rw [upd_ne z]; exact n0
theorem Bas.ofD (R : Bas (C.at D0 o) F H) (h0 : C.H0 D0 = none) (f0 : C.F0 D0 = none) (hs : C.slf ≠ some D0) (hb : ∀ b o, C.B0 b = some o → C.H0 b = some o) (hi : ∀ a, C.slf = some a → ∃ c dx fs, C.H0 a = some (.ins c dx fs)) : Bas C F H ∧ H D0 = some o ∧ F D0 = none := by
  have e : (C.at D0 o).H0 D0 = some o := by show (upd C.H0 D0 o) D0 = _; exact upd_same
  refine ⟨⟨R.fh, R.f0, fun b o' h1 h2 => ?_, fun b h1 h2 => ?_, fun a h => ⟨hi a h, (R.si a h).2⟩, hb⟩, R.h0 D0 o e hs, R.nw D0 f0 (by rw [e]; simp)⟩
  · have z : b ≠ D0 := fun z => by subst z; rw [h0] at h1; cases h1
    exact R.h0 b o' (by show (upd C.H0 D0 o) b = _; rw [upd_ne z]; exact h1) h2
  · have z : b ≠ D0 := fun z => by subst z; exact h2 h0
    exact R.nw b h1 (by show (upd C.H0 D0 o) b ≠ _; rw [upd_ne z]; exact h2)
theorem RelS.ofD (R : RelS K cn (C.at D0 o) Γ σ F H) (h0 : C.H0 D0 = none) (f0 : C.F0 D0 = none) (hs : C.slf ≠ some D0) (hb : ∀ b o, C.B0 b = some o → C.H0 b = some o) (hi : ∀ a, C.slf = some a → ∃ c dx fs, C.H0 a = some (.ins c dx fs)) :
    RelS K cn C Γ σ F H ∧ H D0 = some o ∧ F D0 = none ∧ ∀ (j : Nat) d', Γ[j]? = some (.own d') → σ[j]? ≠ some (some (V.ref D0)) := by
  obtain ⟨b1, b2, b3⟩ := R.bs.ofD h0 f0 hs hb hi
  refine ⟨⟨b1, R.len, fun j t h => ?_, R.ow, R.s0⟩, b2, b3, fun j d' h z => ?_⟩
  · have w := R.sl j t h
    cases t with
    | emp => trivial
    | val x => exact w
    | bor x => exact w
    | slf c fs => exact w
    | exn x => exact w
    | own x =>
      obtain ⟨a, e1, n, n0, r⟩ := w
      refine ⟨a, e1, n, ?_, r⟩
      have n0 : (upd C.H0 D0 o) a = none := n0
      by_cases z : a = D0
      · subst z; exact h0
      · rw [upd_ne z] at n0; exact n0
  · obtain ⟨a, e1, n, n0, r⟩ := R.sl j _ h
    rw [join_some e1] at z
    cases z
    have n0 : (upd C.H0 D0 o) D0 = none := n0
    rw [upd_same] at n0; cases n0
theorem RelS.updD (R : RelS K cn C Γ σ F H) (fD : F D0 = none) (nD : ∀ (j : Nat) d', Γ[j]? = some (.own d') → σ[j]? ≠ some (some (V.ref D0))) (h0 : C.H0 D0 = none) (hs : C.slf ≠ some D0) : RelS K cn C Γ σ F (upd H D0 o) := by
  refine ⟨⟨same_out R.bs.fh fD, R.bs.f0, fun b o' h1 h2 => ?_, R.bs.nw, fun a h => ⟨(R.bs.si a h).1, ?_⟩, R.bs.b0⟩, R.len, fun j t h => ?_, R.ow, R.s0⟩
  · have z : b ≠ D0 := fun z => by subst z; rw [h0] at h1; cases h1
    rw [upd_ne z]; exact R.bs.h0 b o' h1 h2
  · have z : a ≠ D0 := fun z => by subst z; exact hs h
    rw [upd_ne z]; exact (R.bs.si a h).2
  · have w := R.sl j t h
    cases t with
    | emp => trivial
    | val x => exact w
    | bor x => exact w
    | slf c fs =>
      obtain ⟨a, dx, fvs, e1, e2, n, h, r⟩ := w
      have z : a ≠ D0 := fun z => by subst z; exact hs e2
      exact ⟨a, dx, fvs, e1, e2, n, by rw [upd_ne z]; exact h, r⟩
    | exn x => exact w
    | own x =>
      obtain ⟨a, e1, n, n0, r⟩ := w
      have z : a ≠ D0 := fun z => nD j x h (by rw [← z]; exact join_some e1)
      refine ⟨a, e1, n, n0, ?_⟩
      cases x with
      | lst ds => obtain ⟨vs, h, p⟩ := r; exact ⟨vs, by rw [upd_ne z]; exact h, p⟩
      | dct ds => obtain ⟨vs, h, p⟩ := r; exact ⟨vs, by rw [upd_ne z]; exact h, p⟩
      | _ => exact r.elim
theorem RelS.wipe (R : RelS K cn C Γ σ F H) : ∀ vs : List Nat, RelS K cn C (wipeG Γ vs) (L2.wipe σ vs) F H
  | [] => R
  | v :: vs => (RelS.wipe R vs).setE
theorem wipe_ne : ∀ {vs : List Nat} {j : Nat}, j ∉ vs → (L2.wipe σ vs)[j]? = σ[j]?
  | [], _, _ => rfl
  | v :: vs, j, h => by
    show ((L2.wipe σ vs).set v none)[j]? = _
    rw [List.getElem?_set_ne (fun z => h (by simp [z]))]
    exact wipe_ne (fun z => h (by simp [z]))
theorem wipe_in : ∀ {vs : List Nat} {j : Nat}, j ∈ vs → j < σ.length → (L2.wipe σ vs)[j]? = some none
  | [], _, h, _ => by cases h
  | v :: vs, j, h, hl => by
    show ((L2.wipe σ vs).set v none)[j]? = _
    by_cases z : v = j
    · subst z; rw [List.getElem?_set_self (by rw [L2.wipe_length]; exact hl)]
    · rw [List.getElem?_set_ne z]
      rcases List.mem_cons.mp h with q | q
      · exact absurd q.symm z
      · exact wipe_in q hl
theorem wipe_ext {σ1 σ2 : St} (hl : σ1.length = σ2.length) (h : ∀ j, j ∉ vs → σ1[j]? = σ2[j]?) : L2.wipe σ1 vs = L2.wipe σ2 vs := by
  apply List.ext_getElem?
  intro j
  by_cases z : j ∈ vs
  · by_cases hj : j < σ1.length
    · rw [wipe_in z hj, wipe_in z (hl ▸ hj)]
    · rw [List.getElem?_eq_none (by rw [L2.wipe_length]; omega), List.getElem?_eq_none (by rw [L2.wipe_length]; omega)]
  · rw [wipe_ne z, wipe_ne z, h j z]
theorem wipe_wipe : L2.wipe (L2.wipe σ vs) vs = L2.wipe σ vs := wipe_ext (L2.wipe_length σ vs) fun j h => wipe_ne h
theorem restG_get {Γ0 Γ : Env} {t : Sl} : ∀ {vs : List Nat} {j : Nat}, (restG Γ0 Γ vs)[j]? = some t → (j ∈ vs ∧ t = get Γ0 j) ∨ (j ∉ vs ∧ Γ[j]? = some t)
  | [], j, h => .inr ⟨by simp, h⟩
  | v :: vs, j, h => by
    have h : (put (restG Γ0 Γ vs) v (get Γ0 v))[j]? = some t := h
    rw [put_eq] at h
    rcases getSet h with ⟨rfl, rfl⟩ | ⟨z, h⟩
    · exact .inl ⟨by simp, rfl⟩
    · rcases restG_get h with ⟨h1, h2⟩ | ⟨h1, h2⟩
      · exact .inl ⟨by simp [h1], h2⟩
      · exact .inr ⟨by simp [h1, Ne.symm z], h2⟩
theorem restG_len {Γ0 Γ : Env} : ∀ vs : List Nat, (restG Γ0 Γ vs).length = Γ.length
  | [] => rfl
  | v :: vs => by show (put (restG Γ0 Γ vs) v (get Γ0 v)).length = _; rw [put_eq, List.length_set, restG_len vs]
theorem RelS.rest (R1 : RelS K cn C Γ1 σ F1 H1) (st : ∀ i ∈ vs, stb (get Γ1 i) = true) (s : Same F1 F2) (R2 : RelS K cn C Γ2 (L2.wipe σ vs) F2 H2) : RelS K cn C (restG Γ1 Γ2 vs) σ F2 H2 := by
  have own : ∀ {j : Nat} {d : D}, (restG Γ1 Γ2 vs)[j]? = some (.own d) → j ∉ vs ∧ Γ2[j]? = some (.own d) := fun {j d} h => by
    rcases restG_get h with ⟨h1, h2⟩ | h1
    · have := st j h1
      rw [← h2] at this; cases this
    · exact h1
  refine ⟨R2.bs, by rw [restG_len, R2.len, L2.wipe_length], fun j t h => ?_, fun j k x y b h1 h2 h3 h4 => ?_, fun j c fs h => ?_⟩
  · rcases restG_get h with ⟨h1, h2⟩ | ⟨h1, h2⟩
    · have hst := st j h1
      rw [← h2] at hst
      cases t with
      | emp => trivial
      | val x =>
        obtain ⟨v, e, r⟩ := R1.at h2.symm (fun z => by cases z)
        exact ⟨v, e, r.mono s⟩
      | bor x =>
        obtain ⟨v, e, r⟩ := R1.at h2.symm (fun z => by cases z)
        exact ⟨v, e, r.mono s (Same.refl _)⟩
      | exn x =>
        obtain ⟨a, e, q1⟩ := R1.at h2.symm (fun z => by cases z)
        exact ⟨a, e, fun a' cls od z => ⟨(q1 a' cls od z).1, (q1 a' cls od z).2.mono s⟩⟩
      | own x => cases hst
      | slf c fs => cases hst
    · have w := R2.sl j t h2
      rw [wipe_ne h1] at w
      exact w
  · obtain ⟨a1, a2⟩ := own h1
    obtain ⟨b1, b2⟩ := own h2
    exact R2.ow j k x y b a2 b2 (by rw [wipe_ne a1]; exact h3) (by rw [wipe_ne b1]; exact h4)
  · rcases restG_get h with ⟨h1, h2⟩ | ⟨h1, h2⟩
    · have := st j h1
      rw [← h2] at this; cases this
    · exact R2.s0 j c fs h2
end
end Ed

set_option autoImplicit true
set_option Elab.async false
set_option linter.all false
set_option maxRecDepth 100000
set_option maxHeartbeats 4000000
set_option autoImplicit false
namespace Ed
open PySem L2
/-- no exception is wished -/
abbrev W0 : WX := fun _ _ _ _ => False
section
variable (K : PySem.W.Frag) (cn : Cn)
/-- what the data function says of an expression, as a reading -/
def tSem (ev : EV) : TE := fun σ H Q => ∃ C Γ F, RelS K cn C Γ σ F H ∧ Post (ev Γ) (EEnd K cn C σ F Q) (XW K cn C F W0)
def tSemT (ev : TV) : TT := fun σ H Q => ∃ C Γ F, RelS K cn C Γ σ F H ∧ Post (ev Γ) (TEnd K cn C σ F Q) (XW K cn C F W0)
/-- a target that stays within the slots vs -/
def DGc (vs : List Nat) (g : TG) (gv : GV) : Prop := ∀ C Γ σ F H v d Γ' N, RelS K cn C Γ σ F H → Rep K cn F v d → gv d Γ = some Γ' → (∀ σ' F' H', Same F F' → RelS K cn C Γ' σ' F' H' → L2.wipe σ' vs = L2.wipe σ vs → N σ' H') → g v σ H N
def DGcs (vs : List Nat) (g : TGs) (gv : List GV) : Prop := ∀ C Γ σ F H ws ds Γ' N, RelS K cn C Γ σ F H → Reps K cn F ws ds → gs gv ds Γ = some Γ' → (∀ σ' F' H', Same F F' → RelS K cn C Γ' σ' F' H' → L2.wipe σ' vs = L2.wipe σ vs → N σ' H') → g ws σ H N
def tSemG (vs : List Nat) (gv : GV) : TG := fun v σ H N => ∃ C Γ F d Γ', RelS K cn C Γ σ F H ∧ Rep K cn F v d ∧ gv d Γ = some Γ' ∧ ∀ σ' F' H', Same F F' → RelS K cn C Γ' σ' F' H' → L2.wipe σ' vs = L2.wipe σ vs → N σ' H'
end
def JGc (X : Cx) (cn : Cn) (vs : List Nat) (e : Expr) (g : GV) : Prop := ∃ t, PG X e t ∧ DGc X.K cn vs t g
def JGcs (X : Cx) (cn : Cn) (vs : List Nat) (es : List Expr) (g : List GV) : Prop := ∃ t, PGs X es t ∧ DGcs X.K cn vs t g
def JTs (X : Cx) (cn : Cn) (W : WX) (ifs : List Expr) (tv : TV) : Prop := ∃ t, PTs X ifs t ∧ DT cn W X.K t tv
section
variable {X : Cx} {cn : Cn} {W : WX} {a b c e : Expr} {es : List Expr} {pos : Pos} {ea eb ev : EV} {qa qb : QV} {ta tb tv : TV} {av : AV} {lv : LV} {vs : List Nat} {g : GV}
theorem JE.sem (h : JE X cn W0 e ev) : PE X e (tSem X.K cn ev) := by
  obtain ⟨t, p, d⟩ := h
  refine ⟨fun pins s σ H Q I h => p.run pins s σ H Q I ?_⟩
  obtain ⟨C, Γ, F, r, k⟩ := h
  exact d C Γ σ F H Q r k
theorem JTs.sem {ifs : List Expr} (h : JTs X cn W0 ifs tv) : PTs X ifs (tSemT X.K cn tv) := by
  obtain ⟨t, p, d⟩ := h
  refine ⟨fun pins s σ H Q I h => p.run pins s σ H Q I ?_⟩
  obtain ⟨C, Γ, F, r, k⟩ := h
  exact d C Γ σ F H Q r k
theorem JGc.sem (h : JGc X cn vs e g) : PG X e (tSemG X.K cn vs g) := by
  obtain ⟨t, p, d⟩ := h
  refine ⟨fun pins s σ H v u Q I r h => p.run pins s σ H v u Q I r ?_⟩
  obtain ⟨C, Γ, F, d0, Γ', r1, r2, e, k⟩ := h
  exact d C Γ σ F H v d0 Γ' Q r1 r2 e k
theorem jts_nil : JTs X cn W [] tYs := ⟨_, pts_nil, fun C Γ σ F H Q r k => k F H (Same.refl _) r⟩
theorem jts_one (h : JT X cn W c tv) : JTs X cn W [c] tv := by
  obtain ⟨t, p, d⟩ := h
  exact ⟨_, pts_one p, d⟩
theorem wipe_set {σ : St} {i : Nat} {x : Option V} (h : i ∈ vs) : L2.wipe (σ.set i x) vs = L2.wipe σ vs := wipe_ext (by simp) fun j hj => List.getElem?_set_ne fun z => hj (by rw [← z]; exact h)
theorem jgc_n {i : Nat} {x : Str} {pos : Pos} (hN : X.N.Nodup) (hi : X.N[i]? = some x) (hx : Loc X.env.scope x) (hv : i ∈ vs) (hf : X.fn x = true ∨ X.env.scope.names.lookup x = some .local) : JGc X cn vs (.Name x pos) (gN i) :=
  ⟨_, pg_name hN hi hx hf, fun C Γ σ F H v d Γ' N R rv e k => by
    cases e
    exact k _ F H (Same.refl _) (R.setV rv) (wipe_set hv)⟩
theorem jgcs_nil : JGcs X cn vs [] [] := ⟨_, pgs_nil, fun C Γ σ F H ws ds Γ' N R rv e k => by
  cases ds with
  | nil =>
    cases e
    exact ⟨rv.inv0, k _ F H (Same.refl _) R rfl⟩
  | cons _ _ => cases e⟩
theorem jgcs_cons {gr : List GV} (h1 : JGc X cn vs e g) (h2 : JGcs X cn vs es gr) (hs : (assignEach (e :: es) X.env).map (·.2) = assign e X.env :: (assignEach es X.env).map (·.2) := by rfl) : JGcs X cn vs (e :: es) (g :: gr) := by
  obtain ⟨t1, p1, d1⟩ := h1
  obtain ⟨t2, p2, d2⟩ := h2
  refine ⟨_, pgs_cons p1 p2 hs, fun C Γ σ F H ws ds Γ' N R rv e k => ?_⟩
  cases ds with
  | nil => cases e
  | cons d ds =>
    obtain ⟨w, ws', rfl, r1, r2⟩ := rv.inv
    refine ⟨w, ws', rfl, ?_⟩
    have e : (match g d Γ with | some Γ' => gs gr ds Γ' | none => none) = some Γ' := e
    cases eg : g d Γ with
    | none => rw [eg] at e; cases e
    | some Γ1 =>
      rw [eg] at e
      exact d1 C Γ σ F H w d Γ1 _ R r1 eg fun σ1 F1 H1 s1 R1 w1 => d2 C Γ1 σ1 F1 H1 ws' ds Γ' N R1 (r2.mono s1) e fun σ2 F2 H2 s2 R2 w2 => k σ2 F2 H2 (s1.trans s2) R2 (w2.trans w1)
theorem jgc_t {k : Nat} {gl : List GV} {n : Nat} (hc : X.calm = true) (h : JGcs X cn vs es gl) (hg : gl.length = n) (hn : (assignEach es X.env).length = n) (hst : (assignEach es X.env).findIdx? (·.1) = none) : JGc X cn vs (.Tuple es k pos) (gT gl) := by
  obtain ⟨t, p, d⟩ := h
  have pp : PG X (.Tuple es k pos) (fun v σ H Q => gTup X.K n t v σ H Q ∨ gLst X.K n t v σ H Q) := ⟨fun pins s σ H v u Q I r q => q.elim (fun q => (pg_tup hc p hn hst).run pins s σ H v u Q I r q) fun q => (pg_lst hc p hn hst).run pins s σ H v u Q I r q⟩
  refine ⟨_, pp, fun C Γ σ F H v dd Γ' N R rv e k => ?_⟩
  have gsl : ∀ {gl : List GV} {ds : List D} {Γ Γ' : Env}, gs gl ds Γ = some Γ' → ds.length = gl.length := by
    intro gl
    induction gl with
    | nil => intro ds Γ Γ' e; cases ds with | nil => rfl | cons _ _ => cases e
    | cons g gl ih =>
      intro ds Γ Γ' e
      cases ds with
      | nil => cases e
      | cons d ds =>
        have e : (match g d Γ with | some Γ' => gs gl ds Γ' | none => none) = some Γ' := e
        cases eg : g d Γ with
        | none => rw [eg] at e; cases e
        | some Γ1 => rw [eg] at e; simp [ih e]
  cases dd with
  | tup ds =>
    obtain ⟨a, ws, rfl, ha, q⟩ := rv.tupE R.bs.fh
    exact .inl ⟨a, ws, rfl, ha, by rw [q.1, gsl e, hg], d C Γ σ F H ws ds Γ' N R q e k⟩
  | lst ds =>
    cases rv with
    | lst h hl q => exact .inr ⟨_, _, rfl, SqL.of (R.bs.fh _ _ h), by rw [hl, gsl e, hg], d C Γ σ F H _ ds Γ' N R ⟨hl, q⟩ e k⟩
  | _ => cases e
theorem dn_lc {wi : TI} (hi : DI X.K cn W wi lv) : DN cn W X.K (tLc wi (tSemG X.K cn vs g) (tSemT X.K cn tv) (tSem X.K cn ev) vs) (eLc vs lv g tv ev) := fun C Γ σ F H Q R k => by
  refine hi C Γ σ F H _ R (k.bind.mono (fun p k J F1 H1 s1 R1 hJ => ?_) fun _ _ z => z)
  obtain ⟨ds, Γ1⟩ := p
  dsimp only at k R1 hJ
  intro D0 hD0
  by_cases hst : vs.all (fun i => stb (get Γ1 i)) = true
  · rw [if_pos hst] at k
    cases el : lcL g tv ev vs ds (wipeG Γ1 vs) 0 with
    | none => rw [el] at k; exact k.elim
    | some lp =>
      obtain ⟨L, Γe⟩ := lp
      rw [el] at k
      have k : NEnd X.K cn C σ F Q (D.lst L, restG Γ1 Γe vs) := k
      have st : ∀ i ∈ vs, stb (get Γ1 i) = true := List.all_eq_true.mp hst
      have hs : C.slf ≠ some D0 := fun z => by
        obtain ⟨_, o, q⟩ := R1.bs.si _ z
        rw [hD0] at q; cases q
      have h0 : C.H0 D0 = none := by
        cases q : C.H0 D0 with
        | none => rfl
        | some o => rw [R1.bs.h0 D0 o q hs] at hD0; cases hD0
      have f1 : F1 D0 = none := R1.bs.fh.free hD0
      have f0 : C.F0 D0 = none := by
        cases q : C.F0 D0 with
        | none => rfl
        | some o => rw [R1.bs.f0 _ _ q] at f1; cases f1
      have hb := R1.bs.b0
      have hsi := fun a h => (R1.bs.si a h).1
      have ex0 := Ext.new0 (o := HO.lst []) R1.bs.fh hD0
      refine ⟨fun i m H2 => m = ds.length - i ∧ i ≤ ds.length ∧ ∃ Γ2 F2 acc dacc l, Same F1 F2 ∧ RelS X.K cn C Γ2 (L2.wipe σ vs) F2 H2 ∧ H2 D0 = some (.lst acc) ∧ F2 D0 = none ∧ Reps X.K cn F2 acc dacc ∧
        (∀ (j : Nat) d', Γ2[j]? = some (.own d') → (L2.wipe σ vs)[j]? ≠ some (some (V.ref D0))) ∧ lcL g tv ev vs (ds.drop i) Γ2 dacc.length = some (l, Γe) ∧ L = dacc ++ l,
        ⟨ds.length, by simp, Nat.zero_le _, wipeG Γ1 vs, F1, [], [], L, Same.refl _, (R1.wipe vs).ext ex0, upd_same, f1, .nil, fun j d' h z => ?_, el, rfl⟩, ?_⟩
      · obtain ⟨a, e1, _, _, r⟩ := (R1.wipe vs).sl j _ h
        rw [join_some e1] at z
        cases z
        obtain ⟨o, ho⟩ := r.some
        rw [hD0] at ho; cases ho
      · rintro i m H2 ⟨rfl, hi, Γ2, F2, acc, dacc, l, s2, R2, hD2, fD2, racc, nD2, el2, eL⟩
        by_cases hlt : i < ds.length
        · refine .inr ?_
          obtain ⟨d, ed⟩ : ∃ d, ds[i]? = some d := ⟨ds[i], by simp [hlt]⟩
          obtain ⟨go, yl⟩ := (hJ i F2 H2 s2 R2.bs).1 d ed
          have edr : ds.drop i = d :: ds.drop (i + 1) := by
            rw [List.drop_eq_getElem_cons hlt]
            rw [List.getElem?_eq_getElem hlt] at ed
            cases ed; rfl
          rw [edr] at el2
          unfold lcL at el2
          refine ⟨go, fun H' => ∃ Γ3 F3 acc dacc l, Same F1 F3 ∧ RelS X.K cn C Γ3 (L2.wipe σ vs) F3 H' ∧ H' D0 = some (.lst acc) ∧ F3 D0 = none ∧ Reps X.K cn F3 acc dacc ∧
            (∀ (j : Nat) d', Γ3[j]? = some (.own d') → (L2.wipe σ vs)[j]? ≠ some (some (V.ref D0))) ∧ lcL g tv ev vs (ds.drop (i + 1)) Γ3 dacc.length = some (l, Γe) ∧ L = dacc ++ l, fun H' q => ⟨ds.length - (i + 1), by omega, rfl, hlt, q⟩, fun x H3 y => ?_⟩
          obtain ⟨F3, ex, rx⟩ := yl x H3 y
          have R3 := R2.ext ex
          have hD3 := ex.h _ _ hD2
          have fD3 : F3 D0 = none := ex.ne fD2 hD2
          have RC := R3.toD hD3 fD3 nD2 h0
          cases eg : g d Γ2 with
          | none => rw [eg] at el2; cases el2
          | some Γ3 =>
            rw [eg] at el2
            dsimp only at el2
            refine ⟨C.at D0 (.lst acc), Γ2, F3, d, Γ3, RC, rx, eg, fun σ2 F4 H4 s4 R4 hw => ⟨hw.trans wipe_wipe, C.at D0 (.lst acc), Γ3, F4, R4, ?_⟩⟩
            have hw2 : L2.wipe σ2 vs = L2.wipe σ vs := hw.trans wipe_wipe
            cases et : tv Γ3 with
            | bad => rw [et] at el2; cases el2
            | exc _ _ => rw [et] at el2; cases el2
            | ok p =>
              obtain ⟨b, Γ4⟩ := p
              rw [et] at el2
              intro F5 H5 s5 R5
              have fin : ∀ {Γ5 : Env} {F6 H6 : Hp}, Same F5 F6 → RelS X.K cn (C.at D0 (.lst acc)) Γ5 σ2 F6 H6 → RelS X.K cn C (wipeG Γ5 vs) (L2.wipe σ vs) F6 H6 ∧ H6 D0 = some (.lst acc) ∧ F6 D0 = none ∧ Same F1 F6 ∧ Reps X.K cn F6 acc dacc ∧ ∀ (j : Nat) d', (wipeG Γ5 vs)[j]? = some (.own d') → (L2.wipe σ vs)[j]? ≠ some (some (V.ref D0)) := fun {Γ5 F6 H6} s6 R6 => by
                obtain ⟨q1, q2, q3, q4⟩ := R6.ofD h0 f0 hs hb hsi
                have qw := R6.wipe vs
                rw [hw2] at qw
                obtain ⟨w1, w2, w3, w4⟩ := qw.ofD h0 f0 hs hb hsi
                exact ⟨w1, q2, q3, ((s2.trans ex.f).trans s4).trans (s5.trans s6), racc.mono ((ex.f.trans s4).trans (s5.trans s6)), w4⟩
              cases b with
              | false =>
                rw [if_neg Bool.false_ne_true]
                obtain ⟨w1, w2, w3, w4, w5, w6⟩ := fin (Same.refl _) R5
                exact ⟨wipeG Γ4 vs, F5, acc, dacc, l, w4, w1, w2, w3, w5, w6, el2, eL⟩
              | true =>
                rw [if_pos rfl]
                dsimp only at el2
                cases ee : ev Γ4 with
                | bad => rw [ee] at el2; cases el2
                | exc _ _ => rw [ee] at el2; cases el2
                | ok p =>
                  obtain ⟨xd, Γ5⟩ := p
                  rw [ee] at el2
                  dsimp only at el2
                  split at el2
                  · rename_i hz
                    cases er : lcL g tv ev vs (ds.drop (i + 1)) (wipeG Γ5 vs) (dacc.length + 1) with
                    | none => rw [er] at el2; cases el2
                    | some lp2 =>
                      obtain ⟨l2, Γx⟩ := lp2
                      rw [er] at el2
                      cases el2
                      refine ⟨C.at D0 (.lst acc), Γ4, F5, R5, ?_⟩
                      rw [ee]
                      intro v F6 H6 s6 R6 rv
                      obtain ⟨w1, w2, w3, w4, w5, w6⟩ := fin s6 R6
                      refine ⟨acc, w2, by rw [w5.1, ← sm]; exact hz, wipeG Γ5 vs, F6, acc ++ [v], dacc ++ [xd], l2, w4, w1.updD w3 w6 h0 hs, upd_same, w3, w5.app (.cons rv .nil), w6, by rw [List.length_append]; exact er, by rw [List.append_assoc]; exact eL⟩
                  · cases el2
        · have e : i = ds.length := by omega
          refine .inl ⟨(hJ i F2 H2 s2 R2.bs).2 (by omega), ?_⟩
          rw [List.drop_eq_nil_of_le (by omega)] at el2
          cases el2
          rw [List.append_nil] at eL
          subst eL
          refine k (.ref D0) F2 H2 (s1.trans s2) (R1.rest st s2 R2) ⟨D0, rfl, fD2, h0, ⟨acc, hD2, racc⟩, fun j d' h => ?_⟩
          rcases restG_get h with ⟨h1, h2⟩ | ⟨h1, h2⟩
          · have := st j h1
            rw [← h2] at this; cases this
          · have := nD2 j d' h2
            rw [wipe_ne h1] at this; exact this
  · rw [if_neg hst] at k; exact k.elim
/-- [elt for tg in iter if ..] -/
theorem jn_lc {elt tg iter : Expr} {ifs : List Expr} {scope : Scope} {own : List (Str × Nat)} (hv : own.map (·.2) = vs) (hc : X.calm = true) (hN : X.N.Nodup) (hi : JI X cn W tg iter lv) (ok : BlkOk X.N X.env.scope scope own)
    (hg : ∀ (s : Shared) (H : Hp) (C : Addr) (cl : List (Str × Addr)) (fp : List Addr), JGc (X.blk s H scope (compEnvC scope cl C X.env) fp) cn vs tg g) (ht : ∀ (s : Shared) (H : Hp) (C : Addr) (cl : List (Str × Addr)) (fp : List Addr), JTs (X.blk s H scope (compEnvC scope cl C X.env) fp) cn W0 ifs tv)
    (he : ∀ (s : Shared) (H : Hp) (C : Addr) (cl : List (Str × Addr)) (fp : List Addr), JE (X.blk s H scope (compEnvC scope cl C X.env) fp) cn W0 elt ev) (hs : ∀ x, foldedSetIterable iter X.env x = pure x := by intro _; rfl) :
    JN X cn W (.ListComp elt [⟨tg, iter, ifs, 0⟩] scope pos) (eLc vs lv g tv ev) := by
  subst hv
  obtain ⟨wi, p, d⟩ := hi
  exact ⟨_, pe_lc (te := tSem X.K cn ev) (tt := tSemT X.K cn tv) (g := tSemG X.K cn (own.map (·.2)) g) hc hN p ok (fun s H C cl fp => (hg s H C cl fp).sem) (fun s H C cl fp => (ht s H C cl fp).sem) (fun s H C cl fp => (he s H C cl fp).sem) hs, dn_lc d⟩
/-- name = [..], the name a local -/
theorem js_setLc {i : Nat} {y : Str} {py spos : Pos} {elt tg iter : Expr} {ifs : List Expr} {scope : Scope} {own : List (Str × Nat)} (hv : own.map (·.2) = vs) (hc : X.calm = true) (hN : X.N.Nodup) (hy : X.N[i]? = some y) (hyl : X.env.scope.names.lookup y = some .local)
    (hsw : swapsWith (.ListComp elt [⟨tg, iter, ifs, 0⟩] scope pos) (some (.Name y py)) spos.line X.env = pure true) (hi : JI X cn W tg iter lv) (ok : BlkOk X.N X.env.scope scope own)
    (hg : ∀ (s : Shared) (H : Hp) (C : Addr) (cl : List (Str × Addr)) (fp : List Addr), JGc (X.blk s H scope (compEnvC scope cl C X.env) fp) cn vs tg g) (ht : ∀ (s : Shared) (H : Hp) (C : Addr) (cl : List (Str × Addr)) (fp : List Addr), JTs (X.blk s H scope (compEnvC scope cl C X.env) fp) cn W0 ifs tv)
    (he : ∀ (s : Shared) (H : Hp) (C : Addr) (cl : List (Str × Addr)) (fp : List Addr), JE (X.blk s H scope (compEnvC scope cl C X.env) fp) cn W0 elt ev) (hs : ∀ x, foldedSetIterable iter X.env x = pure x := by intro _; rfl) :
    JS X cn W (.Assign [.Name y py] (.ListComp elt [⟨tg, iter, ifs, 0⟩] scope pos) spos) (sOwn i (eLc vs lv g tv ev)) := by
  subst hv
  obtain ⟨wi, p, d⟩ := hi
  refine ⟨_, ps_setLc (te := tSem X.K cn ev) (tt := tSemT X.K cn tv) (g := tSemG X.K cn (own.map (·.2)) g) hc hN hy hyl hsw p ok (fun s H C cl fp => (hg s H C cl fp).sem) (fun s H C cl fp => (ht s H C cl fp).sem) (fun s H C cl fp => (he s H C cl fp).sem) hs, fun C Γ σ F H Dn R k => ?_⟩
  exact dn_lc (cn := cn) (W := W) d C Γ σ F H _ R (k.bind.mono (fun p k v F' H' s r rv => k _ F' H' s (r.setO rv)) fun _ _ z => z)
end
end Ed

set_option autoImplicit true
set_option Elab.async false
set_option linter.all false
set_option maxRecDepth 100000
set_option maxHeartbeats 4000000
set_option autoImplicit false
/-! more operations -/
namespace Ed
open PySem L2
section
variable {X : Cx} {cn : Cn} {W : WX} {a b c e : Expr} {es rest : List Expr} {pos : Pos} {ea eb ec : EV} {qa qb qc : QV} {ta tb : TV} {av : AV} {lv : LV} {st : Stmt}
theorem js_never : JS X cn W st sBad := ⟨_, ps_never, fun C Γ σ F H Dn R k => k.elim⟩
theorem je_bad : PE X e (fun _ _ _ => False) → JE X cn W e (fun _ => .bad) := fun p => ⟨_, p, fun C Γ σ F H Q R k => k.elim⟩
/-! and, or, not, as values -/
theorem je_one {op : BoolOp} (h : JE X cn W a ea) : JE X cn W (.BoolOp op [a] pos) ea := by
  obtain ⟨t, p, d⟩ := h
  exact ⟨t, pe_one p, d⟩
theorem je_and (h : JE X cn W a ea) (h2 : JE X cn W (.BoolOp .And (b :: rest) pos) eb) : JE X cn W (.BoolOp .And (a :: b :: rest) pos) (eAndV ea eb) := by
  obtain ⟨t1, p1, d1⟩ := h
  obtain ⟨t2, p2, d2⟩ := h2
  refine ⟨_, pe_and p1 p2, fun C Γ σ F H Q R k => ?_⟩
  refine d1 C Γ σ F H _ R (k.bind.mono (fun p k v F' H' s1 R1 hv => ?_) fun _ _ z => z)
  obtain ⟨x, Γ1⟩ := p
  cases x with
  | bl z =>
    cases hv
    refine ⟨z, rfl, ?_⟩
    cases z with
    | true =>
      rw [if_pos rfl]
      exact d2 C Γ1 σ F' H' Q R1 (Post.mono (P := EEnd X.K cn C σ F Q) (W := XW X.K cn C F W) k (fun p k v F2 H2 s r rv => k v F2 H2 (s1.trans s) r rv) fun _ _ z => XW.up s1 z)
    | false =>
      rw [if_neg Bool.false_ne_true]
      exact k _ F' H' s1 R1 (.bl _)
  | _ => exact k.elim
theorem je_or (h : JE X cn W a ea) (h2 : JE X cn W (.BoolOp .Or (b :: rest) pos) eb) : JE X cn W (.BoolOp .Or (a :: b :: rest) pos) (eOrV ea eb) := by
  obtain ⟨t1, p1, d1⟩ := h
  obtain ⟨t2, p2, d2⟩ := h2
  refine ⟨_, pe_or p1 p2, fun C Γ σ F H Q R k => ?_⟩
  refine d1 C Γ σ F H _ R (k.bind.mono (fun p k v F' H' s1 R1 hv => ?_) fun _ _ z => z)
  obtain ⟨x, Γ1⟩ := p
  cases x with
  | bl z =>
    cases hv
    refine ⟨z, rfl, ?_⟩
    cases z with
    | false =>
      rw [if_neg Bool.false_ne_true]
      exact d2 C Γ1 σ F' H' Q R1 (Post.mono (P := EEnd X.K cn C σ F Q) (W := XW X.K cn C F W) k (fun p k v F2 H2 s r rv => k v F2 H2 (s1.trans s) r rv) fun _ _ z => XW.up s1 z)
    | true =>
      rw [if_pos rfl]
      exact k _ F' H' s1 R1 (.bl _)
  | _ => exact k.elim
theorem je_not (h : JE X cn W a ea) : JE X cn W (.UnaryOp .Not a pos) (eNotV ea) := by
  obtain ⟨t1, p1, d1⟩ := h
  refine ⟨_, pe_not p1, fun C Γ σ F H Q R k => ?_⟩
  refine d1 C Γ σ F H _ R (k.bind.mono (fun p k v F' H' s1 R1 hv => ?_) fun _ _ z => z)
  obtain ⟨x, Γ1⟩ := p
  cases x with
  | bl z =>
    cases hv
    exact ⟨z, rfl, k _ F' H' s1 R1 (.bl _)⟩
  | _ => exact k.elim
/-! a op b op' c -/
theorem dchain {t1 t2 t3 : TE} {r r' : R2} {f f' : D → D → Option D} (h : R2D X.K cn r f) (h' : R2D X.K cn r' f') (h1 : DQ cn W X.K t1 qa) (h2 : DQ cn W X.K t2 qb) (h3 : DQ cn W X.K t3 qc) (hb : ∀ x y d, f x y = some d → ∃ k, d = .bl k) : DE cn W X.K (tChain r r' t1 t2 t3) (eChain f f' qa qb qc) := fun C Γ σ F H Q R k => by
  refine h1 C Γ σ F H _ R (k.bind.mono (fun p k v F' H' s1 R1 hv => ?_) fun _ _ z => z)
  refine h2 C p.2 σ F' H' _ R1 (k.bind.mono (fun q k w F2 H2 s2 R2 hw => ?_) fun _ _ z => XW.up s1 z)
  cases e1 : rd q.2 p.1 with
  | none => simp only [e1] at k; exact k.elim
  | some d1 =>
    cases e2 : rd q.2 q.1 with
    | none => simp only [e1, e2] at k; exact k.elim
    | some d2 =>
      simp only [e1, e2] at k
      cases e3 : f d1 d2 with
      | none => rw [e3] at k; exact k.elim
      | some d3 =>
        obtain ⟨kk, rfl⟩ := hb _ _ _ e3
        rw [e3] at k
        refine h F2 H2 v w d1 d2 _ _ R2.bs.fh (R2.rd e1 (hv.mono s2)) (R2.rd e2 hw) e3 fun z F3 H3 ex rz => ?_
        cases rz
        refine ⟨kk, rfl, ?_⟩
        have R3 := R2.ext ex
        have s3 := (s1.trans s2).trans ex.f
        cases kk with
        | false => rw [if_neg Bool.false_ne_true]; exact k _ F3 H3 s3 R3 (.bl _)
        | true =>
          rw [if_pos rfl]
          refine h3 C q.2 σ F3 H3 _ R3 (k.bind.mono (fun r k u F4 H4 s4 R4 hu => ?_) fun _ _ z => XW.up s3 z)
          cases e4 : rd r.2 q.1 with
          | none => simp only [e4] at k; exact k.elim
          | some y' =>
            cases e5 : rd r.2 r.1 with
            | none => simp only [e4, e5] at k; exact k.elim
            | some z' =>
              simp only [e4, e5] at k
              obtain ⟨zz, e6, k⟩ := k.bind.of
              exact h' F4 H4 w u y' z' zz Q R4.bs.fh (R4.rd e4 ((hw.mono ex.f).mono s4)) (R4.rd e5 hu) e6 fun zv F5 H5 ex2 rz => k zv F5 H5 ((s3.trans s4).trans ex2.f) (R4.ext ex2) rz
theorem je_chain {op op' : CmpOp} {r r' : R2} {f f' : D → D → Option D} (ho : OpR X (compareOp op) r) (h : R2D X.K cn r f) (hb : ∀ x y d, f x y = some d → ∃ k, d = .bl k) (ho' : OpR X (compareOp op') r') (h' : R2D X.K cn r' f') (h1 : JQ X cn W a qa) (h2 : JQ X cn W b qb) (h3 : JQ X cn W c qc)
    (hm : lastMarks [op, op'] [b, c] = false := by with_unfolding_all rfl) : JE X cn W (.Compare a [op, op'] [b, c] pos) (eChain f f' qa qb qc) := by
  obtain ⟨t1, p1, d1⟩ := h1
  obtain ⟨t2, p2, d2⟩ := h2
  obtain ⟨t3, p3, d3⟩ := h3
  exact ⟨_, pe_chain ho ho' p1 p2 p3 hm, dchain h h' d1 d2 d3 hb⟩
theorem bl_lt : ∀ x y d, dLt x y = some d → ∃ k, d = .bl k := fun x y d e => by cases x <;> cases y <;> first | (cases e; exact ⟨_, rfl⟩) | cases e
theorem bl_le : ∀ x y d, dLe x y = some d → ∃ k, d = .bl k := fun x y d e => by cases x <;> cases y <;> first | (cases e; exact ⟨_, rfl⟩) | cases e
theorem bl_eq : ∀ x y d, dEq x y = some d → ∃ k, d = .bl k := fun x y d e => by
  unfold dEq at e
  split at e
  · cases e; exact ⟨_, rfl⟩
  · cases e
/-! statements -/
theorem js_par {i j : Nat} {x y : Str} {px py pt : Pos} {kt k2 : Nat} {pt2 : Pos} (hc : X.calm = true) (hN : X.N.Nodup) (hi : X.N[i]? = some x) (hj : X.N[j]? = some y) (hij : i ≠ j)
    (hx : X.env.scope.names.lookup x = some .local) (hy : X.env.scope.names.lookup y = some .local) (h1 : JE X cn W a ea) (h2 : JE X cn W b eb)
    (hw : swappedStores [.Tuple [.Name x px, .Name y py] kt pt] (.Tuple [a, b] k2 pt2) X.env = pure (some [x, y]))
    (hs1 : starEach [a, b] X.env = (false, eval a X.env) :: starEach [b] X.env := by rfl) (hs2 : starEach [b] X.env = (false, eval b X.env) :: starEach [] X.env := by rfl)
    (hs : swapsWithSole [.Tuple [.Name x px, .Name y py] kt pt] (.Tuple [a, b] k2 pt2) pos.line X.env = pure false := by rfl) :
    JS X cn W (.Assign [.Tuple [.Name x px, .Name y py] kt pt] (.Tuple [a, b] k2 pt2) pos) (sPar i j ea eb) := by
  obtain ⟨t1, p1, d1⟩ := h1
  obtain ⟨t2, p2, d2⟩ := h2
  refine ⟨_, ps_par hc hN hi hj hij hx hy (pa_cons p1 (pa_cons p2 pa_nil hs2) hs1) hw hs, fun C Γ σ F H Dn R k => ?_⟩
  refine d1 C Γ σ F H _ R (k.bind.mono (fun p k v F' H' s1 R1 hv => ?_) fun _ _ z => z)
  refine d2 C p.2 σ F' H' _ R1 (k.bind.mono (fun q k w F2 H2 s2 R2 hw => ?_) fun _ _ z => XW.up s1 z)
  exact ⟨v, w, rfl, k _ F2 H2 (s1.trans s2) ((R2.setV (hv.mono s2)).setV hw)⟩
/-- xs[j] = e, xs owned -/
theorem js_puti (i : Nat) {x : Str} {px ps : Pos} (he : JE X cn W e ea) (h2 : JQ X cn W b qb) (hN : X.N[i]? = some x := by rfl) (hv : Vis X.env.scope x := by first | exact Or.inl rfl | exact Or.inr (Or.inl rfl) | exact Or.inr (Or.inr rfl)) (hd : (x == ("__debug__" : Str)) = false := by decide)
    (hcd : (x == ("__classdict__" : Str)) = false := by decide)
    (ha : ∀ v, assign (.Subscript (.Name x px) b ps) X.env v = (do
      let ov ← holding [v] (eval (.Name x px) X.env)
      let iv ← holding [v, ov] (eval b X.env)
      standAt ps
      holding [v, ov, iv] (setItem ov iv v)
      release [v, ov, iv] []) := by intro _; rfl)
    (hs : swapsWithSole [.Subscript (.Name x px) b ps] e pos.line X.env = pure false := by rfl) (hw : swappedStores [.Subscript (.Name x px) b ps] e X.env = pure none := by rfl)
    (h1 : (assignEach [.Subscript (.Name x px) b ps] X.env).map (·.2) = [assign (.Subscript (.Name x px) b ps) X.env] := by rfl) : JS X cn W (.Assign [.Subscript (.Name x px) b ps] e pos) (sPutI i qb ea) := by
  obtain ⟨t1, p1, d1⟩ := he
  obtain ⟨t2, p2, d2⟩ := h2
  refine ⟨_, ps_asg p1 (pg_sub (pe_var hN hv hd hcd) p2 set_list ha) hs hw h1, fun C Γ σ F H Dn R k => ?_⟩
  refine d1 C Γ σ F H _ R (k.bind.mono (fun p k v F' H' s1 R1 hv => ?_) fun _ _ z => z)
  obtain ⟨d, Γ1⟩ := p
  dsimp only at k R1 hv
  cases q : look (get Γ1 i) with
  | none => rw [q] at k; exact k.elim
  | some x0 =>
    rw [q] at k
    obtain ⟨v0, e0, _⟩ := R1.read q
    refine ⟨v0, e0, ?_⟩
    refine d2 C Γ1 σ F' H' _ R1 (k.bind.mono (fun q k w F2 H2 s2 R2 hw => ?_) fun _ _ z => XW.up s1 z)
    obtain ⟨pv, Γ2⟩ := q
    dsimp only at k R2 hw
    cases e1 : rd Γ2 pv with
    | none => simp only [e1] at k; exact k.elim
    | some dj =>
      cases dj with
      | int kk =>
        cases g : get Γ2 i with
        | own dd =>
          cases dd with
          | lst xs =>
            simp only [e1, g] at k
            cases em : Ed.ixN xs.length kk with
            | none => rw [em] at k; exact k.elim
            | some m =>
              rw [em] at k
              dsimp only at k
              obtain ⟨a, e2, n, n0, ws, hws, rws⟩ := R2.at g (fun z => by cases z)
              have e3 := join_some e2
              rw [e0] at e3
              cases e3
              have rj := R2.rd e1 hw
              refine ⟨a, ws, kk, m, rfl, rj.int, hws, ?_, ?_⟩
              · rw [rws.1]
                rw [← em]
                unfold Ed.ixN L2.ixN
                by_cases h : 0 ≤ kk
                · rw [if_pos h, if_pos h]
                · rw [if_neg h, if_neg h, Int.add_comm]
              · refine k σ F2 _ (s1.trans s2) (R2.mut g e0 ?_)
                exact ⟨_, upd_same, rws.set (hv.mono s2)⟩
          | _ => simp only [e1, g] at k; exact k.elim
        | _ => simp only [e1, g] at k; exact k.elim
      | _ => simp only [e1] at k; exact k.elim
/-! lists and tuples made of others; sums -/
theorem r_listof : RCN X.K cn (fun xs H Q => ∃ p ys, xs = [.ref p] ∧ (SqL X.K H p ys ∨ SqT X.K H p ys) ∧ ∀ l, H l = none → Q (.ref l) (upd H l (.lst ys))) (o1 dLst) := rn1 fun F H x dx d Q s hx e k => by
  cases dx with
  | lst xs => cases e; obtain ⟨a, vs, rfl, h, r⟩ := hx; exact ⟨a, vs, rfl, .inl (SqL.of h), fun l hl => k l vs xs rfl hl r⟩
  | tup xs => cases e; obtain ⟨a, vs, rfl, h, r⟩ := hx.tup s; exact ⟨a, vs, rfl, .inr h, fun l hl => k l vs xs rfl hl r⟩
  | _ => cases e
theorem r_tupleof : RCD X.K cn (fun xs H Q => ∃ p ys, xs = [.ref p] ∧ ((SqL X.K H p ys ∧ ∀ l, H l = none → Q (.ref l) (upd H l (.tup ys))) ∨ (SqT X.K H p ys ∧ Q (.ref p) H))) (o1 dTup) := rc1 fun F H x dx d Q s hx e k => by
  cases dx with
  | lst xs =>
    cases e
    obtain ⟨a, vs, rfl, h, r⟩ := hx
    refine ⟨a, vs, rfl, .inl ⟨SqL.of h, fun l hl => ?_⟩⟩
    have ex := Ext.new (o := HO.tup vs) s hl
    exact k _ _ _ ex (.tup (SqT.of upd_same) (r.mono ex.f).1 (r.mono ex.f).2)
  | tup xs => cases e; obtain ⟨a, vs, rfl, h, r⟩ := hx.tup s; exact ⟨a, vs, rfl, .inr ⟨h, k _ F H (ext0 s) hx⟩⟩
  | _ => cases e
theorem ints_ok {F : Hp} : ∀ (xs : List D) (vs : List V) (ns : List Int), intsL xs = some ns → Reps X.K cn F vs xs → vs = ns.map V.int
  | [], vs, ns, e, r => by cases e; exact r.inv0
  | x :: xs, vs, ns, e, r => by
    obtain ⟨v, vs', rfl, r1, r2⟩ := r.inv
    cases x with
    | int i =>
      have e : (intsL xs).map (i :: ·) = some ns := e
      cases q : intsL xs with
      | none => rw [q] at e; cases e
      | some ms =>
        rw [q] at e; cases e
        cases r1
        rw [ints_ok xs vs' ms q r2]; rfl
    | _ => cases e
theorem bools_ok {F : Hp} : ∀ (xs : List D) (vs : List V) (ns : List Bool), boolsL xs = some ns → Reps X.K cn F vs xs → vs = ns.map V.bl
  | [], vs, ns, e, r => by cases e; exact r.inv0
  | x :: xs, vs, ns, e, r => by
    obtain ⟨v, vs', rfl, r1, r2⟩ := r.inv
    cases x with
    | bl i =>
      have e : (boolsL xs).map (i :: ·) = some ns := e
      cases q : boolsL xs with
      | none => rw [q] at e; cases e
      | some ms =>
        rw [q] at e; cases e
        cases r1
        rw [bools_ok xs vs' ms q r2]; rfl
    | _ => cases e
theorem r_sum : RCD X.K cn (rSum X.K) (o1 dSum) := rc1 fun F H x dx d Q s hx e k => by
  cases dx with
  | lst xs =>
    have e : (intsL xs).map (fun ns => D.int ns.sum) = some d := e
    cases q : intsL xs with
    | none => rw [q] at e; cases e
    | some ns =>
      rw [q] at e; cases e
      obtain ⟨a, vs, rfl, h, r⟩ := hx
      rw [ints_ok xs vs ns q r] at h
      exact ⟨a, ns, rfl, SqL.of h, k _ F H (ext0 s) (.int _)⟩
  | _ => cases e
theorem r_all : RCD X.K cn (rAll X.K) (o1 dAll) := rc1 fun F H x dx d Q s hx e k => by
  cases dx with
  | lst xs =>
    have e : (boolsL xs).map (fun ns => D.bl (ns.all id)) = some d := e
    cases q : boolsL xs with
    | none => rw [q] at e; cases e
    | some ns =>
      rw [q] at e; cases e
      obtain ⟨a, vs, rfl, h, r⟩ := hx
      rw [bools_ok xs vs ns q r] at h
      exact ⟨a, ns, rfl, SqL.of h, k _ F H (ext0 s) (.bl _)⟩
  | _ => cases e
theorem r_any : RCD X.K cn (rAny X.K) (o1 dAny) := rc1 fun F H x dx d Q s hx e k => by
  cases dx with
  | lst xs =>
    have e : (boolsL xs).map (fun ns => D.bl (ns.any id)) = some d := e
    cases q : boolsL xs with
    | none => rw [q] at e; cases e
    | some ns =>
      rw [q] at e; cases e
      obtain ⟨a, vs, rfl, h, r⟩ := hx
      rw [bools_ok xs vs ns q r] at h
      exact ⟨a, ns, rfl, SqL.of h, k _ F H (ext0 s) (.bl _)⟩
  | _ => cases e
theorem two_ok {F H : Hp} {vs : List V} {d1 d2 : D} (p : Paired (fun v d => Shal X.K cn F H v d) vs [d1, d2]) : ∃ v1 v2, vs = [v1, v2] ∧ Shal X.K cn F H v1 d1 ∧ Shal X.K cn F H v2 d2 := by
  cases p with
  | cons h1 t => cases t with
    | cons h2 t => cases t; exact ⟨_, _, rfl, h1, h2⟩
theorem int2_cases {f : List D → Option D} {ds : List D} {d : D} (h : f ds = some d) (h0 : ∀ ds, (∀ i j, ds ≠ [.int i, .int j]) → f ds = none) : ∃ i j, ds = [.int i, .int j] := by
  by_cases q : ∃ i j, ds = [.int i, .int j]
  · exact q
  · rw [h0 ds fun i j z => q ⟨i, j, z⟩] at h; cases h
theorem r_max2 : RCD X.K cn (fun xs H Q => ∃ i j, xs = [.int i, .int j] ∧ Q (.int (if j > i then j else i)) H) dMax2 := fun F H vs ds d Q s p e k => by
  obtain ⟨i, j, rfl⟩ := int2_cases e (fun ds h => by unfold dMax2; split <;> first | exact absurd rfl (h _ _) | rfl)
  obtain ⟨v1, v2, rfl, h1, h2⟩ := two_ok p
  cases e
  exact ⟨i, j, by rw [h1.int, h2.int], k _ F H (ext0 s) (.int _)⟩
theorem r_min2 : RCD X.K cn (fun xs H Q => ∃ i j, xs = [.int i, .int j] ∧ Q (.int (if j < i then j else i)) H) dMin2 := fun F H vs ds d Q s p e k => by
  obtain ⟨i, j, rfl⟩ := int2_cases e (fun ds h => by unfold dMin2; split <;> first | exact absurd rfl (h _ _) | rfl)
  obtain ⟨v1, v2, rfl, h1, h2⟩ := two_ok p
  cases e
  exact ⟨i, j, by rw [h1.int, h2.int], k _ F H (ext0 s) (.int _)⟩
theorem r_gcd : RCD X.K cn rGcd dGcd := fun F H vs ds d Q s p e k => by
  obtain ⟨i, j, rfl⟩ := int2_cases e (fun ds h => by unfold dGcd; split <;> first | exact absurd rfl (h _ _) | rfl)
  obtain ⟨v1, v2, rfl, h1, h2⟩ := two_ok p
  cases e
  exact ⟨i, j, by rw [h1.int, h2.int], k _ F H (ext0 s) (.int _)⟩
theorem je_gcd {x : Str} {p : Pos} (hg : Gl X x) (hm : X.mg x = some (.builtin "math.gcd")) (ha : JA X cn W (e :: es) av) (hdb : (x == ("__debug__" : Str)) = false := by decide)
    (he : starEach (e :: es) X.env = (false, eval e X.env) :: starEach es X.env := by rfl) (hpl : (backTo pos (starEach es X.env)).any (·.1) = false := by rfl) : JE X cn W (.Call (.Name x p) (e :: es) [] pos) (eF dGcd av) := by
  obtain ⟨t, pa, d⟩ := ha
  exact ⟨_, pe_callBfun cr_gcd hg hm pa hdb he hpl, de_F (r := rGcd) r_gcd d⟩
theorem max_of {n : Int} : ∀ (ns : List Int) (n : Int), (ns.foldl max n) ∈ n :: ns ∧ ∀ y ∈ n :: ns, y ≤ ns.foldl max n
  | [], n => ⟨by simp, by simp⟩
  | m :: ns, n => by
    obtain ⟨h1, h2⟩ := max_of (n := n) ns (max n m)
    rw [List.foldl_cons]
    refine ⟨?_, fun y hy => ?_⟩
    · rcases List.mem_cons.mp h1 with h | h
      · rw [h]
        rcases Int.le_total n m with q | q
        · rw [Int.max_eq_right q]; simp
        · rw [Int.max_eq_left q]; simp
      · simp [h]
    · have := h2 (max n m) (by simp)
      rcases List.mem_cons.mp hy with rfl | hy
      · exact Int.le_trans (Int.le_max_left _ _) this
      · rcases List.mem_cons.mp hy with rfl | hy
        · exact Int.le_trans (Int.le_max_right _ _) this
        · exact h2 y (by simp [hy])
theorem min_of {n : Int} : ∀ (ns : List Int) (n : Int), (ns.foldl min n) ∈ n :: ns ∧ ∀ y ∈ n :: ns, ns.foldl min n ≤ y
  | [], n => ⟨by simp, by simp⟩
  | m :: ns, n => by
    obtain ⟨h1, h2⟩ := min_of (n := n) ns (min n m)
    rw [List.foldl_cons]
    refine ⟨?_, fun y hy => ?_⟩
    · rcases List.mem_cons.mp h1 with h | h
      · rw [h]
        rcases Int.le_total n m with q | q
        · rw [Int.min_eq_left q]; simp
        · rw [Int.min_eq_right q]; simp
      · simp [h]
    · have := h2 (min n m) (by simp)
      rcases List.mem_cons.mp hy with rfl | hy
      · exact Int.le_trans this (Int.min_le_left _ _)
      · rcases List.mem_cons.mp hy with rfl | hy
        · exact Int.le_trans this (Int.min_le_right _ _)
        · exact h2 y (by simp [hy])
theorem r_maxL : RCD X.K cn (rMax X.K) (o1 dMaxL) := rc1 fun F H x dx d Q s hx e k => by
  cases dx with
  | lst xs =>
    have e : ((intsL xs).bind fun ns => (maxL ns).map D.int) = some d := e
    cases q : intsL xs with
    | none => rw [q] at e; cases e
    | some ns =>
      rw [q] at e
      cases ns with
      | nil => cases e
      | cons n ns =>
        cases e
        obtain ⟨a, vs, rfl, h, r⟩ := hx
        rw [ints_ok xs vs _ q r] at h
        refine ⟨a, n :: ns, rfl, SqL.of h, by simp, fun m hm hy => ?_⟩
        obtain ⟨h1, h2⟩ := max_of (n := n) ns n
        have : m = ns.foldl max n := Int.le_antisymm (h2 m hm) (hy _ h1)
        rw [this]; exact k _ F H (ext0 s) (.int _)
  | _ => cases e
theorem r_minL : RCD X.K cn (rMin X.K) (o1 dMinL) := rc1 fun F H x dx d Q s hx e k => by
  cases dx with
  | lst xs =>
    have e : ((intsL xs).bind fun ns => (minL ns).map D.int) = some d := e
    cases q : intsL xs with
    | none => rw [q] at e; cases e
    | some ns =>
      rw [q] at e
      cases ns with
      | nil => cases e
      | cons n ns =>
        cases e
        obtain ⟨a, vs, rfl, h, r⟩ := hx
        rw [ints_ok xs vs _ q r] at h
        refine ⟨a, n :: ns, rfl, SqL.of h, by simp, fun m hm hy => ?_⟩
        obtain ⟨h1, h2⟩ := min_of (n := n) ns n
        have : m = ns.foldl min n := Int.le_antisymm (hy _ h1) (h2 m hm)
        rw [this]; exact k _ F H (ext0 s) (.int _)
  | _ => cases e
/-! f-strings -/
theorem je_fmt (h : JQ X cn W a qa) : JE X cn W (.FormattedValue a (-1) none pos) (eU dTxt qa) := by
  obtain ⟨t1, p1, d1⟩ := h
  refine ⟨_, pe_fmt p1, de_U (r := fun x H Q => (∃ y : Str, x = .str y ∧ y.length ≤ sizeLine ∧ Q (.str y) H) ∨ ∃ i : Int, x = .int i ∧ i.natAbs.log2 < 1920 ∧ Q (.str (toString i)) H) (fun F H x dx d Q s hx e k => ?_) d1⟩
  cases dx with
  | str z =>
    have e : (if z.length ≤ seqMax then some (D.str z) else none) = some d := e
    split at e
    · rename_i hz; cases e; exact .inl ⟨z, hx.str, by rw [← sm]; exact hz, k _ F H (ext0 s) (.str _)⟩
    · cases e
  | int i =>
    have e : (if i.natAbs < 2 ^ 1900 then some (D.str (toString i)) else none) = some d := e
    split at e
    · rename_i hz; cases e; exact .inr ⟨i, hx.int, Nat.lt_of_lt_of_le (log2_of hz (by decide)) (by decide), k _ F H (ext0 s) (.str _)⟩
    · cases e
  | _ => cases e
/-- the parts -/
def JF (X : Cx) (cn : Cn) (W : WX) (es : List Expr) (l : List EV) : Prop := ∃ ts, PJ X es ts ∧ ∀ acc C Γ σ F H (Q : Str → Hp → Prop), RelS X.K cn C Γ σ F H → Post (eJs l acc Γ) (fun p => ∀ F' H', Same F F' → RelS X.K cn C p.2 σ F' H' → ∀ s, p.1 = .str s → Q s H') (XW X.K cn C F W) → tJs ts acc σ H Q
theorem jf_nil : JF X cn W [] [] := ⟨_, .nil, fun acc C Γ σ F H Q R k => k F H (Same.refl _) R acc rfl⟩
theorem jf_cons {l : List EV} (h : JE X cn W e ea) (h2 : JF X cn W es l) : JF X cn W (e :: es) (ea :: l) := by
  obtain ⟨t, p, d⟩ := h
  obtain ⟨ts, p2, d2⟩ := h2
  refine ⟨_, .cons p p2, fun acc C Γ σ F H Q R k => ?_⟩
  refine d C Γ σ F H _ R (k.bind.mono (fun p k v F' H' s1 R1 hv => ?_) fun _ _ z => z)
  obtain ⟨x, Γ1⟩ := p
  cases x with
  | str y =>
    cases hv
    dsimp only at k
    split at k
    · rename_i hz
      refine ⟨y, rfl, by rw [← sm]; exact hz, d2 (acc ++ y) C Γ1 σ F' H' Q R1 (Post.mono (P := fun p => ∀ F' H', Same F F' → RelS X.K cn C p.2 σ F' H' → ∀ s, p.1 = .str s → Q s H') (W := XW X.K cn C F W) k (fun p k F2 H2 s r z q => k F2 H2 (s1.trans s) r z q) fun _ _ z => XW.up s1 z)⟩
    · exact k.elim
  | _ => exact k.elim
theorem eJs_str : ∀ (l : List EV) (acc : Str) (Γ : Env) (p : D × Env), eJs l acc Γ = .ok p → ∃ s, p.1 = .str s
  | [], acc, Γ, p, h => by cases h; exact ⟨_, rfl⟩
  | e :: l, acc, Γ, p, h => by
    unfold eJs at h
    cases q : e Γ with
    | bad => rw [q] at h; cases h
    | exc _ _ => rw [q] at h; cases h
    | ok r =>
      rw [q] at h
      obtain ⟨x, Γ1⟩ := r
      have h : (match x with | .str y => if (acc ++ y).length ≤ seqMax then eJs l (acc ++ y) Γ1 else .bad | _ => .bad) = .ok p := h
      cases x with
      | str y =>
        dsimp only at h
        split at h
        · exact eJs_str l _ _ _ h
        · cases h
      | _ => cases h
theorem je_joined {v1 v2 : Expr} {l : List EV} (h : JF X cn W (v1 :: v2 :: rest) l) : JE X cn W (.JoinedStr (v1 :: v2 :: rest) pos) (eJs l Str.empty) := by
  obtain ⟨ts, p, d⟩ := h
  refine ⟨_, pe_joined p, fun C Γ σ F H Q R k => d _ C Γ σ F H _ R (k.mono (fun p k F' H' s r z hz => ?_) fun _ _ z => z)⟩
  obtain ⟨x, Γ1⟩ := p
  cases hz
  exact k _ F' H' s r (.str z)
theorem je_joined1 {v1 : Expr} (h : JE X cn W v1 ea) : JE X cn W (.JoinedStr [v1] pos) ea := by
  obtain ⟨t, p, d⟩ := h
  exact ⟨_, pe_joined1 p, d⟩
end
end Ed

set_option autoImplicit true
set_option Elab.async false
set_option linter.all false
set_option maxRecDepth 100000
set_option maxHeartbeats 4000000
set_option autoImplicit false
/-! in an except suite; isinstance of own classes -/
namespace Ed
open PySem L2
section
variable {X : Cx} {cn : Cn} {W : WX} {pos : Pos}
theorem eX_at {K : PySem.W.Frag} {C : Ct} {Γ : Env} {σ : St} {F H : Hp} {i : Nat} {x : Xc} (R : RelS K cn C Γ σ F H) (g : get Γ i = .exn x) {a0 : Addr} {cls : Value} {od : Option Addr} (hx : cn.ex = some (a0, cls, od)) : σ[i]? = some (some (.ref a0)) ∧ RepX K cn F cls od x := by
  obtain ⟨a1, e1, q1⟩ := R.at g (fun z => by cases z)
  obtain ⟨h1, h2⟩ := q1 _ _ _ hx
  subst h1
  exact ⟨join_some e1, h2⟩
/-- err.f in an except suite -/
theorem je_xf {i f : Nat} {cs : List Nat} {a0 : Addr} {oe : Obj} {cls : Value} {od : Option Addr} {pn : List (Addr × Obj)} {n m : Str} {pos2 : Pos} (hx0 : cn.ex = some (a0, cls, od)) (hz : Zc cls od oe) (hf : ∃ vs, oe.data = .fields vs)
    (T : ∀ c, cs.contains c = true → XfC X.K (cn.ca c) ∧ PySem.W.findIn X.K (.ref (cn.ca c)) n = some none) (hn : cn.fa f = n)
    (hN : X.N[i]? = some m := by rfl) (hv : Vis X.env.scope m := by first | exact Or.inl rfl | exact Or.inr (Or.inl rfl) | exact Or.inr (Or.inr rfl)) (hd : (m == ("__debug__" : Str)) = false := by decide)
    (hcd : (m == ("__classdict__" : Str)) = false := by decide) (hb : attributeBase (.Name m pos) n X.env (eval (.Name m pos) X.env) = eval (.Name m pos) X.env := by rfl) : JE (X.suite a0 ((a0, oe) :: pn)) cn W (.Attribute (.Name m pos) n pos2) (eXf cs i f) := by
  by_cases h : ∃ c, cs.contains c = true ∧ cls = .ref (cn.ca c)
  · obtain ⟨c, hc, rfl⟩ := h
    obtain ⟨T1, T2⟩ := T c hc
    refine ⟨_, pe_xf T1 T2 hz hf (pe_var (X := X.suite a0 ((a0, oe) :: pn)) (i := i) (x := m) (pos := pos) hN hv hd hcd) hb, fun C Γ σ F H Q R k => ?_⟩
    unfold eXf at k
    cases g : get Γ i with
    | exn x =>
      rw [g] at k
      dsimp only at k
      by_cases hcc : cs.contains x.c = true
      · rw [if_pos hcc] at k
        cases el : x.fs.lookup f with
        | none => rw [el] at k; exact k.elim
        | some d =>
          rw [el] at k
          obtain ⟨e1, rx⟩ := eX_at R g hx0
          refine ⟨_, e1, rfl, rfl, ?_⟩
          rcases rx.2 with ⟨h0, _⟩ | ⟨dd, fvs, h1, h2, _, h3⟩
          · rw [h0] at el; cases el
          · obtain ⟨v, hv1, hv2⟩ := h3 f d el
            exact ⟨dd, fvs, v, h1, R.bs.fh _ _ h2, by rw [← hn]; exact hv1, k v F H (Same.refl _) R hv2⟩
      · rw [if_neg hcc] at k; exact k.elim
    | _ => rw [g] at k; exact k.elim
  · refine ⟨fun _ _ _ => False, ⟨fun _ _ _ _ _ _ z => z.elim⟩, fun C Γ σ F H Q R k => ?_⟩
    unfold eXf at k
    cases g : get Γ i with
    | exn x =>
      rw [g] at k
      dsimp only at k
      by_cases hcc : cs.contains x.c = true
      · obtain ⟨e1, rx⟩ := eX_at R g hx0
        exact h ⟨x.c, hcc, rx.1⟩
      · rw [if_neg hcc] at k; exact k.elim
    | _ => rw [g] at k; exact k.elim
/-- isinstance(err, D) in an except suite -/
theorem je_isE {i : Nat} {is : Nat → Option Bool} {a0 : Addr} {oe : Obj} {cls : Value} {od : Option Addr} {pn : List (Addr × Obj)} {m : Str} {b : Expr} {p p1 : Pos} {v : V} {u : Value} (hx0 : cn.ex = some (a0, cls, od)) (hz : Zc cls od oe) (hf : ∃ vs, oe.data = .fields vs)
    (hg : Gl X "isinstance") (hm : X.mg "isinstance" = none) (h2 : JC (X.suite a0 ((a0, oe) :: pn)) b v u)
    (T : ∀ c k, is c = some k → ExcC X.K (cn.ca c) ∧ PySem.W.kitOne X.K (.ref (cn.ca c)) u = some k)
    (hN : X.N[i]? = some m := by rfl) (hv : Vis X.env.scope m := by first | exact Or.inl rfl | exact Or.inr (Or.inl rfl) | exact Or.inr (Or.inr rfl)) (hd : (m == ("__debug__" : Str)) = false := by decide)
    (hcd : (m == ("__classdict__" : Str)) = false := by decide)
    (he : starEach [.Name m p1, b] X.env = (false, eval (.Name m p1) X.env) :: starEach [b] X.env := by rfl) (he2 : starEach [b] X.env = (false, eval b X.env) :: starEach [] X.env := by rfl) (hpl : (backTo pos (starEach [b] X.env)).any (·.1) = false := by rfl) :
    JE (X.suite a0 ((a0, oe) :: pn)) cn W (.Call (.Name "isinstance" p) [.Name m p1, b] [] pos) (eIsE i is) := by
  by_cases h : od = none ∧ ∃ c k, is c = some k ∧ cls = .ref (cn.ca c)
  · obtain ⟨rfl, c, kk, hc, rfl⟩ := h
    obtain ⟨T1, T2⟩ := T c kk hc
    refine ⟨_, pe_callB (X := X.suite a0 ((a0, oe) :: pn)) (call_isE T1 hz hf) hg hm rfl (pa_cons (X := X.suite a0 ((a0, oe) :: pn)) (pe_var (X := X.suite a0 ((a0, oe) :: pn)) (i := i) (x := m) (pos := p1) hN hv hd hcd) (pa_cons (X := X.suite a0 ((a0, oe) :: pn)) h2.1 pa_nil he2) he) (by decide) (by decide) he hpl, fun C Γ σ F H Q R k => ?_⟩
    unfold eIsE at k
    cases g : get Γ i with
    | exn x =>
      rw [g] at k
      dsimp only at k
      by_cases hcc : x.fs.isEmpty = true
      · rw [if_pos hcc] at k
        cases el : is x.c with
        | none => rw [el] at k; exact k.elim
        | some d =>
          rw [el] at k
          obtain ⟨e1, rx⟩ := eX_at R g hx0
          have q := (T x.c d el).2
          refine ⟨_, e1, v, u, d, rfl, fun w r => ?_, ?_, k (.bl d) F H (Same.refl _) R (.bl d)⟩
          · exact h2.2.eq r
          · rw [rx.1]; exact q
      · rw [if_neg hcc] at k; exact k.elim
    | _ => rw [g] at k; exact k.elim
  · refine ⟨fun _ _ _ => False, ⟨fun _ _ _ _ _ _ z => z.elim⟩, fun C Γ σ F H Q R k => ?_⟩
    unfold eIsE at k
    cases g : get Γ i with
    | exn x =>
      rw [g] at k
      dsimp only at k
      by_cases hcc : x.fs.isEmpty = true
      · rw [if_pos hcc] at k
        cases el : is x.c with
        | none => rw [el] at k; exact k.elim
        | some d =>
          obtain ⟨e1, rx⟩ := eX_at R g hx0
          rcases rx.2 with ⟨_, h1⟩ | ⟨dd, fvs, h1, _, h3, _⟩
          · exact h ⟨h1, x.c, d, el, rx.1⟩
          · exact absurd (List.isEmpty_iff.mp hcc) h3
      · rw [if_neg hcc] at k; exact k.elim
    | _ => rw [g] at k; exact k.elim
/-! isinstance(x, C), C an own class: tb says it of the own classes -/
structure IsC (K : PySem.W.Frag) (C : Addr) : Prop where
  none : PySem.W.kitOne K (.type "NoneType") (.ref C) = some false
  bool : PySem.W.kitOne K (.type "bool") (.ref C) = some false
  int : PySem.W.kitOne K (.type "int") (.ref C) = some false
  str : PySem.W.kitOne K (.type "str") (.ref C) = some false
  list : PySem.W.kitOne K (.type "list") (.ref C) = some false
  tuple : PySem.W.kitOne K (.type "tuple") (.ref C) = some false
theorem ty_own {tb : Nat → Option Bool} {C : Addr} (h : IsC X.K C) (T : ∀ c k, tb c = some k → PySem.W.kitOne X.K (.ref (cn.ca c)) (.ref C) = some k ∧ Cls X.K (cn.ca c) ∧ PySem.W.findIn X.K (.ref (cn.ca c)) "__class__" = some (some (.builtin "object.__class__")) ∧ PySem.W.mroIn X.K (cn.ca c) (.type "object") = some true)
    (h3 : PySem.W.specialIn X.K (.builtin "object.__class__") "__get__" = some (some (.builtin "getset_descriptor.__get__"))) (h4 : PySem.W.takesIn X.K (.builtin "object.__class__") = some true) (d : D) (k : Bool) (e : isB2 tb d = some k) : TyD X.K cn (.ref C) d k := by
  cases d with
  | ins c fs => obtain ⟨t1, t2, t3, t4⟩ := T c k e; exact ⟨t1, t2, t3, h3, h4, t4⟩
  | non => cases e; exact h.none
  | bl _ => cases e; exact h.bool
  | int _ => cases e; exact h.int
  | str _ => cases e; exact h.str
  | lst _ => cases e; exact h.list
  | tup _ => cases e; exact h.tuple
  | dct _ => cases e
  | scr _ => cases e
end
end Ed

set_option autoImplicit true
set_option Elab.async false
set_option linter.all false
set_option maxRecDepth 100000
set_option maxHeartbeats 4000000
set_option autoImplicit false
/-! default values; the law itself -/
namespace L2
open PySem PySem.Spec PyProof.Rows PySem.W
section
variable {X : Cx} {k : Nat} {f C : Addr} {fd : FuncData} {ps : List Str} {sp : Sp} {W : WX} {x m : Str} {p pos apos : Pos} {e o : Expr} {es : List Expr} {ta te : TE} {t : TA}
theorem runS_makeD {ds : List Value} {dvs : List V} {pins : List (Addr × Obj)} {σ : L2.St} {H : Hp} {s : Shared} {Q : VK} {us : List Value} {vs : List V} (M : Mk X.K C f) (F : FnOk X.prog X.w X.K X.mg X.base (L2.CX X.prog X.w) k f fd ps sp) (hr : Room (k + 1) X.A) (hb : Binds X.K fd ps ds) (hd : Vals dvs ds)
    (tk : Takes X W) (I : Inv X pins σ H s) (r : Vals vs us)
    (h : ∀ x dx, H x = none → H dx = none → dx ≠ x → sp (.ref x :: (vs ++ dvs)) (upd (upd H dx (.own x)) x (.ins C dx [])) (fun v H2 => v = .non ∧ Q (.ref x) H2) (WE W σ)) :
    wpAny (model X.prog X.w) X.A (call (.ref C) us) (EP X pins σ Q) X.xe s := by
  have hq := h (s.heap.objs.size + 1) s.heap.objs.size (I.hok.fresh (Nat.le_succ _)) (I.hok.fresh (Nat.le_refl _)) (Nat.ne_of_lt (Nat.lt_succ_self _))
  have I2 := Inv.made (C := C) I
  have r2 : Vals (V.ref (s.heap.objs.size + 1) :: (vs ++ dvs)) (Value.ref (s.heap.objs.size + 1) :: (us ++ ds)) := .cons rfl (r.append hd)
  have hl : ((Value.ref (s.heap.objs.size + 1) :: us) ++ ds).length = ps.length := by
    have e := r2.length
    rw [F.len _ _ _ _ hq] at e
    exact e.symm
  have b := hb _ (Value.ref (s.heap.objs.size + 1) :: us) I2.kIn hl
  refine wpAny_call (make_map (f := f) I.kIn M.makes M.init (beq_iff_eq.mp M.fn) (codeAny_mono (F.run _ X.stack _ _ ⟨Value.ref (s.heap.objs.size + 1) :: us, []⟩ (Value.ref (s.heap.objs.size + 1) :: (us ++ ds)) _ _ (WE W σ) (hr.make C us [])
    (I2.env0.make C us []) b r2 hq) fun r s' hq' => ?_))
  cases r with
  | error e => exact passAt tk σ pins _ _ e s' I2 hq'
  | ok fl =>
    cases fl with
    | ret u =>
      obtain ⟨v, H', I3, rv, ev, q3⟩ := I2.after hq'
      subst ev
      exact ⟨rv, ⟨V.ref (s.heap.objs.size + 1), H', I3, rfl, q3⟩⟩
    | next => exact False.elim hq'
    | brk => exact False.elim hq'
    | cont => exact False.elim hq'
def tMakeXD (C : Addr) (sp : Sp) (dvs : List V) (W : WX) (t : TA) : TE := fun σ H Q => t σ H fun vs H1 => ∀ x dx, H1 x = none → H1 dx = none → dx ≠ x →
  sp (.ref x :: (vs ++ dvs)) (upd (upd H1 dx (.own x)) x (.ins C dx [])) (fun v H2 => v = .non ∧ Q (.ref x) H2) (WE W σ)
theorem pe_makeXD {ds : List Value} {dvs : List V} (M : Mk X.K C f) (F : FnOk X.prog X.w X.K X.mg X.base (L2.CX X.prog X.w) k f fd ps sp) (hr : Room (k + 1) X.A) (hg : Gl X x) (hm : X.mg x = some (.ref C)) (hb : Binds X.K fd ps ds) (hd : Vals dvs ds) (tk : Takes X W)
    (ha : PA X (e :: es) t) (hdb : (x == ("__debug__" : Str)) = false := by decide) (he : starEach (e :: es) X.env = (false, eval e X.env) :: starEach es X.env := by rfl) (hpl : (backTo pos (starEach es X.env)).any (·.1) = false := by rfl) :
    PE X (.Call (.Name x p) (e :: es) [] pos) (tMakeXD C sp dvs W t) := by
  refine ⟨fun pins s σ H Q I h => ?_⟩
  refine wpAny_Call_Name_kw (ld_glob I hg hm ?_ hdb)
  refine PySem.W.callWith_K (h₀ := X.base) I.ok.mod.kin M.kp (thn (ha.run pos pins s σ H _ I h) fun us s1 ⟨vs, H1, I1, r, q⟩ => ⟨I1.kIn, ?_⟩) he hpl
  exact runS_makeD M F hr hb hd tk I1 r q
end
end L2
namespace Ed
open PySem L2
section
variable {P : Program} {w : World} {K : PySem.W.Frag} {mg : Str → Option Value} {base : Heap} {cn : Cn}
theorem okDD {x qual : Str} {params : Arguments} {body : List Stmt} {scope : Scope} {dvs : List V} {kws : List (Str × V)} {f : Addr} {fd : FuncData} {N ps : List Str} {k : Nat} {ms : List Bool} {n : Nat} {sv : SV} {Ff : FV} (F : FunD K x qual params body scope dvs kws f fd) (S : FnScope N ps scope) (hp : ms.length = ps.length) (hN : N.length = ms.length + n) (hF : ∀ ds, Ff ds = runF ms n sv ds)
    (hbody : ∀ (cdv : Value) (A : Around) (outer : List PySem.Env) (s : Shared) (H : Hp) (E : XK), Room k (A.deeper (PyProof.Rows.envOfC qual scope s.heap.objs.size f cdv)) →
      JSs (cxOf (L2.CX P w) P w K mg base N qual scope f cdv A outer s H E) cn (fun cls d _ H => E cls d H) body sv) : FnOk P w K mg base (L2.CX P w) (k + 1) f fd ps (spD K cn ms Ff) :=
  F.ok S (fun vs H Q E h => by rw [h.1]; exact hp) fun cdv A outer s H vs Q E hr h => bodyD (X := cxOf (L2.CX P w) P w K mg base N qual scope f cdv A outer s H E) hN hF h (hbody cdv A outer s H E hr)
theorem okID {x qual : Str} {params : Arguments} {body : List Stmt} {scope : Scope} {dvs : List V} {kws : List (Str × V)} {f : Addr} {fd : FuncData} {N ps : List Str} {k c : Nat} {ms : List Bool} {n : Nat} {sv : SV} {Ff : List D → R (List (Nat × D))} (F : FunD K x qual params body scope dvs kws f fd) (S : FnScope N ps scope) (hp : ms.length + 1 = ps.length) (hN : N.length = ms.length + 1 + n) (hF : ∀ ds, Ff ds = runI c ms n sv ds)
    (hbody : ∀ (cdv : Value) (A : Around) (outer : List PySem.Env) (s : Shared) (H : Hp) (E : XK), Room k (A.deeper (PyProof.Rows.envOfC qual scope s.heap.objs.size f cdv)) →
      JSs (cxOf (L2.CX P w) P w K mg base N qual scope f cdv A outer s H E) cn (fun cls d _ H => E cls d H) body sv) : FnOk P w K mg base (L2.CX P w) (k + 1) f fd ps (spI K cn c ms Ff) :=
  F.ok S (fun vs H Q E h => by rw [h.1]; exact hp) fun cdv A outer s H vs Q E hr h => bodyI (hbody cdv A outer s H E hr) hN hF h
theorem ArgR.app {F H : Hp} {ms1 : List Bool} {vs1 : List V} {ds1 : List D} (q : ArgR K cn F H ms1 vs1 ds1) : ∀ {ms : List Bool} {vs : List V} {ds : List D}, ArgR K cn F H ms vs ds → ArgR K cn F H (ms ++ ms1) (vs ++ vs1) (ds ++ ds1)
  | [], [], [], _ => q
  | m :: ms, _ :: _, _ :: _, h => ⟨h.1, ArgR.app q h.2⟩
  | [], [], _ :: _, h => h.elim
  | [], _ :: _, _, h => h.elim
  | _ :: _, [], _, h => h.elim
  | _ :: _, _ :: _, [], h => h.elim
theorem spD_dfl {ms ms1 : List Bool} {Ff : FV} {vs dvs : List V} {dd : List D} {H : Hp} {Q : VK} {E : XK} (hd : ∀ F H, Same F H → ArgR K cn F H ms1 dvs dd) (h : spD K cn ms (fun ds => Ff (ds ++ dd)) vs H Q E) : spD K cn (ms ++ ms1) Ff (vs ++ dvs) H Q E := by
  obtain ⟨hl, F, ds, hs, ha, k⟩ := h
  have q := hd F H hs
  exact ⟨by rw [List.length_append, List.length_append, hl, q.len.1], F, ds ++ dd, hs, q.app ha, k⟩
theorem spI_dfl {c : Nat} {ms ms1 : List Bool} {Ff : List D → R (List (Nat × D))} {vs dvs : List V} {dd : List D} {p : Addr} {H : Hp} {Q : VK} {E : XK} (hd : ∀ F H, Same F H → ArgR K cn F H ms1 dvs dd) (h : spI K cn c ms (fun ds => Ff (ds ++ dd)) (.ref p :: vs) H Q E) : spI K cn c (ms ++ ms1) Ff (.ref p :: (vs ++ dvs)) H Q E := by
  obtain ⟨hl, p', vs', dx, F, ds, e, hp, fp, hs, ha, k⟩ := h
  cases e
  have q := hd F H hs
  exact ⟨by simp only [List.length_cons, List.length_append, ha.len.1, q.len.1], p, vs ++ dvs, dx, F, ds ++ dd, rfl, hp, fp, hs, q.app ha, k⟩
end
section
variable {X : Cx} {cn : Cn} {W : WX} {e : Expr} {es : List Expr} {pos : Pos} {av : AV} {k c : Nat} {f : Addr} {fd : FuncData} {ps : List Str} {ms ms1 : List Bool} {Ff : FV} {x : Str} {p : Pos} {dvs : List V} {dd : List D} {dls : List Value}
theorem je_callD (F : FnOk X.prog X.w X.K X.mg X.base (L2.CX X.prog X.w) k f fd ps (spD X.K cn (ms ++ ms1) Ff)) (hr : Room k X.A) (hg : Gl X x) (hm : X.mg x = some (.ref f)) (hk : PySem.W.keepIn X.K (.ref f) = true) (hb : Binds X.K fd ps dls) (hd : Vals dvs dls) (hdd : ∀ F H, Same F H → ArgR X.K cn F H ms1 dvs dd) (tk : Takes X W)
    (ha : JA X cn W (e :: es) av) (hdb : (x == ("__debug__" : Str)) = false := by decide) (he : starEach (e :: es) X.env = (false, eval e X.env) :: starEach es X.env := by rfl) (hpl : (backTo pos (starEach es X.env)).any (·.1) = false := by rfl) :
    JE X cn W (.Call (.Name x p) (e :: es) [] pos) (eCall (fun ds => Ff (ds ++ dd)) ms av) := by
  obtain ⟨t, pa, d⟩ := ha
  refine ⟨_, pe_callSD F hr hg hm hk hb hd (fun σ => passAt tk σ) pa hdb he hpl, fun C Γ σ F H Q R k => ?_⟩
  refine d C Γ σ F H _ R (k.bind.mono (fun p k vs F' H' s1 R1 hv => ?_) fun _ _ z => z)
  exact spD_dfl hdd (call_ok R1 hv (k.bind.mono (fun _ z => z) fun _ _ z => XW.up s1 z) fun o Γ2 v F2 H2 hP s R2 dv => dvn_e (s1.trans s) R2 dv hP)
theorem jn_callD (F : FnOk X.prog X.w X.K X.mg X.base (L2.CX X.prog X.w) k f fd ps (spD X.K cn (ms ++ ms1) Ff)) (hr : Room k X.A) (hg : Gl X x) (hm : X.mg x = some (.ref f)) (hk : PySem.W.keepIn X.K (.ref f) = true) (hb : Binds X.K fd ps dls) (hd : Vals dvs dls) (hdd : ∀ F H, Same F H → ArgR X.K cn F H ms1 dvs dd) (tk : Takes X W)
    (ha : JA X cn W (e :: es) av) (hdb : (x == ("__debug__" : Str)) = false := by decide) (he : starEach (e :: es) X.env = (false, eval e X.env) :: starEach es X.env := by rfl) (hpl : (backTo pos (starEach es X.env)).any (·.1) = false := by rfl) :
    JN X cn W (.Call (.Name x p) (e :: es) [] pos) (nCall (fun ds => Ff (ds ++ dd)) ms av) := by
  obtain ⟨t, pa, d⟩ := ha
  refine ⟨_, pe_callSD F hr hg hm hk hb hd (fun σ => passAt tk σ) pa hdb he hpl, fun C Γ σ F H Q R k => ?_⟩
  refine d C Γ σ F H _ R (k.bind.mono (fun p k vs F' H' s1 R1 hv => ?_) fun _ _ z => z)
  refine spD_dfl hdd (call_ok R1 hv (k.bind.mono (fun _ z => z) fun _ _ z => XW.up s1 z) fun o Γ2 v F2 H2 hP s R2 dv => ?_)
  cases o with
  | fz d => exact hP.elim
  | fr d => exact hP v F2 H2 (s1.trans s) R2 dv
theorem je_makeD {Fi : List D → R (List (Nat × D))} (M : Mk X.K (cn.ca c) f) (F : FnOk X.prog X.w X.K X.mg X.base (L2.CX X.prog X.w) k f fd ps (spI X.K cn c (ms ++ ms1) Fi)) (hr : Room (k + 1) X.A) (hg : Gl X x) (hm : X.mg x = some (.ref (cn.ca c))) (hb : Binds X.K fd ps dls) (hd : Vals dvs dls) (hdd : ∀ F H, Same F H → ArgR X.K cn F H ms1 dvs dd) (tk : Takes X W)
    (ha : JA X cn W (e :: es) av) (hdb : (x == ("__debug__" : Str)) = false := by decide) (he : starEach (e :: es) X.env = (false, eval e X.env) :: starEach es X.env := by rfl) (hpl : (backTo pos (starEach es X.env)).any (·.1) = false := by rfl) :
    JE X cn W (.Call (.Name x p) (e :: es) [] pos) (eCall (mkF c fun ds => Fi (ds ++ dd)) ms av) := by
  obtain ⟨t, pa, d⟩ := ha
  refine ⟨_, pe_makeXD M F hr hg hm hb hd tk pa hdb he hpl, fun C Γ σ F0 H Q R k => ?_⟩
  refine d C Γ σ F0 H _ R (k.bind.mono (fun p k vs F' H' s1 R1 hv => ?_) fun _ _ z => z)
  have q := spD_make (call_ok R1 hv (k.bind.mono (fun _ z => z) fun _ _ z => XW.up s1 z) fun o Γ2 v F2 H2 hP s R2 dv => dvn_e (s1.trans s) R2 dv hP)
  exact fun x dx h1 h2 h3 => spI_dfl hdd (q x dx h1 h2 h3)
end
/-- default values of plain kinds -/
theorem dfl_nil {K : PySem.W.Frag} {cn : Cn} : ∀ F H, Same F H → ArgR K cn F H [] [] [] := fun _ _ _ => True.intro
theorem dfl_int {K : PySem.W.Frag} {cn : Cn} {i : Int} {ms : List Bool} {vs : List V} {ds : List D} {m : Bool} (h : ∀ F H, Same F H → ArgR K cn F H ms vs ds) : ∀ F H, Same F H → ArgR K cn F H (m :: ms) (.int i :: vs) (.int i :: ds) := fun F H s => ⟨by cases m <;> exact Rep.int i, h F H s⟩
theorem dfl_bl {K : PySem.W.Frag} {cn : Cn} {i : Bool} {ms : List Bool} {vs : List V} {ds : List D} {m : Bool} (h : ∀ F H, Same F H → ArgR K cn F H ms vs ds) : ∀ F H, Same F H → ArgR K cn F H (m :: ms) (.bl i :: vs) (.bl i :: ds) := fun F H s => ⟨by cases m <;> exact Rep.bl i, h F H s⟩
theorem dfl_non {K : PySem.W.Frag} {cn : Cn} {ms : List Bool} {vs : List V} {ds : List D} {m : Bool} (h : ∀ F H, Same F H → ArgR K cn F H ms vs ds) : ∀ F H, Same F H → ArgR K cn F H (m :: ms) (.non :: vs) (.non :: ds) := fun F H s => ⟨by cases m <;> exact Rep.non, h F H s⟩
/-! the law -/
def spLaw (K : PySem.W.Frag) : Sp := fun vs H Q _ => ∃ (a : Addr) (ns : List Int), vs = [.ref a] ∧ SqL K H a (ns.map V.int) ∧ ns.length ≤ 63 ∧ ∀ H', Q (.bl true) H'
theorem law_sp {P : Program} {w : World} {K : PySem.W.Frag} {mg : Str → Option Value} {base : Heap} {cn : Cn} {k : Nat} {f : Addr} {fd : FuncData} {ps : List Str} {m : Bool} {Ff : FV} (F : FnOk P w K mg base (L2.CX P w) k f fd ps (spD K cn [m] Ff)) (h : ∀ ns : List Int, ns.length ≤ 63 → Ff [.scr ns] = .ok (.fz (.bl true))) : FnOk P w K mg base (L2.CX P w) k f fd ps (spLaw K) := by
  have up : ∀ vs H Q E, spLaw K vs H Q E → spD K cn [m] Ff vs H Q E := fun vs H Q E ⟨a, ns, e, hs, hl, q⟩ => by
    subst e
    have r : Rep K cn H (.ref a) (.scr ns) := .scr hs
    refine ⟨rfl, H, [.scr ns], Same.refl _, ⟨by cases m <;> exact r, True.intro⟩, ?_⟩
    rw [h ns hl]
    intro v F' H' ex dv
    cases (show Rep K cn F' v (.bl true) from dv)
    exact q H'
  exact ⟨fun vs H Q E q => F.len vs H Q E (up vs H Q E q), fun A outer s H args us vs Q E hr he hb r q => F.run A outer s H args us vs Q E hr he hb r (up vs H Q E q)⟩
theorem CX_false {P : Program} {w : World} {H : Hp} {s : Shared} {e : Value} {s' : Shared} (h : L2.CX P w [] H s (fun _ _ _ => False) e s') : False := by
  obtain ⟨a, B, H', cls, d, _, _, _, _, _, _, _, z⟩ := h
  exact z
end Ed

set_option autoImplicit true
set_option Elab.async false
set_option linter.all false
set_option maxRecDepth 100000
set_option maxHeartbeats 4000000
set_option autoImplicit false
/-! small helpers for what gen2 prints -/
namespace L2
open PySem PySem.Spec PyProof.Rows PySem.W
theorem Room.units65 {k : Nat} {A : Around} (r : Room k A) : A.units + 65 < cLine := by have := r.un; omega
end L2
namespace Ed
open PySem L2
theorem takesW {X : Cx} : Takes X W0 := fun _ _ h => by
  obtain ⟨a, B, sI, pins, σ, H, cls, d, _, _, _, _, _, _, _, _, z⟩ := h
  exact z.elim
theorem tab_nil {P : Nat → Bool → Prop} : ∀ c k, tbl [] c = some k → P c k := fun c k h => by cases h
theorem tab_cons {P : Nat → Bool → Prop} {a : Nat} {b : Bool} {l : List (Nat × Bool)} (h : P a b) (t : ∀ c k, tbl l c = some k → P c k) : ∀ c k, tbl ((a, b) :: l) c = some k → P c k := fun c k e => by
  unfold tbl at e
  rw [List.lookup_cons] at e
  by_cases q : (c == a) = true
  · rw [q] at e
    cases e
    rw [beq_iff_eq.mp q]; exact h
  · rw [Bool.not_eq_true _ |>.mp q] at e
    exact t c k e
theorem mem_nil {P : Nat → Prop} : ∀ c, ([] : List Nat).contains c = true → P c := fun c h => by simp at h
theorem mem_cons {P : Nat → Prop} {a : Nat} {l : List Nat} (h : P a) (t : ∀ c, l.contains c = true → P c) : ∀ c, (a :: l).contains c = true → P c := fun c e => by
  rw [List.contains_cons, Bool.or_eq_true] at e
  rcases e with e | e
  · rw [beq_iff_eq.mp e]; exact h
  · exact t c e
theorem binds0 {K : PySem.W.Frag} {fd : FuncData} {ps : List Str} (h : ∃ ds, Vals [] ds ∧ Binds K fd ps ds) : Binds K fd ps [] := by
  obtain ⟨ds, r, b⟩ := h
  cases r
  exact b
theorem kit_self (K : PySem.W.Frag) (t : Value) : PySem.W.kitOne K t t = some true := if_pos (by simp)
theorem kit_other {K : PySem.W.Frag} {t : String} {C : Addr} {b : Option Bool} (h2 : PySem.W.isClsIn K C = true) (h3 : PySem.W.typeIn K (.ref C) = some (.type "type")) (h4 : PySem.W.subIn K (.type t) (.ref C) = b) : PySem.W.kitOne K (.type t) (.ref C) = b := by
  have e2 : ((PySem.W.clsIn K C).isSome && PySem.W.typeIn K (.ref C) == some (.type "type")) = true := by
    have h2' : (PySem.W.clsIn K C).isSome = true := h2
    rw [h2', h3]
    rfl
  unfold PySem.W.kitOne
  rw [show (Value.type t == Value.ref C) = false from beq_eq_false_iff_ne.mpr (by intro h; cases h)]
  show (if ((PySem.W.clsIn K C).isSome && PySem.W.typeIn K (.ref C) == some (.type "type")) = true then PySem.W.subIn K (.type t) (.ref C) else none) = b
  rw [if_pos e2, h4]
theorem kit_refTy {K : PySem.W.Frag} {t : String} {C : Addr} {b : Option Bool} (h4 : PySem.W.subIn K (.ref C) (.type t) = b) (hm : PySem.W.kitMeta t = true := by decide +kernel) : PySem.W.kitOne K (.ref C) (.type t) = b := by
  unfold PySem.W.kitOne
  rw [show (Value.ref C == Value.type t) = false from beq_eq_false_iff_ne.mpr (by intro h; cases h)]
  show (if PySem.W.kitMeta t = true then PySem.W.subIn K (.ref C) (.type t) else none) = b
  rw [if_pos hm, h4]
/-- two own classes: a subclass counts as itself -/
theorem kit_ownT {K : PySem.W.Frag} {D C : Addr} (h2 : PySem.W.isClsIn K C = true) (h3 : PySem.W.typeIn K (.ref C) = some (.type "type")) (h4 : PySem.W.subIn K (.ref D) (.ref C) = some true) : PySem.W.kitOne K (.ref D) (.ref C) = some true := by
  have e2 : ((PySem.W.clsIn K C).isSome && PySem.W.typeIn K (.ref C) == some (.type "type")) = true := by
    have h2' : (PySem.W.clsIn K C).isSome = true := h2
    rw [h2', h3]
    rfl
  unfold PySem.W.kitOne
  split
  · rfl
  · show (if ((PySem.W.clsIn K C).isSome && PySem.W.typeIn K (.ref C) == some (.type "type")) = true then PySem.W.subIn K (.ref D) (.ref C) else none) = _
    rw [if_pos e2, h4]
theorem kit_ownF {K : PySem.W.Frag} {D C : Addr} (h2 : PySem.W.isClsIn K C = true) (h3 : PySem.W.typeIn K (.ref C) = some (.type "type")) (h4 : PySem.W.subIn K (.ref D) (.ref C) = some false) (hne : PySem.W.subIn K (.ref C) (.ref C) = some true) : PySem.W.kitOne K (.ref D) (.ref C) = some false := by
  have e2 : ((PySem.W.clsIn K C).isSome && PySem.W.typeIn K (.ref C) == some (.type "type")) = true := by
    have h2' : (PySem.W.clsIn K C).isSome = true := h2
    rw [h2', h3]
    rfl
  unfold PySem.W.kitOne
  split
  · rename_i q
    have : D = C := Value.ref.inj (beq_iff_eq.mp q)
    rw [this, hne] at h4
    cases h4
  · show (if ((PySem.W.clsIn K C).isSome && PySem.W.typeIn K (.ref C) == some (.type "type")) = true then PySem.W.subIn K (.ref D) (.ref C) else none) = _
    rw [if_pos e2, h4]
section
variable {X : Cx} {cn : Cn} {W : WX} {a b c : Expr} {pos : Pos} {qa qb qc : QV}
theorem ty2_int (d : D) (k : Bool) (h : isT2 .tInt d = some k) : TyD X.K cn (.type "int") d k := by
  cases d <;> first | (cases h; exact kit_ty (by decide +kernel)) | cases h
theorem ty2_bool (d : D) (k : Bool) (h : isT2 .tBool d = some k) : TyD X.K cn (.type "bool") d k := by
  cases d <;> first | (cases h; exact kit_ty (by decide +kernel)) | cases h
theorem ty2_str (d : D) (k : Bool) (h : isT2 .tStr d = some k) : TyD X.K cn (.type "str") d k := by
  cases d <;> first | (cases h; exact kit_ty (by decide +kernel)) | cases h
theorem ty2_list (d : D) (k : Bool) (h : isT2 .tList d = some k) : TyD X.K cn (.type "list") d k := by
  cases d <;> first | (cases h; exact kit_ty (by decide +kernel)) | cases h
theorem ty2_tuple (d : D) (k : Bool) (h : isT2 .tTuple d = some k) : TyD X.K cn (.type "tuple") d k := by
  cases d <;> first | (cases h; exact kit_ty (by decide +kernel)) | cases h
theorem jt_chain {op op' : CmpOp} {r r' : R2} {f f' : D → D → Option D} (ho : OpR X (compareOp op) r) (h : R2D X.K cn r f) (hb : ∀ x y d, f x y = some d → ∃ k, d = .bl k) (ho' : OpR X (compareOp op') r') (h' : R2D X.K cn r' f') (h1 : JQ X cn W a qa) (h2 : JQ X cn W b qb) (h3 : JQ X cn W c qc)
    (hm : lastMarks [op, op'] [b, c] = false := by with_unfolding_all rfl) : JT X cn W (.Compare a [op, op'] [b, c] pos) (tE (eChain f f' qa qb qc)) := by
  obtain ⟨t1, p1, d1⟩ := h1
  obtain ⟨t2, p2, d2⟩ := h2
  obtain ⟨t3, p3, d3⟩ := h3
  refine ⟨_, pt_chain ho ho' p1 p2 p3 hm, fun C Γ σ F H Q R k => ?_⟩
  refine dchain h h' d1 d2 d3 hb C Γ σ F H _ R (k.bind.mono (fun p k v F' H' s r rv => ?_) fun _ _ z => z)
  obtain ⟨x, Γ1⟩ := p
  cases x with
  | bl z => cases rv; exact ⟨z, rfl, k F' H' s r⟩
  | _ => exact k.elim
end
end Ed

set_option autoImplicit true
set_option Elab.async false
set_option linter.all false
set_option maxRecDepth 100000
set_option maxHeartbeats 4000000
set_option autoImplicit false
/-! errors with fields -/
namespace Ed
open PySem L2
def spXv (C : Addr) (fl : List Str) : Sp := fun vs H Q E => ∃ a ws, vs = .ref a :: ws ∧ ws.length = fl.length ∧ H a = some (exo a C none) ∧
  ∀ d H', H d = none → d ≠ a → H' a = some (exo a C (some d)) → H' d = some (exd d ((fl.zip ws).reverse)) → (∀ b, b ≠ a → b ≠ d → H' b = H b) → Q .non H'
section
variable {K : PySem.W.Frag} {C a : Addr} {H : Hp} {Q : VK} {f1 f2 f3 : Str} {w1 w2 w3 : V}
theorem ost1 (T : OexC K C) (h1 : PySem.W.findIn K (.ref C) f1 = some none) (ha : H a = some (exo a C none))
    (k : ∀ d H', H d = none → d ≠ a → H' a = some (exo a C (some d)) → H' d = some (exd d [(f1, w1)]) → (∀ b, b ≠ a → b ≠ d → H' b = H b) → Q .non H') :
    tOst K f1 (tVar 0) (tVar 1) { nx := fun _ H' => Q .non H', rt := Q } [some (.ref a), some w1] H :=
  ⟨w1, rfl, .ref a, rfl, a, C, rfl, T, h1, .inl ⟨ha, fun dx hd hne => k dx _ hd hne upd_same (by rw [upd_ne hne, upd_same]) fun b e1 e2 => by rw [upd_ne e1, upd_ne e2]⟩⟩
theorem ost2 (T : OexC K C) (h1 : PySem.W.findIn K (.ref C) f1 = some none) (h2 : PySem.W.findIn K (.ref C) f2 = some none) (ha : H a = some (exo a C none))
    (k : ∀ d H', H d = none → d ≠ a → H' a = some (exo a C (some d)) → H' d = some (exd d [(f2, w2), (f1, w1)]) → (∀ b, b ≠ a → b ≠ d → H' b = H b) → Q .non H') :
    tOst K f1 (tVar 0) (tVar 1) { nx := tOst K f2 (tVar 0) (tVar 2) { nx := fun _ H' => Q .non H', rt := Q }, rt := Q } [some (.ref a), some w1, some w2] H :=
  ⟨w1, rfl, .ref a, rfl, a, C, rfl, T, h1, .inl ⟨ha, fun dx hd hne => ⟨w2, rfl, .ref a, rfl, a, C, rfl, T, h2, .inr ⟨dx, [(f1, w1)], upd_same, by rw [upd_ne hne, upd_same], by simp,
    k dx _ hd hne (by rw [upd_ne (Ne.symm hne), upd_same]) upd_same fun b e1 e2 => by rw [upd_ne e2, upd_ne e1, upd_ne e2]⟩⟩⟩⟩
theorem ost3 (T : OexC K C) (h1 : PySem.W.findIn K (.ref C) f1 = some none) (h2 : PySem.W.findIn K (.ref C) f2 = some none) (h3 : PySem.W.findIn K (.ref C) f3 = some none) (ha : H a = some (exo a C none))
    (k : ∀ d H', H d = none → d ≠ a → H' a = some (exo a C (some d)) → H' d = some (exd d [(f3, w3), (f2, w2), (f1, w1)]) → (∀ b, b ≠ a → b ≠ d → H' b = H b) → Q .non H') :
    tOst K f1 (tVar 0) (tVar 1) { nx := tOst K f2 (tVar 0) (tVar 2) { nx := tOst K f3 (tVar 0) (tVar 3) { nx := fun _ H' => Q .non H', rt := Q }, rt := Q }, rt := Q } [some (.ref a), some w1, some w2, some w3] H :=
  ⟨w1, rfl, .ref a, rfl, a, C, rfl, T, h1, .inl ⟨ha, fun dx hd hne => ⟨w2, rfl, .ref a, rfl, a, C, rfl, T, h2, .inr ⟨dx, [(f1, w1)], upd_same, by rw [upd_ne hne, upd_same], by simp,
    ⟨w3, rfl, .ref a, rfl, a, C, rfl, T, h3, .inr ⟨dx, [(f2, w2), (f1, w1)], by rw [upd_ne (Ne.symm hne), upd_same], upd_same, by simp,
      k dx _ hd hne (by rw [upd_ne (Ne.symm hne), upd_ne (Ne.symm hne), upd_same]) upd_same fun b e1 e2 => by rw [upd_ne e2, upd_ne e2, upd_ne e1, upd_ne e2]⟩⟩⟩⟩⟩⟩
end
section
variable {X : Cx} {cn : Cn} {W : WX} {e : Expr} {es : List Expr} {pos p : Pos} {lv : LV} {x : Str}
/-- the fields' codes, one by one -/
def Codes (cn : Cn) : List Nat → List Str → Prop
  | [], [] => True
  | c :: cs, f :: fs => cn.fa c = f ∧ f ∉ fs ∧ Codes cn cs fs
  | _, _ => False
theorem lookup_rev {β : Type} {f : Str} {v : β} : ∀ {l : List (Str × β)}, (f, v) ∈ l → (∀ v', (f, v') ∈ l → v' = v) → l.lookup f = some v
  | (g, u) :: l, h, h2 => by
    rw [List.lookup_cons]
    by_cases q : (f == g) = true
    · rw [q]
      have : f = g := by simpa using q
      subst this
      rw [h2 u (by simp)]
    · rw [Bool.not_eq_true _ |>.mp q]
      have : f ≠ g := fun z => q (by subst z; exact beq_self_eq_true f)
      rcases List.mem_cons.mp h with z | z
      · cases z; exact absurd rfl this
      · exact lookup_rev z fun v' hv => h2 v' (by simp [hv])
theorem codes_look {K : PySem.W.Frag} {F : Hp} (hinj : ∀ f g, cn.fa f = cn.fa g → cn.fa f ≠ "?" → f = g) : ∀ {cs : List Nat} {fl : List Str} {vs : List V} {ds : List D}, Codes cn cs fl → Reps K cn F vs ds → ds.length = fl.length →
    ∀ f z, (cs.zip ds).lookup f = some z → ∃ v, (cn.fa f, v) ∈ fl.zip vs ∧ Rep K cn F v z ∧ ∀ v', (cn.fa f, v') ∈ fl.zip vs → v' = v
  | [], [], vs, ds, _, _, _, f, z, h => by simp at h
  | c :: cs, g :: fl, vs, [], _, _, hl, f, z, h => by simp at hl
  | c :: cs, g :: fl, vs, d :: ds, hc, r, hl, f, z, h => by
    obtain ⟨v, vs', rfl, r1, r2⟩ := r.inv
    obtain ⟨e1, e2, e3⟩ := hc
    rw [List.zip_cons_cons, List.lookup_cons] at h
    by_cases q : (f == c) = true
    · rw [q] at h
      cases h
      have : f = c := by simpa using q
      subst this
      refine ⟨v, by rw [e1]; simp, r1, fun v' hv => ?_⟩
      rw [List.zip_cons_cons] at hv
      rcases List.mem_cons.mp hv with z | z
      · exact (Prod.mk.inj z).2
      · exact absurd (e1 ▸ (List.of_mem_zip z).1) e2
    · rw [Bool.not_eq_true _ |>.mp q] at h
      obtain ⟨u, h1, h2, h3⟩ := codes_look hinj e3 r2 (by simpa using hl) f z h
      refine ⟨u, by simp [h1], h2, fun v' hv => ?_⟩
      rw [List.zip_cons_cons] at hv
      rcases List.mem_cons.mp hv with w | w
      · exact absurd ((Prod.mk.inj w).1 ▸ (List.of_mem_zip h1).1) e2
      · exact h3 v' w
  | [], _ :: _, _, _, hc, _, _, _, _, _ => hc.elim
  | _ :: _, [], _, _, hc, _, _, _, _, _ => hc.elim
theorem js_raiseO {c : Nat} {cs : List Nat} {fl : List Str} {k : Nat} {fI : Addr} {fd : FuncData} {ps : List Str} {pos2 : Pos} (hc : X.calm = true) (tk : Takes X W) (hinj : ∀ f g, cn.fa f = cn.fa g → cn.fa f ≠ "?" → f = g) (hcs : Codes cn cs fl) (hne : cs ≠ []) (hl : fl.length ≤ 1000)
    (T : OexC X.K (cn.ca c)) (iC : PySem.W.findIn X.K (.ref (cn.ca c)) "__init__" = some (some (.ref fI))) (tI : PySem.W.typeIn X.K (.ref fI) = some (.type "function"))
    (F1 : FnOk X.prog X.w X.K X.mg X.base CX0 k fI fd ps (spXv (cn.ca c) fl)) (hr : Room (k + 1) X.A) (hb : Binds X.K fd ps []) (hg : Gl X x) (hm : X.mg x = some (.ref (cn.ca c))) (ha : JL X cn W (e :: es) lv)
    (hn : ∀ Γ ds Γ', lv Γ = .ok (ds, Γ') → ds.length = fl.length)
    (hdb : (x == ("__debug__" : Str)) = false := by decide) (he : starEach (e :: es) X.env = (false, eval e X.env) :: starEach es X.env := by rfl) (hpl : (backTo pos (starEach es X.env)).any (·.1) = false := by rfl) :
    JS X cn W (.Raise (some (.Call (.Name x p) (e :: es) [] pos)) none pos2) (sRaise c cs lv) := by
  obtain ⟨t, pa, d⟩ := ha
  refine ⟨_, ps_raise hc tk (pmk_oex T iC tI F1 hr hb .nil pass0 hg hm pa hdb he hpl), fun C Γ σ F H Dn R k => ?_⟩
  have k0 := k
  unfold sRaise at k
  refine d C Γ σ F H _ R ?_
  cases el : lv Γ with
  | bad => rw [el] at k; exact k.elim
  | exc y Γ1 => rw [el] at k; exact k
  | ok q =>
    obtain ⟨ds, Γ1⟩ := q
    rw [el] at k
    intro vs F1 H1 s1 R1 rv
    have hds := hn Γ ds Γ1 el
    have hvl : vs.length = fl.length := rv.1.trans hds
    refine ⟨by omega, fun a na => ⟨a, vs ++ [], rfl, by rw [List.append_nil]; exact hvl, upd_same, fun dd H' hd hda g1 g2 g3 => ⟨rfl, dd, _, g1, g2, ?_, ?_⟩⟩⟩
    · rw [upd_ne hda] at hd; exact hd
    · have hd1 : H1 dd = none := by rw [upd_ne hda] at hd; exact hd
      rw [List.append_nil] at g2
      have eH : upd (L2.del H' a) dd (.xd ((fl.zip vs).reverse)) = upd H1 dd (.xd ((fl.zip vs).reverse)) := by
        funext b
        by_cases z : b = dd
        · subst z; rw [upd_same, upd_same]
        · rw [upd_ne z, upd_ne z]
          by_cases y : b = a
          · subst y; rw [L2.del_same, na]
          · rw [L2.del_ne y, g3 b y z, upd_ne y]
      rw [List.append_nil, eH]
      have ex := Ext.new (o := HO.xd ((fl.zip vs).reverse)) R1.bs.fh hd1
      refine k _ _ σ _ _ (s1.trans ex.f) (R1.ext ex) ⟨rfl, .inr ⟨dd, _, rfl, upd_same, ?_, fun f z hz => ?_⟩⟩
      · cases cs with
        | nil => exact absurd rfl hne
        | cons c0 cs' => cases ds with
          | nil => cases fl with
            | nil => exact hcs.elim
            | cons _ _ => cases hds
          | cons _ _ => intro z; cases z
      · obtain ⟨v, h1, h2, h3⟩ := codes_look hinj hcs rv hds f z hz
        exact ⟨v, lookup_rev (List.mem_reverse.mpr h1) (fun v' hv => h3 v' (List.mem_reverse.mp hv)), h2.mono ex.f⟩
end
end Ed

set_option autoImplicit true
set_option Elab.async false
set_option linter.all false
set_option maxRecDepth 100000
set_option maxHeartbeats 4000000
set_option autoImplicit false
/-! isinstance of a caught error of an own class, with or without fields -/
namespace PySem.W
open PySem PySem.Spec PySem.Calls PyProof.Rows
section
variable {prog : Program} {w : World} {A : Around} {E : Value → Shared → Prop} {s : Shared} {K : Frag} {x D : Addr} {ox : Obj} {od : Option Obj}
theorem ed_findClass {C : Addr} {name : Str} {a g : Value} (hc : (clsIn K C).isSome = true) (ha : findIn K (.ref C) name = some (some a)) (hg : specialIn K a "__get__" = some (some g)) (ht : takesIn K a = some true) : findObj K C od name = some (.bind g a) := by
  obtain ⟨cd, hc⟩ := Option.isSome_iff_exists.mp hc
  unfold findObj
  rw [hc, Option.bind_some, ha, Option.bind_some]
  simp [hg, ht]
theorem ed_classE {Q : Option Value → Shared → Prop} (T : L2.ExcC K D) (X : K.In s.heap) (I : InstAt s.heap x ox D od) (h : Q (some (.ref D)) { s with toks := s.toks + 1 }) : wpAny (model prog w) A (getAttr? (.ref x) "__class__") Q E s := by
  have hf : findObj K D od "__class__" = some (.bind (.builtin "getset_descriptor.__get__") (.builtin "object.__class__")) := ed_findClass (by obtain ⟨cd, hc, _⟩ := any_some T.hd; rw [hc]; rfl) T.ha T.hn T.ht
  obtain ⟨hp, g, d, t, os⟩ := s
  have L0 := I.type (M := model prog w)
  have L1 := looks_findIn (M := model prog w) X T.hg
  have L2' := looks_findIn (M := model prog w) X T.hk
  have L3 := looks_find (M := model prog w) X I hf
  have sub : Looks (model prog w) hp (isInstance (.ref x) (.type "BaseException")) true := L0.andThen (looks_subIn X T.hs)
  have hx0 : (false && onTheHeap (Value.builtin "BaseException.__getattribute__")) = false := rfl
  have hx2 : (Value.builtin "BaseException.__getattribute__" == Value.builtin "object.__getattribute__") = false := by decide +kernel
  have hx1 : (onTheHeap (Value.ref D) && Value.builtin "BaseException.__getattribute__" == Value.builtin "object.__getattribute__") = false := by rw [hx2]; rfl
  unfold getAttr? getAttrBy? getAttrBy
  refine wpAny_bind (wpAny_mkText (wpAny_bind (wpAny_attempt (wpAny_holding (wpAny_bind (L0.at (wpAny_bind (L1.at ?_))))))))
  show wpAny _ _ (if (onTheHeap (Value.ref D) && Value.builtin "BaseException.__getattribute__" == Value.builtin "object.__getattribute__") = true then _ else _) _ _ _
  rw [hx1, if_neg Bool.false_ne_true]
  unfold getAttrByItsOwn hookBefore
  refine wpAny_bind ?_
  rw [if_pos (show onTheHeap (Value.ref D) = true from rfl)]
  refine L2'.at ?_
  refine wpAny_bind (wpAny_attempt (wpAny_holding ?_))
  unfold callGetattribute
  rw [hx0, if_neg Bool.false_ne_true]
  unfold boundAndCalled
  rw [PySem.F.excAttr_ValueError.ga.bind (.ref x)]
  refine wpAny_bind (wpAny_pure ?_)
  show wpAny _ _ (call (.builtin "BaseException.__getattribute__") [.ref x, .str "__class__" t]) _ _ _
  refine wpAny_call (codeAny_call_builtin PySem.F.excAttr_ValueError.ga.plain PySem.F.entry_bexc_ga ?_)
  refine @check_slot (model prog w) _ _ ⟨hp, g, d, t + 1, os⟩ "BaseException.__getattribute__" "BaseException" "__getattribute__" (.ref x) [.str "__class__" t] [] _ (by decide +kernel) (by decide +kernel) sub (PySem.F.args_bexc_ga (.ref x) (.str "__class__" t)) ?_
  unfold Builtin.«object.__getattribute__»
  refine wpAny_bind (wpAny_of_eq (a := ((Value.ref x : Value), [Value.str "__class__" t])) (by first | rfl | (simp only [slotArgs]; rfl)) ?_)
  refine wpAny_bind (wpAny_pure (wpAny_bind (L0.at (wpAny_bind (L3.at ?_)))))
  show wpAny _ _ (holding [Value.builtin "object.__class__"] (call (.builtin "getset_descriptor.__get__") [.builtin "object.__class__", .ref x, .ref D]) >>= ret) _ _ _
  refine wpAny_bind (wpAny_holding (wpAny_call (class_get (s := ⟨hp, g, d, t + 1, os⟩) (ox := ox) (od := od) X I T.hm ?_)))
  refine wpAny_pure ?_
  show wpAny _ _ (handedOut (.ref D)) _ _ _
  rw [handedOut_of (v := .ref D) rfl]
  first
    | exact wpAny_pure (wpAny_pure h)
    | exact wpAny_pure h
    | exact wpAny_pure (wpAny_bind (wpAny_pure (wpAny_pure h)))
theorem ed_kitx (T : L2.ExcC K D) : KitX K (.ref x) (.ref D) (fun h => InstAt h x ox D od) where
  ty := fun _ _ _ I => I.type
  it := fun _ _ X _ => by
    obtain ⟨cdD, hcD, _⟩ := any_some T.hd
    unfold clsIn at hcD
    split at hcD
    · rename_i c' d' cd' sl' ho
      intro A' Q' E' s' k q
      unfold isType loadHead
      exact wpAny_bind (wpAny_loadPart (k _ _ (X _ _ ho)) (wpAny_pure q))
    · cases hcD
  ne := fun h tp dd its n sl X htp => by
    obtain ⟨cdD, hcD, _⟩ := any_some T.hd
    refine Bool.eq_false_iff.mpr fun q => ?_
    have e : D = tp := Value.ref.inj (beq_iff_eq.mp q)
    subst e
    unfold clsIn at hcD
    split at hcD
    · rename_i c' d' cd' sl' ho
      have z := (X _ _ ho).symm.trans htp
      cases z
    · cases hcD
  ca := fun X I k => ed_classE T X I k
end
end PySem.W
namespace L2
open PySem PySem.Spec PyProof.Rows
/-- isinstance(e, c), e the suite's error; od its dict -/
def rIsED (K : PySem.W.Frag) (D a : Addr) (od : Option Addr) : List V → Hp → VK → Prop := fun xs H Q => ∃ (c : V) (cv : Value) (b : Bool), xs = [.ref a, c] ∧ (∀ u, RelV c u → u = cv) ∧ PySem.W.kitOne K (.ref D) cv = some b ∧ (∀ dd, od = some dd → ∃ fs, H dd = some (.xd fs)) ∧ Q (.bl b) H
theorem call_isED {X : Cx} {a D : Addr} {oe : Obj} {od : Option Addr} {pn : List (Addr × Obj)} (C : ExcC X.K D) (hz : Zc (.ref D) od oe) (hf : ∃ vs, oe.data = .fields vs) : CallR (X.suite a ((a, oe) :: pn)) (.builtin "isinstance") (rIsED X.K D a od) := by
  intro pins s σ H xs us Q I r h
  obtain ⟨c, cv, b, rfl, hcv, e, hd, q⟩ := h
  cases r with
  | cons rx rr =>
    cases rr with
    | cons rt rr =>
      cases rr
      cases rx
      have ec := hcv _ rt
      subst ec
      obtain ⟨hget, _⟩ := I.pin (a, oe) (List.mem_append.mpr (.inl List.mem_cons_self))
      obtain ⟨vs, hv⟩ := hf
      obtain ⟨odo, J⟩ : ∃ odo : Option Obj, PySem.W.InstAt s.heap a oe D odo := by
        cases od with
        | none =>
          refine ⟨none, hget, hz.1, by unfold PySem.W.notCls; rw [hv] <;> rfl, by rw [hz.2]; trivial⟩
        | some dd =>
          obtain ⟨fs, hxd⟩ := hd dd rfl
          have hx : ObjOk X.prog X.w H s.heap dd (.xd fs) := I.hok dd _ hxd
          obtain ⟨mA, hns, _⟩ := hx
          obtain ⟨oo, ho, _⟩ := lookIn_ns hns
          exact ⟨some oo, hget, hz.1, by unfold PySem.W.notCls; rw [hv] <;> rfl, by rw [hz.2]; exact ho⟩
      exact PySem.W.kia_one (PySem.W.ed_kitx C) I.kIn J e (fun z => nomatch z) fun tk => ⟨.bl b, H, I.kept (t' := tk) fun _ _ z => z, rfl, q⟩
end L2
namespace Ed
open PySem L2
section
variable {X : Cx} {cn : Cn} {W : WX} {pos : Pos}
/-- isinstance(err, D) in an except suite -/
theorem je_isED {i : Nat} {is : Nat → Option Bool} {a0 : Addr} {oe : Obj} {cls : Value} {od : Option Addr} {pn : List (Addr × Obj)} {m : Str} {b : Expr} {p p1 : Pos} {v : V} {u : Value} (hx0 : cn.ex = some (a0, cls, od)) (hz : Zc cls od oe) (hf : ∃ vs, oe.data = .fields vs)
    (hg : Gl X "isinstance") (hm : X.mg "isinstance" = none) (h2 : JC (X.suite a0 ((a0, oe) :: pn)) b v u)
    (T : ∀ c k, is c = some k → ExcC X.K (cn.ca c) ∧ PySem.W.kitOne X.K (.ref (cn.ca c)) u = some k)
    (hN : X.N[i]? = some m := by rfl) (hv : Vis X.env.scope m := by first | exact Or.inl rfl | exact Or.inr (Or.inl rfl) | exact Or.inr (Or.inr rfl)) (hd : (m == ("__debug__" : Str)) = false := by decide)
    (hcd : (m == ("__classdict__" : Str)) = false := by decide)
    (he : starEach [.Name m p1, b] X.env = (false, eval (.Name m p1) X.env) :: starEach [b] X.env := by rfl) (he2 : starEach [b] X.env = (false, eval b X.env) :: starEach [] X.env := by rfl) (hpl : (backTo pos (starEach [b] X.env)).any (·.1) = false := by rfl) :
    JE (X.suite a0 ((a0, oe) :: pn)) cn W (.Call (.Name "isinstance" p) [.Name m p1, b] [] pos) (eIsED i is) := by
  by_cases h : ∃ c k, is c = some k ∧ cls = .ref (cn.ca c)
  · obtain ⟨c, kk, hc, rfl⟩ := h
    obtain ⟨T1, T2⟩ := T c kk hc
    refine ⟨_, pe_callB (X := X.suite a0 ((a0, oe) :: pn)) (call_isED T1 hz hf) hg hm rfl (pa_cons (X := X.suite a0 ((a0, oe) :: pn)) (pe_var (X := X.suite a0 ((a0, oe) :: pn)) (i := i) (x := m) (pos := p1) hN hv hd hcd) (pa_cons (X := X.suite a0 ((a0, oe) :: pn)) h2.1 pa_nil he2) he) (by decide) (by decide) he hpl, fun C Γ σ F H Q R k => ?_⟩
    unfold eIsED at k
    cases g : get Γ i with
    | exn x =>
      rw [g] at k
      dsimp only at k
      cases el : is x.c with
      | none => rw [el] at k; exact k.elim
      | some d =>
        rw [el] at k
        obtain ⟨e1, rx⟩ := eX_at R g hx0
        refine ⟨_, e1, v, u, d, rfl, fun w r => h2.2.eq r, by rw [rx.1]; exact (T x.c d el).2, fun dd hdd => ?_, k (.bl d) F H (Same.refl _) R (.bl d)⟩
        rcases rx.2 with ⟨_, h0⟩ | ⟨d2, fvs, h1, h2, _⟩
        · rw [h0] at hdd; cases hdd
        · rw [h1] at hdd; cases hdd
          exact ⟨fvs, R.bs.fh _ _ h2⟩
    | _ => rw [g] at k; exact k.elim
  · refine ⟨fun _ _ _ => False, ⟨fun _ _ _ _ _ _ z => z.elim⟩, fun C Γ σ F H Q R k => ?_⟩
    unfold eIsED at k
    cases g : get Γ i with
    | exn x =>
      rw [g] at k
      dsimp only at k
      cases el : is x.c with
      | none => rw [el] at k; exact k.elim
      | some d =>
        obtain ⟨e1, rx⟩ := eX_at R g hx0
        exact h ⟨x.c, d, el, rx.1⟩
    | _ => rw [g] at k; exact k.elim
end
end Ed

set_option autoImplicit true
set_option Elab.async false
set_option linter.all false
set_option maxRecDepth 100000
set_option maxHeartbeats 4000000
set_option autoImplicit false
/-! methods of texts and lists; constants -/
namespace Ed
open PySem L2 ClX
section
variable {X : Cx} {cn : Cn} {W : WX} {e o : Expr} {es : List Expr} {pos apos cpos : Pos} {qa : QV} {av : AV}
/-- a method's reading is had from the data -/
def RMD (K : PySem.W.Frag) (cn : Cn) (r : V → List V → Hp → VK → Prop) (f : D → List D → Option D) : Prop := ∀ F H x vs dx ds d Q, Same F H → Shal K cn F H x dx → Paired (fun v d => Shal K cn F H v d) vs ds → f dx ds = some d → (∀ z F' H', Ext F H F' H' → Rep K cn F' z d → Q z H') → r x vs H Q
def RMN (K : PySem.W.Frag) (cn : Cn) (r : V → List V → Hp → VK → Prop) (f : D → List D → Option D) : Prop := ∀ F H x vs dx ds d Q, Same F H → Shal K cn F H x dx → Paired (fun v d => Shal K cn F H v d) vs ds → f dx ds = some d → (∀ p vs ds, d = .lst ds → H p = none → Reps K cn F vs ds → Q (.ref p) (upd H p (.lst vs))) → r x vs H Q
theorem kind_ty {T : String} {F H : Hp} {x : V} {d : D} (h : kindD T d = true) (hx : Shal X.K cn F H x d) : tyV X.K T x H := by
  cases d with
  | str z => rw [hx.str]; exact eq_of_beq h
  | lst ds => obtain ⟨a, vs, rfl, ha, _⟩ := hx; exact .inl ⟨eq_of_beq h, _, SqL.of ha⟩
  | _ => cases h
theorem de_BM {t1 : TE} {t : TA} {T : String} {r : V → List V → Hp → VK → Prop} {f : D → List D → Option D} (h : RMD X.K cn r f) (h1 : DQ cn W X.K t1 qa) (h2 : DA cn W X.K t av) : DE cn W X.K (tBM X.K T r t1 t) (eBMT (kindD T) f qa av) := fun C Γ σ F H Q R k => by
  refine h1 C Γ σ F H _ R (k.bind.mono (fun p k v F' H' s1 R1 hv => ?_) fun _ _ z => z)
  cases e0 : rd p.2 p.1 with
  | none => simp only [e0] at k; exact k.elim
  | some d0 =>
    simp only [e0] at k
    by_cases hk : kindD T d0 = true
    · rw [if_pos hk] at k
      refine ⟨kind_ty hk (R1.rd e0 hv), ?_⟩
      refine h2 C p.2 σ F' H' _ R1 (k.bind.mono (fun q k ws F2 H2 s2 R2 hw => ?_) fun _ _ z => XW.up s1 z)
      cases e1 : rd q.2 p.1 with
      | none => simp only [e1] at k; exact k.elim
      | some d1 =>
        cases e2 : rds q.2 q.1 with
        | none => simp only [e1, e2] at k; exact k.elim
        | some ds =>
          simp only [e1, e2] at k
          obtain ⟨z, e3, k⟩ := k.bind.of
          exact h F2 H2 v ws d1 ds z Q R2.bs.fh (R2.rd e1 (hv.mono s2)) (rds_ok R2 e2 hw) e3 fun zv F3 H3 ex rz => k zv F3 H3 ((s1.trans s2).trans ex.f) (R2.ext ex) rz
    · rw [if_neg hk] at k; exact k.elim
theorem dn_BM {t1 : TE} {t : TA} {T : String} {r : V → List V → Hp → VK → Prop} {f : D → List D → Option D} (h : RMN X.K cn r f) (h1 : DQ cn W X.K t1 qa) (h2 : DA cn W X.K t av) (hf : ∀ x y z, f x y = some z → ∃ l, z = .lst l) : DN cn W X.K (tBM X.K T r t1 t) (eBMT (kindD T) f qa av) := fun C Γ σ F H Q R k => by
  refine h1 C Γ σ F H _ R (k.bind.mono (fun p k v F' H' s1 R1 hv => ?_) fun _ _ z => z)
  cases e0 : rd p.2 p.1 with
  | none => simp only [e0] at k; exact k.elim
  | some d0 =>
    simp only [e0] at k
    by_cases hk : kindD T d0 = true
    · rw [if_pos hk] at k
      refine ⟨kind_ty hk (R1.rd e0 hv), ?_⟩
      refine h2 C p.2 σ F' H' _ R1 (k.bind.mono (fun q k ws F2 H2 s2 R2 hw => ?_) fun _ _ z => XW.up s1 z)
      cases e1 : rd q.2 p.1 with
      | none => simp only [e1] at k; exact k.elim
      | some d1 =>
        cases e2 : rds q.2 q.1 with
        | none => simp only [e1, e2] at k; exact k.elim
        | some ds =>
          simp only [e1, e2] at k
          obtain ⟨z, e3, k⟩ := k.bind.of
          refine h F2 H2 v ws d1 ds z Q R2.bs.fh (R2.rd e1 (hv.mono s2)) (rds_ok R2 e2 hw) e3 fun a vs ds ez ha hr => ?_
          subst ez
          obtain ⟨r3, nw⟩ := NewR.laid R2 hr ha
          exact k (.ref a) F2 _ (s1.trans s2) r3 nw
    · rw [if_neg hk] at k; exact k.elim
theorem je_bm {T id : String} {name : Str} {r : V → List V → Hp → VK → Prop} {f : D → List D → Option D} (pa : PlainAttrs T) (slot : Slot T name id) (hty : typeOf (.builtin id) = pure (.type "method_descriptor")) (hm : MtR X id r) (h : RMD X.K cn r f) (ho : JQ X cn W o qa) (ha : JA X cn W (e :: es) av)
    (hbase : attributeBase o name X.env (eval o X.env) = eval o X.env := by rfl)
    (hfew : ((backTo cpos (starEach (e :: es) X.env)).all (fun x => !x.1) && (backToKw cpos (keywordEach [] X.env)).all (fun x => x.1.isSome)
      && decide ((e :: es).length + ([] : List Keyword).length + (if ([] : List Keyword).isEmpty then 0 else 1) < 30)) = true := by rfl)
    (hline : (apos.endLine == cpos.line) = true := by rfl) (hs : starEach (e :: es) X.env = (false, eval e X.env) :: starEach es X.env := by rfl) (hplain : (backTo cpos (starEach es X.env)).any (·.1) = false := by rfl) :
    JE X cn W (.Call (.Attribute o name apos) (e :: es) [] cpos) (eBMT (kindD T) f qa av) := by
  obtain ⟨t1, p1, d1⟩ := ho
  obtain ⟨t2, p2, d2⟩ := ha
  exact ⟨_, pe_bm pa slot hty hm p1 p2 hbase hfew hline hs hplain, de_BM h d1 d2⟩
theorem jn_bm {T id : String} {name : Str} {r : V → List V → Hp → VK → Prop} {f : D → List D → Option D} (pa : PlainAttrs T) (slot : Slot T name id) (hty : typeOf (.builtin id) = pure (.type "method_descriptor")) (hm : MtR X id r) (h : RMN X.K cn r f) (hf : ∀ x y z, f x y = some z → ∃ l, z = .lst l) (ho : JQ X cn W o qa) (ha : JA X cn W (e :: es) av)
    (hbase : attributeBase o name X.env (eval o X.env) = eval o X.env := by rfl)
    (hfew : ((backTo cpos (starEach (e :: es) X.env)).all (fun x => !x.1) && (backToKw cpos (keywordEach [] X.env)).all (fun x => x.1.isSome)
      && decide ((e :: es).length + ([] : List Keyword).length + (if ([] : List Keyword).isEmpty then 0 else 1) < 30)) = true := by rfl)
    (hline : (apos.endLine == cpos.line) = true := by rfl) (hs : starEach (e :: es) X.env = (false, eval e X.env) :: starEach es X.env := by rfl) (hplain : (backTo cpos (starEach es X.env)).any (·.1) = false := by rfl) :
    JN X cn W (.Call (.Attribute o name apos) (e :: es) [] cpos) (eBMT (kindD T) f qa av) := by
  obtain ⟨t1, p1, d1⟩ := ho
  obtain ⟨t2, p2, d2⟩ := ha
  exact ⟨_, pe_bm pa slot hty hm p1 p2 hbase hfew hline hs hplain, dn_BM h d1 d2 hf⟩
/-- C.f, a constant of a class -/
theorem je_cval {x : Str} {p : Pos} {C : Addr} {f : Str} {v : V} {u : Value} {d : D} {mc : Value} (hg : Gl X x) (hm : X.mg x = some (.ref C)) (R : CRead X.K C mc) (c : CVal X.K C mc f v u) (h : ∀ F, Rep X.K cn F v d) (hd : (x == ("__debug__" : Str)) = false := by decide)
    (hb : attributeBase (.Name x p) f X.env (eval (.Name x p) X.env) = eval (.Name x p) X.env := by rfl) : JE X cn W (.Attribute (.Name x p) f pos) (eC d) :=
  ⟨_, pe_cval (pe_glob (v := .ref C) hg hm rfl hd) hb, fun C' Γ σ F H Q R' k => ⟨C, mc, v, u, rfl, R, c, k v F H (Same.refl _) R' (h F)⟩⟩
end
end Ed

set_option autoImplicit true
set_option Elab.async false
set_option linter.all false
set_option maxRecDepth 100000
set_option maxHeartbeats 4000000
set_option autoImplicit false
/-! raise with fields: the lengths; the __init__ of such a class -/
namespace Ed
open PySem L2
def LenV (lv : LV) (n : Nat) : Prop := ∀ Γ ds Γ', lv Γ = .ok (ds, Γ') → ds.length = n
theorem len_nil : LenV lNil 0 := fun Γ ds Γ' h => by
  unfold lNil at h
  cases h; rfl
theorem len_cons {a : EV} {l : LV} {n : Nat} (h : LenV l n) : LenV (lCons a l) (n + 1) := fun Γ ds Γ' e => by
  unfold lCons at e
  cases ea : a Γ with
  | bad => rw [ea] at e; cases e
  | exc _ _ => rw [ea] at e; cases e
  | ok q =>
    rw [ea] at e
    obtain ⟨x, Γ1⟩ := q
    simp only [R.bind] at e
    cases el : l Γ1 with
    | bad => rw [el] at e; cases e
    | exc _ _ => rw [el] at e; cases e
    | ok q2 =>
      rw [el] at e
      obtain ⟨xs, Γ2⟩ := q2
      have := h _ _ _ el
      cases e
      simp [this]
section
variable {P : Program} {w : World} {K : PySem.W.Frag} {mg : Str → Option Value} {base : Heap}
theorem okX1 {C : Addr} {x qual f1 p1 : Str} {st : Stmt} {f : Addr} {fd : FuncData} {a b c pos : Pos} {nS nV : Str} (F : Fun K x qual st f fd) (S : FnScope ["self", p1] ["self", p1] (defScope st)) (T : OexC K C) (h1 : PySem.W.findIn K (.ref C) f1 = some none)
    (hb : defBody st = [.Assign [.Attribute (.Name "self" a) f1 b] (.Name p1 c) pos])
    (hk : ∀ (cdv : Value) (A : Around) (outer : List PySem.Env) (s : Shared) (H : Hp) (E : XK), ∃ t, PSs (cxOf CX0 P w K mg base ["self", p1] qual (defScope st) f cdv A outer s H E).nox (defBody st) t ∧ t = (fun D σ H => tOst K f1 (tVar 0) (tVar 1) D σ H)) :
    FnOk P w K mg base CX0 1 f fd ["self", p1] (spXv C [f1]) :=
  F.ok S (fun vs H Q E h => by obtain ⟨a, ws, rfl, hl, _⟩ := h; simpa using hl) fun cdv A outer s H vs Q E hr h => by
    obtain ⟨a, ws, rfl, hl, ha, k⟩ := h
    obtain ⟨t, pt, rfl⟩ := hk cdv A outer s H E
    match ws, hl with
    | [w1], _ => exact ⟨_, pt, ost1 T h1 ha k⟩
end
end Ed

set_option autoImplicit true
set_option Elab.async false
set_option linter.all false
set_option maxRecDepth 100000
set_option maxHeartbeats 4000000
set_option autoImplicit false
/-! o[i] by an own __getitem__; is of bools -/
namespace L2
open PySem PySem.Spec PyProof.Rows
section
variable {X : Cx} {W : WX} {C f : Addr} {sp : Sp} {k : Nat} {fd : FuncData} {ps : List Str} {ta tb : TE} {a b : Expr} {pos : Pos}
theorem pe_ownSub (hm : Meth X.K C "__getitem__" f) (hfn : PySem.W.fnIn X.K f = true) (F : FnOk X.prog X.w X.K X.mg X.base (L2.CX X.prog X.w) k f fd ps sp) (hr : Room (k + 1) X.A) (hb : Binds X.K fd ps []) (tk : Takes X W) (ha : PE X a ta) (hb2 : PE X b tb)
    (hsl : ∀ x i, subscripted b true (.ref x) i = runValue (.builtin "lifetime.subscript" ⟨[.ref x, i], []⟩) := by intro _ _; rfl) :
    PE X (.Subscript a b pos) (tOwnIx C sp W ta tb) := by
  refine ⟨fun pins s σ H Q I h => ?_⟩
  refine PyProof.Rows.Subscript_ (binT ha hb2 I h fun v u s2 x y H2 I2 rx ry q => ?_)
  obtain ⟨a, dx, fs, rfl, ha, q⟩ := q
  obtain rfl : v = Value.ref a := rx
  obtain ⟨m, F0⟩ := I2.fr
  obtain ⟨od, J⟩ := ins_atS I2 ha
  refine PySem.W.sub_K F0 I2.mod.kin J hm.at_ hfn hm.fn ?_ (hsl a u)
  exact runS F hr.in1 I2.env0.in1 hb tk I2 (us := [.ref a, u]) (vs := [.ref a, y]) (.cons rfl (.cons ry .nil)) q
end
end L2
namespace Ed
open PySem L2
section
variable {X : Cx} {cn : Cn} {W : WX} {c : Nat} {f : Addr} {Ff : FV} {k : Nat} {fd : FuncData} {ps : List Str} {ea eb : EV} {a b : Expr} {pos : Pos}
theorem je_ownIx (hm : Meth X.K (cn.ca c) "__getitem__" f) (hfn : PySem.W.fnIn X.K f = true) (F : FnOk X.prog X.w X.K X.mg X.base (L2.CX X.prog X.w) k f fd ps (spD X.K cn [false, false] Ff)) (hr : Room (k + 1) X.A) (hb : Binds X.K fd ps []) (tk : Takes X W) (ha : JE X cn W a ea) (hb2 : JE X cn W b eb)
    (hsl : ∀ x i, subscripted b true (.ref x) i = runValue (.builtin "lifetime.subscript" ⟨[.ref x, i], []⟩) := by intro _ _; rfl) :
    JE X cn W (.Subscript a b pos) (eOwnX c Ff ea eb) := by
  obtain ⟨t1, p1, d1⟩ := ha
  obtain ⟨t2, p2, d2⟩ := hb2
  refine ⟨_, pe_ownSub hm hfn F hr hb tk p1 p2 hsl, fun C Γ σ F0 H Q R k => ?_⟩
  refine d1 C Γ σ F0 H _ R (k.bind.mono (fun p k v F' H' s1 R1 hv => ?_) fun _ _ z => z)
  refine d2 C p.2 σ F' H' _ R1 (k.bind.mono (fun q k w F2 H2 s2 R2 hw => ?_) fun _ _ z => XW.up s1 z)
  obtain ⟨x1, Γ1⟩ := p
  obtain ⟨x2, Γ2⟩ := q
  cases x1 with
  | ins c1 fs1 =>
    dsimp only at k hv hw R2
    by_cases ec : c1 = c
    · rw [if_pos ec] at k
      have kk := k
      subst ec
      obtain ⟨a1, dx, fvs, ev, ha, _⟩ := insOf (hv.mono s2)
      exact ⟨a1, dx, fvs, ev, R2.bs.fh _ _ ha, call_ok (vs := [v, w]) (ps := [.pd (.ins _ fs1), .pd x2]) R2 ⟨hv.mono s2, hw, True.intro⟩ (kk.bind.mono (fun _ z => z) fun _ _ z => XW.up (s1.trans s2) z) fun o Γ3 v3 F3 H3 hP s3 R3 dv => dvn_e ((s1.trans s2).trans s3) R3 dv hP⟩
    · rw [if_neg ec] at k; exact k.elim
  | _ => exact k.elim
theorem r_isB {K : PySem.W.Frag} : R2D K cn (fun x y H Q => ∃ a b, x = V.bl a ∧ y = V.bl b ∧ Q (V.bl (decide (a = b))) H) dIsB := fun F H x y dx dy d Q s hx hy e k => by
  cases dx with
  | bl a => cases dy with
    | bl b =>
      cases e
      have ex : x = V.bl a := by cases (show Rep K cn F x _ from hx); rfl
      have ey : y = V.bl b := by cases (show Rep K cn F y _ from hy); rfl
      exact ⟨a, b, ex, ey, k _ F H (ext0 s) (.bl _)⟩
    | _ => cases e
  | _ => cases e
theorem r_notB {K : PySem.W.Frag} : R2D K cn (fun x y H Q => ∃ a b, x = V.bl a ∧ y = V.bl b ∧ Q (V.bl (!decide (a = b))) H) dNotB := fun F H x y dx dy d Q s hx hy e k => by
  cases dx with
  | bl a => cases dy with
    | bl b =>
      cases e
      have ex : x = V.bl a := by cases (show Rep K cn F x _ from hx); rfl
      have ey : y = V.bl b := by cases (show Rep K cn F y _ from hy); rfl
      exact ⟨a, b, ex, ey, k _ F H (ext0 s) (.bl _)⟩
    | _ => cases e
  | _ => cases e
end
end Ed

set_option autoImplicit true
set_option Elab.async false
set_option linter.all false
set_option maxRecDepth 100000
set_option maxHeartbeats 4000000
set_option autoImplicit false
/-! xs.index(y), s.index(t) -/
namespace Ed
open PySem L2
section
variable {X : Cx} {cn : Cn}
theorem idx_ok {F : Hp} {y : V} {dy : D} (h2 : flat dy = true) (q : Rep X.K cn F y dy) : ∀ {vs : List V} {ds : List D} {n : Nat}, Reps X.K cn F vs ds → ds.all flat = true → idxD dy ds = some n →
    ∃ z, vs[n]? = some z ∧ eqV z y = true ∧ ∀ (m : Nat) (z' : V), m < n → vs[m]? = some z' → eqV z' y = false
  | vs, [], n, r, hf, h => by cases h
  | vs, d :: ds, n, r, hf, h => by
    obtain ⟨v, vs', rfl, r1, r2⟩ := r.inv
    rw [List.all_cons, Bool.and_eq_true] at hf
    unfold idxD at h
    have e := flat_eqV h2 hf.1 q r1
    by_cases c : deq d dy = true
    · rw [if_pos c] at h
      cases h
      exact ⟨v, rfl, e.trans c, fun m _ hm _ => absurd hm (Nat.not_lt_zero m)⟩
    · rw [if_neg c] at h
      cases ei : idxD dy ds with
      | none => rw [ei] at h; cases h
      | some k =>
        rw [ei] at h
        cases h
        obtain ⟨z, a1, a2, a3⟩ := idx_ok h2 q r2 hf.2 ei
        refine ⟨z, by simpa using a1, a2, fun m z' hm hz => ?_⟩
        cases m with
        | zero => rw [List.getElem?_cons_zero] at hz; cases hz; rw [e]; simpa using c
        | succ m => exact a3 m z' (Nat.lt_of_succ_lt_succ hm) (by simpa using hz)
def rSIdx : V → List V → Hp → VK → Prop := fun x xs H Q => ∃ (a b : Str) (i : Nat) (rest : List Nat), x = V.str a ∧ xs = [V.str b] ∧ Builtin.Str.occurrences a b 0 a.length 1 = i :: rest ∧ Q (.int (i : Nat)) H
theorem pair1 {F H : Hp} {vs : List V} {d : D} (p : Paired (fun v d => Shal X.K cn F H v d) vs [d]) : ∃ v, vs = [v] ∧ Shal X.K cn F H v d := by
  cases p with
  | cons h t => cases t; exact ⟨_, rfl, h⟩
theorem rm_index : RMD X.K cn (rIndex X.K) dLIdx := fun F H x vs dx ds d Q s hx hp e k => by
  cases dx with
  | lst xs =>
    match ds, hp, e with
    | [dy], hp, e =>
      obtain ⟨v, rfl, hv⟩ := pair1 hp
      have e : (if flat dy && xs.all flat then (idxD dy xs).map fun n => D.int n else none) = some d := e
      split at e
      · rename_i h
        rw [Bool.and_eq_true] at h
        obtain ⟨a, ws, rfl, ha, q⟩ := hx
        cases ei : idxD dy xs with
        | none => rw [ei] at e; cases e
        | some n =>
          rw [ei] at e
          cases e
          have rv := flat_rep h.1 hv
          obtain ⟨z, a1, a2, a3⟩ := idx_ok h.1 rv q h.2 ei
          exact ⟨a, ws, v, n, z, rfl, rfl, SqL.of ha, flat_v h.1 rv, (flat_any h.1 rv xs ws h.2 q).1, a1, a2, a3, k _ F H (ext0 s) (.int _)⟩
      · cases e
    | [], hp, e => cases e
    | _ :: _ :: _, hp, e => cases e
  | _ => cases e
theorem rm_sindex : RMD X.K cn rSIdx dSIdx := fun F H x vs dx ds d Q s hx hp e k => by
  cases dx with
  | str a =>
    match ds, hp, e with
    | [.str b], hp, e =>
      obtain ⟨v, rfl, hv⟩ := pair1 hp
      have e : ((Builtin.Str.occurrences a b 0 a.length 1).head?.map fun n => D.int n) = some d := e
      have ev : v = V.str b := hv.str
      subst ev
      cases eo : Builtin.Str.occurrences a b 0 a.length 1 with
      | nil => rw [eo] at e; cases e
      | cons i rest =>
        rw [eo] at e
        cases e
        exact ⟨a, b, i, rest, hx.str, rfl, eo, k _ F H (ext0 s) (.int _)⟩
    | [], hp, e => cases e
    | .non :: _, hp, e => cases e
    | .bl _ :: _, hp, e => cases e
    | .int _ :: _, hp, e => cases e
    | .lst _ :: _, hp, e => cases e
    | .tup _ :: _, hp, e => cases e
    | .dct _ :: _, hp, e => cases e
    | .ins _ _ :: _, hp, e => cases e
    | .scr _ :: _, hp, e => cases e
    | .str _ :: _ :: _, hp, e => cases e
  | _ => cases e
end
end Ed

set_option autoImplicit true
set_option Elab.async false
set_option linter.all false
set_option maxRecDepth 100000
set_option maxHeartbeats 4000000
set_option autoImplicit false
/-! more operations -/
namespace Ed
open PySem L2
section
variable {X : Cx} {cn : Cn}
theorem r_band : R2D X.K cn (rI0 fun i j => .int (Builtin.bitAnd i j)) dBAnd := r2i0 fun dx dy d e => by
  cases dx <;> cases dy <;> first | (cases e; exact ⟨_, _, rfl, rfl, fun _ => .int _⟩) | cases e
theorem r_bor : R2D X.K cn (rI0 fun i j => .int (Builtin.bitOr i j)) dBOr := r2i0 fun dx dy d e => by
  cases dx <;> cases dy <;> first | (cases e; exact ⟨_, _, rfl, rfl, fun _ => .int _⟩) | cases e
/-- a tuple of the text, of numbers and texts -/
theorem tup_const {K : PySem.W.Frag} {a : Addr} {o : Obj} {its : List Value} {n : Nat} {vs : List V} {ds : List D} (h1 : K.lookup a = some o) (h2 : o.cls = .type "tuple") (h3 : o.data = .seq its.toArray n) (h4 : its.length ≤ 4096) (h5 : Vals vs its) (h6 : ∀ F, Reps K cn F vs ds) (F : Hp) : Rep K cn F (.ref a) (.tup ds) :=
  .tup (.inr ⟨o, its.toArray, n, h1, h2, h3, by rw [List.size_toArray, sizeLine_eq]; omega, by simpa using h5⟩) (h6 F).1 (h6 F).2
theorem je_tupc {W : WX} {x : Str} {p : Pos} {a : Addr} {ds : List D} (hg : Gl X x) (hm : X.mg x = some (.ref a)) (h : ∀ F, Rep X.K cn F (.ref a) (.tup ds)) (hd : (x == ("__debug__" : Str)) = false := by decide) : JE X cn W (.Name x p) (eC (.tup ds)) :=
  je_c (t := tC (.ref a)) (pe_glob (v := .ref a) hg hm rfl hd) h
end
end Ed

set_option autoImplicit true
set_option Elab.async false
set_option linter.all false
set_option maxRecDepth 100000
set_option maxHeartbeats 4000000
set_option autoImplicit false
/-! texts repeated; isinstance of a caught error and two classes; () as a default -/
namespace Ed
open PySem L2 PyProof.Rows
section
variable {X : Cx} {cn : Cn}
def rRepS : R2 := fun x y H Q => ∃ i n, x = .str i ∧ y = .int n ∧ -1000 ≤ n ∧ n ≤ 1000 ∧ i.length ≤ 1000 ∧ Q (.str (strRep i n.toNat)) H
theorem foldl_size (c : Array Nat) : ∀ (n : Nat) (a : Array Nat), ((List.replicate n c).foldl (· ++ ·) a).size = a.size + n * c.size
  | 0, a => by simp
  | n + 1, a => by rw [List.replicate_succ, List.foldl_cons, foldl_size c n, Array.size_append]; rw [Nat.succ_mul]; omega
theorem strRep_len (x : Str) (n : Nat) : (strRep x n).length = n * x.length := by
  have := foldl_size x.cps n #[]
  simpa [strRep, Str.length] using this
theorem strRep_one (x : Str) : strRep x 1 = x := by
  show (⟨(List.replicate 1 x.cps).foldl (· ++ ·) #[]⟩ : Str) = x
  simp
theorem strRep_zero (x : Str) : strRep x 0 = Str.empty := rfl
theorem strRep_nil {x : Str} (h : x.length = 0) (n : Nat) : strRep x n = x := by
  have h1 := strRep_len x n
  rw [h, Nat.mul_zero] at h1
  have e : ∀ y : Str, y.length = 0 → y = ⟨#[]⟩ := fun y hy => by
    obtain ⟨c⟩ := y
    have : c = #[] := Array.eq_empty_of_size_eq_zero hy
    rw [this]
  rw [e _ h1, e _ h]
theorem op_repS : OpR X (binaryOp .Mult) rRepS := by
  intro pins s σ H x y v u Q I rx ry h
  obtain ⟨i, n, rfl, rfl, h1, h2, h3, q⟩ := h
  obtain ⟨t, rfl⟩ := rx
  obtain ⟨t', rfl⟩ := ry
  have hl := strRep_len i n.toNat
  have hm : n.toNat * i.length ≤ 1000 * 1000 := Nat.mul_le_mul (by omega) h3
  refine P.mul_str ?_ (fun ha _ => ?_) (fun ha _ => ?_) ?_
  · rw [decide_eq_false (by omega), decide_eq_false (by omega)]; rfl
  · have hq : (1000 : Int) ≤ (2 ^ 63 - 1) / n := by
      rw [Int.le_ediv_iff_mul_le (by omega)]
      omega
    omega
  · unfold Builtin.Str.tooLong
    have hz : i.length * n.toNat ≤ 1000000 := by rw [Nat.mul_comm]; exact hm
    have : ¬ (i.length * n.toNat > sizeLine) := by rw [sizeLine_eq]; omega
    simp only [decide_eq_false this]
  · by_cases c : n < 1
    · rw [if_pos c]
      have e0 : n.toNat = 0 := by omega
      rw [e0] at q
      exact ⟨by decide, ⟨.str Str.empty, H, I.tok _, ⟨_, rfl⟩, q⟩⟩
    · rw [if_neg c]
      by_cases c2 : (n == 1 || i.length == 0) = true
      · rw [if_pos c2]
        have e : strRep i n.toNat = i := by
          rcases Bool.or_eq_true_iff.mp c2 with c2 | c2
          · have : n = 1 := by simpa using c2
            rw [this]; exact strRep_one i
          · exact strRep_nil (by simpa using c2) _
        rw [e] at q
        exact ⟨.str i, H, I, ⟨_, rfl⟩, q⟩
      · rw [if_neg c2]
        exact ⟨by rw [sizeLine_eq]; show (strRep i n.toNat).length ≤ _; rw [hl]; omega, ⟨.str (strRep i n.toNat), H, I.tok _, ⟨_, rfl⟩, q⟩⟩
theorem r_repS : R2D X.K cn rRepS dRepS := fun F H x y dx dy d Q s hx hy e k => by
  cases dx with
  | str i =>
    cases dy with
    | int n =>
      have e : (if -1000 ≤ n ∧ n ≤ 1000 ∧ i.length ≤ 1000 then some (D.str (strRep i n.toNat)) else none) = some d := e
      split at e
      · rename_i h; cases e; rw [hx.str, hy.int]; exact ⟨i, n, rfl, rfl, h.1, h.2.1, h.2.2, k _ F H (ext0 s) (.str _)⟩
      · cases e
    | _ => cases e
  | _ => cases e
theorem dfl_tup {K : PySem.W.Frag} {a : Addr} {ts : List D} (ht : ∀ (cn : Cn) F, Rep K cn F (.ref a) (.tup ts)) {ms : List Bool} {vs : List V} {ds : List D} {m : Bool} (h : ∀ F H, Same F H → ArgR K cn F H ms vs ds) : ∀ F H, Same F H → ArgR K cn F H (m :: ms) (.ref a :: vs) (.tup ts :: ds) := fun F H s => ⟨by cases m with | true => exact (ht cn F).shal s | false => exact ht cn F, h F H s⟩
end
end Ed

set_option autoImplicit true
set_option Elab.async false
set_option linter.all false
set_option maxRecDepth 100000
set_option maxHeartbeats 4000000
set_option autoImplicit false
/-! isinstance of a caught error and two classes -/
namespace L2
open PySem PySem.Spec PyProof.Rows
def rIsEDT (K : PySem.W.Frag) (D a : Addr) (od : Option Addr) : List V → Hp → VK → Prop := fun xs H Q => ∃ (tp : Addr) (cs : List V) (ws : List Value) (b : Bool), xs = [.ref a, .ref tp] ∧ H tp = some (.tup cs) ∧ Paired ClsV cs ws ∧ PySem.W.kitAny K (.ref D) ws = some b ∧ (∀ dd, od = some dd → ∃ fs, H dd = some (.xd fs)) ∧ Q (.bl b) H
theorem call_isEDT {X : Cx} {a D : Addr} {oe : Obj} {od : Option Addr} {pn : List (Addr × Obj)} (C : ExcC X.K D) (hz : Zc (.ref D) od oe) (hf : ∃ vs, oe.data = .fields vs) : CallR (X.suite a ((a, oe) :: pn)) (.builtin "isinstance") (rIsEDT X.K D a od) := by
  intro pins s σ H xs us Q I r h
  obtain ⟨tp, cs, ws, b, rfl, hT, k, e, hd, q⟩ := h
  cases r with
  | cons rx rr =>
    cases rr with
    | cons rt rr =>
      cases rr
      cases rx
      rename_i u2
      cases (show u2 = Value.ref tp from rt)
      obtain ⟨hget, _⟩ := I.pin (a, oe) (List.mem_append.mpr (.inl List.mem_cons_self))
      obtain ⟨vs, hv⟩ := hf
      obtain ⟨odo, J⟩ : ∃ odo : Option Obj, PySem.W.InstAt s.heap a oe D odo := by
        cases od with
        | none =>
          refine ⟨none, hget, hz.1, by unfold PySem.W.notCls; rw [hv] <;> rfl, by rw [hz.2]; trivial⟩
        | some dd =>
          obtain ⟨fs, hxd⟩ := hd dd rfl
          have hx : ObjOk X.prog X.w H s.heap dd (.xd fs) := I.hok dd _ hxd
          obtain ⟨mA, hns, _⟩ := hx
          obtain ⟨oo, ho, _⟩ := lookIn_ns hns
          exact ⟨some oo, hget, hz.1, by unfold PySem.W.notCls; rw [hv] <;> rfl, by rw [hz.2]; exact ho⟩
      obtain ⟨_, its, rv, o, h1, h2, n, h3⟩ := (show ObjOk X.prog X.w H s.heap tp (.tup cs) from I.hok tp _ hT)
      have e3 := ClsV.all k rv
      subst e3
      obtain ⟨oc, od2, dt, sl⟩ := o
      simp only at h2 h3
      subst h2 h3
      exact PySem.W.kia_tup (PySem.W.ed_kitx C) I.kIn J h1 e (fun z => nomatch z) fun tk => ⟨.bl b, H, I.kept (t' := tk) fun _ _ z => z, rfl, q⟩
end L2
namespace Ed
open PySem L2
theorem kit_any2 {K : PySem.W.Frag} {t u1 u2 : Value} {b1 b2 : Bool} (h1 : PySem.W.kitOne K t u1 = some b1) (h2 : PySem.W.kitOne K t u2 = some b2) : PySem.W.kitAny K t [u1, u2] = some (b1 || b2) := by
  refine kitAny_cons h1 (fun e => ?_) (fun e => by rw [e]; rfl)
  subst e
  refine kitAny_cons h2 (fun e => ?_) (fun e => by rw [e]; rfl)
  subst e
  rfl
section
variable {X : Cx} {cn : Cn} {W : WX} {pos : Pos}
/-- isinstance(err, (D, D2)) in an except suite -/
theorem je_isEDT {i : Nat} {is : Nat → Option Bool} {a0 : Addr} {oe : Obj} {cls : Value} {od : Option Addr} {pn : List (Addr × Obj)} {m : Str} {b1 b2 : Expr} {p p1 p2 : Pos} {x1} {v1 v2 : V} {u1 u2 : Value} (hx0 : cn.ex = some (a0, cls, od)) (hz : Zc cls od oe) (hf : ∃ vs, oe.data = .fields vs)
    (hg : Gl X "isinstance") (hm : X.mg "isinstance" = none) (h1 : JC (X.suite a0 ((a0, oe) :: pn)) b1 v1 u1) (h2 : JC (X.suite a0 ((a0, oe) :: pn)) b2 v2 u2)
    (T : ∀ c k, is c = some k → ExcC X.K (cn.ca c) ∧ PySem.W.kitAny X.K (.ref (cn.ca c)) [u1, u2] = some k)
    (hN : X.N[i]? = some m := by rfl) (hv : Vis X.env.scope m := by first | exact Or.inl rfl | exact Or.inr (Or.inl rfl) | exact Or.inr (Or.inr rfl)) (hd : (m == ("__debug__" : Str)) = false := by decide)
    (hcd : (m == ("__classdict__" : Str)) = false := by decide)
    (hq1 : starEach [b1, b2] X.env = (false, eval b1 X.env) :: starEach [b2] X.env := by rfl) (hq2 : starEach [b2] X.env = (false, eval b2 X.env) :: starEach [] X.env := by rfl)
    (he : starEach [.Name m p1, .Tuple [b1, b2] x1 p2] X.env = (false, eval (.Name m p1) X.env) :: starEach [.Tuple [b1, b2] x1 p2] X.env := by rfl) (he2 : starEach [.Tuple [b1, b2] x1 p2] X.env = (false, eval (.Tuple [b1, b2] x1 p2) X.env) :: starEach [] X.env := by rfl) (hpl : (backTo pos (starEach [.Tuple [b1, b2] x1 p2] X.env)).any (·.1) = false := by rfl) :
    JE (X.suite a0 ((a0, oe) :: pn)) cn W (.Call (.Name "isinstance" p) [.Name m p1, .Tuple [b1, b2] x1 p2] [] pos) (eIsED i is) := by
  by_cases h : ∃ c k, is c = some k ∧ cls = .ref (cn.ca c)
  · obtain ⟨c, kk, hc, rfl⟩ := h
    obtain ⟨T1, T2⟩ := T c kk hc
    have pt : PE (X.suite a0 ((a0, oe) :: pn)) (.Tuple [b1, b2] x1 p2) (tTup (tCons (tC v1) (tCons (tC v2) tNil))) := pe_tup (pa_cons (X := X.suite a0 ((a0, oe) :: pn)) h1.1 (pa_cons (X := X.suite a0 ((a0, oe) :: pn)) h2.1 pa_nil hq2) hq1)
    refine ⟨_, pe_callB (X := X.suite a0 ((a0, oe) :: pn)) (call_isEDT T1 hz hf) hg hm rfl (pa_cons (X := X.suite a0 ((a0, oe) :: pn)) (pe_var (X := X.suite a0 ((a0, oe) :: pn)) (i := i) (x := m) (pos := p1) hN hv hd hcd) (pa_cons (X := X.suite a0 ((a0, oe) :: pn)) pt pa_nil he2) he) (by decide) (by decide) he hpl, fun C Γ σ F H Q R k => ?_⟩
    unfold eIsED at k
    cases g : get Γ i with
    | exn x =>
      rw [g] at k
      dsimp only at k
      cases el : is x.c with
      | none => rw [el] at k; exact k.elim
      | some d =>
        rw [el] at k
        obtain ⟨e1, rx⟩ := eX_at R g hx0
        refine ⟨_, e1, by rw [sizeLine_eq]; show 2 ≤ 16777216; decide, fun tp htp => ?_⟩
        have ex := Ext.new0 (o := HO.tup [v1, v2]) R.bs.fh htp
        refine ⟨tp, [v1, v2], [u1, u2], d, rfl, upd_same, .cons h1.2 (.cons h2.2 .nil), by rw [rx.1]; exact (T x.c d el).2, fun dd hdd => ?_, k (.bl d) F _ (Same.refl _) (R.ext ex) (.bl d)⟩
        rcases rx.2 with ⟨_, h0⟩ | ⟨d2, fvs, q1, q2, _⟩
        · rw [h0] at hdd; cases hdd
        · rw [q1] at hdd; cases hdd
          exact ⟨fvs, ex.h _ _ (R.bs.fh _ _ q2)⟩
    | _ => rw [g] at k; exact k.elim
  · refine ⟨fun _ _ _ => False, ⟨fun _ _ _ _ _ _ z => z.elim⟩, fun C Γ σ F H Q R k => ?_⟩
    unfold eIsED at k
    cases g : get Γ i with
    | exn x =>
      rw [g] at k
      dsimp only at k
      cases el : is x.c with
      | none => rw [el] at k; exact k.elim
      | some d =>
        obtain ⟨e1, rx⟩ := eX_at R g hx0
        exact h ⟨x.c, d, el, rx.1⟩
    | _ => rw [g] at k; exact k.elim
end
end Ed

set_option autoImplicit true
set_option Elab.async false
set_option linter.all false
set_option maxRecDepth 100000
set_option maxHeartbeats 4000000
set_option autoImplicit false
/-! a walk over a text -/
namespace Ed
open PySem L2 PyProof.Rows
section
variable {X : Cx} {cn : Cn} {W : WX} {a : Expr} {qa : QV}
theorem itd_str {C : Ct} {F : Hp} (s : Str) : ItD X.K cn C F (Its s) (sgn s) := fun i F2 H2 sm b => by
  have hl : (sgn s).length = s.cps.size := by simp [sgn]
  refine ⟨fun d hd => ?_, fun hi => by
    show s.cps.size ≤ i
    rw [← hl]; exact hi⟩
  obtain ⟨hi, e⟩ := List.getElem?_eq_some_iff.mp hd
  have hi' : i < s.cps.size := by rw [← hl]; exact hi
  have e' : d = .str ⟨#[s.cps[i]]⟩ := by rw [← e]; simp [sgn]
  refine ⟨hi', fun x H3 y => ?_⟩
  obtain ⟨e1, c, hc, rfl⟩ := y
  subst e1
  have : c = s.cps[i] := by
    rw [Array.getElem?_eq_getElem hi'] at hc
    cases hc; rfl
  subst this
  rw [e']
  exact ⟨F2, Ext.refl b.fh, .str _⟩
theorem ji_str {tg : Expr} (ha : JQ X cn W a qa) : JI X cn W tg a (Ed.iSgn qa) := by
  obtain ⟨t, pe, d⟩ := ha
  refine ⟨_, pi_str pe, fun C Γ σ F H R RR k => ?_⟩
  refine d C Γ σ F H _ RR (k.bind.mono (fun p k v F' H' s1 R1 hv => ?_) fun _ _ z => z)
  obtain ⟨pv, Γ1⟩ := p
  dsimp only at k hv R1
  cases e1 : rd Γ1 pv with
  | none => simp only [e1] at k; exact k.elim
  | some d1 =>
    cases d1 with
    | str n =>
      simp only [e1] at k
      have sh := (R1.rd e1 hv).str
      subst sh
      exact ⟨n, rfl, k _ F' H' s1 R1 (itd_str n)⟩
    | _ => simp only [e1] at k; exact k.elim
end
end Ed

set_option autoImplicit true
set_option Elab.async false
set_option linter.all false
set_option maxRecDepth 100000
set_option maxHeartbeats 4000000
set_option autoImplicit false
/-! the sum of a tuple of numbers -/
namespace L2
open PySem PySem.Spec PyProof.Rows
section
variable {prog : Program} {w : World} {A : Around} {E : Value → Shared → Prop} {s : Shared} {l : Addr} {its : List Value} {ns : List Int} {Q : Value → Shared → Prop}
theorem ed_sum_tup (hh : A.handled = none) (hl : s.heap.IsTuple l its.toArray) (hi : IntsAre its ns)
    (h : ∀ h' tk t', (∀ b o, s.heap.get? b = some o → h'.get? b = some o) → Q (.int ns.sum t') { s with heap := h', toks := tk }) : wpAny (model prog w) A (call (.builtin "sum") [.ref l]) Q E s := by
  obtain ⟨xs, e⟩ := hi.allInts.items
  have hn : numsOf (intItems xs).toList = ns := by rw [← e]; exact hi.numsOf
  rw [nums_intItems] at hn
  rw [e] at hl
  have hlt : l < s.heap.objs.size := by obtain ⟨o, ho, _⟩ := hl; exact Heap.lt_size ho
  refine call_sum_walkG (wpAny_pyIter_tuple hl ?_)
  refine ⟨_, [_, l], [_], _, _, _, numAt xs, rfl, Walks.tuple (A := A.in1) hh _ l (Nat.ne_of_lt hlt) (intItems xs), ⟨⟨_, Heap.get?_push_size _ rfl, rfl, rfl⟩, hl.push _⟩, fun c hc => ?_, (fun _ _ => intItems_at), fun h' tk t' hk => ?_⟩
  · show c < (s.heap.push _).objs.size
    rw [Heap.size_push]
    rcases List.mem_cons.mp hc with rfl | hc
    · exact Nat.lt_succ_self _
    · rw [List.mem_singleton.mp hc]; exact Nat.lt_succ_of_lt hlt
  · have hold : ∀ c o, s.heap.get? c = some o → h'.get? c = some o := fun c o e => hk c o (by
      rw [List.mem_singleton]; exact Nat.ne_of_lt (Heap.lt_size e)) (Heap.get?_push_of_some _ e)
    have := h h' tk t' hold
    have e2 : preSum (numAt xs) (intItems xs).size = ns.sum := by
      rw [preSum_eq, List.take_of_length_le (by simp [intItems]), hn]
    rw [e2]; exact this
end
section
variable {X : Cx}
def rSumT (K : PySem.W.Frag) : List V → Hp → VK → Prop := fun vs H Q => ∃ (a : Addr) (ns : List Int), vs = [V.ref a] ∧ SqT K H a (ns.map V.int) ∧ Q (.int ns.sum) H
theorem cr_sumT (hc : X.calm = true) : CallR X (.builtin "sum") (rSumT X.K) := by
  intro pins s σ H vs us Q I r h
  obtain ⟨a, ns, rfl, hs, q⟩ := h
  obtain ⟨its, rv, hl, _⟩ := I.tuple hs
  rw [Vals.ref1 r]
  exact ed_sum_tup (I.ok.hd hc) hl rv.ints fun h' tk t' hk => ⟨.int _, H, I.kept hk, ⟨_, rfl⟩, q⟩
end
end L2
namespace Ed
open PySem L2
section
variable {X : Cx} {cn : Cn}
theorem r_sumT : RCD X.K cn (rSumT X.K) (o1 dSumT) := rc1 fun F H x dx d Q s hx e k => by
  cases dx with
  | tup xs =>
    have e : (intsL xs).map (fun ns => D.int ns.sum) = some d := e
    cases q : intsL xs with
    | none => rw [q] at e; cases e
    | some ns =>
      rw [q] at e; cases e
      obtain ⟨a, vs, rfl, h, r⟩ := hx.tup s
      rw [ints_ok xs vs ns q r] at h
      exact ⟨a, ns, rfl, h, k _ F H (ext0 s) (.int _)⟩
  | _ => cases e
end
end Ed

set_option autoImplicit true
set_option Elab.async false
set_option linter.all false
set_option maxRecDepth 100000
set_option maxHeartbeats 4000000
set_option autoImplicit false
/-! a class whose __iter__ hands back iter(self.f), f a tuple: a walk over it, list(o) -/
namespace L2
open PySem PySem.Spec PyProof.Rows
abbrev itObjT (t : Addr) : Obj := { cls := .type "tuple_iterator", data := .fields #[.ref t, .int 0 0] }
def ItT (t it : Addr) : HO := .ext fun h => h.get? it = some (itObjT t)
section
variable {P : Program} {w : World} {H : Hp} {h : Heap} {t it : Addr}
theorem itT_ok (e : h.get? it = some (itObjT t)) : ObjOk P w H h it (ItT t it) := ⟨e, ⟨_, e⟩, fun h1 h2 q k => k _ q⟩
theorem itT_get {X : Cx} {pins : List (Addr × Obj)} {σ : St} {s : Shared} (I : Inv X pins σ H s) (e : H it = some (ItT t it)) : s.heap.get? it = some (itObjT t) := (I.hok it _ e).1
end
section
variable {prog : Program} {w : World} {A : Around} {E : Value → Shared → Prop} {s : Shared} {l : Addr} {items : Array Value}
theorem call_iterTup {Q : Value → Shared → Prop} (hl : s.heap.IsTuple l items) (h : Q (.ref s.heap.objs.size) { s with heap := s.heap.push (itObjT l) }) : wpAny (model prog w) A (call (.builtin "iter") [.ref l]) Q E s := by
  refine Calls.call_function_entry (by decide +kernel) (by decide +kernel) PySem.W.kdk_entry_iter (PySem.W.kdk_args_iter _) ?_
  unfold Builtin.«iter»
  refine wpAny_bind (m := someArgs "iter" 1 2 _) (wpAny_of_eq (a := [Value.ref l]) (by first | rfl | kernel_rfl!) ?_)
  show wpAny _ _ (pyIter (.ref l) >>= _) _ _ _
  refine wpAny_bind (wpAny_pyIter_tuple hl ?_)
  exact wpAny_pure ⟨_, rfl, h⟩
end
def rIterT (K : PySem.W.Frag) (n : Nat) : List V → Hp → VK → Prop := fun xs H Q => ∃ (l : Addr) (zs : List V), xs = [.ref l] ∧ SqT K H l zs ∧ ∀ it, H it = none → n ≤ it → Q (.ref it) (upd H it (ItT l it))
section
variable {X : Cx}
theorem call_iterT : CallR X (.builtin "iter") (rIterT X.K X.s_0.heap.objs.size) := by
  intro pins s σ H xs us Q I r h
  obtain ⟨l, zs, rfl, hq, q⟩ := h
  obtain rfl := Vals.ref1 r
  obtain ⟨its, rv, pl, hz⟩ := I.tuple hq
  refine call_iterTup pl ?_
  exact ⟨.ref s.heap.objs.size, _, I.laid (t' := s.toks) (fun b u e => Heap.get?_push_of_some _ e) (Nat.le_refl _) (itT_ok (Heap.get?_push_size _ rfl)), rfl, q _ (I.hok.fresh (Nat.le_refl _)) I.sz⟩
end
/-- what __iter__ does: it hands back a new iterator over the tuple in the field -/
structure FnIt (P : Program) (w : World) (K : PySem.W.Frag) (mg : Str → Option Value) (base : Heap) (k : Nat) (f : Addr) (fd : FuncData) (C : Addr) (fl : Str) : Prop where
  run : ∀ (A : Around) (outer : List Env) (s : Shared) (H : Hp) (u : Value) (a dx t : Addr) (fs : List (Str × V)) (xs : List V) (Q : VK) (E : XK), Room k A → Env0 P w K mg base A outer s H → BindsTo s fd ⟨[u], []⟩ [("self", u)] → RelV (.ref a) u →
    H a = some (.ins C dx fs) → fs.lookup fl = some (.ref t) → SqT K H t xs → (∀ it, H it = none → s.heap.objs.size ≤ it → Q (.ref it) (upd H it (ItT t it))) → codeAny (model P w) A (.call (.ref f) ⟨[u], []⟩) (CR (L2.CX P w) outer P w H s Q E) s
section
variable {P : Program} {w : World} {K : PySem.W.Frag} {mg : Str → Option Value} {base : Heap}
theorem Fun.itR {x qual : Str} {st : Stmt} {f C : Addr} {fd : FuncData} {k : Nat} {fl : Str} (F : Fun K x qual st f fd) (S : FnScope ["self"] ["self"] (defScope st)) (hC : Cls K C) (hn : NoAttr K C fl)
    (hbody : ∀ (cdv : Value) (A : Around) (outer : List Env) (s : Shared) (H : Hp) (E : XK), PSs (cxOf (L2.CX P w) P w K mg base ["self"] qual (defScope st) f cdv A outer s H E) (defBody st) (tRet (tCB (rIterT K s.heap.objs.size) (tCons (tFld K (tVar 0) fl) tNil)))) :
    FnIt P w K mg base (k + 1) f fd C fl := by
  obtain ⟨oc, od, kV, doc, pm, an, cdv, ct, osl, rfl, lk, hcd⟩ := F.ex
  refine ⟨fun A outer s H u a dx t fs xs Q E hr e0 hb ru ha hf ht q => ?_⟩
  have r : Vals [V.ref a] [u] := .cons ru .nil
  have KX : K.In s.heap := e0.mod.kin.keeps fun b o e => (e0.bs b o e).1
  have lim : s.heap.NoLimit := e0.mod.nolimit.keeps fun b o e => (e0.bs b o e).1
  have hkind : ∀ y ∈ (["self"] : List Str).zip [u], (defScope st).names.lookup y.1 = some .local ∨ ((defScope st).names.lookup y.1 = some .cell ∧ ((cellsFrom (s.heap.objs.size + 1) (defScope st).names []).lookup y.1).isSome = true) := fun ⟨n, v⟩ hy => by
    rcases S.par n (List.of_mem_zip hy).1 with q | q
    · exact .inl q
    · exact .inr ⟨q, PySem.W.cellsFrom_some _ _ _ (.inl q)⟩
  refine codeAny_call_function hr.depth (KX _ _ lk) rfl S.co S.gen rfl (PySem.W.codeRec_of KX hcd) (hb _ _ _ _ ?_)
  refine wpAny_newFunctionEnv_cells S.kind hkind fun env he s1 x => ?_
  subst he
  refine ⟨lim.keeps x.toInCall.keep, codeAny_func ?_⟩
  have ht' := hbody cdv A outer s H E
  have I : Inv (cxOf (L2.CX P w) P w K mg base ["self"] qual (defScope st) f cdv A outer s H E) [] (start ["self"] [.ref a]) H s1 := inv_start S hr.hd e0 rfl r x
  have hq : tRet (tCB (rIterT K s.heap.objs.size) (tCons (tFld K (tVar 0) fl) tNil)) { nx := fun _ H' => Q .non H', rt := Q } (start ["self"] [.ref a]) H := ⟨.ref a, rfl, a, C, dx, fs, .ref t, rfl, ha, hC, hn, hf, t, xs, rfl, ht, fun it h1 h2 => q it h1 h2⟩
  refine wpAny_mono (ht'.run [] s1 (start ["self"] [.ref a]) H _ I hq) (fun fl s' hs => ?_) fun e s' hs => hs
  have fin : ∀ {σ' : St} {H' : Hp} {v : V} {u : Value}, Inv (cxOf (L2.CX P w) P w K mg base ["self"] qual (defScope st) f cdv A outer s H E) [] σ' H' s' → RelV v u → Q v H' → CE outer P w H s Q u s' :=
    fun {σ' H' v u} J rv q => ⟨v, H', J.os, J.bare, J.base, J.hok, rv, q⟩
  cases fl with
  | ret u =>
    obtain ⟨v, σ', H', J, rv, q⟩ := hs
    exact fin J rv q
  | next =>
    obtain ⟨σ', H', J, q⟩ := hs
    exact fin (v := V.non) (u := Value.none) J rfl q
  | brk =>
    obtain ⟨_, _, _, q⟩ := hs
    exact False.elim q
  | cont =>
    obtain ⟨_, _, _, q⟩ := hs
    exact False.elim q
end
end L2
namespace Ed
open PySem L2 PyProof.Rows
section
variable {X : Cx} {k : Nat} {C f : Addr} {fd : FuncData} {fl : Str} {W : WX}
/-- the iterator that __iter__ hands back, as an own object that is not tracked -/
theorem own_it {pins : List (Addr × Obj)} {σ : L2.St} {H : Hp} {s : Shared} {a dx t : Addr} {fs : List (Str × V)} {xs : List V} {R : Value → Shared → Prop} {A : Around} (hm : Meth X.K C "__iter__" f) (F : FnIt X.prog X.w X.K X.mg X.base k f fd C fl) (hr : Room k A) (he : Env0 X.prog X.w X.K X.mg X.base A X.stack s H) (hb : Binds X.K fd ["self"] []) (tk : Takes X W)
    (I : Inv X pins σ H s) (ha : H a = some (.ins C dx fs)) (hf : fs.lookup fl = some (.ref t)) (ht : SqT X.K H t xs)
    (h : ∀ it s', Inv X pins σ H s' → s.heap.objs.size ≤ it → s'.heap.get? it = some (itObjT t) → FpOk X pins H it → R (.ref it) s') : wpAny (model X.prog X.w) A (pyIter (.ref a)) R X.xe s := by
  obtain ⟨m, F0⟩ := I.fr
  obtain ⟨od, J⟩ := ins_atS I ha
  refine PySem.W.owit_iter F0 I.mod.kin J hm.at_ hm.fn ?_
  have b := hb s [.ref a] I.kIn (by rw [List.append_nil]; rfl)
  rw [List.append_nil] at b
  refine wpAny_call (codeAny_mono (F.run A X.stack s H (.ref a) a dx t fs xs (fun v H' => ∃ it, v = .ref it ∧ H it = none ∧ s.heap.objs.size ≤ it ∧ H' = upd H it (ItT t it)) (WE W σ) hr he b rfl ha hf ht fun it h1 h2 => ⟨it, rfl, h1, h2, rfl⟩) fun r s' hq => ?_)
  cases r with
  | error e => exact passAt tk σ pins H s e s' I hq
  | ok fl =>
    cases fl with
    | next => exact False.elim hq
    | brk => exact False.elim hq
    | cont => exact False.elim hq
    | ret u =>
      obtain ⟨v, H', I', r, it, ev, hit, hnew, eH⟩ := I.after hq
      subst ev
      rw [eH] at I'
      cases r
      have hget := itT_get I' (upd_same (a := it))
      have I2 := ItX.inv_drop I' (show upd H it (ItT t it) it = some (.ext _) from upd_same)
      rw [ItX.dropH_upd hit] at I2
      have hR := h it _ I2 hnew hget (I.fpOk hnew hit)
      unfold PySem.W.OwitIt
      exact wpAny_specialOf (T := "tuple_iterator") ⟨_, hget, rfl⟩ PySem.F.slot_tuple_iterator_next.lookup hR
/-- for x in o -/
def iOwn (K : PySem.W.Frag) (C : Addr) (fl : Str) (te : TE) : TI := fun σ H R => te σ H fun x H1 => ∃ a dx fs t xs, x = V.ref a ∧ H1 a = some (.ins C dx fs) ∧ fs.lookup fl = some (.ref t) ∧ SqT K H1 t xs ∧ R (Itt K t) H1
theorem pi_own {tg e : Expr} {te : TE} (hm : Meth X.K C "__iter__" f) (F : FnIt X.prog X.w X.K X.mg X.base k f fd C fl) (hr : Room k X.A) (hb : Binds X.K fd ["self"] []) (tk : Takes X W) (he : PE X e te) : PI X tg e (iOwn X.K C fl te) := by
  refine ⟨fun pins s σ H R I h => ?_⟩
  refine thn (he.run pins s σ H _ I h) fun v s1 ⟨x, H1, I1, r1, a, dx, fs, t, xs, ex, ha, hf, ht, q⟩ => ?_
  subst ex
  cases r1
  refine own_it hm F hr I1.env0 hb tk I1 ha hf ht fun it s' I2 hnew hget hfp => ?_
  refine ⟨it, [it], _, _, H1, rfl, I2, turn_tuple t it, ⟨_, hget, rfl, rfl⟩, fun b hb => ?_, q⟩
  have e : b = it := by simpa using hb
  rw [e]
  exact hfp
end
end Ed

set_option autoImplicit true
set_option Elab.async false
set_option linter.all false
set_option maxRecDepth 100000
set_option maxHeartbeats 4000000
set_option autoImplicit false
/-! list(o) of such an object -/
namespace Ed
open PySem L2 PyProof.Rows
theorem ji_own {X : Cx} {cn : Cn} {W : WX} {c f k : Nat} {fi : Addr} {fd : FuncData} {tg e : Expr} {ea : EV} (hm : Meth X.K (cn.ca c) "__iter__" fi) (F : FnIt X.prog X.w X.K X.mg X.base k fi fd (cn.ca c) (cn.fa f)) (hr : Room k X.A) (hb : Binds X.K fd ["self"] []) (tk : Takes X W) (hi : ∀ g, cn.fa g = cn.fa f → g = f)
    (h : JE X cn W e ea) : JI X cn W tg e (iOwnT c f ea) := by
  obtain ⟨t, p, d⟩ := h
  refine ⟨_, pi_own hm F hr hb tk p, fun C Γ σ F H R RR k => ?_⟩
  refine d C Γ σ F H _ RR (k.bind.mono (fun p k v F' H' s1 R1 hv => ?_) fun _ _ z => z)
  obtain ⟨d0, Γ1⟩ := p
  dsimp only at k hv R1
  cases d0 with
  | ins c2 fs =>
    by_cases ec : c2 = c
    · subst ec
      cases e4 : fs.lookup f with
      | none =>
        have e5 : fld c2 f (.ins c2 fs) = none := (if_pos rfl).trans e4
        rw [e5] at k; exact k.elim
      | some z =>
        have e5 : fld c2 f (.ins c2 fs) = some z := (if_pos rfl).trans e4
        rw [e5] at k
        cases hv with
        | @ins a dx fvs _ _ h hk r =>
          obtain ⟨v, l, rv⟩ := lookP hi hk r e4
          cases z with
          | tup xs =>
            obtain ⟨a2, ev, it, sq⟩ := itd_tup (C := C) rv
            subst ev
            obtain ⟨vs, hq⟩ := sq F' H' (Same.refl _) R1.bs
            exact ⟨a, dx, fvs, a2, vs, rfl, R1.bs.fh _ _ h, l, hq, k _ F' H' s1 R1 it⟩
          | _ => exact k.elim
    · have e5 : fld c f (.ins c2 fs) = none := if_neg ec
      rw [e5] at k; exact k.elim
  | _ => exact k.elim
end Ed
namespace L2
open PySem PySem.Spec PyProof.Rows
section
variable {X : Cx} {pins : List (Addr × Obj)} {σ : St} {H : Hp} {s : Shared} {q t it : Addr} {xs : List V}
/-- the tuple's items into the new list -/
theorem tup_fill {A1 : Around} {Rs : Result → Shared → Prop} (hh : A1.in1.handled = none) (hx : SqT X.K H t xs) (hq : H q = none) (hl : xs.length ≤ sizeLine) (hdone : ∀ s, Inv X pins σ (upd H q (.lst xs)) s → Rs (.ok (.ret .none)) s) :
    ∀ (n i : Nat) (s : Shared), n + i = xs.length → Inv X pins σ (upd H q (.lst (xs.take i))) s → FpOk X pins (upd H q (.lst (xs.take i))) it → s.heap.IsTupleIter it t i → codeAny (model X.prog X.w) A1 (.builtin "list.extend.loop" ⟨[.ref q, .ref it, .none], []⟩) Rs s := by
  intro n
  induction n with
  | zero =>
    intro i s hn I hf st
    refine codeAny_builtin PySem.F.entry_extend_loop ?_
    rw [Around.under_plainId PySem.F.plain_extend_loop _]
    show wpAny _ A1.in1 (pyNext (.ref it) >>= _) _ _ s
    obtain ⟨its, rv, p, hz⟩ := I.tuple (Ed.same_seqT (Ed.same_new hq) hx)
    obtain ⟨f0, f1, f2, f3, f4, f5⟩ := hf
    have hlen := rv.length
    refine wpAny_bind (wpAny_pyNext_tuple_end hh st (show s.heap.IsTuple t its.toArray from p) (by simp; omega) fun h' eb => ?_)
    have I1 : Inv X pins σ _ { s with heap := h' } := I.turned (t' := s.toks) (fun b o hb e => eb b o hb e) f0 f1 f3 f4 f5
    rw [List.take_of_length_le (by omega)] at I1
    exact wpAny_pure (hdone _ I1)
  | succ n ih =>
    intro i s hn I hf st
    refine codeAny_builtin PySem.F.entry_extend_loop ?_
    rw [Around.under_plainId PySem.F.plain_extend_loop _]
    show wpAny _ A1.in1 (pyNext (.ref it) >>= _) _ _ s
    obtain ⟨its, rv, p, hz⟩ := I.tuple (Ed.same_seqT (Ed.same_new hq) hx)
    have hi : i < xs.length := by omega
    have hxi : xs[i]? = some xs[i] := by simp
    obtain ⟨u, hu, ru⟩ := rv.get hxi
    obtain ⟨f0, f1, f2, f3, f4, f5⟩ := hf
    refine wpAny_bind (wpAny_pyNext_tuple_item st (show s.heap.IsTuple t its.toArray from p) (x := u) (by simpa using hu) fun h' st' sb => ?_)
    have I1 : Inv X pins σ _ { s with heap := h' } := I.turned (t' := s.toks) (fun b o hb e => (sb.2 b hb).trans e) f0 f1 f3 f4 f5
    show wpAny _ A1.in1 (updateSeq q (·.push u) >>= _) _ _ _
    obtain ⟨z, its2, k, r2, hl2, e⟩ := I1.lstM (upd_same (a := q))
    have hlt : (xs.take i).length = i := by rw [List.length_take]; omega
    have hne : it ≠ q := fun z => by
      rw [z, upd_same] at f0; cases f0
    refine wpAny_bind (wpAny_updateSeq e rfl (wpAny_pure ⟨plainId_quiet PySem.F.plain_extend_loop _, ?_⟩) (by rw [List.size_toArray]; omega) (by show (its2.toArray.push u).size ≤ sizeLine + 1; rw [Array.size_push, List.size_toArray]; omega))
    have I2 := I1.lset (f := (·.push u)) (its' := its2 ++ [u]) (ys := xs.take i ++ [xs[i]]) (t' := s.toks) (upd_same (a := q)) e (by simp) (r2.append (.cons ru .nil)) (by rw [List.length_append, List.length_singleton]; omega)
    have et : xs.take (i + 1) = xs.take i ++ [xs[i]] := by rw [List.take_succ, hxi]; rfl
    rw [upd_upd, ← et] at I2
    refine ih (i + 1) _ (by omega) I2 ⟨?_, f1, f2, f3, f4, f5⟩ ?_
    · rw [upd_ne hne] at f0 ⊢; exact f0
    · exact st'.at fun o ho => (Heap.get?_update_other _ _ (Ne.symm hne)).trans ho
end
section
variable {X : Cx} {pins : List (Addr × Obj)} {σ : St} {H : Hp} {s : Shared} {k : Nat} {C f : Addr} {fd : FuncData} {ps : List Str} {sp : Sp}
/-- a call that raises nothing, in any around -/
theorem run_no {A : Around} {E : Value → Shared → Prop} {Q : VK} {us : List Value} {vs : List V} (F : FnOk X.prog X.w X.K X.mg X.base (L2.CX X.prog X.w) k f fd ps sp) (hr : Room k A) (he : Env0 X.prog X.w X.K X.mg X.base A X.stack s H) (hb : Binds X.K fd ps [])
    (I : Inv X pins σ H s) (r : Vals vs us) (h : sp vs H Q (fun _ _ _ => False)) : wpAny (model X.prog X.w) A (call (.ref f) us) (EP X pins σ Q) E s := by
  have hl : us.length = ps.length := by rw [← r.length]; exact F.len _ _ _ _ h
  have b := hb s us I.kIn (by rw [List.append_nil]; exact hl)
  rw [List.append_nil] at b
  refine wpAny_call (codeAny_mono (F.run A X.stack s H ⟨us, []⟩ us vs Q (fun _ _ _ => False) hr he b r h) fun r s' hq => ?_)
  cases r with
  | error e =>
    obtain ⟨a, B, H', cls, d, rfl, fl, hok, ub, na, os, ag, hE⟩ := hq
    exact hE.elim
  | ok fl =>
    cases fl with
    | ret u => exact I.after hq
    | next => exact False.elim hq
    | brk => exact False.elim hq
    | cont => exact False.elim hq
theorem own_hintL {A : Around} {E : Value → Shared → Prop} {R : Bool → Shared → Prop} {P : Hp → Prop} {a dx : Addr} {fs : List (Str × V)} (hm : PySem.W.findIn X.K (.ref C) "__len__" = some (some (.ref f))) (hf : PySem.W.isFn X.K (.ref f) = true) (F : FnOk X.prog X.w X.K X.mg X.base (L2.CX X.prog X.w) k f fd ps sp) (hr : Room k A.in1) (he : Env0 X.prog X.w X.K X.mg X.base A X.stack s H) (hb : Binds X.K fd ps [])
    (I : Inv X pins σ H s) (ha : H a = some (.ins C dx fs)) (h : sp [.ref a] H (fun v H' => ∃ n : Int, v = .int n ∧ 0 ≤ n ∧ n ≤ 16777216 ∧ P H') (fun _ _ _ => False)) (hR : ∀ b H' s', Inv X pins σ H' s' → P H' → R b s') :
    wpAny (model X.prog X.w) A (Builtin.List.listLengthHint (.ref a)) R E s := by
  obtain ⟨m, F0⟩ := I.fr
  obtain ⟨mA, J, _⟩ := ins_get I.hok ha
  obtain ⟨od, J, _⟩ := J.look
  unfold Builtin.List.listLengthHint
  refine wpAny_bind (wpAny_bind (J.type.here ((PySem.W.looks_findIn I.kIn hm).here ?_)))
  refine PySem.W.KFB.if_not rfl ?_
  refine PySem.W.KFB.if_so rfl ?_
  refine wpAny_bind (wpAny_rule ?_)
  refine wpAny_bind (wpAny_attempt (PySem.W.len_K F0 I.mod.kin J hm hf (wpAny_mono (run_no F hr he.in1 hb I (us := [.ref a]) (vs := [.ref a]) (.cons rfl .nil) h) (fun z s' hz => ?_) fun _ _ e => e)))
  obtain ⟨v', H', I', r', n, rfl, h0, h1, hP⟩ := hz
  obtain ⟨tk', rfl⟩ := (show ∃ t, z = Value.int n t from r')
  refine ⟨⟨h0, by omega⟩, ?_⟩
  refine wpAny_bind (wpAny_pure ?_)
  refine PySem.W.KFB.if_not (notLongL (by rw [sizeLine_eq]; omega)) ?_
  exact wpAny_pure (hR _ H' _ (I'.tok _) hP)
theorem seqT_drop {K : PySem.W.Frag} {H : Hp} {t q : Addr} {ys : List V} (h : SqT K H t ys) (hq : ∃ l, H q = some (.lst l)) : SqT K (ItX.dropH H q) t ys := by
  obtain ⟨l, hq⟩ := hq
  rcases h with (h | ⟨o, h⟩) | h
  · have hb : t ≠ q := fun z => by rw [z, hq] at h; cases h
    exact .inl (.inl (by rw [ItX.dropH_ne hb]; exact h))
  · have hb : t ≠ q := fun z => by rw [z, hq] at h; cases h
    exact .inl (.inr ⟨o, by rw [ItX.dropH_ne hb]; exact h⟩)
  · exact .inr h
theorem drop_upd {H : Hp} {q : Addr} {o o2 : HO} (h : H q = some o) : upd (ItX.dropH H q) q o2 = upd H q o2 ∧ upd (ItX.dropH H q) q o = H := by
  refine ⟨?_, ?_⟩
  · funext b
    by_cases hb : b = q
    · rw [hb, upd_same, upd_same]
    · rw [upd_ne hb, upd_ne hb, ItX.dropH_ne hb]
  · funext b
    by_cases hb : b = q
    · rw [hb, upd_same, h]
    · rw [upd_ne hb, ItX.dropH_ne hb]
/-- list(o) -/
def rListIt (K : PySem.W.Frag) (C : Addr) (fl : Str) (sp : Sp) : List V → Hp → VK → Prop := fun vs H Q => ∃ (a dx t : Addr) (fs : List (Str × V)) (ys : List V), vs = [.ref a] ∧ H a = some (.ins C dx fs) ∧ fs.lookup fl = some (.ref t) ∧ SqT K H t ys ∧ ys.length ≤ sizeLine ∧
  ∀ q, H q = none → sp [.ref a] (upd H q (.lst [])) (fun v H' => ∃ n : Int, v = .int n ∧ 0 ≤ n ∧ n ≤ 16777216 ∧ H' q = some (.lst []) ∧ SqT K H' t ys ∧ Q (.ref q) (upd H' q (.lst ys))) (fun _ _ _ => False)
theorem ext_own {fi : Addr} {fdI : FuncData} {kI : Nat} {fl : Str} {W : WX} {A1 : Around} {Rs : Result → Shared → Prop} {a dx q t : Addr} {fs : List (Str × V)} {ys : List V} {Q : VK} (hmI : Meth X.K C "__iter__" fi) (FI : FnIt X.prog X.w X.K X.mg X.base kI fi fdI C fl) (bI : Binds X.K fdI ["self"] []) (hm : PySem.W.findIn X.K (.ref C) "__len__" = some (some (.ref f))) (hf : PySem.W.isFn X.K (.ref f) = true)
    (F : FnOk X.prog X.w X.K X.mg X.base (L2.CX X.prog X.w) k f fd ps sp) (hb : Binds X.K fd ps []) (tk : Takes X W) (hrI : Room kI A1.in1) (hrL : Room k A1.in1.in1) (hc : X.calm = true)
    (hdone : ∀ s' H', Inv X pins σ H' s' → Q (.ref q) H' → Rs (.ok (.ret .none)) s') (herr : ∀ e s, X.xe e s → Rs (.error e) s) (hne : q ≠ a)
    (I : Inv X pins σ H s) (hq : H q = some (.lst [])) (ha : H a = some (.ins C dx fs)) (hfl : fs.lookup fl = some (.ref t)) (ht : SqT X.K H t ys) (hl : ys.length ≤ sizeLine)
    (hsp : sp [.ref a] H (fun v H' => ∃ n : Int, v = .int n ∧ 0 ≤ n ∧ n ≤ 16777216 ∧ H' q = some (.lst []) ∧ SqT X.K H' t ys ∧ Q (.ref q) (upd H' q (.lst ys))) (fun _ _ _ => False)) (hfr : A1.in1.frames = X.A.frames) (hh : A1.in1.handled = none) :
    wpAny (model X.prog X.w) A1.in1 (Builtin.List.listExtendWith (.ref q) (.ref a) .none)
      (fun fin s' => match fin with | .done f => Rs (.ok f) s' | .again c' => c'.quiet = true ∧ codeAny (model X.prog X.w) A1 c' Rs s') (fun e s' => Rs (.error e) s') s := by
  obtain ⟨mA, J, _⟩ := ins_get I.hok ha
  obtain ⟨od, J, _⟩ := J.look
  unfold Builtin.List.listExtendWith
  refine wpAny_bind (J.type.here ?_)
  have h1 : Builtin.List.listSameRef (.ref q) (.ref a) = false := by simp [Builtin.List.listSameRef, hne]
  have h2 : (Value.ref C == Value.type "list") = false := rfl
  have h3 : (Value.ref C == Value.type "tuple") = false := rfl
  simp only [h1, h2, h3, Bool.or_false, Bool.false_eq_true, if_false]
  have e0 : ∀ {pins : List (Addr × Obj)} {H : Hp} {s : Shared}, Inv X pins σ H s → Env0 X.prog X.w X.K X.mg X.base A1.in1 X.stack s H := fun I => by
    have e := I.env0
    exact ⟨by rw [hfr]; exact e.frames, e.mod, e.bs, e.bsz, e.funs, e.frf, e.hok, e.bare⟩
  refine wpAny_bind (wpAny_mono (Ed.own_it (R := fun v s' => wpAny (model X.prog X.w) A1.in1 _ _ (fun e s' => Rs (.error e) s') s') hmI FI hrI (e0 I) bI tk I ha hfl ht fun it s' I2 hnew hget hfp => ?_) (fun _ _ z => z) fun e s' he => herr e s' he)
  have fill : ∀ (H' : Hp) (s'' : Shared), Inv X pins σ H' s'' → FpOk X pins H' it → s''.heap.get? it = some (itObjT t) → H' q = some (.lst []) → SqT X.K H' t ys → Q (.ref q) (upd H' q (.lst ys)) → codeAny (model X.prog X.w) A1 (.builtin "list.extend.loop" ⟨[.ref q, .ref it, .none], []⟩) Rs s'' := fun H' s'' I' hf' hg' hq' ht' hQ => by
    obtain ⟨d1, d2⟩ := drop_upd (o2 := .lst ys) hq'
    refine tup_fill (H := ItX.dropH H' q) (xs := ys) hh (seqT_drop ht' ⟨_, hq'⟩) ItX.dropH_same hl (fun s3 I3 => hdone s3 _ I3 (by rw [d1]; exact hQ)) ys.length 0 s'' (by omega) ?_ ?_ ⟨_, hg', rfl, rfl⟩
    · rw [List.take_zero, d2]; exact I'
    · rw [List.take_zero, d2]; exact hf'
  have hnit : it ≠ q := fun z => by have := hfp.1; rw [z, hq] at this; cases this
  have I3 : Inv X ((it, itObjT t) :: pins) σ H s' := I2.pins_of fun p hp => by
    rcases List.mem_cons.mp hp with rfl | hp
    · exact ⟨hget, hfp.1, hfp.2.1, hfp.2.2.1, fun v z => by cases z⟩
    · exact I2.pin p (List.mem_append_right _ hp)
  refine wpAny_bind (wpAny_holding (own_hintL (P := fun H' => H' q = some (.lst []) ∧ SqT X.K H' t ys ∧ Q (.ref q) (upd H' q (.lst ys))) hm hf F hrL (e0 I3) hb I3 ha hsp fun b H' s'' I4 hP => ?_))
  obtain ⟨p1, p2, p3, p4, p5⟩ := I4.pin (it, itObjT t) (by simp)
  have I5 : Inv X pins σ H' s'' := I4.pins_of fun p hp => I4.pin p (by simp [hp])
  have hf5 : FpOk X pins H' it := ⟨p2, hfp.2⟩
  refine wpAny_ite_split (fun _ => ?_) (fun _ => wpAny_pure ⟨plainId_quiet PySem.F.plain_extend_loop _, fill H' s'' I5 hf5 p1 hP.1 hP.2.1 hP.2.2⟩)
  obtain ⟨z, its, k3, r3, hl3, e3⟩ := I5.lstM hP.1
  cases r3
  refine wpAny_bind (wpAny_rule ?_)
  refine wpAny_bind ?_
  show wpAny _ _ (updateSeq q (·.push .none) >>= fun _ => updateSeq q (·.pop)) _ _ _
  refine wpAny_bind (wpAny_updateSeq e3 rfl ?_)
  have I6 := I5.lset (f := (·.push Value.none)) (its' := [Value.none]) (ys := [.non]) (t' := s''.toks) hP.1 e3 (by simp) (.cons rfl .nil) (by rw [List.length_singleton, sizeLine_eq]; decide)
  obtain ⟨z4, its4, k4, r4, hl4, e4⟩ := I6.lstM upd_same
  obtain ⟨u4, rfl, ru4⟩ := r4.one
  refine wpAny_updateSeq e4 rfl ?_ (by show 1 ≤ sizeLine; rw [sizeLine_eq]; decide) (by show 0 ≤ sizeLine + 1; exact Nat.zero_le _)
  have I7 := I6.lset (f := (·.pop)) (its := [u4]) (its' := []) (ys := []) (t' := s''.toks) upd_same e4 (by rfl) .nil (Nat.zero_le _)
  rw [upd_upd] at I7
  have hH : upd H' q (.lst []) = H' := by
    funext b
    by_cases hb : b = q
    · rw [hb, upd_same, hP.1]
    · rw [upd_ne hb]
  rw [hH] at I7
  refine wpAny_pure ⟨plainId_quiet PySem.F.plain_extend_loop _, fill H' _ I7 hf5 ?_ hP.1 hP.2.1 hP.2.2⟩
  exact (Heap.get?_update_other _ _ (Ne.symm hnit)).trans ((Heap.get?_update_other _ _ (Ne.symm hnit)).trans p1)
theorem call_listIt {fi : Addr} {fdI : FuncData} {kI : Nat} {fl : Str} {W : WX} (hmI : Meth X.K C "__iter__" fi) (FI : FnIt X.prog X.w X.K X.mg X.base kI fi fdI C fl) (bI : Binds X.K fdI ["self"] []) (hm : PySem.W.findIn X.K (.ref C) "__len__" = some (some (.ref f))) (hf : PySem.W.isFn X.K (.ref f) = true)
    (F : FnOk X.prog X.w X.K X.mg X.base (L2.CX X.prog X.w) k f fd ps sp) (hb : Binds X.K fd ps []) (tk : Takes X W) (hrI : Room kI X.A.in1.in1) (hrL : Room k X.A.in1.in1.in1) (hc : X.calm = true) : CallR X (.type "list") (rListIt X.K C fl sp) := by
  intro pins s σ H xs us Q I rv h
  obtain ⟨a, dx, t, fs, ys, rfl, ha, hfl, ht, hl, hq⟩ := h
  obtain ⟨u, rfl, ru⟩ := rv.one
  cases ru
  refine callType_codes (Q₁ := fun obj s₁ => obj = .ref s.heap.objs.size ∧ s₁ = { s with heap := s.heap.push { cls := .type "list", data := .seq #[] } }) PySem.F.called_list (PySem.F.typeCall_list_1 _) PySem.F.entry_list_init
    (code_list_new _ ⟨rfl, rfl⟩) fun obj s₁ h₁ => ?_
  obtain ⟨rfl, rfl⟩ := h₁
  have hS : (s.heap.push { cls := .type "list", data := .seq #[] }).get? s.heap.objs.size = some { cls := .type "list", data := .seq #[] } := Heap.get?_push_size _ rfl
  refine ⟨⟨_, hS, rfl⟩, PySem.F.args_list_init_2 _ _, ?_⟩
  have fr : H s.heap.objs.size = none := I.hok.fresh (Nat.le_refl _)
  have hsp := hq _ fr
  have I1 : Inv X pins σ (upd H s.heap.objs.size (.lst [])) { s with heap := s.heap.push { cls := .type "list", data := .seq #[] } } := I.lnew (its := []) (t' := s.toks) .nil (Nat.zero_le _)
  show wpAny _ _ (do let old ← Builtin.List.listItems (.ref s.heap.objs.size); Builtin.List.listUpdate (.ref s.heap.objs.size) (fun _ => #[]); letGo old.toList.reverse; Builtin.List.listExtendWith (.ref s.heap.objs.size) (.ref a) .none) _ _ _
  refine wpAny_bind ?_
  unfold Builtin.List.listItems
  refine wpAny_bind (wpAny_seqItems hS rfl (wpAny_pure ?_))
  show wpAny _ _ (updateSeq s.heap.objs.size (fun _ => #[]) >>= fun _ => letGo (#[] : Array Value).toList.reverse >>= fun _ => Builtin.List.listExtendWith (.ref s.heap.objs.size) (.ref a) .none) _ _ _
  refine wpAny_bind (wpAny_updateSeq hS rfl ?_)
  have I2 := I1.lset (f := fun _ => #[]) (its := []) (its' := []) (ys := []) (t' := s.toks) upd_same hS rfl .nil (Nat.zero_le _)
  rw [upd_upd] at I2
  refine wpAny_bind (wpAny_letGo ?_)
  have hne : s.heap.objs.size ≠ a := fun z => by rw [← z, fr] at ha; cases ha
  have ha2 : upd H s.heap.objs.size (.lst []) a = some (.ins C dx fs) := by rw [upd_ne (Ne.symm hne)]; exact ha
  have ht2 : SqT X.K (upd H s.heap.objs.size (.lst [])) t ys := Ed.same_seqT (Ed.same_new fr) ht
  exact ext_own (A1 := X.A.in1) (Rs := wants (fun r s₂ => r = .none ∧ EP X pins σ Q (.ref s.heap.objs.size) s₂) X.xe) (Q := Q) hmI FI bI hm hf F hb tk hrI hrL hc (fun s' H' I' hR => ⟨rfl, .ref s.heap.objs.size, H', I', rfl, hR⟩) (fun e s' he => he) hne I2 upd_same ha2 hfl ht2 hl hsp rfl (I.ok.hd hc)
end
end L2

namespace Ed
open PySem L2 PyProof.Rows
theorem jn_listOwn {X : Cx} {cn : Cn} {W : WX} {c f kI kL : Nat} {fi fL : Addr} {fdI fdL : FuncData} {psL : List Str} {Fl : FV} {e : Expr} {ea : EV} {p pos : Pos} (hmI : Meth X.K (cn.ca c) "__iter__" fi) (FI : FnIt X.prog X.w X.K X.mg X.base kI fi fdI (cn.ca c) (cn.fa f)) (bI : Binds X.K fdI ["self"] [])
    (hmL : Meth X.K (cn.ca c) "__len__" fL) (FL : FnOk X.prog X.w X.K X.mg X.base (L2.CX X.prog X.w) kL fL fdL psL (spD X.K cn [false] Fl)) (bL : Binds X.K fdL psL []) (tk : Takes X W) (hrI : Room kI X.A.in1.in1) (hrL : Room kL X.A.in1.in1.in1) (hc : X.calm = true) (hi : ∀ g, cn.fa g = cn.fa f → g = f)
    (hg : Gl X "list") (hm : X.mg "list" = none) (h : JE X cn W e ea)
    (he : starEach [e] X.env = (false, eval e X.env) :: starEach [] X.env := by rfl) (hpl : (backTo pos (starEach [] X.env)).any (·.1) = false := by rfl) : JN X cn W (.Call (.Name "list" p) [e] [] pos) (eListOwn c f Fl ea) := by
  obtain ⟨t, pe, d⟩ := h
  refine ⟨_, pe_callTy (call_listIt hmI FI bI hmL.at_ hmL.fn FL bL tk hrI hrL hc) hg hm (by decide +kernel) (pa_cons pe pa_nil he) (by decide) (by decide) he hpl, fun C Γ σ F H Q R k => ?_⟩
  refine d C Γ σ F H _ R (k.bind.mono (fun p k v F' H' s1 R1 hv => ?_) fun _ _ z => z)
  obtain ⟨d0, Γ1⟩ := p
  dsimp only at k hv R1
  cases d0 with
  | ins c2 fs =>
    by_cases ec : c2 = c
    · subst ec
      cases e4 : fs.lookup f with
      | none =>
        have e5 : fld c2 f (.ins c2 fs) = none := (if_pos rfl).trans e4
        rw [e5] at k; exact k.elim
      | some z =>
        have e5 : fld c2 f (.ins c2 fs) = some z := (if_pos rfl).trans e4
        rw [e5] at k
        have hv0 := hv
        cases hv with
        | @ins a dx fvs _ _ h hk r =>
          obtain ⟨v, l, rv⟩ := lookP hi hk r e4
          cases z with
          | tup xs =>
            obtain ⟨a2, vs, ev, hsq, rvs⟩ := Rep.tupE R1.bs.fh rv
            subst ev
            cases eF : Fl [.ins c2 fs] with
            | ok o =>
              rw [eF] at k
              cases o with
              | fz dn =>
                cases dn with
                | int n =>
                  dsimp only at k
                  by_cases hcnd : 0 ≤ n ∧ n ≤ 16777216 ∧ xs.length ≤ 16777216
                  · rw [if_pos hcnd] at k
                    refine ⟨a, dx, a2, fvs, vs, rfl, R1.bs.fh _ _ h, l, hsq, by rw [rvs.1, sizeLine_eq]; exact hcnd.2.2, fun q hq => ?_⟩
                    have hf1 : F' q = none := R1.bs.fh.free hq
                    refine ⟨rfl, F', [.ins c2 fs], same_out R1.bs.fh hf1, ⟨hv0, True.intro⟩, ?_⟩
                    rw [eF]
                    intro v2 F2 H2 ex dv
                    cases (show Rep X.K cn F2 v2 (.int n) from dv)
                    have hh2 := ex.h _ _ (upd_same (a := q))
                    refine ⟨n, rfl, hcnd.1, hcnd.2.1, hh2, same_seqT ex.h (same_seqT (same_new hq) hsq), ?_⟩
                    have f2 : F2 q = none := ex.nw q hf1 (by rw [upd_same]; simp)
                    have ext : Ext F' H' F2 (upd H2 q (.lst vs)) := by
                      refine ⟨ex.f, fun b u hb => ?_, same_out ex.fh f2, fun b h1 h2 => ?_⟩
                      · have hbq : b ≠ q := fun z => by rw [z, hq] at hb; cases hb
                        rw [upd_ne hbq]
                        exact ex.h _ _ (by rw [upd_ne hbq]; exact hb)
                      · have hbq : b ≠ q := fun z => h2 (by rw [z, hq])
                        exact ex.nw b h1 (by rw [upd_ne hbq]; exact h2)
                    obtain ⟨_, a9, ea9, n1, n2, n3, n4⟩ := NewR.laid R1 rvs hq
                    cases ea9
                    exact k (.ref q) F2 _ (s1.trans ex.f) (R1.ext ext) ⟨q, rfl, f2, n2, ⟨vs, upd_same, rvs.mono ex.f⟩, n4⟩
                  · rw [if_neg hcnd] at k; exact k.elim
                | _ => exact k.elim
              | fr dn => exact k.elim
            | exc x Γ2 => rw [eF] at k; exact k.elim
            | bad => rw [eF] at k; exact k.elim
          | _ => exact k.elim
    · have e5 : fld c f (.ins c2 fs) = none := if_neg ec
      rw [e5] at k; exact k.elim
  | _ => exact k.elim
end Ed

set_option autoImplicit true
set_option Elab.async false
set_option linter.all false
set_option maxRecDepth 100000
set_option maxHeartbeats 4000000
set_option autoImplicit false
/-! sorted -/
namespace Ed
open PySem L2 PySem.W PySem.Calls PySem.SeqAt PyProof.Rows
section
variable {prog : Program} {w : World} {A : Around} {E : Value → Shared → Prop} {s : Shared}
/-- a tuple with an item -/
def nemp : PyData → Bool
  | .tuple (_ :: _) => true
  | _ => false
theorem tups_firsts : ∀ {vs : List Value} {ds : List PyData} {Q : List (Option Value) → Shared → Prop}, EachIs (fun v d => ∃ as, Reads s.heap v d as) vs ds → (∀ d ∈ ds, ∃ xs, d = .tuple xs) →
    (∀ os : List (Option Value), os.map Option.isSome = ds.map nemp → Q os s) → wpAny (model prog w) A (vs.mapM firstOfTuple') Q E s
  | _, _, Q, .nil, _, h => by rw [List.mapM_nil]; exact wpAny_pure (h [] rfl)
  | _, _, Q, .cons (b := d) ⟨as, r⟩ t, ht, h => by
    obtain ⟨xs, rfl⟩ := ht d (List.mem_cons_self ..)
    rw [List.mapM_cons]
    refine wpAny_bind ?_
    rw [kas_first_eq]
    cases r with
    | @tuple a o vs1 n _ _ ho hc hd hr =>
      refine wpAny_bind (Looks.here (show Looks (model prog w) s.heap (typeOf (.ref a)) o.cls from (Looks.ld ho).andThen .now) ?_)
      rw [hc, if_neg (by first | decide | simp)]
      refine wpAny_bind (listItems_at ho hd (wpAny_pure ?_))
      refine wpAny_bind (tups_firsts t (fun d hd => ht d (List.mem_cons_of_mem _ hd)) fun os ho2 => wpAny_pure (h _ ?_))
      rw [List.map_cons, List.map_cons, ho2]
      congr 1
      cases xs with
      | nil =>
        have : vs1.toList = [] := by
          have q := hr
          generalize vs1.toList = l at q
          cases q; rfl
        rw [← Array.getElem?_toList, this]; rfl
      | cons x xr =>
        have : ∃ y yr, vs1.toList = y :: yr := by
          have q := hr
          generalize vs1.toList = l at q
          cases q; exact ⟨_, _, rfl⟩
        obtain ⟨y, yr, e⟩ := this
        rw [← Array.getElem?_toList, e]; rfl
theorem tups_kind {vs : List Value} {ds : List PyData} {Q : SortKind → Shared → Prop} (h2 : 2 ≤ vs.length) (e : EachIs (fun v d => ∃ as, Reads s.heap v d as) vs ds) (ht : ∀ d ∈ ds, ∃ xs, d = .tuple xs) (hn : ds.all nemp = false)
    (h : Q (if (ds.head?.map nemp).getD false then general' else oneType') s) : wpAny (model prog w) A (keyKind' vs.toArray) Q E s := by
  rw [keyKind'_eq, List.mapM_toArray, map_eq_pure_bind]
  refine wpAny_bind (wpAny_bind (tups_firsts e ht fun os ho => wpAny_pure ?_))
  have h1 : (os.toArray.all fun x => x.isSome) = false := by
    rw [List.all_toArray]
    have : (os.map Option.isSome).all id = (ds.map nemp).all id := by rw [ho]
    rw [List.all_map, List.all_map] at this
    rw [← hn]
    exact this
  have h3 : (os.toArray[0]?.bind id).isSome = (ds.head?.map nemp).getD false := by
    cases os with
    | nil => cases ds with
      | nil => rfl
      | cons d ds => cases ho
    | cons o os => cases ds with
      | nil => cases ho
      | cons d ds =>
        have := (List.cons.inj ho).1
        show (id o).isSome = nemp d
        exact this
  rw [h1, if_neg (by simp), h3]
  cases q : (ds.head?.map nemp).getD false with
  | true =>
    rw [q] at h
    rw [if_pos rfl]
    exact wpAny_pure h
  | false =>
    rw [q] at h
    rw [if_neg (by simp)]
    have hT : ∀ v ∈ vs, Looks (model prog w) s.heap (typeOf v) (.type "tuple") := fun v hv => by
      obtain ⟨d, hd, as, r⟩ := e.left v hv
      obtain ⟨xs, rfl⟩ := ht d hd
      exact looks_reads r
    rw [oneTypeOnly'_eq, List.mapM_toArray, map_eq_pure_bind]
    refine wpAny_bind (wpAny_bind (wpAny_bind (kas_mapM (r := .type "tuple") _ (fun v hv Q' hq => (hT v hv).here hq) (wpAny_pure ?_))))
    have hall : ((List.map (fun _ => Value.type "tuple") vs).toArray.all fun x => x == Value.type "tuple") = true := by
      simp only [List.all_toArray, List.all_map, List.all_eq_true]
      intro _ _
      exact beq_self_eq_true _
    have h0 : (List.map (fun _ => Value.type "tuple") vs).toArray[0]? = some (Value.type "tuple") := by
      cases vs with
      | nil => simp at h2
      | cons v vs => simp
    rw [h0]
    simp only [hall, if_true]
    exact wpAny_pure (wpAny_pure h)
theorem call_tuple_lt {Q : Value → Shared → Prop} {l b : Addr} {items items2 : Array Value} {e r : Nat → Bool} (hl : s.heap.IsTuple l items) (hb : s.heap.IsTuple b items2)
    (he : ∀ j (h1 : j < items.size) (h2 : j < items2.size), EqAt A.in1 s items[j] items2[j] (e j)) (hr : ∀ j (h1 : j < items.size) (h2 : j < items2.size), e j = false → RcLt A.in1 s items[j] items2[j] (r j))
    (h : Q (.bool (firstLt e r (decide (items.size < items2.size)) (List.range (min items.size items2.size)))) s) : wpAny (model prog w) A (call (.builtin "tuple.__lt__") [.ref l, .ref b]) Q E s := by
  obtain ⟨⟨cls, dd, data, sl⟩, ho, hc, n, hd⟩ := id hl
  obtain ⟨⟨cls2, dd2, data2, sl2⟩, ho2, hc2, n2, hd2⟩ := id hb
  simp only at hc hd hc2 hd2
  subst hc hd hc2 hd2
  exact call_meets F.slot_tuple_lt ⟨_, ho, rfl⟩ F.entry_tuple_lt (F.args_tuple_lt_2 _ _) (tuple_ltAt l b items items2 n n2 dd dd2 sl sl2 e r) ⟨ho, ho2, he, hr, h⟩
theorem oneLt_tup {xs ys : List PyData} {a b : Value} {as bs : List Addr} {Q : Bool → Shared → Prop} (ra : Reads s.heap a (.tuple xs) as) (rb : Reads s.heap b (.tuple ys) bs) (h : alike (.tuple xs) (.tuple ys) = true)
    (hu : A.units + min (PyData.tuple xs).depth (PyData.tuple ys).depth < cLine) (hq : Q (dataLt (.tuple xs) (.tuple ys)) s) : wpAny (model prog w) A (oneLt' true a b) Q E s := by
  have hal : alikeAll xs ys = true := by simpa [alike] using h
  cases ra with
  | @tuple l o vs n _ as₁ h1 h2 h3 h4 =>
    cases rb with
    | @tuple l' o' vs' n' _ bs₁ k1 k2 k3 k4 =>
      have n1 : vs.size = xs.length := by simpa using ReadsAll.length _ _ _ h4
      have n2 : vs'.size = ys.length := by simpa using ReadsAll.length _ _ _ k4
      rw [dataLt_tuple, ← firstLt_toks xs ys hal, ← n1, ← n2] at hq
      rw [oneLt'_eq]
      simp only [if_true]
      have hu1 : A.units + (1 + min (PyData.depthAll xs) (PyData.depthAll ys)) < cLine := by
        simp only [PyData.depth] at hu
        omega
      have hu2 : A.in1.units + min (PyData.depthAll xs) (PyData.depthAll ys) < cLine := by
        have := PySem.SeqAt.room_in hu
        omega
      refine wpAny_bind (wpAny_cRoomFor (by omega) ?_)
      refine wpAny_bind (wpAny_callSpecialIfBound?_slot (T := "tuple") ⟨_, h1, h2⟩ F.slot_tuple_lt (call_tuple_lt (e := pairEq xs ys) (r := fun j => dataLt (xs.getD j .none) (ys.getD j .none)) ⟨_, h1, h2, _, h3⟩ ⟨_, k1, k2, _, k3⟩ (fun j j1 j2 => ?_) (fun j j1 j2 hj => ?_) ?_))
      · have := eqAt_alikeAll xs ys A.in1 s vs.toList vs'.toList _ _ h4 k4 hal hu2 j (by simpa using j1) (by simpa using j2)
        simpa using this
      · have := rcLt_alikeAll xs ys A.in1 s vs.toList vs'.toList _ _ h4 k4 hal hu2 j (by simpa using j1) (by simpa using j2) hj
        simpa using this
      · exact wpAny_truthy_bool hq
/-- tuples, some of them empty, can be sorted -/
theorem sorts_tups {vs : List Value} {ds : List PyData} (e : EachIs (fun v d => ∃ as, Reads s.heap v d as) vs ds) (hal : AllAlike ds) (ht : ∀ d ∈ ds, ∃ xs, d = .tuple xs) (hu : ∀ d, d ∈ ds → A.units + d.depth < cLine) : SortsAt prog w A s (dataKind s.heap ds) vs := by
  by_cases hn : ds.all nemp = true
  · refine SortsAt.data e hal (.inl fun d hd => ?_) hu
    obtain ⟨xs, rfl⟩ := ht d hd
    have := List.all_eq_true.mp hn _ hd
    cases xs with
    | nil => cases this
    | cons x xs => exact ⟨x, xs, rfl⟩
  · have hn : ds.all nemp = false := by simpa using hn
    have room : ∀ {d d' : PyData}, d ∈ ds → A.units + min d.depth d'.depth < cLine := fun {d d'} hd => Nat.lt_of_le_of_lt (Nat.add_le_add_left (Nat.min_le_left _ _) _) (hu d hd)
    refine ⟨fun v hv => ?_, if (ds.head?.map nemp).getD false then general' else oneType', ?_, fun h2 E Q hq => tups_kind h2 e ht hn hq⟩
    · obtain ⟨d, hd, as, r⟩ := e.left v hv
      exact ⟨_, dataKind_some hal hd r⟩
    · intro E x y a b Q ha hb hq
      obtain ⟨d, as, hd, ra, rfl⟩ := dataKind_inv ha
      obtain ⟨d', as', hd', rb, rfl⟩ := dataKind_inv hb
      have hdd := hal d hd d' hd'
      have hroom := room (d' := d') hd
      obtain ⟨xs, rfl⟩ := ht d hd
      obtain ⟨ys, rfl⟩ := ht d' hd'
      cases (ds.head?.map nemp).getD false with
      | true =>
        rw [if_pos rfl]
        exact oneLt_alike (f := false) (fun h => by cases h) ra rb hdd (fun h => by cases h) hroom hq
      | false =>
        rw [if_neg (by simp), keyLt'_oneType]
        exact oneLt_tup ra rb hdd hroom hq
/-- sorted(xs) of any data that can be sorted -/
theorem sorted_any {β : Type} {vs : List Value} {bs : List β} {enc : β → PyData} {R : Value → β → Prop} {l : Addr} {Q : Value → Shared → Prop} (hl : s.heap.IsList l vs.toArray) (e : EachIs R vs bs) (er : EachIs (fun v b => ∃ as, Reads s.heap v (enc b) as) vs bs) (hal : AllAlike (bs.map enc))
    (hk : (∀ d ∈ bs.map enc, ∃ xs, d = .tuple xs) ∨ ∀ d ∈ bs.map enc, d ≠ .none ∧ ∀ xs, d ≠ .tuple xs) (hL : bs.length ≤ sizeLine)
    (hu : ∀ b, b ∈ bs → A.units + 2 + (enc b).depth < cLine) (h : ∀ out, out.length = bs.length → EachIs R out (bs.mergeSort (dataLe false enc)) → Q (.ref (s.heap.objs.size + 1)) { s with heap := sortedAll s.heap vs (List.toArray out) }) :
    wpAny (model prog w) A (call (.builtin "sorted") [.ref l]) Q E s := by
  rcases hk with hk | hk
  · have er' : EachIs (fun v b => ∃ as, Reads (sortingHeap (copyHeap s.heap vs) (s.heap.objs.size + 1) vs) v (enc b) as) vs bs := er.mono fun _ _ ⟨as, r⟩ => ⟨as, PyProof.Rows.Reads.keeps (fun _ _ => sorting_copy_old) r⟩
    exact sorted_vals hl (sorts_tups (s := { s with heap := sortingHeap (copyHeap s.heap vs) (s.heap.objs.size + 1) vs }) (each_map (R := fun v d => ∃ as, Reads (sortingHeap (copyHeap s.heap vs) (s.heap.objs.size + 1) vs) v d as) enc er') hal hk (bound_map hu)) (by rw [e.length]; exact hL)
      (h _ (by rw [sortVals_length false rfl]; exact e.length) (sortVals_data false e er' hal))
  · exact sorted_data hl e er hal (.inr hk) hL hu h
end

theorem okDat_lst {n : Nat} {xs : List D} (h : okDat n (.lst xs) = true) : ∃ m, n = m + 1 ∧ ∀ x ∈ xs, okDat m x = true := by
  rcases okDat_cases h with ⟨m, ys, e, h1 | h1, hx⟩ | h1 | ⟨b, h1⟩ | ⟨b, h1⟩ | ⟨b, h1, _⟩ <;> cases h1
  exact ⟨m, e, hx⟩
theorem okDat_tup {n : Nat} {xs : List D} (h : okDat n (.tup xs) = true) : ∃ m, n = m + 1 ∧ ∀ x ∈ xs, okDat m x = true := by
  rcases okDat_cases h with ⟨m, ys, e, h1 | h1, hx⟩ | h1 | ⟨b, h1⟩ | ⟨b, h1⟩ | ⟨b, h1, _⟩ <;> cases h1
  exact ⟨m, e, hx⟩
mutual
theorem dal_al : ∀ (x y : D), dal x y = true → alike (toP x) (toP y) = true
  | .bl a, y, h => by cases y <;> first | (cases h; done) | simp [toP, alike]
  | .int a, y, h => by cases y <;> first | (cases h; done) | simp [toP, alike]
  | .str a, y, h => by cases y <;> first | (cases h; done) | simp [toP, alike]
  | .lst xs, y, h => by
    cases y with
    | lst ys => simp only [toP, alike]; exact dalL_al xs ys h
    | _ => cases h
  | .tup xs, y, h => by
    cases y with
    | tup ys => simp only [toP, alike]; exact dalL_al xs ys h
    | _ => cases h
  | .non, y, h => by cases y <;> cases h
  | .dct _, y, h => by cases y <;> cases h
  | .ins _ _, y, h => by cases y <;> cases h
  | .scr _, y, h => by cases y <;> cases h
theorem dalL_al : ∀ (xs ys : List D), dalL xs ys = true → alikeAll (toPs xs) (toPs ys) = true
  | [], ys, _ => by cases ys <;> simp [toPs, alikeAll]
  | x :: xs, [], _ => by simp [toPs, alikeAll]
  | x :: xs, y :: ys, h => by
    have h : (dal x y && dalL xs ys) = true := h
    rw [Bool.and_eq_true] at h
    simp only [toPs, alikeAll, dal_al x y h.1, dalL_al xs ys h.2, Bool.and_self]
end
mutual
theorem dlt_eq : ∀ (x y : D) (n k : Nat), okDat n x = true → okDat k y = true → dal x y = true → dataLt (toP x) (toP y) = dlt x y
  | .bl a, y, n, k, _, _, h => by
    cases y with
    | bl b => simp only [toP, dlt]; rw [dataLt_bool]; cases a <;> cases b <;> rfl
    | _ => cases h
  | .int a, y, n, k, _, _, h => by
    cases y with
    | int b => simp only [toP, dlt]; rw [dataLt_int]
    | _ => cases h
  | .str a, y, n, k, _, _, h => by
    cases y with
    | str b => simp only [toP, dlt]; rw [dataLt_str]
    | _ => cases h
  | .lst xs, y, n, k, h1, h2, h => by
    cases y with
    | lst ys =>
      obtain ⟨m, _, g1⟩ := okDat_lst h1
      obtain ⟨m', _, g2⟩ := okDat_lst h2
      simp only [toP, dlt]; rw [dataLt_list]
      exact dltL_eq xs ys m m' g1 g2 h
    | _ => cases h
  | .tup xs, y, n, k, h1, h2, h => by
    cases y with
    | tup ys =>
      obtain ⟨m, _, g1⟩ := okDat_tup h1
      obtain ⟨m', _, g2⟩ := okDat_tup h2
      simp only [toP, dlt]; rw [dataLt_tuple]
      exact dltL_eq xs ys m m' g1 g2 h
    | _ => cases h
  | .non, y, _, _, _, _, h => by cases y <;> cases h
  | .dct _, y, _, _, _, _, h => by cases y <;> cases h
  | .ins _ _, y, _, _, _, _, h => by cases y <;> cases h
  | .scr _, y, _, _, _, _, h => by cases y <;> cases h
theorem dltL_eq : ∀ (xs ys : List D) (n k : Nat), (∀ x ∈ xs, okDat n x = true) → (∀ y ∈ ys, okDat k y = true) → dalL xs ys = true → PyProof.Rows.lexLt itemOrd (keyToksAll (toPs xs)) (keyToksAll (toPs ys)) = dltL xs ys
  | [], [], _, _, _, _, _ => lex_irrefl _
  | [], y :: ys, _, _, _, _, _ => by
    simp only [toPs, dltL]
    rw [toks_all_cons]
    simp only [keyToksAll]
    rw [lex_diff (O := itemOrd) (by simp)]
    simp [itemLt]
  | x :: xs, [], _, _, _, _, _ => by
    simp only [toPs, dltL]
    rw [toks_all_cons]
    simp only [keyToksAll]
    rw [lex_diff (O := itemOrd) (by simp)]
    simp [itemLt]
  | x :: xs, y :: ys, n, k, h1, h2, h => by
    have h : (dal x y && dalL xs ys) = true := h
    rw [Bool.and_eq_true] at h
    simp only [toPs, dltL]
    rw [dataLt_cons (dal_al x y h.1), eqv_deq n x y k (h1 x (by simp)) (h2 y (by simp)), dlt_eq x y n k (h1 x (by simp)) (h2 y (by simp)) h.1,
      dltL_eq xs ys n k (fun z hz => h1 z (by simp [hz])) (fun z hz => h2 z (by simp [hz])) h.2]
end
def rSortD (K : PySem.W.Frag) : List V → Hp → VK → Prop := fun vs H Q => ∃ (a : Addr) (bs : List (V × D)), vs = [V.ref a] ∧ SqL K H a (bs.map (·.1)) ∧ (∀ b ∈ bs, Dp K H b.1 (toP b.2)) ∧ sOk (bs.map (·.2)) = true ∧
  ∀ p, H p = none → Q (.ref p) (upd H p (.lst ((bs.mergeSort fun x y => !dlt y.2 x.2).map (·.1))))
theorem each_dp {X : Cx} {pins : List (Addr × Obj)} {σ : L2.St} {H : Hp} {s : Shared} (I : Inv X pins σ H s) : ∀ (bs : List (V × D)) (its : List Value), (∀ b ∈ bs, Dp X.K H b.1 (toP b.2)) → Vals (bs.map (·.1)) its →
    EachIs (fun v b => RelV b.1 v) its bs ∧ EachIs (fun v b => ∃ as, Reads s.heap v (toP b.2) as) its bs
  | [], its, _, r => by
    have r : Vals [] its := r
    cases r
    exact ⟨.nil, .nil⟩
  | b :: bs, its, h, r => by
    have r : Vals (b.1 :: bs.map (·.1)) its := r
    cases r with
    | cons r1 r2 =>
      obtain ⟨h1, h2⟩ := each_dp I bs _ (fun b hb => h b (by simp [hb])) r2
      exact ⟨.cons r1 h1, .cons (Dp.reads I _ _ _ (h b (by simp)) r1) h2⟩
theorem each_vals : ∀ {out : List Value} {bs : List (V × D)}, EachIs (fun v b => RelV b.1 v) out bs → Vals (bs.map (·.1)) out
  | _, _, .nil => .nil
  | _, _, .cons h t => .cons h (each_vals t)
theorem isTp_toP {d : D} (h : isTp d = true) : ∃ xs, toP d = .tuple xs := by
  cases d <;> first | (cases h; done) | exact ⟨_, rfl⟩
theorem notTp_toP {d e : D} (h : isTp d = false) (hd : dal d e = true) : toP d ≠ .none ∧ ∀ xs, toP d ≠ .tuple xs := by
  cases d <;> first | (cases h; done) | (cases e <;> cases hd; done) | (simp only [toP]; exact ⟨by simp, by simp⟩) | (exfalso; cases e <;> cases hd)
section
variable {X : Cx} {cn : Cn}
theorem cr_sortD (hu : X.A.units + 64 < cLine) : CallR X (.builtin "sorted") (rSortD X.K) := by
  intro pins s σ H vs us Q I r h
  obtain ⟨a, bs, rfl, hs, hx, ok, q⟩ := h
  obtain ⟨its, rv, hl, hz⟩ := I.list hs
  obtain ⟨u, rfl, ru⟩ := vals1 r
  obtain rfl : u = Value.ref a := ru
  obtain ⟨e1, e2⟩ := each_dp I bs its hx rv
  unfold sOk at ok
  simp only [Bool.and_eq_true, Bool.or_eq_true, List.all_eq_true, List.mem_map, decide_eq_true_eq] at ok
  obtain ⟨⟨⟨o1, o2⟩, o3⟩, o4⟩ := ok
  have o1 : ∀ b ∈ bs, okDat 60 b.2 = true := fun b hb => o1 _ ⟨b, hb, rfl⟩
  have o2 : ∀ b ∈ bs, ∀ b' ∈ bs, dal b.2 b'.2 = true := fun b hb b' hb' => o2 _ ⟨b, hb, rfl⟩ _ ⟨b', hb', rfl⟩
  refine sorted_any (β := V × D) (R := fun v b => RelV b.1 v) (enc := fun b => toP b.2) hl.isList e1 e2 (fun d hd d' hd' => ?_) ?_ (by rw [List.length_map] at o4; exact o4) (fun b hb => ?_) fun out ho eo => ?_
  · obtain ⟨b, hb, rfl⟩ := List.mem_map.mp hd
    obtain ⟨b', hb', rfl⟩ := List.mem_map.mp hd'
    exact dal_al _ _ (o2 b hb b' hb')
  · rcases o3 with o3 | o3
    · refine .inl fun d hd => ?_
      obtain ⟨b, hb, rfl⟩ := List.mem_map.mp hd
      exact isTp_toP (o3 _ ⟨b, hb, rfl⟩)
    · refine .inr fun d hd => ?_
      obtain ⟨b, hb, rfl⟩ := List.mem_map.mp hd
      exact notTp_toP (by simpa using o3 _ ⟨b, hb, rfl⟩) (o2 b hb b hb)
  · have := (toP_ok 60 _ (o1 b hb)).2
    have hu' := hu
    omega
  · have em : bs.mergeSort (dataLe false fun b : V × D => toP b.2) = bs.mergeSort fun x y => !dlt y.2 x.2 := by
      have := List.map_mergeSort (r := dataLe false fun b : V × D => toP b.2) (s := fun x y : V × D => !dlt y.2 x.2) (f := id) (l := bs) fun x hx y hy => by
        show (!dataLt (toP y.2) (toP x.2)) = !dlt y.2 x.2
        rw [dlt_eq _ _ 60 60 (o1 y hy) (o1 x hx) (o2 y hy x hx)]
      simpa using this
    rw [em] at eo
    obtain ⟨n, hn⟩ := sortedAll_at s.heap its out.toArray
    have hd : s.heap.objs.size ≤ s.heap.objs.size + 1 := Nat.le_succ _
    refine ⟨.ref (s.heap.objs.size + 1), upd H (s.heap.objs.size + 1) (.lst ((bs.mergeSort fun x y => !dlt y.2 x.2).map (·.1))), I.laid (t' := s.toks) (fun b o e => sortedAll_old e) hd ⟨?_, out, n, each_vals eo, hn⟩, rfl, q _ (I.hok.fresh hd)⟩
    rw [List.length_map, List.length_mergeSort]
    rw [List.length_map] at o4; exact o4
theorem zip_sq {F : Hp} : ∀ (vs : List V) (ds : List D), Reps X.K cn F vs ds → (vs.zip ds).map (·.1) = vs ∧ (vs.zip ds).map (·.2) = ds ∧ ∀ b ∈ vs.zip ds, Rep X.K cn F b.1 b.2
  | vs, [], r => by cases r.inv0; exact ⟨rfl, rfl, fun b hb => by simp at hb⟩
  | vs, d :: ds, r => by
    obtain ⟨v, vs', rfl, r1, r2⟩ := r.inv
    obtain ⟨h1, h2, h3⟩ := zip_sq vs' ds r2
    refine ⟨by rw [List.zip_cons_cons, List.map_cons, h1], by rw [List.zip_cons_cons, List.map_cons, h2], fun b hb => ?_⟩
    rw [List.zip_cons_cons] at hb
    rcases List.mem_cons.mp hb with rfl | hb
    · exact r1
    · exact h3 b hb
theorem reps_of {F : Hp} : ∀ (bs : List (V × D)), (∀ b ∈ bs, Rep X.K cn F b.1 b.2) → Reps X.K cn F (bs.map (·.1)) (bs.map (·.2))
  | [], _ => Reps.nil
  | b :: bs, h => Reps.cons (h b (by simp)) (reps_of bs fun c hc => h c (by simp [hc]))
theorem r_sort : RCN X.K cn (rSortD X.K) (o1 dSort) := rn1 fun F H x dx d Q s hx e k => by
  cases dx with
  | lst xs =>
    have e : (if sOk xs then some (D.lst (xs.mergeSort fun x y => !dlt y x)) else none) = some d := e
    split at e
    · rename_i ok
      cases e
      obtain ⟨a, vs, rfl, h, r⟩ := hx
      obtain ⟨z1, z2, z3⟩ := zip_sq vs xs r
      have ok' := ok
      unfold sOk at ok'
      simp only [Bool.and_eq_true, List.all_eq_true] at ok'
      have hm : ∀ b ∈ vs.zip xs, b.2 ∈ xs := fun b hb => by rw [← z2]; exact List.mem_map.mpr ⟨b, hb, rfl⟩
      refine ⟨a, vs.zip xs, rfl, by rw [z1]; exact SqL.of h, fun b hb => dp_rep s 60 _ _ (ok'.1.1.1 _ (hm b hb)) (z3 b hb), by rw [z2]; exact ok, fun p hp => ?_⟩
      refine k p _ _ rfl hp ?_
      have := List.map_mergeSort (r := fun x y : V × D => !dlt y.2 x.2) (s := fun x y : D => !dlt y x) (f := (·.2)) (l := vs.zip xs) fun _ _ _ _ => rfl
      rw [z2] at this
      rw [← this]
      refine reps_of _ fun b hb => z3 b ?_
      exact (List.mergeSort_perm _ _).mem_iff.mp hb
    · cases e
  | _ => cases e
end
end Ed

set_option autoImplicit true
set_option Elab.async false
set_option linter.all false
set_option maxRecDepth 100000
set_option maxHeartbeats 4000000
set_option autoImplicit false
/-! texts: join, ljust, {x:>4}; max with default= -/
namespace L2
open PySem PySem.Spec PyProof.Rows
section
variable {X : Cx}
theorem holdInts {h : Heap} : ∀ {ns : List Int} {its : List Value}, Vals (ns.map V.int) its → ∃ as, PySem.ReadsAll h its (ns.map PySem.PyData.int) as
  | [], its, r => by
    have r : Vals [] its := r
    cases r
    exact ⟨[], .nil⟩
  | n :: ns, its, r => by
    have r : Vals (V.int n :: ns.map V.int) its := r
    cases r with
    | cons r1 r2 =>
      obtain ⟨t, rfl⟩ := r1
      obtain ⟨as, q⟩ := holdInts r2
      exact ⟨[] ++ as, .cons (.int n t) q⟩
theorem maxOf_max : ∀ (ys : List Int) (y : Int), PySem.W.maxOf y ys = ys.foldl max y
  | [], y => rfl
  | z :: ys, y => by
    show PySem.W.maxOf (if decide (y < z) = true then z else y) ys = ys.foldl max (max y z)
    rw [maxOf_max]
    congr 1
    by_cases h : y < z
    · rw [if_pos (by simpa using h), Int.max_eq_right (by omega)]
    · rw [if_neg (by simpa using h), Int.max_eq_left (by omega)]
def rMaxD (K : PySem.W.Frag) : List V → List V → Hp → VK → Prop := fun vs zs H Q => ∃ (a : Addr) (ns : List Int) (k : Int), vs = [V.ref a] ∧ zs = [V.int k] ∧ SqL K H a (ns.map V.int) ∧ Q (.int ((Ed.maxL ns).getD k)) H
theorem cr_maxD (hc : X.calm = true) (hu : X.A.units + 64 < cLine) : CallRK X (.builtin "max") [Str.ofString "default"] (rMaxD X.K) := by
  intro pins s σ H vs zs us ws Q I r rz h
  obtain ⟨a, ns, k, rfl, rfl, hs, q⟩ := h
  obtain rfl := Vals.ref1 r
  obtain ⟨w1, rfl, e1⟩ := vals1 rz
  obtain ⟨t, rfl⟩ := e1
  obtain ⟨its, rv, hl, hz⟩ := I.list hs
  obtain ⟨as, hh⟩ := holdInts (h := s.heap) rv
  refine PySem.W.max_list_datum_default (α := Int) (xs := ns) (I.ok.hd hc) hl.isList ⟨as, by rw [List.toList_toArray]; exact hh⟩ (show X.A.units + 1 + 0 < cLine by omega) (fun e h' tk hk => ?_) fun y ys i v h' tk e hv ho hk => ?_
  · subst e
    exact ⟨.int k, H, I.kept hk, ⟨_, rfl⟩, q⟩
  · subst e
    obtain ⟨bs, ho⟩ := ho
    have ho : PySem.Reads h' v (.int (PySem.W.maxOf y ys)) bs := ho
    cases ho
    refine ⟨.int _, H, I.kept hk, ⟨_, rfl⟩, ?_⟩
    rw [maxOf_max]
    exact q
/-- {x:>4} of a small number -/
def tFmt4 (te : TE) : TE := fun σ H Q => te σ H fun x H1 => ∃ a : Int, x = .int a ∧ 0 ≤ a ∧ a ≤ 12 ∧ Q (.str (Ed.pad4 a.toNat)) H1
section
open PySem.W
theorem fmt4 {A : Around} {prog : Program} {w : World} {E : Value → Shared → Prop} {s : Shared} {Q : Value → Shared → Prop} {a : Int} {t : Tok} (h0 : 0 ≤ a) (h1 : a ≤ 12) (h : ∀ t' k, Q (.str (Ed.pad4 a.toNat) t') { s with toks := k }) :
    wpAny (model prog w) A (formatField (.int a t) (Str.ofString ">4")) Q E s := by
  have hc : a = 0 ∨ a = 1 ∨ a = 2 ∨ a = 3 ∨ a = 4 ∨ a = 5 ∨ a = 6 ∨ a = 7 ∨ a = 8 ∨ a = 9 ∨ a = 10 ∨ a = 11 ∨ a = 12 := by omega
  have e : (Str.ofString ">4") = (⟨#[62, 52]⟩ : Str) := by decide +kernel
  rcases hc with rfl | rfl | rfl | rfl | rfl | rfl | rfl | rfl | rfl | rfl | rfl | rfl | rfl
  all_goals exact KXf.field_int (spec' := ⟨#[62, 52]⟩) e (by decide +kernel) (by decide +kernel) (by kxf_run_i) h
end
theorem pe_fmt4 {e : Expr} {te : TE} {pos p1 p2 : Pos} {j : Nat} (he : PE X e te) : PE X (.FormattedValue e (-1) (some (.JoinedStr [.Constant (.str ">4") j p1] p2)) pos) (tFmt4 te) := by
  refine ⟨fun pins s σ H Q I h => ?_⟩
  refine PySem.wpAny_FormattedValue_spec (thn (he.run pins s σ H _ I h) fun v s1 hv => ?_)
  obtain ⟨x, H1, I1, r1, a, rfl, h0, h1, q⟩ := hv
  obtain ⟨t, rfl⟩ := r1
  have hs : PE X (.JoinedStr [.Constant (.str ">4") j p1] p2) (tC (.str (Str.ofString ">4"))) := pe_joined1 pe_str
  refine thn (hs.run pins s1 σ H1 (fun y H2 => y = .str (Str.ofString ">4") ∧ H2 = H1) I1 ⟨rfl, rfl⟩) fun r s2 hr => ?_
  obtain ⟨y, H2, I2, r2, ey, eH⟩ := hr
  subst ey
  subst eH
  obtain ⟨u, rfl⟩ := r2
  exact ⟨_, u, rfl, fmt4 h0 h1 fun t' k => ⟨.str _, H2, I2.tok k, ⟨t', rfl⟩, q⟩⟩
end
end L2
namespace Ed
open PySem L2
section
variable {X : Cx} {cn : Cn} {W : WX} {a : Expr} {qa : QV} {pos : Pos}
theorem je_fmt4 {p1 p2 : Pos} {j : Nat} (h : JQ X cn W a qa) : JE X cn W (.FormattedValue a (-1) (some (.JoinedStr [.Constant (.str ">4") j p1] p2)) pos) (eU dFmt4 qa) := by
  obtain ⟨t1, p1, d1⟩ := h
  refine ⟨_, pe_fmt4 p1, de_U (r := fun x H Q => ∃ a : Int, x = .int a ∧ 0 ≤ a ∧ a ≤ 12 ∧ Q (.str (pad4 a.toNat)) H) (fun F H x dx d Q s hx e k => ?_) d1⟩
  cases dx with
  | int i =>
    have e : (if 0 ≤ i ∧ i ≤ 12 then some (D.str (pad4 i.toNat)) else none) = some d := e
    split at e
    · rename_i hz; cases e; exact ⟨i, hx.int, hz.1, hz.2, k _ F H (ext0 s) (.str _)⟩
    · cases e
  | _ => cases e
theorem je_maxD {x : Str} {p p1 kp : Pos} {k : Int} {j : Nat} (hc : X.calm = true) (hu : X.A.units + 64 < cLine) (hq : JQ X cn W a qa) (hg : Gl X x) (hm : X.mg x = none) (hv : bootBuiltins x = some (.builtin "max")) (hn : x ≠ "__name__" := by decide) (hdb : (x == ("__debug__" : Str)) = false := by decide)
    (he : starEach [a] X.env = (false, eval a X.env) :: starEach [] X.env := by rfl) (he2 : backTo pos (starEach [a] X.env) = (false, eval a X.env) :: backTo pos (starEach [] X.env) := by rfl) (hpl : (backTo pos (starEach [a] X.env)).any (·.1) = false := by rfl)
    (hall : (backToKw pos (keywordEach [⟨some "default", .Constant (.int k) j p1, kp⟩] X.env)).all (·.1.isSome) = true := by rfl) (hnone : (backToKw pos (keywordEach [⟨some "default", .Constant (.int k) j p1, kp⟩] X.env)).any (·.1.isNone) = false := by rfl)
    (hks : (backToKw pos (keywordEach [⟨some "default", .Constant (.int k) j p1, kp⟩] X.env)).filterMap (·.1) = [Str.ofString "default"] := by rfl) :
    JE X cn W (.Call (.Name x p) [a] [⟨some "default", .Constant (.int k) j p1, kp⟩] pos) (eU (dMaxI k) qa) := by
  obtain ⟨t1, q1, d1⟩ := hq
  refine ⟨_, pe_callBK (cr_maxD hc hu) hg hm hv (pa_cons q1 pa_nil he) (pk_cons pe_int pk_nil) hn hdb he2 hpl hall hnone hks, de_U (r := fun y H Q => rMaxD X.K [y] [.int k] H Q) (fun F H x dx d Q s hx e kk => ?_) d1⟩
  cases dx with
  | lst xs =>
    have e : (intsL xs).map (fun ns => D.int ((maxL ns).getD k)) = some d := e
    cases q : intsL xs with
    | none => rw [q] at e; cases e
    | some ns =>
      rw [q] at e; cases e
      obtain ⟨b, vs, rfl, h, r⟩ := hx
      rw [ints_ok xs vs ns q r] at h
      exact ⟨b, ns, k, rfl, rfl, SqL.of h, kk _ F H (ext0 s) (.int _)⟩
  | _ => cases e
theorem strs_ok {F : Hp} : ∀ (xs : List D) (vs : List V) (ns : List Str), strsL xs = some ns → Reps X.K cn F vs xs → vs = ns.map V.str
  | [], vs, ns, e, r => by cases e; exact r.inv0
  | x :: xs, vs, ns, e, r => by
    obtain ⟨v, vs', rfl, r1, r2⟩ := r.inv
    cases x with
    | str i =>
      have e : (strsL xs).map (i :: ·) = some ns := e
      cases q : strsL xs with
      | none => rw [q] at e; cases e
      | some ms =>
        rw [q] at e; cases e
        cases r1
        rw [strs_ok xs vs' ms q r2]; rfl
    | _ => cases e
theorem rm_join : RMD X.K cn (fun x xs H Q => ∃ a p, ∃ ys : List Str, x = .str a ∧ xs = [.ref p] ∧ (SqL X.K H p (ys.map V.str) ∨ SqT X.K H p (ys.map V.str)) ∧
    (ys.map (·.length)).sum + ys.length * a.length ≤ 16777216 ∧ Q (.str (Txt.join a ys)) H) dJoin := fun F H x vs dx ds d Q s hx hp e k => by
  cases dx with
  | str a =>
    have go : ∀ (xs : List D) (ys : List Str), strsL xs = some ys → joinZ a ys = some d → (ys.map (·.length)).sum + ys.length * a.length ≤ 16777216 ∧ Q (.str (Txt.join a ys)) H := fun xs ys e1 e2 => by
      unfold joinZ at e2
      split at e2
      · rename_i hz
        cases e2
        refine ⟨hz, ?_⟩
        rw [TL.join_eq]
        exact k _ F H (ext0 s) (.str _)
      · cases e2
    match ds, hp, e with
    | [.lst xs], hp, e =>
      obtain ⟨v, rfl, hv⟩ := pair1 hp
      have e : (strsL xs).bind (joinZ a) = some d := e
      cases q : strsL xs with
      | none => rw [q] at e; cases e
      | some ys =>
        rw [q] at e
        obtain ⟨b, ws, rfl, h, r⟩ := hv
        rw [strs_ok xs ws ys q r] at h
        obtain ⟨g1, g2⟩ := go xs ys q e
        exact ⟨a, b, ys, hx.str, rfl, .inl (SqL.of h), g1, g2⟩
    | [.tup xs], hp, e =>
      obtain ⟨v, rfl, hv⟩ := pair1 hp
      have e : (strsL xs).bind (joinZ a) = some d := e
      cases q : strsL xs with
      | none => rw [q] at e; cases e
      | some ys =>
        rw [q] at e
        obtain ⟨b, ws, rfl, h, r⟩ := hv.tup s
        rw [strs_ok xs ws ys q r] at h
        obtain ⟨g1, g2⟩ := go xs ys q e
        exact ⟨a, b, ys, hx.str, rfl, .inr h, g1, g2⟩
    | [], hp, e => cases e
    | .non :: _, hp, e => cases e
    | .bl _ :: _, hp, e => cases e
    | .int _ :: _, hp, e => cases e
    | .str _ :: _, hp, e => cases e
    | .dct _ :: _, hp, e => cases e
    | .ins _ _ :: _, hp, e => cases e
    | .scr _ :: _, hp, e => cases e
    | .lst _ :: _ :: _, hp, e => cases e
    | .tup _ :: _ :: _, hp, e => cases e
  | _ => cases e
theorem ljust_eq (a : Str) {i : Int} (h : 0 ≤ i) : Txt.ljust a i = ljustS a i.toNat := by
  unfold Txt.ljust ljustS
  split
  · rename_i hz
    rw [show i.toNat - a.length = 0 by omega]
    cases a
    simp
  · unfold Builtin.Str.padded
    simp
theorem rm_ljust : RMD X.K cn (fun x xs H Q => ∃ (a : Str) (i : Int), x = .str a ∧ xs = [.int i] ∧ PadOk i = true ∧ Q (.str (Txt.ljust a i)) H) dLjust := fun F H x vs dx ds d Q s hx hp e k => by
  cases dx with
  | str a =>
    match ds, hp, e with
    | [.int i], hp, e =>
      obtain ⟨v, rfl, hv⟩ := pair1 hp
      have e : (if 0 ≤ i ∧ i ≤ 1000 then some (D.str (ljustS a i.toNat)) else none) = some d := e
      split at e
      · rename_i hz
        cases e
        refine ⟨a, i, hx.str, by rw [hv.int], ?_, ?_⟩
        · show (!(decide (i < -(2 ^ 63 : Int)) || decide (i ≥ 2 ^ 63)) && !decide (i.toNat > sizeLine)) = true
          rw [decide_eq_false (show ¬ i < -(2 ^ 63 : Int) by omega), decide_eq_false (show ¬ i ≥ 2 ^ 63 by omega), decide_eq_false (show ¬ i.toNat > sizeLine by rw [sizeLine_eq]; omega)]; rfl
        · rw [ljust_eq a hz.1]
          exact k _ F H (ext0 s) (.str _)
      · cases e
    | [], hp, e => cases e
    | .non :: _, hp, e => cases e
    | .bl _ :: _, hp, e => cases e
    | .str _ :: _, hp, e => cases e
    | .lst _ :: _, hp, e => cases e
    | .tup _ :: _, hp, e => cases e
    | .dct _ :: _, hp, e => cases e
    | .ins _ _ :: _, hp, e => cases e
    | .scr _ :: _, hp, e => cases e
    | .int _ :: _ :: _, hp, e => cases e
  | _ => cases e
end
end Ed

set_option autoImplicit true
set_option Elab.async false
set_option linter.all false
set_option maxRecDepth 100000
set_option maxHeartbeats 4000000
set_option autoImplicit false
/-! texts: split -/
namespace Ed
open PySem L2
theorem pre_one (c x : Nat) (r : List Nat) : TL.pre [c] (x :: r) = decide (x = c) := by
  unfold TL.pre
  show ([x] == [c]) = decide (x = c)
  by_cases h : x = c
  · subst h; simp
  · simp [h]
theorem splL_cons (c x : Nat) (r : List Nat) : splL c (x :: r) = if x = c then [] :: splL c r else consH x (splL c r) := rfl
theorem splL_ne (c : Nat) : ∀ l : List Nat, splL c l ≠ []
  | [] => by simp [splL]
  | x :: r => by
    rw [splL_cons]
    split
    · simp
    · cases splL c r <;> simp [consH]
def preH (acc : List Nat) : List (List Nat) → List (List Nat)
  | h :: t => (acc ++ h) :: t
  | [] => [acc]
theorem spl_one (c : Nat) : ∀ (l acc : List Nat), TL.spl [c] 0 acc l = preH acc (splL c l)
  | [], acc => by
    rw [TL.spl_nil]
    simp [splL, preH]
  | x :: r, acc => by
    rw [splL_cons]
    by_cases h : x = c
    · rw [TL.spl_hit (by rw [pre_one]; simpa using h), if_pos h]
      show acc :: TL.spl [c] 0 [] r = _
      rw [spl_one c r []]
      cases e : splL c r with
      | nil => exact absurd e (splL_ne c r)
      | cons a t => simp [preH]
    · rw [TL.spl_miss (by rw [pre_one]; simpa using h), spl_one c r (acc ++ [x]), if_neg h]
      cases e : splL c r with
      | nil => exact absurd e (splL_ne c r)
      | cons a t => simp [preH, consH]
theorem split_one (a : Str) {b : Str} (h : b.length = 1) (h2 : b.cps.getD 0 0 < 256) : Txt.split a b = splS a (b.cps.getD 0 0) := by
  obtain ⟨cs⟩ := b
  have hb : cs = #[cs.getD 0 0] := by
    apply Array.ext
    · exact h
    · intro i h1 h2
      have : i = 0 := by simp at h2; omega
      subst this
      simp [Array.getD, h1]
  have e : TL.tl ⟨cs⟩ = [cs.getD 0 0] := by
    show cs.toList = _
    rw [hb]; rfl
  refine TL.map_tl_inj ?_
  rw [TL.split_spl a ⟨cs⟩ (by rw [e]; simp) (TL.kind_ok (by
    show cs.all _ = true
    rw [hb]
    simpa using h2)), e, spl_one]
  unfold splS
  rw [List.map_map]
  have e3 : (splL (cs.getD 0 0) a.cps.toList).map (TL.tl ∘ fun l => (⟨l.toArray⟩ : Str)) = splL (cs.getD 0 0) a.cps.toList := by
    have : (TL.tl ∘ fun l => (⟨l.toArray⟩ : Str)) = id := by funext l; rfl
    rw [this, List.map_id]
  show _ = (splL (cs.getD 0 0) a.cps.toList).map (TL.tl ∘ fun l => (⟨l.toArray⟩ : Str))
  rw [e3]
  cases e4 : splL (cs.getD 0 0) a.cps.toList with
  | nil => exact absurd e4 (splL_ne _ _)
  | cons p t => rfl
section
variable {X : Cx} {cn : Cn}
theorem reps_strs {F : Hp} : ∀ ys : List Str, Reps X.K cn F (ys.map V.str) (ys.map D.str)
  | [] => Reps.nil
  | y :: ys => Reps.cons (.str y) (reps_strs ys)
theorem rm_split : RMN X.K cn (fun x xs H Q => ∃ a b, x = .str a ∧ xs = [.str b] ∧ (b.length == 0) = false ∧ a.length + 2 ≤ sizeLine ∧ rNewStrs (Txt.split a b) H Q) dSplit := fun F H x vs dx ds d Q s hx hp e k => by
  cases dx with
  | str a =>
    match ds, hp, e with
    | [.str b], hp, e =>
      obtain ⟨v, rfl, hv⟩ := pair1 hp
      have e : (if b.length = 1 ∧ b.cps.getD 0 0 < 256 ∧ a.length ≤ 16700000 then some (D.lst ((splS a (b.cps.getD 0 0)).map .str)) else none) = some d := e
      split at e
      · rename_i hz
        cases e
        refine ⟨a, b, hx.str, by rw [hv.str], by rw [hz.1]; rfl, by rw [sizeLine_eq]; omega, fun p hp => ?_⟩
        rw [split_one a hz.1 hz.2.1]
        exact k p _ _ rfl hp (reps_strs _)
      · cases e
    | [], hp, e => cases e
    | .non :: _, hp, e => cases e
    | .bl _ :: _, hp, e => cases e
    | .int _ :: _, hp, e => cases e
    | .lst _ :: _, hp, e => cases e
    | .tup _ :: _, hp, e => cases e
    | .dct _ :: _, hp, e => cases e
    | .ins _ _ :: _, hp, e => cases e
    | .scr _ :: _, hp, e => cases e
    | .str _ :: _ :: _, hp, e => cases e
  | _ => cases e
theorem split_lst (x : D) (y : List D) (z : D) (h : dSplit x y = some z) : ∃ l, z = .lst l := by
  unfold dSplit at h
  split at h
  · split at h
    · cases h; exact ⟨_, rfl⟩
    · cases h
  · cases h
end
section
variable {X : Cx} {cn : Cn} {W : WX} {e : Expr} {es : List Expr} {ea : EV} {lv : LV} {p : Pos}
theorem jl_star (h1 : JE X cn W e ea) (h2 : JL X cn W es lv) (hs : starEach (.Starred e p :: es) X.env = (true, eval e X.env) :: starEach es X.env := by rfl) : JL X cn W (.Starred e p :: es) (lStar ea lv) := by
  obtain ⟨t1, p1, d1⟩ := h1
  obtain ⟨t2, p2, d2⟩ := h2
  refine ⟨_, StX.pa_star p1 p2 hs, fun C Γ σ F H Q R k => ?_⟩
  refine d1 C Γ σ F H _ R (k.bind.mono (fun p k v F' H' s1 R1 hv => ?_) fun _ _ z => z)
  obtain ⟨d, Γ1⟩ := p
  dsimp only at k hv R1
  cases d with
  | lst ds =>
    cases hv with
    | @lst a vs _ h hl r =>
      have k : Post ((lv Γ1).bind fun (es, Γ2) => Ed.R.ok (ds ++ es, Γ2)) _ _ := k
      refine ⟨a, vs, rfl, .inr (SqL.of (R1.bs.fh _ _ h)), ?_⟩
      exact d2 C Γ1 σ F' H' _ R1 (k.bind.mono (fun q k ws F2 H2 s2 R2 hw => k (vs ++ ws) F2 H2 (s1.trans s2) R2 (Reps.app (Reps.mono s2 ⟨hl, r⟩) hw)) fun _ _ z => XW.up s1 z)
  | tup ds =>
    obtain ⟨a, vs, rfl, ha, r⟩ := hv.tupE R1.bs.fh
    have k : Post ((lv Γ1).bind fun (es, Γ2) => Ed.R.ok (ds ++ es, Γ2)) _ _ := k
    refine ⟨a, vs, rfl, .inl ha, ?_⟩
    exact d2 C Γ1 σ F' H' _ R1 (k.bind.mono (fun q k ws F2 H2 s2 R2 hw => k (vs ++ ws) F2 H2 (s1.trans s2) R2 (Reps.app (r.mono s2) hw)) fun _ _ z => XW.up s1 z)
  | _ => exact k.elim
end
section
variable {X : Cx} {cn : Cn} {W : WX} {e1 e2 : Expr} {ea eb : EV}
def rIns : V → List V → Hp → VK → Prop := fun x vs H Q => ∃ (l : Addr) (xs : List V) (i : Int) (y : V), x = .ref l ∧ vs = [.int i, y] ∧ H l = some (.lst xs) ∧ xs.length < sizeLine ∧ 0 ≤ i ∧ i < 2 ^ 63 ∧
    Q .non (upd H l (.lst (xs.take i.toNat ++ [y] ++ xs.drop i.toNat)))
theorem js_ins (i : Nat) {x : Str} {px pa pos2 pos3 : Pos} (h1 : JE X cn W e1 ea) (h2 : JE X cn W e2 eb) (hN : X.N[i]? = some x := by rfl)
    (pe : ∀ t1 t2, PE X e1 t1 → PE X e2 t2 → PE X (.Call (.Attribute (.Name x px) "insert" pa) [e1, e2] [] pos2) (tBM X.K "list" rIns (tVar i) (tCons t1 (tCons t2 tNil))))
    (hs : swapsWith (.Call (.Attribute (.Name x px) "insert" pa) [e1, e2] [] pos2) none pos3.line X.env = pure false := by rfl) : JS X cn W (.Expr (.Call (.Attribute (.Name x px) "insert" pa) [e1, e2] [] pos2) pos3) (sIns i ea eb) := by
  obtain ⟨t1, p1, d1⟩ := h1
  obtain ⟨t2, p2, d2⟩ := h2
  refine ⟨_, ps_expr (pe t1 t2 p1 p2) hs, fun C Γ σ F H Dn R k => ?_⟩
  unfold sIns at k
  cases q : look (get Γ i) with
  | none => rw [q] at k; exact k.elim
  | some x0 =>
    rw [q] at k
    obtain ⟨v0, e0, s0⟩ := R.read q
    cases x0 with
    | lst xs0 =>
      obtain ⟨l, ws, rfl, hq, _⟩ := s0
      refine ⟨.ref l, e0, .inl ⟨rfl, _, SqL.of hq⟩, ?_⟩
      refine d1 C Γ σ F H _ R (k.bind.mono (fun p k v F' H' s r rv => ?_) fun _ _ z => z)
      obtain ⟨d, Γ1⟩ := p
      dsimp only at k rv r
      refine d2 C Γ1 σ F' H' _ r (k.bind.mono (fun p k y F2 H2 s2 r2 ry => ?_) fun _ _ z => XW.up s z)
      obtain ⟨dy, Γ2⟩ := p
      dsimp only at k ry r2
      cases d with
      | int kk =>
        cases q1 : get Γ2 i with
        | own d2 =>
          cases d2 with
          | lst xs =>
            rw [q1] at k
            dsimp only at k
            split at k
            · rename_i hz
              obtain ⟨a, e1, n, n0, vs, hvs, rvs⟩ := r2.at q1 (fun z => by cases z)
              have e2 := join_some e1
              rw [e0] at e2
              cases e2
              cases rv
              refine ⟨l, vs, kk, y, rfl, rfl, hvs, by rw [rvs.1, sizeLine_eq]; exact hz.2.2, hz.1, by omega, ?_⟩
              refine k σ F2 _ (s.trans s2) (r2.mut q1 (join_some e1) ?_)
              exact ⟨_, upd_same, ((rvs.take _).app (.cons ry .nil)).app (rvs.drop _)⟩
            · exact k.elim
          | _ => rw [q1] at k; exact k.elim
        | _ => rw [q1] at k; exact k.elim
      | _ => exact k.elim
    | _ => exact k.elim
end
section
variable {X : Cx} {cn : Cn}
theorem strip_eq (a b : Str) : Txt.stripChars a b = stripS a b := by
  refine TL.ext_tl ?_
  show TL.tl (Txt.stripBy b.cps.contains true true a) = _
  rw [PySem.W.stripBy_eq]
  show TL.tl (Builtin.Str.strSub a (stripLo b.cps.contains a.cps.toList) (a.length - ((a.cps.toList.drop (stripLo b.cps.contains a.cps.toList)).reverse.takeWhile b.cps.contains).length)) = _
  rw [TL.tl_strSub]
  have hl : a.cps.toList.length = a.length := by simp [Str.length]
  show _ = (a.cps.toList.drop (stripLo b.cps.contains a.cps.toList)).take (stripHi b.cps.contains a.cps.toList - stripLo b.cps.contains a.cps.toList)
  unfold stripHi
  rw [hl]
theorem rm_strip : RMD X.K cn (fun x xs H Q => ∃ a b, x = .str a ∧ xs = [.str b] ∧ a.length ≤ sizeLine ∧ Q (.str (Txt.stripChars a b)) H) dStrip := fun F H x vs dx ds d Q s hx hp e k => by
  cases dx with
  | str a =>
    match ds, hp, e with
    | [.str b], hp, e =>
      obtain ⟨v, rfl, hv⟩ := pair1 hp
      have e : (if a.length ≤ 16700000 then some (D.str (stripS a b)) else none) = some d := e
      split at e
      · rename_i hz
        cases e
        refine ⟨a, b, hx.str, by rw [hv.str], by rw [sizeLine_eq]; omega, ?_⟩
        rw [strip_eq]
        exact k _ F H (ext0 s) (.str _)
      · cases e
    | [], hp, e => cases e
    | .non :: _, hp, e => cases e
    | .bl _ :: _, hp, e => cases e
    | .int _ :: _, hp, e => cases e
    | .lst _ :: _, hp, e => cases e
    | .tup _ :: _, hp, e => cases e
    | .dct _ :: _, hp, e => cases e
    | .ins _ _ :: _, hp, e => cases e
    | .scr _ :: _, hp, e => cases e
    | .str _ :: _ :: _, hp, e => cases e
  | _ => cases e
def rCntS (K : PySem.W.Frag) : V → List V → Hp → VK → Prop := fun x xs H Q => ∃ (p : Addr) (ys : List Str) (k : Str), x = .ref p ∧ xs = [.str k] ∧ SqL K H p (ys.map V.str) ∧ Q (.int (ys.count k : Nat)) H
theorem countIn_eq (k : Str) : ∀ {vs : List Value} {ys : List Str}, PyProof.Rows.StrsAre vs ys → vs.countP (PyProof.Rows.isStrOf k) = ys.count k
  | _, _, .nil => rfl
  | _, _, .cons n u h => by
    rw [List.countP_cons, List.count_cons, countIn_eq k h]
    rfl
theorem mt_scount : MtR X "list.count" (rCntS X.K) := by
  intro pins s σ H x xs v us Q I rx rxs h
  obtain ⟨p, ys, k, rfl, rfl, hs, q⟩ := h
  cases rx
  obtain ⟨u, rfl, ru⟩ := rxs.one
  obtain ⟨t, rfl⟩ := ru
  obtain ⟨its, rv, hl, hlen⟩ := I.list hs
  have hi := strs_of_vals rv
  refine PyProof.Rows.count_list_strs hl.isList hi ?_
  rw [← PyProof.Rows.countP_isStrOf_map k hi, countIn_eq k hi]
  exact ⟨.int (ys.count k : Nat), H, I.tok _, ⟨_, rfl⟩, q⟩
theorem rm_scount : RMD X.K cn (rCntS X.K) dLCount := fun F H x vs dx ds d Q s hx hp e k => by
  cases dx with
  | lst xs =>
    match ds, hp, e with
    | [.str t], hp, e =>
      obtain ⟨v, rfl, hv⟩ := pair1 hp
      have e : (strsL xs).map (fun l => D.int (l.count t : Nat)) = some d := e
      cases q : strsL xs with
      | none => rw [q] at e; cases e
      | some ys =>
        rw [q] at e
        cases e
        obtain ⟨a, ws, rfl, ha, r⟩ := hx
        rw [strs_ok xs ws ys q r] at ha
        exact ⟨a, ys, t, rfl, by rw [hv.str], SqL.of ha, k _ F H (ext0 s) (.int _)⟩
    | [], hp, e => cases e
    | .non :: _, hp, e => cases e
    | .bl _ :: _, hp, e => cases e
    | .int _ :: _, hp, e => cases e
    | .lst _ :: _, hp, e => cases e
    | .tup _ :: _, hp, e => cases e
    | .dct _ :: _, hp, e => cases e
    | .ins _ _ :: _, hp, e => cases e
    | .scr _ :: _, hp, e => cases e
    | .str _ :: _ :: _, hp, e => cases e
  | _ => cases e
end
end Ed

set_option autoImplicit true
set_option Elab.async false
set_option linter.all false
set_option maxRecDepth 100000
set_option exponentiation.threshold 10000
/-! running the data functions by rewriting: every rest of a run is a named function of what came -/
namespace Ed
open PySem
section
variable {α β : Type} {Γ Γ1 Γ' : Env} {a b c : QV} {e e1 e2 : EV} {t t1 t2 : TV} {av : AV} {lv : LV} {s s1 s2 : SV} {f f' : D → D → Option D} {f1 : D → Option D} {fl : List D → Option D} {i j n m : Nat} {d x y z : D} {F : FV} {ms : List Bool} {g : GV} {p q : PV} {ps qs : List PV} {ds es : List D} {k : Bool} {xc : Xc} {o : DV} {ct : Ctl} {l : List EV} {acc st : Str}
def kR (Γ : Env) : Option D → R (D × Env)
  | some d => .ok (d, Γ)
  | none => .bad
theorem kR_s : kR Γ (some d) = .ok (d, Γ) := rfl
theorem eC_ap : eC d Γ = .ok (d, Γ) := rfl
def kN (i : Nat) (Γ : Env) : Option (D × Sl) → R (D × Env)
  | some (d, s) => .ok (d, put Γ i s)
  | none => .bad
theorem eN_ap : eN i Γ = kN i Γ (frzS (get Γ i)) := by
  unfold eN
  cases frzS (get Γ i) <;> rfl
theorem kN_s {w : Sl} : kN i Γ (some (d, w)) = .ok (d, put Γ i w) := rfl
def kP (i : Nat) (Γ : Env) : Option D → R (PV × Env)
  | some _ => .ok (.pn i, Γ)
  | none => .bad
theorem pN_ap : pN i Γ = kP i Γ (look (get Γ i)) := by
  unfold pN
  cases look (get Γ i) <;> rfl
theorem kP_s : kP i Γ (some d) = .ok (.pn i, Γ) := rfl
def kpE  : R (D × Env) → R (PV × Env)
  | .ok (d, Γ) => .ok (.pd d, Γ)
  | .exc x Γ => .exc x Γ
  | .bad => .bad
theorem kpE_ok : kpE  (.ok (d, Γ)) = .ok (.pd d, Γ) := rfl
theorem kpE_ex : kpE  (.exc xc Γ) = .exc xc Γ := rfl
theorem pE_ap : pE e Γ = kpE (e Γ) := by unfold pE; cases e Γ <;> rfl
def kU2 (f : D → Option D) (Γ : Env) : Option D → R (D × Env)
  | some d => kR Γ (f d)
  | none => .bad
theorem kU2_s : kU2 f1 Γ (some x) = kR Γ (f1 x) := rfl
def kU (f1 : D → Option D) : R (PV × Env) → R (D × Env)
  | .ok (p, Γ) => kU2 f1 Γ (rd Γ p)
  | .exc x Γ => .exc x Γ
  | .bad => .bad
theorem kU_ok : kU f1 (.ok (p, Γ)) = kU2 f1 Γ (rd Γ p) := rfl
theorem kU_ex : kU f1 (.exc xc Γ) = .exc xc Γ := rfl
theorem eU_ap : eU f1 a Γ = kU f1 (a Γ) := by
  unfold eU
  cases a Γ with
  | ok r => obtain ⟨p, Γ'⟩ := r; show (match rd Γ' p with | some d => (R.of (f1 d)).bind fun z => .ok (z, Γ') | none => .bad) = kU2 f1 Γ' (rd Γ' p); cases rd Γ' p with
    | none => rfl
    | some d => show (R.of (f1 d)).bind _ = kR Γ' (f1 d); cases f1 d <;> rfl
  | exc x Γ => rfl
  | bad => rfl
def kB3 (f : D → D → Option D) (Γ : Env) : Option D → Option D → R (D × Env)
  | some d, some e => kR Γ (f d e)
  | _, _ => .bad
theorem kB3_s : kB3 f Γ (some x) (some y) = kR Γ (f x y) := rfl
def kB2 (f : D → D → Option D) (p : PV) : R (PV × Env) → R (D × Env)
  | .ok (q, Γ) => kB3 f Γ (rd Γ p) (rd Γ q)
  | .exc x Γ => .exc x Γ
  | .bad => .bad
theorem kB2_ok : kB2 f p (.ok (q, Γ)) = kB3 f Γ (rd Γ p) (rd Γ q) := rfl
theorem kB2_ex : kB2 f p (.exc xc Γ) = .exc xc Γ := rfl
def kB1 (f : D → D → Option D) (b : QV) : R (PV × Env) → R (D × Env)
  | .ok (p, Γ) => kB2 f p (b Γ)
  | .exc x Γ => .exc x Γ
  | .bad => .bad
theorem kB1_ok : kB1 f b (.ok (p, Γ)) = kB2 f p (b Γ) := rfl
theorem kB1_ex : kB1 f b (.exc xc Γ) = .exc xc Γ := rfl
theorem eB_ap : eB f a b Γ = kB1 f b (a Γ) := by
  unfold eB
  cases a Γ with
  | ok r =>
    obtain ⟨p, Γ1⟩ := r
    show (b Γ1).bind _ = kB2 f p (b Γ1)
    cases b Γ1 with
    | ok r =>
      obtain ⟨q, Γ2⟩ := r
      show (match rd Γ2 p, rd Γ2 q with | some d, some e => (R.of (f d e)).bind fun z => .ok (z, Γ2) | _, _ => .bad) = kB3 f Γ2 (rd Γ2 p) (rd Γ2 q)
      cases rd Γ2 p with
      | none => cases rd Γ2 q <;> rfl
      | some d => cases rd Γ2 q with
        | none => rfl
        | some e => show (R.of (f d e)).bind _ = kR Γ2 (f d e); cases f d e <;> rfl
    | exc x Γ => rfl
    | bad => rfl
  | exc x Γ => rfl
  | bad => rfl
def kF2 (f : List D → Option D) (Γ : Env) : Option (List D) → R (D × Env)
  | some d => kR Γ (f d)
  | none => .bad
theorem kF2_s : kF2 fl Γ (some ds) = kR Γ (fl ds) := rfl
def kF (fl : List D → Option D) : R (List PV × Env) → R (D × Env)
  | .ok (ps, Γ) => kF2 fl Γ (rds Γ ps)
  | .exc x Γ => .exc x Γ
  | .bad => .bad
theorem kF_ok : kF fl (.ok (ps, Γ)) = kF2 fl Γ (rds Γ ps) := rfl
theorem kF_ex : kF fl (.exc xc Γ) = .exc xc Γ := rfl
theorem eF_ap : eF fl av Γ = kF fl (av Γ) := by
  unfold eF
  cases av Γ with
  | ok r => obtain ⟨p, Γ'⟩ := r; show (match rds Γ' p with | some d => (R.of (fl d)).bind fun z => .ok (z, Γ') | none => .bad) = kF2 fl Γ' (rds Γ' p); cases rds Γ' p with
    | none => rfl
    | some d => show (R.of (fl d)).bind _ = kR Γ' (fl d); cases fl d <;> rfl
  | exc x Γ => rfl
  | bad => rfl
theorem aNil_ap : aNil Γ = .ok ([], Γ) := rfl
theorem lNil_ap : lNil Γ = .ok ([], Γ) := rfl
def kA2 (p : PV) : R (List PV × Env) → R (List PV × Env)
  | .ok (ps, Γ) => .ok (p :: ps, Γ)
  | .exc x Γ => .exc x Γ
  | .bad => .bad
theorem kA2_ok : kA2 p (.ok (ps, Γ)) = .ok (p :: ps, Γ) := rfl
theorem kA2_ex : kA2 p (.exc xc Γ) = .exc xc Γ := rfl
def kA1 (av : AV) : R (PV × Env) → R (List PV × Env)
  | .ok (p, Γ) => kA2 p (av Γ)
  | .exc x Γ => .exc x Γ
  | .bad => .bad
theorem kA1_ok : kA1 av (.ok (p, Γ)) = kA2 p (av Γ) := rfl
theorem kA1_ex : kA1 av (.exc xc Γ) = .exc xc Γ := rfl
theorem aCons_ap : aCons a av Γ = kA1 av (a Γ) := by
  unfold aCons
  cases a Γ with
  | ok r =>
    obtain ⟨p, Γ1⟩ := r
    show (av Γ1).bind _ = kA2 p (av Γ1)
    cases av Γ1 <;> rfl
  | exc x Γ => rfl
  | bad => rfl
def kL2 (d : D) : R (List D × Env) → R (List D × Env)
  | .ok (ds, Γ) => .ok (d :: ds, Γ)
  | .exc x Γ => .exc x Γ
  | .bad => .bad
theorem kL2_ok : kL2 d (.ok (ds, Γ)) = .ok (d :: ds, Γ) := rfl
theorem kL2_ex : kL2 d (.exc xc Γ) = .exc xc Γ := rfl
def kL1 (lv : LV) : R (D × Env) → R (List D × Env)
  | .ok (d, Γ) => kL2 d (lv Γ)
  | .exc x Γ => .exc x Γ
  | .bad => .bad
theorem kL1_ok : kL1 lv (.ok (d, Γ)) = kL2 d (lv Γ) := rfl
theorem kL1_ex : kL1 lv (.exc xc Γ) = .exc xc Γ := rfl
theorem lCons_ap : lCons e lv Γ = kL1 lv (e Γ) := by
  unfold lCons
  cases e Γ with
  | ok r =>
    obtain ⟨p, Γ1⟩ := r
    show (lv Γ1).bind _ = kL2 p (lv Γ1)
    cases lv Γ1 <;> rfl
  | exc x Γ => rfl
  | bad => rfl
def kSz (r : R (D × Env)) : Bool → R (D × Env)
  | true => r
  | false => .bad
theorem kSz_t : kSz (.ok (d, Γ)) true = .ok (d, Γ) := rfl
def kTp  : R (List D × Env) → R (D × Env)
  | .ok (ds, Γ) => kSz (.ok (.tup ds, Γ)) (decide (ds.length ≤ seqMax))
  | .exc x Γ => .exc x Γ
  | .bad => .bad
theorem kTp_ok : kTp  (.ok (ds, Γ)) = kSz (.ok (.tup ds, Γ)) (decide (ds.length ≤ seqMax)) := rfl
theorem kTp_ex : kTp  (.exc xc Γ) = .exc xc Γ := rfl
def kLs  : R (List D × Env) → R (D × Env)
  | .ok (ds, Γ) => kSz (.ok (.lst ds, Γ)) (decide (ds.length ≤ seqMax))
  | .exc x Γ => .exc x Γ
  | .bad => .bad
theorem kLs_ok : kLs  (.ok (ds, Γ)) = kSz (.ok (.lst ds, Γ)) (decide (ds.length ≤ seqMax)) := rfl
theorem kLs_ex : kLs  (.exc xc Γ) = .exc xc Γ := rfl
theorem eTup_ap : eTup lv Γ = kTp (lv Γ) := by
  unfold eTup
  cases lv Γ with
  | ok r => obtain ⟨ds, Γ1⟩ := r; show (if ds.length ≤ seqMax then _ else _) = kSz _ _; by_cases h : ds.length ≤ seqMax <;> simp [h, kSz]
  | exc x Γ => rfl
  | bad => rfl
theorem nLst_ap : nLst lv Γ = kLs (lv Γ) := by
  unfold nLst
  cases lv Γ with
  | ok r => obtain ⟨ds, Γ1⟩ := r; show (if ds.length ≤ seqMax then _ else _) = kSz _ _; by_cases h : ds.length ≤ seqMax <;> simp [h, kSz]
  | exc x Γ => rfl
  | bad => rfl
def kIf {α : Type} (a b : Env → R α) : R (Bool × Env) → R α
  | .ok (true, Γ) => a Γ
  | .ok (false, Γ) => b Γ
  | .exc x Γ => .exc x Γ
  | .bad => .bad
theorem kIf_t {u v : Env → R α} : kIf u v (.ok (true, Γ)) = u Γ := rfl
theorem kIf_f {u v : Env → R α} : kIf u v (.ok (false, Γ)) = v Γ := rfl
theorem kIf_ex {u v : Env → R α} : kIf u v (.exc xc Γ) = .exc xc Γ := rfl
def tC (k : Bool) : TV := fun Γ => .ok (k, Γ)
theorem tC_ap : tC k Γ = .ok (k, Γ) := rfl
theorem eAnd_ap : eAnd t1 t2 Γ = kIf (t2) (tC false) (t1 Γ) := by
  unfold eAnd
  cases t1 Γ with
  | ok r => obtain ⟨k, Γ1⟩ := r; cases k <;> rfl
  | exc x Γ => rfl
  | bad => rfl
theorem eOr_ap : eOr t1 t2 Γ = kIf (tC true) (t2) (t1 Γ) := by
  unfold eOr
  cases t1 Γ with
  | ok r => obtain ⟨k, Γ1⟩ := r; cases k <;> rfl
  | exc x Γ => rfl
  | bad => rfl
theorem eNot_ap : eNot t1 Γ = kIf (tC false) (tC true) (t1 Γ) := by
  unfold eNot
  cases t1 Γ with
  | ok r => obtain ⟨k, Γ1⟩ := r; cases k <;> rfl
  | exc x Γ => rfl
  | bad => rfl
theorem eIf_ap : eIf t1 e1 e2 Γ = kIf (e1) (e2) (t1 Γ) := by
  unfold eIf
  cases t1 Γ with
  | ok r => obtain ⟨k, Γ1⟩ := r; cases k <;> rfl
  | exc x Γ => rfl
  | bad => rfl
theorem sIf_ap : sIf t1 s1 s2 Γ = kIf (s1) (s2) (t1 Γ) := by
  unfold sIf
  cases t1 Γ with
  | ok r => obtain ⟨k, Γ1⟩ := r; cases k <;> rfl
  | exc x Γ => rfl
  | bad => rfl
def kE2 (Γ : Env) : D → R (Bool × Env)
  | .bl b => .ok (b, Γ)
  | _ => .bad
theorem kE2_b : kE2 Γ (.bl k) = .ok (k, Γ) := rfl
def kE  : R (D × Env) → R (Bool × Env)
  | .ok (d, Γ) => kE2 Γ d
  | .exc x Γ => .exc x Γ
  | .bad => .bad
theorem kE_ok : kE  (.ok (d, Γ)) = kE2 Γ d := rfl
theorem kE_ex : kE  (.exc xc Γ) = .exc xc Γ := rfl
theorem tE_ap : tE e Γ = kE (e Γ) := by
  unfold tE
  cases e Γ with
  | ok r => obtain ⟨d, Γ1⟩ := r; cases d <;> rfl
  | exc x Γ => rfl
  | bad => rfl
def kT3 (Γ : Env) : Option Bool → R (Bool × Env)
  | some d => .ok (d, Γ)
  | none => .bad
theorem kT3_s : kT3 Γ (some k) = .ok (k, Γ) := rfl
def kT2 (Γ : Env) : Option D → R (Bool × Env)
  | some d => kT3 Γ (truth d)
  | none => .bad
theorem kT2_s : kT2 Γ (some x) = kT3 Γ (truth x) := rfl
def kT  : R (PV × Env) → R (Bool × Env)
  | .ok (p, Γ) => kT2 Γ (rd Γ p)
  | .exc x Γ => .exc x Γ
  | .bad => .bad
theorem kT_ok : kT  (.ok (p, Γ)) = kT2 Γ (rd Γ p) := rfl
theorem kT_ex : kT  (.exc xc Γ) = .exc xc Γ := rfl
theorem tTru_ap : tTru a Γ = kT (a Γ) := by
  unfold tTru
  cases a Γ with
  | ok r => obtain ⟨p, Γ'⟩ := r; show (match rd Γ' p with | some d => (R.of (truth d)).bind fun z => .ok (z, Γ') | none => .bad) = kT2 Γ' (rd Γ' p); cases rd Γ' p with
    | none => rfl
    | some d => show (R.of (truth d)).bind _ = kT3 Γ' (truth d); cases truth d <;> rfl
  | exc x Γ => rfl
  | bad => rfl
theorem tru_int {k : Int} : truth (.int k) = some (k != 0) := rfl
theorem tru_bl {k : Bool} : truth (.bl k) = some k := rfl
theorem tru_lst {k : List D} : truth (.lst k) = some (!k.isEmpty) := rfl
theorem tru_tup {k : List D} : truth (.tup k) = some (!k.isEmpty) := rfl
theorem tru_non : truth .non = some false := rfl
theorem tYs_ap : tYs Γ = .ok (true, Γ) := rfl
def eCB (k : Bool) : EV := fun Γ => .ok (.bl k, Γ)
theorem eCB_ap : eCB k Γ = .ok (.bl k, Γ) := rfl
theorem eAndV_ap : eAndV e1 e2 Γ = kIf (e2) (eCB false) (kE (e1 Γ)) := by
  unfold eAndV
  cases e1 Γ with
  | ok r => obtain ⟨d, Γ1⟩ := r; cases d with
    | bl k => cases k <;> rfl
    | _ => rfl
  | exc x Γ => rfl
  | bad => rfl
theorem eOrV_ap : eOrV e1 e2 Γ = kIf (eCB true) (e2) (kE (e1 Γ)) := by
  unfold eOrV
  cases e1 Γ with
  | ok r => obtain ⟨d, Γ1⟩ := r; cases d with
    | bl k => cases k <;> rfl
    | _ => rfl
  | exc x Γ => rfl
  | bad => rfl
theorem eNotV_ap : eNotV e1 Γ = kIf (eCB false) (eCB true) (kE (e1 Γ)) := by
  unfold eNotV
  cases e1 Γ with
  | ok r => obtain ⟨d, Γ1⟩ := r; cases d with
    | bl k => cases k <;> rfl
    | _ => rfl
  | exc x Γ => rfl
  | bad => rfl
def kCh4 (f' : D → D → Option D) (Γ : Env) : Option D → Option D → R (D × Env)
  | some y, some z => kR Γ (f' y z)
  | _, _ => .bad
theorem kCh4_s : kCh4 f' Γ (some x) (some y) = kR Γ (f' x y) := rfl
def kCh3 (f' : D → D → Option D) (q : PV) : R (PV × Env) → R (D × Env)
  | .ok (p, Γ) => kCh4 f' Γ (rd Γ q) (rd Γ p)
  | .exc x Γ => .exc x Γ
  | .bad => .bad
theorem kCh3_ok : kCh3 f' q (.ok (p, Γ)) = kCh4 f' Γ (rd Γ q) (rd Γ p) := rfl
theorem kCh3_ex : kCh3 f' q (.exc xc Γ) = .exc xc Γ := rfl
def kCh2 (f' : D → D → Option D) (q : PV) (c : QV) (Γ : Env) : Option D → R (D × Env)
  | some (.bl true) => kCh3 f' q (c Γ)
  | some (.bl false) => .ok (.bl false, Γ)
  | _ => .bad
theorem kCh2_t : kCh2 f' q c Γ (some (.bl true)) = kCh3 f' q (c Γ) := rfl
theorem kCh2_f : kCh2 f' q c Γ (some (.bl false)) = .ok (.bl false, Γ) := rfl
def kCh1 (f f' : D → D → Option D) (q : PV) (c : QV) (Γ : Env) : Option D → Option D → R (D × Env)
  | some x, some y => kCh2 f' q c Γ (f x y)
  | _, _ => .bad
theorem kCh1_s : kCh1 f f' q c Γ (some x) (some y) = kCh2 f' q c Γ (f x y) := rfl
def kCh0 (f f' : D → D → Option D) (c : QV) (p : PV) : R (PV × Env) → R (D × Env)
  | .ok (q, Γ) => kCh1 f f' q c Γ (rd Γ p) (rd Γ q)
  | .exc x Γ => .exc x Γ
  | .bad => .bad
theorem kCh0_ok : kCh0 f f' c p (.ok (q, Γ)) = kCh1 f f' q c Γ (rd Γ p) (rd Γ q) := rfl
theorem kCh0_ex : kCh0 f f' c p (.exc xc Γ) = .exc xc Γ := rfl
def kCh (f f' : D → D → Option D) (b c : QV) : R (PV × Env) → R (D × Env)
  | .ok (p, Γ) => kCh0 f f' c p (b Γ)
  | .exc x Γ => .exc x Γ
  | .bad => .bad
theorem kCh_ok : kCh f f' b c (.ok (p, Γ)) = kCh0 f f' c p (b Γ) := rfl
theorem kCh_ex : kCh f f' b c (.exc xc Γ) = .exc xc Γ := rfl
theorem eChain_ap : eChain f f' a b c Γ = kCh f f' b c (a Γ) := by
  unfold eChain
  cases a Γ with
  | ok r =>
    obtain ⟨p, Γ1⟩ := r
    show (b Γ1).bind _ = kCh0 f f' c p (b Γ1)
    cases b Γ1 with
    | ok r =>
      obtain ⟨q, Γ2⟩ := r
      show (match rd Γ2 p, rd Γ2 q with | some x, some y => _ | _, _ => _) = kCh1 f f' q c Γ2 (rd Γ2 p) (rd Γ2 q)
      cases rd Γ2 p with
      | none => cases rd Γ2 q <;> rfl
      | some x => cases rd Γ2 q with
        | none => rfl
        | some y =>
          show (match f x y with | some (.bl true) => _ | some (.bl false) => _ | _ => _) = kCh2 f' q c Γ2 (f x y)
          cases f x y with
          | none => rfl
          | some d => cases d with
            | bl k => cases k with
              | false => rfl
              | true =>
                show (c Γ2).bind _ = kCh3 f' q (c Γ2)
                cases c Γ2 with
                | ok r =>
                  obtain ⟨u, Γ3⟩ := r
                  show (match rd Γ3 q, rd Γ3 u with | some y', some z => (R.of (f' y' z)).bind _ | _, _ => _) = kCh4 f' Γ3 (rd Γ3 q) (rd Γ3 u)
                  cases rd Γ3 q with
                  | none => cases rd Γ3 u <;> rfl
                  | some y' => cases rd Γ3 u with
                    | none => rfl
                    | some z => show (R.of (f' y' z)).bind _ = kR Γ3 (f' y' z); cases f' y' z <;> rfl
                | exc x Γ => rfl
                | bad => rfl
            | _ => rfl
    | exc x Γ => rfl
    | bad => rfl
  | exc x Γ => rfl
  | bad => rfl
def kC (Γ : Env) : R DV → R (DV × Env)
  | .ok o => .ok (o, Γ)
  | .exc x _ => .exc x Γ
  | .bad => .bad
def kCp (F : FV) : Option (List D × Env) → R (DV × Env)
  | some (ds, Γ) => kC Γ (F ds)
  | none => .bad
theorem callF_ap : callF F ms ps Γ = kCp F (prep Γ ms ps) := by
  unfold callF kCp
  cases prep Γ ms ps with
  | none => rfl
  | some p => obtain ⟨ds, Γ'⟩ := p; dsimp only; unfold kC; cases F ds <;> rfl
theorem kCp_s : kCp F (some (ds, Γ)) = kC Γ (F ds) := rfl
theorem kC_ok : kC Γ (.ok o) = .ok (o, Γ) := rfl
theorem kC_ex : kC Γ (.exc xc Γ') = .exc xc Γ := rfl
def kCd  : R (DV × Env) → R (D × Env)
  | .ok (o, Γ) => .ok (o.d, Γ)
  | .exc x Γ => .exc x Γ
  | .bad => .bad
theorem kCd_ok : kCd  (.ok (o, Γ)) = .ok (o.d, Γ) := rfl
theorem kCd_ex : kCd  (.exc xc Γ) = .exc xc Γ := rfl
def kFr2 (Γ : Env) : DV → R (D × Env)
  | .fr d => .ok (d, Γ)
  | .fz _ => .bad
theorem kFr2_r : kFr2 Γ (.fr d) = .ok (d, Γ) := rfl
def kFr  : R (DV × Env) → R (D × Env)
  | .ok (o, Γ) => kFr2 Γ o
  | .exc x Γ => .exc x Γ
  | .bad => .bad
theorem kFr_ok : kFr  (.ok (o, Γ)) = kFr2 Γ o := rfl
theorem kFr_ex : kFr  (.exc xc Γ) = .exc xc Γ := rfl
def kC1 (F : FV) (ms : List Bool) : R (List PV × Env) → R (D × Env)
  | .ok (ps, Γ) => kCd (callF F ms ps Γ)
  | .exc x Γ => .exc x Γ
  | .bad => .bad
theorem kC1_ok : kC1 F ms (.ok (ps, Γ)) = kCd (callF F ms ps Γ) := rfl
theorem kC1_ex : kC1 F ms (.exc xc Γ) = .exc xc Γ := rfl
theorem eCall_ap : eCall F ms av Γ = kC1 F ms (av Γ) := by
  unfold eCall
  cases av Γ with
  | ok r =>
    obtain ⟨ps, Γ1⟩ := r
    show (callF F ms ps Γ1).bind _ = kCd (callF F ms ps Γ1)
    cases callF F ms ps Γ1 with
    | ok r => obtain ⟨o, Γ2⟩ := r; cases o <;> rfl
    | exc x Γ => rfl
    | bad => rfl
  | exc x Γ => rfl
  | bad => rfl
def kC2 (F : FV) (ms : List Bool) : R (List PV × Env) → R (D × Env)
  | .ok (ps, Γ) => kFr (callF F ms ps Γ)
  | .exc x Γ => .exc x Γ
  | .bad => .bad
theorem kC2_ok : kC2 F ms (.ok (ps, Γ)) = kFr (callF F ms ps Γ) := rfl
theorem kC2_ex : kC2 F ms (.exc xc Γ) = .exc xc Γ := rfl
theorem nCall_ap : nCall F ms av Γ = kC2 F ms (av Γ) := by
  unfold nCall
  cases av Γ with
  | ok r =>
    obtain ⟨ps, Γ1⟩ := r
    show (callF F ms ps Γ1).bind _ = kFr (callF F ms ps Γ1)
    cases callF F ms ps Γ1 with
    | ok r => obtain ⟨o, Γ2⟩ := r; cases o <;> rfl
    | exc x Γ => rfl
    | bad => rfl
  | exc x Γ => rfl
  | bad => rfl
theorem dfz : (DV.fz d).d = d := rfl
theorem dfr : (DV.fr d).d = d := rfl
theorem prep0 : prep Γ [] [] = some ([], Γ) := rfl
def pK (d : D) : Option (List D × Env) → Option (List D × Env)
  | some (ds, Γ) => some (d :: ds, Γ)
  | none => none
theorem pK_s : pK d (some (ds, Γ)) = some (d :: ds, Γ) := rfl
theorem prep_d {m : Bool} : prep Γ (m :: ms) (.pd d :: ps) = pK d (prep Γ ms ps) := by
  show (match prep Γ ms ps with | some (ds, Γ') => some (d :: ds, Γ') | none => none) = _
  cases prep Γ ms ps <;> rfl
def pKt (r : Option (List D × Env)) : Option D → Option (List D × Env)
  | some d => pK d r
  | none => none
theorem prep_t : prep Γ (true :: ms) (.pn i :: ps) = pKt (prep Γ ms ps) (look (get Γ i)) := by
  rw [prep]
  simp only [if_true]
  cases look (get Γ i) <;> cases prep Γ ms ps <;> rfl
theorem pKt_s {r : Option (List D × Env)} : pKt r (some d) = pK d r := rfl
def pKf (Γ : Env) (i : Nat) (ms : List Bool) (ps : List PV) : Option (D × Sl) → Option (List D × Env)
  | some (d, s) => pK d (prep (put Γ i s) ms ps)
  | none => none
theorem prep_f : prep Γ (false :: ms) (.pn i :: ps) = pKf Γ i ms ps (frzS (get Γ i)) := by
  rw [prep]
  simp only [Bool.false_eq_true, if_false]
  cases frzS (get Γ i) with
  | none => rfl
  | some r => obtain ⟨d, s⟩ := r; show (match prep (put Γ i s) ms ps with | some (ds, Γ') => some (d :: ds, Γ') | none => none) = pK d (prep (put Γ i s) ms ps); cases prep (put Γ i s) ms ps <;> rfl
theorem pKf_s {w : Sl} : pKf Γ i ms ps (some (d, w)) = pK d (prep (put Γ i w) ms ps) := rfl
def kMk (c : Nat) : R (List (Nat × D)) → R DV
  | .ok fs => .ok (.fz (.ins c fs))
  | .exc x _ => .exc x []
  | .bad => .bad
theorem mkF_ap {Fi : List D → R (List (Nat × D))} : mkF n Fi ds = kMk n (Fi ds) := by unfold mkF kMk; cases Fi ds <;> rfl
theorem kMk_ok {fs : List (Nat × D)} : kMk n (.ok fs) = .ok (.fz (.ins n fs)) := rfl
theorem kMk_ex : kMk n (.exc xc Γ) = .exc xc [] := rfl
def kFl (n m : Nat) : R (D × Env) → R (D × Env)
  | .ok (d, Γ) => kR Γ (fld n m d)
  | .exc x Γ => .exc x Γ
  | .bad => .bad
theorem kFl_ok : kFl n m (.ok (d, Γ)) = kR Γ (fld n m d) := rfl
theorem kFl_ex : kFl n m (.exc xc Γ) = .exc xc Γ := rfl
theorem eFld_ap : eFld n m e Γ = kFl n m (e Γ) := by
  unfold eFld
  cases e Γ with
  | ok r => obtain ⟨d, Γ'⟩ := r; show (R.of (fld n m d)).bind _ = kR Γ' (fld n m d); cases fld n m d <;> rfl
  | exc x Γ => rfl
  | bad => rfl
theorem fld_s {fs : List (Nat × D)} : fld n m (.ins n fs) = fs.lookup m := if_pos rfl
def kO2 (c : Nat) (F : FV) (Γ : Env) : D → D → R (D × Env)
  | .ins c1 a, .ins c2 b => if c1 = c ∧ c2 = c then kCd (callF F [false, false] [.pd (.ins c1 a), .pd (.ins c2 b)] Γ) else .bad
  | _, _ => .bad
theorem kO2_s {u v : List (Nat × D)} : kO2 n F Γ (.ins n u) (.ins n v) = kCd (callF F [false, false] [.pd (.ins n u), .pd (.ins n v)] Γ) := if_pos ⟨rfl, rfl⟩
def kO1 (n : Nat) (F : FV) (x : D) : R (D × Env) → R (D × Env)
  | .ok (y, Γ) => kO2 n F Γ x y
  | .exc x Γ => .exc x Γ
  | .bad => .bad
theorem kO1_ok : kO1 n F x (.ok (y, Γ)) = kO2 n F Γ x y := rfl
theorem kO1_ex : kO1 n F x (.exc xc Γ) = .exc xc Γ := rfl
def kO0 (n : Nat) (F : FV) (e2 : EV) : R (D × Env) → R (D × Env)
  | .ok (x, Γ) => kO1 n F x (e2 Γ)
  | .exc x Γ => .exc x Γ
  | .bad => .bad
theorem kO0_ok : kO0 n F e2 (.ok (x, Γ)) = kO1 n F x (e2 Γ) := rfl
theorem kO0_ex : kO0 n F e2 (.exc xc Γ) = .exc xc Γ := rfl
theorem bind_cd (r : R (DV × Env)) : (r.bind fun (o, Γ3) => R.ok (o.d, Γ3)) = kCd r := by
  cases r with
  | ok p => rfl
  | exc x Γ => rfl
  | bad => rfl
theorem eOwn2_ap : eOwn2 n F e1 e2 Γ = kO0 n F e2 (e1 Γ) := by
  unfold eOwn2
  cases e1 Γ with
  | ok r =>
    obtain ⟨x, Γ1⟩ := r
    show (e2 Γ1).bind _ = kO1 n F x (e2 Γ1)
    cases e2 Γ1 with
    | ok r =>
      obtain ⟨y, Γ2⟩ := r
      cases x with
      | ins c1 u => cases y with
        | ins c2 v =>
          show (if c1 = n ∧ c2 = n then (callF F [false, false] [.pd (.ins c1 u), .pd (.ins c2 v)] Γ2).bind _ else _) = (if c1 = n ∧ c2 = n then kCd _ else _)
          by_cases h : c1 = n ∧ c2 = n
          · rw [if_pos h, if_pos h, ← bind_cd]
          · rw [if_neg h, if_neg h]
        | _ => rfl
      | _ => rfl
    | exc x Γ => rfl
    | bad => rfl
  | exc x Γ => rfl
  | bad => rfl
def kOC3 (k : D → Bool) (Γ : Env) : DV → R (D × Env)
  | .fz d => kSz (.ok (d, Γ)) (k d)
  | .fr _ => .bad
theorem kOC3_s {kk : D → Bool} : kOC3 kk Γ (.fz d) = kSz (.ok (d, Γ)) (kk d) := rfl
def kOC2 (kk : D → Bool) : R (DV × Env) → R (D × Env)
  | .ok (o, Γ) => kOC3 kk Γ o
  | .exc x Γ => .exc x Γ
  | .bad => .bad
theorem kOC2_ok {kk : D → Bool} : kOC2 kk (.ok (o, Γ)) = kOC3 kk Γ o := rfl
theorem kOC2_ex {kk : D → Bool} : kOC2 kk (.exc xc Γ) = .exc xc Γ := rfl
def kOC1 (c : Nat) (kk : D → Bool) (F : FV) (Γ : Env) : D → R (D × Env)
  | .ins c1 a => if c1 = c then kOC2 kk (callF F [false] [.pd (.ins c1 a)] Γ) else .bad
  | _ => .bad
theorem kOC1_s {kk : D → Bool} {u : List (Nat × D)} : kOC1 n kk F Γ (.ins n u) = kOC2 kk (callF F [false] [.pd (.ins n u)] Γ) := if_pos rfl
def kOC0 (n : Nat) (kk : D → Bool) (F : FV) : R (D × Env) → R (D × Env)
  | .ok (x, Γ) => kOC1 n kk F Γ x
  | .exc x Γ => .exc x Γ
  | .bad => .bad
theorem kOC0_ok {kk : D → Bool} : kOC0 n kk F (.ok (x, Γ)) = kOC1 n kk F Γ x := rfl
theorem kOC0_ex {kk : D → Bool} : kOC0 n kk F (.exc xc Γ) = .exc xc Γ := rfl
theorem eOwnC_ap {kk : D → Bool} : eOwnC n kk F e Γ = kOC0 n kk F (e Γ) := by
  unfold eOwnC
  cases e Γ with
  | ok r =>
    obtain ⟨x, Γ1⟩ := r
    cases x with
    | ins c1 u =>
      show (if c1 = n then (callF F [false] [.pd (.ins c1 u)] Γ1).bind _ else _) = (if c1 = n then kOC2 kk (callF F [false] [.pd (.ins c1 u)] Γ1) else _)
      by_cases h : c1 = n
      · rw [if_pos h, if_pos h]
        cases callF F [false] [.pd (.ins c1 u)] Γ1 with
        | ok r =>
          obtain ⟨o, Γ2⟩ := r
          cases o with
          | fz d => show (if kk d = true then _ else _) = kSz _ (kk d); cases kk d <;> rfl
          | fr d => rfl
        | exc x Γ => rfl
        | bad => rfl
      · rw [if_neg h, if_neg h]
    | _ => rfl
  | exc x Γ => rfl
  | bad => rfl
def kM2 (F : FV) (ms : List Bool) (d : D) : R (List PV × Env) → R (D × Env)
  | .ok (ps, Γ) => kCd (callF F (false :: ms) (.pd d :: ps) Γ)
  | .exc x Γ => .exc x Γ
  | .bad => .bad
theorem kM2_ok : kM2 F ms d (.ok (ps, Γ)) = kCd (callF F (false :: ms) (.pd d :: ps) Γ) := rfl
theorem kM2_ex : kM2 F ms d (.exc xc Γ) = .exc xc Γ := rfl
def kM1 (c : Nat) (F : FV) (ms : List Bool) (av : AV) (Γ : Env) : D → R (D × Env)
  | .ins c1 a => if c1 = c then kM2 F ms (.ins c1 a) (av Γ) else .bad
  | _ => .bad
theorem kM1_s {u : List (Nat × D)} : kM1 n F ms av Γ (.ins n u) = kM2 F ms (.ins n u) (av Γ) := if_pos rfl
def kM0 (n : Nat) (F : FV) (ms : List Bool) (av : AV) : R (D × Env) → R (D × Env)
  | .ok (x, Γ) => kM1 n F ms av Γ x
  | .exc x Γ => .exc x Γ
  | .bad => .bad
theorem kM0_ok : kM0 n F ms av (.ok (x, Γ)) = kM1 n F ms av Γ x := rfl
theorem kM0_ex : kM0 n F ms av (.exc xc Γ) = .exc xc Γ := rfl
theorem eMeth_ap : eMeth n F ms e av Γ = kM0 n F ms av (e Γ) := by
  unfold eMeth
  cases e Γ with
  | ok r =>
    obtain ⟨x, Γ1⟩ := r
    cases x with
    | ins c1 u =>
      show (if c1 = n then (av Γ1).bind _ else _) = (if c1 = n then kM2 F ms (.ins c1 u) (av Γ1) else _)
      by_cases h : c1 = n
      · rw [if_pos h, if_pos h]
        cases av Γ1 with
        | ok r => obtain ⟨ps, Γ2⟩ := r; exact bind_cd _
        | exc x Γ => rfl
        | bad => rfl
      · rw [if_neg h, if_neg h]
    | _ => rfl
  | exc x Γ => rfl
  | bad => rfl
theorem eJs_nil : eJs [] acc Γ = .ok (.str acc, Γ) := rfl
def kJz (r : Env → R (D × Env)) (Γ : Env) : Bool → R (D × Env)
  | true => r Γ
  | false => .bad
theorem kJz_t {r : Env → R (D × Env)} : kJz r Γ true = r Γ := rfl
def kJ2 (l : List EV) (acc : Str) (Γ : Env) : D → R (D × Env)
  | .str y => kJz (eJs l (acc ++ y)) Γ (decide ((acc ++ y).length ≤ seqMax))
  | _ => .bad
theorem kJ2_s : kJ2 l acc Γ (.str st) = kJz (eJs l (acc ++ st)) Γ (decide ((acc ++ st).length ≤ seqMax)) := rfl
def kJ (l : List EV) (acc : Str) : R (D × Env) → R (D × Env)
  | .ok (d, Γ) => kJ2 l acc Γ d
  | .exc x Γ => .exc x Γ
  | .bad => .bad
theorem kJ_ok : kJ l acc (.ok (d, Γ)) = kJ2 l acc Γ d := rfl
theorem kJ_ex : kJ l acc (.exc xc Γ) = .exc xc Γ := rfl
theorem eJs_cons : eJs (e :: l) acc Γ = kJ l acc (e Γ) := by
  rw [eJs]
  cases e Γ with
  | ok r =>
    obtain ⟨d, Γ1⟩ := r
    cases d with
    | str y => show (if (acc ++ y).length ≤ seqMax then _ else _) = kJz _ _ _; by_cases h : (acc ++ y).length ≤ seqMax <;> simp [h, kJz]
    | _ => rfl
  | exc x Γ => rfl
  | bad => rfl
def kSl4 (f : D → Option Int → Option Int → Option D) (lo hi : Option Int) (Γ : Env) : Option D → R (D × Env)
  | some d => kR Γ (f d lo hi)
  | none => .bad
theorem kSl4_s {fs : D → Option Int → Option Int → Option D} {lo hi : Option Int} : kSl4 fs lo hi Γ (some d) = kR Γ (fs d lo hi) := rfl
def kSl3 (f : D → Option Int → Option Int → Option D) (p : PV) (lo : Option Int) : R (Option Int × Env) → R (D × Env)
  | .ok (hi, Γ) => kSl4 f lo hi Γ (rd Γ p)
  | .exc x Γ => .exc x Γ
  | .bad => .bad
theorem kSl3_s {fs : D → Option Int → Option Int → Option D} {lo hi : Option Int} : kSl3 fs p lo (.ok (hi, Γ)) = kSl4 fs lo hi Γ (rd Γ p) := rfl
def kSl2 (f : D → Option Int → Option Int → Option D) (p : PV) (oh : Option QV) : R (Option Int × Env) → R (D × Env)
  | .ok (lo, Γ) => kSl3 f p lo (oPart oh Γ)
  | .exc x Γ => .exc x Γ
  | .bad => .bad
theorem kSl2_s {fs : D → Option Int → Option Int → Option D} {lo : Option Int} {oh : Option QV} : kSl2 fs p oh (.ok (lo, Γ)) = kSl3 fs p lo (oPart oh Γ) := rfl
def kSl1 (f : D → Option Int → Option Int → Option D) (ol oh : Option QV) : R (PV × Env) → R (D × Env)
  | .ok (p, Γ) => kSl2 f p oh (oPart ol Γ)
  | .exc x Γ => .exc x Γ
  | .bad => .bad
theorem kSl1_s {fs : D → Option Int → Option Int → Option D} {ol oh : Option QV} : kSl1 fs ol oh (.ok (p, Γ)) = kSl2 fs p oh (oPart ol Γ) := rfl
theorem eSl_ap {fs : D → Option Int → Option Int → Option D} {ol oh : Option QV} : eSl fs a ol oh Γ = kSl1 fs ol oh (a Γ) := by
  unfold eSl
  cases a Γ with
  | ok r =>
    obtain ⟨p, Γ1⟩ := r
    show (oPart ol Γ1).bind _ = kSl2 fs p oh (oPart ol Γ1)
    cases oPart ol Γ1 with
    | ok r =>
      obtain ⟨lo, Γ2⟩ := r
      show (oPart oh Γ2).bind _ = kSl3 fs p lo (oPart oh Γ2)
      cases oPart oh Γ2 with
      | ok r =>
        obtain ⟨hi, Γ3⟩ := r
        show (match rd Γ3 p with | some d => (R.of (fs d lo hi)).bind _ | none => _) = kSl4 fs lo hi Γ3 (rd Γ3 p)
        cases rd Γ3 p with
        | none => rfl
        | some d => show (R.of (fs d lo hi)).bind _ = kR Γ3 (fs d lo hi); cases fs d lo hi <;> rfl
      | exc x Γ => rfl
      | bad => rfl
    | exc x Γ => rfl
    | bad => rfl
  | exc x Γ => rfl
  | bad => rfl
theorem oP_n : oPart none Γ = .ok (none, Γ) := rfl
def kOp2 (Γ : Env) : Option D → R (Option Int × Env)
  | some (.int i) => .ok (some i, Γ)
  | _ => .bad
theorem kOp2_s {v : Int} : kOp2 Γ (some (.int v)) = .ok (some v, Γ) := rfl
def kOp : R (PV × Env) → R (Option Int × Env)
  | .ok (p, Γ) => kOp2 Γ (rd Γ p)
  | .exc x Γ => .exc x Γ
  | .bad => .bad
theorem kOp_s : kOp (.ok (p, Γ)) = kOp2 Γ (rd Γ p) := rfl
theorem oP_s : oPart (some a) Γ = kOp (a Γ) := by
  show (a Γ).bind _ = kOp (a Γ)
  cases a Γ with
  | ok r => obtain ⟨p, Γ1⟩ := r; show (match rd Γ1 p with | some (.int i) => _ | _ => _) = kOp2 Γ1 (rd Γ1 p); cases rd Γ1 p with
    | none => rfl
    | some d => cases d <;> rfl
  | exc x Γ => rfl
  | bad => rfl
def kLc2 (Γ : Env) (vs : List Nat) : Option (List D × Env) → R (D × Env)
  | some (l, Γ2) => .ok (.lst l, restG Γ Γ2 vs)
  | none => .bad
theorem kLc2_s {vs : List Nat} : kLc2 Γ vs (some (ds, Γ1)) = .ok (.lst ds, restG Γ Γ1 vs) := rfl
def kLc1 (vs : List Nat) (g : GV) (t : TV) (e : EV) (ds : List D) (Γ : Env) : Bool → R (D × Env)
  | true => kLc2 Γ vs (lcL g t e vs ds (wipeG Γ vs) 0)
  | false => .bad
theorem kLc1_t {vs : List Nat} : kLc1 vs g t e ds Γ true = kLc2 Γ vs (lcL g t e vs ds (wipeG Γ vs) 0) := rfl
def kLc (vs : List Nat) (g : GV) (t : TV) (e : EV) : R (List D × Env) → R (D × Env)
  | .ok (ds, Γ) => kLc1 vs g t e ds Γ (vs.all fun i => stb (get Γ i))
  | .exc x Γ => .exc x Γ
  | .bad => .bad
theorem kLc_ok {vs : List Nat} : kLc vs g t e (.ok (ds, Γ)) = kLc1 vs g t e ds Γ (vs.all fun i => stb (get Γ i)) := rfl
theorem eLc_ap {vs : List Nat} : eLc vs lv g t e Γ = kLc vs g t e (lv Γ) := by
  unfold eLc
  cases lv Γ with
  | ok r =>
    obtain ⟨ds, Γ1⟩ := r
    show (if (vs.all fun i => stb (get Γ1 i)) = true then _ else _) = kLc1 vs g t e ds Γ1 (vs.all fun i => stb (get Γ1 i))
    cases vs.all fun i => stb (get Γ1 i) with
    | false => rfl
    | true => show (match lcL g t e vs ds (wipeG Γ1 vs) 0 with | some (l, Γ2) => _ | none => _) = kLc2 Γ1 vs _; cases lcL g t e vs ds (wipeG Γ1 vs) 0 <;> rfl
  | exc x Γ => rfl
  | bad => rfl
def kIs2 (Γ : Env) : Option (List D) → R (List D × Env)
  | some ds => .ok (ds, Γ)
  | none => .bad
theorem kIs2_s : kIs2 Γ (some ds) = .ok (ds, Γ) := rfl
def kIs : R (D × Env) → R (List D × Env)
  | .ok (d, Γ) => kIs2 Γ (items d)
  | .exc x Γ => .exc x Γ
  | .bad => .bad
theorem kIs_ok : kIs (.ok (d, Γ)) = kIs2 Γ (items d) := rfl
theorem iSeq_ap : iSeq e Γ = kIs (e Γ) := by
  unfold iSeq
  cases e Γ with
  | ok r => obtain ⟨d, Γ1⟩ := r; show (R.of (items d)).bind _ = kIs2 Γ1 (items d); cases items d <;> rfl
  | exc x Γ => rfl
  | bad => rfl
theorem it_l : items (.lst ds) = some ds := rfl
theorem it_t : items (.tup ds) = some ds := rfl
def kIn (i : Nat) (Γ : Env) : Option (D × Sl) → R (List D × Env)
  | some (d, s) => kIs2 (put Γ i s) (items d)
  | none => .bad
theorem kIn_s {w : Sl} : kIn i Γ (some (d, w)) = kIs2 (put Γ i w) (items d) := rfl
theorem iN_ap : iN i Γ = kIn i Γ (stay (get Γ i)) := by
  unfold iN
  cases stay (get Γ i) with
  | none => rfl
  | some r => obtain ⟨d, s⟩ := r; show (R.of (items d)).bind _ = kIs2 _ (items d); cases items d <;> rfl
def kRg2 (Γ : Env) : Option D → R (List D × Env)
  | some (.int n) => if rngB n then .ok (rngL 0 n.toNat, Γ) else .bad
  | _ => .bad
theorem kRg2_s {v : Int} (h : rngB v = true) : kRg2 Γ (some (.int v)) = .ok (rngL 0 v.toNat, Γ) := if_pos h
def kRg : R (PV × Env) → R (List D × Env)
  | .ok (p, Γ) => kRg2 Γ (rd Γ p)
  | .exc x Γ => .exc x Γ
  | .bad => .bad
theorem kRg_ok : kRg (.ok (p, Γ)) = kRg2 Γ (rd Γ p) := rfl
theorem iRg1_ap : iRg1 a Γ = kRg (a Γ) := by
  unfold iRg1
  cases a Γ with
  | ok r => obtain ⟨p, Γ1⟩ := r; show (match rd Γ1 p with | some (.int n) => _ | _ => _) = kRg2 Γ1 (rd Γ1 p); cases rd Γ1 p with
    | none => rfl
    | some d => cases d <;> rfl
  | exc x Γ => rfl
  | bad => rfl
def kRh3 (Γ : Env) : Option D → Option D → R (List D × Env)
  | some (.int m), some (.int n) => if rngB m && rngB n then .ok (rngL m (n - m).toNat, Γ) else .bad
  | _, _ => .bad
theorem kRh3_s {u v : Int} (h : (rngB u && rngB v) = true) : kRh3 Γ (some (.int u)) (some (.int v)) = .ok (rngL u (v - u).toNat, Γ) := if_pos h
def kRh2 (p : PV) : R (PV × Env) → R (List D × Env)
  | .ok (q, Γ) => kRh3 Γ (rd Γ p) (rd Γ q)
  | .exc x Γ => .exc x Γ
  | .bad => .bad
theorem kRh2_ok : kRh2 p (.ok (q, Γ)) = kRh3 Γ (rd Γ p) (rd Γ q) := rfl
def kRh1 (b : QV) : R (PV × Env) → R (List D × Env)
  | .ok (p, Γ) => kRh2 p (b Γ)
  | .exc x Γ => .exc x Γ
  | .bad => .bad
theorem kRh1_ok : kRh1 b (.ok (p, Γ)) = kRh2 p (b Γ) := rfl
theorem iRg2_ap : iRg2 a b Γ = kRh1 b (a Γ) := by
  unfold iRg2
  cases a Γ with
  | ok r =>
    obtain ⟨p, Γ1⟩ := r
    show (b Γ1).bind _ = kRh2 p (b Γ1)
    cases b Γ1 with
    | ok r =>
      obtain ⟨q, Γ2⟩ := r
      show (match rd Γ2 p, rd Γ2 q with | some (.int m), some (.int n) => _ | _, _ => _) = kRh3 Γ2 (rd Γ2 p) (rd Γ2 q)
      cases rd Γ2 p with
      | none => cases rd Γ2 q <;> rfl
      | some d => cases rd Γ2 q with
        | none => cases d <;> rfl
        | some d2 => cases d <;> cases d2 <;> rfl
    | exc x Γ => rfl
    | bad => rfl
  | exc x Γ => rfl
  | bad => rfl
theorem sNext_ap : sNext Γ = .ok (.nx, Γ) := rfl
theorem sBrk_ap : sBrk Γ = .ok (.brk, Γ) := rfl
theorem sCnt_ap : sCnt Γ = .ok (.cnt, Γ) := rfl
theorem sRetN_ap : sRetN Γ = .ok (.ret (.fz .non), Γ) := rfl
def kS (s : SV) : R (Ctl × Env) → R (Ctl × Env)
  | .ok (.nx, Γ) => s Γ
  | .ok (c, Γ) => .ok (c, Γ)
  | .exc x Γ => .exc x Γ
  | .bad => .bad
theorem kS_nx : kS s (.ok (.nx, Γ)) = s Γ := rfl
theorem kS_rt : kS s (.ok (.ret o, Γ)) = .ok (.ret o, Γ) := rfl
theorem kS_bk : kS s (.ok (.brk, Γ)) = .ok (.brk, Γ) := rfl
theorem kS_ct : kS s (.ok (.cnt, Γ)) = .ok (.cnt, Γ) := rfl
theorem kS_ex : kS s (.exc xc Γ) = .exc xc Γ := rfl
theorem sSeq_ap : sSeq s1 s2 Γ = kS s2 (s1 Γ) := by
  unfold sSeq
  cases s1 Γ with
  | ok r => obtain ⟨c, Γ1⟩ := r; cases c <;> rfl
  | exc x Γ => rfl
  | bad => rfl
def kSet (i : Nat) : R (D × Env) → R (Ctl × Env)
  | .ok (d, Γ) => .ok (.nx, put Γ i (.val d))
  | .exc x Γ => .exc x Γ
  | .bad => .bad
theorem kSet_ok : kSet i (.ok (d, Γ)) = .ok (.nx, put Γ i (.val d)) := rfl
theorem kSet_ex : kSet i (.exc xc Γ) = .exc xc Γ := rfl
theorem sSet_ap : sSet i e Γ = kSet i (e Γ) := by
  unfold sSet
  cases e Γ <;> rfl
def kOwn (i : Nat) : R (D × Env) → R (Ctl × Env)
  | .ok (d, Γ) => .ok (.nx, put Γ i (.own d))
  | .exc x Γ => .exc x Γ
  | .bad => .bad
theorem kOwn_ok : kOwn i (.ok (d, Γ)) = .ok (.nx, put Γ i (.own d)) := rfl
theorem kOwn_ex : kOwn i (.exc xc Γ) = .exc xc Γ := rfl
theorem sOwn_ap : sOwn i e Γ = kOwn i (e Γ) := by
  unfold sOwn
  cases e Γ <;> rfl
def kDrp  : R (D × Env) → R (Ctl × Env)
  | .ok (d, Γ) => .ok (.nx, Γ)
  | .exc x Γ => .exc x Γ
  | .bad => .bad
theorem kDrp_ok : kDrp  (.ok (d, Γ)) = .ok (.nx, Γ) := rfl
theorem kDrp_ex : kDrp  (.exc xc Γ) = .exc xc Γ := rfl
theorem sDrop_ap : sDrop  e Γ = kDrp  (e Γ) := by
  unfold sDrop
  cases e Γ <;> rfl
def kRet  : R (D × Env) → R (Ctl × Env)
  | .ok (d, Γ) => .ok (.ret (.fz d), Γ)
  | .exc x Γ => .exc x Γ
  | .bad => .bad
theorem kRet_ok : kRet  (.ok (d, Γ)) = .ok (.ret (.fz d), Γ) := rfl
theorem kRet_ex : kRet  (.exc xc Γ) = .exc xc Γ := rfl
theorem sRet_ap : sRet  e Γ = kRet  (e Γ) := by
  unfold sRet
  cases e Γ <;> rfl
def kReO  : R (D × Env) → R (Ctl × Env)
  | .ok (d, Γ) => .ok (.ret (.fr d), Γ)
  | .exc x Γ => .exc x Γ
  | .bad => .bad
theorem kReO_ok : kReO  (.ok (d, Γ)) = .ok (.ret (.fr d), Γ) := rfl
theorem kReO_ex : kReO  (.exc xc Γ) = .exc xc Γ := rfl
theorem sRetO_ap : sRetO  e Γ = kReO  (e Γ) := by
  unfold sRetO
  cases e Γ <;> rfl
def kRx (Γ : Env) : Sl → R (Ctl × Env)
  | .own d => .ok (.ret (.fr d), Γ)
  | .val d => .ok (.ret (.fz d), Γ)
  | _ => .bad
theorem sRetX_ap : sRetX i Γ = kRx Γ (get Γ i) := by unfold sRetX kRx; cases get Γ i <;> rfl
theorem kRx_o : kRx Γ (.own d) = .ok (.ret (.fr d), Γ) := rfl
theorem kRx_v : kRx Γ (.val d) = .ok (.ret (.fz d), Γ) := rfl
def kAp3 (Γ : Env) (i : Nat) (xs : List D) (d : D) : Bool → R (Ctl × Env)
  | true => .ok (.nx, put Γ i (.own (.lst (xs ++ [d]))))
  | false => .bad
theorem kAp3_t : kAp3 Γ i ds d true = .ok (.nx, put Γ i (.own (.lst (ds ++ [d])))) := rfl
def kAp2 (Γ : Env) (i : Nat) (d : D) : Sl → R (Ctl × Env)
  | .own (.lst xs) => kAp3 Γ i xs d (decide (xs.length < seqMax))
  | _ => .bad
theorem kAp2_o : kAp2 Γ i d (.own (.lst ds)) = kAp3 Γ i ds d (decide (ds.length < seqMax)) := rfl
def kAp1 (i : Nat) : R (D × Env) → R (Ctl × Env)
  | .ok (d, Γ) => kAp2 Γ i d (get Γ i)
  | .exc x Γ => .exc x Γ
  | .bad => .bad
theorem kAp1_ok : kAp1 i (.ok (d, Γ)) = kAp2 Γ i d (get Γ i) := rfl
def kAp0 (i : Nat) (e : EV) (Γ : Env) : Option D → R (Ctl × Env)
  | some (.lst _) => kAp1 i (e Γ)
  | _ => .bad
theorem kAp0_s : kAp0 i e Γ (some (.lst ds)) = kAp1 i (e Γ) := rfl
theorem sApp_ap : sApp i e Γ = kAp0 i e Γ (look (get Γ i)) := by
  unfold sApp
  cases look (get Γ i) with
  | none => rfl
  | some d => cases d with
    | lst xs =>
      show (e Γ).bind _ = kAp1 i (e Γ)
      cases e Γ with
      | ok r =>
        obtain ⟨d, Γ1⟩ := r
        show (match get Γ1 i with | .own (.lst xs) => _ | _ => _) = kAp2 Γ1 i d (get Γ1 i)
        cases get Γ1 i with
        | own z => cases z with
          | lst xs => show (if xs.length < seqMax then _ else _) = kAp3 _ _ _ _ _; by_cases h : xs.length < seqMax <;> simp [h, kAp3]
          | _ => rfl
        | _ => rfl
      | exc x Γ => rfl
      | bad => rfl
    | _ => rfl
def kPi4 (Γ : Env) (i : Nat) (xs : List D) (d : D) : Option Nat → R (Ctl × Env)
  | some m => .ok (.nx, put Γ i (.own (.lst (xs.set m d))))
  | none => .bad
theorem kPi4_s : kPi4 Γ i ds d (some m) = .ok (.nx, put Γ i (.own (.lst (ds.set m d)))) := rfl
def kPi3 (Γ : Env) (i : Nat) (d : D) : Option D → Sl → R (Ctl × Env)
  | some (.int k), .own (.lst xs) => kPi4 Γ i xs d (ixN xs.length k)
  | _, _ => .bad
theorem kPi3_s {v : Int} : kPi3 Γ i d (some (.int v)) (.own (.lst ds)) = kPi4 Γ i ds d (ixN ds.length v) := rfl
def kPi2 (i : Nat) (d : D) : R (PV × Env) → R (Ctl × Env)
  | .ok (p, Γ) => kPi3 Γ i d (rd Γ p) (get Γ i)
  | .exc x Γ => .exc x Γ
  | .bad => .bad
theorem kPi2_ok : kPi2 i d (.ok (p, Γ)) = kPi3 Γ i d (rd Γ p) (get Γ i) := rfl
def kPi1 (i : Nat) (b : QV) (d : D) (Γ : Env) : Option D → R (Ctl × Env)
  | some _ => kPi2 i d (b Γ)
  | none => .bad
theorem kPi1_s : kPi1 i b d Γ (some x) = kPi2 i d (b Γ) := rfl
def kPi0 (i : Nat) (b : QV) : R (D × Env) → R (Ctl × Env)
  | .ok (d, Γ) => kPi1 i b d Γ (look (get Γ i))
  | .exc x Γ => .exc x Γ
  | .bad => .bad
theorem kPi0_ok : kPi0 i b (.ok (d, Γ)) = kPi1 i b d Γ (look (get Γ i)) := rfl
theorem sPutI_ap : sPutI i b e Γ = kPi0 i b (e Γ) := by
  unfold sPutI
  cases e Γ with
  | ok r =>
    obtain ⟨d, Γ1⟩ := r
    show (match look (get Γ1 i) with | some _ => (b Γ1).bind _ | none => _) = kPi1 i b d Γ1 (look (get Γ1 i))
    cases look (get Γ1 i) with
    | none => rfl
    | some x =>
      show (b Γ1).bind _ = kPi2 i d (b Γ1)
      cases b Γ1 with
      | ok r =>
        obtain ⟨p, Γ2⟩ := r
        show (match rd Γ2 p, get Γ2 i with | some (.int k), .own (.lst xs) => _ | _, _ => _) = kPi3 Γ2 i d (rd Γ2 p) (get Γ2 i)
        cases rd Γ2 p with
        | none => rfl
        | some z => cases z with
          | int v => cases get Γ2 i with
            | own w => cases w with
              | lst xs => show (match ixN xs.length v with | some m => _ | none => _) = kPi4 _ _ _ _ (ixN xs.length v); cases ixN xs.length v <;> rfl
              | _ => rfl
            | _ => rfl
          | _ => rfl
      | exc x Γ => rfl
      | bad => rfl
  | exc x Γ => rfl
  | bad => rfl
def kPr2 (i j : Nat) (x : D) : R (D × Env) → R (Ctl × Env)
  | .ok (y, Γ) => .ok (.nx, put (put Γ i (.val x)) j (.val y))
  | .exc x Γ => .exc x Γ
  | .bad => .bad
theorem kPr2_ok : kPr2 i j x (.ok (y, Γ)) = .ok (.nx, put (put Γ i (.val x)) j (.val y)) := rfl
def kPr1 (i j : Nat) (e2 : EV) : R (D × Env) → R (Ctl × Env)
  | .ok (x, Γ) => kPr2 i j x (e2 Γ)
  | .exc x Γ => .exc x Γ
  | .bad => .bad
theorem kPr1_ok : kPr1 i j e2 (.ok (x, Γ)) = kPr2 i j x (e2 Γ) := rfl
theorem sPar_ap : sPar i j e1 e2 Γ = kPr1 i j e2 (e1 Γ) := by
  unfold sPar
  cases e1 Γ with
  | ok r => obtain ⟨x, Γ1⟩ := r; show (e2 Γ1).bind _ = kPr2 i j x (e2 Γ1); cases e2 Γ1 <;> rfl
  | exc x Γ => rfl
  | bad => rfl
def kAs2 : Option Env → R (Ctl × Env)
  | some Γ => .ok (.nx, Γ)
  | none => .bad
theorem kAs2_s : kAs2 (some Γ) = .ok (.nx, Γ) := rfl
def kAs (g : GV) : R (D × Env) → R (Ctl × Env)
  | .ok (d, Γ) => kAs2 (g d Γ)
  | .exc x Γ => .exc x Γ
  | .bad => .bad
theorem kAs_ok : kAs g (.ok (d, Γ)) = kAs2 (g d Γ) := rfl
theorem sAsg_ap : sAsg g e Γ = kAs g (e Γ) := by
  unfold sAsg
  cases e Γ with
  | ok r => obtain ⟨d, Γ1⟩ := r; show (match g d Γ1 with | some _ => _ | none => _) = kAs2 (g d Γ1); cases g d Γ1 <;> rfl
  | exc x Γ => rfl
  | bad => rfl
theorem gN_ap : gN i d Γ = some (put Γ i (.val d)) := rfl
theorem gT_t {l : List GV} : gT l (.tup ds) Γ = gs l ds Γ := rfl
theorem gT_l {l : List GV} : gT l (.lst ds) Γ = gs l ds Γ := rfl
theorem gs_nil : gs [] [] Γ = some Γ := rfl
def kGs (l : List GV) (ds : List D) : Option Env → Option Env
  | some Γ => gs l ds Γ
  | none => none
theorem kGs_s {l : List GV} : kGs l ds (some Γ) = gs l ds Γ := rfl
theorem gs_cons {l : List GV} : gs (g :: l) (d :: ds) Γ = kGs l ds (g d Γ) := by
  show (match g d Γ with | some Γ' => gs l ds Γ' | none => none) = _
  cases g d Γ <;> rfl
def kFor (g : GV) (s : SV) : R (List D × Env) → R (Ctl × Env)
  | .ok (ds, Γ) => forL g s ds Γ
  | .exc x Γ => .exc x Γ
  | .bad => .bad
theorem kFor_ok : kFor g s (.ok (ds, Γ)) = forL g s ds Γ := rfl
theorem sFor_ap : sFor g lv s Γ = kFor g s (lv Γ) := by unfold sFor; cases lv Γ <;> rfl
theorem sWhl_ap : sWhl n t s Γ = whl t s n Γ := rfl
def kFd2 (c f : Nat) (d : D) (Γ : Env) : Sl → R (Ctl × Env)
  | .slf c' fs => if c' = c ∧ fs.length < 900 then .ok (.nx, put Γ 0 (.slf c' (putFd f d fs))) else .bad
  | _ => .bad
theorem kFd2_s {fs : List (Nat × D)} (h : fs.length < 900) : kFd2 n m d Γ (.slf n fs) = .ok (.nx, put Γ 0 (.slf n (putFd m d fs))) := if_pos ⟨rfl, h⟩
def kFd (c f : Nat) : R (D × Env) → R (Ctl × Env)
  | .ok (d, Γ) => kFd2 c f d Γ (get Γ 0)
  | .exc x Γ => .exc x Γ
  | .bad => .bad
theorem kFd_ok : kFd n m (.ok (d, Γ)) = kFd2 n m d Γ (get Γ 0) := rfl
theorem sFld_ap : sFld n m e Γ = kFd n m (e Γ) := by
  unfold sFld
  cases e Γ with
  | ok r => obtain ⟨d, Γ1⟩ := r; show (match get Γ1 0 with | .slf c' fs => _ | _ => _) = kFd2 n m d Γ1 (get Γ1 0); cases get Γ1 0 <;> rfl
  | exc x Γ => rfl
  | bad => rfl
def kRs (c : Nat) (fs : List Nat) : R (List D × Env) → R (Ctl × Env)
  | .ok (ds, Γ) => .exc ⟨c, fs.zip ds⟩ Γ
  | .exc x Γ => .exc x Γ
  | .bad => .bad
theorem kRs_ok {fs : List Nat} : kRs n fs (.ok (ds, Γ)) = .exc ⟨n, fs.zip ds⟩ Γ := rfl
theorem sRaise_ap {fs : List Nat} : sRaise n fs lv Γ = kRs n fs (lv Γ) := by unfold sRaise; cases lv Γ <;> rfl
def kSu (i : Nat) : R (Ctl × Env) → R (Ctl × Env)
  | .ok (c, Γ) => .ok (c, put Γ i .emp)
  | _ => .bad
theorem kSu_ok : kSu i (.ok (ct, Γ)) = .ok (ct, put Γ i .emp) := rfl
def kTr3 (i : Nat) (s : SV) (Γ : Env) (x : Xc) : Bool → R (Ctl × Env)
  | true => kSu i (s (put Γ i (.exn x)))
  | false => .bad
theorem kTr3_t : kTr3 i s Γ xc true = kSu i (s (put Γ i (.exn xc))) := rfl
def kTr2 (i : Nat) (s : SV) (Γ : Env) (x : Xc) : Option Bool → R (Ctl × Env)
  | some true => kTr3 i s Γ x (decide (i < Γ.length) && noX Γ)
  | some false => .exc x Γ
  | none => .bad
theorem kTr2_t : kTr2 i s Γ xc (some true) = kTr3 i s Γ xc (decide (i < Γ.length) && noX Γ) := rfl
theorem kTr2_f : kTr2 i s Γ xc (some false) = .exc xc Γ := rfl
def kTr (i : Nat) (ex : Nat → Option Bool) (s : SV) : R (Ctl × Env) → R (Ctl × Env)
  | .exc x Γ => kTr2 i s Γ x (ex x.c)
  | r => r
theorem kTr_ok {ex : Nat → Option Bool} {r : Ctl × Env} : kTr i ex s (.ok r) = .ok r := rfl
theorem kTr_ex {ex : Nat → Option Bool} : kTr i ex s (.exc xc Γ) = kTr2 i s Γ xc (ex xc.c) := rfl
theorem sTry_ap {ex : Nat → Option Bool} : sTry i ex s1 s2 Γ = kTr i ex s2 (s1 Γ) := by
  unfold sTry
  cases s1 Γ with
  | ok r => rfl
  | bad => rfl
  | exc x Γ1 =>
    show (match ex x.c with | some true => _ | some false => _ | none => _) = kTr2 i s2 Γ1 x (ex x.c)
    cases ex x.c with
    | none => rfl
    | some b => cases b with
      | false => rfl
      | true =>
        show (if i < Γ1.length ∧ noX Γ1 = true then _ else _) = kTr3 i s2 Γ1 x (decide (i < Γ1.length) && noX Γ1)
        by_cases h : i < Γ1.length ∧ noX Γ1 = true
        · rw [if_pos h, h.2, decide_eq_true h.1]
          show (match s2 (put Γ1 i (.exn x)) with | .ok (c, Γ2) => _ | _ => _) = kSu i (s2 (put Γ1 i (.exn x)))
          cases s2 (put Γ1 i (.exn x)) with
          | ok r => rfl
          | exc _ _ => rfl
          | bad => rfl
        · rw [if_neg h]
          have : (decide (i < Γ1.length) && noX Γ1) = false := by
            by_cases h1 : i < Γ1.length
            · cases h2 : noX Γ1 with
              | false => rw [Bool.and_false]
              | true => exact absurd ⟨h1, h2⟩ h
            · rw [decide_eq_false h1, Bool.false_and]
          rw [this]; rfl
def kIE2 (Γ : Env) : Option Bool → R (D × Env)
  | some b => .ok (.bl b, Γ)
  | none => .bad
theorem kIE2_s : kIE2 Γ (some k) = .ok (.bl k, Γ) := rfl
def kIE (is : Nat → Option Bool) (Γ : Env) : Sl → R (D × Env)
  | .exn x => kIE2 Γ (if x.fs.isEmpty then is x.c else none)
  | _ => .bad
theorem kIE_s {is : Nat → Option Bool} : kIE is Γ (.exn ⟨n, []⟩) = kIE2 Γ (is n) := rfl
theorem eIsE_ap {is : Nat → Option Bool} : eIsE i is Γ = kIE is Γ (get Γ i) := by
  unfold eIsE kIE
  cases get Γ i with
  | exn x => dsimp only; cases (if x.fs.isEmpty = true then is x.c else none) <;> rfl
  | _ => rfl
def kXf (cs : List Nat) (f : Nat) (Γ : Env) : Sl → R (D × Env)
  | .exn x => kR Γ (if cs.contains x.c then x.fs.lookup f else none)
  | _ => .bad
theorem kXf_s {cs : List Nat} : kXf cs n Γ (.exn xc) = kR Γ (if cs.contains xc.c then xc.fs.lookup n else none) := rfl
theorem eXf_ap {cs : List Nat} : eXf cs i n Γ = kXf cs n Γ (get Γ i) := by
  unfold eXf kXf
  cases get Γ i with
  | exn x => dsimp only; cases (if cs.contains x.c = true then x.fs.lookup n else none) <;> rfl
  | _ => rfl
theorem runF_ap (h : ds.length = ms.length) : runF ms n s ds = fin (s (ins0 ms ds ++ pad n)) := if_pos h
theorem runI_ap (h : ds.length = ms.length) : runI m ms n s ds = finI m (s (.slf m [] :: (ins0 ms ds ++ pad n))) := if_pos h
theorem fin_nx : fin (.ok (.nx, Γ)) = .ok (.fz .non) := rfl
theorem fin_rt : fin (.ok (.ret o, Γ)) = .ok o := rfl
theorem fin_ex : fin (.exc xc Γ) = .exc xc [] := rfl
theorem finI_ex : finI n (.exc xc Γ) = .exc xc [] := rfl
def kFi (c : Nat) : Sl → R (List (Nat × D))
  | .slf c' fs => if c' = c then .ok fs else .bad
  | _ => .bad
theorem kFi_s {fs : List (Nat × D)} : kFi n (.slf n fs) = .ok fs := if_pos rfl
theorem finI_nx : finI n (.ok (.nx, Γ)) = kFi n (get Γ 0) := by
  show (match get Γ 0 with | .slf c' fs => _ | _ => _) = _
  cases get Γ 0 <;> rfl
theorem app_nil {α : Type} (l : List α) : [] ++ l = l := rfl
theorem app_cons {α : Type} (x : α) (l r : List α) : (x :: l) ++ r = x :: (l ++ r) := rfl
theorem ins0_nil : ins0 [] [] = [] := rfl
theorem ins0_cons {b : Bool} : ins0 (b :: ms) (d :: ds) = inSl b d :: ins0 ms ds := rfl
theorem inSl_f : inSl false d = .val d := by cases d <;> rfl
theorem inSl_l : inSl true (.lst ds) = .bor (.lst ds) := rfl
theorem inSl_i {v : Int} {b : Bool} : inSl b (.int v) = .val (.int v) := by cases b <;> rfl
theorem inSl_b {v : Bool} {b : Bool} : inSl b (.bl v) = .val (.bl v) := by cases b <;> rfl
theorem inSl_s {b : Bool} : inSl b (.str st) = .val (.str st) := by cases b <;> rfl
theorem inSl_n {b : Bool} : inSl b .non = .val .non := by cases b <;> rfl
theorem inSl_t {b : Bool} : inSl b (.tup ds) = .val (.tup ds) := by cases b <;> rfl
theorem inSl_c {b : Bool} {v : List Int} : inSl b (.scr v) = .val (.scr v) := by cases b <;> rfl
theorem inSl_o {b : Bool} {fs : List (Nat × D)} : inSl b (.ins n fs) = .val (.ins n fs) := by cases b <;> rfl
theorem pad_0 : pad 0 = [] := rfl
theorem pad_1 : pad (n + 1) = .emp :: pad n := rfl
theorem get_0 {w : Sl} : get (w :: Γ) 0 = w := rfl
theorem get_1 {w : Sl} : get (w :: Γ) (n + 1) = get Γ n := rfl
theorem put_0 {w v : Sl} : put (w :: Γ) 0 v = v :: Γ := rfl
theorem put_1 {w v : Sl} : put (w :: Γ) (n + 1) v = w :: put Γ n v := rfl
theorem look_v : look (.val d) = some d := rfl
theorem look_o : look (.own d) = some d := rfl
theorem look_b : look (.bor d) = some d := rfl
theorem frz_v : frzS (.val d) = some (d, .val d) := rfl
theorem frz_o : frzS (.own d) = some (d, .val d) := rfl
theorem stay_v : stay (.val d) = some (d, .val d) := rfl
theorem stay_o : stay (.own d) = some (d, .val d) := rfl
theorem stay_b : stay (.bor d) = some (d, .bor d) := rfl
theorem rd_d : rd Γ (.pd d) = some d := rfl
theorem rd_n : rd Γ (.pn i) = look (get Γ i) := rfl
theorem rds_nil : rds Γ [] = some [] := rfl
def kRd : Option D → Option (List D) → Option (List D)
  | some d, some ds => some (d :: ds)
  | _, _ => none
theorem kRd_s : kRd (some d) (some ds) = some (d :: ds) := rfl
theorem rds_cons : rds Γ (p :: ps) = kRd (rd Γ p) (rds Γ ps) := by
  show (match rd Γ p, rds Γ ps with | some d, some ds => some (d :: ds) | _, _ => none) = _
  cases rd Γ p <;> cases rds Γ ps <;> rfl
theorem wipe_nil : wipeG Γ [] = Γ := rfl
theorem wipe_cons {vs : List Nat} : wipeG Γ (i :: vs) = put (wipeG Γ vs) i .emp := rfl
theorem rest_nil : restG Γ Γ1 [] = Γ1 := rfl
theorem rest_cons {vs : List Nat} : restG Γ Γ1 (i :: vs) = put (restG Γ Γ1 vs) i (get Γ i) := rfl
theorem all_nil {α : Type} {u : α → Bool} : List.all [] u = true := rfl
theorem all_cons {α : Type} {u : α → Bool} {v : α} {l : List α} : List.all (v :: l) u = (u v && List.all l u) := rfl
theorem stb_e : stb .emp = true := rfl
theorem stb_v : stb (.val d) = true := rfl
theorem stb_b : stb (.bor d) = true := rfl
theorem noX_nil : noX [] = true := rfl
theorem noX_e : noX (.emp :: Γ) = noX Γ := rfl
theorem noX_v : noX (.val d :: Γ) = noX Γ := rfl
theorem noX_o : noX (.own d :: Γ) = noX Γ := rfl
theorem noX_b : noX (.bor d :: Γ) = noX Γ := rfl
theorem true_and' {b : Bool} : (true && b) = b := rfl
theorem tbl_ap {l : List (Nat × Bool)} : tbl l n = l.lookup n := rfl
theorem putFd_nil : putFd n d [] = [(n, d)] := rfl
theorem putFd_cons {fs : List (Nat × D)} : putFd n d ((m, x) :: fs) = if m = n then (m, d) :: fs else (m, x) :: putFd n d fs := rfl
/-! operations -/
theorem dAdd_i {u v : Int} : dAdd (.int u) (.int v) = some (.int (u + v)) := rfl
theorem dSub_i {u v : Int} : dSub (.int u) (.int v) = some (.int (u - v)) := rfl
theorem dMul_i {u v : Int} (h : mulOk u v = true) : dMul (.int u) (.int v) = some (.int (u * v)) := if_pos h
theorem mulOk_r {u v : Int} (h : v.natAbs < 2 ^ 64) : mulOk u v = true := by unfold mulOk nLt; rw [decide_eq_true h]; simp
theorem mulOk_l {u v : Int} (h : u.natAbs < 2 ^ 64) : mulOk u v = true := by unfold mulOk nLt; rw [decide_eq_true h]; simp
theorem mulOk_b {u v : Int} (h : u.natAbs < 2 ^ 8000) (h2 : v.natAbs < 2 ^ 8000) : mulOk u v = true := by unfold mulOk nLt; rw [decide_eq_true h, decide_eq_true h2]; simp
theorem dDiv_i {u v : Int} (h : v ≠ 0 ∧ v.natAbs < 2 ^ 8000) : dDiv (.int u) (.int v) = some (.int (u.fdiv v)) := if_pos h
theorem dDiv_r {u v : Int} (h0 : v ≠ 0) (h : -18446744073709551616 < v) (h2 : v < 18446744073709551616) : dDiv (.int u) (.int v) = some (.int (u.fdiv v)) := if_pos ⟨h0, Nat.lt_of_lt_of_le (show v.natAbs < 2 ^ 64 by omega) (Nat.pow_le_pow_right (by decide) (by decide))⟩
theorem mul_r {u v : Int} (h : -18446744073709551616 < v) (h2 : v < 18446744073709551616) : dMul (.int u) (.int v) = some (.int (u * v)) := dMul_i (mulOk_r (by omega))
theorem mul_l {u v : Int} (h : -18446744073709551616 < u) (h2 : u < 18446744073709551616) : dMul (.int u) (.int v) = some (.int (u * v)) := dMul_i (mulOk_l (by omega))
theorem dMod_i {u v : Int} (h : v ≠ 0) : dMod (.int u) (.int v) = some (.int (u.fmod v)) := if_pos h
theorem dPow_i {u v : Int} (h : 0 ≤ v ∧ v ≤ 1000000 ∧ u.natAbs < 2 ^ 64) : dPow (.int u) (.int v) = some (.int (u ^ v.toNat)) := if_pos h
theorem dNeg_i {u : Int} : dNeg (.int u) = some (.int (-u)) := rfl
theorem dLt_i {u v : Int} : dLt (.int u) (.int v) = some (.bl (decide (u < v))) := rfl
theorem dLe_i {u v : Int} : dLe (.int u) (.int v) = some (.bl (decide (u ≤ v))) := rfl
theorem dGt_i {u v : Int} : dGt (.int u) (.int v) = some (.bl (decide (v < u))) := rfl
theorem dGe_i {u v : Int} : dGe (.int u) (.int v) = some (.bl (decide (v ≤ u))) := rfl
theorem dEq_i {u v : Int} : dEq (.int u) (.int v) = some (.bl (u == v)) := by simp [dEq, sca, deq]
theorem dNe_i {u v : Int} : dNe (.int u) (.int v) = some (.bl (!(u == v))) := by simp [dNe, sca, deq]
theorem dEq_b {u v : Bool} : dEq (.bl u) (.bl v) = some (.bl (u == v)) := by simp [dEq, sca, deq]
theorem dNe_b {u v : Bool} : dNe (.bl u) (.bl v) = some (.bl (!(u == v))) := by simp [dNe, sca, deq]
theorem dEq_s {u v : Str} : dEq (.str u) (.str v) = some (.bl (u == v)) := by simp [dEq, sca, deq]
theorem dNe_s {u v : Str} : dNe (.str u) (.str v) = some (.bl (!(u == v))) := by simp [dNe, sca, deq]
theorem o1_ap : o1 f1 [d] = f1 d := rfl
theorem dAbs_i {u : Int} : dAbs (.int u) = some (.int (if u < 0 then -u else u)) := rfl
theorem dInt_i {u : Int} : dInt (.int u) = some (.int u) := rfl
theorem dInt_b {u : Bool} : dInt (.bl u) = some (.int (if u then 1 else 0)) := rfl
theorem dBool_i {u : Int} : dBool (.int u) = some (.bl (u != 0)) := rfl
theorem dLen_l : dLen (.lst ds) = some (.int ds.length) := rfl
theorem dLen_t : dLen (.tup ds) = some (.int ds.length) := rfl
theorem dLen_c {v : List Int} : dLen (.scr v) = some (.int v.length) := rfl
theorem dIx_l {v : Int} : dIx (.lst ds) (.int v) = at1 ds v := rfl
theorem dIx_t {v : Int} : dIx (.tup ds) (.int v) = at1 ds v := rfl
theorem dIx_c {v : Int} {ns : List Int} : dIx (.scr ns) (.int v) = (at1 ns v).map .int := rfl
theorem at_0 {α : Type} {u : α} {l : List α} : at1 (u :: l) 0 = some u := by simp [at1, ixN]
theorem at_nat {α : Type} {l : List α} {k : Nat} : at1 l (k : Int) = l[k]? := by
  unfold at1 ixN
  by_cases h : (k : Int) < l.length
  · rw [if_pos (by omega), if_pos h]; simp
  · rw [if_pos (by omega), if_neg h]; simp; omega
theorem at_1 {α : Type} {u v : α} {l : List α} : at1 (u :: v :: l) 1 = some v := at_nat (k := 1)
theorem at_2 {α : Type} {u v w : α} {l : List α} : at1 (u :: v :: w :: l) 2 = some w := at_nat (k := 2)
theorem at_3 {α : Type} {u v w r : α} {l : List α} : at1 (u :: v :: w :: r :: l) 3 = some r := at_nat (k := 3)
theorem isT_ii {u : Int} : isT2 .tInt (.int u) = some true := rfl
theorem isT_bi {u : Int} : isT2 .tBool (.int u) = some false := rfl
theorem isT_bb {u : Bool} : isT2 .tBool (.bl u) = some true := rfl
theorem isT_ss : isT2 .tStr (.str st) = some true := rfl
theorem isT_ll : isT2 .tList (.lst ds) = some true := rfl
theorem isT_tt : isT2 .tTuple (.tup ds) = some true := rfl
theorem isB2_i {tb : Nat → Option Bool} {fs : List (Nat × D)} : isB2 tb (.ins n fs) = tb n := rfl
theorem map_s {α β : Type} {u : α → β} {v : α} : Option.map u (some v) = some (u v) := rfl
theorem dRev_l : dRev (.lst ds) = some (.lst ds.reverse) := rfl
theorem dTup_l : dTup (.lst ds) = some (.tup ds) := rfl
theorem dTup_t : dTup (.tup ds) = some (.tup ds) := rfl
theorem dLst_l : dLst (.lst ds) = some (.lst ds) := rfl
theorem dLst_t : dLst (.tup ds) = some (.lst ds) := rfl
theorem dCut_l {lo hi : Option Int} : dCut (.lst ds) lo hi = some (.lst (cut ds lo hi)) := rfl
theorem dCutL_l {lo hi : Option Int} : dCutL (.lst ds) lo hi = some (.lst (cut ds lo hi)) := rfl
theorem dGcd_i {u v : Int} : dGcd [.int u, .int v] = some (.int ((Nat.gcd u.natAbs v.natAbs : Nat) : Int)) := rfl
theorem dTxt_i {u : Int} (h : u.natAbs < 2 ^ 1900) : dTxt (.int u) = some (.str (toString u)) := if_pos h
theorem dTxt_s (h : st.length ≤ seqMax) : dTxt (.str st) = some (.str st) := if_pos h
theorem dStrI_i {u : Int} (h : u.natAbs < 2 ^ 1900) : dStrI (.int u) = some (.str (toString u)) := if_pos h
theorem dAdd_s {u v : Str} (h : u.length + v.length ≤ seqMax) : dAdd (.str u) (.str v) = some (.str (u ++ v)) := if_pos h
theorem dAdd_l (h : ds.length + es.length ≤ seqMax) : dAdd (.lst ds) (.lst es) = some (.lst (ds ++ es)) := if_pos h
theorem dCat_l (h : ds.length + es.length ≤ seqMax) : dCat (.lst ds) (.lst es) = some (.lst (ds ++ es)) := if_pos h
theorem dAdd_t (h : ds.length + es.length ≤ seqMax) : dAdd (.tup ds) (.tup es) = some (.tup (ds ++ es)) := if_pos h
theorem isB_b : isB (.bl k) = true := rfl
theorem isS_s : isS (.str st) = true := rfl
/-! loops -/
def kGb (s : SV) : Option Env → R (Ctl × Env)
  | some Γ => s Γ
  | none => .bad
theorem kGb_s : kGb s (some Γ) = s Γ := rfl
/-- a for that runs through: what holds before each turn -/
theorem forL_run {P : Nat → Env → Prop} (h0 : P 0 Γ) (h : ∀ (i : Nat) (Γ : Env) (d : D), ds[i]? = some d → P i Γ → ∃ Γ2, kGb s (g d Γ) = .ok (.nx, Γ2) ∧ P (i + 1) Γ2) : ∃ Γ', forL g s ds Γ = .ok (.nx, Γ') ∧ P ds.length Γ' := by
  induction ds generalizing Γ P with
  | nil => exact ⟨Γ, rfl, h0⟩
  | cons d ds ih =>
    obtain ⟨Γ2, e2, p⟩ := h 0 Γ d rfl h0
    cases e1 : g d Γ with
    | none => rw [e1] at e2; cases e2
    | some Γ1 =>
    rw [e1] at e2
    have e2 : s Γ1 = .ok (.nx, Γ2) := e2
    obtain ⟨Γ', e3, p'⟩ := ih (P := fun i => P (i + 1)) p fun i Γ d hd q => h (i + 1) Γ d hd q
    refine ⟨Γ', ?_, p'⟩
    show (match g d Γ with | none => R.bad | some Γ1 => match s Γ1 with | .ok (.nx, Γ2) => forL g s ds Γ2 | .ok (.cnt, Γ2) => forL g s ds Γ2 | .ok (.brk, Γ2) => .ok (.nx, Γ2) | .ok (.ret o, Γ2) => .ok (.ret o, Γ2) | .exc x Γ2 => .exc x Γ2 | .bad => .bad) = _
    rw [e1]; dsimp only; rw [e2]; exact e3
/-- a while by a measure -/
theorem whl_run {P : Nat → Env → Prop} {Qe : Env → Prop} (h : ∀ (m : Nat) (Γ : Env), P m Γ → (∃ Γ1, t Γ = .ok (false, Γ1) ∧ Qe Γ1) ∨ ∃ Γ1 Γ2 m', t Γ = .ok (true, Γ1) ∧ s Γ1 = .ok (.nx, Γ2) ∧ m' < m ∧ P m' Γ2) : ∀ (n m : Nat) (Γ : Env), m < n → P m Γ → ∃ Γ', whl t s n Γ = .ok (.nx, Γ') ∧ Qe Γ'
  | 0, m, Γ, hm, _ => absurd hm (Nat.not_lt_zero _)
  | n + 1, m, Γ, hm, p => by
    rcases h m Γ p with ⟨Γ1, e, q⟩ | ⟨Γ1, Γ2, m', e1, e2, hl, p2⟩
    · refine ⟨Γ1, ?_, q⟩
      rw [whl, e]; rfl
    · obtain ⟨Γ', e3, q⟩ := whl_run h n m' Γ2 (by omega) p2
      refine ⟨Γ', ?_, q⟩
      rw [whl, e1]
      show (match s Γ1 with | .ok (.nx, Γ2) => whl t s n Γ2 | .ok (.cnt, Γ2) => whl t s n Γ2 | .ok (.brk, Γ2) => .ok (.nx, Γ2) | .ok (.ret o, Γ2) => .ok (.ret o, Γ2) | .exc x Γ2 => .exc x Γ2 | .bad => .bad) = _
      rw [e2]; exact e3
def kGe (e : EV) : Option Env → R (D × Env)
  | some Γ => e Γ
  | none => .bad
theorem kGe_s : kGe e (some Γ) = e Γ := rfl
/-- a comprehension without tests -/
theorem lcL_map {vs : List Nat} {P : Env → Prop} (u : D → D) (h : ∀ (d : D) (Γ : Env), d ∈ ds → P Γ → ∃ Γ2, kGe e (g d Γ) = .ok (u d, Γ2) ∧ P (wipeG Γ2 vs)) (h0 : P Γ) {n : Nat} (hn : n + ds.length ≤ seqMax) : ∃ Γ', lcL g tYs e vs ds Γ n = some (ds.map u, Γ') ∧ P Γ' := by
  induction ds generalizing Γ n with
  | nil => exact ⟨Γ, rfl, h0⟩
  | cons d ds ih =>
    obtain ⟨Γ2, e2, p⟩ := h d Γ (by simp) h0
    cases e1 : g d Γ with
    | none => rw [e1] at e2; cases e2
    | some Γ1 =>
    rw [e1] at e2
    have e2 : e Γ1 = .ok (u d, Γ2) := e2
    rw [List.length_cons] at hn
    obtain ⟨Γ', e3, q⟩ := ih (fun d Γ hd => h d Γ (by simp [hd])) p (n := n + 1) (by omega)
    refine ⟨Γ', ?_, q⟩
    rw [lcL, e1]
    dsimp only [tYs]
    show (match e Γ1 with | .ok (x, Γ3) => if n < seqMax then (match lcL g tYs e vs ds (wipeG Γ3 vs) (n + 1) with | some (l, Γ4) => some (x :: l, Γ4) | none => none) else none | _ => none) = _
    rw [e2]
    show (if n < seqMax then (match lcL g tYs e vs ds (wipeG Γ2 vs) (n + 1) with | some (l, Γ4) => some (u d :: l, Γ4) | none => none) else none) = _
    rw [if_pos (by omega), e3]; rfl
end
end Ed

set_option autoImplicit true
set_option Elab.async false
set_option linter.all false
set_option maxRecDepth 100000
set_option exponentiation.threshold 10000
set_option maxHeartbeats 4000000
/-! plain tools: loops with any end, comprehensions with tests, lists of texts and of numbers -/
namespace Ed
open PySem
abbrev sL (xs : List Str) : D := .lst (xs.map .str)
abbrev sT (xs : List Str) : D := .tup (xs.map .str)
abbrev iL (xs : List Int) : D := .lst (xs.map .int)
abbrev sLL (xs : List (List Str)) : D := .lst (xs.map sL)
section
variable {α β : Type} {Γ Γ1 Γ2 Γ0 Γ' : Env} {g : GV} {s : SV} {t : TV} {e : EV} {n : Nat} {vs : List Nat}
/-! loops -/
/-- what a turn that ends the loop leaves -/
def fin1 : R (Ctl × Env) → Option (R (Ctl × Env))
  | .ok (.brk, Γ) => some (.ok (.nx, Γ))
  | .ok (.ret o, Γ) => some (.ok (.ret o, Γ))
  | .exc x Γ => some (.exc x Γ)
  | _ => none
theorem forL_nx {d : D} {ds : List D} (h : kGb s (g d Γ) = .ok (.nx, Γ2)) : forL g s (d :: ds) Γ = forL g s ds Γ2 := by
  cases e1 : g d Γ with
  | none => rw [e1] at h; cases h
  | some Γ1 =>
    rw [e1] at h
    have h : s Γ1 = .ok (.nx, Γ2) := h
    show (match g d Γ with | none => R.bad | some Γ1 => match s Γ1 with | .ok (.nx, Γ2) => forL g s ds Γ2 | .ok (.cnt, Γ2) => forL g s ds Γ2 | .ok (.brk, Γ2) => .ok (.nx, Γ2) | .ok (.ret o, Γ2) => .ok (.ret o, Γ2) | .exc x Γ2 => .exc x Γ2 | .bad => .bad) = _
    rw [e1]; dsimp only; rw [h]
theorem forL_fin {d : D} {ds : List D} {r : R (Ctl × Env)} (h : fin1 (kGb s (g d Γ)) = some r) : forL g s (d :: ds) Γ = r := by
  cases e1 : g d Γ with
  | none => rw [e1] at h; cases h
  | some Γ1 =>
    rw [e1] at h
    have h : fin1 (s Γ1) = some r := h
    show (match g d Γ with | none => R.bad | some Γ1 => match s Γ1 with | .ok (.nx, Γ2) => forL g s ds Γ2 | .ok (.cnt, Γ2) => forL g s ds Γ2 | .ok (.brk, Γ2) => .ok (.nx, Γ2) | .ok (.ret o, Γ2) => .ok (.ret o, Γ2) | .exc x Γ2 => .exc x Γ2 | .bad => .bad) = _
    rw [e1]; dsimp only
    cases e2 : s Γ1 with
    | ok r2 =>
      rw [e2] at h
      obtain ⟨c, Γ2⟩ := r2
      cases c with
      | nx => cases h
      | cnt => cases h
      | brk => cases h; rfl
      | ret o => cases h; rfl
    | exc x Γ2 => rw [e2] at h; cases h; rfl
    | bad => rw [e2] at h; cases h
/-- a for: P i before turn i; each turn goes on or ends the loop; Z: what is wanted of the whole -/
theorem forL_z {f : α → D} {xs : List α} {P : Nat → Env → Prop} {Z : R (Ctl × Env) → Prop} (h0 : P 0 Γ)
    (h : ∀ (i : Nat) (x : α) (Γ : Env), xs[i]? = some x → P i Γ → (∃ Γ2, kGb s (g (f x) Γ) = .ok (.nx, Γ2) ∧ P (i + 1) Γ2) ∨ ∃ r, fin1 (kGb s (g (f x) Γ)) = some r ∧ Z r)
    (he : ∀ Γ', P xs.length Γ' → Z (.ok (.nx, Γ'))) : Z (forL g s (xs.map f) Γ) := by
  induction xs generalizing Γ P with
  | nil => exact he Γ h0
  | cons x xs ih =>
    rcases h 0 x Γ rfl h0 with ⟨Γ2, e2, p⟩ | ⟨r, e2, z⟩
    · rw [List.map_cons, forL_nx e2]
      exact ih (P := fun i => P (i + 1)) p (fun i y Γ hd q => h (i + 1) y Γ hd q) he
    · rw [List.map_cons, forL_fin e2]; exact z
/-- a for that runs through -/
theorem forL_m {f : α → D} {xs : List α} {P : Nat → Env → Prop} (h0 : P 0 Γ)
    (h : ∀ (i : Nat) (x : α) (Γ : Env), xs[i]? = some x → P i Γ → ∃ Γ2, kGb s (g (f x) Γ) = .ok (.nx, Γ2) ∧ P (i + 1) Γ2) : ∃ Γ', forL g s (xs.map f) Γ = .ok (.nx, Γ') ∧ P xs.length Γ' :=
  forL_z (Z := fun r => ∃ Γ', r = .ok (.nx, Γ') ∧ P xs.length Γ') h0 (fun i x Γ hx p => .inl (h i x Γ hx p)) fun Γ' p => ⟨Γ', rfl, p⟩
theorem rng_map (lo : Int) (n : Nat) : rngL lo n = (List.range n).map fun (k : Nat) => D.int (lo + k) := rfl
theorem range_get {n i x : Nat} (h : (List.range n)[i]? = some x) : x = i ∧ i < n := by
  by_cases hi : i < n
  · rw [List.getElem?_range hi] at h; cases h; exact ⟨rfl, hi⟩
  · rw [List.getElem?_eq_none (by simpa using hi)] at h; cases h
/-- a for over a range, with any end -/
theorem forL_rg {lo : Int} {m : Nat} {P : Nat → Env → Prop} {Z : R (Ctl × Env) → Prop} (h0 : P 0 Γ)
    (h : ∀ (i : Nat) (Γ : Env), i < m → P i Γ → (∃ Γ2, kGb s (g (.int (lo + i)) Γ) = .ok (.nx, Γ2) ∧ P (i + 1) Γ2) ∨ ∃ r, fin1 (kGb s (g (.int (lo + i)) Γ)) = some r ∧ Z r)
    (he : ∀ Γ', P m Γ' → Z (.ok (.nx, Γ'))) : Z (forL g s (rngL lo m) Γ) := by
  rw [rng_map]
  refine forL_z h0 (fun i x Γ hx p => ?_) (fun Γ' p => he Γ' (by rwa [List.length_range] at p))
  obtain ⟨rfl, hi⟩ := range_get hx
  exact h _ Γ hi p
theorem forL_rm {lo : Int} {m : Nat} {P : Nat → Env → Prop} (h0 : P 0 Γ)
    (h : ∀ (i : Nat) (Γ : Env), i < m → P i Γ → ∃ Γ2, kGb s (g (.int (lo + i)) Γ) = .ok (.nx, Γ2) ∧ P (i + 1) Γ2) : ∃ Γ', forL g s (rngL lo m) Γ = .ok (.nx, Γ') ∧ P m Γ' :=
  forL_rg (Z := fun r => ∃ Γ', r = .ok (.nx, Γ') ∧ P m Γ') h0 (fun i Γ hx p => .inl (h i Γ hx p)) fun Γ' p => ⟨Γ', rfl, p⟩
/-! comprehensions -/
def kTn3 (vs : List Nat) : R (D × Env) → Option (Option D × Env)
  | .ok (x, Γ) => some (some x, wipeG Γ vs)
  | _ => none
theorem kTn3_ok {x : D} : kTn3 vs (.ok (x, Γ)) = some (some x, wipeG Γ vs) := rfl
def kTn2 (e : EV) (vs : List Nat) : R (Bool × Env) → Option (Option D × Env)
  | .ok (true, Γ) => kTn3 vs (e Γ)
  | .ok (false, Γ) => some (none, wipeG Γ vs)
  | _ => none
theorem kTn2_t : kTn2 e vs (.ok (true, Γ)) = kTn3 vs (e Γ) := rfl
theorem kTn2_f : kTn2 e vs (.ok (false, Γ)) = some (none, wipeG Γ vs) := rfl
theorem kTn2_p {p : Prop} [Decidable p] : kTn2 e vs (.ok (decide p, Γ)) = if p then kTn3 vs (e Γ) else some (none, wipeG Γ vs) := by
  by_cases h : p <;> simp [h, kTn2]
theorem kTn2_n {p : Prop} [Decidable p] : kTn2 e vs (.ok (!decide p, Γ)) = if p then some (none, wipeG Γ vs) else kTn3 vs (e Γ) := by
  by_cases h : p <;> simp [h, kTn2]
def kTn1 (t : TV) (e : EV) (vs : List Nat) : Option Env → Option (Option D × Env)
  | some Γ => kTn2 e vs (t Γ)
  | none => none
theorem kTn1_s : kTn1 t e vs (some Γ) = kTn2 e vs (t Γ) := rfl
/-- one turn of a comprehension -/
def turn (g : GV) (t : TV) (e : EV) (vs : List Nat) (d : D) (Γ : Env) : Option (Option D × Env) := kTn1 t e vs (g d Γ)
theorem turn_ap {d : D} : turn g t e vs d Γ = kTn1 t e vs (g d Γ) := rfl
theorem lcL_m (f : α → D) (w : α → Option D) (xs : List α) (h : ∀ x ∈ xs, turn g t e vs (f x) Γ0 = some (w x, Γ0)) {n : Nat} (hn : n + xs.length ≤ seqMax) : lcL g t e vs (xs.map f) Γ0 n = some (xs.filterMap w, Γ0) := by
  induction xs generalizing n with
  | nil => rfl
  | cons x xs ih =>
    have hx := h x (by simp)
    have hr := fun n hn => ih (fun y hy => h y (by simp [hy])) (n := n) hn
    rw [List.length_cons] at hn
    unfold turn at hx
    rw [List.map_cons, lcL]
    cases e1 : g (f x) Γ0 with
    | none => rw [e1] at hx; cases hx
    | some Γ1 =>
      rw [e1] at hx
      have hx : kTn2 e vs (t Γ1) = some (w x, Γ0) := hx
      dsimp only
      cases e2 : t Γ1 with
      | ok r =>
        obtain ⟨c, Γ2⟩ := r
        rw [e2] at hx
        cases c with
        | true =>
          have hx : kTn3 vs (e Γ2) = some (w x, Γ0) := hx
          dsimp only
          cases e3 : e Γ2 with
          | ok r =>
            obtain ⟨y, Γ3⟩ := r
            rw [e3] at hx
            have hx : some (some y, wipeG Γ3 vs) = some (w x, Γ0) := hx
            injection hx with hx
            injection hx with h1 h2
            dsimp only
            rw [if_pos (by omega), h2, hr _ (by omega), List.filterMap_cons, ← h1]
          | exc _ _ => rw [e3] at hx; cases hx
          | bad => rw [e3] at hx; cases hx
        | false =>
          have hx : some (none, wipeG Γ2 vs) = some (w x, Γ0) := hx
          injection hx with hx
          injection hx with h1 h2
          dsimp only
          rw [h2, hr _ (by omega), List.filterMap_cons, ← h1]
      | exc _ _ => rw [e2] at hx; cases hx
      | bad => rw [e2] at hx; cases hx
theorem filterMap_congr' {f g : α → Option β} : ∀ {xs : List α}, (∀ x ∈ xs, f x = g x) → xs.filterMap f = xs.filterMap g
  | [], _ => rfl
  | x :: xs, h => by rw [List.filterMap_cons, List.filterMap_cons, h x (by simp), filterMap_congr' fun y hy => h y (by simp [hy])]
theorem filterMap_if (p : α → Prop) [DecidablePred p] (f : α → β) (xs : List α) : xs.filterMap (fun x => if p x then some (f x) else none) = (xs.filter (fun x => decide (p x))).map f := by
  induction xs with
  | nil => rfl
  | cons x xs ih =>
    rw [List.filterMap_cons]
    by_cases h : p x
    · rw [if_pos h, List.filter_cons_of_pos (by simpa using h), List.map_cons, ← ih]
    · rw [if_neg h, List.filter_cons_of_neg (by simpa using h), ← ih]
/-- [e for x in xs if p] -/
theorem lcL_if (f : α → D) (p : α → Prop) [DecidablePred p] (u : α → D) (xs : List α) (h : ∀ x ∈ xs, turn g t e vs (f x) Γ0 = if p x then some (some (u x), Γ0) else some (none, Γ0)) {n : Nat} (hn : n + xs.length ≤ seqMax) : lcL g t e vs (xs.map f) Γ0 n = some ((xs.filter (fun x => decide (p x))).map u, Γ0) := by
  rw [lcL_m f (fun x => if p x then some (u x) else none) xs (fun x hx => by rw [h x hx]; by_cases q : p x <;> simp [q]) hn, filterMap_if]
/-- [e for x in xs if not p] -/
theorem lcL_ifn (f : α → D) (p : α → Prop) [DecidablePred p] (u : α → D) (xs : List α) (h : ∀ x ∈ xs, turn g t e vs (f x) Γ0 = if p x then some (none, Γ0) else some (some (u x), Γ0)) {n : Nat} (hn : n + xs.length ≤ seqMax) : lcL g t e vs (xs.map f) Γ0 n = some ((xs.filter (fun x => !decide (p x))).map u, Γ0) := by
  rw [lcL_m f (fun x => if ¬ p x then some (u x) else none) xs (fun x hx => by rw [h x hx]; by_cases q : p x <;> simp [q]) hn, filterMap_if]
  have e : (fun x => decide ¬p x) = (fun x => !decide (p x)) := by
    funext x
    by_cases q : p x <;> simp [q]
  rw [e]
/-- [e for x in xs] -/
theorem lcL_a (f : α → D) (u : α → D) (xs : List α) (h : ∀ x ∈ xs, turn g t e vs (f x) Γ0 = some (some (u x), Γ0)) {n : Nat} (hn : n + xs.length ≤ seqMax) : lcL g t e vs (xs.map f) Γ0 n = some (xs.map u, Γ0) := by
  rw [lcL_m f _ xs h hn, List.filterMap_eq_map']
end
/-! one statement at a time -/
section
variable {a b : SV} {Γ Γ1 : Env} {r : R (Ctl × Env)} {X : R DV}
theorem seq_nx (h : a Γ = .ok (.nx, Γ1)) (h2 : b Γ1 = r) : sSeq a b Γ = r := by
  rw [sSeq_ap, h, kS_nx, h2]
theorem seq_rt {o : DV} (h : a Γ = .ok (.ret o, Γ1)) (h2 : .ok (.ret o, Γ1) = r) : sSeq a b Γ = r := by
  rw [sSeq_ap, h, kS_rt, h2]
theorem seq_bk (h : a Γ = .ok (.brk, Γ1)) (h2 : .ok (.brk, Γ1) = r) : sSeq a b Γ = r := by
  rw [sSeq_ap, h, kS_bk, h2]
theorem seq_ex {x : Xc} (h : a Γ = .exc x Γ1) (h2 : .exc x Γ1 = r) : sSeq a b Γ = r := by
  rw [sSeq_ap, h, kS_ex, h2]
theorem if_t {t : TV} {r : R (Ctl × Env)} (h : t Γ = .ok (true, Γ1)) (h2 : a Γ1 = r) : sIf t a b Γ = r := by rw [sIf_ap, h, kIf_t, h2]
theorem if_f {t : TV} {r : R (Ctl × Env)} (h : t Γ = .ok (false, Γ1)) (h2 : b Γ1 = r) : sIf t a b Γ = r := by rw [sIf_ap, h, kIf_f, h2]
theorem fin_of (h : a Γ = r) (h2 : fin r = X) : fin (a Γ) = X := by rw [h, h2]
theorem fini_of {n : Nat} {Y : R (List (Nat × D))} (h : a Γ = r) (h2 : finI n r = Y) : finI n (a Γ) = Y := by rw [h, h2]
theorem gb_of {g : GV} {d : D} (h : g d Γ = some Γ1) (h2 : a Γ1 = r) : kGb a (g d Γ) = r := by rw [h, kGb_s, h2]
end
theorem nodup_le {α : Type} [DecidableEq α] : ∀ {r ns : List α}, r.Nodup → (∀ x ∈ r, x ∈ ns) → r.length ≤ ns.length
  | [], ns, _, _ => by simp
  | x :: r, ns, h, hs => by
    rw [List.nodup_cons] at h
    have hx := hs x (by simp)
    have := nodup_le (ns := ns.erase x) h.2 fun y hy => (List.mem_erase_of_ne (show y ≠ x from fun e => h.1 (by rw [← e]; exact hy))).mpr (hs y (by simp [hy]))
    rw [List.length_erase_of_mem hx] at this
    have : 0 < ns.length := List.length_pos_of_mem hx
    rw [List.length_cons]; omega
/-! more evaluation -/
section
variable {Γ Γ1 : Env} {a b : QV} {e1 e2 : EV} {x y d : D} {p : PV} {ps : List PV} {ds : List D} {n i : Nat} {F : FV} {k : Bool} {xc : Xc} {av : AV} {kd : D → Bool} {f : D → List D → Option D} {is : Nat → Option Bool} {fs : List (Nat × D)}
def kSg2 (Γ : Env) : Option D → R (List D × Env)
  | some (.str s) => .ok (sgn s, Γ)
  | _ => .bad
theorem kSg2_s {s : Str} : kSg2 Γ (some (.str s)) = .ok (sgn s, Γ) := rfl
def kSg : R (PV × Env) → R (List D × Env)
  | .ok (p, Γ) => kSg2 Γ (rd Γ p)
  | .exc x Γ => .exc x Γ
  | .bad => .bad
theorem kSg_ok : kSg (.ok (p, Γ)) = kSg2 Γ (rd Γ p) := rfl
theorem iSgn_ap : iSgn a Γ = kSg (a Γ) := by
  unfold iSgn
  cases a Γ with
  | ok r => obtain ⟨p, Γ1⟩ := r; show (match rd Γ1 p with | some (.str s) => R.ok (sgn s, Γ1) | _ => R.bad) = kSg2 Γ1 (rd Γ1 p); unfold kSg2; cases rd Γ1 p with
    | none => rfl
    | some d => cases d <;> rfl
  | exc x Γ => rfl
  | bad => rfl
def kED (is : Nat → Option Bool) (Γ : Env) : Sl → R (D × Env)
  | .exn x => kIE2 Γ (is x.c)
  | _ => .bad
theorem kED_s {is : Nat → Option Bool} : kED is Γ (.exn ⟨n, fs⟩) = kIE2 Γ (is n) := rfl
theorem eIsED_ap : eIsED i is Γ = kED is Γ (get Γ i) := by
  unfold eIsED kED
  cases get Γ i with
  | exn x => dsimp only; cases is x.c <;> rfl
  | _ => rfl
def kX2 (n : Nat) (F : FV) (Γ : Env) (x y : D) : R (D × Env) := match x with
  | .ins c1 _ => if c1 = n then kCd (callF F [false, false] [.pd x, .pd y] Γ) else .bad
  | _ => .bad
theorem kX2_s : kX2 n F Γ (.ins n fs) y = kCd (callF F [false, false] [.pd (.ins n fs), .pd y] Γ) := if_pos rfl
def kX1 (n : Nat) (F : FV) (x : D) : R (D × Env) → R (D × Env)
  | .ok (y, Γ) => kX2 n F Γ x y
  | .exc x Γ => .exc x Γ
  | .bad => .bad
theorem kX1_ok : kX1 n F x (.ok (y, Γ)) = kX2 n F Γ x y := rfl
theorem kX1_ex : kX1 n F x (.exc xc Γ) = .exc xc Γ := rfl
def kX0 (n : Nat) (F : FV) (e2 : EV) : R (D × Env) → R (D × Env)
  | .ok (x, Γ) => kX1 n F x (e2 Γ)
  | .exc x Γ => .exc x Γ
  | .bad => .bad
theorem kX0_ok : kX0 n F e2 (.ok (x, Γ)) = kX1 n F x (e2 Γ) := rfl
theorem kX0_ex : kX0 n F e2 (.exc xc Γ) = .exc xc Γ := rfl
theorem eOwnX_ap : eOwnX n F e1 e2 Γ = kX0 n F e2 (e1 Γ) := by
  unfold eOwnX
  cases e1 Γ with
  | ok r =>
    obtain ⟨x, Γ1⟩ := r
    show (e2 Γ1).bind _ = kX1 n F x (e2 Γ1)
    cases e2 Γ1 with
    | ok r =>
      obtain ⟨y, Γ2⟩ := r
      cases x with
      | ins c1 u =>
        show (if c1 = n then _ else _) = (if c1 = n then _ else _)
        rw [← bind_cd]
      | _ => rfl
    | exc x Γ => rfl
    | bad => rfl
  | exc x Γ => rfl
  | bad => rfl
def kBT4 (Γ : Env) (f : D → List D → Option D) : Option D → Option (List D) → R (D × Env)
  | some x, some ys => kR Γ (f x ys)
  | _, _ => .bad
theorem kBT4_s : kBT4 Γ f (some x) (some ds) = kR Γ (f x ds) := rfl
def kBT3 (f : D → List D → Option D) (p : PV) : R (List PV × Env) → R (D × Env)
  | .ok (ps, Γ) => kBT4 Γ f (rd Γ p) (rds Γ ps)
  | .exc x Γ => .exc x Γ
  | .bad => .bad
theorem kBT3_ok : kBT3 f p (.ok (ps, Γ)) = kBT4 Γ f (rd Γ p) (rds Γ ps) := rfl
theorem kBT3_ex : kBT3 f p (.exc xc Γ) = .exc xc Γ := rfl
def kBT2 (kd : D → Bool) (f : D → List D → Option D) (av : AV) (Γ : Env) (p : PV) : Option D → R (D × Env)
  | some x => if kd x = true then kBT3 f p (av Γ) else .bad
  | none => .bad
theorem kBT2_s (h : kd x = true) : kBT2 kd f av Γ p (some x) = kBT3 f p (av Γ) := if_pos h
def kBT1 (kd : D → Bool) (f : D → List D → Option D) (av : AV) : R (PV × Env) → R (D × Env)
  | .ok (p, Γ) => kBT2 kd f av Γ p (rd Γ p)
  | .exc x Γ => .exc x Γ
  | .bad => .bad
theorem kBT1_ok : kBT1 kd f av (.ok (p, Γ)) = kBT2 kd f av Γ p (rd Γ p) := rfl
theorem kBT1_ex : kBT1 kd f av (.exc xc Γ) = .exc xc Γ := rfl
theorem eBMT_ap : eBMT kd f a av Γ = kBT1 kd f av (a Γ) := by
  unfold eBMT
  cases a Γ with
  | ok r =>
    obtain ⟨p, Γ1⟩ := r
    show (match rd Γ1 p with | some x0 => _ | none => _) = kBT2 kd f av Γ1 p (rd Γ1 p)
    cases rd Γ1 p with
    | none => rfl
    | some x0 =>
      show (if kd x0 = true then _ else _) = (if kd x0 = true then _ else _)
      congr 1
      cases av Γ1 with
      | ok r =>
        obtain ⟨ps, Γ2⟩ := r
        show (match rd Γ2 p, rds Γ2 ps with | some x, some ys => (R.of (f x ys)).bind fun d => R.ok (d, Γ2) | _, _ => R.bad) = kBT4 Γ2 f (rd Γ2 p) (rds Γ2 ps)
        unfold kBT4
        cases rd Γ2 p with
        | none => rfl
        | some x => cases rds Γ2 ps with
          | none => rfl
          | some ys =>
            show (R.of (f x ys)).bind _ = kR Γ2 (f x ys)
            cases f x ys <;> rfl
      | exc x Γ => rfl
      | bad => rfl
  | exc x Γ => rfl
  | bad => rfl
theorem at_4 {α : Type} {u0 u1 u2 u3 u4 : α} {l : List α} : at1 (u0 :: u1 :: u2 :: u3 :: u4 :: l) 4 = some u4 := at_nat (k := 4)
theorem at_5 {α : Type} {u0 u1 u2 u3 u4 u5 : α} {l : List α} : at1 (u0 :: u1 :: u2 :: u3 :: u4 :: u5 :: l) 5 = some u5 := at_nat (k := 5)
theorem at_6 {α : Type} {u0 u1 u2 u3 u4 u5 u6 : α} {l : List α} : at1 (u0 :: u1 :: u2 :: u3 :: u4 :: u5 :: u6 :: l) 6 = some u6 := at_nat (k := 6)
theorem at_7 {α : Type} {u0 u1 u2 u3 u4 u5 u6 u7 : α} {l : List α} : at1 (u0 :: u1 :: u2 :: u3 :: u4 :: u5 :: u6 :: u7 :: l) 7 = some u7 := at_nat (k := 7)
theorem at_8 {α : Type} {u0 u1 u2 u3 u4 u5 u6 u7 u8 : α} {l : List α} : at1 (u0 :: u1 :: u2 :: u3 :: u4 :: u5 :: u6 :: u7 :: u8 :: l) 8 = some u8 := at_nat (k := 8)
theorem at_9 {α : Type} {u0 u1 u2 u3 u4 u5 u6 u7 u8 u9 : α} {l : List α} : at1 (u0 :: u1 :: u2 :: u3 :: u4 :: u5 :: u6 :: u7 :: u8 :: u9 :: l) 9 = some u9 := at_nat (k := 9)
theorem at_10 {α : Type} {u0 u1 u2 u3 u4 u5 u6 u7 u8 u9 u10 : α} {l : List α} : at1 (u0 :: u1 :: u2 :: u3 :: u4 :: u5 :: u6 :: u7 :: u8 :: u9 :: u10 :: l) 10 = some u10 := at_nat (k := 10)
theorem at_11 {α : Type} {u0 u1 u2 u3 u4 u5 u6 u7 u8 u9 u10 u11 : α} {l : List α} : at1 (u0 :: u1 :: u2 :: u3 :: u4 :: u5 :: u6 :: u7 :: u8 :: u9 :: u10 :: u11 :: l) 11 = some u11 := at_nat (k := 11)
theorem at_12 {α : Type} {u0 u1 u2 u3 u4 u5 u6 u7 u8 u9 u10 u11 u12 : α} {l : List α} : at1 (u0 :: u1 :: u2 :: u3 :: u4 :: u5 :: u6 :: u7 :: u8 :: u9 :: u10 :: u11 :: u12 :: l) 12 = some u12 := at_nat (k := 12)
theorem at_13 {α : Type} {u0 u1 u2 u3 u4 u5 u6 u7 u8 u9 u10 u11 u12 u13 : α} {l : List α} : at1 (u0 :: u1 :: u2 :: u3 :: u4 :: u5 :: u6 :: u7 :: u8 :: u9 :: u10 :: u11 :: u12 :: u13 :: l) 13 = some u13 := at_nat (k := 13)
theorem dAdd_L {a b : List D} (h : a.length + b.length ≤ 16777216) : dAdd (.lst a) (.lst b) = some (.lst (a ++ b)) := if_pos h
theorem dAdd_T {a b : List D} (h : a.length + b.length ≤ 16777216) : dAdd (.tup a) (.tup b) = some (.tup (a ++ b)) := if_pos h
theorem dCat_L {a b : List D} (h : a.length + b.length ≤ 16777216) : dCat (.lst a) (.lst b) = some (.lst (a ++ b)) := if_pos h
theorem dIsN_n : dIsN .non .non = some (.bl true) := rfl
theorem dIsN_l : dIsN (.lst ds) .non = some (.bl false) := rfl
theorem dIsN_t : dIsN (.tup ds) .non = some (.bl false) := rfl
theorem dIsN_i {v : Int} : dIsN (.int v) .non = some (.bl false) := rfl
theorem dIsN_s {v : Str} : dIsN (.str v) .non = some (.bl false) := rfl
theorem dNotN_n : dNotN .non .non = some (.bl false) := rfl
theorem dNotN_l : dNotN (.lst ds) .non = some (.bl true) := rfl
theorem dNotN_t : dNotN (.tup ds) .non = some (.bl true) := rfl
theorem dNotN_i {v : Int} : dNotN (.int v) .non = some (.bl true) := rfl
theorem dNotN_s {v : Str} : dNotN (.str v) .non = some (.bl true) := rfl
theorem dBAnd_i {u v : Int} : dBAnd (.int u) (.int v) = some (.int (Builtin.bitAnd u v)) := rfl
theorem dBOr_i {u v : Int} : dBOr (.int u) (.int v) = some (.int (Builtin.bitOr u v)) := rfl
theorem dMin2_i {u v : Int} : dMin2 [.int u, .int v] = some (.int (if v < u then v else u)) := rfl
theorem dMax2_i {u v : Int} : dMax2 [.int u, .int v] = some (.int (if v > u then v else u)) := rfl
theorem dCut_l2 {lo hi : Option Int} : dCut (.lst ds) lo hi = some (.lst (cut ds lo hi)) := rfl
theorem dCut_t {lo hi : Option Int} : dCut (.tup ds) lo hi = some (.tup (cut ds lo hi)) := rfl
theorem dCut_c {lo hi : Option Int} {ns : List Int} : dCut (.scr ns) lo hi = some (.lst ((cut ns lo hi).map .int)) := rfl
end
/-! lists -/
section
variable {α β : Type}
theorem at_getD {α : Type} {l : List α} {k : Int} {d : α} (h : 0 ≤ k) (h2 : k < l.length) : at1 l k = some (l.getD k.toNat d) := by
  unfold at1 ixN
  rw [if_pos h, if_pos h2]
  show l[k.toNat]? = _
  rw [List.getD_eq_getElem?_getD, List.getElem?_eq_getElem (by omega)]; rfl
theorem at_some {l : List α} {k : Int} {x : α} (h : 0 ≤ k) (h2 : l[k.toNat]? = some x) : at1 l k = some x := by
  have : k.toNat < l.length := (List.getElem?_eq_some_iff.mp h2).1
  unfold at1 ixN
  rw [if_pos h, if_pos (by omega)]
  exact h2
theorem at_mapn {f : α → β} {l : List α} {i : Nat} {x : α} (h : l[i]? = some x) : at1 (l.map f) (i : Int) = some (f x) := by
  refine at_some (by omega) ?_
  rw [List.getElem?_map]
  show (l[(i : Int).toNat]?).map f = _
  rw [Int.toNat_natCast, h]; rfl
/-- an item of a list of numbers, texts .. at a place -/
theorem at_map {f : α → β} {l : List α} {k : Int} (d : α) (h : 0 ≤ k) (h2 : k < l.length) : at1 (l.map f) k = some (f (l.getD k.toNat d)) := by
  refine at_some h ?_
  rw [List.getElem?_map, List.getD_eq_getElem?_getD, List.getElem?_eq_getElem (by omega)]; rfl
theorem getD_mem {l : List α} {k : Nat} {d : α} (h : k < l.length) : l.getD k d ∈ l := by
  rw [List.getD_eq_getElem?_getD, List.getElem?_eq_getElem h]
  exact List.getElem_mem h
theorem take_s {l : List α} {i : Nat} {p : α} (h : l[i]? = some p) : l.take (i + 1) = l.take i ++ [p] := by
  rw [List.take_succ, h]; rfl
theorem get_mem {l : List α} {i : Nat} {p : α} (h : l[i]? = some p) : p ∈ l := List.mem_of_getElem? h
theorem get_lt {l : List α} {i : Nat} {p : α} (h : l[i]? = some p) : i < l.length := (List.getElem?_eq_some_iff.mp h).1
theorem map_app1 (f : α → β) (xs : List α) (x : α) : xs.map f ++ [f x] = (xs ++ [x]).map f := by simp
theorem fm_lt (a : Int) {m : Int} (h : 0 < m) : 0 ≤ a.fmod m ∧ a.fmod m < m := ⟨Int.fmod_nonneg_of_pos a h, Int.fmod_lt_of_pos a h⟩
theorem rngB_of {n : Int} (h : -100000 ≤ n) (h2 : n < 1000000000) : rngB n = true := by
  unfold rngB
  rw [decide_eq_true (by omega), decide_eq_true (by omega)]; rfl
theorem cut_to {l : List α} {k : Int} (h : 0 ≤ k) : cut l none (some k) = l.take k.toNat := by
  unfold cut slI
  dsimp only
  rw [if_neg (by omega), List.drop_zero, Nat.sub_zero, List.take_eq_take_iff]
  omega
theorem cut_from {l : List α} {k : Int} (h : 0 ≤ k) : cut l (some k) none = l.drop k.toNat := by
  unfold cut slI
  dsimp only
  rw [if_neg (by omega), List.take_of_length_le (by rw [List.length_drop]; omega)]
  by_cases hk : k.toNat ≤ l.length
  · rw [Nat.min_eq_left hk]
  · rw [Nat.min_eq_right (by omega), List.drop_eq_nil_of_le (by omega), List.drop_eq_nil_of_le (by omega)]
theorem cut_mid {l : List α} {j k : Int} (h : 0 ≤ j) (h2 : 0 ≤ k) : cut l (some j) (some k) = (l.drop j.toNat).take (k.toNat - j.toNat) := by
  unfold cut slI
  dsimp only
  rw [if_neg (by omega), if_neg (by omega)]
  by_cases hj : j.toNat ≤ l.length
  · rw [Nat.min_eq_left (show j.toNat ≤ l.length from hj), List.take_eq_take_iff, List.length_drop]
    omega
  · have e1 : l.drop l.length = [] := List.drop_eq_nil_of_le (Nat.le_refl _)
    have e2 : l.drop j.toNat = [] := List.drop_eq_nil_of_le (by omega)
    rw [Nat.min_eq_right (show l.length ≤ j.toNat by omega), e1, e2]
    simp
end
/-! membership among texts -/
theorem all_flat_s (xs : List Str) : (xs.map D.str).all flat = true := by induction xs with
  | nil => rfl
  | cons x xs ih => rw [List.map_cons, List.all_cons, ih]; rfl
theorem any_s (x : Str) (xs : List Str) : ((xs.map D.str).any fun y => deq y (.str x)) = decide (x ∈ xs) := by
  induction xs with
  | nil => simp
  | cons y xs ih =>
    rw [List.map_cons, List.any_cons, ih]
    have e : deq (.str y) (.str x) = (y == x) := by simp [deq]
    rw [e]
    by_cases h : y = x
    · subst h; simp
    · have h2 : x ≠ y := fun z => h z.symm
      simp [h, h2]
theorem isIn_sl {x : Str} {xs : List Str} : isIn (.str x) (.lst (xs.map .str)) = some (decide (x ∈ xs)) := by
  unfold isIn
  dsimp only
  rw [all_flat_s, any_s]; rfl
theorem isIn_st {x : Str} {xs : List Str} : isIn (.str x) (.tup (xs.map .str)) = some (decide (x ∈ xs)) := by
  unfold isIn
  dsimp only
  rw [all_flat_s, any_s]; rfl
theorem dIn_sl {x : Str} {xs : List Str} : dIn (.str x) (.lst (xs.map .str)) = some (.bl (decide (x ∈ xs))) := by unfold dIn; rw [isIn_sl]; rfl
theorem dIn_st {x : Str} {xs : List Str} : dIn (.str x) (.tup (xs.map .str)) = some (.bl (decide (x ∈ xs))) := by unfold dIn; rw [isIn_st]; rfl
theorem dNin_sl {x : Str} {xs : List Str} : dNin (.str x) (.lst (xs.map .str)) = some (.bl (!decide (x ∈ xs))) := by unfold dNin; rw [isIn_sl]; rfl
theorem dNin_st {x : Str} {xs : List Str} : dNin (.str x) (.tup (xs.map .str)) = some (.bl (!decide (x ∈ xs))) := by unfold dNin; rw [isIn_st]; rfl
theorem all_flat_i (xs : List Int) : (xs.map D.int).all flat = true := by induction xs with
  | nil => rfl
  | cons x xs ih => rw [List.map_cons, List.all_cons, ih]; rfl
theorem any_i (x : Int) (xs : List Int) : ((xs.map D.int).any fun y => deq y (.int x)) = decide (x ∈ xs) := by
  induction xs with
  | nil => simp
  | cons y xs ih =>
    rw [List.map_cons, List.any_cons, ih]
    have e : deq (.int y) (.int x) = (y == x) := by simp [deq]
    rw [e]
    by_cases h : y = x
    · subst h; simp
    · have h2 : x ≠ y := fun z => h z.symm
      simp [h, h2]
theorem dIn_il {x : Int} {xs : List Int} : dIn (.int x) (.lst (xs.map .int)) = some (.bl (decide (x ∈ xs))) := by
  unfold dIn isIn
  dsimp only
  rw [all_flat_i, any_i]; rfl
theorem dNin_il {x : Int} {xs : List Int} : dNin (.int x) (.lst (xs.map .int)) = some (.bl (!decide (x ∈ xs))) := by
  unfold dNin isIn
  dsimp only
  rw [all_flat_i, any_i]; rfl
/-! equality of plain data -/
def okS (s : Str) : Prop := s.cps.all (· < 0x110000) = true
mutual
theorem deq_refl : ∀ d : D, (∀ n, okDat n d = true → deq d d = true)
  | .non, n, _ => by simp [deq]
  | .bl b, n, _ => by simp [deq]
  | .int b, n, _ => by simp [deq]
  | .str b, n, _ => by simp [deq]
  | .lst xs, 0, h => by simp [okDat] at h
  | .tup xs, 0, h => by simp [okDat] at h
  | .lst xs, n + 1, h => by
    rw [deq]; exact deqs_refl xs n (by rw [okDat] at h; exact h)
  | .tup xs, n + 1, h => by
    rw [deq]; exact deqs_refl xs n (by rw [okDat] at h; exact h)
  | .dct _, n, h => by cases n <;> simp [okDat] at h
  | .ins _ _, n, h => by cases n <;> simp [okDat] at h
  | .scr _, n, h => by cases n <;> simp [okDat] at h
theorem deqs_refl : ∀ ds : List D, (∀ n, ds.all (okDat n) = true → deqs ds ds = true)
  | [], n, _ => by rw [deqs]
  | d :: ds, n, h => by
    rw [List.all_cons, Bool.and_eq_true] at h
    rw [deqs, deq_refl d n h.1, deqs_refl ds n h.2]; rfl
end
theorem dEq_refl {d : D} (h : okDat 60 d = true) : dEq d d = some (.bl true) := by
  unfold dEq
  rw [h, deq_refl d 60 h]; simp
theorem dNe_refl {d : D} (h : okDat 60 d = true) : dNe d d = some (.bl false) := by
  unfold dNe
  rw [h, deq_refl d 60 h]; simp
theorem ok_sl {n : Nat} {xs : List Str} (h : ∀ x ∈ xs, okS x) : (xs.map D.str).all (okDat n) = true := by
  rw [List.all_map, List.all_eq_true]
  intro x hx
  have := h x hx
  unfold okS at this
  cases n <;> exact this
theorem ok_sL {n : Nat} {xs : List Str} (h : ∀ x ∈ xs, okS x) : okDat (n + 1) (sL xs) = true := by rw [okDat]; exact ok_sl h
theorem ok_sT {n : Nat} {xs : List Str} (h : ∀ x ∈ xs, okS x) : okDat (n + 1) (sT xs) = true := by rw [okDat]; exact ok_sl h
theorem ok_map {α : Type} {n : Nat} {f : α → D} {xs : List α} (h : ∀ x ∈ xs, okDat n (f x) = true) : (xs.map f).all (okDat n) = true := by
  rw [List.all_map, List.all_eq_true]
  exact h
theorem deqs_s : ∀ (xs ys : List Str), deqs (xs.map .str) (ys.map .str) = decide (xs = ys)
  | [], [] => by simp [deqs]
  | [], y :: ys => by simp [deqs]
  | x :: xs, [] => by simp [deqs]
  | x :: xs, y :: ys => by
    rw [List.map_cons, List.map_cons, deqs, deqs_s xs ys]
    have e : deq (.str x) (.str y) = (x == y) := by simp [deq]
    rw [e]
    by_cases h : x = y
    · subst h; simp
    · simp [h]
theorem deqs_i : ∀ (xs ys : List Int), deqs (xs.map .int) (ys.map .int) = decide (xs = ys)
  | [], [] => by simp [deqs]
  | [], y :: ys => by simp [deqs]
  | x :: xs, [] => by simp [deqs]
  | x :: xs, y :: ys => by
    rw [List.map_cons, List.map_cons, deqs, deqs_i xs ys]
    have e : deq (.int x) (.int y) = (x == y) := by simp [deq]
    rw [e]
    by_cases h : x = y
    · subst h; simp
    · simp [h]
theorem dEq_sL {xs ys : List Str} (h : ∀ x ∈ xs, okS x) (h2 : ∀ x ∈ ys, okS x) : dEq (.lst (xs.map .str)) (.lst (ys.map .str)) = some (.bl (decide (xs = ys))) := by
  unfold dEq
  have a : okDat 60 (.lst (xs.map .str)) = true := ok_sL h
  have b : okDat 60 (.lst (ys.map .str)) = true := ok_sL h2
  rw [a, b, deq, deqs_s]; simp
theorem dNe_sL {xs ys : List Str} (h : ∀ x ∈ xs, okS x) (h2 : ∀ x ∈ ys, okS x) : dNe (.lst (xs.map .str)) (.lst (ys.map .str)) = some (.bl (!decide (xs = ys))) := by
  unfold dNe
  have a : okDat 60 (.lst (xs.map .str)) = true := ok_sL h
  have b : okDat 60 (.lst (ys.map .str)) = true := ok_sL h2
  rw [a, b, deq, deqs_s]; simp
end Ed

set_option autoImplicit true
set_option Elab.async false
set_option linter.all false
set_option maxRecDepth 100000
set_option exponentiation.threshold 10000
set_option maxHeartbeats 4000000
namespace K04
open PySem Ed
def el_is_name_0 (fu : Nat) : EV := (eB dIn (pN 1) (pE (eC (.str "abcdefghijklmnopqrstuvwxyz"))))
def sv_is_name (fu : Nat) : SV := (sSeq (sIf (eNot (tE (eChain dLe dLe (pE (eC (.int 1))) (pE (eF (o1 dLen) (aCons (pN 0) aNil))) (pE (eC (.int 8))))))
    (sRet (eC (.bl false)))
    sNext)
  (sRet (eF (o1 dAll) (aCons (pE (eLc [1] (iSgn (pN 0)) (gN 1) tYs (el_is_name_0 fu))) aNil))))
def F_is_name (fu : Nat) : FV := runF [true] 1 (sv_is_name fu)
def lb_first_misnamed_0 (fu : Nat) : SV := (sIf (eOr (eNot (tE (eCall (F_is_name fu) [true] (aCons (pE (eB dIx (pN 0) (pN 1))) aNil)))) (tE (eB dIn (pE (eB dIx (pN 0) (pN 1))) (pE (eSl dCut (pN 0) none (some (pN 1)))))))
    (sRet (eN 1))
    sNext)
def sv_first_misnamed (fu : Nat) : SV := (sSeq (sFor (gN 1) (iRg1 (pE (eF (o1 dLen) (aCons (pN 0) aNil)))) (lb_first_misnamed_0 fu))
  (sRet (eU dNeg (pE (eC (.int 1))))))
def F_first_misnamed (fu : Nat) : FV := runF [true] 1 (sv_first_misnamed fu)
def lb_is_row_0 (fu : Nat) : SV := (sIf (eOr (tE (eB dNin (pE (eB dIx (pN 1) (pN 2))) (pN 0))) (tE (eB dIn (pE (eB dIx (pN 1) (pN 2))) (pE (eSl dCut (pN 1) none (some (pN 2)))))))
    (sRet (eC (.bl false)))
    sNext)
def sv_is_row (fu : Nat) : SV := (sSeq (sFor (gN 2) (iRg1 (pE (eF (o1 dLen) (aCons (pN 1) aNil)))) (lb_is_row_0 fu))
  (sRet (eC (.bl true))))
def F_is_row (fu : Nat) : FV := runF [true, true] 1 (sv_is_row fu)
def el_common_names_0 (fu : Nat) : EV := (eN 2)
def et_common_names_1 (fu : Nat) : TV := (tE (eB dIn (pN 2) (pN 1)))
def sv_common_names (fu : Nat) : SV := (sRetO (eLc [2] (iN 0) (gN 2) (et_common_names_1 fu) (el_common_names_0 fu)))
def F_common_names (fu : Nat) : FV := runF [true, true] 1 (sv_common_names fu)
def lb_TableD_initD_0 (fu : Nat) : SV := (sIf (eNot (tE (eCall (F_is_row fu) [true, true] (aCons (pN 1) (aCons (pE (eB dIx (pN 2) (pN 4))) aNil)))))
    (sRaise 1 [0, 1] (lCons (eC (.str "row")) (lCons (eN 4) lNil)))
    sNext)
def el_TableD_initD_1 (fu : Nat) : EV := (eF (o1 dTup) (aCons (pE (eCall (F_common_names fu) [true, true] (aCons (pN 1) (aCons (pN 5) aNil)))) aNil))
def sg_TableD_initD_2 (fu : Nat) : SV := (sSeq (sIf (tE (eB dGt (pE (eF (o1 dLen) (aCons (pN 2) aNil))) (pE (eC (.int 48)))))
    (sRaise 1 [0, 1] (lCons (eC (.str "rows")) (lCons (eC (.int 0)) lNil)))
    sNext)
  (sSeq (sFor (gN 4) (iRg1 (pE (eF (o1 dLen) (aCons (pN 2) aNil)))) (lb_TableD_initD_0 fu))
  (sSeq (sFld 0 2 (eF (o1 dTup) (aCons (pN 1) aNil)))
  (sFld 0 3 (eF (o1 dTup) (aCons (pE (eLc [5] (iN 2) (gN 5) tYs (el_TableD_initD_1 fu))) aNil))))))
def sv_TableD_initD (fu : Nat) : SV := (sSeq (sIf (tE (eB dGt (pE (eF (o1 dLen) (aCons (pN 1) aNil))) (pE (eC (.int 12)))))
    (sRaise 1 [0, 1] (lCons (eC (.str "columns")) (lCons (eC (.int 0)) lNil)))
    sNext)
  (sSeq (sSet 3 (eCall (F_first_misnamed fu) [true] (aCons (pN 1) aNil)))
  (sSeq (sIf (tE (eB dGe (pN 3) (pE (eC (.int 0)))))
    (sRaise 1 [0, 1] (lCons (eC (.str "column")) (lCons (eN 3) lNil)))
    sNext)
  (sg_TableD_initD_2 fu))))
def F_TableD_initD (fu : Nat) : List D → R (List (Nat × D)) := runI 0 [true, true] 3 (sv_TableD_initD fu)
def sv_TableD_lenD (fu : Nat) : SV := (sRet (eF (o1 dLen) (aCons (pE (eFld 0 3 (eN 0))) aNil)))
def F_TableD_lenD (fu : Nat) : FV := runF [false] 0 (sv_TableD_lenD fu)
def sv_TableD_eqD (fu : Nat) : SV := (sRet (eAndV (eU (fun d => (isB2 (tbl [(0, true)]) d).map .bl) (pN 1)) (eAndV (eB dEq (pE (eFld 0 2 (eN 0))) (pE (eFld 0 2 (eN 1)))) (eB dEq (pE (eFld 0 3 (eN 0))) (pE (eFld 0 3 (eN 1)))))))
def F_TableD_eqD (fu : Nat) : FV := runF [false, false] 0 (sv_TableD_eqD fu)
def lb_table_text_0 (fu : Nat) : SV := (sApp 1 (eBMT (kindD "str") dJoin (pE (eC (.str " "))) (aCons (pE (nLst (lCons (eC (.str "row")) (lStar (eN 2) lNil)))) aNil)))
def sv_table_text (fu : Nat) : SV := (sSeq (sOwn 1 (nLst (lCons (eBMT (kindD "str") dJoin (pE (eC (.str " "))) (aCons (pE (nLst (lCons (eC (.str "columns")) (lStar (eFld 0 2 (eN 0)) lNil)))) aNil)) lNil)))
  (sSeq (sFor (gN 2) (iOwnT 0 3 (eN 0)) (lb_table_text_0 fu))
  (sRet (eBMT (kindD "str") dJoin (pE (eC (.str "\n"))) (aCons (pN 1) aNil)))))
def F_table_text (fu : Nat) : FV := runF [true] 2 (sv_table_text fu)
def lb_read_table_0 (fu : Nat) : SV := (sSeq (sSet 2 (eBMT (kindD "str") dSplit (pE (eB dIx (pN 1) (pN 5))) (aCons (pE (eC (.str " "))) aNil)))
  (sSeq (sSet 6 (eSl dCut (pN 2) (some (pE (eC (.int 1)))) none))
  (sSeq (sIf (eOr (tE (eB dNe (pE (eB dIx (pN 2) (pE (eC (.int 0))))) (pE (eC (.str "row"))))) (eOr (tE (eB dEq (pE (eF (o1 dLen) (aCons (pN 4) aNil))) (pE (eC (.int 48))))) (eNot (tE (eCall (F_is_row fu) [true, true] (aCons (pN 3) (aCons (pN 6) aNil)))))))
    (sRaise 2 [4] (lCons (eN 5) lNil))
    sNext)
  (sApp 4 (eN 6)))))
def sg_read_table_1 (fu : Nat) : SV := (sSeq (sIf (eOr (tE (eB dNe (pE (eB dIx (pN 2) (pE (eC (.int 0))))) (pE (eC (.str "columns"))))) (eOr (tE (eB dGt (pE (eF (o1 dLen) (aCons (pN 3) aNil))) (pE (eC (.int 12))))) (tE (eB dGe (pE (eCall (F_first_misnamed fu) [true] (aCons (pN 3) aNil))) (pE (eC (.int 0)))))))
    (sRaise 2 [4] (lCons (eC (.int 0)) lNil))
    sNext)
  (sSeq (sOwn 4 (nLst lNil))
  (sSeq (sFor (gN 5) (iRg2 (pE (eC (.int 1))) (pE (eF (o1 dLen) (aCons (pN 1) aNil)))) (lb_read_table_0 fu))
  (sRet (eCall (mkF 0 (F_TableD_initD fu)) [true, true] (aCons (pN 3) (aCons (pN 4) aNil)))))))
def sv_read_table (fu : Nat) : SV := (sSeq (sSet 1 (eBMT (kindD "str") dSplit (pN 0) (aCons (pE (eC (.str "\n"))) aNil)))
  (sSeq (sSet 2 (eBMT (kindD "str") dSplit (pE (eB dIx (pN 1) (pE (eC (.int 0))))) (aCons (pE (eC (.str " "))) aNil)))
  (sSeq (sSet 3 (eSl dCut (pN 2) (some (pE (eC (.int 1)))) none))
  (sg_read_table_1 fu))))
def F_read_table (fu : Nat) : FV := runF [true] 6 (sv_read_table fu)
def sv_law_cell (fu : Nat) : SV := (sSeq (sIf (tE (eB dLt (pN 1) (pE (eF (o1 dLen) (aCons (pN 0) aNil)))))
    (sRet (eB dIx (pN 0) (pN 1)))
    sNext)
  (sRet (eC (.int 0))))
def F_law_cell (fu : Nat) : FV := runF [true, true] 0 (sv_law_cell fu)
def lb_law_pool_0 (fu : Nat) : SV := (sSeq (sApp 4 (eB dMod (pE (eF (o1 dInt) (aCons (pN 3) aNil))) (pE (eC (.int 27720)))))
  (sSet 3 (eB dDiv (pN 3) (pE (eC (.int 27720))))))
def lb_law_pool_1 (fu : Nat) : SV := (sSeq (sSet 6 (eB dMod (pE (eF (o1 dInt) (aCons (pE (eB dAdd (pE (eB dAdd (pE (eB dAdd (pE (eB dMul (pN 3) (pE (eC (.int 48271))))) (pE (eB dMul (pE (eB dAdd (pN 5) (pE (eC (.int 1))))) (pE (eC (.int 69621))))))) (pE (eB dMul (pN 1) (pE (eC (.int 7919))))))) (pE (eC (.int 1234577))))) aNil))) (pE (eC (.int 2147483647)))))
  (sSeq (sSet 7 (eB dMod (pE (eF (o1 dInt) (aCons (pE (eB dAdd (pE (eB dAdd (pE (eB dMul (pN 6) (pN 6))) (pE (eB dMul (pN 3) (pE (eC (.int 16807))))))) (pN 5))) aNil))) (pE (eC (.int 2147483629)))))
  (sSeq (sSet 8 (eB dMod (pE (eF (o1 dInt) (aCons (pE (eB dAdd (pE (eB dMul (pN 7) (pN 7))) (pN 6))) aNil))) (pE (eC (.int 2147483587)))))
  (sApp 4 (eB dMod (pE (eF (o1 dInt) (aCons (pE (eB dDiv (pN 8) (pE (eC (.int 17))))) aNil))) (pE (eC (.int 27720))))))))
def sg_law_pool_2 (fu : Nat) : SV := (sSeq (sOwn 4 (nLst lNil))
  (sSeq (sIf (tE (eB dGe (pN 3) (pE (eB dPow (pE (eC (.int 10))) (pE (eC (.int 18)))))))
    (sSeq (sSet 3 (eB dSub (pN 3) (pE (eB dPow (pE (eC (.int 10))) (pE (eC (.int 18)))))))
  (sSeq (sFor (gN 5) (iRg1 (pN 2)) (lb_law_pool_0 fu))
  (sRetX 4)))
    sNext)
  (sSeq (sFor (gN 5) (iRg1 (pN 2)) (lb_law_pool_1 fu))
  (sRetX 4))))
def sv_law_pool (fu : Nat) : SV := (sSeq (sSet 3 (eF (o1 dAbs) (aCons (pE (eCall (F_law_cell fu) [true, true] (aCons (pN 0) (aCons (pN 1) aNil)))) aNil)))
  (sg_law_pool_2 fu))
def F_law_pool (fu : Nat) : FV := runF [true, true, true] 6 (sv_law_pool fu)
def lb_law_word_0 (fu : Nat) : SV := (sSeq (sSet 4 (eB dAdd (pN 4) (pE (eB dIx (pE (eC (.str "abcdefghijklmnopqrstuvwxyz"))) (pE (eB dMod (pE (eF (o1 dInt) (aCons (pN 2) aNil))) (pE (eC (.int 26)))))))))
  (sSet 2 (eB dDiv (pN 2) (pE (eC (.int 26))))))
def sg_law_word_1 (fu : Nat) : SV := (sSeq (sSet 2 (eB dDiv (pN 2) (pE (eC (.int 8)))))
  (sSeq (sSet 4 (eC (.str "")))
  (sSeq (sFor (gN 5) (iRg1 (pN 3)) (lb_law_word_0 fu))
  (sRet (eN 4)))))
def sv_law_word (fu : Nat) : SV := (sSeq (sSet 2 (eB dAdd (pE (eB dMul (pE (eB dAdd (pE (eB dMul (pE (eB dIx (pN 0) (pN 1))) (pE (eC (.int 27720))))) (pE (eB dIx (pN 0) (pE (eB dAdd (pN 1) (pE (eC (.int 1))))))))) (pE (eC (.int 27720))))) (pE (eB dIx (pN 0) (pE (eB dAdd (pN 1) (pE (eC (.int 2)))))))))
  (sSeq (sSet 3 (eB dAdd (pE (eC (.int 1))) (pE (eB dMod (pE (eF (o1 dInt) (aCons (pN 2) aNil))) (pE (eC (.int 8)))))))
  (sg_law_word_1 fu)))
def F_law_word (fu : Nat) : FV := runF [true, true] 4 (sv_law_word fu)
def lb_law_new_0 (fu : Nat) : SV := (sSeq (sIf (tE (eB dNin (pN 1) (pN 0)))
    sBrk
    sNext)
  (sSet 1 (eB dAdd (pE (eSl dCut (pN 1) none (some (pE (eU dNeg (pE (eC (.int 1)))))))) (pE (eB dIx (pN 2) (pE (eB dMod (pE (eF (o1 dInt) (aCons (pE (eB dAdd (pE (eBMT (kindD "str") dSIdx (pN 2) (aCons (pE (eB dIx (pN 1) (pE (eU dNeg (pE (eC (.int 1))))))) aNil))) (pE (eC (.int 1))))) aNil))) (pE (eC (.int 26))))))))))
def sv_law_new (fu : Nat) : SV := (sSeq (sSet 2 (eC (.str "abcdefghijklmnopqrstuvwxyz")))
  (sSeq (sFor (gN 3) (iRg1 (pE (eC (.int 26)))) (lb_law_new_0 fu))
  (sRet (eN 1))))
def F_law_new (fu : Nat) : FV := runF [true, false] 2 (sv_law_new fu)
def lb_law_marks_0 (fu : Nat) : SV := (sSeq (sIf (tE (eB dEq (pE (eB dMod (pE (eF (o1 dInt) (aCons (pN 4) aNil))) (pE (eC (.int 2))))) (pE (eC (.int 1)))))
    (sApp 3 (eN 5))
    sNext)
  (sSet 4 (eB dDiv (pN 4) (pE (eC (.int 2))))))
def lb_law_marks_1 (fu : Nat) : SV := (sSeq (sSet 9 (eB dMod (pE (eF (o1 dInt) (aCons (pN 6) aNil))) (pE (eF (o1 dLen) (aCons (pN 3) aNil)))))
  (sSeq (sSet 6 (eB dDiv (pN 6) (pE (eF (o1 dLen) (aCons (pN 3) aNil)))))
  (sSeq (sApp 7 (eB dIx (pN 3) (pN 9)))
  (sOwn 3 (eB dCat (pE (eSl dCut (pN 3) none (some (pN 9)))) (pE (eSl dCut (pN 3) (some (pE (eB dAdd (pN 9) (pE (eC (.int 1)))))) none)))))))
def sg_law_marks_2 (fu : Nat) : SV := (sSeq (sSet 6 (eB dAdd (pE (eB dMul (pE (eB dIx (pN 1) (pE (eB dAdd (pN 2) (pE (eC (.int 1))))))) (pE (eC (.int 27720))))) (pE (eB dIx (pN 1) (pE (eB dAdd (pN 2) (pE (eC (.int 2)))))))))
  (sSeq (sOwn 7 (nLst lNil))
  (sSeq (sFor (gN 8) (iRg1 (pE (eF (o1 dLen) (aCons (pN 3) aNil)))) (lb_law_marks_1 fu))
  (sRetX 7))))
def sv_law_marks (fu : Nat) : SV := (sSeq (sOwn 3 (nLst lNil))
  (sSeq (sSet 4 (eF (o1 dInt) (aCons (pE (eB dIx (pN 1) (pN 2))) aNil)))
  (sSeq (sFor (gN 5) (iN 0) (lb_law_marks_0 fu))
  (sg_law_marks_2 fu))))
def F_law_marks (fu : Nat) : FV := runF [true, true, true] 7 (sv_law_marks fu)
def lb_law_drawn_0 (fu : Nat) : SV := (sApp 4 (eCall (F_law_new fu) [true, false] (aCons (pN 4) (aCons (pE (eCall (F_law_word fu) [true, true] (aCons (pN 1) (aCons (pE (eB dAdd (pE (eC (.int 1))) (pE (eB dMul (pE (eC (.int 3))) (pN 5))))) aNil)))) aNil))))
def el_law_drawn_1 (fu : Nat) : EV := (eCall (F_law_marks fu) [true, true, true] (aCons (pN 4) (aCons (pN 2) (aCons (pE (eB dMul (pE (eC (.int 3))) (pN 8))) aNil))))
def el_law_drawn_2 (fu : Nat) : EV := (eF (o1 dLst) (aCons (pE (eB dIx (pN 9) (pE (eB dMod (pE (eF (o1 dInt) (aCons (pN 5) aNil))) (pE (eF (o1 dLen) (aCons (pN 9) aNil))))))) aNil))
def sg_law_drawn_3 (fu : Nat) : SV := (sSeq (sIf (eAnd (tE (eB dGt (pN 3) (pE (eC (.int 0))))) (eAnd (tE (eB dEq (pE (eB dMod (pE (eF (o1 dInt) (aCons (pE (eB dIx (pN 1) (pE (eC (.int 37))))) aNil))) (pE (eC (.int 3))))) (pE (eC (.int 0))))) (tE (eB dNin (pN 6) (pN 4)))))
    (sPutI 4 (pE (eB dMod (pE (eF (o1 dInt) (aCons (pE (eB dIx (pN 1) (pE (eC (.int 39))))) aNil))) (pN 3))) (eN 6))
    sNext)
  (sSeq (sOwn 7 (eLc [8] (iRg1 (pE (eB dMod (pE (eF (o1 dInt) (aCons (pE (eB dIx (pN 1) (pE (eC (.int 40))))) aNil))) (pE (eC (.int 7)))))) (gN 8) tYs (el_law_drawn_1 fu)))
  (sSeq (sIf (tE (eB dEq (pE (eB dMod (pE (eF (o1 dInt) (aCons (pE (eB dIx (pN 1) (pE (eC (.int 41))))) aNil))) (pE (eC (.int 10))))) (pE (eC (.int 0)))))
    (sSeq (sSet 9 (eB dAdd (pN 7) (pE (nLst (lCons (eSl dCut (pN 4) none (some (pE (eC (.int 2))))) lNil)))))
  (sOwn 7 (eLc [5] (iRg1 (pE (eB dAdd (pE (eC (.int 46))) (pE (eB dMod (pE (eF (o1 dInt) (aCons (pE (eB dIx (pN 1) (pE (eC (.int 42))))) aNil))) (pE (eC (.int 3)))))))) (gN 5) tYs (el_law_drawn_2 fu))))
    sNext)
  (sRetO (nLst (lCons (eN 4) (lCons (eN 7) lNil)))))))
def sg_law_drawn_4 (fu : Nat) : SV := (sSeq (sSet 3 (eB dIx (pE (nLst (lCons (eC (.int 3)) (lCons (eC (.int 4)) (lCons (eC (.int 5)) (lCons (eC (.int 2)) (lCons (eC (.int 8)) (lCons (eC (.int 6)) (lCons (eC (.int 9)) (lCons (eC (.int 10)) (lCons (eC (.int 1)) (lCons (eC (.int 7)) (lCons (eC (.int 0)) (lCons (eC (.int 12)) (lCons (eC (.int 11)) lNil))))))))))))))) (pE (eB dMod (pE (eF (o1 dInt) (aCons (pE (eB dIx (pN 1) (pE (eC (.int 0))))) aNil))) (pE (eC (.int 13)))))))
  (sSeq (sOwn 4 (nLst lNil))
  (sSeq (sFor (gN 5) (iRg1 (pN 3)) (lb_law_drawn_0 fu))
  (sSeq (sSet 6 (eB dIx (pE (nLst (lCons (eC (.str "row")) (lCons (eC (.str "columns")) lNil)))) (pE (eB dMod (pE (eF (o1 dInt) (aCons (pE (eB dIx (pN 1) (pE (eC (.int 38))))) aNil))) (pE (eC (.int 2)))))))
  (sg_law_drawn_3 fu)))))
def sv_law_drawn (fu : Nat) : SV := (sSeq (sSet 1 (eCall (F_law_pool fu) [true, true, true] (aCons (pN 0) (aCons (pE (eC (.int 0))) (aCons (pE (eC (.int 60))) aNil)))))
  (sSeq (sSet 2 (eCall (F_law_pool fu) [true, true, true] (aCons (pN 0) (aCons (pE (eC (.int 1))) (aCons (pE (eC (.int 60))) aNil)))))
  (sg_law_drawn_4 fu)))
def F_law_drawn (fu : Nat) : FV := runF [true] 9 (sv_law_drawn fu)
def lb_law_written_0 (fu : Nat) : SV := (sApp 2 (eBMT (kindD "str") dJoin (pE (eC (.str " "))) (aCons (pE (eB dAdd (pE (nLst (lCons (eC (.str "row")) lNil))) (pN 3))) aNil)))
def sv_law_written (fu : Nat) : SV := (sSeq (sOwn 2 (nLst (lCons (eBMT (kindD "str") dJoin (pE (eC (.str " "))) (aCons (pE (eB dAdd (pE (nLst (lCons (eC (.str "columns")) lNil))) (pN 0))) aNil)) lNil)))
  (sSeq (sFor (gN 3) (iN 1) (lb_law_written_0 fu))
  (sRet (eBMT (kindD "str") dJoin (pE (eC (.str "\n"))) (aCons (pN 2) aNil)))))
def F_law_written (fu : Nat) : FV := runF [true, true] 2 (sv_law_written fu)
def sv_law_sign (fu : Nat) : SV := (sSeq (sSet 1 (eC (.str " !\"#$&'()*+,-./0123456789:;<=>?@ABCDEFGHIJKLMNOPQRSTUVWXYZ[\\]^_`abcdefghijklmnopqrstuvwxyz{|}~")))
  (sSeq (sIf (tE (eB dEq (pE (eB dMod (pE (eF (o1 dInt) (aCons (pN 0) aNil))) (pE (eC (.int 4))))) (pE (eC (.int 0)))))
    (sRet (eC (.str "\n")))
    sNext)
  (sSeq (sIf (tE (eB dEq (pE (eB dMod (pE (eF (o1 dInt) (aCons (pN 0) aNil))) (pE (eC (.int 4))))) (pE (eC (.int 1)))))
    (sRet (eC (.str " ")))
    sNext)
  (sRet (eB dIx (pN 1) (pE (eB dMod (pE (eF (o1 dInt) (aCons (pE (eB dDiv (pN 0) (pE (eC (.int 4))))) aNil))) (pE (eF (o1 dLen) (aCons (pN 1) aNil))))))))))
def F_law_sign (fu : Nat) : FV := runF [true] 1 (sv_law_sign fu)
def el_law_lines_edited_0 (fu : Nat) : EV := (eB dIx (pN 0) (pE (eU dNeg (pE (eC (.int 1))))))
def lb_law_lines_edited_1 (fu : Nat) : SV := (sIf (tE (eB dLt (pE (eF (o1 dLen) (aCons (pN 6) aNil))) (pE (eB dAdd (pE (eC (.int 12))) (pE (eB dMod (pE (eF (o1 dInt) (aCons (pE (eB dIx (pN 2) (pE (eB dAdd (pN 3) (pE (eC (.int 2))))))) aNil))) (pE (eC (.int 3)))))))))
    (sApp 6 (eCall (F_law_new fu) [true, false] (aCons (pN 6) (aCons (pE (eC (.str "q"))) aNil))))
    sNext)
def sg_law_lines_edited_2 (fu : Nat) : SV := (sSeq (sIf (tE (eB dEq (pN 1) (pE (eC (.int 7)))))
    (sRet (eB dAdd (pN 0) (pE (eLc [9] (iRg1 (pE (eB dSub (pE (eB dAdd (pE (eC (.int 48))) (pE (eB dMod (pE (eF (o1 dInt) (aCons (pE (eB dIx (pN 2) (pE (eB dAdd (pN 3) (pE (eC (.int 2))))))) aNil))) (pE (eC (.int 4))))))) (pE (eF (o1 dLen) (aCons (pN 0) aNil)))))) (gN 9) tYs (el_law_lines_edited_0 fu)))))
    sNext)
  (sSeq (sOwn 6 (eBMT (kindD "str") dSplit (pE (eB dIx (pN 0) (pE (eC (.int 0))))) (aCons (pE (eC (.str " "))) aNil)))
  (sSeq (sFor (gN 9) (iRg1 (pE (eC (.int 14)))) (lb_law_lines_edited_1 fu))
  (sRet (eB dAdd (pE (nLst (lCons (eBMT (kindD "str") dJoin (pE (eC (.str " "))) (aCons (pN 6) aNil)) lNil))) (pE (eSl dCut (pN 0) (some (pE (eC (.int 1)))) none)))))))
def sg_law_lines_edited_3 (fu : Nat) : SV := (sSeq (sIf (tE (eB dEq (pN 1) (pE (eC (.int 3)))))
    (sSeq (sSet 7 (eB dMod (pE (eF (o1 dInt) (aCons (pE (eB dIx (pN 2) (pE (eB dAdd (pN 3) (pE (eC (.int 3))))))) aNil))) (pE (eB dAdd (pE (eF (o1 dLen) (aCons (pN 6) aNil))) (pE (eC (.int 1)))))))
  (sSeq (sIns 6 (eN 7) (eB dIx (pN 6) (pE (eB dMod (pE (eF (o1 dInt) (aCons (pE (eB dIx (pN 2) (pE (eB dAdd (pN 3) (pE (eC (.int 2))))))) aNil))) (pE (eF (o1 dLen) (aCons (pN 6) aNil)))))))
  (sRet (eB dAdd (pE (eB dAdd (pE (eSl dCut (pN 0) none (some (pN 4)))) (pE (nLst (lCons (eBMT (kindD "str") dJoin (pE (eC (.str " "))) (aCons (pN 6) aNil)) lNil))))) (pE (eSl dCut (pN 0) (some (pE (eB dAdd (pN 4) (pE (eC (.int 1)))))) none))))))
    sNext)
  (sSeq (sIf (tE (eB dEq (pN 1) (pE (eC (.int 4)))))
    (sSeq (sSet 7 (eB dMod (pE (eF (o1 dInt) (aCons (pE (eB dIx (pN 2) (pE (eB dAdd (pN 3) (pE (eC (.int 2))))))) aNil))) (pE (eB dAdd (pE (eF (o1 dLen) (aCons (pN 0) aNil))) (pE (eC (.int 1)))))))
  (sRet (eB dAdd (pE (eB dAdd (pE (eSl dCut (pN 0) none (some (pN 7)))) (pE (nLst (lCons (eB dIx (pN 0) (pN 4)) lNil))))) (pE (eSl dCut (pN 0) (some (pN 7)) none)))))
    sNext)
  (sSeq (sIf (tE (eB dEq (pN 1) (pE (eC (.int 5)))))
    (sRet (eB dAdd (pE (eSl dCut (pN 0) none (some (pN 4)))) (pE (eSl dCut (pN 0) (some (pE (eB dAdd (pN 4) (pE (eC (.int 1)))))) none))))
    sNext)
  (sSeq (sIf (tE (eB dEq (pN 1) (pE (eC (.int 6)))))
    (sSeq (sOwn 8 (eF (o1 dLst) (aCons (pN 0) aNil)))
  (sSeq (sPutI 8 (pN 4) (eB dIx (pN 0) (pN 5)))
  (sSeq (sPutI 8 (pN 5) (eB dIx (pN 0) (pN 4)))
  (sRetX 8))))
    sNext)
  (sg_law_lines_edited_2 fu)))))
def sv_law_lines_edited (fu : Nat) : SV := (sSeq (sSet 4 (eB dMod (pE (eF (o1 dInt) (aCons (pE (eB dIx (pN 2) (pE (eB dAdd (pN 3) (pE (eC (.int 1))))))) aNil))) (pE (eF (o1 dLen) (aCons (pN 0) aNil)))))
  (sSeq (sSet 5 (eB dMod (pE (eF (o1 dInt) (aCons (pE (eB dIx (pN 2) (pE (eB dAdd (pN 3) (pE (eC (.int 2))))))) aNil))) (pE (eF (o1 dLen) (aCons (pN 0) aNil)))))
  (sSeq (sOwn 6 (eBMT (kindD "str") dSplit (pE (eB dIx (pN 0) (pN 4))) (aCons (pE (eC (.str " "))) aNil)))
  (sg_law_lines_edited_3 fu))))
def F_law_lines_edited (fu : Nat) : FV := runF [true, true, true, true] 6 (sv_law_lines_edited fu)
def sg_law_edited_0 (fu : Nat) : SV := (sSeq (sSet 4 (eB dMod (pE (eF (o1 dInt) (aCons (pE (eB dIx (pN 1) (pE (eB dAdd (pN 2) (pE (eC (.int 1))))))) aNil))) (pE (eB dAdd (pE (eF (o1 dLen) (aCons (pN 0) aNil))) (pE (eC (.int 1)))))))
  (sSeq (sIf (tE (eB dEq (pN 3) (pE (eC (.int 0)))))
    (sRet (eB dAdd (pE (eB dAdd (pE (eSl dCut (pN 0) none (some (pN 4)))) (pE (eCall (F_law_sign fu) [true] (aCons (pE (eB dIx (pN 1) (pE (eB dAdd (pN 2) (pE (eC (.int 2))))))) aNil))))) (pE (eSl dCut (pN 0) (some (pN 4)) none))))
    sNext)
  (sSeq (sIf (tE (eB dEq (pN 3) (pE (eC (.int 1)))))
    (sRet (eB dAdd (pE (eSl dCut (pN 0) none (some (pN 4)))) (pE (eSl dCut (pN 0) (some (pE (eB dAdd (pN 4) (pE (eC (.int 1)))))) none))))
    sNext)
  (sRet (eB dAdd (pE (eB dAdd (pE (eSl dCut (pN 0) none (some (pN 4)))) (pE (eCall (F_law_sign fu) [true] (aCons (pE (eB dIx (pN 1) (pE (eB dAdd (pN 2) (pE (eC (.int 2))))))) aNil))))) (pE (eSl dCut (pN 0) (some (pE (eB dAdd (pN 4) (pE (eC (.int 1)))))) none)))))))
def sv_law_edited (fu : Nat) : SV := (sSeq (sSet 3 (eB dMod (pE (eF (o1 dInt) (aCons (pE (eB dIx (pN 1) (pN 2))) aNil))) (pE (eC (.int 9)))))
  (sSeq (sIf (tE (eB dGt (pN 3) (pE (eC (.int 2)))))
    (sRet (eBMT (kindD "str") dJoin (pE (eC (.str "\n"))) (aCons (pE (eCall (F_law_lines_edited fu) [true, true, true, true] (aCons (pE (eBMT (kindD "str") dSplit (pN 0) (aCons (pE (eC (.str "\n"))) aNil))) (aCons (pN 3) (aCons (pN 1) (aCons (pN 2) aNil)))))) aNil)))
    sNext)
  (sg_law_edited_0 fu)))
def F_law_edited (fu : Nat) : FV := runF [true, true, true] 2 (sv_law_edited fu)
def lb_law_different_0 (fu : Nat) : SV := (sIf (eOr (tE (eB dGt (pE (eBMT (kindD "list") dLCount (pN 0) (aCons (pN 2) aNil))) (pE (eC (.int 1))))) (tE (eB dNin (pN 2) (pN 1))))
    (sRet (eC (.bl false)))
    sNext)
def sv_law_different (fu : Nat) : SV := (sSeq (sFor (gN 2) (iN 0) (lb_law_different_0 fu))
  (sRet (eC (.bl true))))
def F_law_different (fu : Nat) : FV := runF [true, true] 1 (sv_law_different fu)
def el_law_described_0 (fu : Nat) : EV := (eN 4)
def et_law_described_1 (fu : Nat) : TV := (eAnd (tE (eB dEq (pE (eBMT (kindD "str") dStrip (pN 4) (aCons (pE (eC (.str "abcdefghijklmnopqrstuvwxyz"))) aNil))) (pE (eC (.str ""))))) (tE (eChain dLt dLt (pE (eC (.int 0))) (pE (eF (o1 dLen) (aCons (pN 4) aNil))) (pE (eC (.int 9))))))
def lb_law_described_2 (fu : Nat) : SV := (sSeq (sSet 7 (eBMT (kindD "str") dSplit (pE (eB dIx (pN 1) (pN 6))) (aCons (pE (eC (.str " "))) aNil)))
  (sSeq (sIf (eOr (tE (eB dGt (pN 6) (pE (eC (.int 48))))) (eOr (tE (eB dNe (pE (eB dIx (pN 7) (pE (eC (.int 0))))) (pE (eC (.str "row"))))) (eNot (tE (eCall (F_law_different fu) [true, true] (aCons (pE (eSl dCut (pN 7) (some (pE (eC (.int 1)))) none)) (aCons (pN 2) aNil)))))))
    (sRetO (nLst (lCons (eN 6) (lCons (nLst lNil) (lCons (nLst lNil) lNil)))))
    sNext)
  (sApp 5 (eSl dCut (pN 7) (some (pE (eC (.int 1)))) none))))
def sg_law_described_3 (fu : Nat) : SV := (sSeq (sIf (eOr (tE (eB dNe (pE (eB dIx (pE (eBMT (kindD "str") dSplit (pE (eB dIx (pN 1) (pE (eC (.int 0))))) (aCons (pE (eC (.str " "))) aNil))) (pE (eC (.int 0))))) (pE (eC (.str "columns"))))) (eOr (tE (eB dGt (pE (eF (o1 dLen) (aCons (pN 2) aNil))) (pE (eC (.int 12))))) (eNot (tE (eCall (F_law_different fu) [true, true] (aCons (pN 2) (aCons (pN 3) aNil)))))))
    (sRetO (nLst (lCons (eC (.int 0)) (lCons (nLst lNil) (lCons (nLst lNil) lNil)))))
    sNext)
  (sSeq (sOwn 5 (nLst lNil))
  (sSeq (sFor (gN 6) (iRg2 (pE (eC (.int 1))) (pE (eF (o1 dLen) (aCons (pN 1) aNil)))) (lb_law_described_2 fu))
  (sRetO (nLst (lCons (eC .non) (lCons (eN 2) (lCons (eN 5) lNil))))))))
def sv_law_described (fu : Nat) : SV := (sSeq (sSet 1 (eBMT (kindD "str") dSplit (pN 0) (aCons (pE (eC (.str "\n"))) aNil)))
  (sSeq (sSet 2 (eSl dCut (pE (eBMT (kindD "str") dSplit (pE (eB dIx (pN 1) (pE (eC (.int 0))))) (aCons (pE (eC (.str " "))) aNil))) (some (pE (eC (.int 1)))) none))
  (sSeq (sOwn 3 (eLc [4] (iN 2) (gN 4) (et_law_described_1 fu) (el_law_described_0 fu)))
  (sg_law_described_3 fu))))
def F_law_described (fu : Nat) : FV := runF [true] 7 (sv_law_described fu)
def el_law_is_0 (fu : Nat) : EV := (eN 4)
def et_law_is_1 (fu : Nat) : TV := (tE (eB dIn (pN 4) (pE (eB dIx (pN 2) (pN 3)))))
def lb_law_is_2 (fu : Nat) : SV := (sIf (tE (eB dNe (pE (eB dIx (pE (eFld 0 3 (eN 0))) (pN 3))) (pE (eF (o1 dTup) (aCons (pE (eLc [4] (iN 1) (gN 4) (et_law_is_1 fu) (el_law_is_0 fu))) aNil)))))
    (sRet (eC (.bl false)))
    sNext)
def sv_law_is (fu : Nat) : SV := (sSeq (sIf (eOr (eNot (tE (eU (fun d => (isB2 (tbl [(0, true)]) d).map .bl) (pN 0)))) (eOr (eNot (tE (eU (fun d => (isT2 .tTuple d).map .bl) (pE (eFld 0 2 (eN 0)))))) (eNot (tE (eU (fun d => (isT2 .tTuple d).map .bl) (pE (eFld 0 3 (eN 0))))))))
    (sRet (eC (.bl false)))
    sNext)
  (sSeq (sIf (eOr (tE (eB dNe (pE (eF (o1 dLst) (aCons (pE (eFld 0 2 (eN 0))) aNil))) (pN 1))) (tE (eB dNe (pE (eF (o1 dLen) (aCons (pE (eFld 0 3 (eN 0))) aNil))) (pE (eF (o1 dLen) (aCons (pN 2) aNil))))))
    (sRet (eC (.bl false)))
    sNext)
  (sSeq (sFor (gN 3) (iRg1 (pE (eF (o1 dLen) (aCons (pN 2) aNil)))) (lb_law_is_2 fu))
  (sRet (eB dIsB (pE (eOwn2 0 (F_TableD_eqD fu) (eN 0) (eCall (mkF 0 (F_TableD_initD fu)) [true, true] (aCons (pN 1) (aCons (pN 2) aNil))))) (pE (eC (.bl true))))))))
def F_law_is (fu : Nat) : FV := runF [true, true, true] 2 (sv_law_is fu)
def sg_law_answers_0 (fu : Nat) : SV := (sSeq (sTry 5 (tbl [(2, true)])
    (sSet 2 (eCall (F_read_table fu) [true] (aCons (pN 0) aNil)))
    (sSeq (sSet 3 (eXf [2] 5 4))
  (sSet 4 (nLst (lCons (eIsED 5 (tbl [(2, true)])) (lCons (eIsED 5 (tbl [(2, true)])) (lCons (eIsED 5 (tbl [(2, false)])) (lCons (eIsED 5 (tbl [(2, false)])) lNil))))))))
  (sSeq (sIf (tE (eB dIsN (pE (eB dIx (pN 1) (pE (eC (.int 0))))) (pE (eC .non))))
    (sRet (eCall (F_law_is fu) [true, true, true] (aCons (pN 2) (aCons (pE (eB dIx (pN 1) (pE (eC (.int 1))))) (aCons (pE (eB dIx (pN 1) (pE (eC (.int 2))))) aNil)))))
    sNext)
  (sSeq (sIf (eOr (tE (eB dNotN (pN 2) (pE (eC .non)))) (tE (eB dNe (pN 4) (pE (nLst (lCons (eC (.bl true)) (lCons (eC (.bl true)) (lCons (eC (.bl false)) (lCons (eC (.bl false)) lNil)))))))))
    (sRet (eC (.bl false)))
    sNext)
  (sRet (eAndV (eU (fun d => (isT2 .tInt d).map .bl) (pN 3)) (eAndV (eNotV (eU (fun d => (isT2 .tBool d).map .bl) (pN 3))) (eB dEq (pN 3) (pE (eB dIx (pN 1) (pE (eC (.int 0))))))))))))
def sv_law_answers (fu : Nat) : SV := (sSeq (sSet 1 (eCall (F_law_described fu) [true] (aCons (pN 0) aNil)))
  (sSeq (sSet 2 (eC .non))
  (sSeq (sSet 3 (eC .non))
  (sSeq (sSet 4 (nLst lNil))
  (sg_law_answers_0 fu)))))
def F_law_answers (fu : Nat) : FV := runF [true] 5 (sv_law_answers fu)
def sv_law_reads (fu : Nat) : SV := (sRet (eCall (F_law_is fu) [true, true, true] (aCons (pE (eCall (F_read_table fu) [true] (aCons (pN 0) aNil))) (aCons (pN 1) (aCons (pN 2) aNil)))))
def F_law_reads (fu : Nat) : FV := runF [true, true, true] 0 (sv_law_reads fu)
def el_law_0 (fu : Nat) : EV := (eF (o1 dLst) (aCons (pN 6) aNil))
def el_law_1 (fu : Nat) : EV := (eN 8)
def et_law_2 (fu : Nat) : TV := (tE (eB dIn (pN 8) (pN 6)))
def el_law_3 (fu : Nat) : EV := (eLc [8] (iN 2) (gN 8) (et_law_2 fu) (el_law_1 fu))
def lb_law_4 (fu : Nat) : SV := (sIf (eNot (tE (eCall (F_law_answers fu) [true] (aCons (pN 12) aNil))))
    (sRet (eC (.bl false)))
    sNext)
def sg_law_5 (fu : Nat) : SV := (sSeq (sIf (eOr (eNot (tE (eCall (F_law_answers fu) [true] (aCons (pE (eCall (F_law_edited fu) [true, true, true] (aCons (pN 7) (aCons (pN 4) (aCons (pE (eC (.int 8))) aNil))))) aNil)))) (eNot (tE (eCall (F_law_answers fu) [true] (aCons (pE (eCall (F_law_edited fu) [true, true, true] (aCons (pN 10) (aCons (pN 4) (aCons (pE (eC (.int 12))) aNil))))) aNil)))))
    (sRet (eC (.bl false)))
    sNext)
  (sRet (eAndV (eCall (F_law_reads fu) [true, true, true] (aCons (pN 7) (aCons (pN 2) (aCons (pN 3) aNil)))) (eAndV (eB dEq (pE (eCall (F_table_text fu) [true] (aCons (pN 5) aNil))) (pN 7)) (eCall (F_law_is fu) [true, true, true] (aCons (pN 5) (aCons (pN 2) (aCons (pN 3) aNil))))))))
def sg_law_6 (fu : Nat) : SV := (sSeq (sIf (eOr (eNot (tE (eCall (F_law_answers fu) [true] (aCons (pN 11) aNil)))) (eNot (tE (eCall (F_law_answers fu) [true] (aCons (pE (eCall (F_law_edited fu) [true, true, true] (aCons (pN 11) (aCons (pN 4) (aCons (pE (eC (.int 4))) aNil))))) aNil)))))
    (sRet (eC (.bl false)))
    sNext)
  (sSeq (sFor (gN 12) (iSeq (nLst (lCons (eC (.str "")) (lCons (eB dAdd (pN 7) (pE (eC (.str "\n")))) (lCons (eB dAdd (pN 7) (pE (eC (.str " ")))) (lCons (eB dAdd (pE (eC (.str "\n"))) (pN 7)) (lCons (eB dAdd (pE (eC (.str " "))) (pN 7)) lNil))))))) (lb_law_4 fu))
  (sg_law_5 fu)))
def sg_law_7 (fu : Nat) : SV := (sSeq (sIf (eOr (eNot (tE (eCall (F_law_reads fu) [true, true, true] (aCons (pN 7) (aCons (pN 2) (aCons (pN 3) aNil)))))) (eNot (tE (eCall (F_law_reads fu) [true, true, true] (aCons (pN 10) (aCons (pN 2) (aCons (pN 3) aNil)))))))
    (sRet (eC (.bl false)))
    sNext)
  (sSeq (sSet 11 (eCall (F_law_edited fu) [true, true, true] (aCons (pN 10) (aCons (pN 4) (aCons (pE (eC (.int 0))) aNil)))))
  (sg_law_6 fu)))
def sg_law_8 (fu : Nat) : SV := (sSeq (sIf (eOr (eNot (tE (eU (fun d => (isT2 .tStr d).map .bl) (pN 9)))) (tE (eB dNe (pN 9) (pN 7))))
    (sRet (eC (.bl false)))
    sNext)
  (sSeq (sSet 10 (eCall (F_law_written fu) [true, true] (aCons (pN 2) (aCons (pN 3) aNil))))
  (sg_law_7 fu)))
def sg_law_9 (fu : Nat) : SV := (sSeq (sSet 7 (eCall (F_law_written fu) [true, true] (aCons (pN 2) (aCons (pE (eLc [6] (iN 3) (gN 6) tYs (el_law_3 fu))) aNil))))
  (sSeq (sSet 9 (eCall (F_table_text fu) [true] (aCons (pN 5) aNil)))
  (sg_law_8 fu)))
def sg_law_10 (fu : Nat) : SV := (sSeq (sSet 4 (eCall (F_law_pool fu) [true, true, true] (aCons (pN 0) (aCons (pE (eC (.int 2))) (aCons (pE (eC (.int 60))) aNil)))))
  (sSeq (sSet 5 (eCall (mkF 0 (F_TableD_initD fu)) [true, true] (aCons (pE (eF (o1 dLst) (aCons (pN 2) aNil))) (aCons (pE (eLc [6] (iN 3) (gN 6) tYs (el_law_0 fu))) aNil))))
  (sg_law_9 fu)))
def sg_law_11 (fu : Nat) : SV := (sSeq (sSet 2 (eB dIx (pN 1) (pE (eC (.int 0)))))
  (sSeq (sSet 3 (eB dIx (pN 1) (pE (eC (.int 1)))))
  (sg_law_10 fu)))
def sv_law (fu : Nat) : SV := (sSeq (sSet 1 (eCall (F_law_drawn fu) [true] (aCons (pN 0) aNil)))
  (sg_law_11 fu))
def F_law (fu : Nat) : FV := runF [true] 12 (sv_law fu)
end K04

set_option autoImplicit true
set_option Elab.async false
set_option linter.all false
set_option maxRecDepth 100000
set_option exponentiation.threshold 10000
set_option maxHeartbeats 4000000
namespace K04
open PySem Ed
local macro_rules | `(tactic| simp? only [$hs,*]) => `(tactic| simp (implicitDefEqProofs := false) only [kR_s, eC_ap, eN_ap, kN_s, pN_ap, kP_s, kpE_ok, kpE_ex, pE_ap, kU2_s, kU_ok, kU_ex, eU_ap, kB3_s, kB2_ok, kB2_ex, kB1_ok, kB1_ex, eB_ap, kF2_s, kF_ok, kF_ex, eF_ap, aNil_ap, lNil_ap, kA2_ok, kA2_ex, kA1_ok, kA1_ex, aCons_ap, kL2_ok, kL2_ex, kL1_ok, kL1_ex, lCons_ap, kSz_t, kTp_ok, kTp_ex, kLs_ok, kLs_ex, eTup_ap, nLst_ap, kIf_t, kIf_f, kIf_ex, tC_ap, eAnd_ap, eOr_ap, eNot_ap, eIf_ap, sIf_ap, kE2_b, kE_ok, kE_ex, tE_ap, kT3_s, kT2_s, kT_ok, kT_ex, tTru_ap, tru_int, tru_bl, tru_lst, tru_tup, tru_non, tYs_ap, eCB_ap, eAndV_ap, eOrV_ap, eNotV_ap, kCh4_s, kCh3_ok, kCh3_ex, kCh2_t, kCh2_f, kCh1_s, kCh0_ok, kCh0_ex, kCh_ok, kCh_ex, eChain_ap, callF_ap, kCp_s, kC_ok, kC_ex, kCd_ok, kCd_ex, kFr2_r, kFr_ok, kFr_ex, kC1_ok, kC1_ex, eCall_ap, kC2_ok, kC2_ex, nCall_ap, dfz, dfr, prep0, pK_s, prep_d, prep_t, pKt_s, prep_f, pKf_s, mkF_ap, kMk_ok, kMk_ex, kFl_ok, kFl_ex, eFld_ap, fld_s, kO2_s, kO1_ok, kO1_ex, kO0_ok, kO0_ex, eOwn2_ap, kOC3_s, kOC2_ok, kOC2_ex, kOC1_s, kOC0_ok, kOC0_ex, eOwnC_ap, kM2_ok, kM2_ex, kM1_s, kM0_ok, kM0_ex, eMeth_ap, eJs_nil, kJz_t, kJ2_s, kJ_ok, kJ_ex, eJs_cons, kSl4_s, kSl3_s, kSl2_s, kSl1_s, eSl_ap, oP_n, kOp2_s, kOp_s, oP_s, kLc2_s, kLc1_t, kLc_ok, eLc_ap, kIs2_s, kIs_ok, iSeq_ap, it_l, it_t, kIn_s, iN_ap, kRg_ok, iRg1_ap, kRh2_ok, kRh1_ok, iRg2_ap, sNext_ap, sBrk_ap, sCnt_ap, sRetN_ap, kS_nx, kS_rt, kS_bk, kS_ct, kS_ex, sSeq_ap, kSet_ok, kSet_ex, sSet_ap, kOwn_ok, kOwn_ex, sOwn_ap, kDrp_ok, kDrp_ex, sDrop_ap, kRet_ok, kRet_ex, sRet_ap, kReO_ok, kReO_ex, sRetO_ap, sRetX_ap, kRx_o, kRx_v, kAp3_t, kAp2_o, kAp1_ok, kAp0_s, sApp_ap, kPi4_s, kPi3_s, kPi2_ok, kPi1_s, kPi0_ok, sPutI_ap, kPr2_ok, kPr1_ok, sPar_ap, kAs2_s, kAs_ok, sAsg_ap, gN_ap, gT_t, gT_l, gs_nil, kGs_s, gs_cons, kFor_ok, sFor_ap, sWhl_ap, kFd_ok, sFld_ap, kRs_ok, sRaise_ap, kSu_ok, kTr3_t, kTr2_t, kTr2_f, kTr_ok, kTr_ex, sTry_ap, kIE2_s, kIE_s, eIsE_ap, kXf_s, eXf_ap, fin_nx, fin_rt, fin_ex, finI_ex, kFi_s, finI_nx, app_nil, app_cons, ins0_nil, ins0_cons, inSl_f, inSl_l, inSl_i, inSl_b, inSl_s, inSl_n, inSl_t, inSl_c, inSl_o, pad_0, pad_1, get_0, get_1, put_0, put_1, look_v, look_o, look_b, frz_v, frz_o, stay_v, stay_o, stay_b, rd_d, rd_n, rds_nil, kRd_s, rds_cons, wipe_nil, wipe_cons, rest_nil, rest_cons, all_nil, all_cons, stb_e, stb_v, stb_b, noX_nil, noX_e, noX_v, noX_o, noX_b, true_and', tbl_ap, putFd_nil, putFd_cons, dAdd_i, dSub_i, dNeg_i, dLt_i, dLe_i, dGt_i, dGe_i, dEq_i, dNe_i, dEq_b, dNe_b, dEq_s, dNe_s, o1_ap, dAbs_i, dInt_i, dInt_b, dBool_i, dLen_l, dLen_t, dLen_c, dIx_l, dIx_t, dIx_c, at_0, at_1, at_2, at_3, isT_ii, isT_bi, isT_bb, isT_ss, isT_ll, isT_tt, isB2_i, map_s, dRev_l, dTup_l, dTup_t, dLst_l, dLst_t, dCut_l, dCutL_l, dGcd_i, isB_b, isS_s, mul_r, mul_l, dDiv_r, dMod_i, kGb_s, kGe_s,   decide_true, decide_false, Bool.not_true, Bool.not_false, Bool.and_true, Bool.and_false, Bool.false_and, if_true, if_false, ite_true, ite_false, Bool.false_eq_true, List.lookup_cons, List.lookup_nil, List.length_cons, List.length_nil, Nat.reduceBEq, Nat.reduceLT, Nat.reduceLeDiff, Nat.zero_le, seqMax, List.length_map, Nat.reduceAdd, Nat.reduceEqDiff, Nat.reducePow, Int.reduceNe, Int.reduceEq, Int.reduceLT, Int.reduceLE, Int.reduceBEq, Int.reduceNeg, Int.natAbs_neg, ne_eq, not_true, not_false_eq_true, and_self, true_and, and_true, beq_self_eq_true, turn_ap, kTn1_s, kTn2_t, kTn2_f, kTn2_p, kTn2_n, kTn3_ok, dIn_sl, dIn_st, dNin_sl, dNin_st, dIn_il, dNin_il, kSg2_s, kSg_ok, iSgn_ap, kED_s, eIsED_ap, kX2_s, kX1_ok, kX1_ex, kX0_ok, kX0_ex, eOwnX_ap, kBT4_s, kBT3_ok, kBT3_ex, kBT1_ok, kBT1_ex, eBMT_ap, dIsN_n, dIsN_l, dIsN_t, dIsN_i, dIsN_s, dNotN_n, dNotN_l, dNotN_t, dNotN_i, dNotN_s, dBAnd_i, dBOr_i, dMin2_i, dMax2_i, dCut_t, dCut_c, dCut_l2, Int.cast_ofNat_Int, at_4, at_5, at_6, at_7, at_8, at_9, at_10, at_11, at_12, at_13, $hs,*])
theorem rng_len {lo : Int} {n : Nat} : (rngL lo n).length = n := by unfold rngL; simp
theorem cell_ok (fu : Nat) (ns : List Int) {k : Int} (h : 0 ≤ k) : F_law_cell fu [.scr ns, .int k] = .ok (.fz (.int (ns.getD k.toNat 0))) := by
  unfold F_law_cell sv_law_cell
  rw [runF_ap rfl]
  by_cases h2 : k < ns.length
  · simp? only [h2, at_getD (d := 0) h h2]
  · simp? only [h2]
    rw [List.getD_eq_getElem?_getD, List.getElem?_eq_none (by omega)]; rfl
theorem rng_get {lo : Int} {n i : Nat} {d : D} (h : (rngL lo n)[i]? = some d) : d = .int (lo + i) ∧ i < n := by
  unfold rngL at h
  rw [List.getElem?_map] at h
  by_cases hi : i < n
  · rw [List.getElem?_range hi] at h; cases h; exact ⟨rfl, hi⟩
  · rw [List.getElem?_eq_none (by simpa using hi)] at h; cases h
def PoolI (ns : List Int) (k n : Int) (i : Nat) (Γ : Ed.Env) : Prop := ∃ (v : Int) (xs : List Int) (j5 j6 j7 j8 : Sl), Γ = [.val (.scr ns), .val (.int k), .val (.int n), .val (.int v), .own (.lst (xs.map D.int)), j5, j6, j7, j8] ∧ xs.length = i ∧ ∀ x ∈ xs, 0 ≤ x ∧ x < 27720
theorem app_int (xs : List Int) (x : Int) : xs.map D.int ++ [D.int x] = (xs ++ [x]).map D.int := by simp
theorem mem_app {xs : List Int} {x : Int} (hb : ∀ x ∈ xs, 0 ≤ x ∧ x < 27720) (hx : 0 ≤ x ∧ x < 27720) : ∀ y ∈ xs ++ [x], 0 ≤ y ∧ y < 27720 := fun y hy => by
  rcases List.mem_append.mp hy with h | h
  · exact hb y h
  · rw [List.mem_singleton.mp h]; exact hx
theorem pool_step0 {ns : List Int} {k n : Int} {i : Nat} {Γ : Ed.Env} {d : D} (fu : Nat) (hn : n < 10000) (hd : (rngL 0 n.toNat)[i]? = some d) (h : PoolI ns k n i Γ) : ∃ Γ2, kGb (lb_law_pool_0 fu) (gN 5 d Γ) = .ok (.nx, Γ2) ∧ PoolI ns k n (i + 1) Γ2 := by
  obtain ⟨v, xs, j5, j6, j7, j8, rfl, hl, hb⟩ := h
  obtain ⟨rfl, hi⟩ := rng_get hd
  have hz : xs.length < 16777216 := by omega
  unfold lb_law_pool_0
  refine' ⟨_, ?_, ?_⟩
  rotate_left
  · simp? only [hz, app_int]
    rfl
  · exact ⟨_, _, _, _, _, _, rfl, by simp [hl], mem_app hb (fm_lt _ (by decide))⟩
theorem fmA (a : Int) : (-18446744073709551616 < a.fmod 2147483647) = True := by have := fm_lt a (m := 2147483647) (by decide); simp; omega
theorem fmB (a : Int) : (a.fmod 2147483647 < 18446744073709551616) = True := by have := fm_lt a (m := 2147483647) (by decide); simp; omega
theorem fmC (a : Int) : (-18446744073709551616 < a.fmod 2147483629) = True := by have := fm_lt a (m := 2147483629) (by decide); simp; omega
theorem fmD (a : Int) : (a.fmod 2147483629 < 18446744073709551616) = True := by have := fm_lt a (m := 2147483629) (by decide); simp; omega
theorem pool_step1 {ns : List Int} {k n : Int} {i : Nat} {Γ : Ed.Env} {d : D} (fu : Nat) (hn : n < 10000) (hd : (rngL 0 n.toNat)[i]? = some d) (h : PoolI ns k n i Γ) : ∃ Γ2, kGb (lb_law_pool_1 fu) (gN 5 d Γ) = .ok (.nx, Γ2) ∧ PoolI ns k n (i + 1) Γ2 := by
  obtain ⟨v, xs, j5, j6, j7, j8, rfl, hl, hb⟩ := h
  obtain ⟨rfl, hi⟩ := rng_get hd
  have hz : xs.length < 16777216 := by omega
  unfold lb_law_pool_1
  refine' ⟨_, ?_, ?_⟩
  rotate_left
  · simp? only [hz, app_int, fmA, fmB, fmC, fmD]
    rfl
  · exact ⟨_, _, _, _, _, _, rfl, by simp [hl], mem_app hb (fm_lt _ (by decide))⟩
theorem pow18 : dPow (.int 10) (.int 18) = some (.int 1000000000000000000) := rfl
theorem pool_ok (fu : Nat) (ns : List Int) {k n : Int} (hk : 0 ≤ k) (hn : 0 ≤ n) (hn2 : n < 10000) : ∃ xs : List Int, F_law_pool fu [.scr ns, .int k, .int n] = .ok (.fr (.lst (xs.map D.int))) ∧ xs.length = n.toNat ∧ ∀ x ∈ xs, 0 ≤ x ∧ x < 27720 := by
  unfold F_law_pool sv_law_pool sg_law_pool_2
  rw [runF_ap rfl]
  generalize hv : (if ns.getD k.toNat 0 < 0 then -(ns.getD k.toNat 0) else ns.getD k.toNat 0) = v
  have h0 : PoolI ns k n 0 [.val (.scr ns), .val (.int k), .val (.int n), .val (.int v), .own (.lst []), .emp, .emp, .emp, .emp] := ⟨_, [], _, _, _, _, rfl, rfl, fun x hx => by cases hx⟩
  have h1 : PoolI ns k n 0 [.val (.scr ns), .val (.int k), .val (.int n), .val (.int (v - 1000000000000000000)), .own (.lst []), .emp, .emp, .emp, .emp] := ⟨_, [], _, _, _, _, rfl, rfl, fun x hx => by cases hx⟩
  obtain ⟨Γa, ea, xs, _, _, _, _, _, rfl, hl, hb⟩ := forL_run (g := gN 5) (s := lb_law_pool_1 fu) (ds := rngL 0 n.toNat) h0 fun i Γ d => pool_step1 fu hn2
  obtain ⟨Γb, eb, ys, _, _, _, _, _, rfl, hl2, hb2⟩ := forL_run (g := gN 5) (s := lb_law_pool_0 fu) (ds := rngL 0 n.toNat) h1 fun i Γ d => pool_step0 fu hn2
  rw [rng_len] at hl hl2
  by_cases hc : 1000000000000000000 ≤ v
  · refine' ⟨_, ?_, hl2, hb2⟩
    simp? only [cell_ok fu ns hk, hv, pow18, hc, kRg2_s (rngB_of (n := n) (by omega) (by omega)), eb]
  · refine' ⟨_, ?_, hl, hb⟩
    simp? only [cell_ok fu ns hk, hv, pow18, hc, kRg2_s (rngB_of (n := n) (by omega) (by omega)), ea]
end K04

set_option autoImplicit true
set_option Elab.async false
set_option linter.all false
set_option maxRecDepth 100000
set_option exponentiation.threshold 10000
set_option maxHeartbeats 4000000
namespace K04
open PySem Ed
local macro_rules | `(tactic| simp? only [$hs,*]) => `(tactic| simp (implicitDefEqProofs := false) only [kR_s, eC_ap, eN_ap, kN_s, pN_ap, kP_s, kpE_ok, kpE_ex, pE_ap, kU2_s, kU_ok, kU_ex, eU_ap, kB3_s, kB2_ok, kB2_ex, kB1_ok, kB1_ex, eB_ap, kF2_s, kF_ok, kF_ex, eF_ap, aNil_ap, lNil_ap, kA2_ok, kA2_ex, kA1_ok, kA1_ex, aCons_ap, kL2_ok, kL2_ex, kL1_ok, kL1_ex, lCons_ap, kSz_t, kTp_ok, kTp_ex, kLs_ok, kLs_ex, eTup_ap, nLst_ap, kIf_t, kIf_f, kIf_ex, tC_ap, eAnd_ap, eOr_ap, eNot_ap, eIf_ap, sIf_ap, kE2_b, kE_ok, kE_ex, tE_ap, kT3_s, kT2_s, kT_ok, kT_ex, tTru_ap, tru_int, tru_bl, tru_lst, tru_tup, tru_non, tYs_ap, eCB_ap, eAndV_ap, eOrV_ap, eNotV_ap, kCh4_s, kCh3_ok, kCh3_ex, kCh2_t, kCh2_f, kCh1_s, kCh0_ok, kCh0_ex, kCh_ok, kCh_ex, eChain_ap, callF_ap, kCp_s, kC_ok, kC_ex, kCd_ok, kCd_ex, kFr2_r, kFr_ok, kFr_ex, kC1_ok, kC1_ex, eCall_ap, kC2_ok, kC2_ex, nCall_ap, dfz, dfr, prep0, pK_s, prep_d, prep_t, pKt_s, prep_f, pKf_s, mkF_ap, kMk_ok, kMk_ex, kFl_ok, kFl_ex, eFld_ap, fld_s, kO2_s, kO1_ok, kO1_ex, kO0_ok, kO0_ex, eOwn2_ap, kOC3_s, kOC2_ok, kOC2_ex, kOC1_s, kOC0_ok, kOC0_ex, eOwnC_ap, kM2_ok, kM2_ex, kM1_s, kM0_ok, kM0_ex, eMeth_ap, eJs_nil, kJz_t, kJ2_s, kJ_ok, kJ_ex, eJs_cons, kSl4_s, kSl3_s, kSl2_s, kSl1_s, eSl_ap, oP_n, kOp2_s, kOp_s, oP_s, kLc2_s, kLc1_t, kLc_ok, eLc_ap, kIs2_s, kIs_ok, iSeq_ap, it_l, it_t, kIn_s, iN_ap, kRg_ok, iRg1_ap, kRh2_ok, kRh1_ok, iRg2_ap, sNext_ap, sBrk_ap, sCnt_ap, sRetN_ap, kS_nx, kS_rt, kS_bk, kS_ct, kS_ex, sSeq_ap, kSet_ok, kSet_ex, sSet_ap, kOwn_ok, kOwn_ex, sOwn_ap, kDrp_ok, kDrp_ex, sDrop_ap, kRet_ok, kRet_ex, sRet_ap, kReO_ok, kReO_ex, sRetO_ap, sRetX_ap, kRx_o, kRx_v, kAp3_t, kAp2_o, kAp1_ok, kAp0_s, sApp_ap, kPi4_s, kPi3_s, kPi2_ok, kPi1_s, kPi0_ok, sPutI_ap, kPr2_ok, kPr1_ok, sPar_ap, kAs2_s, kAs_ok, sAsg_ap, gN_ap, gT_t, gT_l, gs_nil, kGs_s, gs_cons, kFor_ok, sFor_ap, sWhl_ap, kFd_ok, sFld_ap, kRs_ok, sRaise_ap, kSu_ok, kTr3_t, kTr2_t, kTr2_f, kTr_ok, kTr_ex, sTry_ap, kIE2_s, kIE_s, eIsE_ap, kXf_s, eXf_ap, fin_nx, fin_rt, fin_ex, finI_ex, kFi_s, finI_nx, app_nil, app_cons, ins0_nil, ins0_cons, inSl_f, inSl_l, inSl_i, inSl_b, inSl_s, inSl_n, inSl_t, inSl_c, inSl_o, pad_0, pad_1, get_0, get_1, put_0, put_1, look_v, look_o, look_b, frz_v, frz_o, stay_v, stay_o, stay_b, rd_d, rd_n, rds_nil, kRd_s, rds_cons, wipe_nil, wipe_cons, rest_nil, rest_cons, all_nil, all_cons, stb_e, stb_v, stb_b, noX_nil, noX_e, noX_v, noX_o, noX_b, true_and', tbl_ap, putFd_nil, putFd_cons, dAdd_i, dSub_i, dNeg_i, dLt_i, dLe_i, dGt_i, dGe_i, dEq_i, dNe_i, dEq_b, dNe_b, dEq_s, dNe_s, o1_ap, dAbs_i, dInt_i, dInt_b, dBool_i, dLen_l, dLen_t, dLen_c, dIx_l, dIx_t, dIx_c, at_0, at_1, at_2, at_3, isT_ii, isT_bi, isT_bb, isT_ss, isT_ll, isT_tt, isB2_i, map_s, dRev_l, dTup_l, dTup_t, dLst_l, dLst_t, dCut_l, dCutL_l, dGcd_i, isB_b, isS_s, mul_r, mul_l, dDiv_r, dMod_i, kGb_s, kGe_s,   decide_true, decide_false, Bool.not_true, Bool.not_false, Bool.and_true, Bool.and_false, Bool.false_and, if_true, if_false, ite_true, ite_false, Bool.false_eq_true, List.lookup_cons, List.lookup_nil, List.length_cons, List.length_nil, Nat.reduceBEq, Nat.reduceLT, Nat.reduceLeDiff, Nat.zero_le, seqMax, List.length_map, Nat.reduceAdd, Nat.reduceEqDiff, Nat.reducePow, Int.reduceNe, Int.reduceEq, Int.reduceLT, Int.reduceLE, Int.reduceBEq, Int.reduceNeg, Int.natAbs_neg, ne_eq, not_true, not_false_eq_true, and_self, true_and, and_true, beq_self_eq_true, turn_ap, kTn1_s, kTn2_t, kTn2_f, kTn2_p, kTn2_n, kTn3_ok, dIn_sl, dIn_st, dNin_sl, dNin_st, dIn_il, dNin_il, kSg2_s, kSg_ok, iSgn_ap, kED_s, eIsED_ap, kX2_s, kX1_ok, kX1_ex, kX0_ok, kX0_ex, eOwnX_ap, kBT4_s, kBT3_ok, kBT3_ex, kBT1_ok, kBT1_ex, eBMT_ap, dIsN_n, dIsN_l, dIsN_t, dIsN_i, dIsN_s, dNotN_n, dNotN_l, dNotN_t, dNotN_i, dNotN_s, dBAnd_i, dBOr_i, dMin2_i, dMax2_i, dCut_t, dCut_c, dCut_l2, Int.cast_ofNat_Int, at_4, at_5, at_6, at_7, at_8, at_9, at_10, at_11, at_12, at_13, $hs,*])
/-! texts, names, rows (no def of the law in sight) -/
def nameOk (s : Str) : Prop := 1 ≤ s.length ∧ s.length ≤ 8 ∧ ∀ c ∈ s.cps.toList, 97 ≤ c ∧ c ≤ 122
instance (s : Str) : Decidable (nameOk s) := by unfold nameOk; infer_instance
def NameL (m : Nat) (ns : List Str) : Prop := ns.Nodup ∧ ∀ s ∈ ns, nameOk s ∧ s.length ≤ m
theorem nameOk.ok {s : Str} (h : nameOk s) : okS s := by
  unfold okS
  rw [← Array.all_toList, List.all_eq_true]
  intro c hc
  have := h.2.2 c hc
  simp; omega
theorem dIx_S {z : Str} {i : Int} (h : 0 ≤ i) (h2 : i < z.length) (h3 : z.length ≤ 16777216) : dIx (.str z) (.int i) = some (.str ⟨#[z.cps.toList.getD i.toNat 0]⟩) := by
  have hl : z.cps.toList.length = z.length := by simp [Str.length]
  show (if z.length ≤ seqMax then (at1 z.cps.toList i).map fun c => D.str ⟨#[c]⟩ else none) = _
  rw [if_pos (show z.length ≤ seqMax from h3), at_getD (d := 0) h (by rw [hl]; exact h2)]; rfl
theorem dAdd_S {a b : Str} (h : a.length + b.length ≤ 16777216) : dAdd (.str a) (.str b) = some (.str (a ++ b)) := if_pos h
theorem app_cps (a b : Str) : (a ++ b).cps.toList = a.cps.toList ++ b.cps.toList := by
  show (a.cps ++ b.cps).toList = _
  simp
theorem app_len (a b : Str) : (a ++ b).length = a.length + b.length := by
  show (a.cps ++ b.cps).size = _
  simp [Str.length]
theorem dCut_s {ds : List D} {lo hi : Option Int} : dCut (.lst ds) lo hi = some (.lst (cut ds lo hi)) := rfl
theorem pick_perm {α : Type} {l : List α} {p : Nat} {x : α} (h : l[p]? = some x) : (x :: (l.take p ++ l.drop (p + 1))).Perm l := by
  have e : l = l.take p ++ x :: l.drop (p + 1) := by
    have h1 := List.take_append_drop p l
    have h2 : l.drop p = x :: l.drop (p + 1) := by
      obtain ⟨hp, rfl⟩ := List.getElem?_eq_some_iff.mp h
      exact List.drop_eq_getElem_cons hp
    rw [h2] at h1; exact h1.symm
  have := (List.perm_middle (a := x) (l₁ := l.take p) (l₂ := l.drop (p + 1))).symm
  rw [← e] at this
  exact this
def RowOk (ns r : List Str) : Prop := r.Nodup ∧ ∀ x ∈ r, x ∈ ns
theorem RowOk.le {ns r : List Str} (h : RowOk ns r) : r.length ≤ ns.length := nodup_le h.1 h.2
theorem RowOk.turned {ns r : List Str} (h : RowOk ns r) (c : Nat) : RowOk ns (r.drop c ++ r.take c) := by
  have p : (r.drop c ++ r.take c).Perm r := by
    refine List.perm_append_comm.trans ?_
    rw [List.take_append_drop]
  exact ⟨p.nodup_iff.mpr h.1, fun s hs => h.2 s (p.mem_iff.mp hs)⟩
theorem RowOk.sub {ns r q : List Str} (h : RowOk ns r) (s : q.Sublist r) : RowOk ns q := ⟨h.1.sublist s, fun x hx => h.2 x (s.mem hx)⟩
theorem mem_app1 {α : Type} {P : α → Prop} {xs : List α} {x : α} (h : ∀ y ∈ xs, P y) (hx : P x) : ∀ y ∈ xs ++ [x], P y := fun y hy => by
  rcases List.mem_append.mp hy with h' | h'
  · exact h y h'
  · rw [List.mem_singleton.mp h']; exact hx
/-- the columns that a row has, in order -/
def srt (ns r : List Str) : List Str := ns.filter fun x => decide (x ∈ r)
theorem nin_take {α : Type} {l : List α} (hn : l.Nodup) {i : Nat} (hi : i < l.length) : l[i] ∉ l.take i := fun hm => by
  obtain ⟨j, hj, e⟩ := List.mem_iff_getElem.mp hm
  rw [List.getElem_take] at e
  rw [List.length_take] at hj
  have := (List.pairwise_iff_getElem.mp hn) j i (by omega) hi (by omega)
  exact this e
theorem str_ext {a b : Str} (h : a.cps.toList = b.cps.toList) : a = b := by
  cases a; cases b
  congr 1
  exact Array.toList_inj.mp h
theorem dIx_last {z : Str} {l : List Nat} {c : Nat} (h : z.cps.toList = l ++ [c]) (h3 : z.length ≤ 16777216) : dIx (.str z) (.int (-1)) = some (.str ⟨#[c]⟩) := by
  have hl : z.cps.toList.length = z.length := by simp [Str.length]
  show (if z.length ≤ seqMax then (at1 z.cps.toList (-1)).map fun c => D.str ⟨#[c]⟩ else none) = _
  rw [if_pos (show z.length ≤ seqMax from h3), h]
  unfold at1 ixN
  rw [if_neg (by decide), List.length_append]
  simp only [List.length_cons, List.length_nil]
  rw [if_pos (by omega)]
  show (Option.map _ (l ++ [c])[_]?) = _
  rw [show (((l.length + (0 + 1) : Nat) : Int) + (-1 : Int)).toNat = l.length by omega]
  simp
theorem dCut_init {z : Str} {l : List Nat} {c : Nat} (h : z.cps.toList = l ++ [c]) (h3 : z.length ≤ 16777216) : dCut (.str z) none (some (-1)) = some (.str ⟨l.toArray⟩) := by
  show (if z.length ≤ seqMax then some (D.str ⟨(cut z.cps.toList none (some (-1))).toArray⟩) else none) = _
  rw [if_pos (show z.length ≤ seqMax from h3), h]
  unfold cut slI
  simp only [List.length_append, List.length_cons, List.length_nil, List.drop_zero]
  rw [if_pos (by decide), show ((-1 : Int) + ((l.length + (0 + 1) : Nat) : Int)).toNat - 0 = l.length by omega]
  simp
end K04

set_option autoImplicit true
set_option Elab.async false
set_option linter.all false
set_option maxRecDepth 100000
set_option exponentiation.threshold 10000
set_option maxHeartbeats 4000000
namespace K04
open PySem Ed
local macro_rules | `(tactic| simp? only [$hs,*]) => `(tactic| simp (implicitDefEqProofs := false) only [kR_s, eC_ap, eN_ap, kN_s, pN_ap, kP_s, kpE_ok, kpE_ex, pE_ap, kU2_s, kU_ok, kU_ex, eU_ap, kB3_s, kB2_ok, kB2_ex, kB1_ok, kB1_ex, eB_ap, kF2_s, kF_ok, kF_ex, eF_ap, aNil_ap, lNil_ap, kA2_ok, kA2_ex, kA1_ok, kA1_ex, aCons_ap, kL2_ok, kL2_ex, kL1_ok, kL1_ex, lCons_ap, kSz_t, kTp_ok, kTp_ex, kLs_ok, kLs_ex, eTup_ap, nLst_ap, kIf_t, kIf_f, kIf_ex, tC_ap, eAnd_ap, eOr_ap, eNot_ap, eIf_ap, sIf_ap, kE2_b, kE_ok, kE_ex, tE_ap, kT3_s, kT2_s, kT_ok, kT_ex, tTru_ap, tru_int, tru_bl, tru_lst, tru_tup, tru_non, tYs_ap, eCB_ap, eAndV_ap, eOrV_ap, eNotV_ap, kCh4_s, kCh3_ok, kCh3_ex, kCh2_t, kCh2_f, kCh1_s, kCh0_ok, kCh0_ex, kCh_ok, kCh_ex, eChain_ap, callF_ap, kCp_s, kC_ok, kC_ex, kCd_ok, kCd_ex, kFr2_r, kFr_ok, kFr_ex, kC1_ok, kC1_ex, eCall_ap, kC2_ok, kC2_ex, nCall_ap, dfz, dfr, prep0, pK_s, prep_d, prep_t, pKt_s, prep_f, pKf_s, mkF_ap, kMk_ok, kMk_ex, kFl_ok, kFl_ex, eFld_ap, fld_s, kO2_s, kO1_ok, kO1_ex, kO0_ok, kO0_ex, eOwn2_ap, kOC3_s, kOC2_ok, kOC2_ex, kOC1_s, kOC0_ok, kOC0_ex, eOwnC_ap, kM2_ok, kM2_ex, kM1_s, kM0_ok, kM0_ex, eMeth_ap, eJs_nil, kJz_t, kJ2_s, kJ_ok, kJ_ex, eJs_cons, kSl4_s, kSl3_s, kSl2_s, kSl1_s, eSl_ap, oP_n, kOp2_s, kOp_s, oP_s, kLc2_s, kLc1_t, kLc_ok, eLc_ap, kIs2_s, kIs_ok, iSeq_ap, it_l, it_t, kIn_s, iN_ap, kRg_ok, iRg1_ap, kRh2_ok, kRh1_ok, iRg2_ap, sNext_ap, sBrk_ap, sCnt_ap, sRetN_ap, kS_nx, kS_rt, kS_bk, kS_ct, kS_ex, sSeq_ap, kSet_ok, kSet_ex, sSet_ap, kOwn_ok, kOwn_ex, sOwn_ap, kDrp_ok, kDrp_ex, sDrop_ap, kRet_ok, kRet_ex, sRet_ap, kReO_ok, kReO_ex, sRetO_ap, sRetX_ap, kRx_o, kRx_v, kAp3_t, kAp2_o, kAp1_ok, kAp0_s, sApp_ap, kPi4_s, kPi3_s, kPi2_ok, kPi1_s, kPi0_ok, sPutI_ap, kPr2_ok, kPr1_ok, sPar_ap, kAs2_s, kAs_ok, sAsg_ap, gN_ap, gT_t, gT_l, gs_nil, kGs_s, gs_cons, kFor_ok, sFor_ap, sWhl_ap, kFd_ok, sFld_ap, kRs_ok, sRaise_ap, kSu_ok, kTr3_t, kTr2_t, kTr2_f, kTr_ok, kTr_ex, sTry_ap, kIE2_s, kIE_s, eIsE_ap, kXf_s, eXf_ap, fin_nx, fin_rt, fin_ex, finI_ex, kFi_s, finI_nx, app_nil, app_cons, ins0_nil, ins0_cons, inSl_f, inSl_l, inSl_i, inSl_b, inSl_s, inSl_n, inSl_t, inSl_c, inSl_o, pad_0, pad_1, get_0, get_1, put_0, put_1, look_v, look_o, look_b, frz_v, frz_o, stay_v, stay_o, stay_b, rd_d, rd_n, rds_nil, kRd_s, rds_cons, wipe_nil, wipe_cons, rest_nil, rest_cons, all_nil, all_cons, stb_e, stb_v, stb_b, noX_nil, noX_e, noX_v, noX_o, noX_b, true_and', tbl_ap, putFd_nil, putFd_cons, dAdd_i, dSub_i, dNeg_i, dLt_i, dLe_i, dGt_i, dGe_i, dEq_i, dNe_i, dEq_b, dNe_b, dEq_s, dNe_s, o1_ap, dAbs_i, dInt_i, dInt_b, dBool_i, dLen_l, dLen_t, dLen_c, dIx_l, dIx_t, dIx_c, at_0, at_1, at_2, at_3, isT_ii, isT_bi, isT_bb, isT_ss, isT_ll, isT_tt, isB2_i, map_s, dRev_l, dTup_l, dTup_t, dLst_l, dLst_t, dCut_l, dCutL_l, dGcd_i, isB_b, isS_s, mul_r, mul_l, dDiv_r, dMod_i, kGb_s, kGe_s,   decide_true, decide_false, Bool.not_true, Bool.not_false, Bool.and_true, Bool.and_false, Bool.false_and, if_true, if_false, ite_true, ite_false, Bool.false_eq_true, List.lookup_cons, List.lookup_nil, List.length_cons, List.length_nil, Nat.reduceBEq, Nat.reduceLT, Nat.reduceLeDiff, Nat.zero_le, seqMax, List.length_map, Nat.reduceAdd, Nat.reduceEqDiff, Nat.reducePow, Int.reduceNe, Int.reduceEq, Int.reduceLT, Int.reduceLE, Int.reduceBEq, Int.reduceNeg, Int.natAbs_neg, ne_eq, not_true, not_false_eq_true, and_self, true_and, and_true, beq_self_eq_true, turn_ap, kTn1_s, kTn2_t, kTn2_f, kTn2_p, kTn2_n, kTn3_ok, dIn_sl, dIn_st, dNin_sl, dNin_st, dIn_il, dNin_il, kSg2_s, kSg_ok, iSgn_ap, kED_s, eIsED_ap, kX2_s, kX1_ok, kX1_ex, kX0_ok, kX0_ex, eOwnX_ap, kBT4_s, kBT3_ok, kBT3_ex, kBT1_ok, kBT1_ex, eBMT_ap, dIsN_n, dIsN_l, dIsN_t, dIsN_i, dIsN_s, dNotN_n, dNotN_l, dNotN_t, dNotN_i, dNotN_s, dBAnd_i, dBOr_i, dMin2_i, dMax2_i, dCut_t, dCut_c, dCut_l2, Int.cast_ofNat_Int, at_4, at_5, at_6, at_7, at_8, at_9, at_10, at_11, at_12, at_13, $hs,*])
theorem ltr_in : ∀ c : Nat, decide (c ∈ ("abcdefghijklmnopqrstuvwxyz" : Str).cps.toList) = decide (97 ≤ c ∧ c ≤ 122) := by
  have e : ("abcdefghijklmnopqrstuvwxyz" : Str).cps.toList = [97, 98, 99, 100, 101, 102, 103, 104, 105, 106, 107, 108, 109, 110, 111, 112, 113, 114, 115, 116, 117, 118, 119, 120, 121, 122] := by decide +kernel
  intro c
  rw [e]
  congr 1
  simp only [List.mem_cons, List.not_mem_nil, or_false, eq_iff_iff]
  omega
theorem dIn_ltr {c : Nat} : dIn (.str ⟨#[c]⟩) (.str "abcdefghijklmnopqrstuvwxyz") = some (.bl (decide (97 ≤ c ∧ c ≤ 122))) := by
  rw [← ltr_in]; rfl
theorem boolsL_map (f : Nat → Bool) : ∀ xs : List Nat, boolsL (xs.map fun c => D.bl (f c)) = some (xs.map f)
  | [] => rfl
  | x :: xs => by rw [List.map_cons, boolsL, boolsL_map f xs]; rfl
theorem is_name_ok (fu : Nat) {s : Str} (hs : s.length ≤ 16777216) : F_is_name fu [.str s] = .ok (.fz (.bl (decide (nameOk s)))) := by
  have hl : s.cps.toList.length = s.length := by simp [Str.length]
  have e := lcL_a (g := gN 1) (t := tYs) (e := el_is_name_0 fu) (vs := [1]) (Γ0 := [.val (.str s), .emp]) (fun c => D.str ⟨#[c]⟩) (fun c => D.bl (decide (97 ≤ c ∧ c ≤ 122))) s.cps.toList (fun x hx => by
    unfold el_is_name_0
    simp? only [dIn_ltr]) (n := 0) (by show 0 + _ ≤ 16777216; omega)
  have e2 : dAll (.lst (s.cps.toList.map fun c => D.bl (decide (97 ≤ c ∧ c ≤ 122)))) = some (.bl (decide (∀ c ∈ s.cps.toList, 97 ≤ c ∧ c ≤ 122))) := by
    show (boolsL _).map _ = _
    rw [boolsL_map]
    show some (D.bl _) = _
    congr 2
    rw [List.all_map]
    by_cases h : ∀ c ∈ s.cps.toList, 97 ≤ c ∧ c ≤ 122
    · rw [decide_eq_true h, List.all_eq_true]
      intro c hc
      simpa using h c hc
    · rw [decide_eq_false h]
      rw [Bool.eq_false_iff]
      intro h2
      rw [List.all_eq_true] at h2
      exact h fun c hc => by simpa using h2 c hc
  have dl : dLen (.str s) = some (.int s.length) := if_pos hs
  unfold F_is_name sv_is_name
  by_cases h1 : (1 : Int) ≤ s.length
  · by_cases h2 : (s.length : Int) ≤ 8
    · have hd : decide (nameOk s) = decide (∀ c ∈ s.cps.toList, 97 ≤ c ∧ c ≤ 122) := by
        congr 1
        unfold nameOk
        rw [eq_iff_iff]
        exact ⟨fun h => h.2.2, fun h => ⟨by omega, by omega, h⟩⟩
      rw [hd]
      rw [runF_ap rfl]
      apply fin_of
      try simp only [app_nil, app_cons, ins0_nil, ins0_cons, inSl_f, inSl_l, inSl_i, inSl_b, inSl_s, inSl_n, inSl_t, inSl_c, inSl_o, pad_0, pad_1]
      · apply seq_nx
        · simp? only [dl, h1, h2]
          rfl
        simp? only [sgn, e, e2]
        rfl
      · rfl
    · have hd : decide (nameOk s) = false := decide_eq_false fun h => by have := h.2.1; omega
      rw [hd]
      rw [runF_ap rfl]
      apply fin_of
      try simp only [app_nil, app_cons, ins0_nil, ins0_cons, inSl_f, inSl_l, inSl_i, inSl_b, inSl_s, inSl_n, inSl_t, inSl_c, inSl_o, pad_0, pad_1]
      · apply seq_rt
        · simp? only [dl, h1, h2]
          rfl
        rfl
      · rfl
  · have hd : decide (nameOk s) = false := decide_eq_false fun h => by have := h.1; omega
    rw [hd]
    rw [runF_ap rfl]
    apply fin_of
    try simp only [app_nil, app_cons, ins0_nil, ins0_cons, inSl_f, inSl_l, inSl_i, inSl_b, inSl_s, inSl_n, inSl_t, inSl_c, inSl_o, pad_0, pad_1]
    · apply seq_rt
      · simp? only [dl, h1]
        rfl
      rfl
    · rfl
/-- the columns are names, all different -/
theorem misnamed_ok (fu : Nat) {cs : List Str} (h : ∀ s ∈ cs, nameOk s) (hn : cs.Nodup) (hl : cs.length ≤ 1000) : F_first_misnamed fu [sL cs] = .ok (.fz (.int (-1))) := by
  have h00 : ∃ j, [Sl.bor (sL cs), .emp] = [Sl.bor (sL cs), j] := ⟨_, rfl⟩
  obtain ⟨Γ', e, j, rfl⟩ := forL_rm (g := gN 1) (s := lb_first_misnamed_0 fu) (lo := 0) (m := cs.length) (P := fun i Γ => ∃ j, Γ = [Sl.bor (sL cs), j]) h00 fun i Γ hi ⟨j, hΓ⟩ => by
    subst hΓ
    have zi : (0 : Int) + (i : Int) = i := by omega
    have gx : cs[i]? = some cs[i] := by simp
    have a := at_mapn (f := D.str) gx
    have hno := h _ (List.getElem_mem hi)
    have nm := is_name_ok fu (s := cs[i]) (by have := hno.2.1; omega)
    rw [decide_eq_true hno] at nm
    have c := cut_to (l := cs.map D.str) (k := (i : Int)) (by omega)
    have ni : cs[i] ∉ cs.take i := fun hm => by
      obtain ⟨j, hj, e⟩ := List.mem_iff_getElem.mp hm
      rw [List.getElem_take] at e
      rw [List.length_take] at hj
      have := (List.pairwise_iff_getElem.mp hn) j i (by omega) hi (by omega)
      exact this e
    have c2 : cut (cs.map D.str) none (some (i : Int)) = (cs.take i).map D.str := by rw [c, List.map_take]; rfl
    refine ⟨[Sl.bor (sL cs), .val (.int i)], ?_, _, rfl⟩
    unfold lb_first_misnamed_0
    apply gb_of
    · rfl
    try simp only [put_0, put_1]
    simp? only [zi, a, nm, c2, dCut_l2, ni]
  have tn : ((cs.length : Int)).toNat = cs.length := by omega
  unfold F_first_misnamed sv_first_misnamed
  rw [runF_ap rfl]
  apply fin_of
  try simp only [app_nil, app_cons, ins0_nil, ins0_cons, inSl_f, inSl_l, inSl_i, inSl_b, inSl_s, inSl_n, inSl_t, inSl_c, inSl_o, pad_0, pad_1]
  · apply seq_nx
    · simp? only [kRg2_s (rngB_of (n := (cs.length : Int)) (by omega) (by omega)), tn, e]
      rfl
    simp? only []
    rfl
  · rfl
theorem is_row_ok (fu : Nat) {cs r : List Str} (h : RowOk cs r) (hl : r.length ≤ 1000) : F_is_row fu [sL cs, sL r] = .ok (.fz (.bl true)) := by
  have h00 : ∃ j, [Sl.bor (sL cs), .bor (sL r), .emp] = [Sl.bor (sL cs), .bor (sL r), j] := ⟨_, rfl⟩
  obtain ⟨Γ', e, j, rfl⟩ := forL_rm (g := gN 2) (s := lb_is_row_0 fu) (lo := 0) (m := r.length) (P := fun i Γ => ∃ j, Γ = [Sl.bor (sL cs), .bor (sL r), j]) h00 fun i Γ hi ⟨j, hΓ⟩ => by
    subst hΓ
    have zi : (0 : Int) + (i : Int) = i := by omega
    have gx : r[i]? = some r[i] := by simp
    have a := at_mapn (f := D.str) gx
    have hm := h.2 _ (List.getElem_mem hi)
    have ni := nin_take h.1 hi
    have c2 : cut (r.map D.str) none (some (i : Int)) = (r.take i).map D.str := by rw [cut_to (by omega), List.map_take]; rfl
    refine ⟨[Sl.bor (sL cs), .bor (sL r), .val (.int i)], ?_, _, rfl⟩
    unfold lb_is_row_0
    apply gb_of
    · rfl
    try simp only [put_0, put_1]
    simp? only [zi, a, hm, c2, ni]
  have tn : ((r.length : Int)).toNat = r.length := by omega
  unfold F_is_row sv_is_row
  rw [runF_ap rfl]
  apply fin_of
  try simp only [app_nil, app_cons, ins0_nil, ins0_cons, inSl_f, inSl_l, inSl_i, inSl_b, inSl_s, inSl_n, inSl_t, inSl_c, inSl_o, pad_0, pad_1]
  · apply seq_nx
    · simp? only [kRg2_s (rngB_of (n := (r.length : Int)) (by omega) (by omega)), tn, e]
      rfl
    simp? only []
    rfl
  · rfl
theorem common_ok (fu : Nat) {ns r : List Str} (hl : ns.length ≤ 1000) : F_common_names fu [sL ns, sL r] = .ok (.fr (sL (srt ns r))) := by
  have e := lcL_if (g := gN 2) (t := et_common_names_1 fu) (e := el_common_names_0 fu) (vs := [2]) (Γ0 := [.bor (sL ns), .bor (sL r), .emp]) D.str (fun x => x ∈ r) D.str ns (fun x hx => by
    unfold et_common_names_1 el_common_names_0
    simp? only []) (n := 0) (by show 0 + ns.length ≤ 16777216; omega)
  unfold F_common_names sv_common_names
  rw [runF_ap rfl]
  apply fin_of
  try simp only [app_nil, app_cons, ins0_nil, ins0_cons, inSl_f, inSl_l, inSl_i, inSl_b, inSl_s, inSl_n, inSl_t, inSl_c, inSl_o, pad_0, pad_1]
  · simp? only [e]
    rfl
  · rfl
/-- a table: its columns, its rows in order -/
def tb (cs : List Str) (rows : List (List Str)) : D := .ins 0 [(2, sT cs), (3, .tup (rows.map fun r => sT (srt cs r)))]
theorem table_init (fu : Nat) {cs : List Str} {rows : List (List Str)} (h : ∀ s ∈ cs, nameOk s) (hn : cs.Nodup) (hl : cs.length ≤ 12) (hr : ∀ r ∈ rows, RowOk cs r) (hrl : rows.length ≤ 48) :
    F_TableD_initD fu [sL cs, sLL rows] = .ok [(2, sT cs), (3, .tup (rows.map fun r => sT (srt cs r)))] := by
  have nm := misnamed_ok fu h hn (by omega)
  have n1 : ¬ (12 : Int) < cs.length := by omega
  have n2 : ¬ (48 : Int) < rows.length := by omega
  have h00 : ∃ j, [Sl.slf 0 [], .bor (sL cs), .bor (sLL rows), .val (.int (-1)), .emp, .emp] = [Sl.slf 0 [], .bor (sL cs), .bor (sLL rows), .val (.int (-1)), j, .emp] := ⟨_, rfl⟩
  obtain ⟨Γ', e, j, rfl⟩ := forL_rm (g := gN 4) (s := lb_TableD_initD_0 fu) (lo := 0) (m := rows.length) (P := fun i Γ => ∃ j, Γ = [Sl.slf 0 [], .bor (sL cs), .bor (sLL rows), .val (.int (-1)), j, .emp]) h00 fun i Γ hi ⟨j, hΓ⟩ => by
    subst hΓ
    have zi : (0 : Int) + (i : Int) = i := by omega
    have gx : rows[i]? = some rows[i] := by simp
    have a := at_mapn (f := sL) gx
    have hro := hr _ (List.getElem_mem hi)
    have ir := is_row_ok fu hro (by have := hro.le; omega)
    refine ⟨[Sl.slf 0 [], .bor (sL cs), .bor (sLL rows), .val (.int (-1)), .val (.int i), .emp], ?_, _, rfl⟩
    unfold lb_TableD_initD_0
    apply gb_of
    · rfl
    try simp only [put_0, put_1]
    simp? only [zi, a, ir]
  have e2 : ∀ j, lcL (gN 5) tYs (el_TableD_initD_1 fu) [5] (rows.map sL) [Sl.slf 0 [(2, sT cs)], .bor (sL cs), .bor (sLL rows), .val (.int (-1)), j, .emp] 0 = some (rows.map fun r => sT (srt cs r), [Sl.slf 0 [(2, sT cs)], .bor (sL cs), .bor (sLL rows), .val (.int (-1)), j, .emp]) := fun j =>
    lcL_a (f := sL) (u := fun r => sT (srt cs r)) rows (fun r hr' => by
      unfold el_TableD_initD_1
      simp? only [common_ok fu (ns := cs) (r := r) (by omega)]) (n := 0) (by show 0 + rows.length ≤ 16777216; omega)
  have tn : ((rows.length : Int)).toNat = rows.length := by omega
  unfold F_TableD_initD sv_TableD_initD sg_TableD_initD_2
  rw [runI_ap rfl]
  apply fini_of
  try simp only [app_nil, app_cons, ins0_nil, ins0_cons, inSl_f, inSl_l, inSl_i, inSl_b, inSl_s, inSl_n, inSl_t, inSl_c, inSl_o, pad_0, pad_1]
  · apply seq_nx
    · simp? only [n1]
      rfl
    apply seq_nx
    · simp? only [nm]
      rfl
    apply seq_nx
    · simp? only []
      rfl
    apply seq_nx
    · simp? only [n2]
      rfl
    apply seq_nx
    · simp? only [kRg2_s (rngB_of (n := (rows.length : Int)) (by omega) (by omega)), tn, e]
      rfl
    apply seq_nx
    · simp? only []
      rfl
    simp? only [e2]
    rfl
  · rfl
theorem table_len (fu : Nat) {cs : List Str} {rows : List (List Str)} : F_TableD_lenD fu [tb cs rows] = .ok (.fz (.int rows.length)) := by
  unfold F_TableD_lenD sv_TableD_lenD tb
  rw [runF_ap rfl]
  apply fin_of
  try simp only [app_nil, app_cons, ins0_nil, ins0_cons, inSl_f, inSl_l, inSl_i, inSl_b, inSl_s, inSl_n, inSl_t, inSl_c, inSl_o, pad_0, pad_1]
  · simp? only []
    rfl
  · rfl
end K04

set_option autoImplicit true
set_option Elab.async false
set_option linter.all false
set_option maxRecDepth 100000
set_option exponentiation.threshold 10000
set_option maxHeartbeats 4000000
namespace K04
open PySem Ed
local macro_rules | `(tactic| simp? only [$hs,*]) => `(tactic| simp (implicitDefEqProofs := false) only [kR_s, eC_ap, eN_ap, kN_s, pN_ap, kP_s, kpE_ok, kpE_ex, pE_ap, kU2_s, kU_ok, kU_ex, eU_ap, kB3_s, kB2_ok, kB2_ex, kB1_ok, kB1_ex, eB_ap, kF2_s, kF_ok, kF_ex, eF_ap, aNil_ap, lNil_ap, kA2_ok, kA2_ex, kA1_ok, kA1_ex, aCons_ap, kL2_ok, kL2_ex, kL1_ok, kL1_ex, lCons_ap, kSz_t, kTp_ok, kTp_ex, kLs_ok, kLs_ex, eTup_ap, nLst_ap, kIf_t, kIf_f, kIf_ex, tC_ap, eAnd_ap, eOr_ap, eNot_ap, eIf_ap, sIf_ap, kE2_b, kE_ok, kE_ex, tE_ap, kT3_s, kT2_s, kT_ok, kT_ex, tTru_ap, tru_int, tru_bl, tru_lst, tru_tup, tru_non, tYs_ap, eCB_ap, eAndV_ap, eOrV_ap, eNotV_ap, kCh4_s, kCh3_ok, kCh3_ex, kCh2_t, kCh2_f, kCh1_s, kCh0_ok, kCh0_ex, kCh_ok, kCh_ex, eChain_ap, callF_ap, kCp_s, kC_ok, kC_ex, kCd_ok, kCd_ex, kFr2_r, kFr_ok, kFr_ex, kC1_ok, kC1_ex, eCall_ap, kC2_ok, kC2_ex, nCall_ap, dfz, dfr, prep0, pK_s, prep_d, prep_t, pKt_s, prep_f, pKf_s, mkF_ap, kMk_ok, kMk_ex, kFl_ok, kFl_ex, eFld_ap, fld_s, kO2_s, kO1_ok, kO1_ex, kO0_ok, kO0_ex, eOwn2_ap, kOC3_s, kOC2_ok, kOC2_ex, kOC1_s, kOC0_ok, kOC0_ex, eOwnC_ap, kM2_ok, kM2_ex, kM1_s, kM0_ok, kM0_ex, eMeth_ap, eJs_nil, kJz_t, kJ2_s, kJ_ok, kJ_ex, eJs_cons, kSl4_s, kSl3_s, kSl2_s, kSl1_s, eSl_ap, oP_n, kOp2_s, kOp_s, oP_s, kLc2_s, kLc1_t, kLc_ok, eLc_ap, kIs2_s, kIs_ok, iSeq_ap, it_l, it_t, kIn_s, iN_ap, kRg_ok, iRg1_ap, kRh2_ok, kRh1_ok, iRg2_ap, sNext_ap, sBrk_ap, sCnt_ap, sRetN_ap, kS_nx, kS_rt, kS_bk, kS_ct, kS_ex, sSeq_ap, kSet_ok, kSet_ex, sSet_ap, kOwn_ok, kOwn_ex, sOwn_ap, kDrp_ok, kDrp_ex, sDrop_ap, kRet_ok, kRet_ex, sRet_ap, kReO_ok, kReO_ex, sRetO_ap, sRetX_ap, kRx_o, kRx_v, kAp3_t, kAp2_o, kAp1_ok, kAp0_s, sApp_ap, kPi4_s, kPi3_s, kPi2_ok, kPi1_s, kPi0_ok, sPutI_ap, kPr2_ok, kPr1_ok, sPar_ap, kAs2_s, kAs_ok, sAsg_ap, gN_ap, gT_t, gT_l, gs_nil, kGs_s, gs_cons, kFor_ok, sFor_ap, sWhl_ap, kFd_ok, sFld_ap, kRs_ok, sRaise_ap, kSu_ok, kTr3_t, kTr2_t, kTr2_f, kTr_ok, kTr_ex, sTry_ap, kIE2_s, kIE_s, eIsE_ap, kXf_s, eXf_ap, fin_nx, fin_rt, fin_ex, finI_ex, kFi_s, finI_nx, app_nil, app_cons, ins0_nil, ins0_cons, inSl_f, inSl_l, inSl_i, inSl_b, inSl_s, inSl_n, inSl_t, inSl_c, inSl_o, pad_0, pad_1, get_0, get_1, put_0, put_1, look_v, look_o, look_b, frz_v, frz_o, stay_v, stay_o, stay_b, rd_d, rd_n, rds_nil, kRd_s, rds_cons, wipe_nil, wipe_cons, rest_nil, rest_cons, all_nil, all_cons, stb_e, stb_v, stb_b, noX_nil, noX_e, noX_v, noX_o, noX_b, true_and', tbl_ap, putFd_nil, putFd_cons, dAdd_i, dSub_i, dNeg_i, dLt_i, dLe_i, dGt_i, dGe_i, dEq_i, dNe_i, dEq_b, dNe_b, dEq_s, dNe_s, o1_ap, dAbs_i, dInt_i, dInt_b, dBool_i, dLen_l, dLen_t, dLen_c, dIx_l, dIx_t, dIx_c, at_0, at_1, at_2, at_3, isT_ii, isT_bi, isT_bb, isT_ss, isT_ll, isT_tt, isB2_i, map_s, dRev_l, dTup_l, dTup_t, dLst_l, dLst_t, dCut_l, dCutL_l, dGcd_i, isB_b, isS_s, mul_r, mul_l, dDiv_r, dMod_i, kGb_s, kGe_s,   decide_true, decide_false, Bool.not_true, Bool.not_false, Bool.and_true, Bool.and_false, Bool.false_and, if_true, if_false, ite_true, ite_false, Bool.false_eq_true, List.lookup_cons, List.lookup_nil, List.length_cons, List.length_nil, Nat.reduceBEq, Nat.reduceLT, Nat.reduceLeDiff, Nat.zero_le, seqMax, List.length_map, Nat.reduceAdd, Nat.reduceEqDiff, Nat.reducePow, Int.reduceNe, Int.reduceEq, Int.reduceLT, Int.reduceLE, Int.reduceBEq, Int.reduceNeg, Int.natAbs_neg, ne_eq, not_true, not_false_eq_true, and_self, true_and, and_true, beq_self_eq_true, turn_ap, kTn1_s, kTn2_t, kTn2_f, kTn2_p, kTn2_n, kTn3_ok, dIn_sl, dIn_st, dNin_sl, dNin_st, dIn_il, dNin_il, kSg2_s, kSg_ok, iSgn_ap, kED_s, eIsED_ap, kX2_s, kX1_ok, kX1_ex, kX0_ok, kX0_ex, eOwnX_ap, kBT4_s, kBT3_ok, kBT3_ex, kBT1_ok, kBT1_ex, eBMT_ap, dIsN_n, dIsN_l, dIsN_t, dIsN_i, dIsN_s, dNotN_n, dNotN_l, dNotN_t, dNotN_i, dNotN_s, dBAnd_i, dBOr_i, dMin2_i, dMax2_i, dCut_t, dCut_c, dCut_l2, Int.cast_ofNat_Int, at_4, at_5, at_6, at_7, at_8, at_9, at_10, at_11, at_12, at_13, $hs,*])
/-! drawn words, names, sequences (the laws k02 ..) -/
theorem lit_abc : ("abcdefghijklmnopqrstuvwxyz" : Str).cps.toList = [97, 98, 99, 100, 101, 102, 103, 104, 105, 106, 107, 108, 109, 110, 111, 112, 113, 114, 115, 116, 117, 118, 119, 120, 121, 122] := by decide +kernel
theorem len_abc : ("abcdefghijklmnopqrstuvwxyz" : Str).length = 26 := by decide +kernel
theorem get_abc : ∀ k < 26, ("abcdefghijklmnopqrstuvwxyz" : Str).cps.toList.getD k 0 = 97 + k := by decide +kernel
theorem occ_abc : ∀ k < 26, (Builtin.Str.occurrences ("abcdefghijklmnopqrstuvwxyz" : Str) ⟨#[97 + k]⟩ 0 ("abcdefghijklmnopqrstuvwxyz" : Str).length 1).head? = some k := by decide +kernel
theorem dIx_abc {v : Int} (h : 0 ≤ v) (h2 : v < 26) : dIx (.str "abcdefghijklmnopqrstuvwxyz") (.int v) = some (.str ⟨#[97 + v.toNat]⟩) := by
  have := dIx_S (z := "abcdefghijklmnopqrstuvwxyz") (i := v) h (by rw [len_abc]; exact h2) (by rw [len_abc]; decide)
  rw [get_abc _ (by omega)] at this
  exact this
theorem dSIdx_abc {k : Nat} (h : k < 26) : dSIdx (.str "abcdefghijklmnopqrstuvwxyz") [.str ⟨#[97 + k]⟩] = some (.int k) := by
  show ((Builtin.Str.occurrences _ _ 0 _ 1).head?.map fun n => D.int n) = _
  rw [occ_abc k h]; rfl
def Ltr (s : Str) : Prop := ∀ c ∈ s.cps.toList, 97 ≤ c ∧ c ≤ 122
theorem one_len (c : Nat) : (⟨#[c]⟩ : Str).length = 1 := rfl
theorem Ltr.app {s : Str} (h : Ltr s) {c : Nat} (hc : 97 ≤ c ∧ c ≤ 122) : Ltr (s ++ ⟨#[c]⟩) := fun d hd => by
  rw [app_cps] at hd
  rcases List.mem_append.mp hd with hd | hd
  · exact h d hd
  · rw [List.mem_singleton.mp hd]; exact hc
def WordI (pool : List Int) (at_ sz : Int) (i : Nat) (Γ : Ed.Env) : Prop := ∃ (cd : Int) (w : Str) (j5 : Sl), Γ = [.bor (iL pool), .val (.int at_), .val (.int cd), .val (.int sz), .val (.str w), j5] ∧ w.length = i ∧ Ltr w
theorem word_step (fu : Nat) {pool : List Int} {at_ sz : Int} {i : Nat} {Γ : Ed.Env} (hi : i < 8) (h : WordI pool at_ sz i Γ) : ∃ Γ2, kGb (lb_law_word_0 fu) (gN 5 (.int (0 + (i : Int))) Γ) = .ok (.nx, Γ2) ∧ WordI pool at_ sz (i + 1) Γ2 := by
  obtain ⟨cd, w, j5, rfl, hl, hw⟩ := h
  have f := fm_lt cd (m := 26) (by decide)
  have a := dIx_abc f.1 f.2
  generalize hq : cd.fmod 26 = q at f a
  have b : dAdd (.str w) (.str ⟨#[97 + q.toNat]⟩) = some (.str (w ++ ⟨#[97 + q.toNat]⟩)) := dAdd_S (by rw [one_len]; omega)
  unfold lb_law_word_0
  refine' ⟨_, ?_, ?_⟩
  rotate_left
  · apply gb_of
    · rfl
    try simp only [put_0, put_1]
    apply seq_nx
    · simp? only [hq, a, b]
      rfl
    simp? only []
    rfl
  · exact ⟨_, _, _, rfl, by rw [app_len, one_len]; omega, hw.app (by omega)⟩
theorem word_ok (fu : Nat) {pool : List Int} {at_ : Int} (h : 0 ≤ at_) (h2 : at_ + 2 < pool.length) : ∃ w : Str, F_law_word fu [iL pool, .int at_] = .ok (.fz (.str w)) ∧ nameOk w := by
  have a0 := at_map (f := D.int) (l := pool) (k := at_) 0 h (by omega)
  have a1 := at_map (f := D.int) (l := pool) (k := at_ + 1) 0 (by omega) (by omega)
  have a2 := at_map (f := D.int) (l := pool) (k := at_ + 2) 0 (by omega) (by omega)
  generalize hc : (pool.getD at_.toNat 0 * 27720 + pool.getD (at_ + 1).toNat 0) * 27720 + pool.getD (at_ + 2).toNat 0 = cd
  have f := fm_lt cd (m := 8) (by decide)
  generalize hs : cd.fmod 8 = sz at f
  have h00 : WordI pool at_ (1 + sz) 0 [.bor (iL pool), .val (.int at_), .val (.int (cd.fdiv 8)), .val (.int (1 + sz)), .val (.str ""), .emp] := ⟨_, "", _, rfl, rfl, fun c hc => by cases hc⟩
  obtain ⟨Γ', e, cd', w, j5, rfl, hl, hw⟩ := forL_rm (g := gN 5) (s := lb_law_word_0 fu) (lo := 0) (m := (1 + sz).toNat) h00 fun i Γ hi p => word_step fu (by omega) p
  refine ⟨w, ?_, by omega, by omega, hw⟩
  unfold F_law_word sv_law_word sg_law_word_1
  rw [runF_ap rfl]
  apply fin_of
  try simp only [app_nil, app_cons, ins0_nil, ins0_cons, inSl_f, inSl_l, inSl_i, inSl_b, inSl_s, inSl_n, inSl_t, inSl_c, inSl_o, pad_0, pad_1]
  · apply seq_nx
    · simp? only [a0, a1, a2, hc]
      rfl
    apply seq_nx
    · simp? only [hs]
      rfl
    apply seq_nx
    · simp? only []
      rfl
    apply seq_nx
    · simp? only []
      rfl
    apply seq_nx
    · simp? only [kRg2_s (rngB_of (n := 1 + sz) (by omega) (by omega)), e]
      rfl
    simp? only []
    rfl
  · rfl
/-- the last letter moved on by k -/
def wAt (l : List Nat) (v k : Nat) : Str := ⟨(l ++ [97 + (v + k) % 26]).toArray⟩
theorem wAt_len (l : List Nat) (v k : Nat) : (wAt l v k).length = l.length + 1 := by
  show (l ++ [97 + (v + k) % 26]).toArray.size = _
  simp
theorem wAt_ok {l : List Nat} {v k : Nat} (hl : l.length < 8) (h : ∀ c ∈ l, 97 ≤ c ∧ c ≤ 122) : nameOk (wAt l v k) := by
  refine ⟨by rw [wAt_len]; omega, by rw [wAt_len]; omega, fun c hc => ?_⟩
  have hc : c ∈ l ++ [97 + (v + k) % 26] := by simpa [wAt] using hc
  rcases List.mem_append.mp hc with hc | hc
  · exact h c hc
  · rw [List.mem_singleton.mp hc]; omega
theorem wAt_inj {l : List Nat} {v i j : Nat} (hi : i < 26) (hj : j < 26) (h : wAt l v i = wAt l v j) : i = j := by
  have h : (l ++ [97 + (v + i) % 26]).toArray = (l ++ [97 + (v + j) % 26]).toArray := congrArg Str.cps h
  have h := List.append_cancel_left (congrArg Array.toList h)
  simp at h
  omega
theorem nameOk.split {w : Str} (h : nameOk w) : ∃ l v, v < 26 ∧ l.length < 8 ∧ (∀ c ∈ l, 97 ≤ c ∧ c ≤ 122) ∧ w = wAt l v 0 := by
  obtain ⟨h1, h2, h3⟩ := h
  have hl : w.cps.toList.length = w.length := by simp [Str.length]
  have hne : w.cps.toList ≠ [] := by
    intro e
    rw [e] at hl
    simp at hl
    omega
  have e := (List.dropLast_concat_getLast hne).symm
  have hb := h3 _ (List.getLast_mem hne)
  refine ⟨w.cps.toList.dropLast, w.cps.toList.getLast hne - 97, by omega, by rw [List.length_dropLast]; omega, fun c hc => h3 c (List.dropLast_subset _ hc), str_ext ?_⟩
  show _ = (w.cps.toList.dropLast ++ [97 + (w.cps.toList.getLast hne - 97 + 0) % 26]).toArray.toList
  rw [show 97 + (w.cps.toList.getLast hne - 97 + 0) % 26 = w.cps.toList.getLast hne by omega]
  exact e
def NewI (names : List Str) (l : List Nat) (v : Nat) (i : Nat) (Γ : Ed.Env) : Prop := ∃ j3 : Sl, Γ = [.bor (sL names), .val (.str (wAt l v i)), .val (.str "abcdefghijklmnopqrstuvwxyz"), j3] ∧ ∀ j < i, wAt l v j ∈ names
theorem new_ok (fu : Nat) {names : List Str} {w : Str} (hw : nameOk w) (hn : names.length < 26) : ∃ w' : Str, F_law_new fu [sL names, .str w] = .ok (.fz (.str w')) ∧ nameOk w' ∧ w' ∉ names := by
  obtain ⟨l, v, hv, hl, hc, rfl⟩ := hw.split
  have h00 : NewI names l v 0 [.bor (sL names), .val (.str (wAt l v 0)), .val (.str "abcdefghijklmnopqrstuvwxyz"), .emp] := ⟨_, rfl, fun j hj => by omega⟩
  have key : ∃ (w' : Str) (j3 : Sl), forL (gN 3) (lb_law_new_0 fu) (rngL 0 26) [.bor (sL names), .val (.str (wAt l v 0)), .val (.str "abcdefghijklmnopqrstuvwxyz"), .emp] = .ok (.nx, [.bor (sL names), .val (.str w'), .val (.str "abcdefghijklmnopqrstuvwxyz"), j3]) ∧ nameOk w' ∧ w' ∉ names := by
    refine forL_rg (Z := fun r => ∃ (w' : Str) (j3 : Sl), r = .ok (.nx, [.bor (sL names), .val (.str w'), .val (.str "abcdefghijklmnopqrstuvwxyz"), j3]) ∧ nameOk w' ∧ w' ∉ names) h00 (fun i Γ hi p => ?_) fun Γ' p => ?_
    · obtain ⟨j3, rfl, hm⟩ := p
      by_cases hin : wAt l v i ∈ names
      · refine .inl ?_
        unfold lb_law_new_0
        have hz : (wAt l v i).length ≤ 16777216 := by rw [wAt_len]; omega
        have e1 := dIx_last (z := wAt l v i) (l := l) (c := 97 + (v + i) % 26) (by simp [wAt]) hz
        have e2 := dCut_init (z := wAt l v i) (l := l) (c := 97 + (v + i) % 26) (by simp [wAt]) hz
        have e3 := dSIdx_abc (k := (v + i) % 26) (by omega)
        have f := fm_lt (((v + i) % 26 : Nat) + 1 : Int) (m := 26) (by decide)
        have e4 := dIx_abc f.1 f.2
        have ef : ((((v + i) % 26 : Nat) + 1 : Int).fmod 26).toNat = (v + (i + 1)) % 26 := by
          rw [Int.fmod_eq_emod_of_nonneg _ (by decide)]
          omega
        rw [ef] at e4
        have e5 : dAdd (.str ⟨l.toArray⟩) (.str ⟨#[97 + (v + (i + 1)) % 26]⟩) = some (.str (wAt l v (i + 1))) := by
          rw [dAdd_S (by rw [one_len]; show l.toArray.size + 1 ≤ _; simp; omega)]
          congr 2
          refine str_ext ?_
          rw [app_cps]
          simp [wAt]
        have kd : kindD "str" (.str "abcdefghijklmnopqrstuvwxyz") = true := rfl
        refine' ⟨_, ?_, ?_⟩
        rotate_left
        · apply gb_of
          · rfl
          try simp only [put_0, put_1]
          apply seq_nx
          · simp? only [hin]
            rfl
          simp? only [e1, e2, kBT2_s kd, e3, e4, e5]
          rfl
        · refine ⟨_, rfl, fun j hj => ?_⟩
          by_cases e : j = i
          · rw [e]; exact hin
          · exact hm j (by omega)
      · refine .inr ⟨.ok (.nx, [.bor (sL names), .val (.str (wAt l v i)), .val (.str "abcdefghijklmnopqrstuvwxyz"), .val (.int (0 + (i : Int)))]), ?_, _, _, rfl, wAt_ok hl hc, hin⟩
        have : kGb (lb_law_new_0 fu) (gN 3 (.int (0 + (i : Int))) [.bor (sL names), .val (.str (wAt l v i)), .val (.str "abcdefghijklmnopqrstuvwxyz"), j3]) = .ok (.brk, [.bor (sL names), .val (.str (wAt l v i)), .val (.str "abcdefghijklmnopqrstuvwxyz"), .val (.int (0 + (i : Int)))]) := by
          unfold lb_law_new_0
          apply gb_of
          · rfl
          apply seq_bk
          · simp? only [hin]
            rfl
          rfl
        rw [this]; rfl
    · obtain ⟨j3, rfl, hm⟩ := p
      exfalso
      have hnd : ((List.range 26).map (wAt l v)).Nodup := by
        rw [List.nodup_iff_pairwise_ne, List.pairwise_map]
        refine List.Pairwise.imp_of_mem (R := fun a b => a ≠ b) (fun {a b} ha hb hab e => hab (wAt_inj (List.mem_range.mp ha) (List.mem_range.mp hb) e)) List.nodup_range
      have := nodup_le hnd (ns := names) fun x hx => by
        obtain ⟨j, hj, rfl⟩ := List.mem_map.mp hx
        exact hm j (List.mem_range.mp hj)
      simp at this
      omega
  obtain ⟨w', j3, e, h1, h2⟩ := key
  refine ⟨w', ?_, h1, h2⟩
  unfold F_law_new sv_law_new
  rw [runF_ap rfl]
  apply fin_of
  try simp only [app_nil, app_cons, ins0_nil, ins0_cons, inSl_f, inSl_l, inSl_i, inSl_b, inSl_s, inSl_n, inSl_t, inSl_c, inSl_o, pad_0, pad_1]
  · apply seq_nx
    · simp? only []
      rfl
    apply seq_nx
    · simp? only [kRg2_s (rngB_of (n := 26) (by decide) (by decide)), show ((26 : Int).toNat) = 26 from rfl, e]
      rfl
    simp? only []
    rfl
  · rfl
end K04

set_option autoImplicit true
set_option Elab.async false
set_option linter.all false
set_option maxRecDepth 100000
set_option exponentiation.threshold 10000
set_option maxHeartbeats 4000000
namespace K04
open PySem Ed
local macro_rules | `(tactic| simp? only [$hs,*]) => `(tactic| simp (implicitDefEqProofs := false) only [kR_s, eC_ap, eN_ap, kN_s, pN_ap, kP_s, kpE_ok, kpE_ex, pE_ap, kU2_s, kU_ok, kU_ex, eU_ap, kB3_s, kB2_ok, kB2_ex, kB1_ok, kB1_ex, eB_ap, kF2_s, kF_ok, kF_ex, eF_ap, aNil_ap, lNil_ap, kA2_ok, kA2_ex, kA1_ok, kA1_ex, aCons_ap, kL2_ok, kL2_ex, kL1_ok, kL1_ex, lCons_ap, kSz_t, kTp_ok, kTp_ex, kLs_ok, kLs_ex, eTup_ap, nLst_ap, kIf_t, kIf_f, kIf_ex, tC_ap, eAnd_ap, eOr_ap, eNot_ap, eIf_ap, sIf_ap, kE2_b, kE_ok, kE_ex, tE_ap, kT3_s, kT2_s, kT_ok, kT_ex, tTru_ap, tru_int, tru_bl, tru_lst, tru_tup, tru_non, tYs_ap, eCB_ap, eAndV_ap, eOrV_ap, eNotV_ap, kCh4_s, kCh3_ok, kCh3_ex, kCh2_t, kCh2_f, kCh1_s, kCh0_ok, kCh0_ex, kCh_ok, kCh_ex, eChain_ap, callF_ap, kCp_s, kC_ok, kC_ex, kCd_ok, kCd_ex, kFr2_r, kFr_ok, kFr_ex, kC1_ok, kC1_ex, eCall_ap, kC2_ok, kC2_ex, nCall_ap, dfz, dfr, prep0, pK_s, prep_d, prep_t, pKt_s, prep_f, pKf_s, mkF_ap, kMk_ok, kMk_ex, kFl_ok, kFl_ex, eFld_ap, fld_s, kO2_s, kO1_ok, kO1_ex, kO0_ok, kO0_ex, eOwn2_ap, kOC3_s, kOC2_ok, kOC2_ex, kOC1_s, kOC0_ok, kOC0_ex, eOwnC_ap, kM2_ok, kM2_ex, kM1_s, kM0_ok, kM0_ex, eMeth_ap, eJs_nil, kJz_t, kJ2_s, kJ_ok, kJ_ex, eJs_cons, kSl4_s, kSl3_s, kSl2_s, kSl1_s, eSl_ap, oP_n, kOp2_s, kOp_s, oP_s, kLc2_s, kLc1_t, kLc_ok, eLc_ap, kIs2_s, kIs_ok, iSeq_ap, it_l, it_t, kIn_s, iN_ap, kRg_ok, iRg1_ap, kRh2_ok, kRh1_ok, iRg2_ap, sNext_ap, sBrk_ap, sCnt_ap, sRetN_ap, kS_nx, kS_rt, kS_bk, kS_ct, kS_ex, sSeq_ap, kSet_ok, kSet_ex, sSet_ap, kOwn_ok, kOwn_ex, sOwn_ap, kDrp_ok, kDrp_ex, sDrop_ap, kRet_ok, kRet_ex, sRet_ap, kReO_ok, kReO_ex, sRetO_ap, sRetX_ap, kRx_o, kRx_v, kAp3_t, kAp2_o, kAp1_ok, kAp0_s, sApp_ap, kPi4_s, kPi3_s, kPi2_ok, kPi1_s, kPi0_ok, sPutI_ap, kPr2_ok, kPr1_ok, sPar_ap, kAs2_s, kAs_ok, sAsg_ap, gN_ap, gT_t, gT_l, gs_nil, kGs_s, gs_cons, kFor_ok, sFor_ap, sWhl_ap, kFd_ok, sFld_ap, kRs_ok, sRaise_ap, kSu_ok, kTr3_t, kTr2_t, kTr2_f, kTr_ok, kTr_ex, sTry_ap, kIE2_s, kIE_s, eIsE_ap, kXf_s, eXf_ap, fin_nx, fin_rt, fin_ex, finI_ex, kFi_s, finI_nx, app_nil, app_cons, ins0_nil, ins0_cons, inSl_f, inSl_l, inSl_i, inSl_b, inSl_s, inSl_n, inSl_t, inSl_c, inSl_o, pad_0, pad_1, get_0, get_1, put_0, put_1, look_v, look_o, look_b, frz_v, frz_o, stay_v, stay_o, stay_b, rd_d, rd_n, rds_nil, kRd_s, rds_cons, wipe_nil, wipe_cons, rest_nil, rest_cons, all_nil, all_cons, stb_e, stb_v, stb_b, noX_nil, noX_e, noX_v, noX_o, noX_b, true_and', tbl_ap, putFd_nil, putFd_cons, dAdd_i, dSub_i, dNeg_i, dLt_i, dLe_i, dGt_i, dGe_i, dEq_i, dNe_i, dEq_b, dNe_b, dEq_s, dNe_s, o1_ap, dAbs_i, dInt_i, dInt_b, dBool_i, dLen_l, dLen_t, dLen_c, dIx_l, dIx_t, dIx_c, at_0, at_1, at_2, at_3, isT_ii, isT_bi, isT_bb, isT_ss, isT_ll, isT_tt, isB2_i, map_s, dRev_l, dTup_l, dTup_t, dLst_l, dLst_t, dCut_l, dCutL_l, dGcd_i, isB_b, isS_s, mul_r, mul_l, dDiv_r, dMod_i, kGb_s, kGe_s,   decide_true, decide_false, Bool.not_true, Bool.not_false, Bool.and_true, Bool.and_false, Bool.false_and, if_true, if_false, ite_true, ite_false, Bool.false_eq_true, List.lookup_cons, List.lookup_nil, List.length_cons, List.length_nil, Nat.reduceBEq, Nat.reduceLT, Nat.reduceLeDiff, Nat.zero_le, seqMax, List.length_map, Nat.reduceAdd, Nat.reduceEqDiff, Nat.reducePow, Int.reduceNe, Int.reduceEq, Int.reduceLT, Int.reduceLE, Int.reduceBEq, Int.reduceNeg, Int.natAbs_neg, ne_eq, not_true, not_false_eq_true, and_self, true_and, and_true, beq_self_eq_true, turn_ap, kTn1_s, kTn2_t, kTn2_f, kTn2_p, kTn2_n, kTn3_ok, dIn_sl, dIn_st, dNin_sl, dNin_st, dIn_il, dNin_il, kSg2_s, kSg_ok, iSgn_ap, kED_s, eIsED_ap, kX2_s, kX1_ok, kX1_ex, kX0_ok, kX0_ex, eOwnX_ap, kBT4_s, kBT3_ok, kBT3_ex, kBT1_ok, kBT1_ex, eBMT_ap, dIsN_n, dIsN_l, dIsN_t, dIsN_i, dIsN_s, dNotN_n, dNotN_l, dNotN_t, dNotN_i, dNotN_s, dBAnd_i, dBOr_i, dMin2_i, dMax2_i, dCut_t, dCut_c, dCut_l2, Int.cast_ofNat_Int, at_4, at_5, at_6, at_7, at_8, at_9, at_10, at_11, at_12, at_13, $hs,*])
/-! any lists of texts: are they columns, is it a row -/
/-- the columns up to k are names, all different -/
def colOk (cs : List Str) (k : Nat) : Prop := nameOk (cs.getD k default) ∧ cs.getD k default ∉ cs.take k
instance (cs : List Str) (k : Nat) : Decidable (colOk cs k) := by unfold colOk; infer_instance
theorem getD_at {o : List Str} {k : Nat} (h : k < o.length) : o[k]? = some (o.getD k default) := by
  rw [List.getD_eq_getElem?_getD, List.getElem?_eq_getElem h]; rfl
theorem cut_take {xs : List Str} {i : Nat} : cut (xs.map D.str) none (some (i : Int)) = (xs.take i).map D.str := by rw [cut_to (by omega), List.map_take]; rfl
theorem mn_good (fu : Nat) {cs : List Str} {i : Nat} (hi : i < cs.length) (hs : (cs.getD i default).length ≤ 16777216) (h : colOk cs i) (j : Sl) : kGb (lb_first_misnamed_0 fu) (gN 1 (.int (0 + (i : Int))) [.bor (sL cs), j]) = .ok (.nx, [.bor (sL cs), .val (.int (i : Int))]) := by
  have zi : (0 : Int) + (i : Int) = i := by omega
  have a := at_mapn (f := D.str) (getD_at hi)
  have nm := is_name_ok fu hs
  obtain ⟨h1, h2⟩ := h
  rw [decide_eq_true h1] at nm
  unfold lb_first_misnamed_0
  apply gb_of
  · rfl
  try simp only [put_0, put_1]
  simp? only [zi, a, nm, cut_take, dCut_l2, h2]
theorem mn_bad (fu : Nat) {cs : List Str} {i : Nat} (hi : i < cs.length) (hs : (cs.getD i default).length ≤ 16777216) (h : ¬ colOk cs i) (j : Sl) : kGb (lb_first_misnamed_0 fu) (gN 1 (.int (0 + (i : Int))) [.bor (sL cs), j]) = .ok (.ret (.fz (.int (i : Int))), [.bor (sL cs), .val (.int (i : Int))]) := by
  have zi : (0 : Int) + (i : Int) = i := by omega
  have a := at_mapn (f := D.str) (getD_at hi)
  have nm := is_name_ok fu hs
  unfold lb_first_misnamed_0
  by_cases h1 : nameOk (cs.getD i default)
  · have h2 : cs.getD i default ∈ cs.take i := Classical.byContradiction fun z => h ⟨h1, z⟩
    rw [decide_eq_true h1] at nm
    apply gb_of
    · rfl
    try simp only [put_0, put_1]
    simp? only [zi, a, nm, cut_take, dCut_l2, h2]
  · rw [decide_eq_false h1] at nm
    apply gb_of
    · rfl
    try simp only [put_0, put_1]
    simp? only [zi, a, nm]
theorem misnamed_gen (fu : Nat) {cs : List Str} (hs : ∀ s ∈ cs, s.length ≤ 16777216) (hl : cs.length ≤ 16700000) : ∃ v : Int, F_first_misnamed fu [sL cs] = .ok (.fz (.int v)) ∧ (v < 0 ↔ ∀ k < cs.length, colOk cs k) := by
  have tn : ((cs.length : Int)).toNat = cs.length := by omega
  have rg := kRg2_s (Γ := [.bor (sL cs), .emp]) (rngB_of (n := (cs.length : Int)) (by omega) (by omega))
  have gs : ∀ i, i < cs.length → (cs.getD i default).length ≤ 16777216 := fun i hi => hs _ (getD_mem hi)
  have key : (∃ (k : Nat) (Γ' : Ed.Env), k < cs.length ∧ ¬ colOk cs k ∧ forL (gN 1) (lb_first_misnamed_0 fu) (rngL 0 cs.length) [.bor (sL cs), .emp] = .ok (.ret (.fz (.int (k : Int))), Γ')) ∨ ((∀ k < cs.length, colOk cs k) ∧ ∃ Γ', forL (gN 1) (lb_first_misnamed_0 fu) (rngL 0 cs.length) [.bor (sL cs), .emp] = .ok (.nx, Γ')) := by
    refine forL_rg (Z := fun r => (∃ (k : Nat) (Γ' : Ed.Env), k < cs.length ∧ ¬ colOk cs k ∧ r = .ok (.ret (.fz (.int (k : Int))), Γ')) ∨ ((∀ k < cs.length, colOk cs k) ∧ ∃ Γ', r = .ok (.nx, Γ'))) (P := fun i Γ => (∀ k < i, colOk cs k) ∧ ∃ j, Γ = [Sl.bor (sL cs), j]) ⟨fun k hk => by omega, _, rfl⟩ (fun i Γ hi ⟨hg, j, hΓ⟩ => ?_) fun Γ' ⟨hg, _⟩ => .inr ⟨hg, _, rfl⟩
    subst hΓ
    by_cases h : colOk cs i
    · refine .inl ⟨_, mn_good fu hi (gs i hi) h j, fun k hk => ?_, _, rfl⟩
      by_cases e : k = i
      · rw [e]; exact h
      · exact hg k (by omega)
    · refine .inr ⟨.ok (.ret (.fz (.int (i : Int))), [.bor (sL cs), .val (.int (i : Int))]), ?_, .inl ⟨i, _, hi, h, rfl⟩⟩
      rw [mn_bad fu hi (gs i hi) h j]; rfl
  rcases key with ⟨k, Γ', hk, hb, e⟩ | ⟨hg, Γ', e⟩
  · refine ⟨k, ?_, ⟨fun z => by omega, fun z => absurd (z k hk) hb⟩⟩
    unfold F_first_misnamed sv_first_misnamed
    rw [runF_ap rfl]
    apply fin_of
    try simp only [app_nil, app_cons, ins0_nil, ins0_cons, inSl_f, inSl_l, inSl_i, inSl_b, inSl_s, inSl_n, inSl_t, inSl_c, inSl_o, pad_0, pad_1]
    · apply seq_rt
      · simp? only [rg, tn, e]
        rfl
      rfl
    · rfl
  · refine ⟨-1, ?_, ⟨fun _ => hg, fun _ => by omega⟩⟩
    unfold F_first_misnamed sv_first_misnamed
    rw [runF_ap rfl]
    apply fin_of
    try simp only [app_nil, app_cons, ins0_nil, ins0_cons, inSl_f, inSl_l, inSl_i, inSl_b, inSl_s, inSl_n, inSl_t, inSl_c, inSl_o, pad_0, pad_1]
    · apply seq_nx
      · simp? only [rg, tn, e]
        rfl
      simp? only []
      rfl
    · rfl
/-- the k-th of a row is a column, not doubled -/
def rowAt (cs r : List Str) (k : Nat) : Prop := r.getD k default ∈ cs ∧ r.getD k default ∉ r.take k
instance (cs r : List Str) (k : Nat) : Decidable (rowAt cs r k) := by unfold rowAt; infer_instance
theorem rowOk_iff {cs r : List Str} : RowOk cs r ↔ ∀ k < r.length, rowAt cs r k := by
  have gd : ∀ i (hi : i < r.length), r.getD i default = r[i] := fun i hi => by simp [List.getD_eq_getElem?_getD, hi]
  constructor
  · intro h k hk
    unfold rowAt
    rw [gd k hk]
    exact ⟨h.2 _ (List.getElem_mem hk), nin_take h.1 hk⟩
  · intro h
    refine ⟨?_, fun x hx => ?_⟩
    · rw [List.nodup_iff_pairwise_ne, List.pairwise_iff_getElem]
      intro i j hi hj hij e
      have := (h j hj).2
      rw [gd j hj, ← e] at this
      refine this ?_
      rw [List.mem_iff_getElem]
      exact ⟨i, by rw [List.length_take]; omega, by rw [List.getElem_take]⟩
    · obtain ⟨i, hi, rfl⟩ := List.mem_iff_getElem.mp hx
      have := (h i hi).1
      rw [gd i hi] at this
      exact this
theorem ir_good (fu : Nat) {cs r : List Str} {i : Nat} (hi : i < r.length) (h : rowAt cs r i) (j : Sl) : kGb (lb_is_row_0 fu) (gN 2 (.int (0 + (i : Int))) [.bor (sL cs), .bor (sL r), j]) = .ok (.nx, [.bor (sL cs), .bor (sL r), .val (.int (i : Int))]) := by
  have zi : (0 : Int) + (i : Int) = i := by omega
  have a := at_mapn (f := D.str) (getD_at hi)
  obtain ⟨h1, h2⟩ := h
  unfold lb_is_row_0
  apply gb_of
  · rfl
  try simp only [put_0, put_1]
  simp? only [zi, a, h1, cut_take, dCut_l2, h2]
theorem ir_bad (fu : Nat) {cs r : List Str} {i : Nat} (hi : i < r.length) (h : ¬ rowAt cs r i) (j : Sl) : kGb (lb_is_row_0 fu) (gN 2 (.int (0 + (i : Int))) [.bor (sL cs), .bor (sL r), j]) = .ok (.ret (.fz (.bl false)), [.bor (sL cs), .bor (sL r), .val (.int (i : Int))]) := by
  have zi : (0 : Int) + (i : Int) = i := by omega
  have a := at_mapn (f := D.str) (getD_at hi)
  unfold lb_is_row_0
  by_cases h1 : r.getD i default ∈ cs
  · have h2 : r.getD i default ∈ r.take i := Classical.byContradiction fun z => h ⟨h1, z⟩
    apply gb_of
    · rfl
    try simp only [put_0, put_1]
    simp? only [zi, a, h1, cut_take, dCut_l2, h2]
  · apply gb_of
    · rfl
    try simp only [put_0, put_1]
    simp? only [zi, a, h1]
theorem is_row_gen (fu : Nat) {cs r : List Str} (hl : r.length ≤ 16700000) : ∃ b : Bool, F_is_row fu [sL cs, sL r] = .ok (.fz (.bl b)) ∧ (b = true ↔ RowOk cs r) := by
  have tn : ((r.length : Int)).toNat = r.length := by omega
  have rg := kRg2_s (Γ := [.bor (sL cs), .bor (sL r), .emp]) (rngB_of (n := (r.length : Int)) (by omega) (by omega))
  have key : (∃ Γ' : Ed.Env, ¬ RowOk cs r ∧ forL (gN 2) (lb_is_row_0 fu) (rngL 0 r.length) [.bor (sL cs), .bor (sL r), .emp] = .ok (.ret (.fz (.bl false)), Γ')) ∨ (RowOk cs r ∧ ∃ Γ', forL (gN 2) (lb_is_row_0 fu) (rngL 0 r.length) [.bor (sL cs), .bor (sL r), .emp] = .ok (.nx, Γ')) := by
    refine forL_rg (Z := fun q => (∃ Γ' : Ed.Env, ¬ RowOk cs r ∧ q = .ok (.ret (.fz (.bl false)), Γ')) ∨ (RowOk cs r ∧ ∃ Γ', q = .ok (.nx, Γ'))) (P := fun i Γ => (∀ k < i, rowAt cs r k) ∧ ∃ j, Γ = [Sl.bor (sL cs), .bor (sL r), j]) ⟨fun k hk => by omega, _, rfl⟩ (fun i Γ hi ⟨hg, j, hΓ⟩ => ?_) fun Γ' ⟨hg, _⟩ => .inr ⟨rowOk_iff.mpr hg, _, rfl⟩
    subst hΓ
    by_cases h : rowAt cs r i
    · refine .inl ⟨_, ir_good fu hi h j, fun k hk => ?_, _, rfl⟩
      by_cases e : k = i
      · rw [e]; exact h
      · exact hg k (by omega)
    · refine .inr ⟨.ok (.ret (.fz (.bl false)), [.bor (sL cs), .bor (sL r), .val (.int (i : Int))]), ?_, .inl ⟨_, fun z => h (rowOk_iff.mp z i hi), rfl⟩⟩
      rw [ir_bad fu hi h j]; rfl
  rcases key with ⟨Γ', hb, e⟩ | ⟨hg, Γ', e⟩
  · refine ⟨false, ?_, ⟨fun z => (by cases z), fun z => absurd z hb⟩⟩
    unfold F_is_row sv_is_row
    rw [runF_ap rfl]
    apply fin_of
    try simp only [app_nil, app_cons, ins0_nil, ins0_cons, inSl_f, inSl_l, inSl_i, inSl_b, inSl_s, inSl_n, inSl_t, inSl_c, inSl_o, pad_0, pad_1]
    · apply seq_rt
      · simp? only [rg, tn, e]
        rfl
      rfl
    · rfl
  · refine ⟨true, ?_, ⟨fun _ => hg, fun _ => rfl⟩⟩
    unfold F_is_row sv_is_row
    rw [runF_ap rfl]
    apply fin_of
    try simp only [app_nil, app_cons, ins0_nil, ins0_cons, inSl_f, inSl_l, inSl_i, inSl_b, inSl_s, inSl_n, inSl_t, inSl_c, inSl_o, pad_0, pad_1]
    · apply seq_nx
      · simp? only [rg, tn, e]
        rfl
      simp? only []
      rfl
    · rfl
/-- all columns are names, all different -/
theorem cols_iff {cs : List Str} : (∀ k < cs.length, colOk cs k) ↔ cs.Nodup ∧ ∀ s ∈ cs, nameOk s := by
  have gd : ∀ i (hi : i < cs.length), cs.getD i default = cs[i] := fun i hi => by simp [List.getD_eq_getElem?_getD, hi]
  constructor
  · intro h
    have q : RowOk cs cs := rowOk_iff.mpr fun k hk => ⟨by rw [gd k hk]; exact List.getElem_mem hk, (h k hk).2⟩
    refine ⟨q.1, fun x hx => ?_⟩
    obtain ⟨i, hi, rfl⟩ := List.mem_iff_getElem.mp hx
    have := (h i hi).1
    rw [gd i hi] at this
    exact this
  · rintro ⟨h1, h2⟩ k hk
    unfold colOk
    rw [gd k hk]
    exact ⟨h2 _ (List.getElem_mem hk), nin_take h1 hk⟩
end K04

set_option autoImplicit true
set_option Elab.async false
set_option linter.all false
set_option maxRecDepth 100000
set_option exponentiation.threshold 10000
set_option maxHeartbeats 4000000
namespace K04
open PySem Ed
local macro_rules | `(tactic| simp? only [$hs,*]) => `(tactic| simp (implicitDefEqProofs := false) only [kR_s, eC_ap, eN_ap, kN_s, pN_ap, kP_s, kpE_ok, kpE_ex, pE_ap, kU2_s, kU_ok, kU_ex, eU_ap, kB3_s, kB2_ok, kB2_ex, kB1_ok, kB1_ex, eB_ap, kF2_s, kF_ok, kF_ex, eF_ap, aNil_ap, lNil_ap, kA2_ok, kA2_ex, kA1_ok, kA1_ex, aCons_ap, kL2_ok, kL2_ex, kL1_ok, kL1_ex, lCons_ap, kSz_t, kTp_ok, kTp_ex, kLs_ok, kLs_ex, eTup_ap, nLst_ap, kIf_t, kIf_f, kIf_ex, tC_ap, eAnd_ap, eOr_ap, eNot_ap, eIf_ap, sIf_ap, kE2_b, kE_ok, kE_ex, tE_ap, kT3_s, kT2_s, kT_ok, kT_ex, tTru_ap, tru_int, tru_bl, tru_lst, tru_tup, tru_non, tYs_ap, eCB_ap, eAndV_ap, eOrV_ap, eNotV_ap, kCh4_s, kCh3_ok, kCh3_ex, kCh2_t, kCh2_f, kCh1_s, kCh0_ok, kCh0_ex, kCh_ok, kCh_ex, eChain_ap, callF_ap, kCp_s, kC_ok, kC_ex, kCd_ok, kCd_ex, kFr2_r, kFr_ok, kFr_ex, kC1_ok, kC1_ex, eCall_ap, kC2_ok, kC2_ex, nCall_ap, dfz, dfr, prep0, pK_s, prep_d, prep_t, pKt_s, prep_f, pKf_s, mkF_ap, kMk_ok, kMk_ex, kFl_ok, kFl_ex, eFld_ap, fld_s, kO2_s, kO1_ok, kO1_ex, kO0_ok, kO0_ex, eOwn2_ap, kOC3_s, kOC2_ok, kOC2_ex, kOC1_s, kOC0_ok, kOC0_ex, eOwnC_ap, kM2_ok, kM2_ex, kM1_s, kM0_ok, kM0_ex, eMeth_ap, eJs_nil, kJz_t, kJ2_s, kJ_ok, kJ_ex, eJs_cons, kSl4_s, kSl3_s, kSl2_s, kSl1_s, eSl_ap, oP_n, kOp2_s, kOp_s, oP_s, kLc2_s, kLc1_t, kLc_ok, eLc_ap, kIs2_s, kIs_ok, iSeq_ap, it_l, it_t, kIn_s, iN_ap, kRg_ok, iRg1_ap, kRh2_ok, kRh1_ok, iRg2_ap, sNext_ap, sBrk_ap, sCnt_ap, sRetN_ap, kS_nx, kS_rt, kS_bk, kS_ct, kS_ex, sSeq_ap, kSet_ok, kSet_ex, sSet_ap, kOwn_ok, kOwn_ex, sOwn_ap, kDrp_ok, kDrp_ex, sDrop_ap, kRet_ok, kRet_ex, sRet_ap, kReO_ok, kReO_ex, sRetO_ap, sRetX_ap, kRx_o, kRx_v, kAp3_t, kAp2_o, kAp1_ok, kAp0_s, sApp_ap, kPi4_s, kPi3_s, kPi2_ok, kPi1_s, kPi0_ok, sPutI_ap, kPr2_ok, kPr1_ok, sPar_ap, kAs2_s, kAs_ok, sAsg_ap, gN_ap, gT_t, gT_l, gs_nil, kGs_s, gs_cons, kFor_ok, sFor_ap, sWhl_ap, kFd_ok, sFld_ap, kRs_ok, sRaise_ap, kSu_ok, kTr3_t, kTr2_t, kTr2_f, kTr_ok, kTr_ex, sTry_ap, kIE2_s, kIE_s, eIsE_ap, kXf_s, eXf_ap, fin_nx, fin_rt, fin_ex, finI_ex, kFi_s, finI_nx, app_nil, app_cons, ins0_nil, ins0_cons, inSl_f, inSl_l, inSl_i, inSl_b, inSl_s, inSl_n, inSl_t, inSl_c, inSl_o, pad_0, pad_1, get_0, get_1, put_0, put_1, look_v, look_o, look_b, frz_v, frz_o, stay_v, stay_o, stay_b, rd_d, rd_n, rds_nil, kRd_s, rds_cons, wipe_nil, wipe_cons, rest_nil, rest_cons, all_nil, all_cons, stb_e, stb_v, stb_b, noX_nil, noX_e, noX_v, noX_o, noX_b, true_and', tbl_ap, putFd_nil, putFd_cons, dAdd_i, dSub_i, dNeg_i, dLt_i, dLe_i, dGt_i, dGe_i, dEq_i, dNe_i, dEq_b, dNe_b, dEq_s, dNe_s, o1_ap, dAbs_i, dInt_i, dInt_b, dBool_i, dLen_l, dLen_t, dLen_c, dIx_l, dIx_t, dIx_c, at_0, at_1, at_2, at_3, isT_ii, isT_bi, isT_bb, isT_ss, isT_ll, isT_tt, isB2_i, map_s, dRev_l, dTup_l, dTup_t, dLst_l, dLst_t, dCut_l, dCutL_l, dGcd_i, isB_b, isS_s, mul_r, mul_l, dDiv_r, dMod_i, kGb_s, kGe_s,   decide_true, decide_false, Bool.not_true, Bool.not_false, Bool.and_true, Bool.and_false, Bool.false_and, if_true, if_false, ite_true, ite_false, Bool.false_eq_true, List.lookup_cons, List.lookup_nil, List.length_cons, List.length_nil, Nat.reduceBEq, Nat.reduceLT, Nat.reduceLeDiff, Nat.zero_le, seqMax, List.length_map, Nat.reduceAdd, Nat.reduceEqDiff, Nat.reducePow, Int.reduceNe, Int.reduceEq, Int.reduceLT, Int.reduceLE, Int.reduceBEq, Int.reduceNeg, Int.natAbs_neg, ne_eq, not_true, not_false_eq_true, and_self, true_and, and_true, beq_self_eq_true, turn_ap, kTn1_s, kTn2_t, kTn2_f, kTn2_p, kTn2_n, kTn3_ok, dIn_sl, dIn_st, dNin_sl, dNin_st, dIn_il, dNin_il, kSg2_s, kSg_ok, iSgn_ap, kED_s, eIsED_ap, kX2_s, kX1_ok, kX1_ex, kX0_ok, kX0_ex, eOwnX_ap, kBT4_s, kBT3_ok, kBT3_ex, kBT1_ok, kBT1_ex, eBMT_ap, dIsN_n, dIsN_l, dIsN_t, dIsN_i, dIsN_s, dNotN_n, dNotN_l, dNotN_t, dNotN_i, dNotN_s, dBAnd_i, dBOr_i, dMin2_i, dMax2_i, dCut_t, dCut_c, dCut_l2, Int.cast_ofNat_Int, at_4, at_5, at_6, at_7, at_8, at_9, at_10, at_11, at_12, at_13, $hs,*])
/-! texts cut at a sign -/
theorem splL_cons (c x : Nat) (r : List Nat) : splL c (x :: r) = if x = c then [] :: splL c r else consH x (splL c r) := rfl
theorem splL_ne (c : Nat) : ∀ l : List Nat, splL c l ≠ []
  | [] => by simp [splL]
  | x :: r => by
    rw [splL_cons]
    split
    · simp
    · cases splL c r <;> simp [consH]
/-- no more parts than signs and one; no part longer than the whole; no part has the sign; its signs are the text's -/
theorem splL_facts (c : Nat) : ∀ l : List Nat, (splL c l).length ≤ l.length + 1 ∧ ∀ p ∈ splL c l, p.length ≤ l.length ∧ c ∉ p ∧ ∀ x ∈ p, x ∈ l
  | [] => ⟨by simp [splL], fun p hp => by
      have : p = [] := by simpa [splL] using hp
      subst this
      simp⟩
  | x :: r => by
    obtain ⟨h1, h2⟩ := splL_facts c r
    rw [splL_cons]
    by_cases h : x = c
    · rw [if_pos h]
      refine ⟨by simp; omega, fun p hp => ?_⟩
      rcases List.mem_cons.mp hp with rfl | hp
      · simp
      · obtain ⟨a, b, d⟩ := h2 p hp
        exact ⟨by simp; omega, b, fun y hy => List.mem_cons_of_mem _ (d y hy)⟩
    · rw [if_neg h]
      cases e : splL c r with
      | nil => exact absurd e (splL_ne c r)
      | cons q t =>
        rw [e] at h1 h2
        refine ⟨by simp [consH] at h1 ⊢; omega, fun p hp => ?_⟩
        have hp : p ∈ (x :: q) :: t := hp
        rcases List.mem_cons.mp hp with rfl | hp
        · obtain ⟨a, b, d⟩ := h2 q (by simp)
          refine ⟨by simp; omega, fun z => ?_, fun y hy => ?_⟩
          · rcases List.mem_cons.mp z with z | z
            · exact h z.symm
            · exact b z
          · rcases List.mem_cons.mp hy with rfl | hy
            · simp
            · exact List.mem_cons_of_mem _ (d y hy)
        · obtain ⟨a, b, d⟩ := h2 p (by simp [hp])
          exact ⟨by simp; omega, b, fun y hy => List.mem_cons_of_mem _ (d y hy)⟩
/-- a part, the sign, the rest -/
theorem splL_part {c : Nat} : ∀ {p l : List Nat}, c ∉ p → splL c (p ++ c :: l) = p :: splL c l
  | [], l, _ => by
    show splL c (c :: l) = _
    rw [splL_cons, if_pos rfl]
  | x :: p, l, h => by
    have hx : x ≠ c := fun e => h (by rw [e]; simp)
    show splL c (x :: (p ++ c :: l)) = _
    rw [splL_cons, if_neg hx, splL_part fun z => h (List.mem_cons_of_mem _ z)]; rfl
theorem splL_last {c : Nat} : ∀ {p : List Nat}, c ∉ p → splL c p = [p]
  | [], _ => rfl
  | x :: p, h => by
    have hx : x ≠ c := fun e => h (by rw [e]; simp)
    rw [splL_cons, if_neg hx, splL_last fun z => h (List.mem_cons_of_mem _ z)]; rfl
/-- a joined text, cut again -/
theorem splS_join {c : Nat} {a : Str} (ha : a.cps.toList = [c]) : ∀ {ps : List Str}, ps ≠ [] → (∀ p ∈ ps, c ∉ p.cps.toList) → splS (Str.join a ps) c = ps
  | [], h, _ => absurd rfl h
  | [p], _, h => by
    show (splL c p.cps.toList).map _ = _
    rw [splL_last (h p (by simp))]
    exact congrArg (fun z => [z]) (str_ext rfl)
  | p :: q :: r, _, h => by
    have ih := splS_join ha (ps := q :: r) (by simp) fun z hz => h z (List.mem_cons_of_mem _ hz)
    have e : (Str.join a (p :: q :: r)).cps.toList = p.cps.toList ++ c :: (Str.join a (q :: r)).cps.toList := by
      show (p ++ a ++ Str.join a (q :: r)).cps.toList = _
      rw [app_cps, app_cps, ha]; simp
    unfold splS at ih ⊢
    rw [e, splL_part (h p (by simp)), List.map_cons, ih]
theorem splS_facts (s : Str) (c : Nat) : splS s c ≠ [] ∧ (splS s c).length ≤ s.length + 1 ∧ ∀ p ∈ splS s c, p.length ≤ s.length ∧ c ∉ p.cps.toList ∧ ∀ x ∈ p.cps.toList, x ∈ s.cps.toList := by
  have hl : s.cps.toList.length = s.length := by simp [Str.length]
  obtain ⟨h1, h2⟩ := splL_facts c s.cps.toList
  refine ⟨fun e => splL_ne c _ (List.map_eq_nil_iff.mp e), by unfold splS; rw [List.length_map]; omega, fun p hp => ?_⟩
  obtain ⟨q, hq, rfl⟩ := List.mem_map.mp hp
  obtain ⟨a, b, d⟩ := h2 q hq
  exact ⟨by show q.toArray.size ≤ _; simp; omega, b, d⟩
theorem dSplit_s {s b : Str} (h : b.length = 1) (h2 : b.cps.getD 0 0 < 256) (h3 : s.length ≤ 16700000) : dSplit (.str s) [.str b] = some (.lst ((splS s (b.cps.getD 0 0)).map .str)) := if_pos ⟨h, h2, h3⟩
theorem split_nl {s : Str} (h : s.length ≤ 16700000) : dSplit (.str s) [.str "\n"] = some (.lst ((splS s 10).map .str)) := dSplit_s (by decide +kernel) (by decide +kernel) h
theorem split_sp {s : Str} (h : s.length ≤ 16700000) : dSplit (.str s) [.str " "] = some (.lst ((splS s 32).map .str)) := dSplit_s (by decide +kernel) (by decide +kernel) h
end K04

set_option autoImplicit true
set_option Elab.async false
set_option linter.all false
set_option maxRecDepth 100000
set_option exponentiation.threshold 10000
set_option maxHeartbeats 4000000
namespace K04
open PySem Ed
local macro_rules | `(tactic| simp? only [$hs,*]) => `(tactic| simp (implicitDefEqProofs := false) only [kR_s, eC_ap, eN_ap, kN_s, pN_ap, kP_s, kpE_ok, kpE_ex, pE_ap, kU2_s, kU_ok, kU_ex, eU_ap, kB3_s, kB2_ok, kB2_ex, kB1_ok, kB1_ex, eB_ap, kF2_s, kF_ok, kF_ex, eF_ap, aNil_ap, lNil_ap, kA2_ok, kA2_ex, kA1_ok, kA1_ex, aCons_ap, kL2_ok, kL2_ex, kL1_ok, kL1_ex, lCons_ap, kSz_t, kTp_ok, kTp_ex, kLs_ok, kLs_ex, eTup_ap, nLst_ap, kIf_t, kIf_f, kIf_ex, tC_ap, eAnd_ap, eOr_ap, eNot_ap, eIf_ap, sIf_ap, kE2_b, kE_ok, kE_ex, tE_ap, kT3_s, kT2_s, kT_ok, kT_ex, tTru_ap, tru_int, tru_bl, tru_lst, tru_tup, tru_non, tYs_ap, eCB_ap, eAndV_ap, eOrV_ap, eNotV_ap, kCh4_s, kCh3_ok, kCh3_ex, kCh2_t, kCh2_f, kCh1_s, kCh0_ok, kCh0_ex, kCh_ok, kCh_ex, eChain_ap, callF_ap, kCp_s, kC_ok, kC_ex, kCd_ok, kCd_ex, kFr2_r, kFr_ok, kFr_ex, kC1_ok, kC1_ex, eCall_ap, kC2_ok, kC2_ex, nCall_ap, dfz, dfr, prep0, pK_s, prep_d, prep_t, pKt_s, prep_f, pKf_s, mkF_ap, kMk_ok, kMk_ex, kFl_ok, kFl_ex, eFld_ap, fld_s, kO2_s, kO1_ok, kO1_ex, kO0_ok, kO0_ex, eOwn2_ap, kOC3_s, kOC2_ok, kOC2_ex, kOC1_s, kOC0_ok, kOC0_ex, eOwnC_ap, kM2_ok, kM2_ex, kM1_s, kM0_ok, kM0_ex, eMeth_ap, eJs_nil, kJz_t, kJ2_s, kJ_ok, kJ_ex, eJs_cons, kSl4_s, kSl3_s, kSl2_s, kSl1_s, eSl_ap, oP_n, kOp2_s, kOp_s, oP_s, kLc2_s, kLc1_t, kLc_ok, eLc_ap, kIs2_s, kIs_ok, iSeq_ap, it_l, it_t, kIn_s, iN_ap, kRg_ok, iRg1_ap, kRh2_ok, kRh1_ok, iRg2_ap, sNext_ap, sBrk_ap, sCnt_ap, sRetN_ap, kS_nx, kS_rt, kS_bk, kS_ct, kS_ex, sSeq_ap, kSet_ok, kSet_ex, sSet_ap, kOwn_ok, kOwn_ex, sOwn_ap, kDrp_ok, kDrp_ex, sDrop_ap, kRet_ok, kRet_ex, sRet_ap, kReO_ok, kReO_ex, sRetO_ap, sRetX_ap, kRx_o, kRx_v, kAp3_t, kAp2_o, kAp1_ok, kAp0_s, sApp_ap, kPi4_s, kPi3_s, kPi2_ok, kPi1_s, kPi0_ok, sPutI_ap, kPr2_ok, kPr1_ok, sPar_ap, kAs2_s, kAs_ok, sAsg_ap, gN_ap, gT_t, gT_l, gs_nil, kGs_s, gs_cons, kFor_ok, sFor_ap, sWhl_ap, kFd_ok, sFld_ap, kRs_ok, sRaise_ap, kSu_ok, kTr3_t, kTr2_t, kTr2_f, kTr_ok, kTr_ex, sTry_ap, kIE2_s, kIE_s, eIsE_ap, kXf_s, eXf_ap, fin_nx, fin_rt, fin_ex, finI_ex, kFi_s, finI_nx, app_nil, app_cons, ins0_nil, ins0_cons, inSl_f, inSl_l, inSl_i, inSl_b, inSl_s, inSl_n, inSl_t, inSl_c, inSl_o, pad_0, pad_1, get_0, get_1, put_0, put_1, look_v, look_o, look_b, frz_v, frz_o, stay_v, stay_o, stay_b, rd_d, rd_n, rds_nil, kRd_s, rds_cons, wipe_nil, wipe_cons, rest_nil, rest_cons, all_nil, all_cons, stb_e, stb_v, stb_b, noX_nil, noX_e, noX_v, noX_o, noX_b, true_and', tbl_ap, putFd_nil, putFd_cons, dAdd_i, dSub_i, dNeg_i, dLt_i, dLe_i, dGt_i, dGe_i, dEq_i, dNe_i, dEq_b, dNe_b, dEq_s, dNe_s, o1_ap, dAbs_i, dInt_i, dInt_b, dBool_i, dLen_l, dLen_t, dLen_c, dIx_l, dIx_t, dIx_c, at_0, at_1, at_2, at_3, isT_ii, isT_bi, isT_bb, isT_ss, isT_ll, isT_tt, isB2_i, map_s, dRev_l, dTup_l, dTup_t, dLst_l, dLst_t, dCut_l, dCutL_l, dGcd_i, isB_b, isS_s, mul_r, mul_l, dDiv_r, dMod_i, kGb_s, kGe_s,   decide_true, decide_false, Bool.not_true, Bool.not_false, Bool.and_true, Bool.and_false, Bool.false_and, if_true, if_false, ite_true, ite_false, Bool.false_eq_true, List.lookup_cons, List.lookup_nil, List.length_cons, List.length_nil, Nat.reduceBEq, Nat.reduceLT, Nat.reduceLeDiff, Nat.zero_le, seqMax, List.length_map, Nat.reduceAdd, Nat.reduceEqDiff, Nat.reducePow, Int.reduceNe, Int.reduceEq, Int.reduceLT, Int.reduceLE, Int.reduceBEq, Int.reduceNeg, Int.natAbs_neg, ne_eq, not_true, not_false_eq_true, and_self, true_and, and_true, beq_self_eq_true, turn_ap, kTn1_s, kTn2_t, kTn2_f, kTn2_p, kTn2_n, kTn3_ok, dIn_sl, dIn_st, dNin_sl, dNin_st, dIn_il, dNin_il, kSg2_s, kSg_ok, iSgn_ap, kED_s, eIsED_ap, kX2_s, kX1_ok, kX1_ex, kX0_ok, kX0_ex, eOwnX_ap, kBT4_s, kBT3_ok, kBT3_ex, kBT1_ok, kBT1_ex, eBMT_ap, dIsN_n, dIsN_l, dIsN_t, dIsN_i, dIsN_s, dNotN_n, dNotN_l, dNotN_t, dNotN_i, dNotN_s, dBAnd_i, dBOr_i, dMin2_i, dMax2_i, dCut_t, dCut_c, dCut_l2, Int.cast_ofNat_Int, at_4, at_5, at_6, at_7, at_8, at_9, at_10, at_11, at_12, at_13, $hs,*])
/-! joined texts; rows with a star; a loop over an own object's tuple -/
theorem strsL_s : ∀ xs : List Str, strsL (xs.map D.str) = some xs
  | [] => rfl
  | x :: xs => by rw [List.map_cons, strsL, strsL_s xs]; rfl
theorem dJoin_l {a : Str} {xs : List Str} (h : (xs.map (·.length)).sum + xs.length * a.length ≤ 16777216) : dJoin (.str a) [.lst (xs.map D.str)] = some (.str (Str.join a xs)) := by
  show (strsL _).bind (joinZ a) = _
  rw [strsL_s]
  exact if_pos h
theorem sum_le {B : Nat} : ∀ {xs : List Str}, (∀ x ∈ xs, x.length ≤ B) → (xs.map (·.length)).sum ≤ xs.length * B
  | [], _ => by simp
  | x :: xs, h => by
    have ih := sum_le (xs := xs) fun y hy => h y (by simp [hy])
    have h1 := h x (by simp)
    rw [List.map_cons, List.sum_cons, List.length_cons, Nat.succ_mul]
    omega
theorem join_len (a : Str) : ∀ xs : List Str, (Str.join a xs).length ≤ (xs.map (·.length)).sum + xs.length * a.length
  | [] => Nat.zero_le _
  | [x] => by
    show x.length ≤ _
    simp
  | x :: y :: r => by
    have h := join_len a (y :: r)
    show (x ++ a ++ Str.join a (y :: r)).length ≤ _
    rw [app_len, app_len]
    simp only [List.map_cons, List.sum_cons, List.length_cons, Nat.succ_mul] at h ⊢
    omega
/-- every sign of a joined text is of a part or of the joint -/
theorem join_all {P : Nat → Prop} {a : Str} (ha : ∀ c ∈ a.cps.toList, P c) : ∀ {xs : List Str}, (∀ x ∈ xs, ∀ c ∈ x.cps.toList, P c) → ∀ c ∈ (Str.join a xs).cps.toList, P c
  | [], _ => fun c hc => by
    have : (Str.join a []).cps.toList = [] := rfl
    rw [this] at hc; cases hc
  | [x], h => fun c hc => h x (by simp) c hc
  | x :: y :: r, h => fun c hc => by
    have ih := join_all ha (xs := y :: r) fun z hz => h z (List.mem_cons_of_mem _ hz)
    have e : (Str.join a (x :: y :: r)).cps.toList = (x.cps.toList ++ a.cps.toList) ++ (Str.join a (y :: r)).cps.toList := by
      show (x ++ a ++ Str.join a (y :: r)).cps.toList = _
      rw [app_cps, app_cps]
    rw [e] at hc
    rcases List.mem_append.mp hc with hc | hc
    · rcases List.mem_append.mp hc with hc | hc
      · exact h x (by simp) c hc
      · exact ha c hc
    · exact ih c hc
theorem sp1 : (" " : Str).length = 1 := rfl
theorem nl1 : ("\n" : Str).length = 1 := rfl
theorem sp_cps : (" " : Str).cps.toList = [32] := by decide +kernel
theorem nl_cps : ("\n" : Str).cps.toList = [10] := by decide +kernel
theorem kd_s (s : Str) : kindD "str" (.str s) = true := rfl
theorem kd_l (xs : List D) : kindD "list" (.lst xs) = true := rfl
theorem lStar_of {a : EV} {r : LV} {Γ Γ1 Γ2 : Ed.Env} {d : D} {ds es : List D} (h : a Γ = .ok (d, Γ1)) (h2 : items d = some ds) (h3 : r Γ1 = .ok (es, Γ2)) : lStar a r Γ = .ok (ds ++ es, Γ2) := by
  unfold lStar
  rw [h]
  show (match items d with | some ds => (r Γ1).bind fun (es, Γ2) => R.ok (ds ++ es, Γ2) | none => .bad) = _
  rw [h2]
  dsimp only
  rw [h3]; rfl
theorem iOwnT_of {c f : Nat} {a : EV} {Γ Γ1 : Ed.Env} {d : D} {ds : List D} (h : a Γ = .ok (d, Γ1)) (h2 : fld c f d = some (.tup ds)) : iOwnT c f a Γ = .ok (ds, Γ1) := by
  unfold iOwnT
  rw [h]
  show (match fld c f d with | some (.tup ds) => R.ok (ds, Γ1) | _ => .bad) = _
  rw [h2]
theorem eN_v {Γ Γ1 : Ed.Env} {i : Nat} {d : D} (h : get Γ i = .val d) (h2 : put Γ i (.val d) = Γ) : eN i Γ = .ok (d, Γ) := by
  unfold eN
  rw [h]
  show R.ok (d, put Γ i (.val d)) = _
  rw [h2]
end K04

set_option autoImplicit true
set_option Elab.async false
set_option linter.all false
set_option maxRecDepth 100000
set_option exponentiation.threshold 10000
set_option maxHeartbeats 4000000
namespace K04
open PySem Ed
local macro_rules | `(tactic| simp? only [$hs,*]) => `(tactic| simp (implicitDefEqProofs := false) only [kR_s, eC_ap, eN_ap, kN_s, pN_ap, kP_s, kpE_ok, kpE_ex, pE_ap, kU2_s, kU_ok, kU_ex, eU_ap, kB3_s, kB2_ok, kB2_ex, kB1_ok, kB1_ex, eB_ap, kF2_s, kF_ok, kF_ex, eF_ap, aNil_ap, lNil_ap, kA2_ok, kA2_ex, kA1_ok, kA1_ex, aCons_ap, kL2_ok, kL2_ex, kL1_ok, kL1_ex, lCons_ap, kSz_t, kTp_ok, kTp_ex, kLs_ok, kLs_ex, eTup_ap, nLst_ap, kIf_t, kIf_f, kIf_ex, tC_ap, eAnd_ap, eOr_ap, eNot_ap, eIf_ap, sIf_ap, kE2_b, kE_ok, kE_ex, tE_ap, kT3_s, kT2_s, kT_ok, kT_ex, tTru_ap, tru_int, tru_bl, tru_lst, tru_tup, tru_non, tYs_ap, eCB_ap, eAndV_ap, eOrV_ap, eNotV_ap, kCh4_s, kCh3_ok, kCh3_ex, kCh2_t, kCh2_f, kCh1_s, kCh0_ok, kCh0_ex, kCh_ok, kCh_ex, eChain_ap, callF_ap, kCp_s, kC_ok, kC_ex, kCd_ok, kCd_ex, kFr2_r, kFr_ok, kFr_ex, kC1_ok, kC1_ex, eCall_ap, kC2_ok, kC2_ex, nCall_ap, dfz, dfr, prep0, pK_s, prep_d, prep_t, pKt_s, prep_f, pKf_s, mkF_ap, kMk_ok, kMk_ex, kFl_ok, kFl_ex, eFld_ap, fld_s, kO2_s, kO1_ok, kO1_ex, kO0_ok, kO0_ex, eOwn2_ap, kOC3_s, kOC2_ok, kOC2_ex, kOC1_s, kOC0_ok, kOC0_ex, eOwnC_ap, kM2_ok, kM2_ex, kM1_s, kM0_ok, kM0_ex, eMeth_ap, eJs_nil, kJz_t, kJ2_s, kJ_ok, kJ_ex, eJs_cons, kSl4_s, kSl3_s, kSl2_s, kSl1_s, eSl_ap, oP_n, kOp2_s, kOp_s, oP_s, kLc2_s, kLc1_t, kLc_ok, eLc_ap, kIs2_s, kIs_ok, iSeq_ap, it_l, it_t, kIn_s, iN_ap, kRg_ok, iRg1_ap, kRh2_ok, kRh1_ok, iRg2_ap, sNext_ap, sBrk_ap, sCnt_ap, sRetN_ap, kS_nx, kS_rt, kS_bk, kS_ct, kS_ex, sSeq_ap, kSet_ok, kSet_ex, sSet_ap, kOwn_ok, kOwn_ex, sOwn_ap, kDrp_ok, kDrp_ex, sDrop_ap, kRet_ok, kRet_ex, sRet_ap, kReO_ok, kReO_ex, sRetO_ap, sRetX_ap, kRx_o, kRx_v, kAp3_t, kAp2_o, kAp1_ok, kAp0_s, sApp_ap, kPi4_s, kPi3_s, kPi2_ok, kPi1_s, kPi0_ok, sPutI_ap, kPr2_ok, kPr1_ok, sPar_ap, kAs2_s, kAs_ok, sAsg_ap, gN_ap, gT_t, gT_l, gs_nil, kGs_s, gs_cons, kFor_ok, sFor_ap, sWhl_ap, kFd_ok, sFld_ap, kRs_ok, sRaise_ap, kSu_ok, kTr3_t, kTr2_t, kTr2_f, kTr_ok, kTr_ex, sTry_ap, kIE2_s, kIE_s, eIsE_ap, kXf_s, eXf_ap, fin_nx, fin_rt, fin_ex, finI_ex, kFi_s, finI_nx, app_nil, app_cons, ins0_nil, ins0_cons, inSl_f, inSl_l, inSl_i, inSl_b, inSl_s, inSl_n, inSl_t, inSl_c, inSl_o, pad_0, pad_1, get_0, get_1, put_0, put_1, look_v, look_o, look_b, frz_v, frz_o, stay_v, stay_o, stay_b, rd_d, rd_n, rds_nil, kRd_s, rds_cons, wipe_nil, wipe_cons, rest_nil, rest_cons, all_nil, all_cons, stb_e, stb_v, stb_b, noX_nil, noX_e, noX_v, noX_o, noX_b, true_and', tbl_ap, putFd_nil, putFd_cons, dAdd_i, dSub_i, dNeg_i, dLt_i, dLe_i, dGt_i, dGe_i, dEq_i, dNe_i, dEq_b, dNe_b, dEq_s, dNe_s, o1_ap, dAbs_i, dInt_i, dInt_b, dBool_i, dLen_l, dLen_t, dLen_c, dIx_l, dIx_t, dIx_c, at_0, at_1, at_2, at_3, isT_ii, isT_bi, isT_bb, isT_ss, isT_ll, isT_tt, isB2_i, map_s, dRev_l, dTup_l, dTup_t, dLst_l, dLst_t, dCut_l, dCutL_l, dGcd_i, isB_b, isS_s, mul_r, mul_l, dDiv_r, dMod_i, kGb_s, kGe_s,   decide_true, decide_false, Bool.not_true, Bool.not_false, Bool.and_true, Bool.and_false, Bool.false_and, if_true, if_false, ite_true, ite_false, Bool.false_eq_true, List.lookup_cons, List.lookup_nil, List.length_cons, List.length_nil, Nat.reduceBEq, Nat.reduceLT, Nat.reduceLeDiff, Nat.zero_le, seqMax, List.length_map, Nat.reduceAdd, Nat.reduceEqDiff, Nat.reducePow, Int.reduceNe, Int.reduceEq, Int.reduceLT, Int.reduceLE, Int.reduceBEq, Int.reduceNeg, Int.natAbs_neg, ne_eq, not_true, not_false_eq_true, and_self, true_and, and_true, beq_self_eq_true, turn_ap, kTn1_s, kTn2_t, kTn2_f, kTn2_p, kTn2_n, kTn3_ok, dIn_sl, dIn_st, dNin_sl, dNin_st, dIn_il, dNin_il, kSg2_s, kSg_ok, iSgn_ap, kED_s, eIsED_ap, kX2_s, kX1_ok, kX1_ex, kX0_ok, kX0_ex, eOwnX_ap, kBT4_s, kBT3_ok, kBT3_ex, kBT1_ok, kBT1_ex, eBMT_ap, dIsN_n, dIsN_l, dIsN_t, dIsN_i, dIsN_s, dNotN_n, dNotN_l, dNotN_t, dNotN_i, dNotN_s, dBAnd_i, dBOr_i, dMin2_i, dMax2_i, dCut_t, dCut_c, dCut_l2, Int.cast_ofNat_Int, at_4, at_5, at_6, at_7, at_8, at_9, at_10, at_11, at_12, at_13, $hs,*])
/-! rows: _law_marks (k02, k04 ..) -/
def MkI (ns : List Str) (pool : List Int) (at_ : Int) (i : Nat) (Γ : Ed.Env) : Prop := ∃ (b : Int) (r : List Str) (j5 : Sl), Γ = [.bor (sL ns), .bor (iL pool), .val (.int at_), .own (sL r), .val (.int b), j5, .emp, .emp, .emp, .emp] ∧ r.Sublist (ns.take i)
theorem marks_step0 (fu : Nat) {ns : List Str} {pool : List Int} {at_ : Int} {i : Nat} {Γ : Ed.Env} {x : Str} (hn : ns.length ≤ 1000) (hx : ns[i]? = some x) (h : MkI ns pool at_ i Γ) : ∃ Γ2, kGb (lb_law_marks_0 fu) (gN 5 (.str x) Γ) = .ok (.nx, Γ2) ∧ MkI ns pool at_ (i + 1) Γ2 := by
  obtain ⟨d, r, j5, rfl, hs⟩ := h
  have hz : r.length < 16777216 := by
    have := hs.length_le
    rw [List.length_take] at this
    omega
  have ht := take_s hx
  unfold lb_law_marks_0
  by_cases hp : d.fmod 2 = 1
  · refine' ⟨_, ?_, ?_⟩
    rotate_left
    · simp? only [hp, hz]
      rfl
    · exact ⟨_, r ++ [x], _, by rw [map_app1], by rw [ht]; exact hs.append (List.Sublist.refl _)⟩
  · have hp2 : (d.fmod 2 == 1) = false := by simp [hp]
    refine' ⟨_, ?_, ?_⟩
    rotate_left
    · simp? only [hp2, hz]
      rfl
    · exact ⟨_, r, _, rfl, by rw [ht]; exact hs.trans (List.sublist_append_left _ _)⟩
def Mk2 (ns hid : List Str) (pool : List Int) (at_ b : Int) (j5 : Sl) (i : Nat) (Γ : Ed.Env) : Prop := ∃ (dr : Int) (left ord : List Str) (j3 j8 j9 : Sl), Γ = [.bor (sL ns), .bor (iL pool), .val (.int at_), .own (sL left), .val (.int b), j5, .val (.int dr), .own (sL ord), j8, j9] ∧ (ord ++ left).Perm hid ∧ ord.length = i
theorem marks_step1 (fu : Nat) {ns hid : List Str} {pool : List Int} {at_ b : Int} {j5 : Sl} {i : Nat} {Γ : Ed.Env} (h2 : hid.length ≤ 1000) (hi : i < hid.length) (h : Mk2 ns hid pool at_ b j5 i Γ) : ∃ Γ2, kGb (lb_law_marks_1 fu) (gN 8 (.int (0 + (i : Int))) Γ) = .ok (.nx, Γ2) ∧ Mk2 ns hid pool at_ b j5 (i + 1) Γ2 := by
  obtain ⟨dr, left, ord, j3, j8, j9, rfl, hp, hl⟩ := h
  have hlen := hp.length_eq
  rw [List.length_append] at hlen
  have hz : ord.length < 16777216 := by omega
  have hm := fm_lt dr (m := (left.length : Int)) (by omega)
  have hne : (left.length : Int) ≠ 0 := by omega
  have hdv : (left.length : Int) ≠ 0 ∧ (left.length : Int).natAbs < 2 ^ 8000 := ⟨hne, Nat.lt_of_lt_of_le (show (left.length : Int).natAbs < 2 ^ 10 by omega) (Nat.pow_le_pow_right (by decide) (by decide))⟩
  generalize hq : dr.fmod (left.length : Int) = q at hm
  have a2 := at_map (f := D.str) (l := left) (k := q) default hm.1 hm.2
  have gx : left[q.toNat]? = some (left.getD q.toNat default) := by
    rw [List.getD_eq_getElem?_getD, List.getElem?_eq_getElem (by omega)]; rfl
  have c1 := cut_to (l := left.map D.str) hm.1
  have c2 := cut_from (l := left.map D.str) (k := q + 1) (by omega)
  have ad : dCat (.lst ((left.map D.str).take q.toNat)) (.lst ((left.map D.str).drop (q + 1).toNat)) = some (sL (left.take q.toNat ++ left.drop (q.toNat + 1))) := by
    rw [dCat_L (by simp; omega), show (q + 1).toNat = q.toNat + 1 by omega]
    simp
  unfold lb_law_marks_1
  refine' ⟨_, ?_, ?_⟩
  rotate_left
  · apply gb_of
    · rfl
    try simp only [put_0, put_1]
    apply seq_nx
    · simp? only [dMod_i hne, hq]
      rfl
    apply seq_nx
    · simp? only [dDiv_i hdv]
      rfl
    apply seq_nx
    · simp? only [a2, hz]
      rfl
    simp? only [c1, c2, ad, dCut_s]
    rfl
  · refine ⟨_, left.take q.toNat ++ left.drop (q.toNat + 1), ord ++ [left.getD q.toNat default], .emp, _, _, by rw [map_app1], ?_, by simp [hl]⟩
    refine List.Perm.trans ?_ hp
    rw [List.append_assoc]
    exact List.Perm.append_left _ (pick_perm gx)
theorem marks_ok (fu : Nat) {ns : List Str} {pool : List Int} {at_ : Int} (hn : ns.Nodup) (hl : ns.length ≤ 1000) (h : 0 ≤ at_) (h2 : at_ + 2 < pool.length) : ∃ r : List Str, F_law_marks fu [sL ns, iL pool, .int at_] = .ok (.fr (sL r)) ∧ RowOk ns r := by
  have a0 := at_map (f := D.int) (l := pool) (k := at_) 0 h (by omega)
  have a1 := at_map (f := D.int) (l := pool) (k := at_ + 1) 0 (by omega) (by omega)
  have a2 := at_map (f := D.int) (l := pool) (k := at_ + 2) 0 (by omega) (by omega)
  generalize pool.getD at_.toNat 0 = u0 at a0
  generalize pool.getD (at_ + 1).toNat 0 = u1 at a1
  generalize pool.getD (at_ + 2).toNat 0 = u2 at a2
  obtain ⟨Γ', e, b, r, j5, rfl, hs⟩ := forL_m (g := gN 5) (s := lb_law_marks_0 fu) (f := D.str) (xs := ns) (P := MkI ns pool at_) (Γ := [.bor (sL ns), .bor (iL pool), .val (.int at_), .own (.lst []), .val (.int u0), .emp, .emp, .emp, .emp, .emp]) ⟨u0, [], _, rfl, List.nil_sublist _⟩ fun i x Γ hi p => marks_step0 fu hl hi p
  rw [List.take_length] at hs
  have hrl := hs.length_le
  obtain ⟨Γ', e2, dr, left, ord, j3, j8, j9, rfl, hp, hlo⟩ := forL_rm (g := gN 8) (s := lb_law_marks_1 fu) (lo := 0) (m := r.length) (P := Mk2 ns r pool at_ b j5) (Γ := [.bor (sL ns), .bor (iL pool), .val (.int at_), .own (sL r), .val (.int b), j5, .val (.int (u1 * 27720 + u2)), .own (.lst []), .emp, .emp]) ⟨_, r, [], .emp, _, _, rfl, List.Perm.refl _, rfl⟩ fun i Γ hi p => marks_step1 fu (by omega) hi p
  have hleft : left = [] := by
    have := hp.length_eq
    rw [List.length_append] at this
    exact List.length_eq_zero_iff.mp (by omega)
  subst hleft
  rw [List.append_nil] at hp
  have tn : ((r.length : Int)).toNat = r.length := by omega
  refine ⟨ord, ?_, hp.nodup_iff.mpr (hn.sublist hs), fun x hx => hs.mem (hp.mem_iff.mp hx)⟩
  unfold F_law_marks sv_law_marks sg_law_marks_2
  rw [runF_ap rfl]
  apply fin_of
  try simp only [app_nil, app_cons, ins0_nil, ins0_cons, inSl_f, inSl_l, inSl_i, inSl_b, inSl_s, inSl_n, inSl_t, inSl_c, inSl_o, pad_0, pad_1]
  · apply seq_nx
    · simp? only []
      rfl
    apply seq_nx
    · simp? only [a0]
      rfl
    apply seq_nx
    · simp? only [e]
      rfl
    apply seq_nx
    · simp? only [a1, a2]
      rfl
    apply seq_nx
    · simp? only []
      rfl
    apply seq_nx
    · simp? only [kRg2_s (rngB_of (n := (r.length : Int)) (by omega) (by omega)), tn, e2]
      rfl
    simp? only []
    rfl
  · rfl
end K04

set_option autoImplicit true
set_option Elab.async false
set_option linter.all false
set_option maxRecDepth 100000
set_option exponentiation.threshold 10000
set_option maxHeartbeats 4000000
namespace K04
open PySem Ed
local macro_rules | `(tactic| simp? only [$hs,*]) => `(tactic| simp (implicitDefEqProofs := false) only [kR_s, eC_ap, eN_ap, kN_s, pN_ap, kP_s, kpE_ok, kpE_ex, pE_ap, kU2_s, kU_ok, kU_ex, eU_ap, kB3_s, kB2_ok, kB2_ex, kB1_ok, kB1_ex, eB_ap, kF2_s, kF_ok, kF_ex, eF_ap, aNil_ap, lNil_ap, kA2_ok, kA2_ex, kA1_ok, kA1_ex, aCons_ap, kL2_ok, kL2_ex, kL1_ok, kL1_ex, lCons_ap, kSz_t, kTp_ok, kTp_ex, kLs_ok, kLs_ex, eTup_ap, nLst_ap, kIf_t, kIf_f, kIf_ex, tC_ap, eAnd_ap, eOr_ap, eNot_ap, eIf_ap, sIf_ap, kE2_b, kE_ok, kE_ex, tE_ap, kT3_s, kT2_s, kT_ok, kT_ex, tTru_ap, tru_int, tru_bl, tru_lst, tru_tup, tru_non, tYs_ap, eCB_ap, eAndV_ap, eOrV_ap, eNotV_ap, kCh4_s, kCh3_ok, kCh3_ex, kCh2_t, kCh2_f, kCh1_s, kCh0_ok, kCh0_ex, kCh_ok, kCh_ex, eChain_ap, callF_ap, kCp_s, kC_ok, kC_ex, kCd_ok, kCd_ex, kFr2_r, kFr_ok, kFr_ex, kC1_ok, kC1_ex, eCall_ap, kC2_ok, kC2_ex, nCall_ap, dfz, dfr, prep0, pK_s, prep_d, prep_t, pKt_s, prep_f, pKf_s, mkF_ap, kMk_ok, kMk_ex, kFl_ok, kFl_ex, eFld_ap, fld_s, kO2_s, kO1_ok, kO1_ex, kO0_ok, kO0_ex, eOwn2_ap, kOC3_s, kOC2_ok, kOC2_ex, kOC1_s, kOC0_ok, kOC0_ex, eOwnC_ap, kM2_ok, kM2_ex, kM1_s, kM0_ok, kM0_ex, eMeth_ap, eJs_nil, kJz_t, kJ2_s, kJ_ok, kJ_ex, eJs_cons, kSl4_s, kSl3_s, kSl2_s, kSl1_s, eSl_ap, oP_n, kOp2_s, kOp_s, oP_s, kLc2_s, kLc1_t, kLc_ok, eLc_ap, kIs2_s, kIs_ok, iSeq_ap, it_l, it_t, kIn_s, iN_ap, kRg_ok, iRg1_ap, kRh2_ok, kRh1_ok, iRg2_ap, sNext_ap, sBrk_ap, sCnt_ap, sRetN_ap, kS_nx, kS_rt, kS_bk, kS_ct, kS_ex, sSeq_ap, kSet_ok, kSet_ex, sSet_ap, kOwn_ok, kOwn_ex, sOwn_ap, kDrp_ok, kDrp_ex, sDrop_ap, kRet_ok, kRet_ex, sRet_ap, kReO_ok, kReO_ex, sRetO_ap, sRetX_ap, kRx_o, kRx_v, kAp3_t, kAp2_o, kAp1_ok, kAp0_s, sApp_ap, kPi4_s, kPi3_s, kPi2_ok, kPi1_s, kPi0_ok, sPutI_ap, kPr2_ok, kPr1_ok, sPar_ap, kAs2_s, kAs_ok, sAsg_ap, gN_ap, gT_t, gT_l, gs_nil, kGs_s, gs_cons, kFor_ok, sFor_ap, sWhl_ap, kFd_ok, sFld_ap, kRs_ok, sRaise_ap, kSu_ok, kTr3_t, kTr2_t, kTr2_f, kTr_ok, kTr_ex, sTry_ap, kIE2_s, kIE_s, eIsE_ap, kXf_s, eXf_ap, fin_nx, fin_rt, fin_ex, finI_ex, kFi_s, finI_nx, app_nil, app_cons, ins0_nil, ins0_cons, inSl_f, inSl_l, inSl_i, inSl_b, inSl_s, inSl_n, inSl_t, inSl_c, inSl_o, pad_0, pad_1, get_0, get_1, put_0, put_1, look_v, look_o, look_b, frz_v, frz_o, stay_v, stay_o, stay_b, rd_d, rd_n, rds_nil, kRd_s, rds_cons, wipe_nil, wipe_cons, rest_nil, rest_cons, all_nil, all_cons, stb_e, stb_v, stb_b, noX_nil, noX_e, noX_v, noX_o, noX_b, true_and', tbl_ap, putFd_nil, putFd_cons, dAdd_i, dSub_i, dNeg_i, dLt_i, dLe_i, dGt_i, dGe_i, dEq_i, dNe_i, dEq_b, dNe_b, dEq_s, dNe_s, o1_ap, dAbs_i, dInt_i, dInt_b, dBool_i, dLen_l, dLen_t, dLen_c, dIx_l, dIx_t, dIx_c, at_0, at_1, at_2, at_3, isT_ii, isT_bi, isT_bb, isT_ss, isT_ll, isT_tt, isB2_i, map_s, dRev_l, dTup_l, dTup_t, dLst_l, dLst_t, dCut_l, dCutL_l, dGcd_i, isB_b, isS_s, mul_r, mul_l, dDiv_r, dMod_i, kGb_s, kGe_s,   decide_true, decide_false, Bool.not_true, Bool.not_false, Bool.and_true, Bool.and_false, Bool.false_and, if_true, if_false, ite_true, ite_false, Bool.false_eq_true, List.lookup_cons, List.lookup_nil, List.length_cons, List.length_nil, Nat.reduceBEq, Nat.reduceLT, Nat.reduceLeDiff, Nat.zero_le, seqMax, List.length_map, Nat.reduceAdd, Nat.reduceEqDiff, Nat.reducePow, Int.reduceNe, Int.reduceEq, Int.reduceLT, Int.reduceLE, Int.reduceBEq, Int.reduceNeg, Int.natAbs_neg, ne_eq, not_true, not_false_eq_true, and_self, true_and, and_true, beq_self_eq_true, turn_ap, kTn1_s, kTn2_t, kTn2_f, kTn2_p, kTn2_n, kTn3_ok, dIn_sl, dIn_st, dNin_sl, dNin_st, dIn_il, dNin_il, kSg2_s, kSg_ok, iSgn_ap, kED_s, eIsED_ap, kX2_s, kX1_ok, kX1_ex, kX0_ok, kX0_ex, eOwnX_ap, kBT4_s, kBT3_ok, kBT3_ex, kBT1_ok, kBT1_ex, eBMT_ap, dIsN_n, dIsN_l, dIsN_t, dIsN_i, dIsN_s, dNotN_n, dNotN_l, dNotN_t, dNotN_i, dNotN_s, dBAnd_i, dBOr_i, dMin2_i, dMax2_i, dCut_t, dCut_c, dCut_l2, Int.cast_ofNat_Int, at_4, at_5, at_6, at_7, at_8, at_9, at_10, at_11, at_12, at_13, $hs,*])
/-! drawn columns -/
def sizesL : List Int := [3, 4, 5, 2, 8, 6, 9, 10, 1, 7, 0, 12, 11]
theorem sizes_b : ∀ k < 13, 0 ≤ sizesL.getD k 0 ∧ sizesL.getD k 0 ≤ 12 := by decide +kernel
def Cols (cols : List Str) : Prop := cols.Nodup ∧ ∀ s ∈ cols, nameOk s
theorem Cols.add {cols : List Str} {w : Str} (h : Cols cols) (hw : nameOk w) (hn : w ∉ cols) : Cols (cols ++ [w]) := by
  refine ⟨?_, mem_app1 h.2 hw⟩
  rw [List.nodup_append]
  refine ⟨h.1, by simp, fun a ha b hb e => ?_⟩
  rw [List.mem_singleton.mp hb] at e
  exact hn (e ▸ ha)
theorem Cols.ok {cols : List Str} (h : Cols cols) : ∀ x ∈ cols, okS x := fun x hx => (h.2 x hx).ok
theorem Cols.sub {cols q : List Str} (h : Cols cols) (s : q.Sublist cols) : Cols q := ⟨h.1.sublist s, fun x hx => h.2 x (s.mem hx)⟩
theorem Cols.perm {cols q : List Str} (h : Cols cols) (s : q.Perm cols) : Cols q := ⟨s.nodup_iff.mpr h.1, fun x hx => h.2 x (s.mem_iff.mp hx)⟩
/-- a column exchanged for a new one -/
theorem nodup_set {α : Type} {x : α} : ∀ {l : List α} {k : Nat}, l.Nodup → x ∉ l → (l.set k x).Nodup
  | [], _, h, _ => h
  | y :: l, 0, h, hx => by
    rw [List.nodup_cons] at h
    show (x :: l).Nodup
    exact List.nodup_cons.mpr ⟨fun z => hx (List.mem_cons_of_mem _ z), h.2⟩
  | y :: l, k + 1, h, hx => by
    rw [List.nodup_cons] at h
    show (y :: l.set k x).Nodup
    refine List.nodup_cons.mpr ⟨fun z => ?_, nodup_set h.2 fun z => hx (List.mem_cons_of_mem _ z)⟩
    rcases List.mem_or_eq_of_mem_set z with z | z
    · exact h.1 z
    · exact hx (by rw [← z]; simp)
theorem Cols.set {cols : List Str} {w : Str} (h : Cols cols) (hw : nameOk w) (hn : w ∉ cols) (k : Nat) : Cols (cols.set k w) := by
  refine ⟨nodup_set h.1 hn, fun s hs => ?_⟩
  rcases List.mem_or_eq_of_mem_set hs with z | z
  · exact h.2 s z
  · rw [z]; exact hw
theorem ixN_of {n : Nat} {k : Int} (h : 0 ≤ k) (h2 : k < n) : ixN n k = some k.toNat := by unfold ixN; rw [if_pos h, if_pos h2]
theorem rng0 (n : Nat) : rngL 0 n = (List.range n).map fun (k : Nat) => D.int (k : Int) := by
  unfold rngL
  refine List.map_congr_left fun k _ => ?_
  rw [Int.zero_add]
/-- a row chosen for each number -/
theorem choose_rows {α : Type} [Inhabited α] {n : Nat} {P : Nat → α → Prop} (h : ∀ i < n, ∃ r, P i r) : ∃ f : Nat → α, ∀ i < n, P i (f i) := by
  have h2 : ∀ i : Nat, ∃ r, i < n → P i r := fun i => by
    by_cases hi : i < n
    · obtain ⟨r, hr⟩ := h i hi
      exact ⟨r, fun _ => hr⟩
    · exact ⟨default, fun z => absurd z hi⟩
  exact Classical.axiomOfChoice h2
end K04

set_option autoImplicit true
set_option Elab.async false
set_option linter.all false
set_option maxRecDepth 100000
set_option exponentiation.threshold 10000
set_option maxHeartbeats 4000000
namespace K04
open PySem Ed
local macro_rules | `(tactic| simp? only [$hs,*]) => `(tactic| simp (implicitDefEqProofs := false) only [kR_s, eC_ap, eN_ap, kN_s, pN_ap, kP_s, kpE_ok, kpE_ex, pE_ap, kU2_s, kU_ok, kU_ex, eU_ap, kB3_s, kB2_ok, kB2_ex, kB1_ok, kB1_ex, eB_ap, kF2_s, kF_ok, kF_ex, eF_ap, aNil_ap, lNil_ap, kA2_ok, kA2_ex, kA1_ok, kA1_ex, aCons_ap, kL2_ok, kL2_ex, kL1_ok, kL1_ex, lCons_ap, kSz_t, kTp_ok, kTp_ex, kLs_ok, kLs_ex, eTup_ap, nLst_ap, kIf_t, kIf_f, kIf_ex, tC_ap, eAnd_ap, eOr_ap, eNot_ap, eIf_ap, sIf_ap, kE2_b, kE_ok, kE_ex, tE_ap, kT3_s, kT2_s, kT_ok, kT_ex, tTru_ap, tru_int, tru_bl, tru_lst, tru_tup, tru_non, tYs_ap, eCB_ap, eAndV_ap, eOrV_ap, eNotV_ap, kCh4_s, kCh3_ok, kCh3_ex, kCh2_t, kCh2_f, kCh1_s, kCh0_ok, kCh0_ex, kCh_ok, kCh_ex, eChain_ap, callF_ap, kCp_s, kC_ok, kC_ex, kCd_ok, kCd_ex, kFr2_r, kFr_ok, kFr_ex, kC1_ok, kC1_ex, eCall_ap, kC2_ok, kC2_ex, nCall_ap, dfz, dfr, prep0, pK_s, prep_d, prep_t, pKt_s, prep_f, pKf_s, mkF_ap, kMk_ok, kMk_ex, kFl_ok, kFl_ex, eFld_ap, fld_s, kO2_s, kO1_ok, kO1_ex, kO0_ok, kO0_ex, eOwn2_ap, kOC3_s, kOC2_ok, kOC2_ex, kOC1_s, kOC0_ok, kOC0_ex, eOwnC_ap, kM2_ok, kM2_ex, kM1_s, kM0_ok, kM0_ex, eMeth_ap, eJs_nil, kJz_t, kJ2_s, kJ_ok, kJ_ex, eJs_cons, kSl4_s, kSl3_s, kSl2_s, kSl1_s, eSl_ap, oP_n, kOp2_s, kOp_s, oP_s, kLc2_s, kLc1_t, kLc_ok, eLc_ap, kIs2_s, kIs_ok, iSeq_ap, it_l, it_t, kIn_s, iN_ap, kRg_ok, iRg1_ap, kRh2_ok, kRh1_ok, iRg2_ap, sNext_ap, sBrk_ap, sCnt_ap, sRetN_ap, kS_nx, kS_rt, kS_bk, kS_ct, kS_ex, sSeq_ap, kSet_ok, kSet_ex, sSet_ap, kOwn_ok, kOwn_ex, sOwn_ap, kDrp_ok, kDrp_ex, sDrop_ap, kRet_ok, kRet_ex, sRet_ap, kReO_ok, kReO_ex, sRetO_ap, sRetX_ap, kRx_o, kRx_v, kAp3_t, kAp2_o, kAp1_ok, kAp0_s, sApp_ap, kPi4_s, kPi3_s, kPi2_ok, kPi1_s, kPi0_ok, sPutI_ap, kPr2_ok, kPr1_ok, sPar_ap, kAs2_s, kAs_ok, sAsg_ap, gN_ap, gT_t, gT_l, gs_nil, kGs_s, gs_cons, kFor_ok, sFor_ap, sWhl_ap, kFd_ok, sFld_ap, kRs_ok, sRaise_ap, kSu_ok, kTr3_t, kTr2_t, kTr2_f, kTr_ok, kTr_ex, sTry_ap, kIE2_s, kIE_s, eIsE_ap, kXf_s, eXf_ap, fin_nx, fin_rt, fin_ex, finI_ex, kFi_s, finI_nx, app_nil, app_cons, ins0_nil, ins0_cons, inSl_f, inSl_l, inSl_i, inSl_b, inSl_s, inSl_n, inSl_t, inSl_c, inSl_o, pad_0, pad_1, get_0, get_1, put_0, put_1, look_v, look_o, look_b, frz_v, frz_o, stay_v, stay_o, stay_b, rd_d, rd_n, rds_nil, kRd_s, rds_cons, wipe_nil, wipe_cons, rest_nil, rest_cons, all_nil, all_cons, stb_e, stb_v, stb_b, noX_nil, noX_e, noX_v, noX_o, noX_b, true_and', tbl_ap, putFd_nil, putFd_cons, dAdd_i, dSub_i, dNeg_i, dLt_i, dLe_i, dGt_i, dGe_i, dEq_i, dNe_i, dEq_b, dNe_b, dEq_s, dNe_s, o1_ap, dAbs_i, dInt_i, dInt_b, dBool_i, dLen_l, dLen_t, dLen_c, dIx_l, dIx_t, dIx_c, at_0, at_1, at_2, at_3, isT_ii, isT_bi, isT_bb, isT_ss, isT_ll, isT_tt, isB2_i, map_s, dRev_l, dTup_l, dTup_t, dLst_l, dLst_t, dCut_l, dCutL_l, dGcd_i, isB_b, isS_s, mul_r, mul_l, dDiv_r, dMod_i, kGb_s, kGe_s,   decide_true, decide_false, Bool.not_true, Bool.not_false, Bool.and_true, Bool.and_false, Bool.false_and, if_true, if_false, ite_true, ite_false, Bool.false_eq_true, List.lookup_cons, List.lookup_nil, List.length_cons, List.length_nil, Nat.reduceBEq, Nat.reduceLT, Nat.reduceLeDiff, Nat.zero_le, seqMax, List.length_map, Nat.reduceAdd, Nat.reduceEqDiff, Nat.reducePow, Int.reduceNe, Int.reduceEq, Int.reduceLT, Int.reduceLE, Int.reduceBEq, Int.reduceNeg, Int.natAbs_neg, ne_eq, not_true, not_false_eq_true, and_self, true_and, and_true, beq_self_eq_true, turn_ap, kTn1_s, kTn2_t, kTn2_f, kTn2_p, kTn2_n, kTn3_ok, dIn_sl, dIn_st, dNin_sl, dNin_st, dIn_il, dNin_il, kSg2_s, kSg_ok, iSgn_ap, kED_s, eIsED_ap, kX2_s, kX1_ok, kX1_ex, kX0_ok, kX0_ex, eOwnX_ap, kBT4_s, kBT3_ok, kBT3_ex, kBT1_ok, kBT1_ex, eBMT_ap, dIsN_n, dIsN_l, dIsN_t, dIsN_i, dIsN_s, dNotN_n, dNotN_l, dNotN_t, dNotN_i, dNotN_s, dBAnd_i, dBOr_i, dMin2_i, dMax2_i, dCut_t, dCut_c, dCut_l2, Int.cast_ofNat_Int, at_4, at_5, at_6, at_7, at_8, at_9, at_10, at_11, at_12, at_13, $hs,*])
/-! read_table, of any text -/
abbrev wds (l : Str) : List Str := splS l 32
def hdw (l : Str) : Str := (wds l).getD 0 default
def tlw (l : Str) : List Str := (wds l).drop 1
def colsG (l : Str) : Prop := hdw l = "columns" ∧ (tlw l).length ≤ 12 ∧ ∀ k < (tlw l).length, colOk (tlw l) k
def rowG (cs : List Str) (l : Str) : Prop := hdw l = "row" ∧ RowOk cs (tlw l)
theorem at0_w (l : Str) : at1 ((wds l).map D.str) 0 = some (.str (hdw l)) := by
  have h : 0 < (wds l).length := List.length_pos_iff.mpr (splS_facts l 32).1
  exact at_map (f := D.str) (l := wds l) (k := 0) default (by omega) (by omega)
theorem tl_w (l : Str) : cut ((wds l).map D.str) (some 1) none = (tlw l).map D.str := by
  rw [cut_from (by decide)]
  show ((wds l).map D.str).drop 1 = ((wds l).drop 1).map D.str
  rw [List.map_drop]
theorem tlw_facts {l : Str} {n : Nat} (h : l.length ≤ n) : (tlw l).length ≤ n ∧ ∀ x ∈ tlw l, x.length ≤ n := by
  obtain ⟨_, h1, h2⟩ := splS_facts l 32
  have h1 : (wds l).length ≤ l.length + 1 := h1
  refine ⟨by unfold tlw; rw [List.length_drop]; omega, fun x hx => ?_⟩
  have := (h2 x (List.mem_of_mem_drop hx)).1
  omega
section
variable {text : Str}
theorem read_bad0 (fu : Nat) (ht : text.length ≤ 16700000) (h : ¬ colsG ((splS text 10).getD 0 default)) : F_read_table fu [.str text] = .exc ⟨2, [(4, .int 0)]⟩ [] := by
  obtain ⟨g0, g1, g2⟩ := splS_facts text 10
  have hpos := List.length_pos_iff.mpr g0
  have a0 := at_map (f := D.str) (l := splS text 10) (k := 0) default (by omega) (by omega)
  have l0 := (g2 _ (getD_mem (l := splS text 10) (k := 0) (d := default) hpos)).1
  have a0 : at1 ((splS text 10).map D.str) 0 = some (.str ((splS text 10).getD 0 default)) := a0
  generalize (splS text 10).getD 0 default = l at h a0 l0
  have s1 := split_nl ht
  have s2 := split_sp (s := l) (by omega)
  have aw := at0_w l
  have cw := tl_w l
  obtain ⟨tl1, tl2⟩ := tlw_facts (l := l) (n := 16700000) (by omega)
  obtain ⟨v, ev, hv⟩ := misnamed_gen fu (cs := tlw l) (fun s hs => by have := tl2 s hs; omega) tl1
  unfold F_read_table sv_read_table sg_read_table_1
  by_cases c1 : hdw l = "columns"
  · have n1 : (hdw l == "columns") = true := by rw [c1]; exact beq_self_eq_true _
    by_cases c2 : (tlw l).length ≤ 12
    · have n2 : ¬ (12 : Int) < ((tlw l).length : Int) := by omega
      have n3 : (0 : Int) ≤ v := by
        by_cases z : v < 0
        · exact absurd ⟨c1, c2, hv.mp z⟩ h
        · omega
      rw [runF_ap rfl]
      apply fin_of
      try simp only [app_nil, app_cons, ins0_nil, ins0_cons, inSl_f, inSl_l, inSl_i, inSl_b, inSl_s, inSl_n, inSl_t, inSl_c, inSl_o, pad_0, pad_1]
      · apply seq_nx
        · simp? only [kBT2_s (show kindD "str" (.str text) = true from rfl), s1]
          rfl
        apply seq_nx
        · simp? only [a0, kBT2_s (show kindD "str" (.str l) = true from rfl), s2]
          rfl
        apply seq_nx
        · simp? only [dCut_l2, cw]
          rfl
        apply seq_ex
        · simp? only [aw, n1, n2, ev, n3]
          rfl
        rfl
      · rfl
    · have n2 : (12 : Int) < ((tlw l).length : Int) := by omega
      rw [runF_ap rfl]
      apply fin_of
      try simp only [app_nil, app_cons, ins0_nil, ins0_cons, inSl_f, inSl_l, inSl_i, inSl_b, inSl_s, inSl_n, inSl_t, inSl_c, inSl_o, pad_0, pad_1]
      · apply seq_nx
        · simp? only [kBT2_s (show kindD "str" (.str text) = true from rfl), s1]
          rfl
        apply seq_nx
        · simp? only [a0, kBT2_s (show kindD "str" (.str l) = true from rfl), s2]
          rfl
        apply seq_nx
        · simp? only [dCut_l2, cw]
          rfl
        apply seq_ex
        · simp? only [aw, n1, n2]
          rfl
        rfl
      · rfl
  · have n1 : (hdw l == "columns") = false := beq_eq_false_iff_ne.mpr c1
    rw [runF_ap rfl]
    apply fin_of
    try simp only [app_nil, app_cons, ins0_nil, ins0_cons, inSl_f, inSl_l, inSl_i, inSl_b, inSl_s, inSl_n, inSl_t, inSl_c, inSl_o, pad_0, pad_1]
    · apply seq_nx
      · simp? only [kBT2_s (show kindD "str" (.str text) = true from rfl), s1]
        rfl
      apply seq_nx
      · simp? only [a0, kBT2_s (show kindD "str" (.str l) = true from rfl), s2]
        rfl
      apply seq_nx
      · simp? only [dCut_l2, cw]
        rfl
      apply seq_ex
      · simp? only [aw, n1]
        rfl
      rfl
    · rfl
end
end K04

set_option autoImplicit true
set_option Elab.async false
set_option linter.all false
set_option maxRecDepth 100000
set_option exponentiation.threshold 10000
set_option maxHeartbeats 4000000
namespace K04
open PySem Ed
local macro_rules | `(tactic| simp? only [$hs,*]) => `(tactic| simp (implicitDefEqProofs := false) only [kR_s, eC_ap, eN_ap, kN_s, pN_ap, kP_s, kpE_ok, kpE_ex, pE_ap, kU2_s, kU_ok, kU_ex, eU_ap, kB3_s, kB2_ok, kB2_ex, kB1_ok, kB1_ex, eB_ap, kF2_s, kF_ok, kF_ex, eF_ap, aNil_ap, lNil_ap, kA2_ok, kA2_ex, kA1_ok, kA1_ex, aCons_ap, kL2_ok, kL2_ex, kL1_ok, kL1_ex, lCons_ap, kSz_t, kTp_ok, kTp_ex, kLs_ok, kLs_ex, eTup_ap, nLst_ap, kIf_t, kIf_f, kIf_ex, tC_ap, eAnd_ap, eOr_ap, eNot_ap, eIf_ap, sIf_ap, kE2_b, kE_ok, kE_ex, tE_ap, kT3_s, kT2_s, kT_ok, kT_ex, tTru_ap, tru_int, tru_bl, tru_lst, tru_tup, tru_non, tYs_ap, eCB_ap, eAndV_ap, eOrV_ap, eNotV_ap, kCh4_s, kCh3_ok, kCh3_ex, kCh2_t, kCh2_f, kCh1_s, kCh0_ok, kCh0_ex, kCh_ok, kCh_ex, eChain_ap, callF_ap, kCp_s, kC_ok, kC_ex, kCd_ok, kCd_ex, kFr2_r, kFr_ok, kFr_ex, kC1_ok, kC1_ex, eCall_ap, kC2_ok, kC2_ex, nCall_ap, dfz, dfr, prep0, pK_s, prep_d, prep_t, pKt_s, prep_f, pKf_s, mkF_ap, kMk_ok, kMk_ex, kFl_ok, kFl_ex, eFld_ap, fld_s, kO2_s, kO1_ok, kO1_ex, kO0_ok, kO0_ex, eOwn2_ap, kOC3_s, kOC2_ok, kOC2_ex, kOC1_s, kOC0_ok, kOC0_ex, eOwnC_ap, kM2_ok, kM2_ex, kM1_s, kM0_ok, kM0_ex, eMeth_ap, eJs_nil, kJz_t, kJ2_s, kJ_ok, kJ_ex, eJs_cons, kSl4_s, kSl3_s, kSl2_s, kSl1_s, eSl_ap, oP_n, kOp2_s, kOp_s, oP_s, kLc2_s, kLc1_t, kLc_ok, eLc_ap, kIs2_s, kIs_ok, iSeq_ap, it_l, it_t, kIn_s, iN_ap, kRg_ok, iRg1_ap, kRh2_ok, kRh1_ok, iRg2_ap, sNext_ap, sBrk_ap, sCnt_ap, sRetN_ap, kS_nx, kS_rt, kS_bk, kS_ct, kS_ex, sSeq_ap, kSet_ok, kSet_ex, sSet_ap, kOwn_ok, kOwn_ex, sOwn_ap, kDrp_ok, kDrp_ex, sDrop_ap, kRet_ok, kRet_ex, sRet_ap, kReO_ok, kReO_ex, sRetO_ap, sRetX_ap, kRx_o, kRx_v, kAp3_t, kAp2_o, kAp1_ok, kAp0_s, sApp_ap, kPi4_s, kPi3_s, kPi2_ok, kPi1_s, kPi0_ok, sPutI_ap, kPr2_ok, kPr1_ok, sPar_ap, kAs2_s, kAs_ok, sAsg_ap, gN_ap, gT_t, gT_l, gs_nil, kGs_s, gs_cons, kFor_ok, sFor_ap, sWhl_ap, kFd_ok, sFld_ap, kRs_ok, sRaise_ap, kSu_ok, kTr3_t, kTr2_t, kTr2_f, kTr_ok, kTr_ex, sTry_ap, kIE2_s, kIE_s, eIsE_ap, kXf_s, eXf_ap, fin_nx, fin_rt, fin_ex, finI_ex, kFi_s, finI_nx, app_nil, app_cons, ins0_nil, ins0_cons, inSl_f, inSl_l, inSl_i, inSl_b, inSl_s, inSl_n, inSl_t, inSl_c, inSl_o, pad_0, pad_1, get_0, get_1, put_0, put_1, look_v, look_o, look_b, frz_v, frz_o, stay_v, stay_o, stay_b, rd_d, rd_n, rds_nil, kRd_s, rds_cons, wipe_nil, wipe_cons, rest_nil, rest_cons, all_nil, all_cons, stb_e, stb_v, stb_b, noX_nil, noX_e, noX_v, noX_o, noX_b, true_and', tbl_ap, putFd_nil, putFd_cons, dAdd_i, dSub_i, dNeg_i, dLt_i, dLe_i, dGt_i, dGe_i, dEq_i, dNe_i, dEq_b, dNe_b, dEq_s, dNe_s, o1_ap, dAbs_i, dInt_i, dInt_b, dBool_i, dLen_l, dLen_t, dLen_c, dIx_l, dIx_t, dIx_c, at_0, at_1, at_2, at_3, isT_ii, isT_bi, isT_bb, isT_ss, isT_ll, isT_tt, isB2_i, map_s, dRev_l, dTup_l, dTup_t, dLst_l, dLst_t, dCut_l, dCutL_l, dGcd_i, isB_b, isS_s, mul_r, mul_l, dDiv_r, dMod_i, kGb_s, kGe_s,   decide_true, decide_false, Bool.not_true, Bool.not_false, Bool.and_true, Bool.and_false, Bool.false_and, if_true, if_false, ite_true, ite_false, Bool.false_eq_true, List.lookup_cons, List.lookup_nil, List.length_cons, List.length_nil, Nat.reduceBEq, Nat.reduceLT, Nat.reduceLeDiff, Nat.zero_le, seqMax, List.length_map, Nat.reduceAdd, Nat.reduceEqDiff, Nat.reducePow, Int.reduceNe, Int.reduceEq, Int.reduceLT, Int.reduceLE, Int.reduceBEq, Int.reduceNeg, Int.natAbs_neg, ne_eq, not_true, not_false_eq_true, and_self, true_and, and_true, beq_self_eq_true, turn_ap, kTn1_s, kTn2_t, kTn2_f, kTn2_p, kTn2_n, kTn3_ok, dIn_sl, dIn_st, dNin_sl, dNin_st, dIn_il, dNin_il, kSg2_s, kSg_ok, iSgn_ap, kED_s, eIsED_ap, kX2_s, kX1_ok, kX1_ex, kX0_ok, kX0_ex, eOwnX_ap, kBT4_s, kBT3_ok, kBT3_ex, kBT1_ok, kBT1_ex, eBMT_ap, dIsN_n, dIsN_l, dIsN_t, dIsN_i, dIsN_s, dNotN_n, dNotN_l, dNotN_t, dNotN_i, dNotN_s, dBAnd_i, dBOr_i, dMin2_i, dMax2_i, dCut_t, dCut_c, dCut_l2, Int.cast_ofNat_Int, at_4, at_5, at_6, at_7, at_8, at_9, at_10, at_11, at_12, at_13, $hs,*])
/-- line k is a row's, and not one too many -/
def okLine (cs : List Str) (ls : List Str) (k : Nat) : Prop := k ≤ 48 ∧ rowG cs (ls.getD k default)
def rowsOf (ls : List Str) (n : Nat) : List (List Str) := (List.range n).map fun j => tlw (ls.getD (j + 1) default)
theorem rowsOf_len (ls : List Str) (n : Nat) : (rowsOf ls n).length = n := by unfold rowsOf; simp
theorem rowsOf_succ (ls : List Str) (n : Nat) : (rowsOf ls n).map sL ++ [sL (tlw (ls.getD (n + 1) default))] = (rowsOf ls (n + 1)).map sL := by
  unfold rowsOf
  rw [List.range_succ]; simp
section
variable {cs ls : List Str} {s0 : Sl}
theorem line_turn (fu : Nat) (hs : ∀ l ∈ ls, l.length ≤ 16700000) {i : Nat} (hi : i + 1 < ls.length) (h48 : i ≤ 48) (s2 s5 s6 : Sl) :
    (okLine cs ls (i + 1) ∧ ∃ v2 v6, kGb (lb_read_table_0 fu) (gN 5 (.int (1 + (i : Int))) [s0, .val (sL ls), s2, .val (sL cs), .own (sLL (rowsOf ls i)), s5, s6]) = .ok (.nx, [s0, .val (sL ls), v2, .val (sL cs), .own (sLL (rowsOf ls (i + 1))), .val (.int (1 + (i : Int))), v6])) ∨
    (¬ okLine cs ls (i + 1) ∧ ∃ Γ, kGb (lb_read_table_0 fu) (gN 5 (.int (1 + (i : Int))) [s0, .val (sL ls), s2, .val (sL cs), .own (sLL (rowsOf ls i)), s5, s6]) = .exc ⟨2, [(4, .int (1 + (i : Int)))]⟩ Γ) := by
  have g : at1 (ls.map D.str) (1 + (i : Int)) = some (.str (ls.getD (i + 1) default)) := by
    have := at_mapn (f := D.str) (getD_at hi)
    rw [show ((i + 1 : Nat) : Int) = 1 + (i : Int) by omega] at this
    exact this
  have hl := hs _ (getD_mem (d := default) hi)
  have rs := rowsOf_succ ls i
  have rl := rowsOf_len ls i
  unfold okLine rowG
  generalize ls.getD (i + 1) default = l at g hl rs
  have s2' := split_sp hl
  have aw := at0_w l
  have cw := tl_w l
  obtain ⟨tl1, _⟩ := tlw_facts hl
  obtain ⟨b, eb, hb⟩ := is_row_gen fu (cs := cs) (r := tlw l) tl1
  have hz : (rowsOf ls i).length < 16777216 := by omega
  unfold lb_read_table_0
  by_cases c1 : hdw l = "row"
  · have n1 : (hdw l == "row") = true := by rw [c1]; exact beq_self_eq_true _
    by_cases c2 : i = 48
    · have n2 : (((rowsOf ls i).length : Int) == 48) = true := by rw [rl, beq_iff_eq]; omega
      refine .inr ⟨fun z => (by have := z.1; omega), ?_⟩
      refine' ⟨_, ?_⟩
      rotate_left
      · apply gb_of
        · rfl
        try simp only [put_0, put_1]
        apply seq_nx
        · simp? only [g, kBT2_s (show kindD "str" (.str l) = true from rfl), s2']
          rfl
        apply seq_nx
        · simp? only [dCut_l2, cw]
          rfl
        apply seq_ex
        · simp? only [aw, n1, n2]
          rfl
        rfl
    · have n2 : (((rowsOf ls i).length : Int) == 48) = false := by rw [rl, beq_eq_false_iff_ne]; omega
      cases b with
      | true =>
        refine .inl ⟨⟨by omega, c1, hb.mp rfl⟩, .val (sL (wds l)), .val (sL (tlw l)), ?_⟩
        apply gb_of
        · rfl
        try simp only [put_0, put_1]
        apply seq_nx
        · simp? only [g, kBT2_s (show kindD "str" (.str l) = true from rfl), s2']
          rfl
        apply seq_nx
        · simp? only [dCut_l2, cw]
          rfl
        apply seq_nx
        · simp? only [aw, n1, n2, eb]
          rfl
        simp? only [hz, rs]
      | false =>
        refine .inr ⟨fun z => (by have := hb.mpr z.2.2; cases this), ?_⟩
        refine' ⟨_, ?_⟩
        rotate_left
        · apply gb_of
          · rfl
          try simp only [put_0, put_1]
          apply seq_nx
          · simp? only [g, kBT2_s (show kindD "str" (.str l) = true from rfl), s2']
            rfl
          apply seq_nx
          · simp? only [dCut_l2, cw]
            rfl
          apply seq_ex
          · simp? only [aw, n1, n2, eb]
            rfl
          rfl
  · have n1 : (hdw l == "row") = false := beq_eq_false_iff_ne.mpr c1
    refine .inr ⟨fun z => c1 z.2.1, ?_⟩
    refine' ⟨_, ?_⟩
    rotate_left
    · apply gb_of
      · rfl
      try simp only [put_0, put_1]
      apply seq_nx
      · simp? only [g, kBT2_s (show kindD "str" (.str l) = true from rfl), s2']
        rfl
      apply seq_nx
      · simp? only [dCut_l2, cw]
        rfl
      apply seq_ex
      · simp? only [aw, n1]
        rfl
      rfl
end
end K04

set_option autoImplicit true
set_option Elab.async false
set_option linter.all false
set_option maxRecDepth 100000
set_option exponentiation.threshold 10000
set_option maxHeartbeats 4000000
namespace K04
open PySem Ed
local macro_rules | `(tactic| simp? only [$hs,*]) => `(tactic| simp (implicitDefEqProofs := false) only [kR_s, eC_ap, eN_ap, kN_s, pN_ap, kP_s, kpE_ok, kpE_ex, pE_ap, kU2_s, kU_ok, kU_ex, eU_ap, kB3_s, kB2_ok, kB2_ex, kB1_ok, kB1_ex, eB_ap, kF2_s, kF_ok, kF_ex, eF_ap, aNil_ap, lNil_ap, kA2_ok, kA2_ex, kA1_ok, kA1_ex, aCons_ap, kL2_ok, kL2_ex, kL1_ok, kL1_ex, lCons_ap, kSz_t, kTp_ok, kTp_ex, kLs_ok, kLs_ex, eTup_ap, nLst_ap, kIf_t, kIf_f, kIf_ex, tC_ap, eAnd_ap, eOr_ap, eNot_ap, eIf_ap, sIf_ap, kE2_b, kE_ok, kE_ex, tE_ap, kT3_s, kT2_s, kT_ok, kT_ex, tTru_ap, tru_int, tru_bl, tru_lst, tru_tup, tru_non, tYs_ap, eCB_ap, eAndV_ap, eOrV_ap, eNotV_ap, kCh4_s, kCh3_ok, kCh3_ex, kCh2_t, kCh2_f, kCh1_s, kCh0_ok, kCh0_ex, kCh_ok, kCh_ex, eChain_ap, callF_ap, kCp_s, kC_ok, kC_ex, kCd_ok, kCd_ex, kFr2_r, kFr_ok, kFr_ex, kC1_ok, kC1_ex, eCall_ap, kC2_ok, kC2_ex, nCall_ap, dfz, dfr, prep0, pK_s, prep_d, prep_t, pKt_s, prep_f, pKf_s, mkF_ap, kMk_ok, kMk_ex, kFl_ok, kFl_ex, eFld_ap, fld_s, kO2_s, kO1_ok, kO1_ex, kO0_ok, kO0_ex, eOwn2_ap, kOC3_s, kOC2_ok, kOC2_ex, kOC1_s, kOC0_ok, kOC0_ex, eOwnC_ap, kM2_ok, kM2_ex, kM1_s, kM0_ok, kM0_ex, eMeth_ap, eJs_nil, kJz_t, kJ2_s, kJ_ok, kJ_ex, eJs_cons, kSl4_s, kSl3_s, kSl2_s, kSl1_s, eSl_ap, oP_n, kOp2_s, kOp_s, oP_s, kLc2_s, kLc1_t, kLc_ok, eLc_ap, kIs2_s, kIs_ok, iSeq_ap, it_l, it_t, kIn_s, iN_ap, kRg_ok, iRg1_ap, kRh2_ok, kRh1_ok, iRg2_ap, sNext_ap, sBrk_ap, sCnt_ap, sRetN_ap, kS_nx, kS_rt, kS_bk, kS_ct, kS_ex, sSeq_ap, kSet_ok, kSet_ex, sSet_ap, kOwn_ok, kOwn_ex, sOwn_ap, kDrp_ok, kDrp_ex, sDrop_ap, kRet_ok, kRet_ex, sRet_ap, kReO_ok, kReO_ex, sRetO_ap, sRetX_ap, kRx_o, kRx_v, kAp3_t, kAp2_o, kAp1_ok, kAp0_s, sApp_ap, kPi4_s, kPi3_s, kPi2_ok, kPi1_s, kPi0_ok, sPutI_ap, kPr2_ok, kPr1_ok, sPar_ap, kAs2_s, kAs_ok, sAsg_ap, gN_ap, gT_t, gT_l, gs_nil, kGs_s, gs_cons, kFor_ok, sFor_ap, sWhl_ap, kFd_ok, sFld_ap, kRs_ok, sRaise_ap, kSu_ok, kTr3_t, kTr2_t, kTr2_f, kTr_ok, kTr_ex, sTry_ap, kIE2_s, kIE_s, eIsE_ap, kXf_s, eXf_ap, fin_nx, fin_rt, fin_ex, finI_ex, kFi_s, finI_nx, app_nil, app_cons, ins0_nil, ins0_cons, inSl_f, inSl_l, inSl_i, inSl_b, inSl_s, inSl_n, inSl_t, inSl_c, inSl_o, pad_0, pad_1, get_0, get_1, put_0, put_1, look_v, look_o, look_b, frz_v, frz_o, stay_v, stay_o, stay_b, rd_d, rd_n, rds_nil, kRd_s, rds_cons, wipe_nil, wipe_cons, rest_nil, rest_cons, all_nil, all_cons, stb_e, stb_v, stb_b, noX_nil, noX_e, noX_v, noX_o, noX_b, true_and', tbl_ap, putFd_nil, putFd_cons, dAdd_i, dSub_i, dNeg_i, dLt_i, dLe_i, dGt_i, dGe_i, dEq_i, dNe_i, dEq_b, dNe_b, dEq_s, dNe_s, o1_ap, dAbs_i, dInt_i, dInt_b, dBool_i, dLen_l, dLen_t, dLen_c, dIx_l, dIx_t, dIx_c, at_0, at_1, at_2, at_3, isT_ii, isT_bi, isT_bb, isT_ss, isT_ll, isT_tt, isB2_i, map_s, dRev_l, dTup_l, dTup_t, dLst_l, dLst_t, dCut_l, dCutL_l, dGcd_i, isB_b, isS_s, mul_r, mul_l, dDiv_r, dMod_i, kGb_s, kGe_s,   decide_true, decide_false, Bool.not_true, Bool.not_false, Bool.and_true, Bool.and_false, Bool.false_and, if_true, if_false, ite_true, ite_false, Bool.false_eq_true, List.lookup_cons, List.lookup_nil, List.length_cons, List.length_nil, Nat.reduceBEq, Nat.reduceLT, Nat.reduceLeDiff, Nat.zero_le, seqMax, List.length_map, Nat.reduceAdd, Nat.reduceEqDiff, Nat.reducePow, Int.reduceNe, Int.reduceEq, Int.reduceLT, Int.reduceLE, Int.reduceBEq, Int.reduceNeg, Int.natAbs_neg, ne_eq, not_true, not_false_eq_true, and_self, true_and, and_true, beq_self_eq_true, turn_ap, kTn1_s, kTn2_t, kTn2_f, kTn2_p, kTn2_n, kTn3_ok, dIn_sl, dIn_st, dNin_sl, dNin_st, dIn_il, dNin_il, kSg2_s, kSg_ok, iSgn_ap, kED_s, eIsED_ap, kX2_s, kX1_ok, kX1_ex, kX0_ok, kX0_ex, eOwnX_ap, kBT4_s, kBT3_ok, kBT3_ex, kBT1_ok, kBT1_ex, eBMT_ap, dIsN_n, dIsN_l, dIsN_t, dIsN_i, dIsN_s, dNotN_n, dNotN_l, dNotN_t, dNotN_i, dNotN_s, dBAnd_i, dBOr_i, dMin2_i, dMax2_i, dCut_t, dCut_c, dCut_l2, Int.cast_ofNat_Int, at_4, at_5, at_6, at_7, at_8, at_9, at_10, at_11, at_12, at_13, $hs,*])
section
variable {cs ls : List Str} {s0 : Sl} {text : Str}
/-- the first wrong line behind the head, or none -/
theorem read_loop (fu : Nat) (hs : ∀ l ∈ ls, l.length ≤ 16700000) (s2 s5 s6 : Sl) :
    (∃ (k : Nat) (Γ' : Ed.Env), 1 ≤ k ∧ k < ls.length ∧ ¬ okLine cs ls k ∧ (∀ j, 1 ≤ j → j < k → okLine cs ls j) ∧ forL (gN 5) (lb_read_table_0 fu) (rngL 1 (ls.length - 1)) [s0, .val (sL ls), s2, .val (sL cs), .own (.lst []), s5, s6] = .exc ⟨2, [(4, .int (k : Int))]⟩ Γ') ∨
    ((∀ j, 1 ≤ j → j < ls.length → okLine cs ls j) ∧ ls.length - 1 ≤ 48 ∧ ∃ v2 v5 v6, forL (gN 5) (lb_read_table_0 fu) (rngL 1 (ls.length - 1)) [s0, .val (sL ls), s2, .val (sL cs), .own (.lst []), s5, s6] = .ok (.nx, [s0, .val (sL ls), v2, .val (sL cs), .own (sLL (rowsOf ls (ls.length - 1))), v5, v6])) := by
  have hZ := forL_rg (g := gN 5) (s := lb_read_table_0 fu) (lo := 1) (m := ls.length - 1) (Γ := [s0, .val (sL ls), s2, .val (sL cs), .own (.lst []), s5, s6])
    (Z := fun r => (∃ (k : Nat) (Γ' : Ed.Env), 1 ≤ k ∧ k < ls.length ∧ ¬ okLine cs ls k ∧ (∀ j, 1 ≤ j → j < k → okLine cs ls j) ∧ r = .exc ⟨2, [(4, .int (k : Int))]⟩ Γ') ∨
      ((∀ j, 1 ≤ j → j < ls.length → okLine cs ls j) ∧ ls.length - 1 ≤ 48 ∧ ∃ s2 s5 s6, r = .ok (.nx, [s0, .val (sL ls), s2, .val (sL cs), .own (sLL (rowsOf ls (ls.length - 1))), s5, s6])))
    (P := fun i Γ => (∀ j, 1 ≤ j → j < i + 1 → okLine cs ls j) ∧ ∃ s2 s5 s6, Γ = [s0, .val (sL ls), s2, .val (sL cs), .own (sLL (rowsOf ls i)), s5, s6])
    ⟨fun j h1 h2 => by omega, _, _, _, rfl⟩ (fun i Γ hi ⟨hg, t2, t5, t6, hΓ⟩ => by
      subst hΓ
      have h48 : i ≤ 48 := by
        by_cases h0 : i = 0
        · omega
        · exact (hg i (by omega) (by omega)).1
      rcases line_turn (cs := cs) (s0 := s0) fu hs (i := i) (by omega) h48 t2 t5 t6 with ⟨ok, u2, u6, e⟩ | ⟨bad, Γ2, e⟩
      · refine .inl ⟨_, e, fun j h1 h2 => ?_, _, _, _, rfl⟩
        by_cases z : j = i + 1
        · rw [z]; exact ok
        · exact hg j h1 (by omega)
      · refine .inr ⟨.exc ⟨2, [(4, .int (1 + (i : Int)))]⟩ Γ2, by rw [e]; rfl, .inl ⟨i + 1, Γ2, by omega, by omega, bad, fun j h1 h2 => hg j h1 h2, ?_⟩⟩
        rw [show ((i + 1 : Nat) : Int) = 1 + (i : Int) by omega])
    fun Γ' ⟨hg, t2, t5, t6, hΓ⟩ => by
      subst hΓ
      refine .inr ⟨fun j h1 h2 => hg j h1 (by omega), ?_, _, _, _, rfl⟩
      by_cases h0 : ls.length - 1 = 0
      · omega
      · exact (hg (ls.length - 1) (by omega) (by omega)).1
  exact hZ
theorem head_ok (fu : Nat) (ht : text.length ≤ 16700000) (h : colsG ((splS text 10).getD 0 default)) : ∃ v : Int, v < 0 ∧ F_first_misnamed fu [sL (tlw ((splS text 10).getD 0 default))] = .ok (.fz (.int v)) := by
  obtain ⟨g0, g1, g2⟩ := splS_facts text 10
  have hpos := List.length_pos_iff.mpr g0
  have l0 := (g2 _ (getD_mem (l := splS text 10) (k := 0) (d := default) hpos)).1
  obtain ⟨tl1, tl2⟩ := tlw_facts (l := (splS text 10).getD 0 default) (n := 16700000) (by omega)
  obtain ⟨v, ev, hv⟩ := misnamed_gen fu (cs := tlw ((splS text 10).getD 0 default)) (fun s hs => by have := tl2 s hs; omega) tl1
  exact ⟨v, hv.mpr h.2.2, ev⟩
/-- a text whose head is right: the table, or the first wrong line -/
theorem read_rest (fu : Nat) (ht : text.length ≤ 16700000) (h : colsG ((splS text 10).getD 0 default)) :
    (∃ k : Nat, 1 ≤ k ∧ k < (splS text 10).length ∧ ¬ okLine (tlw ((splS text 10).getD 0 default)) (splS text 10) k ∧ (∀ j, 1 ≤ j → j < k → okLine (tlw ((splS text 10).getD 0 default)) (splS text 10) j) ∧ F_read_table fu [.str text] = .exc ⟨2, [(4, .int (k : Int))]⟩ []) ∨
    ((∀ j, 1 ≤ j → j < (splS text 10).length → okLine (tlw ((splS text 10).getD 0 default)) (splS text 10) j) ∧ F_read_table fu [.str text] = .ok (.fz (tb (tlw ((splS text 10).getD 0 default)) (rowsOf (splS text 10) ((splS text 10).length - 1))))) := by
  obtain ⟨v, hv, ev⟩ := head_ok fu ht h
  obtain ⟨g0, g1, g2⟩ := splS_facts text 10
  have hpos := List.length_pos_iff.mpr g0
  have a0 := at_map (f := D.str) (l := splS text 10) (k := 0) default (by omega) (by omega)
  have a0 : at1 ((splS text 10).map D.str) 0 = some (.str ((splS text 10).getD 0 default)) := a0
  have l0 := (g2 _ (getD_mem (l := splS text 10) (k := 0) (d := default) hpos)).1
  have s1 := split_nl ht
  have lo := read_loop (cs := tlw ((splS text 10).getD 0 default)) (ls := splS text 10) (s0 := .val (.str text)) fu (fun l hl => by have := (g2 l hl).1; omega) (.val (sL (wds ((splS text 10).getD 0 default)))) .emp .emp
  generalize (splS text 10).getD 0 default = l at h a0 l0 lo ev ⊢
  have s2 := split_sp (s := l) (by omega)
  have aw := at0_w l
  have cw := tl_w l
  obtain ⟨c1, c2, c3⟩ := h
  have n1 : (hdw l == "columns") = true := by rw [c1]; exact beq_self_eq_true _
  have n2 : ¬ (12 : Int) < ((tlw l).length : Int) := by omega
  have n3 : ¬ (0 : Int) ≤ v := by omega
  have tn : (((splS text 10).length : Int) - 1).toNat = (splS text 10).length - 1 := by omega
  have rg := fun Γ => kRh3_s (Γ := Γ) (u := 1) (v := ((splS text 10).length : Int)) (by rw [rngB_of (n := 1) (by decide) (by decide), rngB_of (by omega) (by omega)]; rfl)
  generalize splS text 10 = ls at s1 a0 lo tn rg ⊢
  unfold F_read_table sv_read_table sg_read_table_1
  rcases lo with ⟨k, Γ', k1, k2, kb, kg, e⟩ | ⟨hg, h48, t2, t5, t6, e⟩
  · refine .inl ⟨k, k1, k2, kb, kg, ?_⟩
    rw [runF_ap rfl]
    apply fin_of
    try simp only [app_nil, app_cons, ins0_nil, ins0_cons, inSl_f, inSl_l, inSl_i, inSl_b, inSl_s, inSl_n, inSl_t, inSl_c, inSl_o, pad_0, pad_1]
    · apply seq_nx
      · simp? only [kBT2_s (show kindD "str" (.str text) = true from rfl), s1]
        rfl
      apply seq_nx
      · simp? only [a0, kBT2_s (show kindD "str" (.str l) = true from rfl), s2]
        rfl
      apply seq_nx
      · simp? only [dCut_l2, cw]
        rfl
      apply seq_nx
      · simp? only [aw, n1, n2, ev, n3]
        rfl
      apply seq_nx
      · simp? only []
        rfl
      apply seq_ex
      · simp? only [rg, tn, e]
        rfl
      rfl
    · rfl
  · have ti := table_init fu (cs := tlw l) (rows := rowsOf ls (ls.length - 1)) (cols_iff.mp c3).2 (cols_iff.mp c3).1 c2 (fun r hr => by
      unfold rowsOf at hr
      obtain ⟨j, hj, rfl⟩ := List.mem_map.mp hr
      have := List.mem_range.mp hj
      exact (hg (j + 1) (by omega) (by omega)).2.2) (by rw [rowsOf_len]; exact h48)
    refine .inr ⟨hg, ?_⟩
    unfold tb
    rw [runF_ap rfl]
    apply fin_of
    try simp only [app_nil, app_cons, ins0_nil, ins0_cons, inSl_f, inSl_l, inSl_i, inSl_b, inSl_s, inSl_n, inSl_t, inSl_c, inSl_o, pad_0, pad_1]
    · apply seq_nx
      · simp? only [kBT2_s (show kindD "str" (.str text) = true from rfl), s1]
        rfl
      apply seq_nx
      · simp? only [a0, kBT2_s (show kindD "str" (.str l) = true from rfl), s2]
        rfl
      apply seq_nx
      · simp? only [dCut_l2, cw]
        rfl
      apply seq_nx
      · simp? only [aw, n1, n2, ev, n3]
        rfl
      apply seq_nx
      · simp? only []
        rfl
      apply seq_nx
      · simp? only [rg, tn, e]
        rfl
      simp? only [ti]
      rfl
    · rfl
end
end K04

set_option autoImplicit true
set_option Elab.async false
set_option linter.all false
set_option maxRecDepth 100000
set_option exponentiation.threshold 10000
set_option maxHeartbeats 4000000
namespace K04
open PySem Ed
local macro_rules | `(tactic| simp? only [$hs,*]) => `(tactic| simp (implicitDefEqProofs := false) only [kR_s, eC_ap, eN_ap, kN_s, pN_ap, kP_s, kpE_ok, kpE_ex, pE_ap, kU2_s, kU_ok, kU_ex, eU_ap, kB3_s, kB2_ok, kB2_ex, kB1_ok, kB1_ex, eB_ap, kF2_s, kF_ok, kF_ex, eF_ap, aNil_ap, lNil_ap, kA2_ok, kA2_ex, kA1_ok, kA1_ex, aCons_ap, kL2_ok, kL2_ex, kL1_ok, kL1_ex, lCons_ap, kSz_t, kTp_ok, kTp_ex, kLs_ok, kLs_ex, eTup_ap, nLst_ap, kIf_t, kIf_f, kIf_ex, tC_ap, eAnd_ap, eOr_ap, eNot_ap, eIf_ap, sIf_ap, kE2_b, kE_ok, kE_ex, tE_ap, kT3_s, kT2_s, kT_ok, kT_ex, tTru_ap, tru_int, tru_bl, tru_lst, tru_tup, tru_non, tYs_ap, eCB_ap, eAndV_ap, eOrV_ap, eNotV_ap, kCh4_s, kCh3_ok, kCh3_ex, kCh2_t, kCh2_f, kCh1_s, kCh0_ok, kCh0_ex, kCh_ok, kCh_ex, eChain_ap, callF_ap, kCp_s, kC_ok, kC_ex, kCd_ok, kCd_ex, kFr2_r, kFr_ok, kFr_ex, kC1_ok, kC1_ex, eCall_ap, kC2_ok, kC2_ex, nCall_ap, dfz, dfr, prep0, pK_s, prep_d, prep_t, pKt_s, prep_f, pKf_s, mkF_ap, kMk_ok, kMk_ex, kFl_ok, kFl_ex, eFld_ap, fld_s, kO2_s, kO1_ok, kO1_ex, kO0_ok, kO0_ex, eOwn2_ap, kOC3_s, kOC2_ok, kOC2_ex, kOC1_s, kOC0_ok, kOC0_ex, eOwnC_ap, kM2_ok, kM2_ex, kM1_s, kM0_ok, kM0_ex, eMeth_ap, eJs_nil, kJz_t, kJ2_s, kJ_ok, kJ_ex, eJs_cons, kSl4_s, kSl3_s, kSl2_s, kSl1_s, eSl_ap, oP_n, kOp2_s, kOp_s, oP_s, kLc2_s, kLc1_t, kLc_ok, eLc_ap, kIs2_s, kIs_ok, iSeq_ap, it_l, it_t, kIn_s, iN_ap, kRg_ok, iRg1_ap, kRh2_ok, kRh1_ok, iRg2_ap, sNext_ap, sBrk_ap, sCnt_ap, sRetN_ap, kS_nx, kS_rt, kS_bk, kS_ct, kS_ex, sSeq_ap, kSet_ok, kSet_ex, sSet_ap, kOwn_ok, kOwn_ex, sOwn_ap, kDrp_ok, kDrp_ex, sDrop_ap, kRet_ok, kRet_ex, sRet_ap, kReO_ok, kReO_ex, sRetO_ap, sRetX_ap, kRx_o, kRx_v, kAp3_t, kAp2_o, kAp1_ok, kAp0_s, sApp_ap, kPi4_s, kPi3_s, kPi2_ok, kPi1_s, kPi0_ok, sPutI_ap, kPr2_ok, kPr1_ok, sPar_ap, kAs2_s, kAs_ok, sAsg_ap, gN_ap, gT_t, gT_l, gs_nil, kGs_s, gs_cons, kFor_ok, sFor_ap, sWhl_ap, kFd_ok, sFld_ap, kRs_ok, sRaise_ap, kSu_ok, kTr3_t, kTr2_t, kTr2_f, kTr_ok, kTr_ex, sTry_ap, kIE2_s, kIE_s, eIsE_ap, kXf_s, eXf_ap, fin_nx, fin_rt, fin_ex, finI_ex, kFi_s, finI_nx, app_nil, app_cons, ins0_nil, ins0_cons, inSl_f, inSl_l, inSl_i, inSl_b, inSl_s, inSl_n, inSl_t, inSl_c, inSl_o, pad_0, pad_1, get_0, get_1, put_0, put_1, look_v, look_o, look_b, frz_v, frz_o, stay_v, stay_o, stay_b, rd_d, rd_n, rds_nil, kRd_s, rds_cons, wipe_nil, wipe_cons, rest_nil, rest_cons, all_nil, all_cons, stb_e, stb_v, stb_b, noX_nil, noX_e, noX_v, noX_o, noX_b, true_and', tbl_ap, putFd_nil, putFd_cons, dAdd_i, dSub_i, dNeg_i, dLt_i, dLe_i, dGt_i, dGe_i, dEq_i, dNe_i, dEq_b, dNe_b, dEq_s, dNe_s, o1_ap, dAbs_i, dInt_i, dInt_b, dBool_i, dLen_l, dLen_t, dLen_c, dIx_l, dIx_t, dIx_c, at_0, at_1, at_2, at_3, isT_ii, isT_bi, isT_bb, isT_ss, isT_ll, isT_tt, isB2_i, map_s, dRev_l, dTup_l, dTup_t, dLst_l, dLst_t, dCut_l, dCutL_l, dGcd_i, isB_b, isS_s, mul_r, mul_l, dDiv_r, dMod_i, kGb_s, kGe_s,   decide_true, decide_false, Bool.not_true, Bool.not_false, Bool.and_true, Bool.and_false, Bool.false_and, if_true, if_false, ite_true, ite_false, Bool.false_eq_true, List.lookup_cons, List.lookup_nil, List.length_cons, List.length_nil, Nat.reduceBEq, Nat.reduceLT, Nat.reduceLeDiff, Nat.zero_le, seqMax, List.length_map, Nat.reduceAdd, Nat.reduceEqDiff, Nat.reducePow, Int.reduceNe, Int.reduceEq, Int.reduceLT, Int.reduceLE, Int.reduceBEq, Int.reduceNeg, Int.natAbs_neg, ne_eq, not_true, not_false_eq_true, and_self, true_and, and_true, beq_self_eq_true, turn_ap, kTn1_s, kTn2_t, kTn2_f, kTn2_p, kTn2_n, kTn3_ok, dIn_sl, dIn_st, dNin_sl, dNin_st, dIn_il, dNin_il, kSg2_s, kSg_ok, iSgn_ap, kED_s, eIsED_ap, kX2_s, kX1_ok, kX1_ex, kX0_ok, kX0_ex, eOwnX_ap, kBT4_s, kBT3_ok, kBT3_ex, kBT1_ok, kBT1_ex, eBMT_ap, dIsN_n, dIsN_l, dIsN_t, dIsN_i, dIsN_s, dNotN_n, dNotN_l, dNotN_t, dNotN_i, dNotN_s, dBAnd_i, dBOr_i, dMin2_i, dMax2_i, dCut_t, dCut_c, dCut_l2, Int.cast_ofNat_Int, at_4, at_5, at_6, at_7, at_8, at_9, at_10, at_11, at_12, at_13, $hs,*])
/-! what the law reads in a text -/
theorem count_s (xs : List Str) (x : Str) : dLCount (.lst (xs.map D.str)) [.str x] = some (.int (xs.count x : Nat)) := by
  show (strsL _).map _ = _
  rw [strsL_s]; rfl
theorem diff_ok (fu : Nat) {ws kn : List Str} : ∃ b : Bool, F_law_different fu [sL ws, sL kn] = .ok (.fz (.bl b)) ∧ (b = true ↔ ∀ x ∈ ws, ws.count x ≤ 1 ∧ x ∈ kn) := by
  have key : (∃ Γ' : Ed.Env, (¬ ∀ x ∈ ws, ws.count x ≤ 1 ∧ x ∈ kn) ∧ forL (gN 2) (lb_law_different_0 fu) (ws.map D.str) [.bor (sL ws), .bor (sL kn), .emp] = .ok (.ret (.fz (.bl false)), Γ')) ∨ ((∀ x ∈ ws, ws.count x ≤ 1 ∧ x ∈ kn) ∧ ∃ Γ', forL (gN 2) (lb_law_different_0 fu) (ws.map D.str) [.bor (sL ws), .bor (sL kn), .emp] = .ok (.nx, Γ')) := by
    refine forL_z (f := D.str) (xs := ws) (Z := fun q => (∃ Γ' : Ed.Env, (¬ ∀ x ∈ ws, ws.count x ≤ 1 ∧ x ∈ kn) ∧ q = .ok (.ret (.fz (.bl false)), Γ')) ∨ ((∀ x ∈ ws, ws.count x ≤ 1 ∧ x ∈ kn) ∧ ∃ Γ', q = .ok (.nx, Γ'))) (P := fun i Γ => (∀ x ∈ ws.take i, ws.count x ≤ 1 ∧ x ∈ kn) ∧ ∃ j, Γ = [Sl.bor (sL ws), .bor (sL kn), j]) ⟨fun x hx => by simp at hx, _, rfl⟩ (fun i x Γ hx ⟨hg, j, hΓ⟩ => ?_) fun Γ' ⟨hg, _⟩ => .inr ⟨by rw [List.take_length] at hg; exact hg, _, rfl⟩
    subst hΓ
    have c := count_s ws x
    by_cases h1 : ws.count x ≤ 1
    · have n1 : ¬ (1 : Int) < ((ws.count x : Nat) : Int) := by omega
      by_cases h2 : x ∈ kn
      · refine .inl ⟨[.bor (sL ws), .bor (sL kn), .val (.str x)], ?_, fun y hy => ?_, _, rfl⟩
        · unfold lb_law_different_0
          apply gb_of
          · rfl
          try simp only [put_0, put_1]
          simp? only [kBT2_s (show kindD "list" (sL ws) = true from rfl), c, n1, h2]
        · rw [take_s hx] at hy
          rcases List.mem_append.mp hy with hy | hy
          · exact hg y hy
          · rw [List.mem_singleton.mp hy]; exact ⟨h1, h2⟩
      · refine .inr ⟨.ok (.ret (.fz (.bl false)), [.bor (sL ws), .bor (sL kn), .val (.str x)]), ?_, .inl ⟨_, fun z => h2 (z x (get_mem hx)).2, rfl⟩⟩
        have e : kGb (lb_law_different_0 fu) (gN 2 (.str x) [.bor (sL ws), .bor (sL kn), j]) = .ok (.ret (.fz (.bl false)), [.bor (sL ws), .bor (sL kn), .val (.str x)]) := by
          unfold lb_law_different_0
          apply gb_of
          · rfl
          try simp only [put_0, put_1]
          simp? only [kBT2_s (show kindD "list" (sL ws) = true from rfl), c, n1, h2]
        rw [e]; rfl
    · have n1 : (1 : Int) < ((ws.count x : Nat) : Int) := by omega
      refine .inr ⟨.ok (.ret (.fz (.bl false)), [.bor (sL ws), .bor (sL kn), .val (.str x)]), ?_, .inl ⟨_, fun z => h1 (z x (get_mem hx)).1, rfl⟩⟩
      have e : kGb (lb_law_different_0 fu) (gN 2 (.str x) [.bor (sL ws), .bor (sL kn), j]) = .ok (.ret (.fz (.bl false)), [.bor (sL ws), .bor (sL kn), .val (.str x)]) := by
        unfold lb_law_different_0
        apply gb_of
        · rfl
        try simp only [put_0, put_1]
        simp? only [kBT2_s (show kindD "list" (sL ws) = true from rfl), c, n1]
      rw [e]; rfl
  rcases key with ⟨Γ', hb, e⟩ | ⟨hg, Γ', e⟩
  · refine ⟨false, ?_, ⟨fun z => (by cases z), fun z => absurd z hb⟩⟩
    unfold F_law_different sv_law_different
    rw [runF_ap rfl]
    apply fin_of
    try simp only [app_nil, app_cons, ins0_nil, ins0_cons, inSl_f, inSl_l, inSl_i, inSl_b, inSl_s, inSl_n, inSl_t, inSl_c, inSl_o, pad_0, pad_1]
    · apply seq_rt
      · simp? only [e]
        rfl
      rfl
    · rfl
  · refine ⟨true, ?_, ⟨fun _ => hg, fun _ => rfl⟩⟩
    unfold F_law_different sv_law_different
    rw [runF_ap rfl]
    apply fin_of
    try simp only [app_nil, app_cons, ins0_nil, ins0_cons, inSl_f, inSl_l, inSl_i, inSl_b, inSl_s, inSl_n, inSl_t, inSl_c, inSl_o, pad_0, pad_1]
    · apply seq_nx
      · simp? only [e]
        rfl
      simp? only []
      rfl
    · rfl
end K04

set_option autoImplicit true
set_option Elab.async false
set_option linter.all false
set_option maxRecDepth 100000
set_option exponentiation.threshold 10000
set_option maxHeartbeats 4000000
namespace K04
open PySem Ed
local macro_rules | `(tactic| simp? only [$hs,*]) => `(tactic| simp (implicitDefEqProofs := false) only [kR_s, eC_ap, eN_ap, kN_s, pN_ap, kP_s, kpE_ok, kpE_ex, pE_ap, kU2_s, kU_ok, kU_ex, eU_ap, kB3_s, kB2_ok, kB2_ex, kB1_ok, kB1_ex, eB_ap, kF2_s, kF_ok, kF_ex, eF_ap, aNil_ap, lNil_ap, kA2_ok, kA2_ex, kA1_ok, kA1_ex, aCons_ap, kL2_ok, kL2_ex, kL1_ok, kL1_ex, lCons_ap, kSz_t, kTp_ok, kTp_ex, kLs_ok, kLs_ex, eTup_ap, nLst_ap, kIf_t, kIf_f, kIf_ex, tC_ap, eAnd_ap, eOr_ap, eNot_ap, eIf_ap, sIf_ap, kE2_b, kE_ok, kE_ex, tE_ap, kT3_s, kT2_s, kT_ok, kT_ex, tTru_ap, tru_int, tru_bl, tru_lst, tru_tup, tru_non, tYs_ap, eCB_ap, eAndV_ap, eOrV_ap, eNotV_ap, kCh4_s, kCh3_ok, kCh3_ex, kCh2_t, kCh2_f, kCh1_s, kCh0_ok, kCh0_ex, kCh_ok, kCh_ex, eChain_ap, callF_ap, kCp_s, kC_ok, kC_ex, kCd_ok, kCd_ex, kFr2_r, kFr_ok, kFr_ex, kC1_ok, kC1_ex, eCall_ap, kC2_ok, kC2_ex, nCall_ap, dfz, dfr, prep0, pK_s, prep_d, prep_t, pKt_s, prep_f, pKf_s, mkF_ap, kMk_ok, kMk_ex, kFl_ok, kFl_ex, eFld_ap, fld_s, kO2_s, kO1_ok, kO1_ex, kO0_ok, kO0_ex, eOwn2_ap, kOC3_s, kOC2_ok, kOC2_ex, kOC1_s, kOC0_ok, kOC0_ex, eOwnC_ap, kM2_ok, kM2_ex, kM1_s, kM0_ok, kM0_ex, eMeth_ap, eJs_nil, kJz_t, kJ2_s, kJ_ok, kJ_ex, eJs_cons, kSl4_s, kSl3_s, kSl2_s, kSl1_s, eSl_ap, oP_n, kOp2_s, kOp_s, oP_s, kLc2_s, kLc1_t, kLc_ok, eLc_ap, kIs2_s, kIs_ok, iSeq_ap, it_l, it_t, kIn_s, iN_ap, kRg_ok, iRg1_ap, kRh2_ok, kRh1_ok, iRg2_ap, sNext_ap, sBrk_ap, sCnt_ap, sRetN_ap, kS_nx, kS_rt, kS_bk, kS_ct, kS_ex, sSeq_ap, kSet_ok, kSet_ex, sSet_ap, kOwn_ok, kOwn_ex, sOwn_ap, kDrp_ok, kDrp_ex, sDrop_ap, kRet_ok, kRet_ex, sRet_ap, kReO_ok, kReO_ex, sRetO_ap, sRetX_ap, kRx_o, kRx_v, kAp3_t, kAp2_o, kAp1_ok, kAp0_s, sApp_ap, kPi4_s, kPi3_s, kPi2_ok, kPi1_s, kPi0_ok, sPutI_ap, kPr2_ok, kPr1_ok, sPar_ap, kAs2_s, kAs_ok, sAsg_ap, gN_ap, gT_t, gT_l, gs_nil, kGs_s, gs_cons, kFor_ok, sFor_ap, sWhl_ap, kFd_ok, sFld_ap, kRs_ok, sRaise_ap, kSu_ok, kTr3_t, kTr2_t, kTr2_f, kTr_ok, kTr_ex, sTry_ap, kIE2_s, kIE_s, eIsE_ap, kXf_s, eXf_ap, fin_nx, fin_rt, fin_ex, finI_ex, kFi_s, finI_nx, app_nil, app_cons, ins0_nil, ins0_cons, inSl_f, inSl_l, inSl_i, inSl_b, inSl_s, inSl_n, inSl_t, inSl_c, inSl_o, pad_0, pad_1, get_0, get_1, put_0, put_1, look_v, look_o, look_b, frz_v, frz_o, stay_v, stay_o, stay_b, rd_d, rd_n, rds_nil, kRd_s, rds_cons, wipe_nil, wipe_cons, rest_nil, rest_cons, all_nil, all_cons, stb_e, stb_v, stb_b, noX_nil, noX_e, noX_v, noX_o, noX_b, true_and', tbl_ap, putFd_nil, putFd_cons, dAdd_i, dSub_i, dNeg_i, dLt_i, dLe_i, dGt_i, dGe_i, dEq_i, dNe_i, dEq_b, dNe_b, dEq_s, dNe_s, o1_ap, dAbs_i, dInt_i, dInt_b, dBool_i, dLen_l, dLen_t, dLen_c, dIx_l, dIx_t, dIx_c, at_0, at_1, at_2, at_3, isT_ii, isT_bi, isT_bb, isT_ss, isT_ll, isT_tt, isB2_i, map_s, dRev_l, dTup_l, dTup_t, dLst_l, dLst_t, dCut_l, dCutL_l, dGcd_i, isB_b, isS_s, mul_r, mul_l, dDiv_r, dMod_i, kGb_s, kGe_s,   decide_true, decide_false, Bool.not_true, Bool.not_false, Bool.and_true, Bool.and_false, Bool.false_and, if_true, if_false, ite_true, ite_false, Bool.false_eq_true, List.lookup_cons, List.lookup_nil, List.length_cons, List.length_nil, Nat.reduceBEq, Nat.reduceLT, Nat.reduceLeDiff, Nat.zero_le, seqMax, List.length_map, Nat.reduceAdd, Nat.reduceEqDiff, Nat.reducePow, Int.reduceNe, Int.reduceEq, Int.reduceLT, Int.reduceLE, Int.reduceBEq, Int.reduceNeg, Int.natAbs_neg, ne_eq, not_true, not_false_eq_true, and_self, true_and, and_true, beq_self_eq_true, turn_ap, kTn1_s, kTn2_t, kTn2_f, kTn2_p, kTn2_n, kTn3_ok, dIn_sl, dIn_st, dNin_sl, dNin_st, dIn_il, dNin_il, kSg2_s, kSg_ok, iSgn_ap, kED_s, eIsED_ap, kX2_s, kX1_ok, kX1_ex, kX0_ok, kX0_ex, eOwnX_ap, kBT4_s, kBT3_ok, kBT3_ex, kBT1_ok, kBT1_ex, eBMT_ap, dIsN_n, dIsN_l, dIsN_t, dIsN_i, dIsN_s, dNotN_n, dNotN_l, dNotN_t, dNotN_i, dNotN_s, dBAnd_i, dBOr_i, dMin2_i, dMax2_i, dCut_t, dCut_c, dCut_l2, Int.cast_ofNat_Int, at_4, at_5, at_6, at_7, at_8, at_9, at_10, at_11, at_12, at_13, $hs,*])
theorem takeWhile_all {p : Nat → Bool} : ∀ {l : List Nat}, (∀ c ∈ l, p c = true) → l.takeWhile p = l
  | [], _ => rfl
  | x :: l, h => by
    rw [List.takeWhile_cons, if_pos (h x (by simp)), takeWhile_all fun c hc => h c (by simp [hc])]
theorem takeWhile_lt {p : Nat → Bool} : ∀ {l : List Nat}, (¬ ∀ c ∈ l, p c = true) → (l.takeWhile p).length < l.length
  | [], h => absurd (fun c hc => by cases hc) h
  | x :: l, h => by
    rw [List.takeWhile_cons]
    by_cases hx : p x = true
    · rw [if_pos hx]
      have := takeWhile_lt (l := l) fun z => h fun c hc => by
        rcases List.mem_cons.mp hc with rfl | hc
        · exact hx
        · exact z c hc
      simp only [List.length_cons]
      omega
    · rw [if_neg hx]
      simp
theorem drop_takeWhile {p : Nat → Bool} : ∀ (l : List Nat), (¬ ∀ c ∈ l, p c = true) → ¬ ∀ c ∈ l.drop (l.takeWhile p).length, p c = true
  | [], h => h
  | x :: l, h => by
    rw [List.takeWhile_cons]
    by_cases hx : p x = true
    · rw [if_pos hx]
      show ¬ ∀ c ∈ l.drop (l.takeWhile p).length, p c = true
      exact drop_takeWhile l fun z => h fun c hc => by
        rcases List.mem_cons.mp hc with rfl | hc
        · exact hx
        · exact z c hc
    · rw [if_neg hx]
      exact h
/-- nothing is left of a text iff all its signs stand in the other -/
theorem strip_len {a b : Str} : (stripS a b).length = 0 ↔ ∀ c ∈ a.cps.toList, b.cps.contains c = true := by
  have e : (stripS a b).length = ((a.cps.toList.drop (Ed.stripLo b.cps.contains a.cps.toList)).take (Ed.stripHi b.cps.contains a.cps.toList - Ed.stripLo b.cps.contains a.cps.toList)).length := by
    show (List.toArray _).size = _
    rw [List.size_toArray]
  rw [e, List.length_take, List.length_drop]
  unfold Ed.stripHi
  generalize hp : (fun c => b.cps.contains c) = p
  have hp' : b.cps.contains = p := hp
  rw [hp']
  generalize a.cps.toList = l
  constructor
  · intro h
    refine Classical.byContradiction fun z => ?_
    have h1 := takeWhile_lt z
    have h2 := drop_takeWhile l z
    have h3 := takeWhile_lt (p := p) (l := (l.drop (l.takeWhile p).length).reverse) fun w => h2 fun c hc => w c (List.mem_reverse.mpr hc)
    rw [List.length_reverse, List.length_drop] at h3
    unfold Ed.stripLo at h
    omega
  · intro h
    have h1 := takeWhile_all h
    unfold Ed.stripLo
    rw [h1]
    omega
end K04

set_option autoImplicit true
set_option Elab.async false
set_option linter.all false
set_option maxRecDepth 100000
set_option exponentiation.threshold 10000
set_option maxHeartbeats 4000000
namespace K04
open PySem Ed
local macro_rules | `(tactic| simp? only [$hs,*]) => `(tactic| simp (implicitDefEqProofs := false) only [kR_s, eC_ap, eN_ap, kN_s, pN_ap, kP_s, kpE_ok, kpE_ex, pE_ap, kU2_s, kU_ok, kU_ex, eU_ap, kB3_s, kB2_ok, kB2_ex, kB1_ok, kB1_ex, eB_ap, kF2_s, kF_ok, kF_ex, eF_ap, aNil_ap, lNil_ap, kA2_ok, kA2_ex, kA1_ok, kA1_ex, aCons_ap, kL2_ok, kL2_ex, kL1_ok, kL1_ex, lCons_ap, kSz_t, kTp_ok, kTp_ex, kLs_ok, kLs_ex, eTup_ap, nLst_ap, kIf_t, kIf_f, kIf_ex, tC_ap, eAnd_ap, eOr_ap, eNot_ap, eIf_ap, sIf_ap, kE2_b, kE_ok, kE_ex, tE_ap, kT3_s, kT2_s, kT_ok, kT_ex, tTru_ap, tru_int, tru_bl, tru_lst, tru_tup, tru_non, tYs_ap, eCB_ap, eAndV_ap, eOrV_ap, eNotV_ap, kCh4_s, kCh3_ok, kCh3_ex, kCh2_t, kCh2_f, kCh1_s, kCh0_ok, kCh0_ex, kCh_ok, kCh_ex, eChain_ap, callF_ap, kCp_s, kC_ok, kC_ex, kCd_ok, kCd_ex, kFr2_r, kFr_ok, kFr_ex, kC1_ok, kC1_ex, eCall_ap, kC2_ok, kC2_ex, nCall_ap, dfz, dfr, prep0, pK_s, prep_d, prep_t, pKt_s, prep_f, pKf_s, mkF_ap, kMk_ok, kMk_ex, kFl_ok, kFl_ex, eFld_ap, fld_s, kO2_s, kO1_ok, kO1_ex, kO0_ok, kO0_ex, eOwn2_ap, kOC3_s, kOC2_ok, kOC2_ex, kOC1_s, kOC0_ok, kOC0_ex, eOwnC_ap, kM2_ok, kM2_ex, kM1_s, kM0_ok, kM0_ex, eMeth_ap, eJs_nil, kJz_t, kJ2_s, kJ_ok, kJ_ex, eJs_cons, kSl4_s, kSl3_s, kSl2_s, kSl1_s, eSl_ap, oP_n, kOp2_s, kOp_s, oP_s, kLc2_s, kLc1_t, kLc_ok, eLc_ap, kIs2_s, kIs_ok, iSeq_ap, it_l, it_t, kIn_s, iN_ap, kRg_ok, iRg1_ap, kRh2_ok, kRh1_ok, iRg2_ap, sNext_ap, sBrk_ap, sCnt_ap, sRetN_ap, kS_nx, kS_rt, kS_bk, kS_ct, kS_ex, sSeq_ap, kSet_ok, kSet_ex, sSet_ap, kOwn_ok, kOwn_ex, sOwn_ap, kDrp_ok, kDrp_ex, sDrop_ap, kRet_ok, kRet_ex, sRet_ap, kReO_ok, kReO_ex, sRetO_ap, sRetX_ap, kRx_o, kRx_v, kAp3_t, kAp2_o, kAp1_ok, kAp0_s, sApp_ap, kPi4_s, kPi3_s, kPi2_ok, kPi1_s, kPi0_ok, sPutI_ap, kPr2_ok, kPr1_ok, sPar_ap, kAs2_s, kAs_ok, sAsg_ap, gN_ap, gT_t, gT_l, gs_nil, kGs_s, gs_cons, kFor_ok, sFor_ap, sWhl_ap, kFd_ok, sFld_ap, kRs_ok, sRaise_ap, kSu_ok, kTr3_t, kTr2_t, kTr2_f, kTr_ok, kTr_ex, sTry_ap, kIE2_s, kIE_s, eIsE_ap, kXf_s, eXf_ap, fin_nx, fin_rt, fin_ex, finI_ex, kFi_s, finI_nx, app_nil, app_cons, ins0_nil, ins0_cons, inSl_f, inSl_l, inSl_i, inSl_b, inSl_s, inSl_n, inSl_t, inSl_c, inSl_o, pad_0, pad_1, get_0, get_1, put_0, put_1, look_v, look_o, look_b, frz_v, frz_o, stay_v, stay_o, stay_b, rd_d, rd_n, rds_nil, kRd_s, rds_cons, wipe_nil, wipe_cons, rest_nil, rest_cons, all_nil, all_cons, stb_e, stb_v, stb_b, noX_nil, noX_e, noX_v, noX_o, noX_b, true_and', tbl_ap, putFd_nil, putFd_cons, dAdd_i, dSub_i, dNeg_i, dLt_i, dLe_i, dGt_i, dGe_i, dEq_i, dNe_i, dEq_b, dNe_b, dEq_s, dNe_s, o1_ap, dAbs_i, dInt_i, dInt_b, dBool_i, dLen_l, dLen_t, dLen_c, dIx_l, dIx_t, dIx_c, at_0, at_1, at_2, at_3, isT_ii, isT_bi, isT_bb, isT_ss, isT_ll, isT_tt, isB2_i, map_s, dRev_l, dTup_l, dTup_t, dLst_l, dLst_t, dCut_l, dCutL_l, dGcd_i, isB_b, isS_s, mul_r, mul_l, dDiv_r, dMod_i, kGb_s, kGe_s,   decide_true, decide_false, Bool.not_true, Bool.not_false, Bool.and_true, Bool.and_false, Bool.false_and, if_true, if_false, ite_true, ite_false, Bool.false_eq_true, List.lookup_cons, List.lookup_nil, List.length_cons, List.length_nil, Nat.reduceBEq, Nat.reduceLT, Nat.reduceLeDiff, Nat.zero_le, seqMax, List.length_map, Nat.reduceAdd, Nat.reduceEqDiff, Nat.reducePow, Int.reduceNe, Int.reduceEq, Int.reduceLT, Int.reduceLE, Int.reduceBEq, Int.reduceNeg, Int.natAbs_neg, ne_eq, not_true, not_false_eq_true, and_self, true_and, and_true, beq_self_eq_true, turn_ap, kTn1_s, kTn2_t, kTn2_f, kTn2_p, kTn2_n, kTn3_ok, dIn_sl, dIn_st, dNin_sl, dNin_st, dIn_il, dNin_il, kSg2_s, kSg_ok, iSgn_ap, kED_s, eIsED_ap, kX2_s, kX1_ok, kX1_ex, kX0_ok, kX0_ex, eOwnX_ap, kBT4_s, kBT3_ok, kBT3_ex, kBT1_ok, kBT1_ex, eBMT_ap, dIsN_n, dIsN_l, dIsN_t, dIsN_i, dIsN_s, dNotN_n, dNotN_l, dNotN_t, dNotN_i, dNotN_s, dBAnd_i, dBOr_i, dMin2_i, dMax2_i, dCut_t, dCut_c, dCut_l2, Int.cast_ofNat_Int, at_4, at_5, at_6, at_7, at_8, at_9, at_10, at_11, at_12, at_13, $hs,*])
theorem contains_abc (c : Nat) : ("abcdefghijklmnopqrstuvwxyz" : Str).cps.contains c = decide (97 ≤ c ∧ c ≤ 122) := by
  rw [← ltr_in]
  rw [Bool.eq_iff_iff]
  simp [Array.contains_iff_mem]
theorem good_iff {w : Str} : ((stripS w "abcdefghijklmnopqrstuvwxyz" == "") = true ∧ 0 < w.length ∧ w.length < 9) ↔ nameOk w := by
  have e : (stripS w "abcdefghijklmnopqrstuvwxyz" == "") = true ↔ (stripS w "abcdefghijklmnopqrstuvwxyz").length = 0 := by
    rw [beq_iff_eq]
    constructor
    · intro h; rw [h]; rfl
    · intro h
      refine str_ext ?_
      have : (stripS w "abcdefghijklmnopqrstuvwxyz").cps.toList.length = 0 := by
        rw [Array.length_toList]; exact h
      rw [List.length_eq_zero_iff.mp this]; rfl
  rw [e, strip_len]
  unfold nameOk
  constructor
  · rintro ⟨h1, h2, h3⟩
    refine ⟨by omega, by omega, fun c hc => ?_⟩
    have := h1 c hc
    rw [contains_abc] at this
    simpa using this
  · rintro ⟨h1, h2, h3⟩
    refine ⟨fun c hc => ?_, by omega, by omega⟩
    rw [contains_abc]
    simpa using h3 c hc
theorem dEq_ss {a b : Str} : dEq (.str a) (.str b) = some (.bl (a == b)) := dEq_s
theorem good_ok (fu : Nat) {ws : List Str} (hs : ∀ w ∈ ws, w.length ≤ 16700000) (hl : ws.length ≤ 16700001) {s0 s1 s2 s3 s5 s6 s7 : Sl} : lcL (gN 4) (et_law_described_1 fu) (el_law_described_0 fu) [4] (ws.map D.str) [s0, s1, s2, s3, .emp, s5, s6, s7] 0 = some ((ws.filter fun w => decide (nameOk w)).map D.str, [s0, s1, s2, s3, .emp, s5, s6, s7]) :=
  lcL_if D.str (fun w => nameOk w) D.str ws (fun w hw => by
    have hl := hs w hw
    have st : dStrip (.str w) [.str "abcdefghijklmnopqrstuvwxyz"] = some (.str (stripS w "abcdefghijklmnopqrstuvwxyz")) := if_pos hl
    have ln : dLen (.str w) = some (.int w.length) := if_pos (show w.length ≤ 16777216 by omega)
    have gi := good_iff (w := w)
    unfold et_law_described_1 el_law_described_0
    cases c1 : (stripS w "abcdefghijklmnopqrstuvwxyz" == "") with
    | false =>
      have nk : ¬ nameOk w := fun z => by
        have := (gi.mpr z).1
        rw [c1] at this
        cases this
      simp? only [kBT2_s (show kindD "str" (.str w) = true from rfl), st, c1, nk]
    | true =>
      by_cases c2 : 0 < w.length
      · have n2 : (0 : Int) < (w.length : Int) := by omega
        by_cases c3 : w.length < 9
        · have n3 : (w.length : Int) < 9 := by omega
          have nk : nameOk w := gi.mp ⟨c1, c2, c3⟩
          simp? only [kBT2_s (show kindD "str" (.str w) = true from rfl), st, c1, ln, n2, n3, nk]
        · have n3 : ¬ (w.length : Int) < 9 := by omega
          have nk : ¬ nameOk w := fun z => c3 (gi.mpr z).2.2
          simp? only [kBT2_s (show kindD "str" (.str w) = true from rfl), st, c1, ln, n2, n3, nk]
      · have n2 : ¬ (0 : Int) < (w.length : Int) := by omega
        have nk : ¬ nameOk w := fun z => c2 (gi.mpr z).2.1
        simp? only [kBT2_s (show kindD "str" (.str w) = true from rfl), st, c1, ln, n2, nk]) (n := 0) (by show 0 + _ ≤ 16777216; omega)
end K04

set_option autoImplicit true
set_option Elab.async false
set_option linter.all false
set_option maxRecDepth 100000
set_option exponentiation.threshold 10000
set_option maxHeartbeats 4000000
namespace K04
open PySem Ed
local macro_rules | `(tactic| simp? only [$hs,*]) => `(tactic| simp (implicitDefEqProofs := false) only [kR_s, eC_ap, eN_ap, kN_s, pN_ap, kP_s, kpE_ok, kpE_ex, pE_ap, kU2_s, kU_ok, kU_ex, eU_ap, kB3_s, kB2_ok, kB2_ex, kB1_ok, kB1_ex, eB_ap, kF2_s, kF_ok, kF_ex, eF_ap, aNil_ap, lNil_ap, kA2_ok, kA2_ex, kA1_ok, kA1_ex, aCons_ap, kL2_ok, kL2_ex, kL1_ok, kL1_ex, lCons_ap, kSz_t, kTp_ok, kTp_ex, kLs_ok, kLs_ex, eTup_ap, nLst_ap, kIf_t, kIf_f, kIf_ex, tC_ap, eAnd_ap, eOr_ap, eNot_ap, eIf_ap, sIf_ap, kE2_b, kE_ok, kE_ex, tE_ap, kT3_s, kT2_s, kT_ok, kT_ex, tTru_ap, tru_int, tru_bl, tru_lst, tru_tup, tru_non, tYs_ap, eCB_ap, eAndV_ap, eOrV_ap, eNotV_ap, kCh4_s, kCh3_ok, kCh3_ex, kCh2_t, kCh2_f, kCh1_s, kCh0_ok, kCh0_ex, kCh_ok, kCh_ex, eChain_ap, callF_ap, kCp_s, kC_ok, kC_ex, kCd_ok, kCd_ex, kFr2_r, kFr_ok, kFr_ex, kC1_ok, kC1_ex, eCall_ap, kC2_ok, kC2_ex, nCall_ap, dfz, dfr, prep0, pK_s, prep_d, prep_t, pKt_s, prep_f, pKf_s, mkF_ap, kMk_ok, kMk_ex, kFl_ok, kFl_ex, eFld_ap, fld_s, kO2_s, kO1_ok, kO1_ex, kO0_ok, kO0_ex, eOwn2_ap, kOC3_s, kOC2_ok, kOC2_ex, kOC1_s, kOC0_ok, kOC0_ex, eOwnC_ap, kM2_ok, kM2_ex, kM1_s, kM0_ok, kM0_ex, eMeth_ap, eJs_nil, kJz_t, kJ2_s, kJ_ok, kJ_ex, eJs_cons, kSl4_s, kSl3_s, kSl2_s, kSl1_s, eSl_ap, oP_n, kOp2_s, kOp_s, oP_s, kLc2_s, kLc1_t, kLc_ok, eLc_ap, kIs2_s, kIs_ok, iSeq_ap, it_l, it_t, kIn_s, iN_ap, kRg_ok, iRg1_ap, kRh2_ok, kRh1_ok, iRg2_ap, sNext_ap, sBrk_ap, sCnt_ap, sRetN_ap, kS_nx, kS_rt, kS_bk, kS_ct, kS_ex, sSeq_ap, kSet_ok, kSet_ex, sSet_ap, kOwn_ok, kOwn_ex, sOwn_ap, kDrp_ok, kDrp_ex, sDrop_ap, kRet_ok, kRet_ex, sRet_ap, kReO_ok, kReO_ex, sRetO_ap, sRetX_ap, kRx_o, kRx_v, kAp3_t, kAp2_o, kAp1_ok, kAp0_s, sApp_ap, kPi4_s, kPi3_s, kPi2_ok, kPi1_s, kPi0_ok, sPutI_ap, kPr2_ok, kPr1_ok, sPar_ap, kAs2_s, kAs_ok, sAsg_ap, gN_ap, gT_t, gT_l, gs_nil, kGs_s, gs_cons, kFor_ok, sFor_ap, sWhl_ap, kFd_ok, sFld_ap, kRs_ok, sRaise_ap, kSu_ok, kTr3_t, kTr2_t, kTr2_f, kTr_ok, kTr_ex, sTry_ap, kIE2_s, kIE_s, eIsE_ap, kXf_s, eXf_ap, fin_nx, fin_rt, fin_ex, finI_ex, kFi_s, finI_nx, app_nil, app_cons, ins0_nil, ins0_cons, inSl_f, inSl_l, inSl_i, inSl_b, inSl_s, inSl_n, inSl_t, inSl_c, inSl_o, pad_0, pad_1, get_0, get_1, put_0, put_1, look_v, look_o, look_b, frz_v, frz_o, stay_v, stay_o, stay_b, rd_d, rd_n, rds_nil, kRd_s, rds_cons, wipe_nil, wipe_cons, rest_nil, rest_cons, all_nil, all_cons, stb_e, stb_v, stb_b, noX_nil, noX_e, noX_v, noX_o, noX_b, true_and', tbl_ap, putFd_nil, putFd_cons, dAdd_i, dSub_i, dNeg_i, dLt_i, dLe_i, dGt_i, dGe_i, dEq_i, dNe_i, dEq_b, dNe_b, dEq_s, dNe_s, o1_ap, dAbs_i, dInt_i, dInt_b, dBool_i, dLen_l, dLen_t, dLen_c, dIx_l, dIx_t, dIx_c, at_0, at_1, at_2, at_3, isT_ii, isT_bi, isT_bb, isT_ss, isT_ll, isT_tt, isB2_i, map_s, dRev_l, dTup_l, dTup_t, dLst_l, dLst_t, dCut_l, dCutL_l, dGcd_i, isB_b, isS_s, mul_r, mul_l, dDiv_r, dMod_i, kGb_s, kGe_s,   decide_true, decide_false, Bool.not_true, Bool.not_false, Bool.and_true, Bool.and_false, Bool.false_and, if_true, if_false, ite_true, ite_false, Bool.false_eq_true, List.lookup_cons, List.lookup_nil, List.length_cons, List.length_nil, Nat.reduceBEq, Nat.reduceLT, Nat.reduceLeDiff, Nat.zero_le, seqMax, List.length_map, Nat.reduceAdd, Nat.reduceEqDiff, Nat.reducePow, Int.reduceNe, Int.reduceEq, Int.reduceLT, Int.reduceLE, Int.reduceBEq, Int.reduceNeg, Int.natAbs_neg, ne_eq, not_true, not_false_eq_true, and_self, true_and, and_true, beq_self_eq_true, turn_ap, kTn1_s, kTn2_t, kTn2_f, kTn2_p, kTn2_n, kTn3_ok, dIn_sl, dIn_st, dNin_sl, dNin_st, dIn_il, dNin_il, kSg2_s, kSg_ok, iSgn_ap, kED_s, eIsED_ap, kX2_s, kX1_ok, kX1_ex, kX0_ok, kX0_ex, eOwnX_ap, kBT4_s, kBT3_ok, kBT3_ex, kBT1_ok, kBT1_ex, eBMT_ap, dIsN_n, dIsN_l, dIsN_t, dIsN_i, dIsN_s, dNotN_n, dNotN_l, dNotN_t, dNotN_i, dNotN_s, dBAnd_i, dBOr_i, dMin2_i, dMax2_i, dCut_t, dCut_c, dCut_l2, Int.cast_ofNat_Int, at_4, at_5, at_6, at_7, at_8, at_9, at_10, at_11, at_12, at_13, $hs,*])
theorem nodup_count {α : Type} [BEq α] [LawfulBEq α] : ∀ {l : List α}, l.Nodup ↔ ∀ x ∈ l, l.count x ≤ 1
  | [] => by simp
  | x :: l => by
    rw [List.nodup_cons, nodup_count (l := l)]
    constructor
    · rintro ⟨h1, h2⟩ y hy
      rw [List.count_cons]
      have h0 : l.count x = 0 := List.count_eq_zero.mpr h1
      by_cases e : x = y
      · subst e; simp; omega
      · have := (List.mem_cons.mp hy).resolve_left fun z => e z.symm
        have := h2 y this
        simp [e]; exact this
    · intro h
      refine ⟨fun hx => ?_, fun y hy => ?_⟩
      · have := h x (by simp)
        rw [List.count_cons] at this
        have h1 : 0 < l.count x := List.count_pos_iff.mpr hx
        simp at this
        omega
      · have := h y (by simp [hy])
        rw [List.count_cons] at this
        omega
theorem diff_cols {ws : List Str} : (∀ x ∈ ws, ws.count x ≤ 1 ∧ x ∈ ws.filter fun w => decide (nameOk w)) ↔ ∀ k < ws.length, colOk ws k := by
  rw [cols_iff, nodup_count]
  constructor
  · intro h
    exact ⟨fun x hx => (h x hx).1, fun x hx => by simpa using (List.mem_filter.mp (h x hx).2).2⟩
  · rintro ⟨h1, h2⟩ x hx
    exact ⟨h1 x hx, List.mem_filter.mpr ⟨hx, by simpa using h2 x hx⟩⟩
theorem diff_row {cs ws : List Str} : (∀ x ∈ ws, ws.count x ≤ 1 ∧ x ∈ cs) ↔ RowOk cs ws := by
  unfold RowOk
  rw [nodup_count]
  exact ⟨fun h => ⟨fun x hx => (h x hx).1, fun x hx => (h x hx).2⟩, fun h x hx => ⟨h.1 x hx, h.2 x hx⟩⟩
section
variable {cs ls : List Str} {s0 s3 s4 : Sl} {text : Str}
theorem desc_turn (fu : Nat) (hs : ∀ l ∈ ls, l.length ≤ 16700000) {i : Nat} (hi : i + 1 < ls.length) (h48 : i ≤ 48) (s6 s7 : Sl) :
    (okLine cs ls (i + 1) ∧ ∃ v7, kGb (lb_law_described_2 fu) (gN 6 (.int (1 + (i : Int))) [s0, .val (sL ls), .val (sL cs), s3, s4, .own (sLL (rowsOf ls i)), s6, s7]) = .ok (.nx, [s0, .val (sL ls), .val (sL cs), s3, s4, .own (sLL (rowsOf ls (i + 1))), .val (.int (1 + (i : Int))), v7])) ∨
    (¬ okLine cs ls (i + 1) ∧ ∃ Γ, kGb (lb_law_described_2 fu) (gN 6 (.int (1 + (i : Int))) [s0, .val (sL ls), .val (sL cs), s3, s4, .own (sLL (rowsOf ls i)), s6, s7]) = .ok (.ret (.fr (.lst [.int (1 + (i : Int)), .lst [], .lst []])), Γ)) := by
  have g : at1 (ls.map D.str) (1 + (i : Int)) = some (.str (ls.getD (i + 1) default)) := by
    have := at_mapn (f := D.str) (getD_at hi)
    rw [show ((i + 1 : Nat) : Int) = 1 + (i : Int) by omega] at this
    exact this
  have hl := hs _ (getD_mem (d := default) hi)
  have rs := rowsOf_succ ls i
  have rl := rowsOf_len ls i
  unfold okLine rowG
  generalize ls.getD (i + 1) default = l at g hl rs
  have s2' := split_sp hl
  have aw := at0_w l
  have cw := tl_w l
  obtain ⟨b, eb, hb⟩ := diff_ok fu (ws := tlw l) (kn := cs)
  rw [diff_row] at hb
  have hz : (rowsOf ls i).length < 16777216 := by omega
  unfold lb_law_described_2
  by_cases c2 : i = 48
  · have n2 : (48 : Int) < 1 + (i : Int) := by omega
    refine .inr ⟨fun z => (by have := z.1; omega), ?_⟩
    refine' ⟨_, ?_⟩
    rotate_left
    · apply gb_of
      · rfl
      try simp only [put_0, put_1]
      apply seq_nx
      · simp? only [g, kBT2_s (show kindD "str" (.str l) = true from rfl), s2']
        rfl
      apply seq_rt
      · simp? only [n2]
        rfl
      rfl
  · have n2 : ¬ (48 : Int) < 1 + (i : Int) := by omega
    by_cases c1 : hdw l = "row"
    · have n1 : (hdw l == "row") = true := by rw [c1]; exact beq_self_eq_true _
      cases b with
      | true =>
        refine .inl ⟨⟨by omega, c1, hb.mp rfl⟩, .val (sL (wds l)), ?_⟩
        apply gb_of
        · rfl
        try simp only [put_0, put_1]
        apply seq_nx
        · simp? only [g, kBT2_s (show kindD "str" (.str l) = true from rfl), s2']
          rfl
        apply seq_nx
        · simp? only [n2, aw, n1, dCut_l2, cw, eb]
          rfl
        simp? only [hz, dCut_l2, cw, rs]
      | false =>
        refine .inr ⟨fun z => (by have := hb.mpr z.2.2; cases this), ?_⟩
        refine' ⟨_, ?_⟩
        rotate_left
        · apply gb_of
          · rfl
          try simp only [put_0, put_1]
          apply seq_nx
          · simp? only [g, kBT2_s (show kindD "str" (.str l) = true from rfl), s2']
            rfl
          apply seq_rt
          · simp? only [n2, aw, n1, dCut_l2, cw, eb]
            rfl
          rfl
    · have n1 : (hdw l == "row") = false := beq_eq_false_iff_ne.mpr c1
      refine .inr ⟨fun z => c1 z.2.1, ?_⟩
      refine' ⟨_, ?_⟩
      rotate_left
      · apply gb_of
        · rfl
        try simp only [put_0, put_1]
        apply seq_nx
        · simp? only [g, kBT2_s (show kindD "str" (.str l) = true from rfl), s2']
          rfl
        apply seq_rt
        · simp? only [n2, aw, n1]
          rfl
        rfl
theorem desc_loop (fu : Nat) (hs : ∀ l ∈ ls, l.length ≤ 16700000) (s6 s7 : Sl) :
    (∃ (k : Nat) (Γ' : Ed.Env), 1 ≤ k ∧ k < ls.length ∧ ¬ okLine cs ls k ∧ (∀ j, 1 ≤ j → j < k → okLine cs ls j) ∧ forL (gN 6) (lb_law_described_2 fu) (rngL 1 (ls.length - 1)) [s0, .val (sL ls), .val (sL cs), s3, s4, .own (.lst []), s6, s7] = .ok (.ret (.fr (.lst [.int (k : Int), .lst [], .lst []])), Γ')) ∨
    ((∀ j, 1 ≤ j → j < ls.length → okLine cs ls j) ∧ ls.length - 1 ≤ 48 ∧ ∃ v6 v7, forL (gN 6) (lb_law_described_2 fu) (rngL 1 (ls.length - 1)) [s0, .val (sL ls), .val (sL cs), s3, s4, .own (.lst []), s6, s7] = .ok (.nx, [s0, .val (sL ls), .val (sL cs), s3, s4, .own (sLL (rowsOf ls (ls.length - 1))), v6, v7])) := by
  have hZ := forL_rg (g := gN 6) (s := lb_law_described_2 fu) (lo := 1) (m := ls.length - 1) (Γ := [s0, .val (sL ls), .val (sL cs), s3, s4, .own (.lst []), s6, s7])
    (Z := fun r => (∃ (k : Nat) (Γ' : Ed.Env), 1 ≤ k ∧ k < ls.length ∧ ¬ okLine cs ls k ∧ (∀ j, 1 ≤ j → j < k → okLine cs ls j) ∧ r = .ok (.ret (.fr (.lst [.int (k : Int), .lst [], .lst []])), Γ')) ∨
      ((∀ j, 1 ≤ j → j < ls.length → okLine cs ls j) ∧ ls.length - 1 ≤ 48 ∧ ∃ s6 s7, r = .ok (.nx, [s0, .val (sL ls), .val (sL cs), s3, s4, .own (sLL (rowsOf ls (ls.length - 1))), s6, s7])))
    (P := fun i Γ => (∀ j, 1 ≤ j → j < i + 1 → okLine cs ls j) ∧ ∃ s6 s7, Γ = [s0, .val (sL ls), .val (sL cs), s3, s4, .own (sLL (rowsOf ls i)), s6, s7])
    ⟨fun j h1 h2 => by omega, _, _, rfl⟩ (fun i Γ hi ⟨hg, t6, t7, hΓ⟩ => by
      subst hΓ
      have h48 : i ≤ 48 := by
        by_cases h0 : i = 0
        · omega
        · exact (hg i (by omega) (by omega)).1
      rcases desc_turn (cs := cs) (s0 := s0) (s3 := s3) (s4 := s4) fu hs (i := i) (by omega) h48 t6 t7 with ⟨ok, u7, e⟩ | ⟨bad, Γ2, e⟩
      · refine .inl ⟨_, e, fun j h1 h2 => ?_, _, _, rfl⟩
        by_cases z : j = i + 1
        · rw [z]; exact ok
        · exact hg j h1 (by omega)
      · refine .inr ⟨.ok (.ret (.fr (.lst [.int (1 + (i : Int)), .lst [], .lst []])), Γ2), by rw [e]; rfl, .inl ⟨i + 1, Γ2, by omega, by omega, bad, fun j h1 h2 => hg j h1 h2, ?_⟩⟩
        rw [show ((i + 1 : Nat) : Int) = 1 + (i : Int) by omega])
    fun Γ' ⟨hg, t6, t7, hΓ⟩ => by
      subst hΓ
      refine .inr ⟨fun j h1 h2 => hg j h1 (by omega), ?_, _, _, rfl⟩
      by_cases h0 : ls.length - 1 = 0
      · omega
      · exact (hg (ls.length - 1) (by omega) (by omega)).1
  exact hZ
/-- what stands in a text -/
theorem described_ok (fu : Nat) (ht : text.length ≤ 16700000) :
    (¬ colsG ((splS text 10).getD 0 default) → F_law_described fu [.str text] = .ok (.fr (.lst [.int 0, .lst [], .lst []]))) ∧
    (colsG ((splS text 10).getD 0 default) →
    (∃ k : Nat, 1 ≤ k ∧ k < (splS text 10).length ∧ ¬ okLine (tlw ((splS text 10).getD 0 default)) (splS text 10) k ∧ (∀ j, 1 ≤ j → j < k → okLine (tlw ((splS text 10).getD 0 default)) (splS text 10) j) ∧ F_law_described fu [.str text] = .ok (.fr (.lst [.int (k : Int), .lst [], .lst []]))) ∨
    ((∀ j, 1 ≤ j → j < (splS text 10).length → okLine (tlw ((splS text 10).getD 0 default)) (splS text 10) j) ∧ F_law_described fu [.str text] = .ok (.fr (.lst [.non, sL (tlw ((splS text 10).getD 0 default)), sLL (rowsOf (splS text 10) ((splS text 10).length - 1))])))) := by
  obtain ⟨g0, g1, g2⟩ := splS_facts text 10
  have hpos := List.length_pos_iff.mpr g0
  have a0 := at_map (f := D.str) (l := splS text 10) (k := 0) default (by omega) (by omega)
  have a0 : at1 ((splS text 10).map D.str) 0 = some (.str ((splS text 10).getD 0 default)) := a0
  have l0 := (g2 _ (getD_mem (l := splS text 10) (k := 0) (d := default) hpos)).1
  have s1 := split_nl ht
  have lo := fun s3 s4 => desc_loop (cs := tlw ((splS text 10).getD 0 default)) (ls := splS text 10) (s0 := .val (.str text)) (s3 := s3) (s4 := s4) fu (fun l hl => by have := (g2 l hl).1; omega) .emp .emp
  have tn : (((splS text 10).length : Int) - 1).toNat = (splS text 10).length - 1 := by omega
  have rg := fun Γ => kRh3_s (Γ := Γ) (u := 1) (v := ((splS text 10).length : Int)) (by rw [rngB_of (n := 1) (by decide) (by decide), rngB_of (by omega) (by omega)]; rfl)
  generalize splS text 10 = ls at s1 a0 l0 lo tn rg ⊢
  generalize ls.getD 0 default = l at a0 l0 lo ⊢
  have s2 := split_sp (s := l) (by omega)
  have aw := at0_w l
  have cw := tl_w l
  obtain ⟨tl1, tl2⟩ := tlw_facts (l := l) (n := 16700000) (by omega)
  have go := good_ok fu (ws := tlw l) tl2 (by omega) (s0 := .val (.str text)) (s1 := .val (sL ls)) (s2 := .val (sL (tlw l))) (s3 := .emp) (s5 := .emp) (s6 := .emp) (s7 := .emp)
  obtain ⟨b, eb, hb⟩ := diff_ok fu (ws := tlw l) (kn := (tlw l).filter fun w => decide (nameOk w))
  rw [diff_cols] at hb
  generalize (tlw l).filter (fun w => decide (nameOk w)) = gd at go eb
  unfold F_law_described sv_law_described sg_law_described_3
  constructor
  · intro h
    by_cases c1 : hdw l = "columns"
    · have n1 : (hdw l == "columns") = true := by rw [c1]; exact beq_self_eq_true _
      by_cases c2 : (tlw l).length ≤ 12
      · have n2 : ¬ (12 : Int) < ((tlw l).length : Int) := by omega
        have hbf : b = false := by
          cases b with
          | true => exact absurd ⟨c1, c2, hb.mp rfl⟩ h
          | false => rfl
        subst hbf
        rw [runF_ap rfl]
        apply fin_of
        try simp only [app_nil, app_cons, ins0_nil, ins0_cons, inSl_f, inSl_l, inSl_i, inSl_b, inSl_s, inSl_n, inSl_t, inSl_c, inSl_o, pad_0, pad_1]
        · apply seq_nx
          · simp? only [kBT2_s (show kindD "str" (.str text) = true from rfl), s1]
            rfl
          apply seq_nx
          · simp? only [a0, kBT2_s (show kindD "str" (.str l) = true from rfl), s2, dCut_l2, cw]
            rfl
          apply seq_nx
          · simp? only [go]
            rfl
          apply seq_rt
          · simp? only [a0, kBT2_s (show kindD "str" (.str l) = true from rfl), s2, aw, n1, n2, eb]
            rfl
          rfl
        · rfl
      · have n2 : (12 : Int) < ((tlw l).length : Int) := by omega
        rw [runF_ap rfl]
        apply fin_of
        try simp only [app_nil, app_cons, ins0_nil, ins0_cons, inSl_f, inSl_l, inSl_i, inSl_b, inSl_s, inSl_n, inSl_t, inSl_c, inSl_o, pad_0, pad_1]
        · apply seq_nx
          · simp? only [kBT2_s (show kindD "str" (.str text) = true from rfl), s1]
            rfl
          apply seq_nx
          · simp? only [a0, kBT2_s (show kindD "str" (.str l) = true from rfl), s2, dCut_l2, cw]
            rfl
          apply seq_nx
          · simp? only [go]
            rfl
          apply seq_rt
          · simp? only [a0, kBT2_s (show kindD "str" (.str l) = true from rfl), s2, aw, n1, n2]
            rfl
          rfl
        · rfl
    · have n1 : (hdw l == "columns") = false := beq_eq_false_iff_ne.mpr c1
      rw [runF_ap rfl]
      apply fin_of
      try simp only [app_nil, app_cons, ins0_nil, ins0_cons, inSl_f, inSl_l, inSl_i, inSl_b, inSl_s, inSl_n, inSl_t, inSl_c, inSl_o, pad_0, pad_1]
      · apply seq_nx
        · simp? only [kBT2_s (show kindD "str" (.str text) = true from rfl), s1]
          rfl
        apply seq_nx
        · simp? only [a0, kBT2_s (show kindD "str" (.str l) = true from rfl), s2, dCut_l2, cw]
          rfl
        apply seq_nx
        · simp? only [go]
          rfl
        apply seq_rt
        · simp? only [a0, kBT2_s (show kindD "str" (.str l) = true from rfl), s2, aw, n1]
          rfl
        rfl
      · rfl
  · rintro ⟨c1, c2, c3⟩
    have hbt := hb.mpr c3
    subst hbt
    have n1 : (hdw l == "columns") = true := by rw [c1]; exact beq_self_eq_true _
    have n2 : ¬ (12 : Int) < ((tlw l).length : Int) := by omega
    rcases lo (.own (sL gd)) .emp with ⟨k, Γ', k1, k2, kb, kg, e⟩ | ⟨hg, h48, v6, v7, e⟩
    · refine .inl ⟨k, k1, k2, kb, kg, ?_⟩
      rw [runF_ap rfl]
      apply fin_of
      try simp only [app_nil, app_cons, ins0_nil, ins0_cons, inSl_f, inSl_l, inSl_i, inSl_b, inSl_s, inSl_n, inSl_t, inSl_c, inSl_o, pad_0, pad_1]
      · apply seq_nx
        · simp? only [kBT2_s (show kindD "str" (.str text) = true from rfl), s1]
          rfl
        apply seq_nx
        · simp? only [a0, kBT2_s (show kindD "str" (.str l) = true from rfl), s2, dCut_l2, cw]
          rfl
        apply seq_nx
        · simp? only [go]
          rfl
        apply seq_nx
        · simp? only [a0, kBT2_s (show kindD "str" (.str l) = true from rfl), s2, aw, n1, n2, eb]
          rfl
        apply seq_nx
        · simp? only []
          rfl
        apply seq_rt
        · simp? only [rg, tn, e]
          rfl
        rfl
      · rfl
    · refine .inr ⟨hg, ?_⟩
      rw [runF_ap rfl]
      apply fin_of
      try simp only [app_nil, app_cons, ins0_nil, ins0_cons, inSl_f, inSl_l, inSl_i, inSl_b, inSl_s, inSl_n, inSl_t, inSl_c, inSl_o, pad_0, pad_1]
      · apply seq_nx
        · simp? only [kBT2_s (show kindD "str" (.str text) = true from rfl), s1]
          rfl
        apply seq_nx
        · simp? only [a0, kBT2_s (show kindD "str" (.str l) = true from rfl), s2, dCut_l2, cw]
          rfl
        apply seq_nx
        · simp? only [go]
          rfl
        apply seq_nx
        · simp? only [a0, kBT2_s (show kindD "str" (.str l) = true from rfl), s2, aw, n1, n2, eb]
          rfl
        apply seq_nx
        · simp? only []
          rfl
        apply seq_nx
        · simp? only [rg, tn, e]
          rfl
        simp? only []
        rfl
      · rfl
end
end K04

set_option autoImplicit true
set_option Elab.async false
set_option linter.all false
set_option maxRecDepth 100000
set_option exponentiation.threshold 10000
set_option maxHeartbeats 4000000
namespace K04
open PySem Ed
local macro_rules | `(tactic| simp? only [$hs,*]) => `(tactic| simp (implicitDefEqProofs := false) only [kR_s, eC_ap, eN_ap, kN_s, pN_ap, kP_s, kpE_ok, kpE_ex, pE_ap, kU2_s, kU_ok, kU_ex, eU_ap, kB3_s, kB2_ok, kB2_ex, kB1_ok, kB1_ex, eB_ap, kF2_s, kF_ok, kF_ex, eF_ap, aNil_ap, lNil_ap, kA2_ok, kA2_ex, kA1_ok, kA1_ex, aCons_ap, kL2_ok, kL2_ex, kL1_ok, kL1_ex, lCons_ap, kSz_t, kTp_ok, kTp_ex, kLs_ok, kLs_ex, eTup_ap, nLst_ap, kIf_t, kIf_f, kIf_ex, tC_ap, eAnd_ap, eOr_ap, eNot_ap, eIf_ap, sIf_ap, kE2_b, kE_ok, kE_ex, tE_ap, kT3_s, kT2_s, kT_ok, kT_ex, tTru_ap, tru_int, tru_bl, tru_lst, tru_tup, tru_non, tYs_ap, eCB_ap, eAndV_ap, eOrV_ap, eNotV_ap, kCh4_s, kCh3_ok, kCh3_ex, kCh2_t, kCh2_f, kCh1_s, kCh0_ok, kCh0_ex, kCh_ok, kCh_ex, eChain_ap, callF_ap, kCp_s, kC_ok, kC_ex, kCd_ok, kCd_ex, kFr2_r, kFr_ok, kFr_ex, kC1_ok, kC1_ex, eCall_ap, kC2_ok, kC2_ex, nCall_ap, dfz, dfr, prep0, pK_s, prep_d, prep_t, pKt_s, prep_f, pKf_s, mkF_ap, kMk_ok, kMk_ex, kFl_ok, kFl_ex, eFld_ap, fld_s, kO2_s, kO1_ok, kO1_ex, kO0_ok, kO0_ex, eOwn2_ap, kOC3_s, kOC2_ok, kOC2_ex, kOC1_s, kOC0_ok, kOC0_ex, eOwnC_ap, kM2_ok, kM2_ex, kM1_s, kM0_ok, kM0_ex, eMeth_ap, eJs_nil, kJz_t, kJ2_s, kJ_ok, kJ_ex, eJs_cons, kSl4_s, kSl3_s, kSl2_s, kSl1_s, eSl_ap, oP_n, kOp2_s, kOp_s, oP_s, kLc2_s, kLc1_t, kLc_ok, eLc_ap, kIs2_s, kIs_ok, iSeq_ap, it_l, it_t, kIn_s, iN_ap, kRg_ok, iRg1_ap, kRh2_ok, kRh1_ok, iRg2_ap, sNext_ap, sBrk_ap, sCnt_ap, sRetN_ap, kS_nx, kS_rt, kS_bk, kS_ct, kS_ex, sSeq_ap, kSet_ok, kSet_ex, sSet_ap, kOwn_ok, kOwn_ex, sOwn_ap, kDrp_ok, kDrp_ex, sDrop_ap, kRet_ok, kRet_ex, sRet_ap, kReO_ok, kReO_ex, sRetO_ap, sRetX_ap, kRx_o, kRx_v, kAp3_t, kAp2_o, kAp1_ok, kAp0_s, sApp_ap, kPi4_s, kPi3_s, kPi2_ok, kPi1_s, kPi0_ok, sPutI_ap, kPr2_ok, kPr1_ok, sPar_ap, kAs2_s, kAs_ok, sAsg_ap, gN_ap, gT_t, gT_l, gs_nil, kGs_s, gs_cons, kFor_ok, sFor_ap, sWhl_ap, kFd_ok, sFld_ap, kRs_ok, sRaise_ap, kSu_ok, kTr3_t, kTr2_t, kTr2_f, kTr_ok, kTr_ex, sTry_ap, kIE2_s, kIE_s, eIsE_ap, kXf_s, eXf_ap, fin_nx, fin_rt, fin_ex, finI_ex, kFi_s, finI_nx, app_nil, app_cons, ins0_nil, ins0_cons, inSl_f, inSl_l, inSl_i, inSl_b, inSl_s, inSl_n, inSl_t, inSl_c, inSl_o, pad_0, pad_1, get_0, get_1, put_0, put_1, look_v, look_o, look_b, frz_v, frz_o, stay_v, stay_o, stay_b, rd_d, rd_n, rds_nil, kRd_s, rds_cons, wipe_nil, wipe_cons, rest_nil, rest_cons, all_nil, all_cons, stb_e, stb_v, stb_b, noX_nil, noX_e, noX_v, noX_o, noX_b, true_and', tbl_ap, putFd_nil, putFd_cons, dAdd_i, dSub_i, dNeg_i, dLt_i, dLe_i, dGt_i, dGe_i, dEq_i, dNe_i, dEq_b, dNe_b, dEq_s, dNe_s, o1_ap, dAbs_i, dInt_i, dInt_b, dBool_i, dLen_l, dLen_t, dLen_c, dIx_l, dIx_t, dIx_c, at_0, at_1, at_2, at_3, isT_ii, isT_bi, isT_bb, isT_ss, isT_ll, isT_tt, isB2_i, map_s, dRev_l, dTup_l, dTup_t, dLst_l, dLst_t, dCut_l, dCutL_l, dGcd_i, isB_b, isS_s, mul_r, mul_l, dDiv_r, dMod_i, kGb_s, kGe_s,   decide_true, decide_false, Bool.not_true, Bool.not_false, Bool.and_true, Bool.and_false, Bool.false_and, if_true, if_false, ite_true, ite_false, Bool.false_eq_true, List.lookup_cons, List.lookup_nil, List.length_cons, List.length_nil, Nat.reduceBEq, Nat.reduceLT, Nat.reduceLeDiff, Nat.zero_le, seqMax, List.length_map, Nat.reduceAdd, Nat.reduceEqDiff, Nat.reducePow, Int.reduceNe, Int.reduceEq, Int.reduceLT, Int.reduceLE, Int.reduceBEq, Int.reduceNeg, Int.natAbs_neg, ne_eq, not_true, not_false_eq_true, and_self, true_and, and_true, beq_self_eq_true, turn_ap, kTn1_s, kTn2_t, kTn2_f, kTn2_p, kTn2_n, kTn3_ok, dIn_sl, dIn_st, dNin_sl, dNin_st, dIn_il, dNin_il, kSg2_s, kSg_ok, iSgn_ap, kED_s, eIsED_ap, kX2_s, kX1_ok, kX1_ex, kX0_ok, kX0_ex, eOwnX_ap, kBT4_s, kBT3_ok, kBT3_ex, kBT1_ok, kBT1_ex, eBMT_ap, dIsN_n, dIsN_l, dIsN_t, dIsN_i, dIsN_s, dNotN_n, dNotN_l, dNotN_t, dNotN_i, dNotN_s, dBAnd_i, dBOr_i, dMin2_i, dMax2_i, dCut_t, dCut_c, dCut_l2, Int.cast_ofNat_Int, at_4, at_5, at_6, at_7, at_8, at_9, at_10, at_11, at_12, at_13, $hs,*])
theorem srt_srt (cs r : List Str) : srt cs (srt cs r) = srt cs r := by
  unfold srt
  refine List.filter_congr fun x hx => ?_
  congr 1
  rw [eq_iff_iff, List.mem_filter]
  exact ⟨fun h => by simpa using h.2, fun h => ⟨hx, by simpa using h⟩⟩
theorem tb_srt (cs : List Str) (rows : List (List Str)) : tb cs (rows.map (srt cs)) = tb cs rows := by
  unfold tb
  congr 4
  rw [List.map_map]
  congr 1
  refine List.map_congr_left fun r _ => ?_
  show sT (srt cs (srt cs r)) = _
  rw [srt_srt]
theorem table_eq (fu : Nat) {cs : List Str} {rows : List (List Str)} (hok : ∀ x ∈ cs, okS x) : F_TableD_eqD fu [tb cs rows, tb cs rows] = .ok (.fz (.bl true)) := by
  have q2 := dEq_refl (ok_sT (n := 59) hok)
  have q3 : dEq (.tup (rows.map fun r => sT (srt cs r))) (.tup (rows.map fun r => sT (srt cs r))) = some (.bl true) := dEq_refl (by
    rw [okDat]
    exact ok_map fun r _ => ok_sT (n := 58) fun s hs => hok s (List.mem_filter.mp hs).1)
  unfold F_TableD_eqD sv_TableD_eqD tb
  rw [runF_ap rfl]
  apply fin_of
  try simp only [app_nil, app_cons, ins0_nil, ins0_cons, inSl_f, inSl_l, inSl_i, inSl_b, inSl_s, inSl_n, inSl_t, inSl_c, inSl_o, pad_0, pad_1]
  · simp? only [q2, q3]
    rfl
  · rfl
section
variable {cs : List Str} {rows : List (List Str)}
theorem law_is_ok (fu : Nat) (hc : cs.Nodup) (hn : ∀ s ∈ cs, nameOk s) (hl : cs.length ≤ 12) (hr : ∀ r ∈ rows, RowOk cs r) (hrl : rows.length ≤ 48) : F_law_is fu [tb cs rows, sL cs, sLL rows] = .ok (.fz (.bl true)) := by
  have hok : ∀ x ∈ cs, okS x := fun x hx => (hn x hx).ok
  have q1 := dNe_refl (ok_sL (n := 59) hok)
  have ti := table_init fu hn hc hl hr hrl
  have te := table_eq fu (rows := rows) hok
  have nb : dIsB (.bl true) (.bl true) = some (.bl true) := rfl
  have tn : ((rows.length : Int)).toNat = rows.length := by omega
  have inner : ∀ (i : Nat) (hi : i < rows.length), lcL (gN 4) (et_law_is_1 fu) (el_law_is_0 fu) [4] (cs.map D.str) [.val (tb cs rows), .bor (sL cs), .bor (sLL rows), .val (.int (i : Int)), .emp] 0 = some ((srt cs rows[i]).map D.str, [.val (tb cs rows), .bor (sL cs), .bor (sLL rows), .val (.int (i : Int)), .emp]) := fun i hi => by
    have a := at_mapn (f := sL) (show rows[i]? = some rows[i] by simp)
    exact lcL_if D.str (fun x => x ∈ rows[i]) D.str cs (fun x hx => by
      unfold et_law_is_1 el_law_is_0
      simp? only [a]) (n := 0) (by show 0 + _ ≤ 16777216; omega)
  obtain ⟨Γ', el, j, rfl⟩ := forL_rm (g := gN 3) (s := lb_law_is_2 fu) (lo := 0) (m := rows.length) (Γ := [.val (tb cs rows), .bor (sL cs), .bor (sLL rows), .emp, .emp]) (P := fun i Γ => ∃ j, Γ = [Sl.val (tb cs rows), .bor (sL cs), .bor (sLL rows), j, .emp]) ⟨_, rfl⟩ fun i Γ hi ⟨j, hΓ⟩ => by
    subst hΓ
    have zi : (0 : Int) + (i : Int) = i := by omega
    have a := at_mapn (f := fun r => sT (srt cs r)) (show rows[i]? = some rows[i] by simp)
    have q := dNe_refl (ok_sT (n := 59) (xs := srt cs rows[i]) fun s hs => hok s (List.mem_filter.mp hs).1)
    have ir := inner i hi
    refine ⟨[Sl.val (tb cs rows), .bor (sL cs), .bor (sLL rows), .val (.int (i : Int)), .emp], ?_, _, rfl⟩
    unfold lb_law_is_2
    unfold tb at ir ⊢
    apply gb_of
    · rfl
    try simp only [put_0, put_1]
    rw [zi]
    simp? only [a, ir, q]
  unfold F_law_is sv_law_is
  unfold tb at ti te el ⊢
  rw [runF_ap rfl]
  apply fin_of
  try simp only [app_nil, app_cons, ins0_nil, ins0_cons, inSl_f, inSl_l, inSl_i, inSl_b, inSl_s, inSl_n, inSl_t, inSl_c, inSl_o, pad_0, pad_1]
  · apply seq_nx
    · simp? only []
      rfl
    apply seq_nx
    · simp? only [q1]
      rfl
    apply seq_nx
    · simp? only [kRg2_s (rngB_of (n := (rows.length : Int)) (by omega) (by omega)), tn, el]
      rfl
    simp? only [ti, te, nb]
    rfl
  · rfl
variable {text : Str}
theorem ans_bad (fu : Nat) {k : Int} (hd : F_law_described fu [.str text] = .ok (.fr (.lst [.int k, .lst [], .lst []]))) (he : F_read_table fu [.str text] = .exc ⟨2, [(4, .int k)]⟩ []) : F_law_answers fu [.str text] = .ok (.fz (.bl true)) := by
  have cn : ([2] : List Nat).contains 2 = true := rfl
  have q : dNe (.lst [.bl true, .bl true, .bl false, .bl false]) (.lst [.bl true, .bl true, .bl false, .bl false]) = some (.bl false) := rfl
  unfold F_law_answers sv_law_answers sg_law_answers_0
  rw [runF_ap rfl]
  apply fin_of
  try simp only [app_nil, app_cons, ins0_nil, ins0_cons, inSl_f, inSl_l, inSl_i, inSl_b, inSl_s, inSl_n, inSl_t, inSl_c, inSl_o, pad_0, pad_1]
  · apply seq_nx
    · simp? only [hd]
      rfl
    apply seq_nx
    · simp? only []
      rfl
    apply seq_nx
    · simp? only []
      rfl
    apply seq_nx
    · simp? only []
      rfl
    apply seq_nx
    · simp? only [he, cn]
      rfl
    apply seq_nx
    · simp? only []
      rfl
    apply seq_nx
    · simp? only [q]
      rfl
    simp? only []
    rfl
  · rfl
theorem ans_ok (fu : Nat) (hc : cs.Nodup) (hn : ∀ s ∈ cs, nameOk s) (hl : cs.length ≤ 12) (hr : ∀ r ∈ rows, RowOk cs r) (hrl : rows.length ≤ 48) (hd : F_law_described fu [.str text] = .ok (.fr (.lst [.non, sL cs, sLL rows]))) (he : F_read_table fu [.str text] = .ok (.fz (tb cs rows))) : F_law_answers fu [.str text] = .ok (.fz (.bl true)) := by
  have li := law_is_ok fu hc hn hl hr hrl
  unfold F_law_answers sv_law_answers sg_law_answers_0
  unfold tb at he li
  rw [runF_ap rfl]
  apply fin_of
  try simp only [app_nil, app_cons, ins0_nil, ins0_cons, inSl_f, inSl_l, inSl_i, inSl_b, inSl_s, inSl_n, inSl_t, inSl_c, inSl_o, pad_0, pad_1]
  · apply seq_nx
    · simp? only [hd]
      rfl
    apply seq_nx
    · simp? only []
      rfl
    apply seq_nx
    · simp? only []
      rfl
    apply seq_nx
    · simp? only []
      rfl
    apply seq_nx
    · simp? only [he]
      rfl
    apply seq_rt
    · simp? only [li]
      rfl
    rfl
  · rfl
theorem answers_ok (fu : Nat) (ht : text.length ≤ 16700000) : F_law_answers fu [.str text] = .ok (.fz (.bl true)) := by
  obtain ⟨d1, d2⟩ := described_ok fu ht
  by_cases h : colsG ((splS text 10).getD 0 default)
  · rcases d2 h with ⟨k, k1, k2, kb, kg, e⟩ | ⟨hg, e⟩
    · rcases read_rest fu ht h with ⟨j, j1, j2, jb, jg, e2⟩ | ⟨hg, e2⟩
      · have : j = k := by
          by_cases a : j < k
          · exact absurd (kg j j1 a) jb
          · by_cases b : k < j
            · exact absurd (jg k k1 b) kb
            · omega
        subst this
        exact ans_bad fu e e2
      · exact absurd (hg k k1 k2) kb
    · rcases read_rest fu ht h with ⟨j, j1, j2, jb, jg, e2⟩ | ⟨hg, e2⟩
      · exact absurd (hg j j1 j2) jb
      · obtain ⟨c1, c2, c3⟩ := h
        obtain ⟨m1, m2⟩ := cols_iff.mp c3
        refine ans_ok fu m1 m2 c2 (fun r hr => ?_) ?_ e e2
        · unfold rowsOf at hr
          obtain ⟨j, hj, rfl⟩ := List.mem_map.mp hr
          have := List.mem_range.mp hj
          exact (hg (j + 1) (by omega) (by omega)).2.2
        · rw [rowsOf_len]
          by_cases h0 : (splS text 10).length - 1 = 0
          · omega
          · exact (hg ((splS text 10).length - 1) (by omega) (by omega)).1
  · exact ans_bad fu (d1 h) (read_bad0 fu ht h)
end
end K04

set_option autoImplicit true
set_option Elab.async false
set_option linter.all false
set_option maxRecDepth 100000
set_option exponentiation.threshold 10000
set_option maxHeartbeats 4000000
namespace K04
open PySem Ed
local macro_rules | `(tactic| simp? only [$hs,*]) => `(tactic| simp (implicitDefEqProofs := false) only [kR_s, eC_ap, eN_ap, kN_s, pN_ap, kP_s, kpE_ok, kpE_ex, pE_ap, kU2_s, kU_ok, kU_ex, eU_ap, kB3_s, kB2_ok, kB2_ex, kB1_ok, kB1_ex, eB_ap, kF2_s, kF_ok, kF_ex, eF_ap, aNil_ap, lNil_ap, kA2_ok, kA2_ex, kA1_ok, kA1_ex, aCons_ap, kL2_ok, kL2_ex, kL1_ok, kL1_ex, lCons_ap, kSz_t, kTp_ok, kTp_ex, kLs_ok, kLs_ex, eTup_ap, nLst_ap, kIf_t, kIf_f, kIf_ex, tC_ap, eAnd_ap, eOr_ap, eNot_ap, eIf_ap, sIf_ap, kE2_b, kE_ok, kE_ex, tE_ap, kT3_s, kT2_s, kT_ok, kT_ex, tTru_ap, tru_int, tru_bl, tru_lst, tru_tup, tru_non, tYs_ap, eCB_ap, eAndV_ap, eOrV_ap, eNotV_ap, kCh4_s, kCh3_ok, kCh3_ex, kCh2_t, kCh2_f, kCh1_s, kCh0_ok, kCh0_ex, kCh_ok, kCh_ex, eChain_ap, callF_ap, kCp_s, kC_ok, kC_ex, kCd_ok, kCd_ex, kFr2_r, kFr_ok, kFr_ex, kC1_ok, kC1_ex, eCall_ap, kC2_ok, kC2_ex, nCall_ap, dfz, dfr, prep0, pK_s, prep_d, prep_t, pKt_s, prep_f, pKf_s, mkF_ap, kMk_ok, kMk_ex, kFl_ok, kFl_ex, eFld_ap, fld_s, kO2_s, kO1_ok, kO1_ex, kO0_ok, kO0_ex, eOwn2_ap, kOC3_s, kOC2_ok, kOC2_ex, kOC1_s, kOC0_ok, kOC0_ex, eOwnC_ap, kM2_ok, kM2_ex, kM1_s, kM0_ok, kM0_ex, eMeth_ap, eJs_nil, kJz_t, kJ2_s, kJ_ok, kJ_ex, eJs_cons, kSl4_s, kSl3_s, kSl2_s, kSl1_s, eSl_ap, oP_n, kOp2_s, kOp_s, oP_s, kLc2_s, kLc1_t, kLc_ok, eLc_ap, kIs2_s, kIs_ok, iSeq_ap, it_l, it_t, kIn_s, iN_ap, kRg_ok, iRg1_ap, kRh2_ok, kRh1_ok, iRg2_ap, sNext_ap, sBrk_ap, sCnt_ap, sRetN_ap, kS_nx, kS_rt, kS_bk, kS_ct, kS_ex, sSeq_ap, kSet_ok, kSet_ex, sSet_ap, kOwn_ok, kOwn_ex, sOwn_ap, kDrp_ok, kDrp_ex, sDrop_ap, kRet_ok, kRet_ex, sRet_ap, kReO_ok, kReO_ex, sRetO_ap, sRetX_ap, kRx_o, kRx_v, kAp3_t, kAp2_o, kAp1_ok, kAp0_s, sApp_ap, kPi4_s, kPi3_s, kPi2_ok, kPi1_s, kPi0_ok, sPutI_ap, kPr2_ok, kPr1_ok, sPar_ap, kAs2_s, kAs_ok, sAsg_ap, gN_ap, gT_t, gT_l, gs_nil, kGs_s, gs_cons, kFor_ok, sFor_ap, sWhl_ap, kFd_ok, sFld_ap, kRs_ok, sRaise_ap, kSu_ok, kTr3_t, kTr2_t, kTr2_f, kTr_ok, kTr_ex, sTry_ap, kIE2_s, kIE_s, eIsE_ap, kXf_s, eXf_ap, fin_nx, fin_rt, fin_ex, finI_ex, kFi_s, finI_nx, app_nil, app_cons, ins0_nil, ins0_cons, inSl_f, inSl_l, inSl_i, inSl_b, inSl_s, inSl_n, inSl_t, inSl_c, inSl_o, pad_0, pad_1, get_0, get_1, put_0, put_1, look_v, look_o, look_b, frz_v, frz_o, stay_v, stay_o, stay_b, rd_d, rd_n, rds_nil, kRd_s, rds_cons, wipe_nil, wipe_cons, rest_nil, rest_cons, all_nil, all_cons, stb_e, stb_v, stb_b, noX_nil, noX_e, noX_v, noX_o, noX_b, true_and', tbl_ap, putFd_nil, putFd_cons, dAdd_i, dSub_i, dNeg_i, dLt_i, dLe_i, dGt_i, dGe_i, dEq_i, dNe_i, dEq_b, dNe_b, dEq_s, dNe_s, o1_ap, dAbs_i, dInt_i, dInt_b, dBool_i, dLen_l, dLen_t, dLen_c, dIx_l, dIx_t, dIx_c, at_0, at_1, at_2, at_3, isT_ii, isT_bi, isT_bb, isT_ss, isT_ll, isT_tt, isB2_i, map_s, dRev_l, dTup_l, dTup_t, dLst_l, dLst_t, dCut_l, dCutL_l, dGcd_i, isB_b, isS_s, mul_r, mul_l, dDiv_r, dMod_i, kGb_s, kGe_s,   decide_true, decide_false, Bool.not_true, Bool.not_false, Bool.and_true, Bool.and_false, Bool.false_and, if_true, if_false, ite_true, ite_false, Bool.false_eq_true, List.lookup_cons, List.lookup_nil, List.length_cons, List.length_nil, Nat.reduceBEq, Nat.reduceLT, Nat.reduceLeDiff, Nat.zero_le, seqMax, List.length_map, Nat.reduceAdd, Nat.reduceEqDiff, Nat.reducePow, Int.reduceNe, Int.reduceEq, Int.reduceLT, Int.reduceLE, Int.reduceBEq, Int.reduceNeg, Int.natAbs_neg, ne_eq, not_true, not_false_eq_true, and_self, true_and, and_true, beq_self_eq_true, turn_ap, kTn1_s, kTn2_t, kTn2_f, kTn2_p, kTn2_n, kTn3_ok, dIn_sl, dIn_st, dNin_sl, dNin_st, dIn_il, dNin_il, kSg2_s, kSg_ok, iSgn_ap, kED_s, eIsED_ap, kX2_s, kX1_ok, kX1_ex, kX0_ok, kX0_ex, eOwnX_ap, kBT4_s, kBT3_ok, kBT3_ex, kBT1_ok, kBT1_ex, eBMT_ap, dIsN_n, dIsN_l, dIsN_t, dIsN_i, dIsN_s, dNotN_n, dNotN_l, dNotN_t, dNotN_i, dNotN_s, dBAnd_i, dBOr_i, dMin2_i, dMax2_i, dCut_t, dCut_c, dCut_l2, Int.cast_ofNat_Int, at_4, at_5, at_6, at_7, at_8, at_9, at_10, at_11, at_12, at_13, $hs,*])
section
variable {ns p0 p1 : List Int}
theorem dcols_turn (fu : Nat) {i : Nat} {Γ : Ed.Env} {s3 : Sl} (hp : p0.length = 60) (hi : i < 12) (h : ∃ (cols : List Str) (j5 : Sl), Γ = [.val (.scr ns), .val (iL p0), .val (iL p1), s3, .own (sL cols), j5, .emp, .emp, .emp, .emp] ∧ cols.length = i ∧ Cols cols ∧ stb j5 = true) :
    ∃ Γ2, kGb (lb_law_drawn_0 fu) (gN 5 (.int (0 + (i : Int))) Γ) = .ok (.nx, Γ2) ∧ ∃ (cols : List Str) (j5 : Sl), Γ2 = [.val (.scr ns), .val (iL p0), .val (iL p1), s3, .own (sL cols), j5, .emp, .emp, .emp, .emp] ∧ cols.length = i + 1 ∧ Cols cols ∧ stb j5 = true := by
  obtain ⟨cols, j5, rfl, hl, hc, _⟩ := h
  have zi : (0 : Int) + (i : Int) = i := by omega
  obtain ⟨w, ew, hw⟩ := word_ok fu (pool := p0) (at_ := 1 + 3 * (i : Int)) (by omega) (by omega)
  obtain ⟨w2, e2, hw2, hn2⟩ := new_ok fu (names := cols) hw (by omega)
  have hz : cols.length < 16777216 := by omega
  refine ⟨[.val (.scr ns), .val (iL p0), .val (iL p1), s3, .own (sL (cols ++ [w2])), .val (.int (i : Int)), .emp, .emp, .emp, .emp], ?_, _, _, rfl, by simp [hl], hc.add hw2 hn2, rfl⟩
  unfold lb_law_drawn_0
  apply gb_of
  · rfl
  try simp only [put_0, put_1]
  rw [zi]
  simp? only [ew, e2, hz, show cols.map D.str ++ [D.str w2] = (cols ++ [w2]).map D.str from map_app1 _ _ _]
/-- what is drawn -/
def Drawn (cols : List Str) (rows : List (List Str)) : Prop := Cols cols ∧ cols.length ≤ 12 ∧ rows.length ≤ 48 ∧ ∀ r ∈ rows, RowOk cols r
theorem word_nm : nameOk ("row" : Str) ∧ nameOk ("columns" : Str) := ⟨by decide +kernel, by decide +kernel⟩
/-- from the rows on -/
theorem drawn_rows (fu : Nat) (hp0 : p0.length = 60) (hp1 : p1.length = 60) {cols : List Str} (hc : Cols cols) (hl : cols.length ≤ 12) {s3 j5 s6 : Sl} (hj : stb j5 = true) :
    ∃ rows Γ, Drawn cols rows ∧ (sSeq (sOwn 7 (eLc [8] (iRg1 (pE (eB dMod (pE (eF (o1 dInt) (aCons (pE (eB dIx (pN 1) (pE (eC (.int 40))))) aNil))) (pE (eC (.int 7)))))) (gN 8) tYs (el_law_drawn_1 fu)))
  (sSeq (sIf (tE (eB dEq (pE (eB dMod (pE (eF (o1 dInt) (aCons (pE (eB dIx (pN 1) (pE (eC (.int 41))))) aNil))) (pE (eC (.int 10))))) (pE (eC (.int 0)))))
    (sSeq (sSet 9 (eB dAdd (pN 7) (pE (nLst (lCons (eSl dCut (pN 4) none (some (pE (eC (.int 2))))) lNil)))))
  (sOwn 7 (eLc [5] (iRg1 (pE (eB dAdd (pE (eC (.int 46))) (pE (eB dMod (pE (eF (o1 dInt) (aCons (pE (eB dIx (pN 1) (pE (eC (.int 42))))) aNil))) (pE (eC (.int 3)))))))) (gN 5) tYs (el_law_drawn_2 fu))))
    sNext)
  (sRetO (nLst (lCons (eN 4) (lCons (eN 7) lNil)))))) [.val (.scr ns), .val (iL p0), .val (iL p1), s3, .own (sL cols), j5, s6, .emp, .emp, .emp] = .ok (.ret (.fr (.lst [sL cols, sLL rows])), Γ) := by
  have a40 := at_map (f := D.int) (l := p0) (k := 40) 0 (by omega) (by omega)
  have a41 := at_map (f := D.int) (l := p0) (k := 41) 0 (by omega) (by omega)
  have a42 := at_map (f := D.int) (l := p0) (k := 42) 0 (by omega) (by omega)
  have f := fm_lt (p0.getD (40 : Int).toNat 0) (m := 7) (by decide)
  generalize hn : (p0.getD (40 : Int).toNat 0).fmod 7 = n at f
  have f2 := fm_lt (p0.getD (42 : Int).toNat 0) (m := 3) (by decide)
  generalize hm : (p0.getD (42 : Int).toNat 0).fmod 3 = m at f2
  obtain ⟨R, hR⟩ := choose_rows (n := 7) (P := fun i r => F_law_marks fu [sL cols, iL p1, .int (3 * (i : Int))] = .ok (.fr (sL r)) ∧ RowOk cols r) fun i hi => marks_ok fu (pool := p1) (at_ := 3 * (i : Int)) hc.1 (by omega) (by omega) (by omega)
  have e1 := lcL_a (g := gN 8) (t := tYs) (e := el_law_drawn_1 fu) (vs := [8]) (Γ0 := [.val (.scr ns), .val (iL p0), .val (iL p1), s3, .own (sL cols), j5, s6, .emp, .emp, .emp]) (fun i : Nat => D.int (i : Int)) (fun i => sL (R i)) (List.range n.toNat) (fun i hi => by
    have hi := List.mem_range.mp hi
    have := (hR i (by omega)).1
    unfold el_law_drawn_1
    simp? only [this]) (n := 0) (by rw [List.length_range]; show 0 + _ ≤ 16777216; omega)
  rw [show (List.range n.toNat).map (fun i => sL (R i)) = ((List.range n.toNat).map R).map sL by rw [List.map_map]; rfl] at e1
  have hro : ∀ r ∈ (List.range n.toNat).map R, RowOk cols r := fun r hr => by
    obtain ⟨i, hi, rfl⟩ := List.mem_map.mp hr
    have hi := List.mem_range.mp hi
    exact (hR i (by omega)).2
  have hrl : ((List.range n.toNat).map R).length ≤ 6 := by simp; omega
  generalize (List.range n.toNat).map R = rows at e1 hro hrl
  by_cases c : (p0.getD (41 : Int).toNat 0).fmod 10 = 0
  · have cb : ((p0.getD (41 : Int).toNat 0).fmod 10 == 0) = true := beq_iff_eq.mpr c
    have c2 : cut (cols.map D.str) none (some 2) = (cols.take 2).map D.str := by rw [cut_to (by decide), List.map_take]; rfl
    have ad : dAdd (.lst (rows.map sL)) (.lst [.lst ((cols.take 2).map D.str)]) = some (sLL (rows ++ [cols.take 2])) := by
      rw [dAdd_L (by simp; omega)]
      rw [show (D.lst ((cols.take 2).map D.str)) = sL (cols.take 2) from rfl, map_app1]
    have hbo : ∀ r ∈ rows ++ [cols.take 2], RowOk cols r := mem_app1 hro ⟨hc.1.sublist (List.take_sublist _ _), fun x hx => List.mem_of_mem_take hx⟩
    have hbl : ((rows ++ [cols.take 2]).length : Int) = rows.length + 1 := by simp
    generalize hB : rows ++ [cols.take 2] = B at ad hbo hbl
    have hne : ((B.length : Int)) ≠ 0 := by omega
    have e2 := lcL_a (g := gN 5) (t := tYs) (e := el_law_drawn_2 fu) (vs := [5]) (Γ0 := [.val (.scr ns), .val (iL p0), .val (iL p1), s3, .own (sL cols), .emp, s6, .own (sLL rows), .emp, .val (sLL B)]) (fun i : Nat => D.int (i : Int)) (fun i => sL (B.getD ((i : Int).fmod (B.length : Int)).toNat [])) (List.range (46 + m).toNat) (fun i hi => by
      have g := fm_lt (i : Int) (m := (B.length : Int)) (by omega)
      have b2 := at_map (f := sL) (l := B) (k := (i : Int).fmod (B.length : Int)) [] g.1 g.2
      unfold el_law_drawn_2
      simp? only [dMod_i hne, b2]) (n := 0) (by rw [List.length_range]; show _ ≤ 16777216; omega)
    have hr48 : (List.range (46 + m).toNat).map (fun i : Nat => sL (B.getD ((i : Int).fmod (B.length : Int)).toNat [])) = ((List.range (46 + m).toNat).map fun i : Nat => B.getD ((i : Int).fmod (B.length : Int)).toNat []).map sL := by rw [List.map_map]; rfl
    rw [hr48] at e2
    have hro2 : ∀ r ∈ (List.range (46 + m).toNat).map (fun i : Nat => B.getD ((i : Int).fmod (B.length : Int)).toNat []), RowOk cols r := fun r hr => by
      obtain ⟨i, hi, rfl⟩ := List.mem_map.mp hr
      have g := fm_lt (i : Int) (m := (B.length : Int)) (by omega)
      exact hbo _ (getD_mem (by omega))
    have hl2 : ((List.range (46 + m).toNat).map (fun i : Nat => B.getD ((i : Int).fmod (B.length : Int)).toNat [])).length ≤ 48 := by simp; omega
    generalize (List.range (46 + m).toNat).map (fun i : Nat => B.getD ((i : Int).fmod (B.length : Int)).toNat []) = rows2 at e2 hro2 hl2
    refine' ⟨rows2, _, ⟨hc, hl, hl2, hro2⟩, ?_⟩
    rotate_left
    · apply seq_nx
      · simp? only [a40, hn, kRg2_s (rngB_of (n := n) (by omega) (by omega)), rng0, hj, e1]
        rfl
      apply seq_nx
      · simp? only [a41, cb, c2, ad, dCut_l2, a42, hm, kRg2_s (rngB_of (n := 46 + m) (by omega) (by omega)), rng0, hj, e2]
        rfl
      simp? only []
      rfl
  · have cb : ((p0.getD (41 : Int).toNat 0).fmod 10 == 0) = false := beq_eq_false_iff_ne.mpr c
    refine' ⟨rows, _, ⟨hc, hl, by omega, hro⟩, ?_⟩
    rotate_left
    · apply seq_nx
      · simp? only [a40, hn, kRg2_s (rngB_of (n := n) (by omega) (by omega)), rng0, hj, e1]
        rfl
      apply seq_nx
      · simp? only [a41, cb]
        rfl
      simp? only []
      rfl
theorem drawn_ok (fu : Nat) (ns : List Int) : ∃ cols rows, F_law_drawn fu [.scr ns] = .ok (.fr (.lst [sL cols, sLL rows])) ∧ Drawn cols rows := by
  obtain ⟨p0, e0, hp0, _⟩ := pool_ok fu ns (k := 0) (n := 60) (by decide) (by decide) (by decide)
  obtain ⟨p1, e1, hp1, _⟩ := pool_ok fu ns (k := 1) (n := 60) (by decide) (by decide) (by decide)
  have hp0 : p0.length = 60 := hp0
  have hp1 : p1.length = 60 := hp1
  have a0 := at_map (f := D.int) (l := p0) (k := 0) 0 (by omega) (by omega)
  have a37 := at_map (f := D.int) (l := p0) (k := 37) 0 (by omega) (by omega)
  have a38 := at_map (f := D.int) (l := p0) (k := 38) 0 (by omega) (by omega)
  have a39 := at_map (f := D.int) (l := p0) (k := 39) 0 (by omega) (by omega)
  have f := fm_lt (p0.getD (0 : Int).toNat 0) (m := 13) (by decide)
  have a := at_map (f := D.int) (l := sizesL) (k := (p0.getD (0 : Int).toNat 0).fmod 13) 0 f.1 (by show _ < ((13 : Nat) : Int); omega)
  have b := sizes_b ((p0.getD (0 : Int).toNat 0).fmod 13).toNat (by omega)
  generalize sizesL.getD ((p0.getD (0 : Int).toNat 0).fmod 13).toNat 0 = m at a b
  unfold sizesL at a
  simp only [List.map_cons, List.map_nil] at a
  obtain ⟨Γ', ec, cols, j5, rfl, hcl, hc, hj⟩ := forL_rm (g := gN 5) (s := lb_law_drawn_0 fu) (lo := 0) (m := m.toNat) (Γ := [.val (.scr ns), .val (iL p0), .val (iL p1), .val (.int m), .own (.lst []), .emp, .emp, .emp, .emp, .emp]) (P := fun i Γ => ∃ (cols : List Str) (j5 : Sl), Γ = [Sl.val (.scr ns), .val (iL p0), .val (iL p1), .val (.int m), .own (sL cols), j5, .emp, .emp, .emp, .emp] ∧ cols.length = i ∧ Cols cols ∧ stb j5 = true) ⟨[], _, rfl, rfl, ⟨List.nodup_nil, fun s h => by cases h⟩, rfl⟩ fun i Γ hi p => dcols_turn fu hp0 (by omega) p
  obtain ⟨w, ew, hw⟩ : ∃ w : Str, at1 (α := D) [.str "row", .str "columns"] ((p0.getD (38 : Int).toNat 0).fmod 2) = some (.str w) ∧ nameOk w := by
    have g := fm_lt (p0.getD (38 : Int).toNat 0) (m := 2) (by decide)
    generalize (p0.getD (38 : Int).toNat 0).fmod 2 = v at g
    have : v = 0 ∨ v = 1 := by omega
    rcases this with rfl | rfl
    · exact ⟨"row", at_0, word_nm.1⟩
    · exact ⟨"columns", at_1, word_nm.2⟩
  generalize hv : (p0.getD (38 : Int).toNat 0).fmod 2 = v at ew
  have go : ∀ (cols' : List Str), Cols cols' → cols'.length ≤ 12 → (sIf (eAnd (tE (eB dGt (pN 3) (pE (eC (.int 0))))) (eAnd (tE (eB dEq (pE (eB dMod (pE (eF (o1 dInt) (aCons (pE (eB dIx (pN 1) (pE (eC (.int 37))))) aNil))) (pE (eC (.int 3))))) (pE (eC (.int 0))))) (tE (eB dNin (pN 6) (pN 4)))))
    (sPutI 4 (pE (eB dMod (pE (eF (o1 dInt) (aCons (pE (eB dIx (pN 1) (pE (eC (.int 39))))) aNil))) (pN 3))) (eN 6))
    sNext) [.val (.scr ns), .val (iL p0), .val (iL p1), .val (.int m), .own (sL cols), j5, .val (.str w), .emp, .emp, .emp] = .ok (.nx, [.val (.scr ns), .val (iL p0), .val (iL p1), .val (.int m), .own (sL cols'), j5, .val (.str w), .emp, .emp, .emp]) →
      ∃ cols rows, F_law_drawn fu [.scr ns] = .ok (.fr (.lst [sL cols, sLL rows])) ∧ Drawn cols rows := fun cols' hc' hl' hs => by
    obtain ⟨rows, Γ, hd, e⟩ := drawn_rows fu (ns := ns) hp0 hp1 hc' hl' (s3 := .val (.int m)) (s6 := .val (.str w)) hj
    refine ⟨cols', rows, ?_, hd⟩
    unfold F_law_drawn sv_law_drawn sg_law_drawn_4 sg_law_drawn_3
    rw [runF_ap rfl]
    apply fin_of
    try simp only [app_nil, app_cons, ins0_nil, ins0_cons, inSl_f, inSl_l, inSl_i, inSl_b, inSl_s, inSl_n, inSl_t, inSl_c, inSl_o, pad_0, pad_1]
    · apply seq_nx
      · simp? only [e0]
        rfl
      apply seq_nx
      · simp? only [e1]
        rfl
      apply seq_nx
      · simp? only [a0, a]
        rfl
      apply seq_nx
      · simp? only []
        rfl
      apply seq_nx
      · simp? only [kRg2_s (rngB_of (n := m) (by omega) (by omega)), ec]
        rfl
      apply seq_nx
      · simp? only [a38, hv, ew]
        rfl
      apply seq_nx hs
      exact e
    · rfl
  by_cases c1 : (0 : Int) < m
  · by_cases c2 : (p0.getD (37 : Int).toNat 0).fmod 3 = 0
    · have cb : ((p0.getD (37 : Int).toNat 0).fmod 3 == 0) = true := beq_iff_eq.mpr c2
      by_cases c3 : w ∈ cols
      · refine go cols hc (by omega) ?_
        simp? only [c1, a37, cb, c3]
      · have hne : m ≠ 0 := by omega
        have g := fm_lt (p0.getD (39 : Int).toNat 0) (m := m) (by omega)
        generalize hk : (p0.getD (39 : Int).toNat 0).fmod m = k at g
        refine go (cols.set k.toNat w) (hc.set hw c3 _) (by rw [List.length_set]; omega) ?_
        simp? only [c1, a37, cb, c3, a39, dMod_i hne, hk, ixN_of g.1 (show k < (cols.length : Int) by omega), kPi4_s]
        rw [show (List.map D.str cols).set k.toNat (D.str w) = (cols.set k.toNat w).map D.str by rw [List.map_set]]
    · have cb : ((p0.getD (37 : Int).toNat 0).fmod 3 == 0) = false := beq_eq_false_iff_ne.mpr c2
      refine go cols hc (by omega) ?_
      simp? only [c1, a37, cb]
  · refine go cols hc (by omega) ?_
    simp? only [c1]
end
end K04

set_option autoImplicit true
set_option Elab.async false
set_option linter.all false
set_option maxRecDepth 100000
set_option exponentiation.threshold 10000
set_option maxHeartbeats 4000000
namespace K04
open PySem Ed
local macro_rules | `(tactic| simp? only [$hs,*]) => `(tactic| simp (implicitDefEqProofs := false) only [kR_s, eC_ap, eN_ap, kN_s, pN_ap, kP_s, kpE_ok, kpE_ex, pE_ap, kU2_s, kU_ok, kU_ex, eU_ap, kB3_s, kB2_ok, kB2_ex, kB1_ok, kB1_ex, eB_ap, kF2_s, kF_ok, kF_ex, eF_ap, aNil_ap, lNil_ap, kA2_ok, kA2_ex, kA1_ok, kA1_ex, aCons_ap, kL2_ok, kL2_ex, kL1_ok, kL1_ex, lCons_ap, kSz_t, kTp_ok, kTp_ex, kLs_ok, kLs_ex, eTup_ap, nLst_ap, kIf_t, kIf_f, kIf_ex, tC_ap, eAnd_ap, eOr_ap, eNot_ap, eIf_ap, sIf_ap, kE2_b, kE_ok, kE_ex, tE_ap, kT3_s, kT2_s, kT_ok, kT_ex, tTru_ap, tru_int, tru_bl, tru_lst, tru_tup, tru_non, tYs_ap, eCB_ap, eAndV_ap, eOrV_ap, eNotV_ap, kCh4_s, kCh3_ok, kCh3_ex, kCh2_t, kCh2_f, kCh1_s, kCh0_ok, kCh0_ex, kCh_ok, kCh_ex, eChain_ap, callF_ap, kCp_s, kC_ok, kC_ex, kCd_ok, kCd_ex, kFr2_r, kFr_ok, kFr_ex, kC1_ok, kC1_ex, eCall_ap, kC2_ok, kC2_ex, nCall_ap, dfz, dfr, prep0, pK_s, prep_d, prep_t, pKt_s, prep_f, pKf_s, mkF_ap, kMk_ok, kMk_ex, kFl_ok, kFl_ex, eFld_ap, fld_s, kO2_s, kO1_ok, kO1_ex, kO0_ok, kO0_ex, eOwn2_ap, kOC3_s, kOC2_ok, kOC2_ex, kOC1_s, kOC0_ok, kOC0_ex, eOwnC_ap, kM2_ok, kM2_ex, kM1_s, kM0_ok, kM0_ex, eMeth_ap, eJs_nil, kJz_t, kJ2_s, kJ_ok, kJ_ex, eJs_cons, kSl4_s, kSl3_s, kSl2_s, kSl1_s, eSl_ap, oP_n, kOp2_s, kOp_s, oP_s, kLc2_s, kLc1_t, kLc_ok, eLc_ap, kIs2_s, kIs_ok, iSeq_ap, it_l, it_t, kIn_s, iN_ap, kRg_ok, iRg1_ap, kRh2_ok, kRh1_ok, iRg2_ap, sNext_ap, sBrk_ap, sCnt_ap, sRetN_ap, kS_nx, kS_rt, kS_bk, kS_ct, kS_ex, sSeq_ap, kSet_ok, kSet_ex, sSet_ap, kOwn_ok, kOwn_ex, sOwn_ap, kDrp_ok, kDrp_ex, sDrop_ap, kRet_ok, kRet_ex, sRet_ap, kReO_ok, kReO_ex, sRetO_ap, sRetX_ap, kRx_o, kRx_v, kAp3_t, kAp2_o, kAp1_ok, kAp0_s, sApp_ap, kPi4_s, kPi3_s, kPi2_ok, kPi1_s, kPi0_ok, sPutI_ap, kPr2_ok, kPr1_ok, sPar_ap, kAs2_s, kAs_ok, sAsg_ap, gN_ap, gT_t, gT_l, gs_nil, kGs_s, gs_cons, kFor_ok, sFor_ap, sWhl_ap, kFd_ok, sFld_ap, kRs_ok, sRaise_ap, kSu_ok, kTr3_t, kTr2_t, kTr2_f, kTr_ok, kTr_ex, sTry_ap, kIE2_s, kIE_s, eIsE_ap, kXf_s, eXf_ap, fin_nx, fin_rt, fin_ex, finI_ex, kFi_s, finI_nx, app_nil, app_cons, ins0_nil, ins0_cons, inSl_f, inSl_l, inSl_i, inSl_b, inSl_s, inSl_n, inSl_t, inSl_c, inSl_o, pad_0, pad_1, get_0, get_1, put_0, put_1, look_v, look_o, look_b, frz_v, frz_o, stay_v, stay_o, stay_b, rd_d, rd_n, rds_nil, kRd_s, rds_cons, wipe_nil, wipe_cons, rest_nil, rest_cons, all_nil, all_cons, stb_e, stb_v, stb_b, noX_nil, noX_e, noX_v, noX_o, noX_b, true_and', tbl_ap, putFd_nil, putFd_cons, dAdd_i, dSub_i, dNeg_i, dLt_i, dLe_i, dGt_i, dGe_i, dEq_i, dNe_i, dEq_b, dNe_b, dEq_s, dNe_s, o1_ap, dAbs_i, dInt_i, dInt_b, dBool_i, dLen_l, dLen_t, dLen_c, dIx_l, dIx_t, dIx_c, at_0, at_1, at_2, at_3, isT_ii, isT_bi, isT_bb, isT_ss, isT_ll, isT_tt, isB2_i, map_s, dRev_l, dTup_l, dTup_t, dLst_l, dLst_t, dCut_l, dCutL_l, dGcd_i, isB_b, isS_s, mul_r, mul_l, dDiv_r, dMod_i, kGb_s, kGe_s,   decide_true, decide_false, Bool.not_true, Bool.not_false, Bool.and_true, Bool.and_false, Bool.false_and, if_true, if_false, ite_true, ite_false, Bool.false_eq_true, List.lookup_cons, List.lookup_nil, List.length_cons, List.length_nil, Nat.reduceBEq, Nat.reduceLT, Nat.reduceLeDiff, Nat.zero_le, seqMax, List.length_map, Nat.reduceAdd, Nat.reduceEqDiff, Nat.reducePow, Int.reduceNe, Int.reduceEq, Int.reduceLT, Int.reduceLE, Int.reduceBEq, Int.reduceNeg, Int.natAbs_neg, ne_eq, not_true, not_false_eq_true, and_self, true_and, and_true, beq_self_eq_true, turn_ap, kTn1_s, kTn2_t, kTn2_f, kTn2_p, kTn2_n, kTn3_ok, dIn_sl, dIn_st, dNin_sl, dNin_st, dIn_il, dNin_il, kSg2_s, kSg_ok, iSgn_ap, kED_s, eIsED_ap, kX2_s, kX1_ok, kX1_ex, kX0_ok, kX0_ex, eOwnX_ap, kBT4_s, kBT3_ok, kBT3_ex, kBT1_ok, kBT1_ex, eBMT_ap, dIsN_n, dIsN_l, dIsN_t, dIsN_i, dIsN_s, dNotN_n, dNotN_l, dNotN_t, dNotN_i, dNotN_s, dBAnd_i, dBOr_i, dMin2_i, dMax2_i, dCut_t, dCut_c, dCut_l2, Int.cast_ofNat_Int, at_4, at_5, at_6, at_7, at_8, at_9, at_10, at_11, at_12, at_13, $hs,*])
/-! the written text -/
def wline (h : Str) (r : List Str) : Str := Str.join " " (h :: r)
def wtext (cs : List Str) (rows : List (List Str)) : Str := Str.join "\n" (wline "columns" cs :: rows.map (wline "row"))
/-- short lists of short texts -/
def Nm (r : List Str) : Prop := (∀ x ∈ r, nameOk x) ∧ r.length ≤ 12
theorem Drawn.nm {cs : List Str} {rows : List (List Str)} (h : Drawn cs rows) : Nm cs ∧ (∀ r ∈ rows, Nm r) ∧ (∀ r ∈ rows, Nm (srt cs r)) := by
  obtain ⟨h1, h2, h3, h4⟩ := h
  refine ⟨⟨h1.2, h2⟩, fun r hr => ⟨fun x hx => h1.2 x ((h4 r hr).2 x hx), Nat.le_trans (h4 r hr).le h2⟩, fun r hr => ⟨fun x hx => h1.2 x (List.mem_filter.mp hx).1, Nat.le_trans (List.length_filter_le _ _) h2⟩⟩
theorem wline_fit {h : Str} {r : List Str} (hh : nameOk h) (hr : Nm r) : ((h :: r).map (·.length)).sum + (h :: r).length * (" " : Str).length ≤ 117 := by
  have := sum_le (B := 8) (xs := h :: r) fun y hy => by
    rcases List.mem_cons.mp hy with rfl | hy
    · exact hh.2.1
    · exact (hr.1 y hy).2.1
  have := hr.2
  rw [List.length_cons] at *
  rw [sp1]
  omega
theorem wline_len {h : Str} {r : List Str} (hh : nameOk h) (hr : Nm r) : (wline h r).length ≤ 117 := Nat.le_trans (join_len _ _) (wline_fit hh hr)
theorem wline_join {h : Str} {r : List Str} (hh : nameOk h) (hr : Nm r) : dJoin (.str " ") [.lst ((h :: r).map D.str)] = some (.str (wline h r)) := dJoin_l (by have := wline_fit hh hr; omega)
theorem wline_cps {h : Str} {r : List Str} (hh : nameOk h) (hr : Nm r) : ∀ c ∈ (wline h r).cps.toList, c = 32 ∨ (97 ≤ c ∧ c ≤ 122) := join_all (P := fun c => c = 32 ∨ (97 ≤ c ∧ c ≤ 122)) (fun c hc => by
    rw [sp_cps] at hc
    exact .inl (List.mem_singleton.mp hc)) fun x hx c hc => by
    rcases List.mem_cons.mp hx with rfl | hx
    · exact .inr (hh.2.2 c hc)
    · exact .inr ((hr.1 x hx).2.2 c hc)
theorem wline_wds {h : Str} {r : List Str} (hh : nameOk h) (hr : Nm r) : wds (wline h r) = h :: r := splS_join sp_cps (by simp) fun p hp hc => by
  have : 97 ≤ 32 ∧ 32 ≤ 122 := by
    rcases List.mem_cons.mp hp with rfl | hp
    · exact hh.2.2 _ hc
    · exact (hr.1 p hp).2.2 _ hc
  omega
theorem lines_len {cs : List Str} {rows : List (List Str)} (hc : Nm cs) (hr : ∀ r ∈ rows, Nm r) : ∀ x ∈ wline "columns" cs :: rows.map (wline "row"), x.length ≤ 117 := fun x hx => by
  rcases List.mem_cons.mp hx with rfl | hx
  · exact wline_len word_nm.2 hc
  · obtain ⟨r, h, rfl⟩ := List.mem_map.mp hx
    exact wline_len word_nm.1 (hr r h)
theorem text_fit {cs : List Str} {rows : List (List Str)} (hc : Nm cs) (hr : ∀ r ∈ rows, Nm r) (hl : rows.length ≤ 48) : ((wline "columns" cs :: rows.map (wline "row")).map (·.length)).sum + (wline "columns" cs :: rows.map (wline "row")).length * ("\n" : Str).length ≤ 5782 := by
  have := sum_le (B := 117) (lines_len hc hr)
  have e : (wline "columns" cs :: rows.map (wline "row")).length = rows.length + 1 := by simp
  rw [e] at this ⊢
  rw [nl1]
  omega
theorem text_len {cs : List Str} {rows : List (List Str)} (hc : Nm cs) (hr : ∀ r ∈ rows, Nm r) (hl : rows.length ≤ 48) : (wtext cs rows).length ≤ 5782 := Nat.le_trans (join_len _ _) (text_fit hc hr hl)
theorem text_join {cs : List Str} {rows : List (List Str)} (hc : Nm cs) (hr : ∀ r ∈ rows, Nm r) (hl : rows.length ≤ 48) : dJoin (.str "\n") [.lst ((wline "columns" cs :: rows.map (wline "row")).map D.str)] = some (.str (wtext cs rows)) := dJoin_l (by have := text_fit hc hr hl; omega)
theorem text_spl {cs : List Str} {rows : List (List Str)} (hc : Nm cs) (hr : ∀ r ∈ rows, Nm r) : splS (wtext cs rows) 10 = wline "columns" cs :: rows.map (wline "row") := splS_join nl_cps (by simp) fun p hp hx => by
  have : 10 = 32 ∨ (97 ≤ 10 ∧ 10 ≤ 122) := by
    rcases List.mem_cons.mp hp with rfl | hp
    · exact wline_cps word_nm.2 hc _ hx
    · obtain ⟨r, h, rfl⟩ := List.mem_map.mp hp
      exact wline_cps word_nm.1 (hr r h) _ hx
  omega
/-- reading what was written -/
theorem read_written (fu : Nat) {cs : List Str} {rows : List (List Str)} (h : Drawn cs rows) : F_read_table fu [.str (wtext cs rows)] = .ok (.fz (tb cs rows)) := by
  obtain ⟨nc, nr, _⟩ := h.nm
  obtain ⟨h1, h2, h3, h4⟩ := h
  have ht := text_len nc nr h3
  have e := text_spl nc nr
  have w0 := wline_wds word_nm.2 nc
  have t0 : tlw (wline "columns" cs) = cs := by unfold tlw; rw [w0]; rfl
  have d0 : hdw (wline "columns" cs) = "columns" := by unfold hdw; rw [w0]; rfl
  have hh : colsG ((splS (wtext cs rows) 10).getD 0 default) := by
    rw [e]
    show colsG (wline "columns" cs)
    unfold colsG
    rw [t0, d0]
    exact ⟨rfl, h2, cols_iff.mpr ⟨h1.1, h1.2⟩⟩
  have lk : ∀ j (hj : j < rows.length), (wline "columns" cs :: rows.map (wline "row")).getD (j + 1) default = wline "row" rows[j] := fun j hj => by
    simp [List.getD_eq_getElem?_getD, hj]
  have tk : ∀ j (hj : j < rows.length), hdw (wline "row" rows[j]) = "row" ∧ tlw (wline "row" rows[j]) = rows[j] := fun j hj => by
    have w := wline_wds word_nm.1 (nr _ (List.getElem_mem hj))
    unfold tlw hdw
    rw [w]
    exact ⟨rfl, rfl⟩
  have ok : ∀ j, 1 ≤ j → j < rows.length + 1 → okLine cs (wline "columns" cs :: rows.map (wline "row")) j := fun j j1 j2 => by
    obtain ⟨i, rfl⟩ : ∃ i, j = i + 1 := ⟨j - 1, by omega⟩
    have hi : i < rows.length := by omega
    refine ⟨by omega, ?_⟩
    rw [lk i hi]
    unfold rowG
    rw [(tk i hi).1, (tk i hi).2]
    exact ⟨rfl, h4 _ (List.getElem_mem hi)⟩
  have ro : rowsOf (wline "columns" cs :: rows.map (wline "row")) rows.length = rows := by
    refine List.ext_getElem (by rw [rowsOf_len]) fun i hi hi2 => ?_
    have q : (rowsOf (wline "columns" cs :: rows.map (wline "row")) rows.length)[i] = tlw ((wline "columns" cs :: rows.map (wline "row")).getD (i + 1) default) := by
      simp only [rowsOf, List.getElem_map, List.getElem_range]
    rw [q, lk i hi2, (tk i hi2).2]
  have ln : (wline "columns" cs :: rows.map (wline "row")).length = rows.length + 1 := by simp
  have g0 : (wline "columns" cs :: rows.map (wline "row")).getD 0 default = wline "columns" cs := rfl
  rcases read_rest fu (by omega) hh with ⟨k, k1, k2, kb, _⟩ | ⟨_, e2⟩
  · rw [e, g0, t0] at kb
    rw [e, ln] at k2
    exact absurd (ok k k1 k2) kb
  · rw [e, g0, t0, ln, Nat.add_sub_cancel, ro] at e2
    exact e2
section
variable {cs : List Str} {rows : List (List Str)}
theorem cons_app (h : Str) (r : List Str) (hl : r.length ≤ 12) : dAdd (.lst [.str h]) (sL r) = some (sL (h :: r)) := dAdd_L (by simp; omega)
theorem written_ok (fu : Nat) (hc : Nm cs) (hr : ∀ r ∈ rows, Nm r) (hl : rows.length ≤ 48) : F_law_written fu [sL cs, sLL rows] = .ok (.fz (.str (wtext cs rows))) := by
  have a0 := cons_app "columns" cs hc.2
  have j0 := wline_join word_nm.2 hc
  obtain ⟨Γ', el, j, rfl⟩ := forL_m (g := gN 3) (s := lb_law_written_0 fu) (f := sL) (xs := rows) (Γ := [.bor (sL cs), .bor (sLL rows), .own (.lst [.str (wline "columns" cs)]), .emp]) (P := fun i Γ => ∃ j, Γ = [Sl.bor (sL cs), .bor (sLL rows), .own (sL (wline "columns" cs :: (rows.take i).map (wline "row"))), j]) ⟨_, rfl⟩ fun i r Γ hi ⟨j, hΓ⟩ => by
    subst hΓ
    have hn := hr r (get_mem hi)
    have a := cons_app "row" r hn.2
    have jn := wline_join word_nm.1 hn
    have hz : (rows.take i).length < 1000000 := by rw [List.length_take]; omega
    have hz2 : (wline "columns" cs :: (rows.take i).map (wline "row")).length < 16777216 := by simp at hz ⊢; omega
    refine ⟨[Sl.bor (sL cs), .bor (sLL rows), .own (sL (wline "columns" cs :: (rows.take (i + 1)).map (wline "row"))), .val (sL r)], ?_, _, rfl⟩
    have e : ((wline "columns" cs :: (rows.take i).map (wline "row")).map D.str) ++ [D.str (wline "row" r)] = (wline "columns" cs :: (rows.take (i + 1)).map (wline "row")).map D.str := by
      rw [take_s hi]; simp
    generalize (wline "columns" cs :: (rows.take i).map (wline "row")) = T at hz2 e
    generalize (wline "columns" cs :: (rows.take (i + 1)).map (wline "row")) = T2 at e
    unfold lb_law_written_0
    apply gb_of
    · rfl
    try simp only [put_0, put_1]
    simp? only [a, kBT2_s (kd_s " "), jn, hz2, e]
  rw [List.take_length] at el
  have tj := text_join hc hr hl
  unfold F_law_written sv_law_written
  rw [runF_ap rfl]
  apply fin_of
  try simp only [app_nil, app_cons, ins0_nil, ins0_cons, inSl_f, inSl_l, inSl_i, inSl_b, inSl_s, inSl_n, inSl_t, inSl_c, inSl_o, pad_0, pad_1]
  · apply seq_nx
    · simp? only [a0, kBT2_s (kd_s " "), j0]
      rfl
    apply seq_nx
    · simp? only [el]
      rfl
    simp? only [kBT2_s (kd_s "\n"), tj]
    rfl
  · rfl
theorem table_text_ok (fu : Nat) (hc : Nm cs) (hr : ∀ r ∈ rows, Nm (srt cs r)) (hl : rows.length ≤ 48) : F_table_text fu [tb cs rows] = .ok (.fz (.str (wtext cs (rows.map (srt cs))))) := by
  have j0 : dJoin (.str " ") [.lst (.str "columns" :: cs.map D.str)] = some (.str (wline "columns" cs)) := wline_join word_nm.2 hc
  have st0 : lStar (eFld 0 2 (eN 0)) lNil [.val (tb cs rows), .emp, .emp] = .ok (cs.map D.str ++ [], [.val (tb cs rows), .emp, .emp]) := lStar_of (d := sT cs) (by
    unfold tb
    simp? only []) rfl rfl
  rw [List.append_nil] at st0
  have it : ∀ s1, iOwnT 0 3 (eN 0) [.val (tb cs rows), s1, .emp] = .ok (rows.map fun r => sT (srt cs r), [.val (tb cs rows), s1, .emp]) := fun s1 => iOwnT_of (d := tb cs rows) (by
    simp? only []) rfl
  obtain ⟨Γ', el, j, rfl⟩ := forL_m (g := gN 2) (s := lb_table_text_0 fu) (f := fun r => sT (srt cs r)) (xs := rows) (Γ := [.val (tb cs rows), .own (.lst [.str (wline "columns" cs)]), .emp]) (P := fun i Γ => ∃ j, Γ = [Sl.val (tb cs rows), .own (sL (wline "columns" cs :: ((rows.map (srt cs)).take i).map (wline "row"))), j]) ⟨_, rfl⟩ fun i r Γ hi ⟨j, hΓ⟩ => by
    subst hΓ
    have hn := hr r (get_mem hi)
    have jn' : dJoin (.str " ") [.lst (.str "row" :: (srt cs r).map D.str)] = some (.str (wline "row" (srt cs r))) := wline_join word_nm.1 hn
    have hi2 : (rows.map (srt cs))[i]? = some (srt cs r) := by rw [List.getElem?_map, hi]; rfl
    have hz : ((rows.map (srt cs)).take i).length < 1000000 := by rw [List.length_take, List.length_map]; omega
    have hz2 : (wline "columns" cs :: ((rows.map (srt cs)).take i).map (wline "row")).length < 16777216 := by
      rw [List.length_cons, List.length_map]; omega
    refine ⟨[Sl.val (tb cs rows), .own (sL (wline "columns" cs :: ((rows.map (srt cs)).take (i + 1)).map (wline "row"))), .val (sT (srt cs r))], ?_, _, rfl⟩
    have e : ((wline "columns" cs :: ((rows.map (srt cs)).take i).map (wline "row")).map D.str) ++ [D.str (wline "row" (srt cs r))] = (wline "columns" cs :: ((rows.map (srt cs)).take (i + 1)).map (wline "row")).map D.str := by
      rw [take_s hi2]; simp
    generalize (wline "columns" cs :: ((rows.map (srt cs)).take i).map (wline "row")) = T at hz2 e
    generalize (wline "columns" cs :: ((rows.map (srt cs)).take (i + 1)).map (wline "row")) = T2 at e
    have st : ∀ s0 s1, lStar (eN 2) lNil [s0, s1, .val (sT (srt cs r))] = .ok ((srt cs r).map D.str ++ [], [s0, s1, .val (sT (srt cs r))]) := fun s0 s1 => lStar_of (d := sT (srt cs r)) (by simp? only []) rfl rfl
    simp only [List.append_nil] at st
    unfold lb_table_text_0
    apply gb_of
    · rfl
    try simp only [put_0, put_1]
    simp? only [st, kBT2_s (kd_s " "), show (srt cs r).length + 1 ≤ 16777216 by have := hn.2; omega, jn', hz2, e]
  rw [← List.length_map (f := srt cs), List.take_length] at el
  have tj := text_join hc (rows := rows.map (srt cs)) (fun r hr' => by
    obtain ⟨q, hq, rfl⟩ := List.mem_map.mp hr'
    exact hr q hq) (by rw [List.length_map]; exact hl)
  unfold F_table_text sv_table_text
  unfold tb at st0 it el ⊢
  rw [runF_ap rfl]
  apply fin_of
  try simp only [app_nil, app_cons, ins0_nil, ins0_cons, inSl_f, inSl_l, inSl_i, inSl_b, inSl_s, inSl_n, inSl_t, inSl_c, inSl_o, pad_0, pad_1]
  · apply seq_nx
    · simp? only [st0, kBT2_s (kd_s " "), show cs.length + 1 ≤ 16777216 by have := hc.2; omega, j0]
      rfl
    apply seq_nx
    · simp? only [it, el]
      rfl
    simp? only [kBT2_s (kd_s "\n"), tj]
    rfl
  · rfl
theorem reads_ok (fu : Nat) (h : Drawn cs rows) {text : Str} (ht : F_read_table fu [.str text] = .ok (.fz (tb cs rows))) : F_law_reads fu [.str text, sL cs, sLL rows] = .ok (.fz (.bl true)) := by
  have li := law_is_ok fu h.1.1 h.1.2 h.2.1 h.2.2.2 h.2.2.1
  unfold F_law_reads sv_law_reads
  unfold tb at ht li
  rw [runF_ap rfl]
  apply fin_of
  try simp only [app_nil, app_cons, ins0_nil, ins0_cons, inSl_f, inSl_l, inSl_i, inSl_b, inSl_s, inSl_n, inSl_t, inSl_c, inSl_o, pad_0, pad_1]
  · simp? only [ht, li]
    rfl
  · rfl
end
end K04

set_option autoImplicit true
set_option Elab.async false
set_option linter.all false
set_option maxRecDepth 100000
set_option exponentiation.threshold 10000
set_option maxHeartbeats 4000000
namespace K04
open PySem Ed
local macro_rules | `(tactic| simp? only [$hs,*]) => `(tactic| simp (implicitDefEqProofs := false) only [kR_s, eC_ap, eN_ap, kN_s, pN_ap, kP_s, kpE_ok, kpE_ex, pE_ap, kU2_s, kU_ok, kU_ex, eU_ap, kB3_s, kB2_ok, kB2_ex, kB1_ok, kB1_ex, eB_ap, kF2_s, kF_ok, kF_ex, eF_ap, aNil_ap, lNil_ap, kA2_ok, kA2_ex, kA1_ok, kA1_ex, aCons_ap, kL2_ok, kL2_ex, kL1_ok, kL1_ex, lCons_ap, kSz_t, kTp_ok, kTp_ex, kLs_ok, kLs_ex, eTup_ap, nLst_ap, kIf_t, kIf_f, kIf_ex, tC_ap, eAnd_ap, eOr_ap, eNot_ap, eIf_ap, sIf_ap, kE2_b, kE_ok, kE_ex, tE_ap, kT3_s, kT2_s, kT_ok, kT_ex, tTru_ap, tru_int, tru_bl, tru_lst, tru_tup, tru_non, tYs_ap, eCB_ap, eAndV_ap, eOrV_ap, eNotV_ap, kCh4_s, kCh3_ok, kCh3_ex, kCh2_t, kCh2_f, kCh1_s, kCh0_ok, kCh0_ex, kCh_ok, kCh_ex, eChain_ap, callF_ap, kCp_s, kC_ok, kC_ex, kCd_ok, kCd_ex, kFr2_r, kFr_ok, kFr_ex, kC1_ok, kC1_ex, eCall_ap, kC2_ok, kC2_ex, nCall_ap, dfz, dfr, prep0, pK_s, prep_d, prep_t, pKt_s, prep_f, pKf_s, mkF_ap, kMk_ok, kMk_ex, kFl_ok, kFl_ex, eFld_ap, fld_s, kO2_s, kO1_ok, kO1_ex, kO0_ok, kO0_ex, eOwn2_ap, kOC3_s, kOC2_ok, kOC2_ex, kOC1_s, kOC0_ok, kOC0_ex, eOwnC_ap, kM2_ok, kM2_ex, kM1_s, kM0_ok, kM0_ex, eMeth_ap, eJs_nil, kJz_t, kJ2_s, kJ_ok, kJ_ex, eJs_cons, kSl4_s, kSl3_s, kSl2_s, kSl1_s, eSl_ap, oP_n, kOp2_s, kOp_s, oP_s, kLc2_s, kLc1_t, kLc_ok, eLc_ap, kIs2_s, kIs_ok, iSeq_ap, it_l, it_t, kIn_s, iN_ap, kRg_ok, iRg1_ap, kRh2_ok, kRh1_ok, iRg2_ap, sNext_ap, sBrk_ap, sCnt_ap, sRetN_ap, kS_nx, kS_rt, kS_bk, kS_ct, kS_ex, sSeq_ap, kSet_ok, kSet_ex, sSet_ap, kOwn_ok, kOwn_ex, sOwn_ap, kDrp_ok, kDrp_ex, sDrop_ap, kRet_ok, kRet_ex, sRet_ap, kReO_ok, kReO_ex, sRetO_ap, sRetX_ap, kRx_o, kRx_v, kAp3_t, kAp2_o, kAp1_ok, kAp0_s, sApp_ap, kPi4_s, kPi3_s, kPi2_ok, kPi1_s, kPi0_ok, sPutI_ap, kPr2_ok, kPr1_ok, sPar_ap, kAs2_s, kAs_ok, sAsg_ap, gN_ap, gT_t, gT_l, gs_nil, kGs_s, gs_cons, kFor_ok, sFor_ap, sWhl_ap, kFd_ok, sFld_ap, kRs_ok, sRaise_ap, kSu_ok, kTr3_t, kTr2_t, kTr2_f, kTr_ok, kTr_ex, sTry_ap, kIE2_s, kIE_s, eIsE_ap, kXf_s, eXf_ap, fin_nx, fin_rt, fin_ex, finI_ex, kFi_s, finI_nx, app_nil, app_cons, ins0_nil, ins0_cons, inSl_f, inSl_l, inSl_i, inSl_b, inSl_s, inSl_n, inSl_t, inSl_c, inSl_o, pad_0, pad_1, get_0, get_1, put_0, put_1, look_v, look_o, look_b, frz_v, frz_o, stay_v, stay_o, stay_b, rd_d, rd_n, rds_nil, kRd_s, rds_cons, wipe_nil, wipe_cons, rest_nil, rest_cons, all_nil, all_cons, stb_e, stb_v, stb_b, noX_nil, noX_e, noX_v, noX_o, noX_b, true_and', tbl_ap, putFd_nil, putFd_cons, dAdd_i, dSub_i, dNeg_i, dLt_i, dLe_i, dGt_i, dGe_i, dEq_i, dNe_i, dEq_b, dNe_b, dEq_s, dNe_s, o1_ap, dAbs_i, dInt_i, dInt_b, dBool_i, dLen_l, dLen_t, dLen_c, dIx_l, dIx_t, dIx_c, at_0, at_1, at_2, at_3, isT_ii, isT_bi, isT_bb, isT_ss, isT_ll, isT_tt, isB2_i, map_s, dRev_l, dTup_l, dTup_t, dLst_l, dLst_t, dCut_l, dCutL_l, dGcd_i, isB_b, isS_s, mul_r, mul_l, dDiv_r, dMod_i, kGb_s, kGe_s,   decide_true, decide_false, Bool.not_true, Bool.not_false, Bool.and_true, Bool.and_false, Bool.false_and, if_true, if_false, ite_true, ite_false, Bool.false_eq_true, List.lookup_cons, List.lookup_nil, List.length_cons, List.length_nil, Nat.reduceBEq, Nat.reduceLT, Nat.reduceLeDiff, Nat.zero_le, seqMax, List.length_map, Nat.reduceAdd, Nat.reduceEqDiff, Nat.reducePow, Int.reduceNe, Int.reduceEq, Int.reduceLT, Int.reduceLE, Int.reduceBEq, Int.reduceNeg, Int.natAbs_neg, ne_eq, not_true, not_false_eq_true, and_self, true_and, and_true, beq_self_eq_true, turn_ap, kTn1_s, kTn2_t, kTn2_f, kTn2_p, kTn2_n, kTn3_ok, dIn_sl, dIn_st, dNin_sl, dNin_st, dIn_il, dNin_il, kSg2_s, kSg_ok, iSgn_ap, kED_s, eIsED_ap, kX2_s, kX1_ok, kX1_ex, kX0_ok, kX0_ex, eOwnX_ap, kBT4_s, kBT3_ok, kBT3_ex, kBT1_ok, kBT1_ex, eBMT_ap, dIsN_n, dIsN_l, dIsN_t, dIsN_i, dIsN_s, dNotN_n, dNotN_l, dNotN_t, dNotN_i, dNotN_s, dBAnd_i, dBOr_i, dMin2_i, dMax2_i, dCut_t, dCut_c, dCut_l2, Int.cast_ofNat_Int, at_4, at_5, at_6, at_7, at_8, at_9, at_10, at_11, at_12, at_13, $hs,*])
/-! how long lists of lines are -/
def wt (ls : List Str) : Nat := (ls.map (·.length)).sum + ls.length
theorem wt_nil : wt [] = 0 := rfl
theorem wt_cons (x : Str) (l : List Str) : wt (x :: l) = x.length + 1 + wt l := by
  unfold wt
  simp only [List.map_cons, List.sum_cons, List.length_cons]; omega
theorem wt_app : ∀ a b : List Str, wt (a ++ b) = wt a + wt b
  | [], b => by rw [wt_nil, List.nil_append]; omega
  | x :: a, b => by rw [List.cons_append, wt_cons, wt_cons, wt_app a b]; omega
theorem wt_sub {a b : List Str} (h : a.Sublist b) : wt a ≤ wt b := by
  induction h with
  | slnil => exact Nat.le_refl _
  | cons x _ ih => rw [wt_cons]; omega
  | cons_cons x _ ih => rw [wt_cons, wt_cons]; omega
theorem wt_take (l : List Str) (k : Nat) : wt (l.take k) ≤ wt l := wt_sub (List.take_sublist _ _)
theorem wt_drop (l : List Str) (k : Nat) : wt (l.drop k) ≤ wt l := wt_sub (List.drop_sublist _ _)
theorem wt_mem {x : Str} {l : List Str} (h : x ∈ l) : x.length + 1 ≤ wt l := by
  have := wt_sub (List.singleton_sublist.mpr h)
  rw [wt_cons, wt_nil] at this; omega
theorem wt_len (l : List Str) : l.length ≤ wt l := by unfold wt; omega
theorem wt_set (x : Str) : ∀ (l : List Str) (k : Nat), wt (l.set k x) ≤ wt l + (x.length + 1)
  | [], _ => by simp [wt]
  | y :: l, 0 => by show wt (x :: l) ≤ _; rw [wt_cons, wt_cons]; omega
  | y :: l, k + 1 => by
    show wt (y :: l.set k x) ≤ _
    have := wt_set x l k
    rw [wt_cons, wt_cons]; omega
theorem wt_le {B : Nat} {l : List Str} (h : ∀ x ∈ l, x.length ≤ B) : wt l ≤ l.length * (B + 1) := by
  have := sum_le h
  unfold wt
  rw [Nat.mul_succ]; omega
theorem join_wt {a : Str} (ha : a.length = 1) (l : List Str) : (Str.join a l).length ≤ wt l := by
  have := join_len a l
  rw [ha, Nat.mul_one] at this
  exact this
theorem dJoin_wt {a : Str} (ha : a.length = 1) {l : List Str} (h : wt l ≤ 16777216) : dJoin (.str a) [.lst (l.map D.str)] = some (.str (Str.join a l)) := dJoin_l (by rw [ha, Nat.mul_one]; exact h)
theorem splL_wt (c : Nat) : ∀ l : List Nat, ((splL c l).map (·.length)).sum + (splL c l).length = l.length + 1
  | [] => rfl
  | x :: r => by
    have ih := splL_wt c r
    rw [splL_cons]
    split
    · simp only [List.map_cons, List.sum_cons, List.length_cons, List.length_nil]; omega
    · cases e : splL c r with
      | nil => exact absurd e (splL_ne c r)
      | cons q t =>
        rw [e] at ih
        show (((x :: q) :: t).map (·.length)).sum + ((x :: q) :: t).length = (x :: r).length + 1
        simp only [List.map_cons, List.sum_cons, List.length_cons] at ih ⊢; omega
theorem spl_wt (s : Str) (c : Nat) : wt (splS s c) = s.length + 1 := by
  have hl : s.cps.toList.length = s.length := by simp [Str.length]
  have := splL_wt c s.cps.toList
  rw [hl] at this
  rw [← this]
  unfold wt splS
  rw [List.map_map, List.length_map]
  congr 2
theorem at_last {l : List Str} (h : l ≠ []) : at1 (l.map D.str) (-1) = some (.str (l.getLast h)) := by
  have hp := List.length_pos_iff.mpr h
  unfold at1 ixN
  rw [if_neg (by decide), List.length_map, if_pos (by omega)]
  show (l.map D.str)[_]? = _
  rw [show ((l.length : Int) + -1).toNat = l.length - 1 by omega, List.getElem?_map, List.getLast_eq_getElem, List.getElem?_eq_getElem (by omega)]; rfl
theorem sIns_of {i : Nat} {ea eb : EV} {Γ Γ1 Γ2 : Ed.Env} {k : Int} {y : D} {xs0 xs : List D} (h0 : look (get Γ i) = some (.lst xs0)) (h1 : ea Γ = .ok (.int k, Γ1)) (h2 : eb Γ1 = .ok (y, Γ2)) (h3 : get Γ2 i = .own (.lst xs)) (hk : 0 ≤ k) (hk2 : k < 1000000) (hx : xs.length < 16777216) : sIns i ea eb Γ = .ok (.nx, put Γ2 i (.own (.lst (xs.take k.toNat ++ [y] ++ xs.drop k.toNat)))) := by
  unfold sIns
  rw [h0]
  dsimp only
  rw [h1]
  show ((eb Γ1).bind fun (y, Γ2) => _) = _
  rw [h2]
  show (match (D.int k), get Γ2 i with
    | .int k, .own (.lst xs) => if 0 ≤ k ∧ k < 1000000 ∧ xs.length < seqMax then R.ok (Ctl.nx, put Γ2 i (.own (.lst (xs.take k.toNat ++ [y] ++ xs.drop k.toNat)))) else .bad
    | _, _ => .bad) = _
  rw [h3]
  exact if_pos ⟨hk, hk2, hx⟩
theorem dLen_s {x : Str} (h : x.length ≤ 16777216) : dLen (.str x) = some (.int (x.length : Nat)) := if_pos h
/-! a drawn sign -/
def signsS : Str := " !\"#$&'()*+,-./0123456789:;<=>?@ABCDEFGHIJKLMNOPQRSTUVWXYZ[\\]^_`abcdefghijklmnopqrstuvwxyz{|}~"
theorem signs_len : (" !\"#$&'()*+,-./0123456789:;<=>?@ABCDEFGHIJKLMNOPQRSTUVWXYZ[\\]^_`abcdefghijklmnopqrstuvwxyz{|}~" : Str).length = 94 := by decide +kernel
theorem sign_ok (fu : Nat) (d : Int) : ∃ s : Str, F_law_sign fu [.int d] = .ok (.fz (.str s)) ∧ s.length = 1 := by
  have f := fm_lt (d.fdiv 4) (m := 94) (by decide)
  have g := fm_lt d (m := 4) (by decide)
  have ix := dIx_S (z := " !\"#$&'()*+,-./0123456789:;<=>?@ABCDEFGHIJKLMNOPQRSTUVWXYZ[\\]^_`abcdefghijklmnopqrstuvwxyz{|}~") (i := (d.fdiv 4).fmod 94) f.1 (by rw [signs_len]; exact f.2) (by rw [signs_len]; decide)
  have dl : dLen (.str " !\"#$&'()*+,-./0123456789:;<=>?@ABCDEFGHIJKLMNOPQRSTUVWXYZ[\\]^_`abcdefghijklmnopqrstuvwxyz{|}~") = some (.int 94) := by
    rw [dLen_s (by rw [signs_len]; decide), signs_len]; rfl
  by_cases c0 : d.fmod 4 = 0
  · have cb : (d.fmod 4 == 0) = true := beq_iff_eq.mpr c0
    refine ⟨"\n", ?_, rfl⟩
    unfold F_law_sign sv_law_sign
    rw [runF_ap rfl]
    apply fin_of
    try simp only [app_nil, app_cons, ins0_nil, ins0_cons, inSl_f, inSl_l, inSl_i, inSl_b, inSl_s, inSl_n, inSl_t, inSl_c, inSl_o, pad_0, pad_1]
    · apply seq_nx
      · simp? only []
        rfl
      apply seq_rt
      · simp? only [cb]
        rfl
      rfl
    · rfl
  · have cb : (d.fmod 4 == 0) = false := beq_eq_false_iff_ne.mpr c0
    by_cases c1 : d.fmod 4 = 1
    · have cb1 : (d.fmod 4 == 1) = true := beq_iff_eq.mpr c1
      refine ⟨" ", ?_, rfl⟩
      unfold F_law_sign sv_law_sign
      rw [runF_ap rfl]
      apply fin_of
      try simp only [app_nil, app_cons, ins0_nil, ins0_cons, inSl_f, inSl_l, inSl_i, inSl_b, inSl_s, inSl_n, inSl_t, inSl_c, inSl_o, pad_0, pad_1]
      · apply seq_nx
        · simp? only []
          rfl
        apply seq_nx
        · simp? only [cb]
          rfl
        apply seq_rt
        · simp? only [cb1]
          rfl
        rfl
      · rfl
    · have cb1 : (d.fmod 4 == 1) = false := beq_eq_false_iff_ne.mpr c1
      refine' ⟨_, ?_, ?_⟩
      rotate_left
      · unfold F_law_sign sv_law_sign
        rw [runF_ap rfl]
        apply fin_of
        try simp only [app_nil, app_cons, ins0_nil, ins0_cons, inSl_f, inSl_l, inSl_i, inSl_b, inSl_s, inSl_n, inSl_t, inSl_c, inSl_o, pad_0, pad_1]
        · apply seq_nx
          · simp? only []
            rfl
          apply seq_nx
          · simp? only [cb]
            rfl
          apply seq_nx
          · simp? only [cb1]
            rfl
          simp? only [dl, ix]
          rfl
        · rfl
      · rfl
end K04

set_option autoImplicit true
set_option Elab.async false
set_option linter.all false
set_option maxRecDepth 100000
set_option exponentiation.threshold 10000
set_option maxHeartbeats 4000000
namespace K04
open PySem Ed
local macro_rules | `(tactic| simp? only [$hs,*]) => `(tactic| simp (implicitDefEqProofs := false) only [kR_s, eC_ap, eN_ap, kN_s, pN_ap, kP_s, kpE_ok, kpE_ex, pE_ap, kU2_s, kU_ok, kU_ex, eU_ap, kB3_s, kB2_ok, kB2_ex, kB1_ok, kB1_ex, eB_ap, kF2_s, kF_ok, kF_ex, eF_ap, aNil_ap, lNil_ap, kA2_ok, kA2_ex, kA1_ok, kA1_ex, aCons_ap, kL2_ok, kL2_ex, kL1_ok, kL1_ex, lCons_ap, kSz_t, kTp_ok, kTp_ex, kLs_ok, kLs_ex, eTup_ap, nLst_ap, kIf_t, kIf_f, kIf_ex, tC_ap, eAnd_ap, eOr_ap, eNot_ap, eIf_ap, sIf_ap, kE2_b, kE_ok, kE_ex, tE_ap, kT3_s, kT2_s, kT_ok, kT_ex, tTru_ap, tru_int, tru_bl, tru_lst, tru_tup, tru_non, tYs_ap, eCB_ap, eAndV_ap, eOrV_ap, eNotV_ap, kCh4_s, kCh3_ok, kCh3_ex, kCh2_t, kCh2_f, kCh1_s, kCh0_ok, kCh0_ex, kCh_ok, kCh_ex, eChain_ap, callF_ap, kCp_s, kC_ok, kC_ex, kCd_ok, kCd_ex, kFr2_r, kFr_ok, kFr_ex, kC1_ok, kC1_ex, eCall_ap, kC2_ok, kC2_ex, nCall_ap, dfz, dfr, prep0, pK_s, prep_d, prep_t, pKt_s, prep_f, pKf_s, mkF_ap, kMk_ok, kMk_ex, kFl_ok, kFl_ex, eFld_ap, fld_s, kO2_s, kO1_ok, kO1_ex, kO0_ok, kO0_ex, eOwn2_ap, kOC3_s, kOC2_ok, kOC2_ex, kOC1_s, kOC0_ok, kOC0_ex, eOwnC_ap, kM2_ok, kM2_ex, kM1_s, kM0_ok, kM0_ex, eMeth_ap, eJs_nil, kJz_t, kJ2_s, kJ_ok, kJ_ex, eJs_cons, kSl4_s, kSl3_s, kSl2_s, kSl1_s, eSl_ap, oP_n, kOp2_s, kOp_s, oP_s, kLc2_s, kLc1_t, kLc_ok, eLc_ap, kIs2_s, kIs_ok, iSeq_ap, it_l, it_t, kIn_s, iN_ap, kRg_ok, iRg1_ap, kRh2_ok, kRh1_ok, iRg2_ap, sNext_ap, sBrk_ap, sCnt_ap, sRetN_ap, kS_nx, kS_rt, kS_bk, kS_ct, kS_ex, sSeq_ap, kSet_ok, kSet_ex, sSet_ap, kOwn_ok, kOwn_ex, sOwn_ap, kDrp_ok, kDrp_ex, sDrop_ap, kRet_ok, kRet_ex, sRet_ap, kReO_ok, kReO_ex, sRetO_ap, sRetX_ap, kRx_o, kRx_v, kAp3_t, kAp2_o, kAp1_ok, kAp0_s, sApp_ap, kPi4_s, kPi3_s, kPi2_ok, kPi1_s, kPi0_ok, sPutI_ap, kPr2_ok, kPr1_ok, sPar_ap, kAs2_s, kAs_ok, sAsg_ap, gN_ap, gT_t, gT_l, gs_nil, kGs_s, gs_cons, kFor_ok, sFor_ap, sWhl_ap, kFd_ok, sFld_ap, kRs_ok, sRaise_ap, kSu_ok, kTr3_t, kTr2_t, kTr2_f, kTr_ok, kTr_ex, sTry_ap, kIE2_s, kIE_s, eIsE_ap, kXf_s, eXf_ap, fin_nx, fin_rt, fin_ex, finI_ex, kFi_s, finI_nx, app_nil, app_cons, ins0_nil, ins0_cons, inSl_f, inSl_l, inSl_i, inSl_b, inSl_s, inSl_n, inSl_t, inSl_c, inSl_o, pad_0, pad_1, get_0, get_1, put_0, put_1, look_v, look_o, look_b, frz_v, frz_o, stay_v, stay_o, stay_b, rd_d, rd_n, rds_nil, kRd_s, rds_cons, wipe_nil, wipe_cons, rest_nil, rest_cons, all_nil, all_cons, stb_e, stb_v, stb_b, noX_nil, noX_e, noX_v, noX_o, noX_b, true_and', tbl_ap, putFd_nil, putFd_cons, dAdd_i, dSub_i, dNeg_i, dLt_i, dLe_i, dGt_i, dGe_i, dEq_i, dNe_i, dEq_b, dNe_b, dEq_s, dNe_s, o1_ap, dAbs_i, dInt_i, dInt_b, dBool_i, dLen_l, dLen_t, dLen_c, dIx_l, dIx_t, dIx_c, at_0, at_1, at_2, at_3, isT_ii, isT_bi, isT_bb, isT_ss, isT_ll, isT_tt, isB2_i, map_s, dRev_l, dTup_l, dTup_t, dLst_l, dLst_t, dCut_l, dCutL_l, dGcd_i, isB_b, isS_s, mul_r, mul_l, dDiv_r, dMod_i, kGb_s, kGe_s,   decide_true, decide_false, Bool.not_true, Bool.not_false, Bool.and_true, Bool.and_false, Bool.false_and, if_true, if_false, ite_true, ite_false, Bool.false_eq_true, List.lookup_cons, List.lookup_nil, List.length_cons, List.length_nil, Nat.reduceBEq, Nat.reduceLT, Nat.reduceLeDiff, Nat.zero_le, seqMax, List.length_map, Nat.reduceAdd, Nat.reduceEqDiff, Nat.reducePow, Int.reduceNe, Int.reduceEq, Int.reduceLT, Int.reduceLE, Int.reduceBEq, Int.reduceNeg, Int.natAbs_neg, ne_eq, not_true, not_false_eq_true, and_self, true_and, and_true, beq_self_eq_true, turn_ap, kTn1_s, kTn2_t, kTn2_f, kTn2_p, kTn2_n, kTn3_ok, dIn_sl, dIn_st, dNin_sl, dNin_st, dIn_il, dNin_il, kSg2_s, kSg_ok, iSgn_ap, kED_s, eIsED_ap, kX2_s, kX1_ok, kX1_ex, kX0_ok, kX0_ex, eOwnX_ap, kBT4_s, kBT3_ok, kBT3_ex, kBT1_ok, kBT1_ex, eBMT_ap, dIsN_n, dIsN_l, dIsN_t, dIsN_i, dIsN_s, dNotN_n, dNotN_l, dNotN_t, dNotN_i, dNotN_s, dBAnd_i, dBOr_i, dMin2_i, dMax2_i, dCut_t, dCut_c, dCut_l2, Int.cast_ofNat_Int, at_4, at_5, at_6, at_7, at_8, at_9, at_10, at_11, at_12, at_13, $hs,*])
section
variable {ls : List Str} {p : List Int} {at_ : Int}
theorem mk_cut (l : List Str) {k : Int} (h : 0 ≤ k) : cut (l.map D.str) none (some k) = (l.take k.toNat).map D.str ∧ cut (l.map D.str) (some k) none = (l.drop k.toNat).map D.str := by
  rw [cut_to h, cut_from h, List.map_take, List.map_drop]; exact ⟨rfl, rfl⟩
theorem add_sL {a b : List Str} (h : a.length + b.length ≤ 16777216) : dAdd (.lst (a.map D.str)) (.lst (b.map D.str)) = some (.lst ((a ++ b).map D.str)) := by
  rw [dAdd_L (by simpa using h), ← List.map_append]
theorem rngB_of2 {n : Int} (h : -100000000 ≤ n) (h2 : n < 1000000000) : rngB n = true := by
  unfold rngB
  rw [decide_eq_true (by omega), decide_eq_true (by omega)]; rfl
theorem q_nm : nameOk ("q" : Str) := by decide +kernel
theorem edit_loop (fu : Nat) {W : List Str} {u2 : Int} {s0 s1 s3 s4 s5 s7 s8 : Sl} (a2 : at1 (p.map D.int) (at_ + 2) = some (.int u2)) (h3 : s3 = .val (.int at_)) :
    ∃ E j9, forL (gN 9) (lb_law_lines_edited_1 fu) (rngL 0 14) [s0, s1, .bor (iL p), s3, s4, s5, .own (sL W), s7, s8, .emp] = .ok (.nx, [s0, s1, .bor (iL p), s3, s4, s5, .own (sL (W ++ E)), s7, s8, j9]) ∧ wt E ≤ 14 * 9 := by
  subst h3
  have f := fm_lt u2 (m := 3) (by decide)
  generalize hm : u2.fmod 3 = m at f
  obtain ⟨Γ', e, E, j9, rfl, hl, hb⟩ := forL_rm (g := gN 9) (s := lb_law_lines_edited_1 fu) (lo := 0) (m := 14) (Γ := [s0, s1, .bor (iL p), .val (.int at_), s4, s5, .own (sL W), s7, s8, .emp]) (P := fun i Γ => ∃ (E : List Str) (j9 : Sl), Γ = [s0, s1, .bor (iL p), .val (.int at_), s4, s5, .own (sL (W ++ E)), s7, s8, j9] ∧ E.length ≤ i ∧ ∀ x ∈ E, x.length ≤ 8) ⟨[], _, by rw [List.append_nil], Nat.le_refl _, fun x hx => by cases hx⟩ fun i Γ hi ⟨E, j9, hΓ, hl, hb⟩ => by
    subst hΓ
    by_cases c : ((W ++ E).length : Int) < 12 + m
    · obtain ⟨w, ew, hw, _⟩ := new_ok fu (names := W ++ E) q_nm (by omega)
      have hz : (W ++ E).length < 16777216 := by omega
      have ap : (W ++ E).map D.str ++ [D.str w] = (W ++ (E ++ [w])).map D.str := by simp
      refine' ⟨[s0, s1, .bor (iL p), .val (.int at_), s4, s5, .own (sL (W ++ (E ++ [w]))), s7, s8, .val (.int (0 + (i : Int)))], ?_, E ++ [w], _, rfl, by simp; omega, mem_app1 hb hw.2.1⟩
      generalize W ++ (E ++ [w]) = T at ap
      generalize W ++ E = V at c ew hz ap
      unfold lb_law_lines_edited_1
      apply gb_of
      · rfl
      try simp only [put_0, put_1]
      simp? only [a2, hm, c, ew, hz, ap]
    · refine' ⟨[s0, s1, .bor (iL p), .val (.int at_), s4, s5, .own (sL (W ++ E)), s7, s8, .val (.int (0 + (i : Int)))], ?_, E, _, rfl, by omega, hb⟩
      generalize W ++ E = V at c
      unfold lb_law_lines_edited_1
      apply gb_of
      · rfl
      try simp only [put_0, put_1]
      simp? only [a2, hm, c]
  refine ⟨E, j9, e, ?_⟩
  have := wt_le hb
  have : E.length * (8 + 1) ≤ 14 * 9 := Nat.mul_le_mul hl (by decide)
  omega
theorem lines_edited_ok (fu : Nat) (hne : ls ≠ []) (hw : wt ls ≤ 310000) (hp : p.length = 60) (h0 : 0 ≤ at_) (h1 : at_ ≤ 50) {way : Int} (hw0 : 3 ≤ way) (hw1 : way ≤ 8) :
    ∃ ms, (F_law_lines_edited fu [sL ls, .int way, iL p, .int at_] = .ok (.fz (sL ms)) ∨ F_law_lines_edited fu [sL ls, .int way, iL p, .int at_] = .ok (.fr (sL ms))) ∧ wt ms ≤ 52 * wt ls + 200 := by
  have hpos := List.length_pos_iff.mpr hne
  have hll := wt_len ls
  have a1 := at_map (f := D.int) (l := p) (k := at_ + 1) 0 (by omega) (by omega)
  have a2 := at_map (f := D.int) (l := p) (k := at_ + 2) 0 (by omega) (by omega)
  have a3 := at_map (f := D.int) (l := p) (k := at_ + 3) 0 (by omega) (by omega)
  generalize p.getD (at_ + 1).toNat 0 = u1 at a1
  generalize p.getD (at_ + 2).toNat 0 = u2 at a2
  generalize p.getD (at_ + 3).toNat 0 = u3 at a3
  have nn : (ls.length : Int) ≠ 0 := by omega
  have fk := fm_lt u1 (m := (ls.length : Int)) (by omega)
  have fj := fm_lt u2 (m := (ls.length : Int)) (by omega)
  generalize hk : u1.fmod (ls.length : Int) = k at fk
  generalize hj : u2.fmod (ls.length : Int) = j at fj
  have aL := at_map (f := D.str) (l := ls) (k := k) default fk.1 fk.2
  have aM := at_map (f := D.str) (l := ls) (k := j) default fj.1 fj.2
  have a0 := at_map (f := D.str) (l := ls) (k := 0) default (by decide) (by omega)
  have mL := wt_mem (getD_mem (l := ls) (k := k.toNat) (d := default) (by omega))
  have mM := wt_mem (getD_mem (l := ls) (k := j.toNat) (d := default) (by omega))
  have m0 := wt_mem (getD_mem (l := ls) (k := (0 : Int).toNat) (d := default) (by show 0 < _; omega))
  generalize ls.getD k.toNat default = L at aL mL
  generalize ls.getD j.toNat default = M at aM mM
  generalize ls.getD (0 : Int).toNat default = L0 at a0 m0
  have s2 := split_sp (s := L) (by omega)
  have s20 := split_sp (s := L0) (by omega)
  have wL := spl_wt L 32
  have wL0 := spl_wt L0 32
  have nL := (splS_facts L 32).1
  generalize splS L 32 = W at s2 wL nL
  generalize splS L0 32 = W0 at s20 wL0
  obtain ⟨ck, cdk⟩ := mk_cut ls fk.1
  obtain ⟨_, cd1⟩ := mk_cut ls (k := k + 1) (by omega)
  have tk := wt_take ls k.toNat
  have dk := wt_drop ls (k + 1).toNat
  have tkl := wt_len (ls.take k.toNat)
  have dkl := wt_len (ls.drop (k + 1).toNat)
  unfold F_law_lines_edited sv_law_lines_edited sg_law_lines_edited_3 sg_law_lines_edited_2
  have hcase : way = 3 ∨ way = 4 ∨ way = 5 ∨ way = 6 ∨ way = 7 ∨ way = 8 := by omega
  rcases hcase with rfl | rfl | rfl | rfl | rfl | rfl
  · have wpos := List.length_pos_iff.mpr nL
    have wll := wt_len W
    have n1 : (W.length : Int) ≠ 0 := by omega
    have n2 : (W.length : Int) + 1 ≠ 0 := by omega
    have fc := fm_lt u3 (m := (W.length : Int) + 1) (by omega)
    have fm := fm_lt u2 (m := (W.length : Int)) (by omega)
    generalize hc : u3.fmod ((W.length : Int) + 1) = c at fc
    generalize hm : u2.fmod (W.length : Int) = m at fm
    have aw := at_map (f := D.str) (l := W) (k := m) default fm.1 fm.2
    have mw := wt_mem (getD_mem (l := W) (k := m.toNat) (d := default) (by omega))
    generalize W.getD m.toNat default = w at aw mw
    have ins : sIns 6 (eN 7) (eB dIx (pN 6) (pE (eB dMod (pE (eF (o1 dInt) (aCons (pE (eB dIx (pN 2) (pE (eB dAdd (pN 3) (pE (eC (.int 2))))))) aNil))) (pE (eF (o1 dLen) (aCons (pN 6) aNil)))))) [.bor (sL ls), .val (.int 3), .bor (iL p), .val (.int at_), .val (.int k), .val (.int j), .own (sL W), .val (.int c), .emp, .emp] = .ok (.nx, [.bor (sL ls), .val (.int 3), .bor (iL p), .val (.int at_), .val (.int k), .val (.int j), .own (sL (W.take c.toNat ++ [w] ++ W.drop c.toNat)), .val (.int c), .emp, .emp]) := by
      have := sIns_of (i := 6) (ea := eN 7) (eb := (eB dIx (pN 6) (pE (eB dMod (pE (eF (o1 dInt) (aCons (pE (eB dIx (pN 2) (pE (eB dAdd (pN 3) (pE (eC (.int 2))))))) aNil))) (pE (eF (o1 dLen) (aCons (pN 6) aNil))))))) (Γ := [.bor (sL ls), .val (.int 3), .bor (iL p), .val (.int at_), .val (.int k), .val (.int j), .own (sL W), .val (.int c), .emp, .emp]) (k := c) (y := .str w) (xs0 := W.map D.str) (xs := W.map D.str) rfl rfl (by simp? only [a2, dMod_i n1, hm, aw]; rfl) rfl fc.1 (by omega) (by simp; omega)
      rw [this]
      show R.ok (Ctl.nx, [Sl.bor (sL ls), .val (.int 3), .bor (iL p), .val (.int at_), .val (.int k), .val (.int j), .own (.lst ((W.map D.str).take c.toNat ++ [D.str w] ++ (W.map D.str).drop c.toNat)), .val (.int c), .emp, .emp]) = _
      rw [show (W.map D.str).take c.toNat ++ [D.str w] ++ (W.map D.str).drop c.toNat = (W.take c.toNat ++ [w] ++ W.drop c.toNat).map D.str by simp]
    have wV : wt (W.take c.toNat ++ [w] ++ W.drop c.toNat) = wt W + (w.length + 1) := by
      have e : wt W = wt (W.take c.toNat) + wt (W.drop c.toNat) := by rw [← wt_app, List.take_append_drop]
      rw [wt_app, wt_app, wt_cons, wt_nil, e]; omega
    generalize W.take c.toNat ++ [w] ++ W.drop c.toNat = V at ins wV
    have jn := dJoin_wt (a := " ") rfl (l := V) (by omega)
    have jl := join_wt (a := " ") rfl V
    generalize Str.join " " V = J at jn jl
    have d1 : dAdd (.lst ((ls.take k.toNat).map D.str)) (.lst [.str J]) = some (.lst ((ls.take k.toNat ++ [J]).map D.str)) := add_sL (b := [J]) (by simp; omega)
    have d2 := add_sL (a := ls.take k.toNat ++ [J]) (b := ls.drop (k + 1).toNat) (by simp at tkl dkl ⊢; omega)
    refine ⟨ls.take k.toNat ++ [J] ++ ls.drop (k + 1).toNat, .inl ?_, by rw [wt_app, wt_app, wt_cons, wt_nil]; omega⟩
    rw [runF_ap rfl]
    apply fin_of
    try simp only [app_nil, app_cons, ins0_nil, ins0_cons, inSl_f, inSl_l, inSl_i, inSl_b, inSl_s, inSl_n, inSl_t, inSl_c, inSl_o, pad_0, pad_1]
    · apply seq_nx
      · simp? only [a1, dMod_i nn, hk]
        rfl
      apply seq_nx
      · simp? only [a2, dMod_i nn, hj]
        rfl
      apply seq_nx
      · simp? only [aL, kBT2_s (kd_s L), s2]
        rfl
      apply seq_rt
      · simp? only [a3, dMod_i n2, hc, ins, dCut_l2, ck, kBT2_s (kd_s " "), jn, d1, cd1, d2]
        rfl
      rfl
    · rfl
  · have n2 : (ls.length : Int) + 1 ≠ 0 := by omega
    have fc := fm_lt u2 (m := (ls.length : Int) + 1) (by omega)
    generalize hc : u2.fmod ((ls.length : Int) + 1) = c at fc
    obtain ⟨cc, cdc⟩ := mk_cut ls fc.1
    have tc := wt_len (ls.take c.toNat)
    have dc := wt_len (ls.drop c.toNat)
    have e : wt ls = wt (ls.take c.toNat) + wt (ls.drop c.toNat) := by rw [← wt_app, List.take_append_drop]
    have d1 : dAdd (.lst ((ls.take c.toNat).map D.str)) (.lst [.str L]) = some (.lst ((ls.take c.toNat ++ [L]).map D.str)) := add_sL (b := [L]) (by simp at tc ⊢; omega)
    have d2 := add_sL (a := ls.take c.toNat ++ [L]) (b := ls.drop c.toNat) (by simp at tc dc ⊢; omega)
    refine ⟨ls.take c.toNat ++ [L] ++ ls.drop c.toNat, .inl ?_, by rw [wt_app, wt_app, wt_cons, wt_nil]; omega⟩
    rw [runF_ap rfl]
    apply fin_of
    try simp only [app_nil, app_cons, ins0_nil, ins0_cons, inSl_f, inSl_l, inSl_i, inSl_b, inSl_s, inSl_n, inSl_t, inSl_c, inSl_o, pad_0, pad_1]
    · apply seq_nx
      · simp? only [a1, dMod_i nn, hk]
        rfl
      apply seq_nx
      · simp? only [a2, dMod_i nn, hj]
        rfl
      apply seq_nx
      · simp? only [aL, kBT2_s (kd_s L), s2]
        rfl
      apply seq_nx
      · simp? only []
        rfl
      apply seq_rt
      · simp? only [a2, dMod_i n2, hc, dCut_l2, cc, aL, d1, cdc, d2]
        rfl
      rfl
    · rfl
  · have d2 := add_sL (a := ls.take k.toNat) (b := ls.drop (k + 1).toNat) (by simp at tkl dkl ⊢; omega)
    refine ⟨ls.take k.toNat ++ ls.drop (k + 1).toNat, .inl ?_, by rw [wt_app]; omega⟩
    rw [runF_ap rfl]
    apply fin_of
    try simp only [app_nil, app_cons, ins0_nil, ins0_cons, inSl_f, inSl_l, inSl_i, inSl_b, inSl_s, inSl_n, inSl_t, inSl_c, inSl_o, pad_0, pad_1]
    · apply seq_nx
      · simp? only [a1, dMod_i nn, hk]
        rfl
      apply seq_nx
      · simp? only [a2, dMod_i nn, hj]
        rfl
      apply seq_nx
      · simp? only [aL, kBT2_s (kd_s L), s2]
        rfl
      apply seq_nx
      · simp? only []
        rfl
      apply seq_nx
      · simp? only []
        rfl
      apply seq_rt
      · simp? only [dCut_l2, ck, cd1, d2]
        rfl
      rfl
    · rfl
  · have w1 := wt_set M ls k.toNat
    have w2 := wt_set L (ls.set k.toNat M) j.toNat
    refine ⟨(ls.set k.toNat M).set j.toNat L, .inr ?_, by omega⟩
    have e1 : (ls.map D.str).set k.toNat (D.str M) = (ls.set k.toNat M).map D.str := by rw [List.map_set]
    have e2 : ((ls.set k.toNat M).map D.str).set j.toNat (D.str L) = ((ls.set k.toNat M).set j.toNat L).map D.str := by simp only [List.map_set]
    have ll : (ls.set k.toNat M).length = ls.length := List.length_set
    generalize (ls.set k.toNat M).set j.toNat L = T2 at e2
    generalize ls.set k.toNat M = T1 at e1 e2 ll
    rw [runF_ap rfl]
    apply fin_of
    try simp only [app_nil, app_cons, ins0_nil, ins0_cons, inSl_f, inSl_l, inSl_i, inSl_b, inSl_s, inSl_n, inSl_t, inSl_c, inSl_o, pad_0, pad_1]
    · apply seq_nx
      · simp? only [a1, dMod_i nn, hk]
        rfl
      apply seq_nx
      · simp? only [a2, dMod_i nn, hj]
        rfl
      apply seq_nx
      · simp? only [aL, kBT2_s (kd_s L), s2]
        rfl
      apply seq_nx
      · simp? only []
        rfl
      apply seq_nx
      · simp? only []
        rfl
      apply seq_nx
      · simp? only []
        rfl
      apply seq_rt
      · simp? only [aM, ixN_of fk.1 fk.2, kPi4_s, e1, aL, ll, ixN_of fj.1 fj.2, e2]
        rfl
      rfl
    · rfl
  · have fq := fm_lt u2 (m := 4) (by decide)
    generalize hq : u2.fmod 4 = q at fq
    have la := at_last hne
    have ml := wt_mem (List.getLast_mem hne)
    generalize ls.getLast hne = Z at la ml
    have ec := lcL_a (g := gN 9) (t := tYs) (e := el_law_lines_edited_0 fu) (vs := [9]) (Γ0 := [.bor (sL ls), .val (.int 7), .bor (iL p), .val (.int at_), .val (.int k), .val (.int j), .own (sL W), .emp, .emp, .emp]) (fun i : Nat => D.int (i : Int)) (fun i => D.str Z) (List.range (48 + q - (ls.length : Int)).toNat) (fun i hi => by
      unfold el_law_lines_edited_0
      simp? only [la]) (n := 0) (by rw [List.length_range]; show _ ≤ 16777216; omega)
    have er : (List.range (48 + q - (ls.length : Int)).toNat).map (fun i => D.str Z) = (List.replicate (48 + q - (ls.length : Int)).toNat Z).map D.str := by
      rw [List.map_replicate]
      exact List.ext_getElem (by simp) fun i h1 h2 => by simp
    rw [er] at ec
    have hm : (48 + q - (ls.length : Int)).toNat ≤ 50 := by omega
    have rg := fun Γ => kRg2_s (Γ := Γ) (rngB_of2 (n := 48 + q - (ls.length : Int)) (by omega) (by omega))
    rw [rng0] at rg
    generalize (48 + q - (ls.length : Int)).toNat = m at ec hm rg
    have wr := wt_le (l := List.replicate m Z) (B := Z.length) fun x hx => by rw [(List.mem_replicate.mp hx).2]; exact Nat.le_refl _
    rw [List.length_replicate] at wr
    have wr2 : m * (Z.length + 1) ≤ 50 * wt ls := Nat.mul_le_mul hm ml
    have d := add_sL (a := ls) (b := List.replicate m Z) (by simp; omega)
    refine ⟨ls ++ List.replicate m Z, .inl ?_, by rw [wt_app]; omega⟩
    rw [runF_ap rfl]
    apply fin_of
    try simp only [app_nil, app_cons, ins0_nil, ins0_cons, inSl_f, inSl_l, inSl_i, inSl_b, inSl_s, inSl_n, inSl_t, inSl_c, inSl_o, pad_0, pad_1]
    · apply seq_nx
      · simp? only [a1, dMod_i nn, hk]
        rfl
      apply seq_nx
      · simp? only [a2, dMod_i nn, hj]
        rfl
      apply seq_nx
      · simp? only [aL, kBT2_s (kd_s L), s2]
        rfl
      apply seq_nx
      · simp? only []
        rfl
      apply seq_nx
      · simp? only []
        rfl
      apply seq_nx
      · simp? only []
        rfl
      apply seq_nx
      · simp? only []
        rfl
      apply seq_rt
      · simp? only [a2, hq, rg, ec, d]
        rfl
      rfl
    · rfl
  · obtain ⟨E, j9, el, hE⟩ := edit_loop fu (W := W0) (s0 := .bor (sL ls)) (s1 := .val (.int 8)) (s3 := .val (.int at_)) (s4 := .val (.int k)) (s5 := .val (.int j)) (s7 := .emp) (s8 := .emp) a2 rfl
    have wV : wt (W0 ++ E) = wt W0 + wt E := wt_app _ _
    generalize W0 ++ E = V at el wV
    have jn := dJoin_wt (a := " ") rfl (l := V) (by omega)
    have jl := join_wt (a := " ") rfl V
    generalize Str.join " " V = J at jn jl
    obtain ⟨_, cd0⟩ := mk_cut ls (k := 1) (by decide)
    have dl := wt_drop ls (1 : Int).toNat
    have dll := wt_len (ls.drop (1 : Int).toNat)
    generalize ls.drop (1 : Int).toNat = T at cd0 dl dll
    have d : dAdd (.lst [.str J]) (.lst (T.map D.str)) = some (.lst ((J :: T).map D.str)) := add_sL (a := [J]) (by simp; omega)
    refine ⟨J :: T, .inl ?_, by rw [wt_cons]; omega⟩
    rw [runF_ap rfl]
    apply fin_of
    try simp only [app_nil, app_cons, ins0_nil, ins0_cons, inSl_f, inSl_l, inSl_i, inSl_b, inSl_s, inSl_n, inSl_t, inSl_c, inSl_o, pad_0, pad_1]
    · apply seq_nx
      · simp? only [a1, dMod_i nn, hk]
        rfl
      apply seq_nx
      · simp? only [a2, dMod_i nn, hj]
        rfl
      apply seq_nx
      · simp? only [aL, kBT2_s (kd_s L), s2]
        rfl
      apply seq_nx
      · simp? only []
        rfl
      apply seq_nx
      · simp? only []
        rfl
      apply seq_nx
      · simp? only []
        rfl
      apply seq_nx
      · simp? only []
        rfl
      apply seq_nx
      · simp? only []
        rfl
      apply seq_nx
      · simp? only [a0, kBT2_s (kd_s L0), s20]
        rfl
      apply seq_nx
      · simp? only [kRg2_s (rngB_of (n := 14) (by decide) (by decide)), show ((14 : Int).toNat) = 14 from rfl, el]
        rfl
      simp? only [kBT2_s (kd_s " "), jn, dCut_l2, cd0, d]
      rfl
    · rfl
end
end K04

set_option autoImplicit true
set_option Elab.async false
set_option linter.all false
set_option maxRecDepth 100000
set_option exponentiation.threshold 10000
set_option maxHeartbeats 4000000
namespace K04
open PySem Ed
local macro_rules | `(tactic| simp? only [$hs,*]) => `(tactic| simp (implicitDefEqProofs := false) only [kR_s, eC_ap, eN_ap, kN_s, pN_ap, kP_s, kpE_ok, kpE_ex, pE_ap, kU2_s, kU_ok, kU_ex, eU_ap, kB3_s, kB2_ok, kB2_ex, kB1_ok, kB1_ex, eB_ap, kF2_s, kF_ok, kF_ex, eF_ap, aNil_ap, lNil_ap, kA2_ok, kA2_ex, kA1_ok, kA1_ex, aCons_ap, kL2_ok, kL2_ex, kL1_ok, kL1_ex, lCons_ap, kSz_t, kTp_ok, kTp_ex, kLs_ok, kLs_ex, eTup_ap, nLst_ap, kIf_t, kIf_f, kIf_ex, tC_ap, eAnd_ap, eOr_ap, eNot_ap, eIf_ap, sIf_ap, kE2_b, kE_ok, kE_ex, tE_ap, kT3_s, kT2_s, kT_ok, kT_ex, tTru_ap, tru_int, tru_bl, tru_lst, tru_tup, tru_non, tYs_ap, eCB_ap, eAndV_ap, eOrV_ap, eNotV_ap, kCh4_s, kCh3_ok, kCh3_ex, kCh2_t, kCh2_f, kCh1_s, kCh0_ok, kCh0_ex, kCh_ok, kCh_ex, eChain_ap, callF_ap, kCp_s, kC_ok, kC_ex, kCd_ok, kCd_ex, kFr2_r, kFr_ok, kFr_ex, kC1_ok, kC1_ex, eCall_ap, kC2_ok, kC2_ex, nCall_ap, dfz, dfr, prep0, pK_s, prep_d, prep_t, pKt_s, prep_f, pKf_s, mkF_ap, kMk_ok, kMk_ex, kFl_ok, kFl_ex, eFld_ap, fld_s, kO2_s, kO1_ok, kO1_ex, kO0_ok, kO0_ex, eOwn2_ap, kOC3_s, kOC2_ok, kOC2_ex, kOC1_s, kOC0_ok, kOC0_ex, eOwnC_ap, kM2_ok, kM2_ex, kM1_s, kM0_ok, kM0_ex, eMeth_ap, eJs_nil, kJz_t, kJ2_s, kJ_ok, kJ_ex, eJs_cons, kSl4_s, kSl3_s, kSl2_s, kSl1_s, eSl_ap, oP_n, kOp2_s, kOp_s, oP_s, kLc2_s, kLc1_t, kLc_ok, eLc_ap, kIs2_s, kIs_ok, iSeq_ap, it_l, it_t, kIn_s, iN_ap, kRg_ok, iRg1_ap, kRh2_ok, kRh1_ok, iRg2_ap, sNext_ap, sBrk_ap, sCnt_ap, sRetN_ap, kS_nx, kS_rt, kS_bk, kS_ct, kS_ex, sSeq_ap, kSet_ok, kSet_ex, sSet_ap, kOwn_ok, kOwn_ex, sOwn_ap, kDrp_ok, kDrp_ex, sDrop_ap, kRet_ok, kRet_ex, sRet_ap, kReO_ok, kReO_ex, sRetO_ap, sRetX_ap, kRx_o, kRx_v, kAp3_t, kAp2_o, kAp1_ok, kAp0_s, sApp_ap, kPi4_s, kPi3_s, kPi2_ok, kPi1_s, kPi0_ok, sPutI_ap, kPr2_ok, kPr1_ok, sPar_ap, kAs2_s, kAs_ok, sAsg_ap, gN_ap, gT_t, gT_l, gs_nil, kGs_s, gs_cons, kFor_ok, sFor_ap, sWhl_ap, kFd_ok, sFld_ap, kRs_ok, sRaise_ap, kSu_ok, kTr3_t, kTr2_t, kTr2_f, kTr_ok, kTr_ex, sTry_ap, kIE2_s, kIE_s, eIsE_ap, kXf_s, eXf_ap, fin_nx, fin_rt, fin_ex, finI_ex, kFi_s, finI_nx, app_nil, app_cons, ins0_nil, ins0_cons, inSl_f, inSl_l, inSl_i, inSl_b, inSl_s, inSl_n, inSl_t, inSl_c, inSl_o, pad_0, pad_1, get_0, get_1, put_0, put_1, look_v, look_o, look_b, frz_v, frz_o, stay_v, stay_o, stay_b, rd_d, rd_n, rds_nil, kRd_s, rds_cons, wipe_nil, wipe_cons, rest_nil, rest_cons, all_nil, all_cons, stb_e, stb_v, stb_b, noX_nil, noX_e, noX_v, noX_o, noX_b, true_and', tbl_ap, putFd_nil, putFd_cons, dAdd_i, dSub_i, dNeg_i, dLt_i, dLe_i, dGt_i, dGe_i, dEq_i, dNe_i, dEq_b, dNe_b, dEq_s, dNe_s, o1_ap, dAbs_i, dInt_i, dInt_b, dBool_i, dLen_l, dLen_t, dLen_c, dIx_l, dIx_t, dIx_c, at_0, at_1, at_2, at_3, isT_ii, isT_bi, isT_bb, isT_ss, isT_ll, isT_tt, isB2_i, map_s, dRev_l, dTup_l, dTup_t, dLst_l, dLst_t, dCut_l, dCutL_l, dGcd_i, isB_b, isS_s, mul_r, mul_l, dDiv_r, dMod_i, kGb_s, kGe_s,   decide_true, decide_false, Bool.not_true, Bool.not_false, Bool.and_true, Bool.and_false, Bool.false_and, if_true, if_false, ite_true, ite_false, Bool.false_eq_true, List.lookup_cons, List.lookup_nil, List.length_cons, List.length_nil, Nat.reduceBEq, Nat.reduceLT, Nat.reduceLeDiff, Nat.zero_le, seqMax, List.length_map, Nat.reduceAdd, Nat.reduceEqDiff, Nat.reducePow, Int.reduceNe, Int.reduceEq, Int.reduceLT, Int.reduceLE, Int.reduceBEq, Int.reduceNeg, Int.natAbs_neg, ne_eq, not_true, not_false_eq_true, and_self, true_and, and_true, beq_self_eq_true, turn_ap, kTn1_s, kTn2_t, kTn2_f, kTn2_p, kTn2_n, kTn3_ok, dIn_sl, dIn_st, dNin_sl, dNin_st, dIn_il, dNin_il, kSg2_s, kSg_ok, iSgn_ap, kED_s, eIsED_ap, kX2_s, kX1_ok, kX1_ex, kX0_ok, kX0_ex, eOwnX_ap, kBT4_s, kBT3_ok, kBT3_ex, kBT1_ok, kBT1_ex, eBMT_ap, dIsN_n, dIsN_l, dIsN_t, dIsN_i, dIsN_s, dNotN_n, dNotN_l, dNotN_t, dNotN_i, dNotN_s, dBAnd_i, dBOr_i, dMin2_i, dMax2_i, dCut_t, dCut_c, dCut_l2, Int.cast_ofNat_Int, at_4, at_5, at_6, at_7, at_8, at_9, at_10, at_11, at_12, at_13, $hs,*])
/-! edited texts: no longer than 52 times and 252 -/
theorem cut_S {z : Str} {k : Int} (h : 0 ≤ k) (h3 : z.length ≤ 16777216) : ∃ a b : Str, dCut (.str z) none (some k) = some (.str a) ∧ dCut (.str z) (some k) none = some (.str b) ∧ a.length ≤ z.length ∧ b.length ≤ z.length ∧ a.length + b.length ≤ z.length := by
  have hl : z.cps.toList.length = z.length := by simp [Str.length]
  refine ⟨⟨(z.cps.toList.take k.toNat).toArray⟩, ⟨(z.cps.toList.drop k.toNat).toArray⟩, ?_, ?_, ?_, ?_, ?_⟩
  · show (if z.length ≤ seqMax then some (D.str ⟨(cut z.cps.toList none (some k)).toArray⟩) else none) = _
    rw [if_pos (show z.length ≤ seqMax from h3), cut_to h]
  · show (if z.length ≤ seqMax then some (D.str ⟨(cut z.cps.toList (some k) none).toArray⟩) else none) = _
    rw [if_pos (show z.length ≤ seqMax from h3), cut_from h]
  · show (List.toArray _).size ≤ _
    rw [List.size_toArray, List.length_take]; omega
  · show (List.toArray _).size ≤ _
    rw [List.size_toArray, List.length_drop]; omega
  · show (List.toArray _).size + (List.toArray _).size ≤ _
    rw [List.size_toArray, List.size_toArray, List.length_take, List.length_drop]; omega
theorem edited_ok (fu : Nat) {text : Str} {p : List Int} {at_ : Int} (ht : text.length ≤ 309999) (hp : p.length = 60) (h0 : 0 ≤ at_) (h1 : at_ ≤ 50) : ∃ s : Str, F_law_edited fu [.str text, iL p, .int at_] = .ok (.fz (.str s)) ∧ s.length ≤ 52 * text.length + 252 := by
  have a0 := at_map (f := D.int) (l := p) (k := at_) 0 (by omega) (by omega)
  have a1 := at_map (f := D.int) (l := p) (k := at_ + 1) 0 (by omega) (by omega)
  have a2 := at_map (f := D.int) (l := p) (k := at_ + 2) 0 (by omega) (by omega)
  generalize p.getD at_.toNat 0 = u0 at a0
  generalize p.getD (at_ + 1).toNat 0 = u1 at a1
  generalize p.getD (at_ + 2).toNat 0 = u2 at a2
  have f := fm_lt u0 (m := 9) (by decide)
  generalize hw : u0.fmod 9 = way at f
  by_cases c : (2 : Int) < way
  · have s1 := split_nl (s := text) (by omega)
    have w1 := spl_wt text 10
    have n1 := (splS_facts text 10).1
    generalize splS text 10 = ls at s1 w1 n1
    obtain ⟨ms, e, hm⟩ := lines_edited_ok fu n1 (by omega) hp h0 h1 (way := way) (by omega) (by omega)
    have jn := dJoin_wt (a := "\n") rfl (l := ms) (by omega)
    have jl := join_wt (a := "\n") rfl ms
    refine ⟨Str.join "\n" ms, ?_, by omega⟩
    unfold F_law_edited sv_law_edited
    rcases e with e | e
    · rw [runF_ap rfl]
      apply fin_of
      try simp only [app_nil, app_cons, ins0_nil, ins0_cons, inSl_f, inSl_l, inSl_i, inSl_b, inSl_s, inSl_n, inSl_t, inSl_c, inSl_o, pad_0, pad_1]
      · apply seq_nx
        · simp? only [a0, hw]
          rfl
        apply seq_rt
        · simp? only [c, kBT2_s (kd_s "\n"), kBT2_s (kd_s text), s1, e, jn]
          rfl
        rfl
      · rfl
    · rw [runF_ap rfl]
      apply fin_of
      try simp only [app_nil, app_cons, ins0_nil, ins0_cons, inSl_f, inSl_l, inSl_i, inSl_b, inSl_s, inSl_n, inSl_t, inSl_c, inSl_o, pad_0, pad_1]
      · apply seq_nx
        · simp? only [a0, hw]
          rfl
        apply seq_rt
        · simp? only [c, kBT2_s (kd_s "\n"), kBT2_s (kd_s text), s1, e, jn]
          rfl
        rfl
      · rfl
  · have nn : (text.length : Int) + 1 ≠ 0 := by omega
    have fk := fm_lt u1 (m := (text.length : Int) + 1) (by omega)
    generalize hk : u1.fmod ((text.length : Int) + 1) = k at fk
    have dl := dLen_s (x := text) (by omega)
    obtain ⟨A, B, cA, cB, lA, lB, lAB⟩ := cut_S (z := text) fk.1 (by omega)
    obtain ⟨A1, B1, cA1, cB1, lA1, lB1, lAB1⟩ := cut_S (z := text) (k := k + 1) (by omega) (by omega)
    obtain ⟨sg, es, ls⟩ := sign_ok fu u2
    have d1 := dAdd_S (a := A) (b := sg) (by omega)
    have l1 := app_len A sg
    have d2 := dAdd_S (a := A ++ sg) (b := B) (by omega)
    have l2 := app_len (A ++ sg) B
    have d3 := dAdd_S (a := A) (b := B1) (by omega)
    have l3 := app_len A B1
    have d4 := dAdd_S (a := A ++ sg) (b := B1) (by omega)
    have l4 := app_len (A ++ sg) B1
    have hcase : way = 0 ∨ way = 1 ∨ way = 2 := by omega
    unfold F_law_edited sv_law_edited sg_law_edited_0
    rcases hcase with rfl | rfl | rfl
    · refine ⟨A ++ sg ++ B, ?_, by omega⟩
      rw [runF_ap rfl]
      apply fin_of
      try simp only [app_nil, app_cons, ins0_nil, ins0_cons, inSl_f, inSl_l, inSl_i, inSl_b, inSl_s, inSl_n, inSl_t, inSl_c, inSl_o, pad_0, pad_1]
      · apply seq_nx
        · simp? only [a0, hw]
          rfl
        apply seq_nx
        · simp? only []
          rfl
        apply seq_nx
        · simp? only [a1, dl, dMod_i nn, hk]
          rfl
        apply seq_rt
        · simp? only [cA, a2, es, d1, cB, d2]
          rfl
        rfl
      · rfl
    · refine ⟨A ++ B1, ?_, by omega⟩
      rw [runF_ap rfl]
      apply fin_of
      try simp only [app_nil, app_cons, ins0_nil, ins0_cons, inSl_f, inSl_l, inSl_i, inSl_b, inSl_s, inSl_n, inSl_t, inSl_c, inSl_o, pad_0, pad_1]
      · apply seq_nx
        · simp? only [a0, hw]
          rfl
        apply seq_nx
        · simp? only []
          rfl
        apply seq_nx
        · simp? only [a1, dl, dMod_i nn, hk]
          rfl
        apply seq_nx
        · simp? only []
          rfl
        apply seq_rt
        · simp? only [cA, cB1, d3]
          rfl
        rfl
      · rfl
    · refine ⟨A ++ sg ++ B1, ?_, by omega⟩
      rw [runF_ap rfl]
      apply fin_of
      try simp only [app_nil, app_cons, ins0_nil, ins0_cons, inSl_f, inSl_l, inSl_i, inSl_b, inSl_s, inSl_n, inSl_t, inSl_c, inSl_o, pad_0, pad_1]
      · apply seq_nx
        · simp? only [a0, hw]
          rfl
        apply seq_nx
        · simp? only []
          rfl
        apply seq_nx
        · simp? only [a1, dl, dMod_i nn, hk]
          rfl
        apply seq_nx
        · simp? only []
          rfl
        apply seq_nx
        · simp? only []
          rfl
        simp? only [cA, a2, es, d1, cB1, d4]
        rfl
      · rfl
end K04

set_option autoImplicit true
set_option Elab.async false
set_option linter.all false
set_option maxRecDepth 100000
set_option exponentiation.threshold 10000
set_option maxHeartbeats 4000000
namespace K04
open PySem Ed
local macro_rules | `(tactic| simp? only [$hs,*]) => `(tactic| simp (implicitDefEqProofs := false) only [kR_s, eC_ap, eN_ap, kN_s, pN_ap, kP_s, kpE_ok, kpE_ex, pE_ap, kU2_s, kU_ok, kU_ex, eU_ap, kB3_s, kB2_ok, kB2_ex, kB1_ok, kB1_ex, eB_ap, kF2_s, kF_ok, kF_ex, eF_ap, aNil_ap, lNil_ap, kA2_ok, kA2_ex, kA1_ok, kA1_ex, aCons_ap, kL2_ok, kL2_ex, kL1_ok, kL1_ex, lCons_ap, kSz_t, kTp_ok, kTp_ex, kLs_ok, kLs_ex, eTup_ap, nLst_ap, kIf_t, kIf_f, kIf_ex, tC_ap, eAnd_ap, eOr_ap, eNot_ap, eIf_ap, sIf_ap, kE2_b, kE_ok, kE_ex, tE_ap, kT3_s, kT2_s, kT_ok, kT_ex, tTru_ap, tru_int, tru_bl, tru_lst, tru_tup, tru_non, tYs_ap, eCB_ap, eAndV_ap, eOrV_ap, eNotV_ap, kCh4_s, kCh3_ok, kCh3_ex, kCh2_t, kCh2_f, kCh1_s, kCh0_ok, kCh0_ex, kCh_ok, kCh_ex, eChain_ap, callF_ap, kCp_s, kC_ok, kC_ex, kCd_ok, kCd_ex, kFr2_r, kFr_ok, kFr_ex, kC1_ok, kC1_ex, eCall_ap, kC2_ok, kC2_ex, nCall_ap, dfz, dfr, prep0, pK_s, prep_d, prep_t, pKt_s, prep_f, pKf_s, mkF_ap, kMk_ok, kMk_ex, kFl_ok, kFl_ex, eFld_ap, fld_s, kO2_s, kO1_ok, kO1_ex, kO0_ok, kO0_ex, eOwn2_ap, kOC3_s, kOC2_ok, kOC2_ex, kOC1_s, kOC0_ok, kOC0_ex, eOwnC_ap, kM2_ok, kM2_ex, kM1_s, kM0_ok, kM0_ex, eMeth_ap, eJs_nil, kJz_t, kJ2_s, kJ_ok, kJ_ex, eJs_cons, kSl4_s, kSl3_s, kSl2_s, kSl1_s, eSl_ap, oP_n, kOp2_s, kOp_s, oP_s, kLc2_s, kLc1_t, kLc_ok, eLc_ap, kIs2_s, kIs_ok, iSeq_ap, it_l, it_t, kIn_s, iN_ap, kRg_ok, iRg1_ap, kRh2_ok, kRh1_ok, iRg2_ap, sNext_ap, sBrk_ap, sCnt_ap, sRetN_ap, kS_nx, kS_rt, kS_bk, kS_ct, kS_ex, sSeq_ap, kSet_ok, kSet_ex, sSet_ap, kOwn_ok, kOwn_ex, sOwn_ap, kDrp_ok, kDrp_ex, sDrop_ap, kRet_ok, kRet_ex, sRet_ap, kReO_ok, kReO_ex, sRetO_ap, sRetX_ap, kRx_o, kRx_v, kAp3_t, kAp2_o, kAp1_ok, kAp0_s, sApp_ap, kPi4_s, kPi3_s, kPi2_ok, kPi1_s, kPi0_ok, sPutI_ap, kPr2_ok, kPr1_ok, sPar_ap, kAs2_s, kAs_ok, sAsg_ap, gN_ap, gT_t, gT_l, gs_nil, kGs_s, gs_cons, kFor_ok, sFor_ap, sWhl_ap, kFd_ok, sFld_ap, kRs_ok, sRaise_ap, kSu_ok, kTr3_t, kTr2_t, kTr2_f, kTr_ok, kTr_ex, sTry_ap, kIE2_s, kIE_s, eIsE_ap, kXf_s, eXf_ap, fin_nx, fin_rt, fin_ex, finI_ex, kFi_s, finI_nx, app_nil, app_cons, ins0_nil, ins0_cons, inSl_f, inSl_l, inSl_i, inSl_b, inSl_s, inSl_n, inSl_t, inSl_c, inSl_o, pad_0, pad_1, get_0, get_1, put_0, put_1, look_v, look_o, look_b, frz_v, frz_o, stay_v, stay_o, stay_b, rd_d, rd_n, rds_nil, kRd_s, rds_cons, wipe_nil, wipe_cons, rest_nil, rest_cons, all_nil, all_cons, stb_e, stb_v, stb_b, noX_nil, noX_e, noX_v, noX_o, noX_b, true_and', tbl_ap, putFd_nil, putFd_cons, dAdd_i, dSub_i, dNeg_i, dLt_i, dLe_i, dGt_i, dGe_i, dEq_i, dNe_i, dEq_b, dNe_b, dEq_s, dNe_s, o1_ap, dAbs_i, dInt_i, dInt_b, dBool_i, dLen_l, dLen_t, dLen_c, dIx_l, dIx_t, dIx_c, at_0, at_1, at_2, at_3, isT_ii, isT_bi, isT_bb, isT_ss, isT_ll, isT_tt, isB2_i, map_s, dRev_l, dTup_l, dTup_t, dLst_l, dLst_t, dCut_l, dCutL_l, dGcd_i, isB_b, isS_s, mul_r, mul_l, dDiv_r, dMod_i, kGb_s, kGe_s,   decide_true, decide_false, Bool.not_true, Bool.not_false, Bool.and_true, Bool.and_false, Bool.false_and, if_true, if_false, ite_true, ite_false, Bool.false_eq_true, List.lookup_cons, List.lookup_nil, List.length_cons, List.length_nil, Nat.reduceBEq, Nat.reduceLT, Nat.reduceLeDiff, Nat.zero_le, seqMax, List.length_map, Nat.reduceAdd, Nat.reduceEqDiff, Nat.reducePow, Int.reduceNe, Int.reduceEq, Int.reduceLT, Int.reduceLE, Int.reduceBEq, Int.reduceNeg, Int.natAbs_neg, ne_eq, not_true, not_false_eq_true, and_self, true_and, and_true, beq_self_eq_true, turn_ap, kTn1_s, kTn2_t, kTn2_f, kTn2_p, kTn2_n, kTn3_ok, dIn_sl, dIn_st, dNin_sl, dNin_st, dIn_il, dNin_il, kSg2_s, kSg_ok, iSgn_ap, kED_s, eIsED_ap, kX2_s, kX1_ok, kX1_ex, kX0_ok, kX0_ex, eOwnX_ap, kBT4_s, kBT3_ok, kBT3_ex, kBT1_ok, kBT1_ex, eBMT_ap, dIsN_n, dIsN_l, dIsN_t, dIsN_i, dIsN_s, dNotN_n, dNotN_l, dNotN_t, dNotN_i, dNotN_s, dBAnd_i, dBOr_i, dMin2_i, dMax2_i, dCut_t, dCut_c, dCut_l2, Int.cast_ofNat_Int, at_4, at_5, at_6, at_7, at_8, at_9, at_10, at_11, at_12, at_13, $hs,*])
def Ends (r : R (Ctl × Ed.Env)) : Prop := ∃ Γ, r = .ok (.ret (.fz (.bl true)), Γ)
theorem Ends.of {r : R (Ctl × Ed.Env)} {Γ : Ed.Env} (h : r = .ok (.ret (.fz (.bl true)), Γ)) : Ends r := ⟨Γ, h⟩
theorem seq_ends {a b : SV} {Γ Γ1 : Ed.Env} (h : a Γ = .ok (.nx, Γ1)) (h2 : Ends (b Γ1)) : Ends (sSeq a b Γ) := by rw [sSeq_ap, h, kS_nx]; exact h2
section
variable {ns p : List Int} {cs : List Str} {rows : List (List Str)} {T O : Str} {D1 : D}
theorem l_loop (hT : T.length ≤ 5782) {s0 s1 s2 s3 s4 s5 s6 s7 s8 s9 s10 s11 : Sl} : ∃ j, forL (gN 12) (lb_law_4 1) [.str "", .str (T ++ "\n"), .str (T ++ " "), .str ("\n" ++ T), .str (" " ++ T)] [s0, s1, s2, s3, s4, s5, s6, s7, s8, s9, s10, s11, .emp] = .ok (.nx, [s0, s1, s2, s3, s4, s5, s6, s7, s8, s9, s10, s11, j]) := by
  have step : ∀ (t : Str) (j : Sl), t.length ≤ 6000 → kGb (lb_law_4 1) (gN 12 (.str t) [s0, s1, s2, s3, s4, s5, s6, s7, s8, s9, s10, s11, j]) = .ok (.nx, [s0, s1, s2, s3, s4, s5, s6, s7, s8, s9, s10, s11, .val (.str t)]) := fun t j ht => by
    have a := answers_ok 1 (text := t) (by omega)
    unfold lb_law_4
    apply gb_of
    · rfl
    simp? only [a]
  have b := step "" .emp (by decide)
  rw [forL_nx (step "" _ (by decide)), forL_nx (step _ _ (by rw [app_len, nl1]; omega)), forL_nx (step _ _ (by rw [app_len, sp1]; omega)), forL_nx (step _ _ (by rw [app_len, nl1]; omega)), forL_nx (step _ _ (by rw [app_len, sp1]; omega))]
  exact ⟨_, rfl⟩
/-- from the texts on -/
theorem l1 (hp : p.length = 60) (hT : T.length ≤ 5782) (hO : O.length ≤ 5782) (rT : F_law_reads 1 [.str T, sL cs, sLL rows] = .ok (.fz (.bl true))) (rO : F_law_reads 1 [.str O, sL cs, sLL rows] = .ok (.fz (.bl true)))
    (tt : F_table_text 1 [tb cs rows] = .ok (.fz (.str T))) (li : F_law_is 1 [tb cs rows, sL cs, sLL rows] = .ok (.fz (.bl true))) {s6 s8 : Sl} :
    Ends (sg_law_7 1 [.val (.scr ns), .val D1, .val (sL cs), .val (sLL rows), .val (iL p), .val (tb cs rows), s6, .val (.str T), s8, .val (.str T), .val (.str O), .emp, .emp]) := by
  obtain ⟨S0, e0, l0⟩ := edited_ok 1 (text := O) (at_ := 0) (by omega) hp (by omega) (by omega)
  obtain ⟨S4, e4, l4⟩ := edited_ok 1 (text := S0) (at_ := 4) (by omega) hp (by omega) (by omega)
  obtain ⟨S8, e8, l8⟩ := edited_ok 1 (text := T) (at_ := 8) (by omega) hp (by omega) (by omega)
  obtain ⟨S12, e12, l12⟩ := edited_ok 1 (text := O) (at_ := 12) (by omega) hp (by omega) (by omega)
  have a0 := answers_ok 1 (text := S0) (by omega)
  have a4 := answers_ok 1 (text := S4) (by omega)
  have a8 := answers_ok 1 (text := S8) (by omega)
  have a12 := answers_ok 1 (text := S12) (by omega)
  obtain ⟨j, el⟩ := l_loop hT (s0 := .val (.scr ns)) (s1 := .val D1) (s2 := .val (sL cs)) (s3 := .val (sLL rows)) (s4 := .val (iL p)) (s5 := .val (tb cs rows)) (s6 := s6) (s7 := .val (.str T)) (s8 := s8) (s9 := .val (.str T)) (s10 := .val (.str O)) (s11 := .val (.str S0))
  have d1 := dAdd_S (a := T) (b := "\n") (by rw [nl1]; omega)
  have d2 := dAdd_S (a := T) (b := " ") (by rw [sp1]; omega)
  have d3 := dAdd_S (a := "\n") (b := T) (by rw [nl1]; omega)
  have d4 := dAdd_S (a := " ") (b := T) (by rw [sp1]; omega)
  unfold tb at el tt li ⊢
  unfold sg_law_7 sg_law_6 sg_law_5
  apply seq_ends
  · simp? only [rT, rO]
    rfl
  apply seq_ends
  · simp? only [e0]
    rfl
  apply seq_ends
  · simp? only [a0, e4, a4]
    rfl
  apply seq_ends
  · simp? only [d1, d2, d3, d4, el]
    rfl
  apply seq_ends
  · simp? only [e8, a8, e12, a12]
    rfl
  apply Ends.of
  simp? only [rT, tt, li]
  rfl
end
def FUEL : Nat := 1
theorem law_true (ns : List Int) (_ : ns.length ≤ 63) : F_law FUEL [.scr ns] = .ok (.fz (.bl true)) := by
  obtain ⟨cs, rows, ed, hd⟩ := drawn_ok 1 ns
  obtain ⟨p, ep, lp, _⟩ := pool_ok 1 ns (k := 2) (n := 60) (by decide) (by decide) (by decide)
  have lp : p.length = 60 := lp
  obtain ⟨nc, nr, nq⟩ := hd.nm
  have hd2 : Drawn cs (rows.map (srt cs)) := ⟨hd.1, hd.2.1, by rw [List.length_map]; exact hd.2.2.1, fun r hr => by
    obtain ⟨q, hq, rfl⟩ := List.mem_map.mp hr
    exact ⟨hd.1.1.sublist List.filter_sublist, fun x hx => (List.mem_filter.mp hx).1⟩⟩
  obtain ⟨_, nr2, _⟩ := hd2.nm
  have w1 := written_ok 1 nc nr2 hd2.2.2.1
  have w2 := written_ok 1 nc nr hd.2.2.1
  have r1 := read_written 1 hd2
  rw [tb_srt] at r1
  have r1 := reads_ok 1 hd r1
  have r2 := reads_ok 1 hd (read_written 1 hd)
  have tt := table_text_ok 1 (rows := rows) nc nq hd.2.2.1
  have hT := text_len nc nr2 hd2.2.2.1
  have hO := text_len nc nr hd.2.2.1
  have li := law_is_ok 1 hd.1.1 hd.1.2 hd.2.1 hd.2.2.2 hd.2.2.1
  have ti := table_init 1 hd.1.2 hd.1.1 hd.2.1 hd.2.2.2 hd.2.2.1
  have el := lcL_a (g := gN 6) (t := tYs) (e := el_law_0 1) (vs := [6]) (Γ0 := [.val (.scr ns), .val (.lst [sL cs, sLL rows]), .val (sL cs), .val (sLL rows), .val (iL p), .emp, .emp, .emp, .emp, .emp, .emp, .emp, .emp]) sL sL rows (fun r hr' => by
    unfold el_law_0
    simp? only []) (n := 0) (by have := hd.2.2.1; show 0 + rows.length ≤ 16777216; omega)
  have inner : ∀ (r : List Str), lcL (gN 8) (et_law_2 1) (el_law_1 1) [8] (cs.map D.str) [.val (.scr ns), .val (.lst [sL cs, sLL rows]), .val (sL cs), .val (sLL rows), .val (iL p), .val (tb cs rows), .val (sL r), .emp, .emp, .emp, .emp, .emp, .emp] 0 = some ((srt cs r).map D.str, [.val (.scr ns), .val (.lst [sL cs, sLL rows]), .val (sL cs), .val (sLL rows), .val (iL p), .val (tb cs rows), .val (sL r), .emp, .emp, .emp, .emp, .emp, .emp]) := fun r =>
    lcL_if D.str (fun x => x ∈ r) D.str cs (fun x hx => by
      unfold et_law_2 el_law_1
      simp? only []) (n := 0) (by have := hd.2.1; show 0 + _ ≤ 16777216; omega)
  have ec := lcL_a (g := gN 6) (t := tYs) (e := el_law_3 1) (vs := [6]) (Γ0 := [.val (.scr ns), .val (.lst [sL cs, sLL rows]), .val (sL cs), .val (sLL rows), .val (iL p), .val (tb cs rows), .emp, .emp, .emp, .emp, .emp, .emp, .emp]) sL (fun r => sL (srt cs r)) rows (fun r hr' => by
      have ir := inner r
      unfold el_law_3
      simp? only [ir]) (n := 0) (by have := hd.2.2.1; show 0 + rows.length ≤ 16777216; omega)
  rw [show rows.map (fun r => sL (srt cs r)) = (rows.map (srt cs)).map sL by rw [List.map_map]; rfl] at ec
  generalize wtext cs (rows.map (srt cs)) = T at w1 r1 tt hT
  generalize wtext cs rows = O at w2 r2 hO
  have last := fun s6 s8 => l1 (ns := ns) (D1 := .lst [sL cs, sLL rows]) lp hT hO r1 r2 tt li (s6 := s6) (s8 := s8)
  have fe : ∀ r, Ends r → fin r = .ok (.fz (.bl true)) := fun r ⟨Γ, h⟩ => by rw [h]; rfl
  show F_law 1 [.scr ns] = _
  unfold F_law sv_law sg_law_11 sg_law_10 sg_law_9 sg_law_8
  rw [runF_ap rfl]
  apply fe
  simp only [app_nil, app_cons, ins0_nil, ins0_cons, inSl_f, inSl_l, inSl_i, inSl_b, inSl_s, inSl_n, inSl_t, inSl_c, inSl_o, pad_0, pad_1]
  unfold tb at tt ti ec last
  apply seq_ends
  · simp? only [ed]
    rfl
  apply seq_ends
  · simp? only []
    rfl
  apply seq_ends
  · simp? only []
    rfl
  apply seq_ends
  · simp? only [ep]
    rfl
  apply seq_ends
  · simp? only [el, ti]
    rfl
  apply seq_ends
  · simp? only [ec, w1]
    rfl
  apply seq_ends
  · simp? only [tt]
    rfl
  apply seq_ends
  · simp? only []
    rfl
  apply seq_ends
  · simp? only [w2]
    rfl
  exact last _ _
end K04

set_option autoImplicit true
set_option Elab.async false
set_option linter.all false
set_option maxRecDepth 100000
set_option exponentiation.threshold 10000
set_option maxHeartbeats 4000000
namespace K04
open PySem L2 Ed
def top (i : Nat) : Stmt := PySem.Challenge.pw_unbrokenrows_k04_table_texts.main.body.getD i (.Pass ⟨0, 0, 0, 0⟩)
abbrev s_is_name : Stmt := top 12
abbrev N_is_name : List Str := ["text", "letter"]
theorem sc_is_name : FnScope N_is_name ["text"] (defScope s_is_name) := ⟨rfl, rfl, rfl, by decide +kernel, rfl, by decide +kernel, by decide +kernel⟩
abbrev s_first_misnamed : Stmt := top 15
abbrev N_first_misnamed : List Str := ["columns", "index"]
theorem sc_first_misnamed : FnScope N_first_misnamed ["columns"] (defScope s_first_misnamed) := ⟨rfl, rfl, rfl, by decide +kernel, rfl, by decide +kernel, by decide +kernel⟩
abbrev s_is_row : Stmt := top 16
abbrev N_is_row : List Str := ["columns", "row", "index"]
theorem sc_is_row : FnScope N_is_row ["columns", "row"] (defScope s_is_row) := ⟨rfl, rfl, rfl, by decide +kernel, rfl, by decide +kernel, by decide +kernel⟩
abbrev s_common_names : Stmt := top 17
abbrev N_common_names : List Str := ["columns", "row", "name"]
theorem sc_common_names : FnScope N_common_names ["columns", "row"] (defScope s_common_names) := ⟨rfl, rfl, rfl, by decide +kernel, rfl, by decide +kernel, by decide +kernel⟩
abbrev s_BadTableD_initD : Stmt := inClass (top 7) 0
abbrev N_BadTableD_initD : List Str := ["self", "part", "index"]
theorem sc_BadTableD_initD : FnScope N_BadTableD_initD ["self", "part", "index"] (defScope s_BadTableD_initD) := ⟨rfl, rfl, rfl, by decide +kernel, rfl, by decide +kernel, by decide +kernel⟩
abbrev s_TableD_initD : Stmt := inClass (top 19) 2
abbrev N_TableD_initD : List Str := ["self", "columns", "rows", "index", "number", "row"]
theorem sc_TableD_initD : FnScope N_TableD_initD ["self", "columns", "rows"] (defScope s_TableD_initD) := ⟨rfl, rfl, rfl, by decide +kernel, rfl, by decide +kernel, by decide +kernel⟩
abbrev s_TableD_iterD : Stmt := inClass (top 19) 17
abbrev N_TableD_iterD : List Str := ["self"]
theorem sc_TableD_iterD : FnScope N_TableD_iterD ["self"] (defScope s_TableD_iterD) := ⟨rfl, rfl, rfl, by decide +kernel, rfl, by decide +kernel, by decide +kernel⟩
abbrev s_TableD_lenD : Stmt := inClass (top 19) 18
abbrev N_TableD_lenD : List Str := ["self"]
theorem sc_TableD_lenD : FnScope N_TableD_lenD ["self"] (defScope s_TableD_lenD) := ⟨rfl, rfl, rfl, by decide +kernel, rfl, by decide +kernel, by decide +kernel⟩
abbrev s_TableD_eqD : Stmt := inClass (top 19) 19
abbrev N_TableD_eqD : List Str := ["self", "other"]
theorem sc_TableD_eqD : FnScope N_TableD_eqD ["self", "other"] (defScope s_TableD_eqD) := ⟨rfl, rfl, rfl, by decide +kernel, rfl, by decide +kernel, by decide +kernel⟩
abbrev s_table_text : Stmt := top 21
abbrev N_table_text : List Str := ["table", "lines", "row"]
theorem sc_table_text : FnScope N_table_text ["table"] (defScope s_table_text) := ⟨rfl, rfl, rfl, by decide +kernel, rfl, by decide +kernel, by decide +kernel⟩
abbrev s_BadTextD_initD : Stmt := inClass (top 8) 0
abbrev N_BadTextD_initD : List Str := ["self", "line"]
theorem sc_BadTextD_initD : FnScope N_BadTextD_initD ["self", "line"] (defScope s_BadTextD_initD) := ⟨rfl, rfl, rfl, by decide +kernel, rfl, by decide +kernel, by decide +kernel⟩
abbrev s_read_table : Stmt := top 22
abbrev N_read_table : List Str := ["text", "lines", "words", "columns", "rows", "number", "row"]
theorem sc_read_table : FnScope N_read_table ["text"] (defScope s_read_table) := ⟨rfl, rfl, rfl, by decide +kernel, rfl, by decide +kernel, by decide +kernel⟩
abbrev s_law_cell : Stmt := top 24
abbrev N_law_cell : List Str := ["script", "k"]
theorem sc_law_cell : FnScope N_law_cell ["script", "k"] (defScope s_law_cell) := ⟨rfl, rfl, rfl, by decide +kernel, rfl, by decide +kernel, by decide +kernel⟩
abbrev s_law_pool : Stmt := top 25
abbrev N_law_pool : List Str := ["script", "k", "count", "value", "pool", "i", "first", "second", "third"]
theorem sc_law_pool : FnScope N_law_pool ["script", "k", "count"] (defScope s_law_pool) := ⟨rfl, rfl, rfl, by decide +kernel, rfl, by decide +kernel, by decide +kernel⟩
abbrev s_law_word : Stmt := top 26
abbrev N_law_word : List Str := ["pool", "at", "code", "size", "word", "i"]
theorem sc_law_word : FnScope N_law_word ["pool", "at"] (defScope s_law_word) := ⟨rfl, rfl, rfl, by decide +kernel, rfl, by decide +kernel, by decide +kernel⟩
abbrev s_law_new : Stmt := top 27
abbrev N_law_new : List Str := ["names", "word", "letters", "turn"]
theorem sc_law_new : FnScope N_law_new ["names", "word"] (defScope s_law_new) := ⟨rfl, rfl, rfl, by decide +kernel, rfl, by decide +kernel, by decide +kernel⟩
abbrev s_law_marks : Stmt := top 28
abbrev N_law_marks : List Str := ["columns", "pool", "at", "left", "bits", "name", "code", "row", "k", "pick"]
theorem sc_law_marks : FnScope N_law_marks ["columns", "pool", "at"] (defScope s_law_marks) := ⟨rfl, rfl, rfl, by decide +kernel, rfl, by decide +kernel, by decide +kernel⟩
abbrev s_law_drawn : Stmt := top 29
abbrev N_law_drawn : List Str := ["script", "pool", "lows", "size", "columns", "k", "word", "rows", "i", "base"]
theorem sc_law_drawn : FnScope N_law_drawn ["script"] (defScope s_law_drawn) := ⟨rfl, rfl, rfl, by decide +kernel, rfl, by decide +kernel, by decide +kernel⟩
abbrev s_law_written : Stmt := top 30
abbrev N_law_written : List Str := ["columns", "rows", "lines", "row"]
theorem sc_law_written : FnScope N_law_written ["columns", "rows"] (defScope s_law_written) := ⟨rfl, rfl, rfl, by decide +kernel, rfl, by decide +kernel, by decide +kernel⟩
abbrev s_law_sign : Stmt := top 31
abbrev N_law_sign : List Str := ["draw", "signs"]
theorem sc_law_sign : FnScope N_law_sign ["draw"] (defScope s_law_sign) := ⟨rfl, rfl, rfl, by decide +kernel, rfl, by decide +kernel, by decide +kernel⟩
abbrev s_law_lines_edited : Stmt := top 32
abbrev N_law_lines_edited : List Str := ["lines", "way", "pool", "at", "k", "j", "words", "cut", "mixed", "turn"]
theorem sc_law_lines_edited : FnScope N_law_lines_edited ["lines", "way", "pool", "at"] (defScope s_law_lines_edited) := ⟨rfl, rfl, rfl, by decide +kernel, rfl, by decide +kernel, by decide +kernel⟩
abbrev s_law_edited : Stmt := top 33
abbrev N_law_edited : List Str := ["text", "pool", "at", "way", "k"]
theorem sc_law_edited : FnScope N_law_edited ["text", "pool", "at"] (defScope s_law_edited) := ⟨rfl, rfl, rfl, by decide +kernel, rfl, by decide +kernel, by decide +kernel⟩
abbrev s_law_different : Stmt := top 34
abbrev N_law_different : List Str := ["words", "known", "word"]
theorem sc_law_different : FnScope N_law_different ["words", "known"] (defScope s_law_different) := ⟨rfl, rfl, rfl, by decide +kernel, rfl, by decide +kernel, by decide +kernel⟩
abbrev s_law_described : Stmt := top 35
abbrev N_law_described : List Str := ["text", "lines", "columns", "good", "word", "rows", "k", "words"]
theorem sc_law_described : FnScope N_law_described ["text"] (defScope s_law_described) := ⟨rfl, rfl, rfl, by decide +kernel, rfl, by decide +kernel, by decide +kernel⟩
abbrev s_law_is : Stmt := top 36
abbrev N_law_is : List Str := ["found", "columns", "rows", "i", "name"]
theorem sc_law_is : FnScope N_law_is ["found", "columns", "rows"] (defScope s_law_is) := ⟨rfl, rfl, rfl, by decide +kernel, rfl, by decide +kernel, by decide +kernel⟩
abbrev s_law_answers : Stmt := top 37
abbrev N_law_answers : List Str := ["text", "due", "found", "told", "kinds", "e"]
theorem sc_law_answers : FnScope N_law_answers ["text"] (defScope s_law_answers) := ⟨rfl, rfl, rfl, by decide +kernel, rfl, by decide +kernel, by decide +kernel⟩
abbrev s_law_reads : Stmt := top 38
abbrev N_law_reads : List Str := ["text", "columns", "rows"]
theorem sc_law_reads : FnScope N_law_reads ["text", "columns", "rows"] (defScope s_law_reads) := ⟨rfl, rfl, rfl, by decide +kernel, rfl, by decide +kernel, by decide +kernel⟩
abbrev s_law : Stmt := top 39
abbrev N_law : List Str := ["script", "made", "columns", "rows", "edits", "table", "row", "text", "name", "told", "other", "spoiled", "wrong"]
theorem sc_law : FnScope N_law ["script"] (defScope s_law) := ⟨rfl, rfl, rfl, by decide +kernel, rfl, by decide +kernel, by decide +kernel⟩
structure Txt (K : PySem.W.Frag) (mg : Str → Option Value) where
  f_is_name : Addr
  fd_is_name : FuncData
  F_is_name : Fun K "is_name" "is_name" s_is_name f_is_name fd_is_name
  bd_is_name : Binds K fd_is_name ["text"] []
  k_is_name : PySem.W.keepIn K (.ref f_is_name) = true
  f_first_misnamed : Addr
  fd_first_misnamed : FuncData
  F_first_misnamed : Fun K "first_misnamed" "first_misnamed" s_first_misnamed f_first_misnamed fd_first_misnamed
  bd_first_misnamed : Binds K fd_first_misnamed ["columns"] []
  k_first_misnamed : PySem.W.keepIn K (.ref f_first_misnamed) = true
  f_is_row : Addr
  fd_is_row : FuncData
  F_is_row : Fun K "is_row" "is_row" s_is_row f_is_row fd_is_row
  bd_is_row : Binds K fd_is_row ["columns", "row"] []
  k_is_row : PySem.W.keepIn K (.ref f_is_row) = true
  f_common_names : Addr
  fd_common_names : FuncData
  F_common_names : Fun K "common_names" "common_names" s_common_names f_common_names fd_common_names
  bd_common_names : Binds K fd_common_names ["columns", "row"] []
  k_common_names : PySem.W.keepIn K (.ref f_common_names) = true
  f_BadTableD_initD : Addr
  fd_BadTableD_initD : FuncData
  F_BadTableD_initD : Fun K "__init__" "BadTable.__init__" s_BadTableD_initD f_BadTableD_initD fd_BadTableD_initD
  bd_BadTableD_initD : Binds K fd_BadTableD_initD ["self", "part", "index"] []
  k_BadTableD_initD : PySem.W.keepIn K (.ref f_BadTableD_initD) = true
  f_TableD_initD : Addr
  fd_TableD_initD : FuncData
  e_TableD_initD : Addr
  F_TableD_initD : FunD K "__init__" "Table.__init__" (defArgs s_TableD_initD) (defBody s_TableD_initD) (defScope s_TableD_initD) [(V.ref e_TableD_initD)] [] f_TableD_initD fd_TableD_initD
  ds1_TableD_initD : List Value
  dv1_TableD_initD : Vals [(V.ref e_TableD_initD)] ds1_TableD_initD
  bd1_TableD_initD : Binds K fd_TableD_initD ["self", "columns", "rows"] ds1_TableD_initD
  bd_TableD_initD : Binds K fd_TableD_initD ["self", "columns", "rows"] []
  k_TableD_initD : PySem.W.keepIn K (.ref f_TableD_initD) = true
  f_TableD_iterD : Addr
  fd_TableD_iterD : FuncData
  F_TableD_iterD : Fun K "__iter__" "Table.__iter__" s_TableD_iterD f_TableD_iterD fd_TableD_iterD
  bd_TableD_iterD : Binds K fd_TableD_iterD ["self"] []
  k_TableD_iterD : PySem.W.keepIn K (.ref f_TableD_iterD) = true
  f_TableD_lenD : Addr
  fd_TableD_lenD : FuncData
  F_TableD_lenD : Fun K "__len__" "Table.__len__" s_TableD_lenD f_TableD_lenD fd_TableD_lenD
  bd_TableD_lenD : Binds K fd_TableD_lenD ["self"] []
  k_TableD_lenD : PySem.W.keepIn K (.ref f_TableD_lenD) = true
  f_TableD_eqD : Addr
  fd_TableD_eqD : FuncData
  F_TableD_eqD : Fun K "__eq__" "Table.__eq__" s_TableD_eqD f_TableD_eqD fd_TableD_eqD
  bd_TableD_eqD : Binds K fd_TableD_eqD ["self", "other"] []
  k_TableD_eqD : PySem.W.keepIn K (.ref f_TableD_eqD) = true
  f_table_text : Addr
  fd_table_text : FuncData
  F_table_text : Fun K "table_text" "table_text" s_table_text f_table_text fd_table_text
  bd_table_text : Binds K fd_table_text ["table"] []
  k_table_text : PySem.W.keepIn K (.ref f_table_text) = true
  f_BadTextD_initD : Addr
  fd_BadTextD_initD : FuncData
  F_BadTextD_initD : Fun K "__init__" "BadText.__init__" s_BadTextD_initD f_BadTextD_initD fd_BadTextD_initD
  bd_BadTextD_initD : Binds K fd_BadTextD_initD ["self", "line"] []
  k_BadTextD_initD : PySem.W.keepIn K (.ref f_BadTextD_initD) = true
  f_read_table : Addr
  fd_read_table : FuncData
  F_read_table : Fun K "read_table" "read_table" s_read_table f_read_table fd_read_table
  bd_read_table : Binds K fd_read_table ["text"] []
  k_read_table : PySem.W.keepIn K (.ref f_read_table) = true
  f_law_cell : Addr
  fd_law_cell : FuncData
  F_law_cell : Fun K "_law_cell" "_law_cell" s_law_cell f_law_cell fd_law_cell
  bd_law_cell : Binds K fd_law_cell ["script", "k"] []
  k_law_cell : PySem.W.keepIn K (.ref f_law_cell) = true
  f_law_pool : Addr
  fd_law_pool : FuncData
  F_law_pool : Fun K "_law_pool" "_law_pool" s_law_pool f_law_pool fd_law_pool
  bd_law_pool : Binds K fd_law_pool ["script", "k", "count"] []
  k_law_pool : PySem.W.keepIn K (.ref f_law_pool) = true
  f_law_word : Addr
  fd_law_word : FuncData
  F_law_word : Fun K "_law_word" "_law_word" s_law_word f_law_word fd_law_word
  bd_law_word : Binds K fd_law_word ["pool", "at"] []
  k_law_word : PySem.W.keepIn K (.ref f_law_word) = true
  f_law_new : Addr
  fd_law_new : FuncData
  F_law_new : Fun K "_law_new" "_law_new" s_law_new f_law_new fd_law_new
  bd_law_new : Binds K fd_law_new ["names", "word"] []
  k_law_new : PySem.W.keepIn K (.ref f_law_new) = true
  f_law_marks : Addr
  fd_law_marks : FuncData
  F_law_marks : Fun K "_law_marks" "_law_marks" s_law_marks f_law_marks fd_law_marks
  bd_law_marks : Binds K fd_law_marks ["columns", "pool", "at"] []
  k_law_marks : PySem.W.keepIn K (.ref f_law_marks) = true
  f_law_drawn : Addr
  fd_law_drawn : FuncData
  F_law_drawn : Fun K "_law_drawn" "_law_drawn" s_law_drawn f_law_drawn fd_law_drawn
  bd_law_drawn : Binds K fd_law_drawn ["script"] []
  k_law_drawn : PySem.W.keepIn K (.ref f_law_drawn) = true
  f_law_written : Addr
  fd_law_written : FuncData
  F_law_written : Fun K "_law_written" "_law_written" s_law_written f_law_written fd_law_written
  bd_law_written : Binds K fd_law_written ["columns", "rows"] []
  k_law_written : PySem.W.keepIn K (.ref f_law_written) = true
  f_law_sign : Addr
  fd_law_sign : FuncData
  F_law_sign : Fun K "_law_sign" "_law_sign" s_law_sign f_law_sign fd_law_sign
  bd_law_sign : Binds K fd_law_sign ["draw"] []
  k_law_sign : PySem.W.keepIn K (.ref f_law_sign) = true
  f_law_lines_edited : Addr
  fd_law_lines_edited : FuncData
  F_law_lines_edited : Fun K "_law_lines_edited" "_law_lines_edited" s_law_lines_edited f_law_lines_edited fd_law_lines_edited
  bd_law_lines_edited : Binds K fd_law_lines_edited ["lines", "way", "pool", "at"] []
  k_law_lines_edited : PySem.W.keepIn K (.ref f_law_lines_edited) = true
  f_law_edited : Addr
  fd_law_edited : FuncData
  F_law_edited : Fun K "_law_edited" "_law_edited" s_law_edited f_law_edited fd_law_edited
  bd_law_edited : Binds K fd_law_edited ["text", "pool", "at"] []
  k_law_edited : PySem.W.keepIn K (.ref f_law_edited) = true
  f_law_different : Addr
  fd_law_different : FuncData
  F_law_different : Fun K "_law_different" "_law_different" s_law_different f_law_different fd_law_different
  bd_law_different : Binds K fd_law_different ["words", "known"] []
  k_law_different : PySem.W.keepIn K (.ref f_law_different) = true
  f_law_described : Addr
  fd_law_described : FuncData
  F_law_described : Fun K "_law_described" "_law_described" s_law_described f_law_described fd_law_described
  bd_law_described : Binds K fd_law_described ["text"] []
  k_law_described : PySem.W.keepIn K (.ref f_law_described) = true
  f_law_is : Addr
  fd_law_is : FuncData
  F_law_is : Fun K "_law_is" "_law_is" s_law_is f_law_is fd_law_is
  bd_law_is : Binds K fd_law_is ["found", "columns", "rows"] []
  k_law_is : PySem.W.keepIn K (.ref f_law_is) = true
  f_law_answers : Addr
  fd_law_answers : FuncData
  F_law_answers : Fun K "_law_answers" "_law_answers" s_law_answers f_law_answers fd_law_answers
  bd_law_answers : Binds K fd_law_answers ["text"] []
  k_law_answers : PySem.W.keepIn K (.ref f_law_answers) = true
  f_law_reads : Addr
  fd_law_reads : FuncData
  F_law_reads : Fun K "_law_reads" "_law_reads" s_law_reads f_law_reads fd_law_reads
  bd_law_reads : Binds K fd_law_reads ["text", "columns", "rows"] []
  k_law_reads : PySem.W.keepIn K (.ref f_law_reads) = true
  f_law : Addr
  fd_law : FuncData
  F_law : Fun K "law" "law" s_law f_law fd_law
  bd_law : Binds K fd_law ["script"] []
  k_law : PySem.W.keepIn K (.ref f_law) = true
  C_Table : Addr
  C_BadTable : Addr
  C_BadText : Addr
  C_Impossible : Addr
  C_Unknown : Addr
  C_RowsError : Addr
  tok_LONGEST_NAME : Tok
  tok_LETTERS : Tok
  tok_Table_MOST_COLUMNS : Tok
  tok_Table_MOST_ROWS : Tok
  b_len : mg "len" = none
  b_LONGEST_NAME : mg "LONGEST_NAME" = some (.int 8 tok_LONGEST_NAME)
  b_LETTERS : mg "LETTERS" = some (.str "abcdefghijklmnopqrstuvwxyz" tok_LETTERS)
  b_all : mg "all" = none
  b_range : mg "range" = none
  g_is_name : mg "is_name" = some (.ref f_is_name)
  g_Table : mg "Table" = some (.ref C_Table)
  rd_Table : PySem.W.readsIn K C_Table (.type "type") = true
  sga_Table : PySem.W.specialIn K (.ref C_Table) "__getattribute__" = some (some (.builtin "type.__getattribute__"))
  cv_Table_MOST_COLUMNS : PySem.W.findCls K (.ref C_Table) (.type "type") "MOST_COLUMNS" = some (.val (.int 12 tok_Table_MOST_COLUMNS))
  g_BadTable : mg "BadTable" = some (.ref C_BadTable)
  bx_BadTable : PySem.W.subIn K (.ref C_BadTable) (.type "BaseException") = some true
  ty_BadTable : PySem.W.typeIn K (.ref C_BadTable) = some (.type "type")
  kc_BadTable : PySem.W.keepIn K (.ref C_BadTable) = true
  sa_BadTable : PySem.W.findIn K (.ref C_BadTable) "__setattr__" = some (some (.builtin "object.__setattr__"))
  a_BadTableD_initD : PySem.W.findIn K (.ref C_BadTable) "__init__" = some (some (.ref f_BadTableD_initD))
  tf_BadTableD_initD : PySem.W.typeIn K (.ref f_BadTableD_initD) = some (.type "function")
  na_BadTable_part : PySem.W.findIn K (.ref C_BadTable) "part" = some none
  na_BadTable_index : PySem.W.findIn K (.ref C_BadTable) "index" = some none
  g_first_misnamed : mg "first_misnamed" = some (.ref f_first_misnamed)
  cv_Table_MOST_ROWS : PySem.W.findCls K (.ref C_Table) (.type "type") "MOST_ROWS" = some (.val (.int 48 tok_Table_MOST_ROWS))
  g_is_row : mg "is_row" = some (.ref f_is_row)
  b_tuple : mg "tuple" = none
  pg_Table : PySem.W.plainGet K C_Table Str.empty = true
  hd_Table : PySem.W.hasDictIn K C_Table = true
  po_Table : PySem.W.plainOver K C_Table = true
  sa_Table : PySem.W.findIn K (.ref C_Table) "__setattr__" = some (some (.builtin "object.__setattr__"))
  na_Table_columns : PySem.W.findIn K (.ref C_Table) "columns" = some none
  g_common_names : mg "common_names" = some (.ref f_common_names)
  na_Table_rows : PySem.W.findIn K (.ref C_Table) "rows" = some none
  b_iter : mg "iter" = none
  b_isinstance : mg "isinstance" = none
  ic_Table : PySem.W.isClsIn K C_Table = true
  ty_Table : PySem.W.typeIn K (.ref C_Table) = some (.type "type")
  su_Table_NoneType : PySem.W.subIn K (.type "NoneType") (.ref C_Table) = some false
  su_Table_bool : PySem.W.subIn K (.type "bool") (.ref C_Table) = some false
  su_Table_int : PySem.W.subIn K (.type "int") (.ref C_Table) = some false
  su_Table_str : PySem.W.subIn K (.type "str") (.ref C_Table) = some false
  su_Table_list : PySem.W.subIn K (.type "list") (.ref C_Table) = some false
  su_Table_tuple : PySem.W.subIn K (.type "tuple") (.ref C_Table) = some false
  ha_Table : PySem.W.findIn K (.ref C_Table) "__class__" = some (some (.builtin "object.__class__"))
  hm_Table : PySem.W.mroIn K C_Table (.type "object") = some true
  hn_get : PySem.W.specialIn K (.builtin "object.__class__") "__get__" = some (some (.builtin "getset_descriptor.__get__"))
  ht_get : PySem.W.takesIn K (.builtin "object.__class__") = some true
  a_TableD_iterD : PySem.W.findIn K (.ref C_Table) "__iter__" = some (some (.ref f_TableD_iterD))
  i_TableD_iterD : PySem.W.isFn K (.ref f_TableD_iterD) = true
  g_BadText : mg "BadText" = some (.ref C_BadText)
  bx_BadText : PySem.W.subIn K (.ref C_BadText) (.type "BaseException") = some true
  ty_BadText : PySem.W.typeIn K (.ref C_BadText) = some (.type "type")
  kc_BadText : PySem.W.keepIn K (.ref C_BadText) = true
  sa_BadText : PySem.W.findIn K (.ref C_BadText) "__setattr__" = some (some (.builtin "object.__setattr__"))
  a_BadTextD_initD : PySem.W.findIn K (.ref C_BadText) "__init__" = some (some (.ref f_BadTextD_initD))
  tf_BadTextD_initD : PySem.W.typeIn K (.ref f_BadTextD_initD) = some (.type "function")
  na_BadText_line : PySem.W.findIn K (.ref C_BadText) "line" = some none
  mkc_Table : PySem.W.makesIn K C_Table = true
  kc_Table : PySem.W.keepIn K (.ref C_Table) = true
  a_TableD_initD : PySem.W.findIn K (.ref C_Table) "__init__" = some (some (.ref f_TableD_initD))
  i_TableD_initD : PySem.W.isFn K (.ref f_TableD_initD) = true
  g_law_cell : mg "_law_cell" = some (.ref f_law_cell)
  b_abs : mg "abs" = none
  b_int : mg "int" = none
  g_law_pool : mg "_law_pool" = some (.ref f_law_pool)
  g_law_word : mg "_law_word" = some (.ref f_law_word)
  g_law_new : mg "_law_new" = some (.ref f_law_new)
  g_law_marks : mg "_law_marks" = some (.ref f_law_marks)
  b_list : mg "list" = none
  g_law_lines_edited : mg "_law_lines_edited" = some (.ref f_law_lines_edited)
  g_law_sign : mg "_law_sign" = some (.ref f_law_sign)
  g_law_different : mg "_law_different" = some (.ref f_law_different)
  nf_Table : PySem.W.notFirst K C_Table (.ref C_Table) = true
  a_TableD_eqD : PySem.W.findIn K (.ref C_Table) "__eq__" = some (some (.ref f_TableD_eqD))
  i_TableD_eqD : PySem.W.isFn K (.ref f_TableD_eqD) = true
  g_law_described : mg "_law_described" = some (.ref f_law_described)
  g_read_table : mg "read_table" = some (.ref f_read_table)
  eg_BadText : PySem.W.findIn K (.ref C_BadText) "__getattribute__" = some (some (.builtin "BaseException.__getattribute__"))
  ek_BadText : PySem.W.findIn K (.ref C_BadText) "__getattr__" = some none
  hd_BadText : PySem.W.hasDictIn K C_BadText = true
  g_Impossible : mg "Impossible" = some (.ref C_Impossible)
  ha_BadText : PySem.W.findIn K (.ref C_BadText) "__class__" = some (some (.builtin "object.__class__"))
  hm_BadText : PySem.W.mroIn K C_BadText (.type "object") = some true
  ic_Impossible : PySem.W.isClsIn K C_Impossible = true
  ty_Impossible : PySem.W.typeIn K (.ref C_Impossible) = some (.type "type")
  su_Impossible_of_BadText : PySem.W.subIn K (.ref C_BadText) (.ref C_Impossible) = some false
  su_Impossible_of_Impossible : PySem.W.subIn K (.ref C_Impossible) (.ref C_Impossible) = some true
  g_Unknown : mg "Unknown" = some (.ref C_Unknown)
  ic_Unknown : PySem.W.isClsIn K C_Unknown = true
  ty_Unknown : PySem.W.typeIn K (.ref C_Unknown) = some (.type "type")
  su_Unknown_of_BadText : PySem.W.subIn K (.ref C_BadText) (.ref C_Unknown) = some false
  su_Unknown_of_Unknown : PySem.W.subIn K (.ref C_Unknown) (.ref C_Unknown) = some true
  b_ValueError : mg "ValueError" = none
  kt_BadText_ValueError : PySem.W.subIn K (.ref C_BadText) (.type "ValueError") = some true
  g_RowsError : mg "RowsError" = some (.ref C_RowsError)
  ic_RowsError : PySem.W.isClsIn K C_RowsError = true
  ty_RowsError : PySem.W.typeIn K (.ref C_RowsError) = some (.type "type")
  su_RowsError_of_BadText : PySem.W.subIn K (.ref C_BadText) (.ref C_RowsError) = some true
  su_BadText_of_BadText : PySem.W.subIn K (.ref C_BadText) (.ref C_BadText) = some true
  g_law_is : mg "_law_is" = some (.ref f_law_is)
  b_bool : mg "bool" = none
  g_law_drawn : mg "_law_drawn" = some (.ref f_law_drawn)
  g_law_written : mg "_law_written" = some (.ref f_law_written)
  g_table_text : mg "table_text" = some (.ref f_table_text)
  b_str : mg "str" = none
  g_law_reads : mg "_law_reads" = some (.ref f_law_reads)
  g_law_edited : mg "_law_edited" = some (.ref f_law_edited)
  g_law_answers : mg "_law_answers" = some (.ref f_law_answers)
  a_TableD_lenD : PySem.W.findIn K (.ref C_Table) "__len__" = some (some (.ref f_TableD_lenD))
  g_law : mg "law" = some (.ref f_law)
  oex_BadTable : OexC K C_BadTable
  oex_BadText : OexC K C_BadText
  tc_e_TableD_initD : ∀ (cn : Cn) F, Rep K cn F (.ref e_TableD_initD) (.tup [])
section
variable {P : Program} {w : World} {K : PySem.W.Frag} {mg : Str → Option Value} {base : Heap}
def cnT (T : Txt K mg) : Cn := ⟨fun c => match c with | 0 => T.C_Table | 1 => T.C_BadTable | 2 => T.C_BadText | 3 => T.C_Impossible | 4 => T.C_Unknown | 5 => T.C_RowsError | _ => T.C_Table, fun f => match f with | 0 => "part" | 1 => "index" | 2 => "columns" | 3 => "rows" | 4 => "line" | _ => "?", none⟩
theorem fa_inj_0 (T : Txt K mg) : ∀ g, (cnT T).fa g = (cnT T).fa 0 → g = 0
  | 0, _ => rfl
  | 1, h => absurd (show ("index" : Str) = "part" from h) (by decide)
  | 2, h => absurd (show ("columns" : Str) = "part" from h) (by decide)
  | 3, h => absurd (show ("rows" : Str) = "part" from h) (by decide)
  | 4, h => absurd (show ("line" : Str) = "part" from h) (by decide)
  | _ + 5, h => absurd (show ("?" : Str) = "part" from h) (by decide)
theorem fa_inj_1 (T : Txt K mg) : ∀ g, (cnT T).fa g = (cnT T).fa 1 → g = 1
  | 0, h => absurd (show ("part" : Str) = "index" from h) (by decide)
  | 1, _ => rfl
  | 2, h => absurd (show ("columns" : Str) = "index" from h) (by decide)
  | 3, h => absurd (show ("rows" : Str) = "index" from h) (by decide)
  | 4, h => absurd (show ("line" : Str) = "index" from h) (by decide)
  | _ + 5, h => absurd (show ("?" : Str) = "index" from h) (by decide)
theorem fa_inj_2 (T : Txt K mg) : ∀ g, (cnT T).fa g = (cnT T).fa 2 → g = 2
  | 0, h => absurd (show ("part" : Str) = "columns" from h) (by decide)
  | 1, h => absurd (show ("index" : Str) = "columns" from h) (by decide)
  | 2, _ => rfl
  | 3, h => absurd (show ("rows" : Str) = "columns" from h) (by decide)
  | 4, h => absurd (show ("line" : Str) = "columns" from h) (by decide)
  | _ + 5, h => absurd (show ("?" : Str) = "columns" from h) (by decide)
theorem fa_inj_3 (T : Txt K mg) : ∀ g, (cnT T).fa g = (cnT T).fa 3 → g = 3
  | 0, h => absurd (show ("part" : Str) = "rows" from h) (by decide)
  | 1, h => absurd (show ("index" : Str) = "rows" from h) (by decide)
  | 2, h => absurd (show ("columns" : Str) = "rows" from h) (by decide)
  | 3, _ => rfl
  | 4, h => absurd (show ("line" : Str) = "rows" from h) (by decide)
  | _ + 5, h => absurd (show ("?" : Str) = "rows" from h) (by decide)
theorem fa_inj_4 (T : Txt K mg) : ∀ g, (cnT T).fa g = (cnT T).fa 4 → g = 4
  | 0, h => absurd (show ("part" : Str) = "line" from h) (by decide)
  | 1, h => absurd (show ("index" : Str) = "line" from h) (by decide)
  | 2, h => absurd (show ("columns" : Str) = "line" from h) (by decide)
  | 3, h => absurd (show ("rows" : Str) = "line" from h) (by decide)
  | 4, _ => rfl
  | _ + 5, h => absurd (show ("?" : Str) = "line" from h) (by decide)
theorem fa_inj (T : Txt K mg) : ∀ f g, (cnT T).fa f = (cnT T).fa g → (cnT T).fa f ≠ "?" → f = g := fun f g => match g with
  | 0 => fun h _ => fa_inj_0 T f h
  | 1 => fun h _ => fa_inj_1 T f h
  | 2 => fun h _ => fa_inj_2 T f h
  | 3 => fun h _ => fa_inj_3 T f h
  | 4 => fun h _ => fa_inj_4 T f h
  | _ + 5 => fun h n => absurd h n
theorem ok_is_name (fu : Nat) (T : Txt K mg) : FnOk P w K mg base (L2.CX P w) 1 T.f_is_name T.fd_is_name ["text"] (spD K (cnT T) [true] (F_is_name fu)) :=
  okD (n := 1) T.F_is_name sc_is_name rfl rfl (fun _ => rfl) fun cdv A outer s H E hr =>
  have tk : Takes (cxOf (L2.CX P w) P w K mg base N_is_name "is_name" (defScope s_is_name) T.f_is_name cdv A outer s H E) (fun cls d _ H => E cls d H) := takes_of rfl rfl rfl rfl
  have hp : PassesOwn (model P w) (cxOf (L2.CX P w) P w K mg base N_is_name "is_name" (defScope s_is_name) T.f_is_name cdv A outer s H E).A (cxOf (L2.CX P w) P w K mg base N_is_name "is_name" (defScope s_is_name) T.f_is_name cdv A outer s H E).env (cxOf (L2.CX P w) P w K mg base N_is_name "is_name" (defScope s_is_name) T.f_is_name cdv A outer s H E).xe := passes_of rfl
  (jss_cons (js_if (jt_not (jt_chain op_le r_le bl_le op_le r_le (jq_e je_int) (jq_e (je_bi call_lenA r_len (by rfl) T.b_len (by decide +kernel) (ja_cons (jq_n 0) ja_nil))) (jq_e (je_c (t := tC (.int 8)) (pe_glob (v := .int 8) (by rfl) T.b_LONGEST_NAME ⟨_, rfl⟩) (fun _ => .int _)))))
    (jss_one (js_ret je_bl))
    jss_nil)
  (jss_one (js_ret (je_bi (cr_all rfl) r_all (by rfl) T.b_all (by decide +kernel) (ja_cons (jq_e (je_of_jn (jn_lc (own := [("letter", 1)]) rfl rfl sc_is_name.nd (ji_str (jq_n 0)) (blkOk_by (own := [("letter", 1)]) (N := N_is_name) (sc := defScope s_is_name) (by decide +kernel)) (fun _ _ _ _ _ => (jgc_n (i := 1) sc_is_name.nd rfl (by first | exact Or.inl rfl | exact Or.inr rfl) (by decide) (by first | exact .inl rfl | exact .inr rfl))) (fun _ _ _ _ _ => jts_nil) (fun _ _ _ _ _ => (je_cmp (op_inDD hr.units65) r_in (jq_n 1) (jq_e (je_c (t := tC (.str "abcdefghijklmnopqrstuvwxyz")) (pe_glob (v := .str "abcdefghijklmnopqrstuvwxyz") (by rfl) T.b_LETTERS ⟨_, rfl⟩) (fun _ => .str _))) (by rfl)))))) ja_nil)))))
theorem ok_first_misnamed (fu : Nat) (T : Txt K mg) : FnOk P w K mg base (L2.CX P w) 2 T.f_first_misnamed T.fd_first_misnamed ["columns"] (spD K (cnT T) [true] (F_first_misnamed fu)) :=
  okD (n := 1) T.F_first_misnamed sc_first_misnamed rfl rfl (fun _ => rfl) fun cdv A outer s H E hr =>
  have tk : Takes (cxOf (L2.CX P w) P w K mg base N_first_misnamed "first_misnamed" (defScope s_first_misnamed) T.f_first_misnamed cdv A outer s H E) (fun cls d _ H => E cls d H) := takes_of rfl rfl rfl rfl
  have hp : PassesOwn (model P w) (cxOf (L2.CX P w) P w K mg base N_first_misnamed "first_misnamed" (defScope s_first_misnamed) T.f_first_misnamed cdv A outer s H E).A (cxOf (L2.CX P w) P w K mg base N_first_misnamed "first_misnamed" (defScope s_first_misnamed) T.f_first_misnamed cdv A outer s H E).env (cxOf (L2.CX P w) P w K mg base N_first_misnamed "first_misnamed" (defScope s_first_misnamed) T.f_first_misnamed cdv A outer s H E).xe := passes_of rfl
  (jss_cons (js_for hp rfl (ji_rg1 (by rfl) T.b_range (jq_e (je_bi call_lenA r_len (by rfl) T.b_len (by decide +kernel) (ja_cons (jq_n 0) ja_nil)))) (jg_n 1 sc_first_misnamed.nd)
    (jss_one (js_if (jt_w (jw_or (jt_not (jt_e (je_call (ok_is_name fu T) (hr.mono (by decide)) (by rfl) T.g_is_name T.k_is_name T.bd_is_name tk (ja_cons (jq_e (je_ix (jq_n 0) (jq_n 1))) ja_nil)))) (jw_or1 (jt_cmp (op_inDD hr.units65) r_in (jq_e (je_ix (jq_n 0) (jq_n 1))) (jq_e (je_sl (jq_n 0) jp_none (jp_some (jq_n 1)))) (by rfl)))))
    (jss_one (js_ret (je_n 1)))
    jss_nil)))
  (jss_one (js_ret (je_un un_neg r_neg (jq_e je_int)))))
theorem ok_is_row (fu : Nat) (T : Txt K mg) : FnOk P w K mg base (L2.CX P w) 1 T.f_is_row T.fd_is_row ["columns", "row"] (spD K (cnT T) [true, true] (F_is_row fu)) :=
  okD (n := 1) T.F_is_row sc_is_row rfl rfl (fun _ => rfl) fun cdv A outer s H E hr =>
  have tk : Takes (cxOf (L2.CX P w) P w K mg base N_is_row "is_row" (defScope s_is_row) T.f_is_row cdv A outer s H E) (fun cls d _ H => E cls d H) := takes_of rfl rfl rfl rfl
  have hp : PassesOwn (model P w) (cxOf (L2.CX P w) P w K mg base N_is_row "is_row" (defScope s_is_row) T.f_is_row cdv A outer s H E).A (cxOf (L2.CX P w) P w K mg base N_is_row "is_row" (defScope s_is_row) T.f_is_row cdv A outer s H E).env (cxOf (L2.CX P w) P w K mg base N_is_row "is_row" (defScope s_is_row) T.f_is_row cdv A outer s H E).xe := passes_of rfl
  (jss_cons (js_for hp rfl (ji_rg1 (by rfl) T.b_range (jq_e (je_bi call_lenA r_len (by rfl) T.b_len (by decide +kernel) (ja_cons (jq_n 1) ja_nil)))) (jg_n 2 sc_is_row.nd)
    (jss_one (js_if (jt_w (jw_or (jt_cmp (op_ninDD hr.units65) r_nin (jq_e (je_ix (jq_n 1) (jq_n 2))) (jq_n 0) (by rfl)) (jw_or1 (jt_cmp (op_inDD hr.units65) r_in (jq_e (je_ix (jq_n 1) (jq_n 2))) (jq_e (je_sl (jq_n 1) jp_none (jp_some (jq_n 2)))) (by rfl)))))
    (jss_one (js_ret je_bl))
    jss_nil)))
  (jss_one (js_ret je_bl)))
theorem ok_common_names (fu : Nat) (T : Txt K mg) : FnOk P w K mg base (L2.CX P w) 1 T.f_common_names T.fd_common_names ["columns", "row"] (spD K (cnT T) [true, true] (F_common_names fu)) :=
  okD (n := 1) T.F_common_names sc_common_names rfl rfl (fun _ => rfl) fun cdv A outer s H E hr =>
  have tk : Takes (cxOf (L2.CX P w) P w K mg base N_common_names "common_names" (defScope s_common_names) T.f_common_names cdv A outer s H E) (fun cls d _ H => E cls d H) := takes_of rfl rfl rfl rfl
  have hp : PassesOwn (model P w) (cxOf (L2.CX P w) P w K mg base N_common_names "common_names" (defScope s_common_names) T.f_common_names cdv A outer s H E).A (cxOf (L2.CX P w) P w K mg base N_common_names "common_names" (defScope s_common_names) T.f_common_names cdv A outer s H E).env (cxOf (L2.CX P w) P w K mg base N_common_names "common_names" (defScope s_common_names) T.f_common_names cdv A outer s H E).xe := passes_of rfl
  (jss_one (js_retO (jn_lc (own := [("name", 2)]) rfl rfl sc_common_names.nd (ji_n 0) (blkOk_by (own := [("name", 2)]) (N := N_common_names) (sc := defScope s_common_names) (by decide +kernel)) (fun _ _ _ _ _ => (jgc_n (i := 2) sc_common_names.nd rfl (by first | exact Or.inl rfl | exact Or.inr rfl) (by decide) (by first | exact .inl rfl | exact .inr rfl))) (fun _ _ _ _ _ => (jts_one (jt_cmp (op_inDD hr.units65) r_in (jq_n 2) (jq_n 1) (by rfl)))) (fun _ _ _ _ _ => (je_n 2)))))
theorem okx_BadTableD_initD (T : Txt K mg) : FnOk P w K mg base CX0 1 T.f_BadTableD_initD T.fd_BadTableD_initD ["self", "part", "index"] (spXv T.C_BadTable ["part", "index"]) :=
  T.F_BadTableD_initD.ok sc_BadTableD_initD (fun vs H Q E h => by obtain ⟨a, ws, rfl, hl, _⟩ := h; simpa using hl) fun cdv A outer s H vs Q E hr h => by
    obtain ⟨a, ws, rfl, hl, ha, k⟩ := h
    match ws, hl with
    | [w1, w2], _ => exact ⟨_, (pss_cons (ps_ost (pe_var (i := 0) rfl (by first | exact Or.inl rfl | exact Or.inr (Or.inl rfl))) (pe_var (i := 1) rfl (by first | exact Or.inl rfl | exact Or.inr (Or.inl rfl)))) (pss_one (ps_ost (pe_var (i := 0) rfl (by first | exact Or.inl rfl | exact Or.inr (Or.inl rfl))) (pe_var (i := 2) rfl (by first | exact Or.inl rfl | exact Or.inr (Or.inl rfl)))))), ost2 T.oex_BadTable T.na_BadTable_part T.na_BadTable_index ha k⟩
theorem ok_TableD_initD (fu : Nat) (T : Txt K mg) : FnOk P w K mg base (L2.CX P w) 3 T.f_TableD_initD T.fd_TableD_initD ["self", "columns", "rows"] (spI K (cnT T) 0 [true, true] (F_TableD_initD fu)) :=
  okID (n := 3) (c := 0) T.F_TableD_initD sc_TableD_initD rfl rfl (fun _ => rfl) fun cdv A outer s H E hr =>
  have tk : Takes (cxOf (L2.CX P w) P w K mg base N_TableD_initD "Table.__init__" (defScope s_TableD_initD) T.f_TableD_initD cdv A outer s H E) (fun cls d _ H => E cls d H) := takes_of rfl rfl rfl rfl
  have hp : PassesOwn (model P w) (cxOf (L2.CX P w) P w K mg base N_TableD_initD "Table.__init__" (defScope s_TableD_initD) T.f_TableD_initD cdv A outer s H E).A (cxOf (L2.CX P w) P w K mg base N_TableD_initD "Table.__init__" (defScope s_TableD_initD) T.f_TableD_initD cdv A outer s H E).env (cxOf (L2.CX P w) P w K mg base N_TableD_initD "Table.__init__" (defScope s_TableD_initD) T.f_TableD_initD cdv A outer s H E).xe := passes_of rfl
  (jss_cons (js_if (jt_cmp op_gt r_gt (jq_e (je_bi call_lenA r_len (by rfl) T.b_len (by decide +kernel) (ja_cons (jq_n 1) ja_nil))) (jq_e (je_cval (v := .int 12) (by rfl) T.g_Table ⟨T.rd_Table, T.sga_Table⟩ ⟨T.cv_Table_MOST_COLUMNS, ⟨_, rfl⟩⟩ (fun _ => .int _))) (nomark _))
    (jss_one (js_raiseO (c := 1) (cs := [0, 1]) (fl := ["part", "index"]) rfl tk (fa_inj T) ⟨rfl, by decide, ⟨rfl, by decide, True.intro⟩⟩ (by decide) (by decide) T.oex_BadTable T.a_BadTableD_initD T.tf_BadTableD_initD (okx_BadTableD_initD T) (hr.mono (by decide)) T.bd_BadTableD_initD (by rfl) T.g_BadTable (jl_cons je_str (jl_cons je_int jl_nil)) (len_cons (len_cons len_nil))))
    jss_nil)
  (jss_cons (js_set (i := 3) sc_TableD_initD.nd rfl (by first | exact Or.inl rfl | exact Or.inr rfl) (je_call (ok_first_misnamed fu T) (hr.mono (by decide)) (by rfl) T.g_first_misnamed T.k_first_misnamed T.bd_first_misnamed tk (ja_cons (jq_n 1) ja_nil)))
  (jss_cons (js_if (jt_cmp op_ge r_ge (jq_n 3) (jq_e je_int) (nomark _))
    (jss_one (js_raiseO (c := 1) (cs := [0, 1]) (fl := ["part", "index"]) rfl tk (fa_inj T) ⟨rfl, by decide, ⟨rfl, by decide, True.intro⟩⟩ (by decide) (by decide) T.oex_BadTable T.a_BadTableD_initD T.tf_BadTableD_initD (okx_BadTableD_initD T) (hr.mono (by decide)) T.bd_BadTableD_initD (by rfl) T.g_BadTable (jl_cons je_str (jl_cons (je_n 3) jl_nil)) (len_cons (len_cons len_nil))))
    jss_nil)
  (jss_cons (js_if (jt_cmp op_gt r_gt (jq_e (je_bi call_lenA r_len (by rfl) T.b_len (by decide +kernel) (ja_cons (jq_n 2) ja_nil))) (jq_e (je_cval (v := .int 48) (by rfl) T.g_Table ⟨T.rd_Table, T.sga_Table⟩ ⟨T.cv_Table_MOST_ROWS, ⟨_, rfl⟩⟩ (fun _ => .int _))) (nomark _))
    (jss_one (js_raiseO (c := 1) (cs := [0, 1]) (fl := ["part", "index"]) rfl tk (fa_inj T) ⟨rfl, by decide, ⟨rfl, by decide, True.intro⟩⟩ (by decide) (by decide) T.oex_BadTable T.a_BadTableD_initD T.tf_BadTableD_initD (okx_BadTableD_initD T) (hr.mono (by decide)) T.bd_BadTableD_initD (by rfl) T.g_BadTable (jl_cons je_str (jl_cons je_int jl_nil)) (len_cons (len_cons len_nil))))
    jss_nil)
  (jss_cons (js_for hp rfl (ji_rg1 (by rfl) T.b_range (jq_e (je_bi call_lenA r_len (by rfl) T.b_len (by decide +kernel) (ja_cons (jq_n 2) ja_nil)))) (jg_n 4 sc_TableD_initD.nd)
    (jss_one (js_if (jt_not (jt_e (je_call (ok_is_row fu T) (hr.mono (by decide)) (by rfl) T.g_is_row T.k_is_row T.bd_is_row tk (ja_cons (jq_n 1) (ja_cons (jq_e (je_ix (jq_n 2) (jq_n 4))) ja_nil)))))
    (jss_one (js_raiseO (c := 1) (cs := [0, 1]) (fl := ["part", "index"]) rfl tk (fa_inj T) ⟨rfl, by decide, ⟨rfl, by decide, True.intro⟩⟩ (by decide) (by decide) T.oex_BadTable T.a_BadTableD_initD T.tf_BadTableD_initD (okx_BadTableD_initD T) (hr.mono (by decide)) T.bd_BadTableD_initD (by rfl) T.g_BadTable (jl_cons je_str (jl_cons (je_n 4) jl_nil)) (len_cons (len_cons len_nil))))
    jss_nil)))
  (jss_cons (js_fld (c := 0) (f := 2) (je_ty call_tuple_of r_tupleof (by rfl) T.b_tuple (by decide +kernel) (ja_cons (jq_n 1) ja_nil)) rfl (fa_inj_2 T) ⟨T.pg_Table, T.hd_Table, T.po_Table, T.sa_Table⟩ T.na_Table_columns)
  (jss_one (js_fld (c := 0) (f := 3) (je_ty call_tuple_of r_tupleof (by rfl) T.b_tuple (by decide +kernel) (ja_cons (jq_e (je_of_jn (jn_lc (own := [("row", 5)]) rfl rfl sc_TableD_initD.nd (ji_n 2) (blkOk_by (own := [("row", 5)]) (N := N_TableD_initD) (sc := defScope s_TableD_initD) (by decide +kernel)) (fun _ _ _ _ _ => (jgc_n (i := 5) sc_TableD_initD.nd rfl (by first | exact Or.inl rfl | exact Or.inr rfl) (by decide) (by first | exact .inl rfl | exact .inr rfl))) (fun _ _ _ _ _ => jts_nil) (fun _ _ _ _ _ => (je_ty call_tuple_of r_tupleof (by rfl) T.b_tuple (by decide +kernel) (ja_cons (jq_e (je_call (ok_common_names fu T) (hr.mono (by decide)) (by rfl) T.g_common_names T.k_common_names T.bd_common_names takesW (ja_cons (jq_n 1) (ja_cons (jq_n 5) ja_nil)))) ja_nil)))))) ja_nil)) rfl (fa_inj_3 T) ⟨T.pg_Table, T.hd_Table, T.po_Table, T.sa_Table⟩ T.na_Table_rows))))))))
theorem oki_TableD_iterD (T : Txt K mg) : FnIt P w K mg base 1 T.f_TableD_iterD T.fd_TableD_iterD T.C_Table "rows" :=
  T.F_TableD_iterD.itR sc_TableD_iterD ⟨T.pg_Table, T.hd_Table, T.po_Table, T.sa_Table⟩ T.na_Table_rows (fun cdv A outer s H E => pss_one (ps_ret (pe_callB call_iterT (by rfl) T.b_iter (by decide +kernel) (pa_cons (pe_fld (pe_var (i := 0) rfl (by first | exact Or.inl rfl | exact Or.inr (Or.inl rfl))) (by rfl)) pa_nil (by rfl)))))
theorem ok_TableD_lenD (fu : Nat) (T : Txt K mg) : FnOk P w K mg base (L2.CX P w) 1 T.f_TableD_lenD T.fd_TableD_lenD ["self"] (spD K (cnT T) [false] (F_TableD_lenD fu)) :=
  okD (n := 0) T.F_TableD_lenD sc_TableD_lenD rfl rfl (fun _ => rfl) fun cdv A outer s H E hr =>
  have tk : Takes (cxOf (L2.CX P w) P w K mg base N_TableD_lenD "Table.__len__" (defScope s_TableD_lenD) T.f_TableD_lenD cdv A outer s H E) (fun cls d _ H => E cls d H) := takes_of rfl rfl rfl rfl
  have hp : PassesOwn (model P w) (cxOf (L2.CX P w) P w K mg base N_TableD_lenD "Table.__len__" (defScope s_TableD_lenD) T.f_TableD_lenD cdv A outer s H E).A (cxOf (L2.CX P w) P w K mg base N_TableD_lenD "Table.__len__" (defScope s_TableD_lenD) T.f_TableD_lenD cdv A outer s H E).env (cxOf (L2.CX P w) P w K mg base N_TableD_lenD "Table.__len__" (defScope s_TableD_lenD) T.f_TableD_lenD cdv A outer s H E).xe := passes_of rfl
  (jss_one (js_ret (je_bi call_lenA r_len (by rfl) T.b_len (by decide +kernel) (ja_cons (jq_e (je_fld (c := 0) (f := 3) (je_n 0) rfl (fa_inj_3 T) ⟨T.pg_Table, T.hd_Table, T.po_Table, T.sa_Table⟩ T.na_Table_rows)) ja_nil))))
theorem ok_TableD_eqD (fu : Nat) (T : Txt K mg) : FnOk P w K mg base (L2.CX P w) 1 T.f_TableD_eqD T.fd_TableD_eqD ["self", "other"] (spD K (cnT T) [false, false] (F_TableD_eqD fu)) :=
  okD (n := 0) T.F_TableD_eqD sc_TableD_eqD rfl rfl (fun _ => rfl) fun cdv A outer s H E hr =>
  have tk : Takes (cxOf (L2.CX P w) P w K mg base N_TableD_eqD "Table.__eq__" (defScope s_TableD_eqD) T.f_TableD_eqD cdv A outer s H E) (fun cls d _ H => E cls d H) := takes_of rfl rfl rfl rfl
  have hp : PassesOwn (model P w) (cxOf (L2.CX P w) P w K mg base N_TableD_eqD "Table.__eq__" (defScope s_TableD_eqD) T.f_TableD_eqD cdv A outer s H E).A (cxOf (L2.CX P w) P w K mg base N_TableD_eqD "Table.__eq__" (defScope s_TableD_eqD) T.f_TableD_eqD cdv A outer s H E).env (cxOf (L2.CX P w) P w K mg base N_TableD_eqD "Table.__eq__" (defScope s_TableD_eqD) T.f_TableD_eqD cdv A outer s H E).xe := passes_of rfl
  (jss_one (js_ret (je_and (je_isi (by rfl) T.b_isinstance (jq_n 1) (jc_own (by rfl) T.g_Table) (ty_own ⟨kit_other T.ic_Table T.ty_Table T.su_Table_NoneType, kit_other T.ic_Table T.ty_Table T.su_Table_bool, kit_other T.ic_Table T.ty_Table T.su_Table_int, kit_other T.ic_Table T.ty_Table T.su_Table_str, kit_other T.ic_Table T.ty_Table T.su_Table_list, kit_other T.ic_Table T.ty_Table T.su_Table_tuple⟩ (tab_cons ⟨(kit_self _ _), ⟨T.pg_Table, T.hd_Table, T.po_Table, T.sa_Table⟩, T.ha_Table, T.hm_Table⟩ tab_nil) T.hn_get T.ht_get)) (je_and (je_cmp (op_eqDD hr.units) r_eq (jq_e (je_fld (c := 0) (f := 2) (je_n 0) rfl (fa_inj_2 T) ⟨T.pg_Table, T.hd_Table, T.po_Table, T.sa_Table⟩ T.na_Table_columns)) (jq_e (je_fld (c := 0) (f := 2) (je_n 1) rfl (fa_inj_2 T) ⟨T.pg_Table, T.hd_Table, T.po_Table, T.sa_Table⟩ T.na_Table_columns)) (nomark _)) (je_one (je_cmp (op_eqDD hr.units) r_eq (jq_e (je_fld (c := 0) (f := 3) (je_n 0) rfl (fa_inj_3 T) ⟨T.pg_Table, T.hd_Table, T.po_Table, T.sa_Table⟩ T.na_Table_rows)) (jq_e (je_fld (c := 0) (f := 3) (je_n 1) rfl (fa_inj_3 T) ⟨T.pg_Table, T.hd_Table, T.po_Table, T.sa_Table⟩ T.na_Table_rows)) (nomark _)))))))
theorem ok_table_text (fu : Nat) (T : Txt K mg) : FnOk P w K mg base (L2.CX P w) 2 T.f_table_text T.fd_table_text ["table"] (spD K (cnT T) [true] (F_table_text fu)) :=
  okD (n := 2) T.F_table_text sc_table_text rfl rfl (fun _ => rfl) fun cdv A outer s H E hr =>
  have tk : Takes (cxOf (L2.CX P w) P w K mg base N_table_text "table_text" (defScope s_table_text) T.f_table_text cdv A outer s H E) (fun cls d _ H => E cls d H) := takes_of rfl rfl rfl rfl
  have hp : PassesOwn (model P w) (cxOf (L2.CX P w) P w K mg base N_table_text "table_text" (defScope s_table_text) T.f_table_text cdv A outer s H E).A (cxOf (L2.CX P w) P w K mg base N_table_text "table_text" (defScope s_table_text) T.f_table_text cdv A outer s H E).env (cxOf (L2.CX P w) P w K mg base N_table_text "table_text" (defScope s_table_text) T.f_table_text cdv A outer s H E).xe := passes_of rfl
  (jss_cons (js_own (i := 1) sc_table_text.nd rfl (by first | exact Or.inl rfl | exact Or.inr rfl) (jn_lst (jl_cons (je_bm PySem.F.plainAttrs_str PySem.F.slot_str_join PySem.F.type_str_join mt_join rm_join (jq_e je_str) (ja_cons (jq_e (je_of_jn (jn_lst (jl_cons je_str (jl_star (je_fld (c := 0) (f := 2) (je_n 0) rfl (fa_inj_2 T) ⟨T.pg_Table, T.hd_Table, T.po_Table, T.sa_Table⟩ T.na_Table_columns) jl_nil))))) ja_nil)) jl_nil)))
  (jss_cons (js_for hp rfl (ji_own (c := 0) (f := 3) ⟨T.a_TableD_iterD, T.i_TableD_iterD, T.k_TableD_iterD⟩ (oki_TableD_iterD T) (hr.mono (by decide)) T.bd_TableD_iterD tk (fa_inj_3 T) (je_n 0)) (jg_n 2 sc_table_text.nd)
    (jss_one (js_app 1 (je_bm PySem.F.plainAttrs_str PySem.F.slot_str_join PySem.F.type_str_join mt_join rm_join (jq_e je_str) (ja_cons (jq_e (je_of_jn (jn_lst (jl_cons je_str (jl_star (je_n 2) jl_nil))))) ja_nil)) (pe := fun t h => pe_bm PySem.F.plainAttrs_list PySem.F.slot_list_append PySem.F.type_list_append mt_append (pe_var (i := 1) rfl (by first | exact Or.inl rfl | exact Or.inr (Or.inl rfl) | exact Or.inr (Or.inr rfl))) (pa_cons h pa_nil)))))
  (jss_one (js_ret (je_bm PySem.F.plainAttrs_str PySem.F.slot_str_join PySem.F.type_str_join mt_join rm_join (jq_e je_str) (ja_cons (jq_n 1) ja_nil))))))
theorem okx_BadTextD_initD (T : Txt K mg) : FnOk P w K mg base CX0 1 T.f_BadTextD_initD T.fd_BadTextD_initD ["self", "line"] (spXv T.C_BadText ["line"]) :=
  T.F_BadTextD_initD.ok sc_BadTextD_initD (fun vs H Q E h => by obtain ⟨a, ws, rfl, hl, _⟩ := h; simpa using hl) fun cdv A outer s H vs Q E hr h => by
    obtain ⟨a, ws, rfl, hl, ha, k⟩ := h
    match ws, hl with
    | [w1], _ => exact ⟨_, (pss_one (ps_ost (pe_var (i := 0) rfl (by first | exact Or.inl rfl | exact Or.inr (Or.inl rfl))) (pe_var (i := 1) rfl (by first | exact Or.inl rfl | exact Or.inr (Or.inl rfl))))), ost1 T.oex_BadText T.na_BadText_line ha k⟩
theorem ok_read_table (fu : Nat) (T : Txt K mg) : FnOk P w K mg base (L2.CX P w) 5 T.f_read_table T.fd_read_table ["text"] (spD K (cnT T) [true] (F_read_table fu)) :=
  okD (n := 6) T.F_read_table sc_read_table rfl rfl (fun _ => rfl) fun cdv A outer s H E hr =>
  have tk : Takes (cxOf (L2.CX P w) P w K mg base N_read_table "read_table" (defScope s_read_table) T.f_read_table cdv A outer s H E) (fun cls d _ H => E cls d H) := takes_of rfl rfl rfl rfl
  have hp : PassesOwn (model P w) (cxOf (L2.CX P w) P w K mg base N_read_table "read_table" (defScope s_read_table) T.f_read_table cdv A outer s H E).A (cxOf (L2.CX P w) P w K mg base N_read_table "read_table" (defScope s_read_table) T.f_read_table cdv A outer s H E).env (cxOf (L2.CX P w) P w K mg base N_read_table "read_table" (defScope s_read_table) T.f_read_table cdv A outer s H E).xe := passes_of rfl
  (jss_cons (js_set (i := 1) sc_read_table.nd rfl (by first | exact Or.inl rfl | exact Or.inr rfl) (je_of_jn (jn_bm PySem.F.plainAttrs_str PySem.F.slot_str_split PySem.F.type_str_split mt_split rm_split split_lst (jq_n 0) (ja_cons (jq_e je_str) ja_nil))))
  (jss_cons (js_set (i := 2) sc_read_table.nd rfl (by first | exact Or.inl rfl | exact Or.inr rfl) (je_of_jn (jn_bm PySem.F.plainAttrs_str PySem.F.slot_str_split PySem.F.type_str_split mt_split rm_split split_lst (jq_e (je_ix (jq_n 1) (jq_e je_int))) (ja_cons (jq_e je_str) ja_nil))))
  (jss_cons (js_set (i := 3) sc_read_table.nd rfl (by first | exact Or.inl rfl | exact Or.inr rfl) (je_sl (jq_n 2) (jp_some (jq_e je_int)) jp_none))
  (jss_cons (js_if (jt_w (jw_or (jt_cmp (op_neDD hr.units) r_ne (jq_e (je_ix (jq_n 2) (jq_e je_int))) (jq_e je_str) (nomark _)) (jw_or (jt_cmp op_gt r_gt (jq_e (je_bi call_lenA r_len (by rfl) T.b_len (by decide +kernel) (ja_cons (jq_n 3) ja_nil))) (jq_e (je_cval (v := .int 12) (by rfl) T.g_Table ⟨T.rd_Table, T.sga_Table⟩ ⟨T.cv_Table_MOST_COLUMNS, ⟨_, rfl⟩⟩ (fun _ => .int _))) (nomark _)) (jw_or1 (jt_cmp op_ge r_ge (jq_e (je_call (ok_first_misnamed fu T) (hr.mono (by decide)) (by rfl) T.g_first_misnamed T.k_first_misnamed T.bd_first_misnamed tk (ja_cons (jq_n 3) ja_nil))) (jq_e je_int) (nomark _))))))
    (jss_one (js_raiseO (c := 2) (cs := [4]) (fl := ["line"]) rfl tk (fa_inj T) ⟨rfl, by decide, True.intro⟩ (by decide) (by decide) T.oex_BadText T.a_BadTextD_initD T.tf_BadTextD_initD (okx_BadTextD_initD T) (hr.mono (by decide)) T.bd_BadTextD_initD (by rfl) T.g_BadText (jl_cons je_int jl_nil) (len_cons len_nil)))
    jss_nil)
  (jss_cons (js_own (i := 4) sc_read_table.nd rfl (by first | exact Or.inl rfl | exact Or.inr rfl) (jn_lst jl_nil))
  (jss_cons (js_for hp rfl (ji_rg2 (by rfl) T.b_range (jq_e je_int) (jq_e (je_bi call_lenA r_len (by rfl) T.b_len (by decide +kernel) (ja_cons (jq_n 1) ja_nil)))) (jg_n 5 sc_read_table.nd)
    (jss_cons (js_set (i := 2) sc_read_table.nd rfl (by first | exact Or.inl rfl | exact Or.inr rfl) (je_of_jn (jn_bm PySem.F.plainAttrs_str PySem.F.slot_str_split PySem.F.type_str_split mt_split rm_split split_lst (jq_e (je_ix (jq_n 1) (jq_n 5))) (ja_cons (jq_e je_str) ja_nil))))
  (jss_cons (js_set (i := 6) sc_read_table.nd rfl (by first | exact Or.inl rfl | exact Or.inr rfl) (je_sl (jq_n 2) (jp_some (jq_e je_int)) jp_none))
  (jss_cons (js_if (jt_w (jw_or (jt_cmp (op_neDD hr.units) r_ne (jq_e (je_ix (jq_n 2) (jq_e je_int))) (jq_e je_str) (nomark _)) (jw_or (jt_cmp (op_eqDD hr.units) r_eq (jq_e (je_bi call_lenA r_len (by rfl) T.b_len (by decide +kernel) (ja_cons (jq_n 4) ja_nil))) (jq_e (je_cval (v := .int 48) (by rfl) T.g_Table ⟨T.rd_Table, T.sga_Table⟩ ⟨T.cv_Table_MOST_ROWS, ⟨_, rfl⟩⟩ (fun _ => .int _))) (nomark _)) (jw_or1 (jt_not (jt_e (je_call (ok_is_row fu T) (hr.mono (by decide)) (by rfl) T.g_is_row T.k_is_row T.bd_is_row tk (ja_cons (jq_n 3) (ja_cons (jq_n 6) ja_nil)))))))))
    (jss_one (js_raiseO (c := 2) (cs := [4]) (fl := ["line"]) rfl tk (fa_inj T) ⟨rfl, by decide, True.intro⟩ (by decide) (by decide) T.oex_BadText T.a_BadTextD_initD T.tf_BadTextD_initD (okx_BadTextD_initD T) (hr.mono (by decide)) T.bd_BadTextD_initD (by rfl) T.g_BadText (jl_cons (je_n 5) jl_nil) (len_cons len_nil)))
    jss_nil)
  (jss_one (js_app 4 (je_n 6) (pe := fun t h => pe_bm PySem.F.plainAttrs_list PySem.F.slot_list_append PySem.F.type_list_append mt_append (pe_var (i := 4) rfl (by first | exact Or.inl rfl | exact Or.inr (Or.inl rfl) | exact Or.inr (Or.inr rfl))) (pa_cons h pa_nil))))))))
  (jss_one (js_ret (je_make (c := 0) ⟨T.mkc_Table, T.a_TableD_initD, T.i_TableD_initD, T.kc_Table⟩ (ok_TableD_initD fu T) (hr.mono (by decide)) (by rfl) T.g_Table T.bd_TableD_initD tk (ja_cons (jq_n 3) (ja_cons (jq_n 4) ja_nil)))))))))))
theorem ok_law_cell (fu : Nat) (T : Txt K mg) : FnOk P w K mg base (L2.CX P w) 1 T.f_law_cell T.fd_law_cell ["script", "k"] (spD K (cnT T) [true, true] (F_law_cell fu)) :=
  okD (n := 0) T.F_law_cell sc_law_cell rfl rfl (fun _ => rfl) fun cdv A outer s H E hr =>
  have tk : Takes (cxOf (L2.CX P w) P w K mg base N_law_cell "_law_cell" (defScope s_law_cell) T.f_law_cell cdv A outer s H E) (fun cls d _ H => E cls d H) := takes_of rfl rfl rfl rfl
  have hp : PassesOwn (model P w) (cxOf (L2.CX P w) P w K mg base N_law_cell "_law_cell" (defScope s_law_cell) T.f_law_cell cdv A outer s H E).A (cxOf (L2.CX P w) P w K mg base N_law_cell "_law_cell" (defScope s_law_cell) T.f_law_cell cdv A outer s H E).env (cxOf (L2.CX P w) P w K mg base N_law_cell "_law_cell" (defScope s_law_cell) T.f_law_cell cdv A outer s H E).xe := passes_of rfl
  (jss_cons (js_if (jt_cmp op_lt r_lt (jq_n 1) (jq_e (je_bi call_lenA r_len (by rfl) T.b_len (by decide +kernel) (ja_cons (jq_n 0) ja_nil))) (nomark _))
    (jss_one (js_ret (je_ix (jq_n 0) (jq_n 1))))
    jss_nil)
  (jss_one (js_ret je_int)))
theorem ok_law_pool (fu : Nat) (T : Txt K mg) : FnOk P w K mg base (L2.CX P w) 2 T.f_law_pool T.fd_law_pool ["script", "k", "count"] (spD K (cnT T) [true, true, true] (F_law_pool fu)) :=
  okD (n := 6) T.F_law_pool sc_law_pool rfl rfl (fun _ => rfl) fun cdv A outer s H E hr =>
  have tk : Takes (cxOf (L2.CX P w) P w K mg base N_law_pool "_law_pool" (defScope s_law_pool) T.f_law_pool cdv A outer s H E) (fun cls d _ H => E cls d H) := takes_of rfl rfl rfl rfl
  have hp : PassesOwn (model P w) (cxOf (L2.CX P w) P w K mg base N_law_pool "_law_pool" (defScope s_law_pool) T.f_law_pool cdv A outer s H E).A (cxOf (L2.CX P w) P w K mg base N_law_pool "_law_pool" (defScope s_law_pool) T.f_law_pool cdv A outer s H E).env (cxOf (L2.CX P w) P w K mg base N_law_pool "_law_pool" (defScope s_law_pool) T.f_law_pool cdv A outer s H E).xe := passes_of rfl
  (jss_cons (js_set (i := 3) sc_law_pool.nd rfl (by first | exact Or.inl rfl | exact Or.inr rfl) (je_bi call_abs r_abs (by rfl) T.b_abs (by decide +kernel) (ja_cons (jq_e (je_call (ok_law_cell fu T) (hr.mono (by decide)) (by rfl) T.g_law_cell T.k_law_cell T.bd_law_cell tk (ja_cons (jq_n 0) (ja_cons (jq_n 1) ja_nil)))) ja_nil)))
  (jss_cons (js_own (i := 4) sc_law_pool.nd rfl (by first | exact Or.inl rfl | exact Or.inr rfl) (jn_lst jl_nil))
  (jss_cons (js_if (jt_cmp op_ge r_ge (jq_n 3) (jq_e (je_op op_pow r_pow (jq_e je_int) (jq_e je_int))) (nomark _))
    (jss_cons (js_set (i := 3) sc_law_pool.nd rfl (by first | exact Or.inl rfl | exact Or.inr rfl) (je_op op_sub r_sub (jq_n 3) (jq_e (je_op op_pow r_pow (jq_e je_int) (jq_e je_int)))))
  (jss_cons (js_for hp rfl (ji_rg1 (by rfl) T.b_range (jq_n 2)) (jg_n 5 sc_law_pool.nd)
    (jss_cons (js_app 4 (je_op op_modN r_mod (jq_e (je_ty call_int1 r_int (by rfl) T.b_int (by decide +kernel) (ja_cons (jq_n 3) ja_nil))) (jq_e je_int)) (pe := fun t h => pe_bm PySem.F.plainAttrs_list PySem.F.slot_list_append PySem.F.type_list_append mt_append (pe_var (i := 4) rfl (by first | exact Or.inl rfl | exact Or.inr (Or.inl rfl) | exact Or.inr (Or.inr rfl))) (pa_cons h pa_nil)))
  (jss_one (js_set (i := 3) sc_law_pool.nd rfl (by first | exact Or.inl rfl | exact Or.inr rfl) (je_op op_divD r_div (jq_n 3) (jq_e je_int))))))
  (jss_one (js_retX 4))))
    jss_nil)
  (jss_cons (js_for hp rfl (ji_rg1 (by rfl) T.b_range (jq_n 2)) (jg_n 5 sc_law_pool.nd)
    (jss_cons (js_set (i := 6) sc_law_pool.nd rfl (by first | exact Or.inl rfl | exact Or.inr rfl) (je_op op_modN r_mod (jq_e (je_ty call_int1 r_int (by rfl) T.b_int (by decide +kernel) (ja_cons (jq_e (je_op op_addD r_add (jq_e (je_op op_addD r_add (jq_e (je_op op_addD r_add (jq_e (je_op op_mulD r_mul (jq_n 3) (jq_e je_int))) (jq_e (je_op op_mulD r_mul (jq_e (je_op op_addD r_add (jq_n 5) (jq_e je_int))) (jq_e je_int))))) (jq_e (je_op op_mulD r_mul (jq_n 1) (jq_e je_int))))) (jq_e je_int))) ja_nil))) (jq_e je_int)))
  (jss_cons (js_set (i := 7) sc_law_pool.nd rfl (by first | exact Or.inl rfl | exact Or.inr rfl) (je_op op_modN r_mod (jq_e (je_ty call_int1 r_int (by rfl) T.b_int (by decide +kernel) (ja_cons (jq_e (je_op op_addD r_add (jq_e (je_op op_addD r_add (jq_e (je_op op_mulD r_mul (jq_n 6) (jq_n 6))) (jq_e (je_op op_mulD r_mul (jq_n 3) (jq_e je_int))))) (jq_n 5))) ja_nil))) (jq_e je_int)))
  (jss_cons (js_set (i := 8) sc_law_pool.nd rfl (by first | exact Or.inl rfl | exact Or.inr rfl) (je_op op_modN r_mod (jq_e (je_ty call_int1 r_int (by rfl) T.b_int (by decide +kernel) (ja_cons (jq_e (je_op op_addD r_add (jq_e (je_op op_mulD r_mul (jq_n 7) (jq_n 7))) (jq_n 6))) ja_nil))) (jq_e je_int)))
  (jss_one (js_app 4 (je_op op_modN r_mod (jq_e (je_ty call_int1 r_int (by rfl) T.b_int (by decide +kernel) (ja_cons (jq_e (je_op op_divD r_div (jq_n 8) (jq_e je_int))) ja_nil))) (jq_e je_int)) (pe := fun t h => pe_bm PySem.F.plainAttrs_list PySem.F.slot_list_append PySem.F.type_list_append mt_append (pe_var (i := 4) rfl (by first | exact Or.inl rfl | exact Or.inr (Or.inl rfl) | exact Or.inr (Or.inr rfl))) (pa_cons h pa_nil))))))))
  (jss_one (js_retX 4))))))
theorem ok_law_word (fu : Nat) (T : Txt K mg) : FnOk P w K mg base (L2.CX P w) 1 T.f_law_word T.fd_law_word ["pool", "at"] (spD K (cnT T) [true, true] (F_law_word fu)) :=
  okD (n := 4) T.F_law_word sc_law_word rfl rfl (fun _ => rfl) fun cdv A outer s H E hr =>
  have tk : Takes (cxOf (L2.CX P w) P w K mg base N_law_word "_law_word" (defScope s_law_word) T.f_law_word cdv A outer s H E) (fun cls d _ H => E cls d H) := takes_of rfl rfl rfl rfl
  have hp : PassesOwn (model P w) (cxOf (L2.CX P w) P w K mg base N_law_word "_law_word" (defScope s_law_word) T.f_law_word cdv A outer s H E).A (cxOf (L2.CX P w) P w K mg base N_law_word "_law_word" (defScope s_law_word) T.f_law_word cdv A outer s H E).env (cxOf (L2.CX P w) P w K mg base N_law_word "_law_word" (defScope s_law_word) T.f_law_word cdv A outer s H E).xe := passes_of rfl
  (jss_cons (js_set (i := 2) sc_law_word.nd rfl (by first | exact Or.inl rfl | exact Or.inr rfl) (je_op op_addD r_add (jq_e (je_op op_mulD r_mul (jq_e (je_op op_addD r_add (jq_e (je_op op_mulD r_mul (jq_e (je_ix (jq_n 0) (jq_n 1))) (jq_e je_int))) (jq_e (je_ix (jq_n 0) (jq_e (je_op op_addD r_add (jq_n 1) (jq_e je_int))))))) (jq_e je_int))) (jq_e (je_ix (jq_n 0) (jq_e (je_op op_addD r_add (jq_n 1) (jq_e je_int)))))))
  (jss_cons (js_set (i := 3) sc_law_word.nd rfl (by first | exact Or.inl rfl | exact Or.inr rfl) (je_op op_addD r_add (jq_e je_int) (jq_e (je_op op_modN r_mod (jq_e (je_ty call_int1 r_int (by rfl) T.b_int (by decide +kernel) (ja_cons (jq_n 2) ja_nil))) (jq_e je_int)))))
  (jss_cons (js_set (i := 2) sc_law_word.nd rfl (by first | exact Or.inl rfl | exact Or.inr rfl) (je_op op_divD r_div (jq_n 2) (jq_e je_int)))
  (jss_cons (js_set (i := 4) sc_law_word.nd rfl (by first | exact Or.inl rfl | exact Or.inr rfl) je_str)
  (jss_cons (js_for hp rfl (ji_rg1 (by rfl) T.b_range (jq_n 3)) (jg_n 5 sc_law_word.nd)
    (jss_cons (js_set (i := 4) sc_law_word.nd rfl (by first | exact Or.inl rfl | exact Or.inr rfl) (je_op op_addD r_add (jq_n 4) (jq_e (je_ix (jq_e je_str) (jq_e (je_op op_modN r_mod (jq_e (je_ty call_int1 r_int (by rfl) T.b_int (by decide +kernel) (ja_cons (jq_n 2) ja_nil))) (jq_e je_int)))))))
  (jss_one (js_set (i := 2) sc_law_word.nd rfl (by first | exact Or.inl rfl | exact Or.inr rfl) (je_op op_divD r_div (jq_n 2) (jq_e je_int))))))
  (jss_one (js_ret (je_n 4))))))))
theorem ok_law_new (fu : Nat) (T : Txt K mg) : FnOk P w K mg base (L2.CX P w) 1 T.f_law_new T.fd_law_new ["names", "word"] (spD K (cnT T) [true, false] (F_law_new fu)) :=
  okD (n := 2) T.F_law_new sc_law_new rfl rfl (fun _ => rfl) fun cdv A outer s H E hr =>
  have tk : Takes (cxOf (L2.CX P w) P w K mg base N_law_new "_law_new" (defScope s_law_new) T.f_law_new cdv A outer s H E) (fun cls d _ H => E cls d H) := takes_of rfl rfl rfl rfl
  have hp : PassesOwn (model P w) (cxOf (L2.CX P w) P w K mg base N_law_new "_law_new" (defScope s_law_new) T.f_law_new cdv A outer s H E).A (cxOf (L2.CX P w) P w K mg base N_law_new "_law_new" (defScope s_law_new) T.f_law_new cdv A outer s H E).env (cxOf (L2.CX P w) P w K mg base N_law_new "_law_new" (defScope s_law_new) T.f_law_new cdv A outer s H E).xe := passes_of rfl
  (jss_cons (js_set (i := 2) sc_law_new.nd rfl (by first | exact Or.inl rfl | exact Or.inr rfl) je_str)
  (jss_cons (js_for hp rfl (ji_rg1 (by rfl) T.b_range (jq_e je_int)) (jg_n 3 sc_law_new.nd)
    (jss_cons (js_if (jt_cmp (op_ninDD hr.units65) r_nin (jq_n 1) (jq_n 0) (by rfl))
    (jss_one js_brk)
    jss_nil)
  (jss_one (js_set (i := 1) sc_law_new.nd rfl (by first | exact Or.inl rfl | exact Or.inr rfl) (je_op op_addD r_add (jq_e (je_sl (jq_n 1) jp_none (jp_some (jq_e (je_un un_neg r_neg (jq_e je_int)))))) (jq_e (je_ix (jq_n 2) (jq_e (je_op op_modN r_mod (jq_e (je_ty call_int1 r_int (by rfl) T.b_int (by decide +kernel) (ja_cons (jq_e (je_op op_addD r_add (jq_e (je_bm PySem.F.plainAttrs_str PySem.F.slot_str_index PySem.F.type_str_index mt_sindex rm_sindex (jq_n 2) (ja_cons (jq_e (je_ix (jq_n 1) (jq_e (je_un un_neg r_neg (jq_e je_int))))) ja_nil))) (jq_e je_int))) ja_nil))) (jq_e je_int))))))))))
  (jss_one (js_ret (je_n 1)))))
theorem ok_law_marks (fu : Nat) (T : Txt K mg) : FnOk P w K mg base (L2.CX P w) 1 T.f_law_marks T.fd_law_marks ["columns", "pool", "at"] (spD K (cnT T) [true, true, true] (F_law_marks fu)) :=
  okD (n := 7) T.F_law_marks sc_law_marks rfl rfl (fun _ => rfl) fun cdv A outer s H E hr =>
  have tk : Takes (cxOf (L2.CX P w) P w K mg base N_law_marks "_law_marks" (defScope s_law_marks) T.f_law_marks cdv A outer s H E) (fun cls d _ H => E cls d H) := takes_of rfl rfl rfl rfl
  have hp : PassesOwn (model P w) (cxOf (L2.CX P w) P w K mg base N_law_marks "_law_marks" (defScope s_law_marks) T.f_law_marks cdv A outer s H E).A (cxOf (L2.CX P w) P w K mg base N_law_marks "_law_marks" (defScope s_law_marks) T.f_law_marks cdv A outer s H E).env (cxOf (L2.CX P w) P w K mg base N_law_marks "_law_marks" (defScope s_law_marks) T.f_law_marks cdv A outer s H E).xe := passes_of rfl
  (jss_cons (js_own (i := 3) sc_law_marks.nd rfl (by first | exact Or.inl rfl | exact Or.inr rfl) (jn_lst jl_nil))
  (jss_cons (js_set (i := 4) sc_law_marks.nd rfl (by first | exact Or.inl rfl | exact Or.inr rfl) (je_ty call_int1 r_int (by rfl) T.b_int (by decide +kernel) (ja_cons (jq_e (je_ix (jq_n 1) (jq_n 2))) ja_nil)))
  (jss_cons (js_for hp rfl (ji_n 0) (jg_n 5 sc_law_marks.nd)
    (jss_cons (js_if (jt_cmp (op_eqDD hr.units) r_eq (jq_e (je_op op_modN r_mod (jq_e (je_ty call_int1 r_int (by rfl) T.b_int (by decide +kernel) (ja_cons (jq_n 4) ja_nil))) (jq_e je_int))) (jq_e je_int) (nomark _))
    (jss_one (js_app 3 (je_n 5) (pe := fun t h => pe_bm PySem.F.plainAttrs_list PySem.F.slot_list_append PySem.F.type_list_append mt_append (pe_var (i := 3) rfl (by first | exact Or.inl rfl | exact Or.inr (Or.inl rfl) | exact Or.inr (Or.inr rfl))) (pa_cons h pa_nil))))
    jss_nil)
  (jss_one (js_set (i := 4) sc_law_marks.nd rfl (by first | exact Or.inl rfl | exact Or.inr rfl) (je_op op_divD r_div (jq_n 4) (jq_e je_int))))))
  (jss_cons (js_set (i := 6) sc_law_marks.nd rfl (by first | exact Or.inl rfl | exact Or.inr rfl) (je_op op_addD r_add (jq_e (je_op op_mulD r_mul (jq_e (je_ix (jq_n 1) (jq_e (je_op op_addD r_add (jq_n 2) (jq_e je_int))))) (jq_e je_int))) (jq_e (je_ix (jq_n 1) (jq_e (je_op op_addD r_add (jq_n 2) (jq_e je_int)))))))
  (jss_cons (js_own (i := 7) sc_law_marks.nd rfl (by first | exact Or.inl rfl | exact Or.inr rfl) (jn_lst jl_nil))
  (jss_cons (js_for hp rfl (ji_rg1 (by rfl) T.b_range (jq_e (je_bi call_lenA r_len (by rfl) T.b_len (by decide +kernel) (ja_cons (jq_n 3) ja_nil)))) (jg_n 8 sc_law_marks.nd)
    (jss_cons (js_set (i := 9) sc_law_marks.nd rfl (by first | exact Or.inl rfl | exact Or.inr rfl) (je_op op_modN r_mod (jq_e (je_ty call_int1 r_int (by rfl) T.b_int (by decide +kernel) (ja_cons (jq_n 6) ja_nil))) (jq_e (je_bi call_lenA r_len (by rfl) T.b_len (by decide +kernel) (ja_cons (jq_n 3) ja_nil)))))
  (jss_cons (js_set (i := 6) sc_law_marks.nd rfl (by first | exact Or.inl rfl | exact Or.inr rfl) (je_op op_divD r_div (jq_n 6) (jq_e (je_bi call_lenA r_len (by rfl) T.b_len (by decide +kernel) (ja_cons (jq_n 3) ja_nil)))))
  (jss_cons (js_app 7 (je_ix (jq_n 3) (jq_n 9)) (pe := fun t h => pe_bm PySem.F.plainAttrs_list PySem.F.slot_list_append PySem.F.type_list_append mt_append (pe_var (i := 7) rfl (by first | exact Or.inl rfl | exact Or.inr (Or.inl rfl) | exact Or.inr (Or.inr rfl))) (pa_cons h pa_nil)))
  (jss_one (js_own (i := 3) sc_law_marks.nd rfl (by first | exact Or.inl rfl | exact Or.inr rfl) (jn_op op_cat r_cat cat_l (jq_e (je_sl (jq_n 3) jp_none (jp_some (jq_n 9)))) (jq_e (je_sl (jq_n 3) (jp_some (jq_e (je_op op_addD r_add (jq_n 9) (jq_e je_int)))) jp_none)))))))))
  (jss_one (js_retX 7))))))))
theorem ok_law_drawn (fu : Nat) (T : Txt K mg) : FnOk P w K mg base (L2.CX P w) 3 T.f_law_drawn T.fd_law_drawn ["script"] (spD K (cnT T) [true] (F_law_drawn fu)) :=
  okD (n := 9) T.F_law_drawn sc_law_drawn rfl rfl (fun _ => rfl) fun cdv A outer s H E hr =>
  have tk : Takes (cxOf (L2.CX P w) P w K mg base N_law_drawn "_law_drawn" (defScope s_law_drawn) T.f_law_drawn cdv A outer s H E) (fun cls d _ H => E cls d H) := takes_of rfl rfl rfl rfl
  have hp : PassesOwn (model P w) (cxOf (L2.CX P w) P w K mg base N_law_drawn "_law_drawn" (defScope s_law_drawn) T.f_law_drawn cdv A outer s H E).A (cxOf (L2.CX P w) P w K mg base N_law_drawn "_law_drawn" (defScope s_law_drawn) T.f_law_drawn cdv A outer s H E).env (cxOf (L2.CX P w) P w K mg base N_law_drawn "_law_drawn" (defScope s_law_drawn) T.f_law_drawn cdv A outer s H E).xe := passes_of rfl
  (jss_cons (js_set (i := 1) sc_law_drawn.nd rfl (by first | exact Or.inl rfl | exact Or.inr rfl) (je_call (ok_law_pool fu T) (hr.mono (by decide)) (by rfl) T.g_law_pool T.k_law_pool T.bd_law_pool tk (ja_cons (jq_n 0) (ja_cons (jq_e je_int) (ja_cons (jq_e je_int) ja_nil)))))
  (jss_cons (js_set (i := 2) sc_law_drawn.nd rfl (by first | exact Or.inl rfl | exact Or.inr rfl) (je_call (ok_law_pool fu T) (hr.mono (by decide)) (by rfl) T.g_law_pool T.k_law_pool T.bd_law_pool tk (ja_cons (jq_n 0) (ja_cons (jq_e je_int) (ja_cons (jq_e je_int) ja_nil)))))
  (jss_cons (js_set (i := 3) sc_law_drawn.nd rfl (by first | exact Or.inl rfl | exact Or.inr rfl) (je_ix (jq_e (je_of_jn (jn_lst (jl_cons je_int (jl_cons je_int (jl_cons je_int (jl_cons je_int (jl_cons je_int (jl_cons je_int (jl_cons je_int (jl_cons je_int (jl_cons je_int (jl_cons je_int (jl_cons je_int (jl_cons je_int (jl_cons je_int jl_nil)))))))))))))))) (jq_e (je_op op_modN r_mod (jq_e (je_ty call_int1 r_int (by rfl) T.b_int (by decide +kernel) (ja_cons (jq_e (je_ix (jq_n 1) (jq_e je_int))) ja_nil))) (jq_e je_int)))))
  (jss_cons (js_own (i := 4) sc_law_drawn.nd rfl (by first | exact Or.inl rfl | exact Or.inr rfl) (jn_lst jl_nil))
  (jss_cons (js_for hp rfl (ji_rg1 (by rfl) T.b_range (jq_n 3)) (jg_n 5 sc_law_drawn.nd)
    (jss_one (js_app 4 (je_call (ok_law_new fu T) (hr.mono (by decide)) (by rfl) T.g_law_new T.k_law_new T.bd_law_new tk (ja_cons (jq_n 4) (ja_cons (jq_e (je_call (ok_law_word fu T) (hr.mono (by decide)) (by rfl) T.g_law_word T.k_law_word T.bd_law_word tk (ja_cons (jq_n 1) (ja_cons (jq_e (je_op op_addD r_add (jq_e je_int) (jq_e (je_op op_mulD r_mul (jq_e je_int) (jq_n 5))))) ja_nil)))) ja_nil))) (pe := fun t h => pe_bm PySem.F.plainAttrs_list PySem.F.slot_list_append PySem.F.type_list_append mt_append (pe_var (i := 4) rfl (by first | exact Or.inl rfl | exact Or.inr (Or.inl rfl) | exact Or.inr (Or.inr rfl))) (pa_cons h pa_nil)))))
  (jss_cons (js_set (i := 6) sc_law_drawn.nd rfl (by first | exact Or.inl rfl | exact Or.inr rfl) (je_ix (jq_e (je_of_jn (jn_lst (jl_cons je_str (jl_cons je_str jl_nil))))) (jq_e (je_op op_modN r_mod (jq_e (je_ty call_int1 r_int (by rfl) T.b_int (by decide +kernel) (ja_cons (jq_e (je_ix (jq_n 1) (jq_e je_int))) ja_nil))) (jq_e je_int)))))
  (jss_cons (js_if (jt_w (jw_and (jt_cmp op_gt r_gt (jq_n 3) (jq_e je_int) (nomark _)) (jw_and (jt_cmp (op_eqDD hr.units) r_eq (jq_e (je_op op_modN r_mod (jq_e (je_ty call_int1 r_int (by rfl) T.b_int (by decide +kernel) (ja_cons (jq_e (je_ix (jq_n 1) (jq_e je_int))) ja_nil))) (jq_e je_int))) (jq_e je_int) (nomark _)) (jw_and1 (jt_cmp (op_ninDD hr.units65) r_nin (jq_n 6) (jq_n 4) (by rfl))))))
    (jss_one (js_puti 4 (je_n 6) (jq_e (je_op op_modN r_mod (jq_e (je_ty call_int1 r_int (by rfl) T.b_int (by decide +kernel) (ja_cons (jq_e (je_ix (jq_n 1) (jq_e je_int))) ja_nil))) (jq_n 3)))))
    jss_nil)
  (jss_cons (js_setLc (i := 7) (own := [("i", 8)]) rfl rfl sc_law_drawn.nd rfl rfl (sw_true rfl rfl rfl (by decide +kernel)) (ji_rg1 (by rfl) T.b_range (jq_e (je_op op_modN r_mod (jq_e (je_ty call_int1 r_int (by rfl) T.b_int (by decide +kernel) (ja_cons (jq_e (je_ix (jq_n 1) (jq_e je_int))) ja_nil))) (jq_e je_int)))) (blkOk_by (own := [("i", 8)]) (N := N_law_drawn) (sc := defScope s_law_drawn) (by decide +kernel)) (fun _ _ _ _ _ => (jgc_n (i := 8) sc_law_drawn.nd rfl (by first | exact Or.inl rfl | exact Or.inr rfl) (by decide) (by first | exact .inl rfl | exact .inr rfl))) (fun _ _ _ _ _ => jts_nil) (fun _ _ _ _ _ => (je_call (ok_law_marks fu T) (hr.mono (by decide)) (by rfl) T.g_law_marks T.k_law_marks T.bd_law_marks takesW (ja_cons (jq_n 4) (ja_cons (jq_n 2) (ja_cons (jq_e (je_op op_mulD r_mul (jq_e je_int) (jq_n 8))) ja_nil))))))
  (jss_cons (js_if (jt_cmp (op_eqDD hr.units) r_eq (jq_e (je_op op_modN r_mod (jq_e (je_ty call_int1 r_int (by rfl) T.b_int (by decide +kernel) (ja_cons (jq_e (je_ix (jq_n 1) (jq_e je_int))) ja_nil))) (jq_e je_int))) (jq_e je_int) (nomark _))
    (jss_cons (js_set (i := 9) sc_law_drawn.nd rfl (by first | exact Or.inl rfl | exact Or.inr rfl) (je_op op_addD r_add (jq_n 7) (jq_e (je_of_jn (jn_lst (jl_cons (je_sl (jq_n 4) jp_none (jp_some (jq_e je_int))) jl_nil))))))
  (jss_one (js_setLc (i := 7) (own := [("k", 5)]) rfl rfl sc_law_drawn.nd rfl rfl (sw_true rfl rfl rfl (by decide +kernel)) (ji_rg1 (by rfl) T.b_range (jq_e (je_op op_addD r_add (jq_e je_int) (jq_e (je_op op_modN r_mod (jq_e (je_ty call_int1 r_int (by rfl) T.b_int (by decide +kernel) (ja_cons (jq_e (je_ix (jq_n 1) (jq_e je_int))) ja_nil))) (jq_e je_int)))))) (blkOk_by (own := [("k", 5)]) (N := N_law_drawn) (sc := defScope s_law_drawn) (by decide +kernel)) (fun _ _ _ _ _ => (jgc_n (i := 5) sc_law_drawn.nd rfl (by first | exact Or.inl rfl | exact Or.inr rfl) (by decide) (by first | exact .inl rfl | exact .inr rfl))) (fun _ _ _ _ _ => jts_nil) (fun _ _ _ _ _ => (je_of_jn (jn_ty call_list_of r_listof (by rfl) T.b_list (by decide +kernel) (ja_cons (jq_e (je_ix (jq_n 9) (jq_e (je_op op_modN r_mod (jq_e (je_ty call_int1 r_int (by rfl) T.b_int (by decide +kernel) (ja_cons (jq_n 5) ja_nil))) (jq_e (je_bi call_lenA r_len (by rfl) T.b_len (by decide +kernel) (ja_cons (jq_n 9) ja_nil))))))) ja_nil)))))))
    jss_nil)
  (jss_one (js_retO (jn_lst (jl_cons (je_n 4) (jl_cons (je_n 7) jl_nil))))))))))))))
theorem ok_law_written (fu : Nat) (T : Txt K mg) : FnOk P w K mg base (L2.CX P w) 1 T.f_law_written T.fd_law_written ["columns", "rows"] (spD K (cnT T) [true, true] (F_law_written fu)) :=
  okD (n := 2) T.F_law_written sc_law_written rfl rfl (fun _ => rfl) fun cdv A outer s H E hr =>
  have tk : Takes (cxOf (L2.CX P w) P w K mg base N_law_written "_law_written" (defScope s_law_written) T.f_law_written cdv A outer s H E) (fun cls d _ H => E cls d H) := takes_of rfl rfl rfl rfl
  have hp : PassesOwn (model P w) (cxOf (L2.CX P w) P w K mg base N_law_written "_law_written" (defScope s_law_written) T.f_law_written cdv A outer s H E).A (cxOf (L2.CX P w) P w K mg base N_law_written "_law_written" (defScope s_law_written) T.f_law_written cdv A outer s H E).env (cxOf (L2.CX P w) P w K mg base N_law_written "_law_written" (defScope s_law_written) T.f_law_written cdv A outer s H E).xe := passes_of rfl
  (jss_cons (js_own (i := 2) sc_law_written.nd rfl (by first | exact Or.inl rfl | exact Or.inr rfl) (jn_lst (jl_cons (je_bm PySem.F.plainAttrs_str PySem.F.slot_str_join PySem.F.type_str_join mt_join rm_join (jq_e je_str) (ja_cons (jq_e (je_op op_addD r_add (jq_e (je_of_jn (jn_lst (jl_cons je_str jl_nil)))) (jq_n 0))) ja_nil)) jl_nil)))
  (jss_cons (js_for hp rfl (ji_n 1) (jg_n 3 sc_law_written.nd)
    (jss_one (js_app 2 (je_bm PySem.F.plainAttrs_str PySem.F.slot_str_join PySem.F.type_str_join mt_join rm_join (jq_e je_str) (ja_cons (jq_e (je_op op_addD r_add (jq_e (je_of_jn (jn_lst (jl_cons je_str jl_nil)))) (jq_n 3))) ja_nil)) (pe := fun t h => pe_bm PySem.F.plainAttrs_list PySem.F.slot_list_append PySem.F.type_list_append mt_append (pe_var (i := 2) rfl (by first | exact Or.inl rfl | exact Or.inr (Or.inl rfl) | exact Or.inr (Or.inr rfl))) (pa_cons h pa_nil)))))
  (jss_one (js_ret (je_bm PySem.F.plainAttrs_str PySem.F.slot_str_join PySem.F.type_str_join mt_join rm_join (jq_e je_str) (ja_cons (jq_n 2) ja_nil))))))
theorem ok_law_sign (fu : Nat) (T : Txt K mg) : FnOk P w K mg base (L2.CX P w) 1 T.f_law_sign T.fd_law_sign ["draw"] (spD K (cnT T) [true] (F_law_sign fu)) :=
  okD (n := 1) T.F_law_sign sc_law_sign rfl rfl (fun _ => rfl) fun cdv A outer s H E hr =>
  have tk : Takes (cxOf (L2.CX P w) P w K mg base N_law_sign "_law_sign" (defScope s_law_sign) T.f_law_sign cdv A outer s H E) (fun cls d _ H => E cls d H) := takes_of rfl rfl rfl rfl
  have hp : PassesOwn (model P w) (cxOf (L2.CX P w) P w K mg base N_law_sign "_law_sign" (defScope s_law_sign) T.f_law_sign cdv A outer s H E).A (cxOf (L2.CX P w) P w K mg base N_law_sign "_law_sign" (defScope s_law_sign) T.f_law_sign cdv A outer s H E).env (cxOf (L2.CX P w) P w K mg base N_law_sign "_law_sign" (defScope s_law_sign) T.f_law_sign cdv A outer s H E).xe := passes_of rfl
  (jss_cons (js_set (i := 1) sc_law_sign.nd rfl (by first | exact Or.inl rfl | exact Or.inr rfl) je_str)
  (jss_cons (js_if (jt_cmp (op_eqDD hr.units) r_eq (jq_e (je_op op_modN r_mod (jq_e (je_ty call_int1 r_int (by rfl) T.b_int (by decide +kernel) (ja_cons (jq_n 0) ja_nil))) (jq_e je_int))) (jq_e je_int) (nomark _))
    (jss_one (js_ret je_str))
    jss_nil)
  (jss_cons (js_if (jt_cmp (op_eqDD hr.units) r_eq (jq_e (je_op op_modN r_mod (jq_e (je_ty call_int1 r_int (by rfl) T.b_int (by decide +kernel) (ja_cons (jq_n 0) ja_nil))) (jq_e je_int))) (jq_e je_int) (nomark _))
    (jss_one (js_ret je_str))
    jss_nil)
  (jss_one (js_ret (je_ix (jq_n 1) (jq_e (je_op op_modN r_mod (jq_e (je_ty call_int1 r_int (by rfl) T.b_int (by decide +kernel) (ja_cons (jq_e (je_op op_divD r_div (jq_n 0) (jq_e je_int))) ja_nil))) (jq_e (je_bi call_lenA r_len (by rfl) T.b_len (by decide +kernel) (ja_cons (jq_n 1) ja_nil)))))))))))
theorem ok_law_lines_edited (fu : Nat) (T : Txt K mg) : FnOk P w K mg base (L2.CX P w) 2 T.f_law_lines_edited T.fd_law_lines_edited ["lines", "way", "pool", "at"] (spD K (cnT T) [true, true, true, true] (F_law_lines_edited fu)) :=
  okD (n := 6) T.F_law_lines_edited sc_law_lines_edited rfl rfl (fun _ => rfl) fun cdv A outer s H E hr =>
  have tk : Takes (cxOf (L2.CX P w) P w K mg base N_law_lines_edited "_law_lines_edited" (defScope s_law_lines_edited) T.f_law_lines_edited cdv A outer s H E) (fun cls d _ H => E cls d H) := takes_of rfl rfl rfl rfl
  have hp : PassesOwn (model P w) (cxOf (L2.CX P w) P w K mg base N_law_lines_edited "_law_lines_edited" (defScope s_law_lines_edited) T.f_law_lines_edited cdv A outer s H E).A (cxOf (L2.CX P w) P w K mg base N_law_lines_edited "_law_lines_edited" (defScope s_law_lines_edited) T.f_law_lines_edited cdv A outer s H E).env (cxOf (L2.CX P w) P w K mg base N_law_lines_edited "_law_lines_edited" (defScope s_law_lines_edited) T.f_law_lines_edited cdv A outer s H E).xe := passes_of rfl
  (jss_cons (js_set (i := 4) sc_law_lines_edited.nd rfl (by first | exact Or.inl rfl | exact Or.inr rfl) (je_op op_modN r_mod (jq_e (je_ty call_int1 r_int (by rfl) T.b_int (by decide +kernel) (ja_cons (jq_e (je_ix (jq_n 2) (jq_e (je_op op_addD r_add (jq_n 3) (jq_e je_int))))) ja_nil))) (jq_e (je_bi call_lenA r_len (by rfl) T.b_len (by decide +kernel) (ja_cons (jq_n 0) ja_nil)))))
  (jss_cons (js_set (i := 5) sc_law_lines_edited.nd rfl (by first | exact Or.inl rfl | exact Or.inr rfl) (je_op op_modN r_mod (jq_e (je_ty call_int1 r_int (by rfl) T.b_int (by decide +kernel) (ja_cons (jq_e (je_ix (jq_n 2) (jq_e (je_op op_addD r_add (jq_n 3) (jq_e je_int))))) ja_nil))) (jq_e (je_bi call_lenA r_len (by rfl) T.b_len (by decide +kernel) (ja_cons (jq_n 0) ja_nil)))))
  (jss_cons (js_own (i := 6) sc_law_lines_edited.nd rfl (by first | exact Or.inl rfl | exact Or.inr rfl) (jn_bm PySem.F.plainAttrs_str PySem.F.slot_str_split PySem.F.type_str_split mt_split rm_split split_lst (jq_e (je_ix (jq_n 0) (jq_n 4))) (ja_cons (jq_e je_str) ja_nil)))
  (jss_cons (js_if (jt_cmp (op_eqDD hr.units) r_eq (jq_n 1) (jq_e je_int) (nomark _))
    (jss_cons (js_set (i := 7) sc_law_lines_edited.nd rfl (by first | exact Or.inl rfl | exact Or.inr rfl) (je_op op_modN r_mod (jq_e (je_ty call_int1 r_int (by rfl) T.b_int (by decide +kernel) (ja_cons (jq_e (je_ix (jq_n 2) (jq_e (je_op op_addD r_add (jq_n 3) (jq_e je_int))))) ja_nil))) (jq_e (je_op op_addD r_add (jq_e (je_bi call_lenA r_len (by rfl) T.b_len (by decide +kernel) (ja_cons (jq_n 6) ja_nil))) (jq_e je_int)))))
  (jss_cons (js_ins 6 (je_n 7) (je_ix (jq_n 6) (jq_e (je_op op_modN r_mod (jq_e (je_ty call_int1 r_int (by rfl) T.b_int (by decide +kernel) (ja_cons (jq_e (je_ix (jq_n 2) (jq_e (je_op op_addD r_add (jq_n 3) (jq_e je_int))))) ja_nil))) (jq_e (je_bi call_lenA r_len (by rfl) T.b_len (by decide +kernel) (ja_cons (jq_n 6) ja_nil)))))) (pe := fun t1 t2 h1 h2 => pe_bm PySem.F.plainAttrs_list PySem.F.slot_list_insert PySem.F.type_list_insert mt_insert (pe_var (i := 6) rfl (by first | exact Or.inl rfl | exact Or.inr (Or.inl rfl) | exact Or.inr (Or.inr rfl))) (pa_cons h1 (pa_cons h2 pa_nil))))
  (jss_one (js_ret (je_op op_addD r_add (jq_e (je_op op_addD r_add (jq_e (je_sl (jq_n 0) jp_none (jp_some (jq_n 4)))) (jq_e (je_of_jn (jn_lst (jl_cons (je_bm PySem.F.plainAttrs_str PySem.F.slot_str_join PySem.F.type_str_join mt_join rm_join (jq_e je_str) (ja_cons (jq_n 6) ja_nil)) jl_nil)))))) (jq_e (je_sl (jq_n 0) (jp_some (jq_e (je_op op_addD r_add (jq_n 4) (jq_e je_int)))) jp_none)))))))
    jss_nil)
  (jss_cons (js_if (jt_cmp (op_eqDD hr.units) r_eq (jq_n 1) (jq_e je_int) (nomark _))
    (jss_cons (js_set (i := 7) sc_law_lines_edited.nd rfl (by first | exact Or.inl rfl | exact Or.inr rfl) (je_op op_modN r_mod (jq_e (je_ty call_int1 r_int (by rfl) T.b_int (by decide +kernel) (ja_cons (jq_e (je_ix (jq_n 2) (jq_e (je_op op_addD r_add (jq_n 3) (jq_e je_int))))) ja_nil))) (jq_e (je_op op_addD r_add (jq_e (je_bi call_lenA r_len (by rfl) T.b_len (by decide +kernel) (ja_cons (jq_n 0) ja_nil))) (jq_e je_int)))))
  (jss_one (js_ret (je_op op_addD r_add (jq_e (je_op op_addD r_add (jq_e (je_sl (jq_n 0) jp_none (jp_some (jq_n 7)))) (jq_e (je_of_jn (jn_lst (jl_cons (je_ix (jq_n 0) (jq_n 4)) jl_nil)))))) (jq_e (je_sl (jq_n 0) (jp_some (jq_n 7)) jp_none))))))
    jss_nil)
  (jss_cons (js_if (jt_cmp (op_eqDD hr.units) r_eq (jq_n 1) (jq_e je_int) (nomark _))
    (jss_one (js_ret (je_op op_addD r_add (jq_e (je_sl (jq_n 0) jp_none (jp_some (jq_n 4)))) (jq_e (je_sl (jq_n 0) (jp_some (jq_e (je_op op_addD r_add (jq_n 4) (jq_e je_int)))) jp_none)))))
    jss_nil)
  (jss_cons (js_if (jt_cmp (op_eqDD hr.units) r_eq (jq_n 1) (jq_e je_int) (nomark _))
    (jss_cons (js_own (i := 8) sc_law_lines_edited.nd rfl (by first | exact Or.inl rfl | exact Or.inr rfl) (jn_ty call_list_of r_listof (by rfl) T.b_list (by decide +kernel) (ja_cons (jq_n 0) ja_nil)))
  (jss_cons (js_puti 8 (je_ix (jq_n 0) (jq_n 5)) (jq_n 4))
  (jss_cons (js_puti 8 (je_ix (jq_n 0) (jq_n 4)) (jq_n 5))
  (jss_one (js_retX 8)))))
    jss_nil)
  (jss_cons (js_if (jt_cmp (op_eqDD hr.units) r_eq (jq_n 1) (jq_e je_int) (nomark _))
    (jss_one (js_ret (je_op op_addD r_add (jq_n 0) (jq_e (je_of_jn (jn_lc (own := [("turn", 9)]) rfl rfl sc_law_lines_edited.nd (ji_rg1 (by rfl) T.b_range (jq_e (je_op op_sub r_sub (jq_e (je_op op_addD r_add (jq_e je_int) (jq_e (je_op op_modN r_mod (jq_e (je_ty call_int1 r_int (by rfl) T.b_int (by decide +kernel) (ja_cons (jq_e (je_ix (jq_n 2) (jq_e (je_op op_addD r_add (jq_n 3) (jq_e je_int))))) ja_nil))) (jq_e je_int))))) (jq_e (je_bi call_lenA r_len (by rfl) T.b_len (by decide +kernel) (ja_cons (jq_n 0) ja_nil)))))) (blkOk_by (own := [("turn", 9)]) (N := N_law_lines_edited) (sc := defScope s_law_lines_edited) (by decide +kernel)) (fun _ _ _ _ _ => (jgc_n (i := 9) sc_law_lines_edited.nd rfl (by first | exact Or.inl rfl | exact Or.inr rfl) (by decide) (by first | exact .inl rfl | exact .inr rfl))) (fun _ _ _ _ _ => jts_nil) (fun _ _ _ _ _ => (je_ix (jq_n 0) (jq_e (je_un un_neg r_neg (jq_e je_int)))))))))))
    jss_nil)
  (jss_cons (js_own (i := 6) sc_law_lines_edited.nd rfl (by first | exact Or.inl rfl | exact Or.inr rfl) (jn_bm PySem.F.plainAttrs_str PySem.F.slot_str_split PySem.F.type_str_split mt_split rm_split split_lst (jq_e (je_ix (jq_n 0) (jq_e je_int))) (ja_cons (jq_e je_str) ja_nil)))
  (jss_cons (js_for hp rfl (ji_rg1 (by rfl) T.b_range (jq_e je_int)) (jg_n 9 sc_law_lines_edited.nd)
    (jss_one (js_if (jt_cmp op_lt r_lt (jq_e (je_bi call_lenA r_len (by rfl) T.b_len (by decide +kernel) (ja_cons (jq_n 6) ja_nil))) (jq_e (je_op op_addD r_add (jq_e je_int) (jq_e (je_op op_modN r_mod (jq_e (je_ty call_int1 r_int (by rfl) T.b_int (by decide +kernel) (ja_cons (jq_e (je_ix (jq_n 2) (jq_e (je_op op_addD r_add (jq_n 3) (jq_e je_int))))) ja_nil))) (jq_e je_int))))) (nomark _))
    (jss_one (js_app 6 (je_call (ok_law_new fu T) (hr.mono (by decide)) (by rfl) T.g_law_new T.k_law_new T.bd_law_new tk (ja_cons (jq_n 6) (ja_cons (jq_e je_str) ja_nil))) (pe := fun t h => pe_bm PySem.F.plainAttrs_list PySem.F.slot_list_append PySem.F.type_list_append mt_append (pe_var (i := 6) rfl (by first | exact Or.inl rfl | exact Or.inr (Or.inl rfl) | exact Or.inr (Or.inr rfl))) (pa_cons h pa_nil))))
    jss_nil)))
  (jss_one (js_ret (je_op op_addD r_add (jq_e (je_of_jn (jn_lst (jl_cons (je_bm PySem.F.plainAttrs_str PySem.F.slot_str_join PySem.F.type_str_join mt_join rm_join (jq_e je_str) (ja_cons (jq_n 6) ja_nil)) jl_nil)))) (jq_e (je_sl (jq_n 0) (jp_some (jq_e je_int)) jp_none)))))))))))))))
theorem ok_law_edited (fu : Nat) (T : Txt K mg) : FnOk P w K mg base (L2.CX P w) 3 T.f_law_edited T.fd_law_edited ["text", "pool", "at"] (spD K (cnT T) [true, true, true] (F_law_edited fu)) :=
  okD (n := 2) T.F_law_edited sc_law_edited rfl rfl (fun _ => rfl) fun cdv A outer s H E hr =>
  have tk : Takes (cxOf (L2.CX P w) P w K mg base N_law_edited "_law_edited" (defScope s_law_edited) T.f_law_edited cdv A outer s H E) (fun cls d _ H => E cls d H) := takes_of rfl rfl rfl rfl
  have hp : PassesOwn (model P w) (cxOf (L2.CX P w) P w K mg base N_law_edited "_law_edited" (defScope s_law_edited) T.f_law_edited cdv A outer s H E).A (cxOf (L2.CX P w) P w K mg base N_law_edited "_law_edited" (defScope s_law_edited) T.f_law_edited cdv A outer s H E).env (cxOf (L2.CX P w) P w K mg base N_law_edited "_law_edited" (defScope s_law_edited) T.f_law_edited cdv A outer s H E).xe := passes_of rfl
  (jss_cons (js_set (i := 3) sc_law_edited.nd rfl (by first | exact Or.inl rfl | exact Or.inr rfl) (je_op op_modN r_mod (jq_e (je_ty call_int1 r_int (by rfl) T.b_int (by decide +kernel) (ja_cons (jq_e (je_ix (jq_n 1) (jq_n 2))) ja_nil))) (jq_e je_int)))
  (jss_cons (js_if (jt_cmp op_gt r_gt (jq_n 3) (jq_e je_int) (nomark _))
    (jss_one (js_ret (je_bm PySem.F.plainAttrs_str PySem.F.slot_str_join PySem.F.type_str_join mt_join rm_join (jq_e je_str) (ja_cons (jq_e (je_call (ok_law_lines_edited fu T) (hr.mono (by decide)) (by rfl) T.g_law_lines_edited T.k_law_lines_edited T.bd_law_lines_edited tk (ja_cons (jq_e (je_of_jn (jn_bm PySem.F.plainAttrs_str PySem.F.slot_str_split PySem.F.type_str_split mt_split rm_split split_lst (jq_n 0) (ja_cons (jq_e je_str) ja_nil)))) (ja_cons (jq_n 3) (ja_cons (jq_n 1) (ja_cons (jq_n 2) ja_nil)))))) ja_nil))))
    jss_nil)
  (jss_cons (js_set (i := 4) sc_law_edited.nd rfl (by first | exact Or.inl rfl | exact Or.inr rfl) (je_op op_modN r_mod (jq_e (je_ty call_int1 r_int (by rfl) T.b_int (by decide +kernel) (ja_cons (jq_e (je_ix (jq_n 1) (jq_e (je_op op_addD r_add (jq_n 2) (jq_e je_int))))) ja_nil))) (jq_e (je_op op_addD r_add (jq_e (je_bi call_lenA r_len (by rfl) T.b_len (by decide +kernel) (ja_cons (jq_n 0) ja_nil))) (jq_e je_int)))))
  (jss_cons (js_if (jt_cmp (op_eqDD hr.units) r_eq (jq_n 3) (jq_e je_int) (nomark _))
    (jss_one (js_ret (je_op op_addD r_add (jq_e (je_op op_addD r_add (jq_e (je_sl (jq_n 0) jp_none (jp_some (jq_n 4)))) (jq_e (je_call (ok_law_sign fu T) (hr.mono (by decide)) (by rfl) T.g_law_sign T.k_law_sign T.bd_law_sign tk (ja_cons (jq_e (je_ix (jq_n 1) (jq_e (je_op op_addD r_add (jq_n 2) (jq_e je_int))))) ja_nil))))) (jq_e (je_sl (jq_n 0) (jp_some (jq_n 4)) jp_none)))))
    jss_nil)
  (jss_cons (js_if (jt_cmp (op_eqDD hr.units) r_eq (jq_n 3) (jq_e je_int) (nomark _))
    (jss_one (js_ret (je_op op_addD r_add (jq_e (je_sl (jq_n 0) jp_none (jp_some (jq_n 4)))) (jq_e (je_sl (jq_n 0) (jp_some (jq_e (je_op op_addD r_add (jq_n 4) (jq_e je_int)))) jp_none)))))
    jss_nil)
  (jss_one (js_ret (je_op op_addD r_add (jq_e (je_op op_addD r_add (jq_e (je_sl (jq_n 0) jp_none (jp_some (jq_n 4)))) (jq_e (je_call (ok_law_sign fu T) (hr.mono (by decide)) (by rfl) T.g_law_sign T.k_law_sign T.bd_law_sign tk (ja_cons (jq_e (je_ix (jq_n 1) (jq_e (je_op op_addD r_add (jq_n 2) (jq_e je_int))))) ja_nil))))) (jq_e (je_sl (jq_n 0) (jp_some (jq_e (je_op op_addD r_add (jq_n 4) (jq_e je_int)))) jp_none))))))))))
theorem ok_law_different (fu : Nat) (T : Txt K mg) : FnOk P w K mg base (L2.CX P w) 1 T.f_law_different T.fd_law_different ["words", "known"] (spD K (cnT T) [true, true] (F_law_different fu)) :=
  okD (n := 1) T.F_law_different sc_law_different rfl rfl (fun _ => rfl) fun cdv A outer s H E hr =>
  have tk : Takes (cxOf (L2.CX P w) P w K mg base N_law_different "_law_different" (defScope s_law_different) T.f_law_different cdv A outer s H E) (fun cls d _ H => E cls d H) := takes_of rfl rfl rfl rfl
  have hp : PassesOwn (model P w) (cxOf (L2.CX P w) P w K mg base N_law_different "_law_different" (defScope s_law_different) T.f_law_different cdv A outer s H E).A (cxOf (L2.CX P w) P w K mg base N_law_different "_law_different" (defScope s_law_different) T.f_law_different cdv A outer s H E).env (cxOf (L2.CX P w) P w K mg base N_law_different "_law_different" (defScope s_law_different) T.f_law_different cdv A outer s H E).xe := passes_of rfl
  (jss_cons (js_for hp rfl (ji_n 0) (jg_n 2 sc_law_different.nd)
    (jss_one (js_if (jt_w (jw_or (jt_cmp op_gt r_gt (jq_e (je_bm PySem.F.plainAttrs_list PySem.F.slot_list_count PySem.F.type_list_count mt_scount rm_scount (jq_n 0) (ja_cons (jq_n 2) ja_nil))) (jq_e je_int) (nomark _)) (jw_or1 (jt_cmp (op_ninDD hr.units65) r_nin (jq_n 2) (jq_n 1) (by rfl)))))
    (jss_one (js_ret je_bl))
    jss_nil)))
  (jss_one (js_ret je_bl)))
theorem ok_law_described (fu : Nat) (T : Txt K mg) : FnOk P w K mg base (L2.CX P w) 2 T.f_law_described T.fd_law_described ["text"] (spD K (cnT T) [true] (F_law_described fu)) :=
  okD (n := 7) T.F_law_described sc_law_described rfl rfl (fun _ => rfl) fun cdv A outer s H E hr =>
  have tk : Takes (cxOf (L2.CX P w) P w K mg base N_law_described "_law_described" (defScope s_law_described) T.f_law_described cdv A outer s H E) (fun cls d _ H => E cls d H) := takes_of rfl rfl rfl rfl
  have hp : PassesOwn (model P w) (cxOf (L2.CX P w) P w K mg base N_law_described "_law_described" (defScope s_law_described) T.f_law_described cdv A outer s H E).A (cxOf (L2.CX P w) P w K mg base N_law_described "_law_described" (defScope s_law_described) T.f_law_described cdv A outer s H E).env (cxOf (L2.CX P w) P w K mg base N_law_described "_law_described" (defScope s_law_described) T.f_law_described cdv A outer s H E).xe := passes_of rfl
  (jss_cons (js_set (i := 1) sc_law_described.nd rfl (by first | exact Or.inl rfl | exact Or.inr rfl) (je_of_jn (jn_bm PySem.F.plainAttrs_str PySem.F.slot_str_split PySem.F.type_str_split mt_split rm_split split_lst (jq_n 0) (ja_cons (jq_e je_str) ja_nil))))
  (jss_cons (js_set (i := 2) sc_law_described.nd rfl (by first | exact Or.inl rfl | exact Or.inr rfl) (je_sl (jq_e (je_of_jn (jn_bm PySem.F.plainAttrs_str PySem.F.slot_str_split PySem.F.type_str_split mt_split rm_split split_lst (jq_e (je_ix (jq_n 1) (jq_e je_int))) (ja_cons (jq_e je_str) ja_nil)))) (jp_some (jq_e je_int)) jp_none))
  (jss_cons (js_setLc (i := 3) (own := [("word", 4)]) rfl rfl sc_law_described.nd rfl rfl (sw_true rfl rfl rfl (by decide +kernel)) (ji_n 2) (blkOk_by (own := [("word", 4)]) (N := N_law_described) (sc := defScope s_law_described) (by decide +kernel)) (fun _ _ _ _ _ => (jgc_n (i := 4) sc_law_described.nd rfl (by first | exact Or.inl rfl | exact Or.inr rfl) (by decide) (by first | exact .inl rfl | exact .inr rfl))) (fun _ _ _ _ _ => (jts_one (jt_w (jw_and (jt_cmp (op_eqDD hr.units) r_eq (jq_e (je_bm PySem.F.plainAttrs_str PySem.F.slot_str_strip PySem.F.type_str_strip mt_stripChars rm_strip (jq_n 4) (ja_cons (jq_e je_str) ja_nil))) (jq_e je_str) (nomark _)) (jw_and1 (jt_chain op_lt r_lt bl_lt op_lt r_lt (jq_e je_int) (jq_e (je_bi call_lenA r_len (by rfl) T.b_len (by decide +kernel) (ja_cons (jq_n 4) ja_nil))) (jq_e je_int))))))) (fun _ _ _ _ _ => (je_n 4)))
  (jss_cons (js_if (jt_w (jw_or (jt_cmp (op_neDD hr.units) r_ne (jq_e (je_ix (jq_e (je_of_jn (jn_bm PySem.F.plainAttrs_str PySem.F.slot_str_split PySem.F.type_str_split mt_split rm_split split_lst (jq_e (je_ix (jq_n 1) (jq_e je_int))) (ja_cons (jq_e je_str) ja_nil)))) (jq_e je_int))) (jq_e je_str) (nomark _)) (jw_or (jt_cmp op_gt r_gt (jq_e (je_bi call_lenA r_len (by rfl) T.b_len (by decide +kernel) (ja_cons (jq_n 2) ja_nil))) (jq_e je_int) (nomark _)) (jw_or1 (jt_not (jt_e (je_call (ok_law_different fu T) (hr.mono (by decide)) (by rfl) T.g_law_different T.k_law_different T.bd_law_different tk (ja_cons (jq_n 2) (ja_cons (jq_n 3) ja_nil)))))))))
    (jss_one (js_retO (jn_lst (jl_cons je_int (jl_cons (je_of_jn (jn_lst jl_nil)) (jl_cons (je_of_jn (jn_lst jl_nil)) jl_nil))))))
    jss_nil)
  (jss_cons (js_own (i := 5) sc_law_described.nd rfl (by first | exact Or.inl rfl | exact Or.inr rfl) (jn_lst jl_nil))
  (jss_cons (js_for hp rfl (ji_rg2 (by rfl) T.b_range (jq_e je_int) (jq_e (je_bi call_lenA r_len (by rfl) T.b_len (by decide +kernel) (ja_cons (jq_n 1) ja_nil)))) (jg_n 6 sc_law_described.nd)
    (jss_cons (js_set (i := 7) sc_law_described.nd rfl (by first | exact Or.inl rfl | exact Or.inr rfl) (je_of_jn (jn_bm PySem.F.plainAttrs_str PySem.F.slot_str_split PySem.F.type_str_split mt_split rm_split split_lst (jq_e (je_ix (jq_n 1) (jq_n 6))) (ja_cons (jq_e je_str) ja_nil))))
  (jss_cons (js_if (jt_w (jw_or (jt_cmp op_gt r_gt (jq_n 6) (jq_e je_int) (nomark _)) (jw_or (jt_cmp (op_neDD hr.units) r_ne (jq_e (je_ix (jq_n 7) (jq_e je_int))) (jq_e je_str) (nomark _)) (jw_or1 (jt_not (jt_e (je_call (ok_law_different fu T) (hr.mono (by decide)) (by rfl) T.g_law_different T.k_law_different T.bd_law_different tk (ja_cons (jq_e (je_sl (jq_n 7) (jp_some (jq_e je_int)) jp_none)) (ja_cons (jq_n 2) ja_nil)))))))))
    (jss_one (js_retO (jn_lst (jl_cons (je_n 6) (jl_cons (je_of_jn (jn_lst jl_nil)) (jl_cons (je_of_jn (jn_lst jl_nil)) jl_nil))))))
    jss_nil)
  (jss_one (js_app 5 (je_sl (jq_n 7) (jp_some (jq_e je_int)) jp_none) (pe := fun t h => pe_bm PySem.F.plainAttrs_list PySem.F.slot_list_append PySem.F.type_list_append mt_append (pe_var (i := 5) rfl (by first | exact Or.inl rfl | exact Or.inr (Or.inl rfl) | exact Or.inr (Or.inr rfl))) (pa_cons h pa_nil)))))))
  (jss_one (js_retO (jn_lst (jl_cons je_non (jl_cons (je_n 2) (jl_cons (je_n 5) jl_nil))))))))))))
theorem ok_law_is (fu : Nat) (T : Txt K mg) : FnOk P w K mg base (L2.CX P w) 5 T.f_law_is T.fd_law_is ["found", "columns", "rows"] (spD K (cnT T) [true, true, true] (F_law_is fu)) :=
  okD (n := 2) T.F_law_is sc_law_is rfl rfl (fun _ => rfl) fun cdv A outer s H E hr =>
  have tk : Takes (cxOf (L2.CX P w) P w K mg base N_law_is "_law_is" (defScope s_law_is) T.f_law_is cdv A outer s H E) (fun cls d _ H => E cls d H) := takes_of rfl rfl rfl rfl
  have hp : PassesOwn (model P w) (cxOf (L2.CX P w) P w K mg base N_law_is "_law_is" (defScope s_law_is) T.f_law_is cdv A outer s H E).A (cxOf (L2.CX P w) P w K mg base N_law_is "_law_is" (defScope s_law_is) T.f_law_is cdv A outer s H E).env (cxOf (L2.CX P w) P w K mg base N_law_is "_law_is" (defScope s_law_is) T.f_law_is cdv A outer s H E).xe := passes_of rfl
  (jss_cons (js_if (jt_w (jw_or (jt_not (jt_e (je_isi (by rfl) T.b_isinstance (jq_n 0) (jc_own (by rfl) T.g_Table) (ty_own ⟨kit_other T.ic_Table T.ty_Table T.su_Table_NoneType, kit_other T.ic_Table T.ty_Table T.su_Table_bool, kit_other T.ic_Table T.ty_Table T.su_Table_int, kit_other T.ic_Table T.ty_Table T.su_Table_str, kit_other T.ic_Table T.ty_Table T.su_Table_list, kit_other T.ic_Table T.ty_Table T.su_Table_tuple⟩ (tab_cons ⟨(kit_self _ _), ⟨T.pg_Table, T.hd_Table, T.po_Table, T.sa_Table⟩, T.ha_Table, T.hm_Table⟩ tab_nil) T.hn_get T.ht_get)))) (jw_or (jt_not (jt_e (je_isi (by rfl) T.b_isinstance (jq_e (je_fld (c := 0) (f := 2) (je_n 0) rfl (fa_inj_2 T) ⟨T.pg_Table, T.hd_Table, T.po_Table, T.sa_Table⟩ T.na_Table_columns)) (jc_ty (by rfl) T.b_tuple (by decide +kernel)) ty2_tuple))) (jw_or1 (jt_not (jt_e (je_isi (by rfl) T.b_isinstance (jq_e (je_fld (c := 0) (f := 3) (je_n 0) rfl (fa_inj_3 T) ⟨T.pg_Table, T.hd_Table, T.po_Table, T.sa_Table⟩ T.na_Table_rows)) (jc_ty (by rfl) T.b_tuple (by decide +kernel)) ty2_tuple)))))))
    (jss_one (js_ret je_bl))
    jss_nil)
  (jss_cons (js_if (jt_w (jw_or (jt_cmp (op_neDD hr.units) r_ne (jq_e (je_of_jn (jn_ty call_list_of r_listof (by rfl) T.b_list (by decide +kernel) (ja_cons (jq_e (je_fld (c := 0) (f := 2) (je_n 0) rfl (fa_inj_2 T) ⟨T.pg_Table, T.hd_Table, T.po_Table, T.sa_Table⟩ T.na_Table_columns)) ja_nil)))) (jq_n 1) (nomark _)) (jw_or1 (jt_cmp (op_neDD hr.units) r_ne (jq_e (je_bi call_lenA r_len (by rfl) T.b_len (by decide +kernel) (ja_cons (jq_e (je_fld (c := 0) (f := 3) (je_n 0) rfl (fa_inj_3 T) ⟨T.pg_Table, T.hd_Table, T.po_Table, T.sa_Table⟩ T.na_Table_rows)) ja_nil))) (jq_e (je_bi call_lenA r_len (by rfl) T.b_len (by decide +kernel) (ja_cons (jq_n 2) ja_nil))) (nomark _)))))
    (jss_one (js_ret je_bl))
    jss_nil)
  (jss_cons (js_for hp rfl (ji_rg1 (by rfl) T.b_range (jq_e (je_bi call_lenA r_len (by rfl) T.b_len (by decide +kernel) (ja_cons (jq_n 2) ja_nil)))) (jg_n 3 sc_law_is.nd)
    (jss_one (js_if (jt_cmp (op_neDD hr.units) r_ne (jq_e (je_ix (jq_e (je_fld (c := 0) (f := 3) (je_n 0) rfl (fa_inj_3 T) ⟨T.pg_Table, T.hd_Table, T.po_Table, T.sa_Table⟩ T.na_Table_rows)) (jq_n 3))) (jq_e (je_ty call_tuple_of r_tupleof (by rfl) T.b_tuple (by decide +kernel) (ja_cons (jq_e (je_of_jn (jn_lc (own := [("name", 4)]) rfl rfl sc_law_is.nd (ji_n 1) (blkOk_by (own := [("name", 4)]) (N := N_law_is) (sc := defScope s_law_is) (by decide +kernel)) (fun _ _ _ _ _ => (jgc_n (i := 4) sc_law_is.nd rfl (by first | exact Or.inl rfl | exact Or.inr rfl) (by decide) (by first | exact .inl rfl | exact .inr rfl))) (fun _ _ _ _ _ => (jts_one (jt_cmp (op_inDD hr.units65) r_in (jq_n 4) (jq_e (je_ix (jq_n 2) (jq_n 3))) (by rfl)))) (fun _ _ _ _ _ => (je_n 4))))) ja_nil))) (nomark _))
    (jss_one (js_ret je_bl))
    jss_nil)))
  (jss_one (js_ret (je_cmp op_is_bl r_isB (jq_e (je_ownEq (c := 0) T.nf_Table ⟨T.a_TableD_eqD, T.i_TableD_eqD, T.k_TableD_eqD⟩ (ok_TableD_eqD fu T) (hr.mono (by decide)) T.bd_TableD_eqD tk (je_n 0) (je_make (c := 0) ⟨T.mkc_Table, T.a_TableD_initD, T.i_TableD_initD, T.kc_Table⟩ (ok_TableD_initD fu T) (hr.mono (by decide)) (by rfl) T.g_Table T.bd_TableD_initD tk (ja_cons (jq_n 1) (ja_cons (jq_n 2) ja_nil))))) (jq_e je_bl) (nomark _)))))))
theorem ok_law_answers (fu : Nat) (T : Txt K mg) : FnOk P w K mg base (L2.CX P w) 6 T.f_law_answers T.fd_law_answers ["text"] (spD K (cnT T) [true] (F_law_answers fu)) :=
  okD (n := 5) T.F_law_answers sc_law_answers rfl rfl (fun _ => rfl) fun cdv A outer s H E hr =>
  have tk : Takes (cxOf (L2.CX P w) P w K mg base N_law_answers "_law_answers" (defScope s_law_answers) T.f_law_answers cdv A outer s H E) (fun cls d _ H => E cls d H) := takes_of rfl rfl rfl rfl
  have hp : PassesOwn (model P w) (cxOf (L2.CX P w) P w K mg base N_law_answers "_law_answers" (defScope s_law_answers) T.f_law_answers cdv A outer s H E).A (cxOf (L2.CX P w) P w K mg base N_law_answers "_law_answers" (defScope s_law_answers) T.f_law_answers cdv A outer s H E).env (cxOf (L2.CX P w) P w K mg base N_law_answers "_law_answers" (defScope s_law_answers) T.f_law_answers cdv A outer s H E).xe := passes_of rfl
  (jss_cons (js_set (i := 1) sc_law_answers.nd rfl (by first | exact Or.inl rfl | exact Or.inr rfl) (je_call (ok_law_described fu T) (hr.mono (by decide)) (by rfl) T.g_law_described T.k_law_described T.bd_law_described tk (ja_cons (jq_n 0) ja_nil)))
  (jss_cons (js_set (i := 2) sc_law_answers.nd rfl (by first | exact Or.inl rfl | exact Or.inr rfl) je_non)
  (jss_cons (js_set (i := 3) sc_law_answers.nd rfl (by first | exact Or.inl rfl | exact Or.inr rfl) je_non)
  (jss_cons (js_set (i := 4) sc_law_answers.nd rfl (by first | exact Or.inl rfl | exact Or.inr rfl) (je_of_jn (jn_lst jl_nil)))
  (jss_cons (js_try (i := 5) (ex := (tbl [(2, true)])) rfl rfl rfl sc_law_answers.nd rfl rfl ⟨by rfl, by decide, .inl T.g_BadText⟩ (tab_cons (PySem.W.exm_ref T.bx_BadText T.hd_BadText T.ty_BadText T.su_BadText_of_BadText) tab_nil) tk
    (fun W pn xe tk hp => (jss_one (js_set (i := 2) sc_law_answers.nd rfl (by first | exact Or.inl rfl | exact Or.inr rfl) (je_call (ok_read_table fu T) (hr.mono (by decide)) (by rfl) T.g_read_table T.k_read_table T.bd_read_table tk (ja_cons (jq_n 0) ja_nil)))))
    (fun a oe cls d pn hz hv => (jss_cons (js_set (i := 3) sc_law_answers.nd rfl (by first | exact Or.inl rfl | exact Or.inr rfl) (je_xf (cs := [2]) (i := 5) (f := 4) rfl hz hv (mem_cons ⟨⟨T.eg_BadText, T.ek_BadText, T.bx_BadText, T.hd_BadText⟩, T.na_BadText_line⟩ mem_nil) rfl))
  (jss_one (js_set (i := 4) sc_law_answers.nd rfl (by first | exact Or.inl rfl | exact Or.inr rfl) (je_of_jn (jn_lst (jl_cons (je_isED (i := 5) (is := (tbl [(2, true)])) rfl hz hv (by rfl) T.b_isinstance (jc_own (by rfl) T.g_RowsError) (tab_cons ⟨⟨T.eg_BadText, T.ek_BadText, T.bx_BadText, T.hd_BadText, T.ha_BadText, T.hn_get, T.ht_get, T.hm_BadText⟩, (kit_ownT T.ic_RowsError T.ty_RowsError T.su_RowsError_of_BadText)⟩ tab_nil)) (jl_cons (je_isED (i := 5) (is := (tbl [(2, true)])) rfl hz hv (by rfl) T.b_isinstance (jc_ty (T := "ValueError") (by rfl) T.b_ValueError (by decide +kernel)) (tab_cons ⟨⟨T.eg_BadText, T.ek_BadText, T.bx_BadText, T.hd_BadText, T.ha_BadText, T.hn_get, T.ht_get, T.hm_BadText⟩, (kit_refTy T.kt_BadText_ValueError)⟩ tab_nil)) (jl_cons (je_isED (i := 5) (is := (tbl [(2, false)])) rfl hz hv (by rfl) T.b_isinstance (jc_own (by rfl) T.g_Unknown) (tab_cons ⟨⟨T.eg_BadText, T.ek_BadText, T.bx_BadText, T.hd_BadText, T.ha_BadText, T.hn_get, T.ht_get, T.hm_BadText⟩, (kit_ownF T.ic_Unknown T.ty_Unknown T.su_Unknown_of_BadText T.su_Unknown_of_Unknown)⟩ tab_nil)) (jl_cons (je_isED (i := 5) (is := (tbl [(2, false)])) rfl hz hv (by rfl) T.b_isinstance (jc_own (by rfl) T.g_Impossible) (tab_cons ⟨⟨T.eg_BadText, T.ek_BadText, T.bx_BadText, T.hd_BadText, T.ha_BadText, T.hn_get, T.ht_get, T.hm_BadText⟩, (kit_ownF T.ic_Impossible T.ty_Impossible T.su_Impossible_of_BadText T.su_Impossible_of_Impossible)⟩ tab_nil)) jl_nil)))))))))))
  (jss_cons (js_if (jt_cmp op_isN r_isN (jq_e (je_ix (jq_n 1) (jq_e je_int))) (jq_e je_non) (nomark _))
    (jss_one (js_ret (je_call (ok_law_is fu T) (hr.mono (by decide)) (by rfl) T.g_law_is T.k_law_is T.bd_law_is tk (ja_cons (jq_n 2) (ja_cons (jq_e (je_ix (jq_n 1) (jq_e je_int))) (ja_cons (jq_e (je_ix (jq_n 1) (jq_e je_int))) ja_nil))))))
    jss_nil)
  (jss_cons (js_if (jt_w (jw_or (jt_cmp op_notN r_notN (jq_n 2) (jq_e je_non) (nomark _)) (jw_or1 (jt_cmp (op_neDD hr.units) r_ne (jq_n 4) (jq_e (je_of_jn (jn_lst (jl_cons je_bl (jl_cons je_bl (jl_cons je_bl (jl_cons je_bl jl_nil))))))) (nomark _)))))
    (jss_one (js_ret je_bl))
    jss_nil)
  (jss_one (js_ret (je_and (je_isi (by rfl) T.b_isinstance (jq_n 3) (jc_ty (by rfl) T.b_int (by decide +kernel)) ty2_int) (je_and (je_not (je_isi (by rfl) T.b_isinstance (jq_n 3) (jc_ty (by rfl) T.b_bool (by decide +kernel)) ty2_bool)) (je_one (je_cmp (op_eqDD hr.units) r_eq (jq_n 3) (jq_e (je_ix (jq_n 1) (jq_e je_int))) (nomark _))))))))))))))
theorem ok_law_reads (fu : Nat) (T : Txt K mg) : FnOk P w K mg base (L2.CX P w) 6 T.f_law_reads T.fd_law_reads ["text", "columns", "rows"] (spD K (cnT T) [true, true, true] (F_law_reads fu)) :=
  okD (n := 0) T.F_law_reads sc_law_reads rfl rfl (fun _ => rfl) fun cdv A outer s H E hr =>
  have tk : Takes (cxOf (L2.CX P w) P w K mg base N_law_reads "_law_reads" (defScope s_law_reads) T.f_law_reads cdv A outer s H E) (fun cls d _ H => E cls d H) := takes_of rfl rfl rfl rfl
  have hp : PassesOwn (model P w) (cxOf (L2.CX P w) P w K mg base N_law_reads "_law_reads" (defScope s_law_reads) T.f_law_reads cdv A outer s H E).A (cxOf (L2.CX P w) P w K mg base N_law_reads "_law_reads" (defScope s_law_reads) T.f_law_reads cdv A outer s H E).env (cxOf (L2.CX P w) P w K mg base N_law_reads "_law_reads" (defScope s_law_reads) T.f_law_reads cdv A outer s H E).xe := passes_of rfl
  (jss_one (js_ret (je_call (ok_law_is fu T) (hr.mono (by decide)) (by rfl) T.g_law_is T.k_law_is T.bd_law_is tk (ja_cons (jq_e (je_call (ok_read_table fu T) (hr.mono (by decide)) (by rfl) T.g_read_table T.k_read_table T.bd_read_table tk (ja_cons (jq_n 0) ja_nil))) (ja_cons (jq_n 1) (ja_cons (jq_n 2) ja_nil))))))
theorem ok_law (fu : Nat) (T : Txt K mg) : FnOk P w K mg base (L2.CX P w) 7 T.f_law T.fd_law ["script"] (spD K (cnT T) [true] (F_law fu)) :=
  okD (n := 12) T.F_law sc_law rfl rfl (fun _ => rfl) fun cdv A outer s H E hr =>
  have tk : Takes (cxOf (L2.CX P w) P w K mg base N_law "law" (defScope s_law) T.f_law cdv A outer s H E) (fun cls d _ H => E cls d H) := takes_of rfl rfl rfl rfl
  have hp : PassesOwn (model P w) (cxOf (L2.CX P w) P w K mg base N_law "law" (defScope s_law) T.f_law cdv A outer s H E).A (cxOf (L2.CX P w) P w K mg base N_law "law" (defScope s_law) T.f_law cdv A outer s H E).env (cxOf (L2.CX P w) P w K mg base N_law "law" (defScope s_law) T.f_law cdv A outer s H E).xe := passes_of rfl
  (jss_cons (js_set (i := 1) sc_law.nd rfl (by first | exact Or.inl rfl | exact Or.inr rfl) (je_call (ok_law_drawn fu T) (hr.mono (by decide)) (by rfl) T.g_law_drawn T.k_law_drawn T.bd_law_drawn tk (ja_cons (jq_n 0) ja_nil)))
  (jss_cons (js_set (i := 2) sc_law.nd rfl (by first | exact Or.inl rfl | exact Or.inr rfl) (je_ix (jq_n 1) (jq_e je_int)))
  (jss_cons (js_set (i := 3) sc_law.nd rfl (by first | exact Or.inl rfl | exact Or.inr rfl) (je_ix (jq_n 1) (jq_e je_int)))
  (jss_cons (js_set (i := 4) sc_law.nd rfl (by first | exact Or.inl rfl | exact Or.inr rfl) (je_call (ok_law_pool fu T) (hr.mono (by decide)) (by rfl) T.g_law_pool T.k_law_pool T.bd_law_pool tk (ja_cons (jq_n 0) (ja_cons (jq_e je_int) (ja_cons (jq_e je_int) ja_nil)))))
  (jss_cons (js_set (i := 5) sc_law.nd rfl (by first | exact Or.inl rfl | exact Or.inr rfl) (je_make (c := 0) ⟨T.mkc_Table, T.a_TableD_initD, T.i_TableD_initD, T.kc_Table⟩ (ok_TableD_initD fu T) (hr.mono (by decide)) (by rfl) T.g_Table T.bd_TableD_initD tk (ja_cons (jq_e (je_of_jn (jn_ty call_list_of r_listof (by rfl) T.b_list (by decide +kernel) (ja_cons (jq_n 2) ja_nil)))) (ja_cons (jq_e (je_of_jn (jn_lc (own := [("row", 6)]) rfl rfl sc_law.nd (ji_n 3) (blkOk_by (own := [("row", 6)]) (N := N_law) (sc := defScope s_law) (by decide +kernel)) (fun _ _ _ _ _ => (jgc_n (i := 6) sc_law.nd rfl (by first | exact Or.inl rfl | exact Or.inr rfl) (by decide) (by first | exact .inl rfl | exact .inr rfl))) (fun _ _ _ _ _ => jts_nil) (fun _ _ _ _ _ => (je_of_jn (jn_ty call_list_of r_listof (by rfl) T.b_list (by decide +kernel) (ja_cons (jq_n 6) ja_nil))))))) ja_nil))))
  (jss_cons (js_set (i := 7) sc_law.nd rfl (by first | exact Or.inl rfl | exact Or.inr rfl) (je_call (ok_law_written fu T) (hr.mono (by decide)) (by rfl) T.g_law_written T.k_law_written T.bd_law_written tk (ja_cons (jq_n 2) (ja_cons (jq_e (je_of_jn (jn_lc (own := [("row", 6)]) rfl rfl sc_law.nd (ji_n 3) (blkOk_by (own := [("row", 6)]) (N := N_law) (sc := defScope s_law) (by decide +kernel)) (fun _ _ _ _ _ => (jgc_n (i := 6) sc_law.nd rfl (by first | exact Or.inl rfl | exact Or.inr rfl) (by decide) (by first | exact .inl rfl | exact .inr rfl))) (fun _ _ _ _ _ => jts_nil) (fun _ _ _ _ _ => (je_of_jn (jn_lc (own := [("name", 8)]) rfl rfl sc_law.nd (ji_n 2) (blkOk_by (own := [("name", 8)]) (by kernel_rfl!)) (fun _ _ _ _ _ => (jgc_n (i := 8) sc_law.nd rfl (by first | exact Or.inl rfl | exact Or.inr rfl) (by decide) (by first | exact .inl rfl | exact .inr rfl))) (fun _ _ _ _ _ => (jts_one (jt_cmp (op_inDD hr.units65) r_in (jq_n 8) (jq_n 6) (by rfl)))) (fun _ _ _ _ _ => (je_n 8)))))))) ja_nil))))
  (jss_cons (js_set (i := 9) sc_law.nd rfl (by first | exact Or.inl rfl | exact Or.inr rfl) (je_call (ok_table_text fu T) (hr.mono (by decide)) (by rfl) T.g_table_text T.k_table_text T.bd_table_text tk (ja_cons (jq_n 5) ja_nil)))
  (jss_cons (js_if (jt_w (jw_or (jt_not (jt_e (je_isi (by rfl) T.b_isinstance (jq_n 9) (jc_ty (by rfl) T.b_str (by decide +kernel)) ty2_str))) (jw_or1 (jt_cmp (op_neDD hr.units) r_ne (jq_n 9) (jq_n 7) (nomark _)))))
    (jss_one (js_ret je_bl))
    jss_nil)
  (jss_cons (js_set (i := 10) sc_law.nd rfl (by first | exact Or.inl rfl | exact Or.inr rfl) (je_call (ok_law_written fu T) (hr.mono (by decide)) (by rfl) T.g_law_written T.k_law_written T.bd_law_written tk (ja_cons (jq_n 2) (ja_cons (jq_n 3) ja_nil))))
  (jss_cons (js_if (jt_w (jw_or (jt_not (jt_e (je_call (ok_law_reads fu T) (hr.mono (by decide)) (by rfl) T.g_law_reads T.k_law_reads T.bd_law_reads tk (ja_cons (jq_n 7) (ja_cons (jq_n 2) (ja_cons (jq_n 3) ja_nil)))))) (jw_or1 (jt_not (jt_e (je_call (ok_law_reads fu T) (hr.mono (by decide)) (by rfl) T.g_law_reads T.k_law_reads T.bd_law_reads tk (ja_cons (jq_n 10) (ja_cons (jq_n 2) (ja_cons (jq_n 3) ja_nil)))))))))
    (jss_one (js_ret je_bl))
    jss_nil)
  (jss_cons (js_set (i := 11) sc_law.nd rfl (by first | exact Or.inl rfl | exact Or.inr rfl) (je_call (ok_law_edited fu T) (hr.mono (by decide)) (by rfl) T.g_law_edited T.k_law_edited T.bd_law_edited tk (ja_cons (jq_n 10) (ja_cons (jq_n 4) (ja_cons (jq_e je_int) ja_nil)))))
  (jss_cons (js_if (jt_w (jw_or (jt_not (jt_e (je_call (ok_law_answers fu T) (hr.mono (by decide)) (by rfl) T.g_law_answers T.k_law_answers T.bd_law_answers tk (ja_cons (jq_n 11) ja_nil)))) (jw_or1 (jt_not (jt_e (je_call (ok_law_answers fu T) (hr.mono (by decide)) (by rfl) T.g_law_answers T.k_law_answers T.bd_law_answers tk (ja_cons (jq_e (je_call (ok_law_edited fu T) (hr.mono (by decide)) (by rfl) T.g_law_edited T.k_law_edited T.bd_law_edited tk (ja_cons (jq_n 11) (ja_cons (jq_n 4) (ja_cons (jq_e je_int) ja_nil))))) ja_nil)))))))
    (jss_one (js_ret je_bl))
    jss_nil)
  (jss_cons (js_for hp rfl (ji_e (je_of_jn (jn_lst (jl_cons je_str (jl_cons (je_op op_addD r_add (jq_n 7) (jq_e je_str)) (jl_cons (je_op op_addD r_add (jq_n 7) (jq_e je_str)) (jl_cons (je_op op_addD r_add (jq_e je_str) (jq_n 7)) (jl_cons (je_op op_addD r_add (jq_e je_str) (jq_n 7)) jl_nil)))))))) (jg_n 12 sc_law.nd)
    (jss_one (js_if (jt_not (jt_e (je_call (ok_law_answers fu T) (hr.mono (by decide)) (by rfl) T.g_law_answers T.k_law_answers T.bd_law_answers tk (ja_cons (jq_n 12) ja_nil))))
    (jss_one (js_ret je_bl))
    jss_nil)))
  (jss_cons (js_if (jt_w (jw_or (jt_not (jt_e (je_call (ok_law_answers fu T) (hr.mono (by decide)) (by rfl) T.g_law_answers T.k_law_answers T.bd_law_answers tk (ja_cons (jq_e (je_call (ok_law_edited fu T) (hr.mono (by decide)) (by rfl) T.g_law_edited T.k_law_edited T.bd_law_edited tk (ja_cons (jq_n 7) (ja_cons (jq_n 4) (ja_cons (jq_e je_int) ja_nil))))) ja_nil)))) (jw_or1 (jt_not (jt_e (je_call (ok_law_answers fu T) (hr.mono (by decide)) (by rfl) T.g_law_answers T.k_law_answers T.bd_law_answers tk (ja_cons (jq_e (je_call (ok_law_edited fu T) (hr.mono (by decide)) (by rfl) T.g_law_edited T.k_law_edited T.bd_law_edited tk (ja_cons (jq_n 10) (ja_cons (jq_n 4) (ja_cons (jq_e je_int) ja_nil))))) ja_nil)))))))
    (jss_one (js_ret je_bl))
    jss_nil)
  (jss_one (js_ret (je_and (je_call (ok_law_reads fu T) (hr.mono (by decide)) (by rfl) T.g_law_reads T.k_law_reads T.bd_law_reads tk (ja_cons (jq_n 7) (ja_cons (jq_n 2) (ja_cons (jq_n 3) ja_nil)))) (je_and (je_cmp (op_eqDD hr.units) r_eq (jq_e (je_call (ok_table_text fu T) (hr.mono (by decide)) (by rfl) T.g_table_text T.k_table_text T.bd_table_text tk (ja_cons (jq_n 5) ja_nil))) (jq_n 7) (nomark _)) (je_one (je_call (ok_law_is fu T) (hr.mono (by decide)) (by rfl) T.g_law_is T.k_law_is T.bd_law_is tk (ja_cons (jq_n 5) (ja_cons (jq_n 2) (ja_cons (jq_n 3) ja_nil)))))))))))))))))))))))
end
end K04

set_option autoImplicit true
set_option Elab.async false
set_option linter.all false
set_option maxRecDepth 100000
set_option exponentiation.threshold 10000
set_option maxHeartbeats 4000000
namespace K04
open PySem L2 Ed
theorem all_mk {l : PySem.W.OpenLaw} {w : World} {K : PySem.W.Frag} {h : Heap} {mg : Str → Option Value} {fa : Addr} (pw : ∀ ns : List Int, ns.length ≤ 63 → F_law FUEL [.scr ns] = .ok (.fz (.bl true))) (X : K.In h) (G : h.Ns mainGlobals mg) (hfa : mg "law" = some (.ref fa))
    {f_is_name : Addr} {od_is_name an_is_name : Option Addr} {sl_is_name : Array (Option Value)} {oc_is_name kV_is_name dc_is_name pm_is_name cd_is_name ct_is_name : Value}
    {f_first_misnamed : Addr} {od_first_misnamed an_first_misnamed : Option Addr} {sl_first_misnamed : Array (Option Value)} {oc_first_misnamed kV_first_misnamed dc_first_misnamed pm_first_misnamed cd_first_misnamed ct_first_misnamed : Value}
    {f_is_row : Addr} {od_is_row an_is_row : Option Addr} {sl_is_row : Array (Option Value)} {oc_is_row kV_is_row dc_is_row pm_is_row cd_is_row ct_is_row : Value}
    {f_common_names : Addr} {od_common_names an_common_names : Option Addr} {sl_common_names : Array (Option Value)} {oc_common_names kV_common_names dc_common_names pm_common_names cd_common_names ct_common_names : Value}
    {f_BadTableD_initD : Addr} {od_BadTableD_initD an_BadTableD_initD : Option Addr} {sl_BadTableD_initD : Array (Option Value)} {oc_BadTableD_initD kV_BadTableD_initD dc_BadTableD_initD pm_BadTableD_initD cd_BadTableD_initD ct_BadTableD_initD : Value}
    {f_TableD_initD : Addr} {od_TableD_initD an_TableD_initD : Option Addr} {sl_TableD_initD : Array (Option Value)} {oc_TableD_initD kV_TableD_initD dc_TableD_initD pm_TableD_initD cd_TableD_initD ct_TableD_initD : Value}
    {t_TableD_initD : Addr} {to_TableD_initD : Obj} {ti_TableD_initD : List Value} {tn_TableD_initD : Nat}
    {e_TableD_initD : Addr}
    {f_TableD_iterD : Addr} {od_TableD_iterD an_TableD_iterD : Option Addr} {sl_TableD_iterD : Array (Option Value)} {oc_TableD_iterD kV_TableD_iterD dc_TableD_iterD pm_TableD_iterD cd_TableD_iterD ct_TableD_iterD : Value}
    {f_TableD_lenD : Addr} {od_TableD_lenD an_TableD_lenD : Option Addr} {sl_TableD_lenD : Array (Option Value)} {oc_TableD_lenD kV_TableD_lenD dc_TableD_lenD pm_TableD_lenD cd_TableD_lenD ct_TableD_lenD : Value}
    {f_TableD_eqD : Addr} {od_TableD_eqD an_TableD_eqD : Option Addr} {sl_TableD_eqD : Array (Option Value)} {oc_TableD_eqD kV_TableD_eqD dc_TableD_eqD pm_TableD_eqD cd_TableD_eqD ct_TableD_eqD : Value}
    {f_table_text : Addr} {od_table_text an_table_text : Option Addr} {sl_table_text : Array (Option Value)} {oc_table_text kV_table_text dc_table_text pm_table_text cd_table_text ct_table_text : Value}
    {f_BadTextD_initD : Addr} {od_BadTextD_initD an_BadTextD_initD : Option Addr} {sl_BadTextD_initD : Array (Option Value)} {oc_BadTextD_initD kV_BadTextD_initD dc_BadTextD_initD pm_BadTextD_initD cd_BadTextD_initD ct_BadTextD_initD : Value}
    {f_read_table : Addr} {od_read_table an_read_table : Option Addr} {sl_read_table : Array (Option Value)} {oc_read_table kV_read_table dc_read_table pm_read_table cd_read_table ct_read_table : Value}
    {f_law_cell : Addr} {od_law_cell an_law_cell : Option Addr} {sl_law_cell : Array (Option Value)} {oc_law_cell kV_law_cell dc_law_cell pm_law_cell cd_law_cell ct_law_cell : Value}
    {f_law_pool : Addr} {od_law_pool an_law_pool : Option Addr} {sl_law_pool : Array (Option Value)} {oc_law_pool kV_law_pool dc_law_pool pm_law_pool cd_law_pool ct_law_pool : Value}
    {f_law_word : Addr} {od_law_word an_law_word : Option Addr} {sl_law_word : Array (Option Value)} {oc_law_word kV_law_word dc_law_word pm_law_word cd_law_word ct_law_word : Value}
    {f_law_new : Addr} {od_law_new an_law_new : Option Addr} {sl_law_new : Array (Option Value)} {oc_law_new kV_law_new dc_law_new pm_law_new cd_law_new ct_law_new : Value}
    {f_law_marks : Addr} {od_law_marks an_law_marks : Option Addr} {sl_law_marks : Array (Option Value)} {oc_law_marks kV_law_marks dc_law_marks pm_law_marks cd_law_marks ct_law_marks : Value}
    {f_law_drawn : Addr} {od_law_drawn an_law_drawn : Option Addr} {sl_law_drawn : Array (Option Value)} {oc_law_drawn kV_law_drawn dc_law_drawn pm_law_drawn cd_law_drawn ct_law_drawn : Value}
    {f_law_written : Addr} {od_law_written an_law_written : Option Addr} {sl_law_written : Array (Option Value)} {oc_law_written kV_law_written dc_law_written pm_law_written cd_law_written ct_law_written : Value}
    {f_law_sign : Addr} {od_law_sign an_law_sign : Option Addr} {sl_law_sign : Array (Option Value)} {oc_law_sign kV_law_sign dc_law_sign pm_law_sign cd_law_sign ct_law_sign : Value}
    {f_law_lines_edited : Addr} {od_law_lines_edited an_law_lines_edited : Option Addr} {sl_law_lines_edited : Array (Option Value)} {oc_law_lines_edited kV_law_lines_edited dc_law_lines_edited pm_law_lines_edited cd_law_lines_edited ct_law_lines_edited : Value}
    {f_law_edited : Addr} {od_law_edited an_law_edited : Option Addr} {sl_law_edited : Array (Option Value)} {oc_law_edited kV_law_edited dc_law_edited pm_law_edited cd_law_edited ct_law_edited : Value}
    {f_law_different : Addr} {od_law_different an_law_different : Option Addr} {sl_law_different : Array (Option Value)} {oc_law_different kV_law_different dc_law_different pm_law_different cd_law_different ct_law_different : Value}
    {f_law_described : Addr} {od_law_described an_law_described : Option Addr} {sl_law_described : Array (Option Value)} {oc_law_described kV_law_described dc_law_described pm_law_described cd_law_described ct_law_described : Value}
    {f_law_is : Addr} {od_law_is an_law_is : Option Addr} {sl_law_is : Array (Option Value)} {oc_law_is kV_law_is dc_law_is pm_law_is cd_law_is ct_law_is : Value}
    {f_law_answers : Addr} {od_law_answers an_law_answers : Option Addr} {sl_law_answers : Array (Option Value)} {oc_law_answers kV_law_answers dc_law_answers pm_law_answers cd_law_answers ct_law_answers : Value}
    {f_law_reads : Addr} {od_law_reads an_law_reads : Option Addr} {sl_law_reads : Array (Option Value)} {oc_law_reads kV_law_reads dc_law_reads pm_law_reads cd_law_reads ct_law_reads : Value}
    {f_law : Addr} {od_law an_law : Option Addr} {sl_law : Array (Option Value)} {oc_law kV_law dc_law pm_law cd_law ct_law : Value}
    {C_Table : Addr}
    {C_BadTable : Addr}
    {C_BadText : Addr}
    {C_Impossible : Addr}
    {C_Unknown : Addr}
    {C_RowsError : Addr}
    {tok_LONGEST_NAME : Tok}
    {tok_LETTERS : Tok}
    {tok_Table_MOST_COLUMNS : Tok}
    {tok_Table_MOST_ROWS : Tok}
    {xnm_BadTable} {xq_BadTable} {xN_BadTable} {xbs_BadTable} {xbm_BadTable} {xsn_BadTable} {xsub_BadTable} {xab_BadTable} {xcol_BadTable} {xdd_BadTable} {xk0_BadTable} {xk1_BadTable} {xk2_BadTable} {xk3_BadTable} {xk5_BadTable}
    {xnm_BadText} {xq_BadText} {xN_BadText} {xbs_BadText} {xbm_BadText} {xsn_BadText} {xsub_BadText} {xab_BadText} {xcol_BadText} {xdd_BadText} {xk0_BadText} {xk1_BadText} {xk2_BadText} {xk3_BadText} {xk5_BadText}
    {o_e_TableD_initD : Obj} {ti_e_TableD_initD : List Value} {tn_e_TableD_initD : Nat}
    (g_is_name : PySem.W.nsIn K mainGlobals "is_name" = some (some (.ref f_is_name)))
    (g_Table : PySem.W.nsIn K mainGlobals "Table" = some (some (.ref C_Table)))
    (g_BadTable : PySem.W.nsIn K mainGlobals "BadTable" = some (some (.ref C_BadTable)))
    (g_first_misnamed : PySem.W.nsIn K mainGlobals "first_misnamed" = some (some (.ref f_first_misnamed)))
    (g_is_row : PySem.W.nsIn K mainGlobals "is_row" = some (some (.ref f_is_row)))
    (g_common_names : PySem.W.nsIn K mainGlobals "common_names" = some (some (.ref f_common_names)))
    (g_BadText : PySem.W.nsIn K mainGlobals "BadText" = some (some (.ref C_BadText)))
    (g_law_cell : PySem.W.nsIn K mainGlobals "_law_cell" = some (some (.ref f_law_cell)))
    (g_law_pool : PySem.W.nsIn K mainGlobals "_law_pool" = some (some (.ref f_law_pool)))
    (g_law_word : PySem.W.nsIn K mainGlobals "_law_word" = some (some (.ref f_law_word)))
    (g_law_new : PySem.W.nsIn K mainGlobals "_law_new" = some (some (.ref f_law_new)))
    (g_law_marks : PySem.W.nsIn K mainGlobals "_law_marks" = some (some (.ref f_law_marks)))
    (g_law_lines_edited : PySem.W.nsIn K mainGlobals "_law_lines_edited" = some (some (.ref f_law_lines_edited)))
    (g_law_sign : PySem.W.nsIn K mainGlobals "_law_sign" = some (some (.ref f_law_sign)))
    (g_law_different : PySem.W.nsIn K mainGlobals "_law_different" = some (some (.ref f_law_different)))
    (g_law_described : PySem.W.nsIn K mainGlobals "_law_described" = some (some (.ref f_law_described)))
    (g_read_table : PySem.W.nsIn K mainGlobals "read_table" = some (some (.ref f_read_table)))
    (g_Impossible : PySem.W.nsIn K mainGlobals "Impossible" = some (some (.ref C_Impossible)))
    (g_Unknown : PySem.W.nsIn K mainGlobals "Unknown" = some (some (.ref C_Unknown)))
    (g_RowsError : PySem.W.nsIn K mainGlobals "RowsError" = some (some (.ref C_RowsError)))
    (g_law_is : PySem.W.nsIn K mainGlobals "_law_is" = some (some (.ref f_law_is)))
    (g_law_drawn : PySem.W.nsIn K mainGlobals "_law_drawn" = some (some (.ref f_law_drawn)))
    (g_law_written : PySem.W.nsIn K mainGlobals "_law_written" = some (some (.ref f_law_written)))
    (g_table_text : PySem.W.nsIn K mainGlobals "table_text" = some (some (.ref f_table_text)))
    (g_law_reads : PySem.W.nsIn K mainGlobals "_law_reads" = some (some (.ref f_law_reads)))
    (g_law_edited : PySem.W.nsIn K mainGlobals "_law_edited" = some (some (.ref f_law_edited)))
    (g_law_answers : PySem.W.nsIn K mainGlobals "_law_answers" = some (some (.ref f_law_answers)))
    (g_law : PySem.W.nsIn K mainGlobals "law" = some (some (.ref f_law)))
    (a_BadTableD_initD : PySem.W.findIn K (.ref C_BadTable) "__init__" = some (some (.ref f_BadTableD_initD)))
    (a_TableD_iterD : PySem.W.findIn K (.ref C_Table) "__iter__" = some (some (.ref f_TableD_iterD)))
    (a_BadTextD_initD : PySem.W.findIn K (.ref C_BadText) "__init__" = some (some (.ref f_BadTextD_initD)))
    (a_TableD_initD : PySem.W.findIn K (.ref C_Table) "__init__" = some (some (.ref f_TableD_initD)))
    (a_TableD_eqD : PySem.W.findIn K (.ref C_Table) "__eq__" = some (some (.ref f_TableD_eqD)))
    (a_TableD_lenD : PySem.W.findIn K (.ref C_Table) "__len__" = some (some (.ref f_TableD_lenD)))
    (l_is_name : K.lookup f_is_name = some ⟨oc_is_name, od_is_name, .func (PySem.W.fnOf "is_name" "is_name" (defArgs s_is_name) (defBody s_is_name) (defScope s_is_name) .none kV_is_name dc_is_name pm_is_name an_is_name cd_is_name ct_is_name), sl_is_name⟩)
    (c_is_name : PySem.W.codeIn K cd_is_name "is_name" = true)
    (k_is_name : PySem.W.keepIn K (.ref f_is_name) = true)
    (l_first_misnamed : K.lookup f_first_misnamed = some ⟨oc_first_misnamed, od_first_misnamed, .func (PySem.W.fnOf "first_misnamed" "first_misnamed" (defArgs s_first_misnamed) (defBody s_first_misnamed) (defScope s_first_misnamed) .none kV_first_misnamed dc_first_misnamed pm_first_misnamed an_first_misnamed cd_first_misnamed ct_first_misnamed), sl_first_misnamed⟩)
    (c_first_misnamed : PySem.W.codeIn K cd_first_misnamed "first_misnamed" = true)
    (k_first_misnamed : PySem.W.keepIn K (.ref f_first_misnamed) = true)
    (l_is_row : K.lookup f_is_row = some ⟨oc_is_row, od_is_row, .func (PySem.W.fnOf "is_row" "is_row" (defArgs s_is_row) (defBody s_is_row) (defScope s_is_row) .none kV_is_row dc_is_row pm_is_row an_is_row cd_is_row ct_is_row), sl_is_row⟩)
    (c_is_row : PySem.W.codeIn K cd_is_row "is_row" = true)
    (k_is_row : PySem.W.keepIn K (.ref f_is_row) = true)
    (l_common_names : K.lookup f_common_names = some ⟨oc_common_names, od_common_names, .func (PySem.W.fnOf "common_names" "common_names" (defArgs s_common_names) (defBody s_common_names) (defScope s_common_names) .none kV_common_names dc_common_names pm_common_names an_common_names cd_common_names ct_common_names), sl_common_names⟩)
    (c_common_names : PySem.W.codeIn K cd_common_names "common_names" = true)
    (k_common_names : PySem.W.keepIn K (.ref f_common_names) = true)
    (l_BadTableD_initD : K.lookup f_BadTableD_initD = some ⟨oc_BadTableD_initD, od_BadTableD_initD, .func (PySem.W.fnOf "__init__" "BadTable.__init__" (defArgs s_BadTableD_initD) (defBody s_BadTableD_initD) (defScope s_BadTableD_initD) .none kV_BadTableD_initD dc_BadTableD_initD pm_BadTableD_initD an_BadTableD_initD cd_BadTableD_initD ct_BadTableD_initD), sl_BadTableD_initD⟩)
    (c_BadTableD_initD : PySem.W.codeIn K cd_BadTableD_initD "BadTable.__init__" = true)
    (k_BadTableD_initD : PySem.W.keepIn K (.ref f_BadTableD_initD) = true)
    (l_TableD_initD : K.lookup f_TableD_initD = some ⟨oc_TableD_initD, od_TableD_initD, .func (PySem.W.fnOf "__init__" "Table.__init__" (defArgs s_TableD_initD) (defBody s_TableD_initD) (defScope s_TableD_initD) (.ref t_TableD_initD) kV_TableD_initD dc_TableD_initD pm_TableD_initD an_TableD_initD cd_TableD_initD ct_TableD_initD), sl_TableD_initD⟩)
    (c_TableD_initD : PySem.W.codeIn K cd_TableD_initD "Table.__init__" = true)
    (k_TableD_initD : PySem.W.keepIn K (.ref f_TableD_initD) = true)
    (t1_TableD_initD : K.lookup t_TableD_initD = some to_TableD_initD)
    (t2_TableD_initD : to_TableD_initD.data = .seq ti_TableD_initD.toArray tn_TableD_initD)
    (t3_TableD_initD : Vals [(V.ref e_TableD_initD)] ti_TableD_initD)
    (l_TableD_iterD : K.lookup f_TableD_iterD = some ⟨oc_TableD_iterD, od_TableD_iterD, .func (PySem.W.fnOf "__iter__" "Table.__iter__" (defArgs s_TableD_iterD) (defBody s_TableD_iterD) (defScope s_TableD_iterD) .none kV_TableD_iterD dc_TableD_iterD pm_TableD_iterD an_TableD_iterD cd_TableD_iterD ct_TableD_iterD), sl_TableD_iterD⟩)
    (c_TableD_iterD : PySem.W.codeIn K cd_TableD_iterD "Table.__iter__" = true)
    (k_TableD_iterD : PySem.W.keepIn K (.ref f_TableD_iterD) = true)
    (l_TableD_lenD : K.lookup f_TableD_lenD = some ⟨oc_TableD_lenD, od_TableD_lenD, .func (PySem.W.fnOf "__len__" "Table.__len__" (defArgs s_TableD_lenD) (defBody s_TableD_lenD) (defScope s_TableD_lenD) .none kV_TableD_lenD dc_TableD_lenD pm_TableD_lenD an_TableD_lenD cd_TableD_lenD ct_TableD_lenD), sl_TableD_lenD⟩)
    (c_TableD_lenD : PySem.W.codeIn K cd_TableD_lenD "Table.__len__" = true)
    (k_TableD_lenD : PySem.W.keepIn K (.ref f_TableD_lenD) = true)
    (l_TableD_eqD : K.lookup f_TableD_eqD = some ⟨oc_TableD_eqD, od_TableD_eqD, .func (PySem.W.fnOf "__eq__" "Table.__eq__" (defArgs s_TableD_eqD) (defBody s_TableD_eqD) (defScope s_TableD_eqD) .none kV_TableD_eqD dc_TableD_eqD pm_TableD_eqD an_TableD_eqD cd_TableD_eqD ct_TableD_eqD), sl_TableD_eqD⟩)
    (c_TableD_eqD : PySem.W.codeIn K cd_TableD_eqD "Table.__eq__" = true)
    (k_TableD_eqD : PySem.W.keepIn K (.ref f_TableD_eqD) = true)
    (l_table_text : K.lookup f_table_text = some ⟨oc_table_text, od_table_text, .func (PySem.W.fnOf "table_text" "table_text" (defArgs s_table_text) (defBody s_table_text) (defScope s_table_text) .none kV_table_text dc_table_text pm_table_text an_table_text cd_table_text ct_table_text), sl_table_text⟩)
    (c_table_text : PySem.W.codeIn K cd_table_text "table_text" = true)
    (k_table_text : PySem.W.keepIn K (.ref f_table_text) = true)
    (l_BadTextD_initD : K.lookup f_BadTextD_initD = some ⟨oc_BadTextD_initD, od_BadTextD_initD, .func (PySem.W.fnOf "__init__" "BadText.__init__" (defArgs s_BadTextD_initD) (defBody s_BadTextD_initD) (defScope s_BadTextD_initD) .none kV_BadTextD_initD dc_BadTextD_initD pm_BadTextD_initD an_BadTextD_initD cd_BadTextD_initD ct_BadTextD_initD), sl_BadTextD_initD⟩)
    (c_BadTextD_initD : PySem.W.codeIn K cd_BadTextD_initD "BadText.__init__" = true)
    (k_BadTextD_initD : PySem.W.keepIn K (.ref f_BadTextD_initD) = true)
    (l_read_table : K.lookup f_read_table = some ⟨oc_read_table, od_read_table, .func (PySem.W.fnOf "read_table" "read_table" (defArgs s_read_table) (defBody s_read_table) (defScope s_read_table) .none kV_read_table dc_read_table pm_read_table an_read_table cd_read_table ct_read_table), sl_read_table⟩)
    (c_read_table : PySem.W.codeIn K cd_read_table "read_table" = true)
    (k_read_table : PySem.W.keepIn K (.ref f_read_table) = true)
    (l_law_cell : K.lookup f_law_cell = some ⟨oc_law_cell, od_law_cell, .func (PySem.W.fnOf "_law_cell" "_law_cell" (defArgs s_law_cell) (defBody s_law_cell) (defScope s_law_cell) .none kV_law_cell dc_law_cell pm_law_cell an_law_cell cd_law_cell ct_law_cell), sl_law_cell⟩)
    (c_law_cell : PySem.W.codeIn K cd_law_cell "_law_cell" = true)
    (k_law_cell : PySem.W.keepIn K (.ref f_law_cell) = true)
    (l_law_pool : K.lookup f_law_pool = some ⟨oc_law_pool, od_law_pool, .func (PySem.W.fnOf "_law_pool" "_law_pool" (defArgs s_law_pool) (defBody s_law_pool) (defScope s_law_pool) .none kV_law_pool dc_law_pool pm_law_pool an_law_pool cd_law_pool ct_law_pool), sl_law_pool⟩)
    (c_law_pool : PySem.W.codeIn K cd_law_pool "_law_pool" = true)
    (k_law_pool : PySem.W.keepIn K (.ref f_law_pool) = true)
    (l_law_word : K.lookup f_law_word = some ⟨oc_law_word, od_law_word, .func (PySem.W.fnOf "_law_word" "_law_word" (defArgs s_law_word) (defBody s_law_word) (defScope s_law_word) .none kV_law_word dc_law_word pm_law_word an_law_word cd_law_word ct_law_word), sl_law_word⟩)
    (c_law_word : PySem.W.codeIn K cd_law_word "_law_word" = true)
    (k_law_word : PySem.W.keepIn K (.ref f_law_word) = true)
    (l_law_new : K.lookup f_law_new = some ⟨oc_law_new, od_law_new, .func (PySem.W.fnOf "_law_new" "_law_new" (defArgs s_law_new) (defBody s_law_new) (defScope s_law_new) .none kV_law_new dc_law_new pm_law_new an_law_new cd_law_new ct_law_new), sl_law_new⟩)
    (c_law_new : PySem.W.codeIn K cd_law_new "_law_new" = true)
    (k_law_new : PySem.W.keepIn K (.ref f_law_new) = true)
    (l_law_marks : K.lookup f_law_marks = some ⟨oc_law_marks, od_law_marks, .func (PySem.W.fnOf "_law_marks" "_law_marks" (defArgs s_law_marks) (defBody s_law_marks) (defScope s_law_marks) .none kV_law_marks dc_law_marks pm_law_marks an_law_marks cd_law_marks ct_law_marks), sl_law_marks⟩)
    (c_law_marks : PySem.W.codeIn K cd_law_marks "_law_marks" = true)
    (k_law_marks : PySem.W.keepIn K (.ref f_law_marks) = true)
    (l_law_drawn : K.lookup f_law_drawn = some ⟨oc_law_drawn, od_law_drawn, .func (PySem.W.fnOf "_law_drawn" "_law_drawn" (defArgs s_law_drawn) (defBody s_law_drawn) (defScope s_law_drawn) .none kV_law_drawn dc_law_drawn pm_law_drawn an_law_drawn cd_law_drawn ct_law_drawn), sl_law_drawn⟩)
    (c_law_drawn : PySem.W.codeIn K cd_law_drawn "_law_drawn" = true)
    (k_law_drawn : PySem.W.keepIn K (.ref f_law_drawn) = true)
    (l_law_written : K.lookup f_law_written = some ⟨oc_law_written, od_law_written, .func (PySem.W.fnOf "_law_written" "_law_written" (defArgs s_law_written) (defBody s_law_written) (defScope s_law_written) .none kV_law_written dc_law_written pm_law_written an_law_written cd_law_written ct_law_written), sl_law_written⟩)
    (c_law_written : PySem.W.codeIn K cd_law_written "_law_written" = true)
    (k_law_written : PySem.W.keepIn K (.ref f_law_written) = true)
    (l_law_sign : K.lookup f_law_sign = some ⟨oc_law_sign, od_law_sign, .func (PySem.W.fnOf "_law_sign" "_law_sign" (defArgs s_law_sign) (defBody s_law_sign) (defScope s_law_sign) .none kV_law_sign dc_law_sign pm_law_sign an_law_sign cd_law_sign ct_law_sign), sl_law_sign⟩)
    (c_law_sign : PySem.W.codeIn K cd_law_sign "_law_sign" = true)
    (k_law_sign : PySem.W.keepIn K (.ref f_law_sign) = true)
    (l_law_lines_edited : K.lookup f_law_lines_edited = some ⟨oc_law_lines_edited, od_law_lines_edited, .func (PySem.W.fnOf "_law_lines_edited" "_law_lines_edited" (defArgs s_law_lines_edited) (defBody s_law_lines_edited) (defScope s_law_lines_edited) .none kV_law_lines_edited dc_law_lines_edited pm_law_lines_edited an_law_lines_edited cd_law_lines_edited ct_law_lines_edited), sl_law_lines_edited⟩)
    (c_law_lines_edited : PySem.W.codeIn K cd_law_lines_edited "_law_lines_edited" = true)
    (k_law_lines_edited : PySem.W.keepIn K (.ref f_law_lines_edited) = true)
    (l_law_edited : K.lookup f_law_edited = some ⟨oc_law_edited, od_law_edited, .func (PySem.W.fnOf "_law_edited" "_law_edited" (defArgs s_law_edited) (defBody s_law_edited) (defScope s_law_edited) .none kV_law_edited dc_law_edited pm_law_edited an_law_edited cd_law_edited ct_law_edited), sl_law_edited⟩)
    (c_law_edited : PySem.W.codeIn K cd_law_edited "_law_edited" = true)
    (k_law_edited : PySem.W.keepIn K (.ref f_law_edited) = true)
    (l_law_different : K.lookup f_law_different = some ⟨oc_law_different, od_law_different, .func (PySem.W.fnOf "_law_different" "_law_different" (defArgs s_law_different) (defBody s_law_different) (defScope s_law_different) .none kV_law_different dc_law_different pm_law_different an_law_different cd_law_different ct_law_different), sl_law_different⟩)
    (c_law_different : PySem.W.codeIn K cd_law_different "_law_different" = true)
    (k_law_different : PySem.W.keepIn K (.ref f_law_different) = true)
    (l_law_described : K.lookup f_law_described = some ⟨oc_law_described, od_law_described, .func (PySem.W.fnOf "_law_described" "_law_described" (defArgs s_law_described) (defBody s_law_described) (defScope s_law_described) .none kV_law_described dc_law_described pm_law_described an_law_described cd_law_described ct_law_described), sl_law_described⟩)
    (c_law_described : PySem.W.codeIn K cd_law_described "_law_described" = true)
    (k_law_described : PySem.W.keepIn K (.ref f_law_described) = true)
    (l_law_is : K.lookup f_law_is = some ⟨oc_law_is, od_law_is, .func (PySem.W.fnOf "_law_is" "_law_is" (defArgs s_law_is) (defBody s_law_is) (defScope s_law_is) .none kV_law_is dc_law_is pm_law_is an_law_is cd_law_is ct_law_is), sl_law_is⟩)
    (c_law_is : PySem.W.codeIn K cd_law_is "_law_is" = true)
    (k_law_is : PySem.W.keepIn K (.ref f_law_is) = true)
    (l_law_answers : K.lookup f_law_answers = some ⟨oc_law_answers, od_law_answers, .func (PySem.W.fnOf "_law_answers" "_law_answers" (defArgs s_law_answers) (defBody s_law_answers) (defScope s_law_answers) .none kV_law_answers dc_law_answers pm_law_answers an_law_answers cd_law_answers ct_law_answers), sl_law_answers⟩)
    (c_law_answers : PySem.W.codeIn K cd_law_answers "_law_answers" = true)
    (k_law_answers : PySem.W.keepIn K (.ref f_law_answers) = true)
    (l_law_reads : K.lookup f_law_reads = some ⟨oc_law_reads, od_law_reads, .func (PySem.W.fnOf "_law_reads" "_law_reads" (defArgs s_law_reads) (defBody s_law_reads) (defScope s_law_reads) .none kV_law_reads dc_law_reads pm_law_reads an_law_reads cd_law_reads ct_law_reads), sl_law_reads⟩)
    (c_law_reads : PySem.W.codeIn K cd_law_reads "_law_reads" = true)
    (k_law_reads : PySem.W.keepIn K (.ref f_law_reads) = true)
    (l_law : K.lookup f_law = some ⟨oc_law, od_law, .func (PySem.W.fnOf "law" "law" (defArgs s_law) (defBody s_law) (defScope s_law) .none kV_law dc_law pm_law an_law cd_law ct_law), sl_law⟩)
    (c_law : PySem.W.codeIn K cd_law "law" = true)
    (k_law : PySem.W.keepIn K (.ref f_law) = true)
    (xl_BadTable : K.lookup C_BadTable = some (PySem.excClassObj xnm_BadTable xq_BadTable C_BadTable xN_BadTable xbs_BadTable xbm_BadTable true xsn_BadTable xsub_BadTable xab_BadTable xcol_BadTable xdd_BadTable xk0_BadTable xk1_BadTable xk2_BadTable xk3_BadTable xk5_BadTable "ValueError.__new__"))
    (xr_BadTable : PySem.HandSPX.refsVE xbm_BadTable = true)
    (xl_BadText : K.lookup C_BadText = some (PySem.excClassObj xnm_BadText xq_BadText C_BadText xN_BadText xbs_BadText xbm_BadText true xsn_BadText xsub_BadText xab_BadText xcol_BadText xdd_BadText xk0_BadText xk1_BadText xk2_BadText xk3_BadText xk5_BadText "ValueError.__new__"))
    (xr_BadText : PySem.HandSPX.refsVE xbm_BadText = true)
    (z1_e_TableD_initD : K.lookup e_TableD_initD = some o_e_TableD_initD)
    (z2_e_TableD_initD : o_e_TableD_initD.data = .seq ti_e_TableD_initD.toArray tn_e_TableD_initD)
    (z3_e_TableD_initD : o_e_TableD_initD.cls = .type "tuple")
    (z4_e_TableD_initD : Vals [] ti_e_TableD_initD)
    (z5_e_TableD_initD : ti_e_TableD_initD.length ≤ 4096)
    (b_len : PySem.W.nsIn K mainGlobals "len" = some none)
    (b_LONGEST_NAME : PySem.W.nsIn K mainGlobals "LONGEST_NAME" = some (some (.int 8 tok_LONGEST_NAME)))
    (b_LETTERS : PySem.W.nsIn K mainGlobals "LETTERS" = some (some (.str "abcdefghijklmnopqrstuvwxyz" tok_LETTERS)))
    (b_all : PySem.W.nsIn K mainGlobals "all" = some none)
    (b_range : PySem.W.nsIn K mainGlobals "range" = some none)
    (rd_Table : PySem.W.readsIn K C_Table (.type "type") = true)
    (sga_Table : PySem.W.specialIn K (.ref C_Table) "__getattribute__" = some (some (.builtin "type.__getattribute__")))
    (cv_Table_MOST_COLUMNS : PySem.W.findCls K (.ref C_Table) (.type "type") "MOST_COLUMNS" = some (.val (.int 12 tok_Table_MOST_COLUMNS)))
    (bx_BadTable : PySem.W.subIn K (.ref C_BadTable) (.type "BaseException") = some true)
    (ty_BadTable : PySem.W.typeIn K (.ref C_BadTable) = some (.type "type"))
    (kc_BadTable : PySem.W.keepIn K (.ref C_BadTable) = true)
    (sa_BadTable : PySem.W.findIn K (.ref C_BadTable) "__setattr__" = some (some (.builtin "object.__setattr__")))
    (tf_BadTableD_initD : PySem.W.typeIn K (.ref f_BadTableD_initD) = some (.type "function"))
    (na_BadTable_part : PySem.W.findIn K (.ref C_BadTable) "part" = some none)
    (na_BadTable_index : PySem.W.findIn K (.ref C_BadTable) "index" = some none)
    (cv_Table_MOST_ROWS : PySem.W.findCls K (.ref C_Table) (.type "type") "MOST_ROWS" = some (.val (.int 48 tok_Table_MOST_ROWS)))
    (b_tuple : PySem.W.nsIn K mainGlobals "tuple" = some none)
    (pg_Table : PySem.W.plainGet K C_Table Str.empty = true)
    (hd_Table : PySem.W.hasDictIn K C_Table = true)
    (po_Table : PySem.W.plainOver K C_Table = true)
    (sa_Table : PySem.W.findIn K (.ref C_Table) "__setattr__" = some (some (.builtin "object.__setattr__")))
    (na_Table_columns : PySem.W.findIn K (.ref C_Table) "columns" = some none)
    (na_Table_rows : PySem.W.findIn K (.ref C_Table) "rows" = some none)
    (b_iter : PySem.W.nsIn K mainGlobals "iter" = some none)
    (b_isinstance : PySem.W.nsIn K mainGlobals "isinstance" = some none)
    (ic_Table : PySem.W.isClsIn K C_Table = true)
    (ty_Table : PySem.W.typeIn K (.ref C_Table) = some (.type "type"))
    (su_Table_NoneType : PySem.W.subIn K (.type "NoneType") (.ref C_Table) = some false)
    (su_Table_bool : PySem.W.subIn K (.type "bool") (.ref C_Table) = some false)
    (su_Table_int : PySem.W.subIn K (.type "int") (.ref C_Table) = some false)
    (su_Table_str : PySem.W.subIn K (.type "str") (.ref C_Table) = some false)
    (su_Table_list : PySem.W.subIn K (.type "list") (.ref C_Table) = some false)
    (su_Table_tuple : PySem.W.subIn K (.type "tuple") (.ref C_Table) = some false)
    (ha_Table : PySem.W.findIn K (.ref C_Table) "__class__" = some (some (.builtin "object.__class__")))
    (hm_Table : PySem.W.mroIn K C_Table (.type "object") = some true)
    (hn_get : PySem.W.specialIn K (.builtin "object.__class__") "__get__" = some (some (.builtin "getset_descriptor.__get__")))
    (ht_get : PySem.W.takesIn K (.builtin "object.__class__") = some true)
    (i_TableD_iterD : PySem.W.isFn K (.ref f_TableD_iterD) = true)
    (bx_BadText : PySem.W.subIn K (.ref C_BadText) (.type "BaseException") = some true)
    (ty_BadText : PySem.W.typeIn K (.ref C_BadText) = some (.type "type"))
    (kc_BadText : PySem.W.keepIn K (.ref C_BadText) = true)
    (sa_BadText : PySem.W.findIn K (.ref C_BadText) "__setattr__" = some (some (.builtin "object.__setattr__")))
    (tf_BadTextD_initD : PySem.W.typeIn K (.ref f_BadTextD_initD) = some (.type "function"))
    (na_BadText_line : PySem.W.findIn K (.ref C_BadText) "line" = some none)
    (mkc_Table : PySem.W.makesIn K C_Table = true)
    (kc_Table : PySem.W.keepIn K (.ref C_Table) = true)
    (i_TableD_initD : PySem.W.isFn K (.ref f_TableD_initD) = true)
    (b_abs : PySem.W.nsIn K mainGlobals "abs" = some none)
    (b_int : PySem.W.nsIn K mainGlobals "int" = some none)
    (b_list : PySem.W.nsIn K mainGlobals "list" = some none)
    (nf_Table : PySem.W.notFirst K C_Table (.ref C_Table) = true)
    (i_TableD_eqD : PySem.W.isFn K (.ref f_TableD_eqD) = true)
    (eg_BadText : PySem.W.findIn K (.ref C_BadText) "__getattribute__" = some (some (.builtin "BaseException.__getattribute__")))
    (ek_BadText : PySem.W.findIn K (.ref C_BadText) "__getattr__" = some none)
    (hd_BadText : PySem.W.hasDictIn K C_BadText = true)
    (ha_BadText : PySem.W.findIn K (.ref C_BadText) "__class__" = some (some (.builtin "object.__class__")))
    (hm_BadText : PySem.W.mroIn K C_BadText (.type "object") = some true)
    (ic_Impossible : PySem.W.isClsIn K C_Impossible = true)
    (ty_Impossible : PySem.W.typeIn K (.ref C_Impossible) = some (.type "type"))
    (su_Impossible_of_BadText : PySem.W.subIn K (.ref C_BadText) (.ref C_Impossible) = some false)
    (su_Impossible_of_Impossible : PySem.W.subIn K (.ref C_Impossible) (.ref C_Impossible) = some true)
    (ic_Unknown : PySem.W.isClsIn K C_Unknown = true)
    (ty_Unknown : PySem.W.typeIn K (.ref C_Unknown) = some (.type "type"))
    (su_Unknown_of_BadText : PySem.W.subIn K (.ref C_BadText) (.ref C_Unknown) = some false)
    (su_Unknown_of_Unknown : PySem.W.subIn K (.ref C_Unknown) (.ref C_Unknown) = some true)
    (b_ValueError : PySem.W.nsIn K mainGlobals "ValueError" = some none)
    (kt_BadText_ValueError : PySem.W.subIn K (.ref C_BadText) (.type "ValueError") = some true)
    (ic_RowsError : PySem.W.isClsIn K C_RowsError = true)
    (ty_RowsError : PySem.W.typeIn K (.ref C_RowsError) = some (.type "type"))
    (su_RowsError_of_BadText : PySem.W.subIn K (.ref C_BadText) (.ref C_RowsError) = some true)
    (su_BadText_of_BadText : PySem.W.subIn K (.ref C_BadText) (.ref C_BadText) = some true)
    (b_bool : PySem.W.nsIn K mainGlobals "bool" = some none)
    (b_str : PySem.W.nsIn K mainGlobals "str" = some none)
    : ∃ fd : FuncData, (∀ (s : Shared) (v : Value), BindsTo s fd ⟨[v], []⟩ [("script", v)]) ∧ ∀ base : Heap, K.In base → base.Ns mainGlobals mg → FnOk l.prog w K mg base (L2.CX l.prog w) 7 fa fd ["script"] (spLaw K) := by
  have e := hfa.symm.trans (PySem.W.mg_of X G g_law)
  cases e
  have F_is_name := fun_mk (st := s_is_name) l_is_name c_is_name k_is_name
  have B_is_name := F_is_name.binds (ps := ["text"]) fun _ _ _ _ _ _ us hl => match us, hl with | [_], _ => rfl
  have F_first_misnamed := fun_mk (st := s_first_misnamed) l_first_misnamed c_first_misnamed k_first_misnamed
  have B_first_misnamed := F_first_misnamed.binds (ps := ["columns"]) fun _ _ _ _ _ _ us hl => match us, hl with | [_], _ => rfl
  have F_is_row := fun_mk (st := s_is_row) l_is_row c_is_row k_is_row
  have B_is_row := F_is_row.binds (ps := ["columns", "row"]) fun _ _ _ _ _ _ us hl => match us, hl with | [_, _], _ => rfl
  have F_common_names := fun_mk (st := s_common_names) l_common_names c_common_names k_common_names
  have B_common_names := F_common_names.binds (ps := ["columns", "row"]) fun _ _ _ _ _ _ us hl => match us, hl with | [_, _], _ => rfl
  have F_BadTableD_initD := fun_mk (st := s_BadTableD_initD) l_BadTableD_initD c_BadTableD_initD k_BadTableD_initD
  have B_BadTableD_initD := F_BadTableD_initD.binds (ps := ["self", "part", "index"]) fun _ _ _ _ _ _ us hl => match us, hl with | [_, _, _], _ => rfl
  have F_TableD_initD : FunD K "__init__" "Table.__init__" (defArgs s_TableD_initD) (defBody s_TableD_initD) (defScope s_TableD_initD) [(V.ref e_TableD_initD)] [] f_TableD_initD _ := ⟨⟨oc_TableD_initD, od_TableD_initD, .ref t_TableD_initD, kV_TableD_initD, dc_TableD_initD, pm_TableD_initD, an_TableD_initD, cd_TableD_initD, ct_TableD_initD, sl_TableD_initD, rfl, l_TableD_initD, c_TableD_initD, .inr ⟨by simp, t_TableD_initD, to_TableD_initD, ti_TableD_initD, tn_TableD_initD, rfl, t1_TableD_initD, t2_TableD_initD, t3_TableD_initD⟩, .inl rfl⟩, k_TableD_initD⟩
  have B_TableD_initD := F_TableD_initD.binds1 (ps := ["self", "columns", "rows"]) 3 1 (by simp) rfl fun _ _ _ _ _ _ _ us its hl hd => match us, its, hl, hd with | [_, _, _], [_], _, _ => ⟨_, rfl, rfl⟩
  have B1_TableD_initD := F_TableD_initD.binds1 (ps := ["self", "columns", "rows"]) 2 0 (by simp) rfl fun _ _ _ _ _ _ _ us its hl hd => match us, its, hl, hd with | [_, _], [_], _, _ => ⟨_, rfl, rfl⟩
  have F_TableD_iterD := fun_mk (st := s_TableD_iterD) l_TableD_iterD c_TableD_iterD k_TableD_iterD
  have B_TableD_iterD := F_TableD_iterD.binds (ps := ["self"]) fun _ _ _ _ _ _ us hl => match us, hl with | [_], _ => rfl
  have F_TableD_lenD := fun_mk (st := s_TableD_lenD) l_TableD_lenD c_TableD_lenD k_TableD_lenD
  have B_TableD_lenD := F_TableD_lenD.binds (ps := ["self"]) fun _ _ _ _ _ _ us hl => match us, hl with | [_], _ => rfl
  have F_TableD_eqD := fun_mk (st := s_TableD_eqD) l_TableD_eqD c_TableD_eqD k_TableD_eqD
  have B_TableD_eqD := F_TableD_eqD.binds (ps := ["self", "other"]) fun _ _ _ _ _ _ us hl => match us, hl with | [_, _], _ => rfl
  have F_table_text := fun_mk (st := s_table_text) l_table_text c_table_text k_table_text
  have B_table_text := F_table_text.binds (ps := ["table"]) fun _ _ _ _ _ _ us hl => match us, hl with | [_], _ => rfl
  have F_BadTextD_initD := fun_mk (st := s_BadTextD_initD) l_BadTextD_initD c_BadTextD_initD k_BadTextD_initD
  have B_BadTextD_initD := F_BadTextD_initD.binds (ps := ["self", "line"]) fun _ _ _ _ _ _ us hl => match us, hl with | [_, _], _ => rfl
  have F_read_table := fun_mk (st := s_read_table) l_read_table c_read_table k_read_table
  have B_read_table := F_read_table.binds (ps := ["text"]) fun _ _ _ _ _ _ us hl => match us, hl with | [_], _ => rfl
  have F_law_cell := fun_mk (st := s_law_cell) l_law_cell c_law_cell k_law_cell
  have B_law_cell := F_law_cell.binds (ps := ["script", "k"]) fun _ _ _ _ _ _ us hl => match us, hl with | [_, _], _ => rfl
  have F_law_pool := fun_mk (st := s_law_pool) l_law_pool c_law_pool k_law_pool
  have B_law_pool := F_law_pool.binds (ps := ["script", "k", "count"]) fun _ _ _ _ _ _ us hl => match us, hl with | [_, _, _], _ => rfl
  have F_law_word := fun_mk (st := s_law_word) l_law_word c_law_word k_law_word
  have B_law_word := F_law_word.binds (ps := ["pool", "at"]) fun _ _ _ _ _ _ us hl => match us, hl with | [_, _], _ => rfl
  have F_law_new := fun_mk (st := s_law_new) l_law_new c_law_new k_law_new
  have B_law_new := F_law_new.binds (ps := ["names", "word"]) fun _ _ _ _ _ _ us hl => match us, hl with | [_, _], _ => rfl
  have F_law_marks := fun_mk (st := s_law_marks) l_law_marks c_law_marks k_law_marks
  have B_law_marks := F_law_marks.binds (ps := ["columns", "pool", "at"]) fun _ _ _ _ _ _ us hl => match us, hl with | [_, _, _], _ => rfl
  have F_law_drawn := fun_mk (st := s_law_drawn) l_law_drawn c_law_drawn k_law_drawn
  have B_law_drawn := F_law_drawn.binds (ps := ["script"]) fun _ _ _ _ _ _ us hl => match us, hl with | [_], _ => rfl
  have F_law_written := fun_mk (st := s_law_written) l_law_written c_law_written k_law_written
  have B_law_written := F_law_written.binds (ps := ["columns", "rows"]) fun _ _ _ _ _ _ us hl => match us, hl with | [_, _], _ => rfl
  have F_law_sign := fun_mk (st := s_law_sign) l_law_sign c_law_sign k_law_sign
  have B_law_sign := F_law_sign.binds (ps := ["draw"]) fun _ _ _ _ _ _ us hl => match us, hl with | [_], _ => rfl
  have F_law_lines_edited := fun_mk (st := s_law_lines_edited) l_law_lines_edited c_law_lines_edited k_law_lines_edited
  have B_law_lines_edited := F_law_lines_edited.binds (ps := ["lines", "way", "pool", "at"]) fun _ _ _ _ _ _ us hl => match us, hl with | [_, _, _, _], _ => rfl
  have F_law_edited := fun_mk (st := s_law_edited) l_law_edited c_law_edited k_law_edited
  have B_law_edited := F_law_edited.binds (ps := ["text", "pool", "at"]) fun _ _ _ _ _ _ us hl => match us, hl with | [_, _, _], _ => rfl
  have F_law_different := fun_mk (st := s_law_different) l_law_different c_law_different k_law_different
  have B_law_different := F_law_different.binds (ps := ["words", "known"]) fun _ _ _ _ _ _ us hl => match us, hl with | [_, _], _ => rfl
  have F_law_described := fun_mk (st := s_law_described) l_law_described c_law_described k_law_described
  have B_law_described := F_law_described.binds (ps := ["text"]) fun _ _ _ _ _ _ us hl => match us, hl with | [_], _ => rfl
  have F_law_is := fun_mk (st := s_law_is) l_law_is c_law_is k_law_is
  have B_law_is := F_law_is.binds (ps := ["found", "columns", "rows"]) fun _ _ _ _ _ _ us hl => match us, hl with | [_, _, _], _ => rfl
  have F_law_answers := fun_mk (st := s_law_answers) l_law_answers c_law_answers k_law_answers
  have B_law_answers := F_law_answers.binds (ps := ["text"]) fun _ _ _ _ _ _ us hl => match us, hl with | [_], _ => rfl
  have F_law_reads := fun_mk (st := s_law_reads) l_law_reads c_law_reads k_law_reads
  have B_law_reads := F_law_reads.binds (ps := ["text", "columns", "rows"]) fun _ _ _ _ _ _ us hl => match us, hl with | [_, _, _], _ => rfl
  have F_law := fun_mk (st := s_law) l_law c_law k_law
  have B_law := F_law.binds (ps := ["script"]) fun _ _ _ _ _ _ us hl => match us, hl with | [_], _ => rfl
  let T : Txt K mg := {
    k_is_name := k_is_name,
    f_is_name := f_is_name, fd_is_name := _, F_is_name := F_is_name, bd_is_name := B_is_name,
    k_first_misnamed := k_first_misnamed,
    f_first_misnamed := f_first_misnamed, fd_first_misnamed := _, F_first_misnamed := F_first_misnamed, bd_first_misnamed := B_first_misnamed,
    k_is_row := k_is_row,
    f_is_row := f_is_row, fd_is_row := _, F_is_row := F_is_row, bd_is_row := B_is_row,
    k_common_names := k_common_names,
    f_common_names := f_common_names, fd_common_names := _, F_common_names := F_common_names, bd_common_names := B_common_names,
    k_BadTableD_initD := k_BadTableD_initD,
    f_BadTableD_initD := f_BadTableD_initD, fd_BadTableD_initD := _, F_BadTableD_initD := F_BadTableD_initD, bd_BadTableD_initD := B_BadTableD_initD,
    e_TableD_initD := e_TableD_initD,
    k_TableD_initD := k_TableD_initD,
    f_TableD_initD := f_TableD_initD, fd_TableD_initD := _, F_TableD_initD := F_TableD_initD, bd_TableD_initD := binds0 B_TableD_initD,
    ds1_TableD_initD := B1_TableD_initD.choose, dv1_TableD_initD := B1_TableD_initD.choose_spec.1, bd1_TableD_initD := B1_TableD_initD.choose_spec.2,
    k_TableD_iterD := k_TableD_iterD,
    f_TableD_iterD := f_TableD_iterD, fd_TableD_iterD := _, F_TableD_iterD := F_TableD_iterD, bd_TableD_iterD := B_TableD_iterD,
    k_TableD_lenD := k_TableD_lenD,
    f_TableD_lenD := f_TableD_lenD, fd_TableD_lenD := _, F_TableD_lenD := F_TableD_lenD, bd_TableD_lenD := B_TableD_lenD,
    k_TableD_eqD := k_TableD_eqD,
    f_TableD_eqD := f_TableD_eqD, fd_TableD_eqD := _, F_TableD_eqD := F_TableD_eqD, bd_TableD_eqD := B_TableD_eqD,
    k_table_text := k_table_text,
    f_table_text := f_table_text, fd_table_text := _, F_table_text := F_table_text, bd_table_text := B_table_text,
    k_BadTextD_initD := k_BadTextD_initD,
    f_BadTextD_initD := f_BadTextD_initD, fd_BadTextD_initD := _, F_BadTextD_initD := F_BadTextD_initD, bd_BadTextD_initD := B_BadTextD_initD,
    k_read_table := k_read_table,
    f_read_table := f_read_table, fd_read_table := _, F_read_table := F_read_table, bd_read_table := B_read_table,
    k_law_cell := k_law_cell,
    f_law_cell := f_law_cell, fd_law_cell := _, F_law_cell := F_law_cell, bd_law_cell := B_law_cell,
    k_law_pool := k_law_pool,
    f_law_pool := f_law_pool, fd_law_pool := _, F_law_pool := F_law_pool, bd_law_pool := B_law_pool,
    k_law_word := k_law_word,
    f_law_word := f_law_word, fd_law_word := _, F_law_word := F_law_word, bd_law_word := B_law_word,
    k_law_new := k_law_new,
    f_law_new := f_law_new, fd_law_new := _, F_law_new := F_law_new, bd_law_new := B_law_new,
    k_law_marks := k_law_marks,
    f_law_marks := f_law_marks, fd_law_marks := _, F_law_marks := F_law_marks, bd_law_marks := B_law_marks,
    k_law_drawn := k_law_drawn,
    f_law_drawn := f_law_drawn, fd_law_drawn := _, F_law_drawn := F_law_drawn, bd_law_drawn := B_law_drawn,
    k_law_written := k_law_written,
    f_law_written := f_law_written, fd_law_written := _, F_law_written := F_law_written, bd_law_written := B_law_written,
    k_law_sign := k_law_sign,
    f_law_sign := f_law_sign, fd_law_sign := _, F_law_sign := F_law_sign, bd_law_sign := B_law_sign,
    k_law_lines_edited := k_law_lines_edited,
    f_law_lines_edited := f_law_lines_edited, fd_law_lines_edited := _, F_law_lines_edited := F_law_lines_edited, bd_law_lines_edited := B_law_lines_edited,
    k_law_edited := k_law_edited,
    f_law_edited := f_law_edited, fd_law_edited := _, F_law_edited := F_law_edited, bd_law_edited := B_law_edited,
    k_law_different := k_law_different,
    f_law_different := f_law_different, fd_law_different := _, F_law_different := F_law_different, bd_law_different := B_law_different,
    k_law_described := k_law_described,
    f_law_described := f_law_described, fd_law_described := _, F_law_described := F_law_described, bd_law_described := B_law_described,
    k_law_is := k_law_is,
    f_law_is := f_law_is, fd_law_is := _, F_law_is := F_law_is, bd_law_is := B_law_is,
    k_law_answers := k_law_answers,
    f_law_answers := f_law_answers, fd_law_answers := _, F_law_answers := F_law_answers, bd_law_answers := B_law_answers,
    k_law_reads := k_law_reads,
    f_law_reads := f_law_reads, fd_law_reads := _, F_law_reads := F_law_reads, bd_law_reads := B_law_reads,
    k_law := k_law,
    f_law := fa, fd_law := _, F_law := F_law, bd_law := B_law,
    C_Table := C_Table,
    C_BadTable := C_BadTable,
    C_BadText := C_BadText,
    C_Impossible := C_Impossible,
    C_Unknown := C_Unknown,
    C_RowsError := C_RowsError,
    tok_LONGEST_NAME := tok_LONGEST_NAME,
    tok_LETTERS := tok_LETTERS,
    tok_Table_MOST_COLUMNS := tok_Table_MOST_COLUMNS,
    tok_Table_MOST_ROWS := tok_Table_MOST_ROWS,
    b_len := PySem.W.mg_none_of X G b_len,
    b_LONGEST_NAME := PySem.W.mg_of X G b_LONGEST_NAME,
    b_LETTERS := PySem.W.mg_of X G b_LETTERS,
    b_all := PySem.W.mg_none_of X G b_all,
    b_range := PySem.W.mg_none_of X G b_range,
    g_is_name := PySem.W.mg_of X G g_is_name,
    g_Table := PySem.W.mg_of X G g_Table,
    rd_Table := rd_Table,
    sga_Table := sga_Table,
    cv_Table_MOST_COLUMNS := cv_Table_MOST_COLUMNS,
    g_BadTable := PySem.W.mg_of X G g_BadTable,
    bx_BadTable := bx_BadTable,
    ty_BadTable := ty_BadTable,
    kc_BadTable := kc_BadTable,
    sa_BadTable := sa_BadTable,
    a_BadTableD_initD := a_BadTableD_initD,
    tf_BadTableD_initD := tf_BadTableD_initD,
    na_BadTable_part := na_BadTable_part,
    na_BadTable_index := na_BadTable_index,
    g_first_misnamed := PySem.W.mg_of X G g_first_misnamed,
    cv_Table_MOST_ROWS := cv_Table_MOST_ROWS,
    g_is_row := PySem.W.mg_of X G g_is_row,
    b_tuple := PySem.W.mg_none_of X G b_tuple,
    pg_Table := pg_Table,
    hd_Table := hd_Table,
    po_Table := po_Table,
    sa_Table := sa_Table,
    na_Table_columns := na_Table_columns,
    g_common_names := PySem.W.mg_of X G g_common_names,
    na_Table_rows := na_Table_rows,
    b_iter := PySem.W.mg_none_of X G b_iter,
    b_isinstance := PySem.W.mg_none_of X G b_isinstance,
    ic_Table := ic_Table,
    ty_Table := ty_Table,
    su_Table_NoneType := su_Table_NoneType,
    su_Table_bool := su_Table_bool,
    su_Table_int := su_Table_int,
    su_Table_str := su_Table_str,
    su_Table_list := su_Table_list,
    su_Table_tuple := su_Table_tuple,
    ha_Table := ha_Table,
    hm_Table := hm_Table,
    hn_get := hn_get,
    ht_get := ht_get,
    a_TableD_iterD := a_TableD_iterD,
    i_TableD_iterD := i_TableD_iterD,
    g_BadText := PySem.W.mg_of X G g_BadText,
    bx_BadText := bx_BadText,
    ty_BadText := ty_BadText,
    kc_BadText := kc_BadText,
    sa_BadText := sa_BadText,
    a_BadTextD_initD := a_BadTextD_initD,
    tf_BadTextD_initD := tf_BadTextD_initD,
    na_BadText_line := na_BadText_line,
    mkc_Table := mkc_Table,
    kc_Table := kc_Table,
    a_TableD_initD := a_TableD_initD,
    i_TableD_initD := i_TableD_initD,
    g_law_cell := PySem.W.mg_of X G g_law_cell,
    b_abs := PySem.W.mg_none_of X G b_abs,
    b_int := PySem.W.mg_none_of X G b_int,
    g_law_pool := PySem.W.mg_of X G g_law_pool,
    g_law_word := PySem.W.mg_of X G g_law_word,
    g_law_new := PySem.W.mg_of X G g_law_new,
    g_law_marks := PySem.W.mg_of X G g_law_marks,
    b_list := PySem.W.mg_none_of X G b_list,
    g_law_lines_edited := PySem.W.mg_of X G g_law_lines_edited,
    g_law_sign := PySem.W.mg_of X G g_law_sign,
    g_law_different := PySem.W.mg_of X G g_law_different,
    nf_Table := nf_Table,
    a_TableD_eqD := a_TableD_eqD,
    i_TableD_eqD := i_TableD_eqD,
    g_law_described := PySem.W.mg_of X G g_law_described,
    g_read_table := PySem.W.mg_of X G g_read_table,
    eg_BadText := eg_BadText,
    ek_BadText := ek_BadText,
    hd_BadText := hd_BadText,
    g_Impossible := PySem.W.mg_of X G g_Impossible,
    ha_BadText := ha_BadText,
    hm_BadText := hm_BadText,
    ic_Impossible := ic_Impossible,
    ty_Impossible := ty_Impossible,
    su_Impossible_of_BadText := su_Impossible_of_BadText,
    su_Impossible_of_Impossible := su_Impossible_of_Impossible,
    g_Unknown := PySem.W.mg_of X G g_Unknown,
    ic_Unknown := ic_Unknown,
    ty_Unknown := ty_Unknown,
    su_Unknown_of_BadText := su_Unknown_of_BadText,
    su_Unknown_of_Unknown := su_Unknown_of_Unknown,
    b_ValueError := PySem.W.mg_none_of X G b_ValueError,
    kt_BadText_ValueError := kt_BadText_ValueError,
    g_RowsError := PySem.W.mg_of X G g_RowsError,
    ic_RowsError := ic_RowsError,
    ty_RowsError := ty_RowsError,
    su_RowsError_of_BadText := su_RowsError_of_BadText,
    su_BadText_of_BadText := su_BadText_of_BadText,
    g_law_is := PySem.W.mg_of X G g_law_is,
    b_bool := PySem.W.mg_none_of X G b_bool,
    g_law_drawn := PySem.W.mg_of X G g_law_drawn,
    g_law_written := PySem.W.mg_of X G g_law_written,
    g_table_text := PySem.W.mg_of X G g_table_text,
    b_str := PySem.W.mg_none_of X G b_str,
    g_law_reads := PySem.W.mg_of X G g_law_reads,
    g_law_edited := PySem.W.mg_of X G g_law_edited,
    g_law_answers := PySem.W.mg_of X G g_law_answers,
    a_TableD_lenD := a_TableD_lenD,
    g_law := PySem.W.mg_of X G g_law,
    oex_BadTable := ⟨⟨_, _, _, _, _, _, _, _, _, _, _, _, _, _, _, xl_BadTable, xr_BadTable⟩, sa_BadTable, bx_BadTable, ty_BadTable, kc_BadTable⟩,
    oex_BadText := ⟨⟨_, _, _, _, _, _, _, _, _, _, _, _, _, _, _, xl_BadText, xr_BadText⟩, sa_BadText, bx_BadText, ty_BadText, kc_BadText⟩,
    tc_e_TableD_initD := fun cn F => tup_const z1_e_TableD_initD z3_e_TableD_initD z2_e_TableD_initD z5_e_TableD_initD z4_e_TableD_initD (fun F => Reps.nil) F }
  exact ⟨PySem.W.fnOf "law" "law" (defArgs s_law) (defBody s_law) (defScope s_law) .none kV_law dc_law pm_law an_law cd_law ct_law, fun s v => .of_eq rfl, fun base _ _ => law_sp (ok_law (base := base) FUEL T) pw⟩
theorem walk {l : PySem.W.OpenLaw} {q : Program} {loose : List Str} {XP : (Str → Option Value) → Heap → Prop} {YP : World → Heap → Prop} {d : DefRec} {K : Params → PySem.W.Frag} (hn : l.most = some 63) (hdf : d.params.defaults = [])
    (hY : ∀ (w : World) (h : Heap), YP w h → (K w.params).In h)
    (F : ∀ (w : World) (mg : Str → Option Value) (fa : Addr) (h : Heap), (K w.params).In h → h.Ns mainGlobals mg → mg d.name = some (.ref fa) →
      ∃ fd : FuncData, (∀ (s : Shared) (u : Value), BindsTo s fd ⟨[u], []⟩ [("script", u)]) ∧ ∀ base : Heap, (K w.params).In base → base.Ns mainGlobals mg → FnOk l.prog w (K w.params) mg base (L2.CX l.prog w) 7 fa fd ["script"] (spLaw (K w.params))) :
    PySem.W.WalkO q loose XP YP l.row.toRowW d [] (fun f vs => PySem.call f vs) :=
  L2.walk_of (n := 63) (k := 7) (x := "script") (CX := fun w => L2.CX l.prog w) (sp := fun w => spLaw (K w.params)) hn (by decide) hdf ⟨rfl, by decide, by decide⟩ hY F (fun _ _ a ns hl _ hS => ⟨a, ns, rfl, hS, hl, fun _ => rfl⟩) fun _ _ _ _ _ z => CX_false z
end K04
open PySem PySem.W PyProof.Rows
set_option maxRecDepth 100000 in
set_option maxHeartbeats 0 in
theorem PySem.Challenge.cw_unbrokenrows_k04_table_texts_holds : PySem.Challenge.rw_unbrokenrows_k04_table_texts.Holds := by
  w_on; o_law; k_head; (case hw => w_witness2)
  k_fill
  refine K04.walk (l := PySem.Challenge.rw_unbrokenrows_k04_table_texts) rfl rfl (fun w h Y => PySem.W.kIn_of Y) ?F
  case F =>
    intro w mg fa h KX G hmg
    refine' K04.all_mk K04.law_true KX G hmg ?g_is_name ?g_Table ?g_BadTable ?g_first_misnamed ?g_is_row ?g_common_names ?g_BadText ?g_law_cell ?g_law_pool ?g_law_word ?g_law_new ?g_law_marks ?g_law_lines_edited ?g_law_sign ?g_law_different ?g_law_described ?g_read_table ?g_Impossible ?g_Unknown ?g_RowsError ?g_law_is ?g_law_drawn ?g_law_written ?g_table_text ?g_law_reads ?g_law_edited ?g_law_answers ?g_law ?a_BadTableD_initD ?a_TableD_iterD ?a_BadTextD_initD ?a_TableD_initD ?a_TableD_eqD ?a_TableD_lenD ?l_is_name ?c_is_name ?k_is_name ?l_first_misnamed ?c_first_misnamed ?k_first_misnamed ?l_is_row ?c_is_row ?k_is_row ?l_common_names ?c_common_names ?k_common_names ?l_BadTableD_initD ?c_BadTableD_initD ?k_BadTableD_initD ?l_TableD_initD ?c_TableD_initD ?k_TableD_initD ?t1_TableD_initD ?t2_TableD_initD ?t3_TableD_initD ?l_TableD_iterD ?c_TableD_iterD ?k_TableD_iterD ?l_TableD_lenD ?c_TableD_lenD ?k_TableD_lenD ?l_TableD_eqD ?c_TableD_eqD ?k_TableD_eqD ?l_table_text ?c_table_text ?k_table_text ?l_BadTextD_initD ?c_BadTextD_initD ?k_BadTextD_initD ?l_read_table ?c_read_table ?k_read_table ?l_law_cell ?c_law_cell ?k_law_cell ?l_law_pool ?c_law_pool ?k_law_pool ?l_law_word ?c_law_word ?k_law_word ?l_law_new ?c_law_new ?k_law_new ?l_law_marks ?c_law_marks ?k_law_marks ?l_law_drawn ?c_law_drawn ?k_law_drawn ?l_law_written ?c_law_written ?k_law_written ?l_law_sign ?c_law_sign ?k_law_sign ?l_law_lines_edited ?c_law_lines_edited ?k_law_lines_edited ?l_law_edited ?c_law_edited ?k_law_edited ?l_law_different ?c_law_different ?k_law_different ?l_law_described ?c_law_described ?k_law_described ?l_law_is ?c_law_is ?k_law_is ?l_law_answers ?c_law_answers ?k_law_answers ?l_law_reads ?c_law_reads ?k_law_reads ?l_law ?c_law ?k_law ?xl_BadTable ?xr_BadTable ?xl_BadText ?xr_BadText ?z1_e_TableD_initD ?z2_e_TableD_initD ?z3_e_TableD_initD ?z4_e_TableD_initD ?z5_e_TableD_initD ?b_len ?b_LONGEST_NAME ?b_LETTERS ?b_all ?b_range ?rd_Table ?sga_Table ?cv_Table_MOST_COLUMNS ?bx_BadTable ?ty_BadTable ?kc_BadTable ?sa_BadTable ?tf_BadTableD_initD ?na_BadTable_part ?na_BadTable_index ?cv_Table_MOST_ROWS ?b_tuple ?pg_Table ?hd_Table ?po_Table ?sa_Table ?na_Table_columns ?na_Table_rows ?b_iter ?b_isinstance ?ic_Table ?ty_Table ?su_Table_NoneType ?su_Table_bool ?su_Table_int ?su_Table_str ?su_Table_list ?su_Table_tuple ?ha_Table ?hm_Table ?hn_get ?ht_get ?i_TableD_iterD ?bx_BadText ?ty_BadText ?kc_BadText ?sa_BadText ?tf_BadTextD_initD ?na_BadText_line ?mkc_Table ?kc_Table ?i_TableD_initD ?b_abs ?b_int ?b_list ?nf_Table ?i_TableD_eqD ?eg_BadText ?ek_BadText ?hd_BadText ?ha_BadText ?hm_BadText ?ic_Impossible ?ty_Impossible ?su_Impossible_of_BadText ?su_Impossible_of_Impossible ?ic_Unknown ?ty_Unknown ?su_Unknown_of_BadText ?su_Unknown_of_Unknown ?b_ValueError ?kt_BadText_ValueError ?ic_RowsError ?ty_RowsError ?su_RowsError_of_BadText ?su_BadText_of_BadText ?b_bool ?b_str
    (case g_is_name => k_is)
    (case g_Table => k_is)
    (case g_BadTable => k_is)
    (case g_first_misnamed => k_is)
    (case g_is_row => k_is)
    (case g_common_names => k_is)
    (case g_BadText => k_is)
    (case g_law_cell => k_is)
    (case g_law_pool => k_is)
    (case g_law_word => k_is)
    (case g_law_new => k_is)
    (case g_law_marks => k_is)
    (case g_law_lines_edited => k_is)
    (case g_law_sign => k_is)
    (case g_law_different => k_is)
    (case g_law_described => k_is)
    (case g_read_table => k_is)
    (case g_Impossible => k_is)
    (case g_Unknown => k_is)
    (case g_RowsError => k_is)
    (case g_law_is => k_is)
    (case g_law_drawn => k_is)
    (case g_law_written => k_is)
    (case g_table_text => k_is)
    (case g_law_reads => k_is)
    (case g_law_edited => k_is)
    (case g_law_answers => k_is)
    (case g_law => k_is)
    (case a_BadTableD_initD => k_is)
    (case a_TableD_iterD => k_is)
    (case a_BadTextD_initD => k_is)
    (case a_TableD_initD => k_is)
    (case a_TableD_eqD => k_is)
    (case a_TableD_lenD => k_is)
    (case l_is_name => k_is)
    (case c_is_name => k_is)
    (case k_is_name => k_is)
    (case l_first_misnamed => k_is)
    (case c_first_misnamed => k_is)
    (case k_first_misnamed => k_is)
    (case l_is_row => k_is)
    (case c_is_row => k_is)
    (case k_is_row => k_is)
    (case l_common_names => k_is)
    (case c_common_names => k_is)
    (case k_common_names => k_is)
    (case l_BadTableD_initD => k_is)
    (case c_BadTableD_initD => k_is)
    (case k_BadTableD_initD => k_is)
    (case l_TableD_initD => k_is)
    (case c_TableD_initD => k_is)
    (case k_TableD_initD => k_is)
    (case t1_TableD_initD => k_is)
    (case t2_TableD_initD => rfl)
    (case t3_TableD_initD => exact .cons rfl (.nil))
    (case l_TableD_iterD => k_is)
    (case c_TableD_iterD => k_is)
    (case k_TableD_iterD => k_is)
    (case l_TableD_lenD => k_is)
    (case c_TableD_lenD => k_is)
    (case k_TableD_lenD => k_is)
    (case l_TableD_eqD => k_is)
    (case c_TableD_eqD => k_is)
    (case k_TableD_eqD => k_is)
    (case l_table_text => k_is)
    (case c_table_text => k_is)
    (case k_table_text => k_is)
    (case l_BadTextD_initD => k_is)
    (case c_BadTextD_initD => k_is)
    (case k_BadTextD_initD => k_is)
    (case l_read_table => k_is)
    (case c_read_table => k_is)
    (case k_read_table => k_is)
    (case l_law_cell => k_is)
    (case c_law_cell => k_is)
    (case k_law_cell => k_is)
    (case l_law_pool => k_is)
    (case c_law_pool => k_is)
    (case k_law_pool => k_is)
    (case l_law_word => k_is)
    (case c_law_word => k_is)
    (case k_law_word => k_is)
    (case l_law_new => k_is)
    (case c_law_new => k_is)
    (case k_law_new => k_is)
    (case l_law_marks => k_is)
    (case c_law_marks => k_is)
    (case k_law_marks => k_is)
    (case l_law_drawn => k_is)
    (case c_law_drawn => k_is)
    (case k_law_drawn => k_is)
    (case l_law_written => k_is)
    (case c_law_written => k_is)
    (case k_law_written => k_is)
    (case l_law_sign => k_is)
    (case c_law_sign => k_is)
    (case k_law_sign => k_is)
    (case l_law_lines_edited => k_is)
    (case c_law_lines_edited => k_is)
    (case k_law_lines_edited => k_is)
    (case l_law_edited => k_is)
    (case c_law_edited => k_is)
    (case k_law_edited => k_is)
    (case l_law_different => k_is)
    (case c_law_different => k_is)
    (case k_law_different => k_is)
    (case l_law_described => k_is)
    (case c_law_described => k_is)
    (case k_law_described => k_is)
    (case l_law_is => k_is)
    (case c_law_is => k_is)
    (case k_law_is => k_is)
    (case l_law_answers => k_is)
    (case c_law_answers => k_is)
    (case k_law_answers => k_is)
    (case l_law_reads => k_is)
    (case c_law_reads => k_is)
    (case k_law_reads => k_is)
    (case l_law => k_is)
    (case c_law => k_is)
    (case k_law => k_is)
    (case xl_BadTable => k_is)
    (case xr_BadTable => decide +kernel)
    (case xl_BadText => k_is)
    (case xr_BadText => decide +kernel)
    (case z1_e_TableD_initD => k_is)
    (case z2_e_TableD_initD => rfl)
    (case z3_e_TableD_initD => rfl)
    (case z4_e_TableD_initD => exact .nil)
    (case z5_e_TableD_initD => exact Nat.le_of_ble_eq_true rfl)
    (case b_len => k_is)
    (case b_LONGEST_NAME => k_is)
    (case b_LETTERS => k_is)
    (case b_all => k_is)
    (case b_range => k_is)
    (case rd_Table => k_is)
    (case sga_Table => k_is)
    (case cv_Table_MOST_COLUMNS => k_is)
    (case bx_BadTable => k_is)
    (case ty_BadTable => k_is)
    (case kc_BadTable => k_is)
    (case sa_BadTable => k_is)
    (case tf_BadTableD_initD => k_is)
    (case na_BadTable_part => k_is)
    (case na_BadTable_index => k_is)
    (case cv_Table_MOST_ROWS => k_is)
    (case b_tuple => k_is)
    (case pg_Table => k_is)
    (case hd_Table => k_is)
    (case po_Table => k_is)
    (case sa_Table => k_is)
    (case na_Table_columns => k_is)
    (case na_Table_rows => k_is)
    (case b_iter => k_is)
    (case b_isinstance => k_is)
    (case ic_Table => k_is)
    (case ty_Table => k_is)
    (case su_Table_NoneType => k_is)
    (case su_Table_bool => k_is)
    (case su_Table_int => k_is)
    (case su_Table_str => k_is)
    (case su_Table_list => k_is)
    (case su_Table_tuple => k_is)
    (case ha_Table => k_is)
    (case hm_Table => k_is)
    (case hn_get => k_is)
    (case ht_get => k_is)
    (case i_TableD_iterD => k_is)
    (case bx_BadText => k_is)
    (case ty_BadText => k_is)
    (case kc_BadText => k_is)
    (case sa_BadText => k_is)
    (case tf_BadTextD_initD => k_is)
    (case na_BadText_line => k_is)
    (case mkc_Table => k_is)
    (case kc_Table => k_is)
    (case i_TableD_initD => k_is)
    (case b_abs => k_is)
    (case b_int => k_is)
    (case b_list => k_is)
    (case nf_Table => k_is)
    (case i_TableD_eqD => k_is)
    (case eg_BadText => k_is)
    (case ek_BadText => k_is)
    (case hd_BadText => k_is)
    (case ha_BadText => k_is)
    (case hm_BadText => k_is)
    (case ic_Impossible => k_is)
    (case ty_Impossible => k_is)
    (case su_Impossible_of_BadText => k_is)
    (case su_Impossible_of_Impossible => k_is)
    (case ic_Unknown => k_is)
    (case ty_Unknown => k_is)
    (case su_Unknown_of_BadText => k_is)
    (case su_Unknown_of_Unknown => k_is)
    (case b_ValueError => k_is)
    (case kt_BadText_ValueError => k_is)
    (case ic_RowsError => k_is)
    (case ty_RowsError => k_is)
    (case su_RowsError_of_BadText => k_is)
    (case su_BadText_of_BadText => k_is)
    (case b_bool => k_is)
    (case b_str => k_is)

